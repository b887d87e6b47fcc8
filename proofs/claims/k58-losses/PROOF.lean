import PyProof.Rows.All
import Wide.All
import OpenK.AllK
import Wide.FinOn
import HandS.Base
import HandS.Call
import HandS.List
import HandS.Comp
import HandS.Dict
import HandS.Iter
import HandS.Text
import HandS.More
import HandS.Exc
import HandS.Slots
import KE.KIsNot
import KE.KIsAll
import HandS.Wide
import HandS.TupAny
import KE.DataEq
import HandS.TryOnly
import HandS.Words
import HandS.Defaults
import HandS.Ends
import HandS.HeadEnd
import HandS.TupMul
import HandS.WordsDict
import HandS.RaiseMore
import KE.GoesNew
import KE.GoesEnum
import PyProof.ReprLen
import HandS.Star
import HandS.Deep
import HandS.SetFor
import HandS.Zip
import HandS.Style
import KE.KIndexOf
import HandS.IsInst
import HandS.DictComp
import HandS.SlotsOwn
import HandS.Head0
import HandS.Head1
import HandS.Head2
import HandS.HeadHook1
import HandS.HeadHook2
import HandS.HeadHook3
import HandS.HeadHook4
import HandS.Conv
import PyProof.EnumMake
import KE.KDictDisplayH
import KE.KRevSl
import KE.KDictList
import HandS.Flow
import HandS.DictEq
import HandS.ExcInit
import HandS.ExcField
import HandS.ExcOwn
import KE.KExcSuper
import KE.KExcRaise
import HandS.TryMany
import KE.KStateDown
import PySem.Challenge.RW_saidearly_k58_rests_and_losses_of_script
set_option Elab.async false
set_option linter.all false
set_option maxRecDepth 100000
set_option maxHeartbeats 0
namespace Y
open PySem PySem.Spec PyProof.Rows L2

inductive EV where
  | non | bl (b : Bool) | int (i : Int) | str (s : List Nat) | tup (xs : List EV) | ktup (xs : List EV) | ref (r : Nat) | adr (a : Addr) | ty (n : String)
inductive EO where
  | lst (xs : List EV) | frz (xs : List EV) | dic (kvs : List (EV × EV)) | dct (kvs : List (EV × EV)) | ins (C : Addr) (fs : List (Str × EV)) | slo (C : Addr) (vs : List (Option EV)) | dlk (o : Obj) (l : List (L2.Key × V)) (kvs : List (EV × EV)) | xob (fs : List (Str × EV)) | mark (m : Nat → Addr) (n : Nat) (H : Hp) | gone
abbrev En := List (Option EV)
abbrev EH := List EO
abbrev EK := EV → EH → Prop
abbrev LT := En → EH → EK → Prop
abbrev S (l : List Nat) : Str := ⟨l.toArray⟩

def NoTup (u : HO) : Prop := (∀ xs, u ≠ .tup xs) ∧ (∀ q xs, u ≠ .frz q (.tup xs)) ∧ (∀ q xs, u ≠ .frz q (.lst xs)) ∧ (∀ l, u ≠ .xd l) ∧ ∀ y, u ≠ .own y
def FrzL (K : PySem.W.Frag) (H : Hp) (a : Addr) (xs : List V) : Prop := (∃ o, H a = some (.frz o (.lst xs))) ∨
  ∃ (o : Obj) (its : Array Value) (n : Nat), K.lookup a = some o ∧ o.cls = .type "list" ∧ o.dict = none ∧ o.data = .seq its n ∧ its.size ≤ sizeLine ∧ Vals xs its.toList
theorem FrzL.sql {K : PySem.W.Frag} {H : Hp} {a : Addr} {xs : List V} (h : FrzL K H a xs) : SqL K H a xs := by
  rcases h with ⟨o, h⟩ | h
  · exact .inl (.inr ⟨o, h⟩)
  · exact .inr h
def isF : EO → Bool
  | .frz _ => true
  | .xob _ => true
  | .mark .. => true
  | _ => false
def keysL : List EV → Option (List L2.Key)
  | [] => some []
  | .int i :: r => (keysL r).map (Sum.inl i :: ·)
  | .str s :: r => (keysL r).map (Sum.inr (S s) :: ·)
  | _ => none
def keyL : EV → Option (List L2.Key)
  | .tup ks => keysL ks
  | _ => none
structure Ex (K : PySem.W.Frag) (m : Nat → Addr) (n : Nat) (H : Hp) (m' : Nat → Addr) (n' : Nat) (H' : Hp) : Prop where
  le : n ≤ n'
  eq : ∀ r, r < n → m' r = m r
  tup : ∀ a xs, SqT K H a xs → SqT K H' a xs
  tk : ∀ a xs, H a = some (.tup xs) → H' a = some (.tup xs)

structure IsiOk (K : PySem.W.Frag) (C : Addr) : Prop where
  pg : PySem.W.plainGet K C "__class__" = true
  ic : PySem.W.isClsIn K C = true
  cl : PySem.W.findIn K (.ref C) "__class__" = some (some (.builtin "object.__class__"))
  gt : PySem.W.specialIn K (.builtin "object.__class__") "__get__" = some (some (.builtin "getset_descriptor.__get__"))
  tk : PySem.W.takesIn K (.builtin "object.__class__") = some true
  mo : PySem.W.mroIn K C (.type "object") = some true
  ty : ∀ T ∈ ["int", "bool", "str", "tuple", "dict", "list"], PySem.W.kitOne K (.ref C) (.type T) = some false
section rel
variable (K : PySem.W.Frag) (m : Nat → Addr) (n : Nat) (H : Hp)
mutual
def RelE : EV → V → Prop
  | .non, v => v = .non
  | .bl b, v => v = .bl b
  | .int i, v => v = .int i
  | .str s, v => v = .str (S s)
  | .tup xs, v => ∃ a vs, v = .ref a ∧ H a = some (.tup vs) ∧ RelEs xs vs
  | .ktup xs, v => ∃ a vs, v = .ref a ∧ SqT K H a vs ∧ RelEs xs vs
  | .ref r, v => r < n ∧ v = .ref (m r)
  | .adr a, v => v = .ref a
  | .ty t, v => v = .ty t
def RelEs : List EV → List V → Prop
  | [], vs => vs = []
  | x :: xs, vs => ∃ v r, vs = v :: r ∧ RelE x v ∧ RelEs xs r
end
def RelKV : List (EV × EV) → List (L2.Key × V) → Prop
  | [], l => l = []
  | (k, x) :: r, l => ∃ k' v l', l = (k', v) :: l' ∧ RelE K m n H k (kV k') ∧ RelE K m n H x v ∧ RelKV r l'
def RelKT : List (EV × EV) → List (List L2.Key × V) → Prop
  | [], l => l = []
  | (k, x) :: r, l => ∃ k' v l', l = (k', v) :: l' ∧ keyL k = some k' ∧ RelE K m n H x v ∧ RelKT r l'
def RelFs : List (Str × EV) → List (Str × V) → Prop
  | [], l => l = []
  | (f, x) :: r, l => ∃ v l', l = (f, v) :: l' ∧ RelE K m n H x v ∧ RelFs r l'
def RelO : EO → Addr → Prop
  | .lst xs, a => ∃ vs, H a = some (.lst vs) ∧ RelEs K m n H xs vs
  | .frz xs, a => ∃ vs, FrzL K H a vs ∧ RelEs K m n H xs vs
  | .dic kvs, a => ∃ l, H a = some (.dK l) ∧ RelKV K m n H kvs l
  | .dct kvs, a => ∃ l, H a = some (.dT l) ∧ RelKT K m n H kvs l
  | .ins C fs, a => ∃ dx l, H a = some (.ins C dx l) ∧ RelFs K m n H fs l
  | .slo C vs, a => IsiOk K C ∧ ∃ dx ws, SlX.Slt H a C dx ws ∧ dx ≠ a ∧ (H dx = some (.own a) ∨ H dx = some (.xd [])) ∧ ∀ (i : Nat) (v : EV), vs[i]? = some (some v) → ∃ w, ws[i]? = some (some w) ∧ RelE K m n H v w
  | .dlk o l kvs, a => H a = some (.frz o (.dK l)) ∧ RelKV K m n H kvs l
  | .xob fs, a => ∃ l, H a = some (.xd l) ∧ RelFs K m n H fs l
  | .mark m0 n0 H0, _ => Ex K m0 n0 H0 m n H
  | .gone, a => ∃ o, H a = some o ∧ NoTup o
end rel
structure RelH (K : PySem.W.Frag) (m : Nat → Addr) (h : EH) (H : Hp) : Prop where
  obj : ∀ r o, h[r]? = some o → RelO K m h.length H o (m r)
  inj : ∀ r q o u, h[r]? = some o → h[q]? = some u → isF o = false → isF u = false → m r = m q → r = q
def RelN (K : PySem.W.Frag) (m : Nat → Addr) (n : Nat) (H : Hp) (env : En) (σ : L2.St) : Prop :=
  env.length = σ.length ∧ ∀ (i : Nat) (v : EV), env[i]? = some (some v) → ∃ x, σ[i]? = some (some x) ∧ RelE K m n H v x
section
variable {K : PySem.W.Frag} {m m' m2 : Nat → Addr} {n n' n2 : Nat} {H H' H2 : Hp}
theorem Ex.refl : Ex K m n H m n H := ⟨Nat.le_refl _, fun _ _ => rfl, fun _ _ h => h, fun _ _ h => h⟩
theorem Ex.trans (a : Ex K m n H m' n' H') (b : Ex K m' n' H' m2 n2 H2) : Ex K m n H m2 n2 H2 :=
  ⟨Nat.le_trans a.le b.le, fun r h => (b.eq r (Nat.lt_of_lt_of_le h a.le)).trans (a.eq r h), fun x xs h => b.tup x xs (a.tup x xs h), fun x xs h => b.tk x xs (a.tk x xs h)⟩
mutual
theorem RelE.ex (E : Ex K m n H m' n' H') : ∀ (e : EV) (v : V), RelE K m n H e v → RelE K m' n' H' e v
  | .non, v, h => by rw [RelE] at h ⊢; exact h
  | .bl _, v, h => by rw [RelE] at h ⊢; exact h
  | .int _, v, h => by rw [RelE] at h ⊢; exact h
  | .str _, v, h => by rw [RelE] at h ⊢; exact h
  | .adr _, v, h => by rw [RelE] at h ⊢; exact h
  | .ty _, v, h => by rw [RelE] at h ⊢; exact h
  | .ref r, v, h => by
    rw [RelE] at h ⊢
    exact ⟨Nat.lt_of_lt_of_le h.1 E.le, by rw [E.eq r h.1]; exact h.2⟩
  | .tup xs, v, h => by
    rw [RelE] at h ⊢
    obtain ⟨a, vs, e, q, r⟩ := h
    exact ⟨a, vs, e, E.tk a vs q, RelEs.ex E xs vs r⟩
  | .ktup xs, v, h => by
    rw [RelE] at h ⊢
    obtain ⟨a, vs, e, q, r⟩ := h
    exact ⟨a, vs, e, E.tup a vs q, RelEs.ex E xs vs r⟩
theorem RelEs.ex (E : Ex K m n H m' n' H') : ∀ (es : List EV) (vs : List V), RelEs K m n H es vs → RelEs K m' n' H' es vs
  | [], vs, h => by rw [RelEs] at h ⊢; exact h
  | x :: xs, vs, h => by
    rw [RelEs] at h ⊢
    obtain ⟨v, r, e, q, t⟩ := h
    exact ⟨v, r, e, RelE.ex E x v q, RelEs.ex E xs r t⟩
end
theorem RelKV.ex (E : Ex K m n H m' n' H') : ∀ (l : List (EV × EV)) (l' : List (L2.Key × V)), RelKV K m n H l l' → RelKV K m' n' H' l l'
  | [], l', h => h
  | (k, x) :: r, l', h => by
    obtain ⟨k', v, l2, e, a, b, c⟩ := h
    exact ⟨k', v, l2, e, RelE.ex E _ _ a, RelE.ex E _ _ b, RelKV.ex E r l2 c⟩
theorem RelKT.ex (E : Ex K m n H m' n' H') : ∀ (l : List (EV × EV)) (l' : List (List L2.Key × V)), RelKT K m n H l l' → RelKT K m' n' H' l l'
  | [], l', h => h
  | (k, x) :: r, l', h => by
    obtain ⟨k', v, l2, e, a, b, c⟩ := h
    exact ⟨k', v, l2, e, a, RelE.ex E _ _ b, RelKT.ex E r l2 c⟩
theorem RelFs.ex (E : Ex K m n H m' n' H') : ∀ (l : List (Str × EV)) (l' : List (Str × V)), RelFs K m n H l l' → RelFs K m' n' H' l l'
  | [], l', h => h
  | (k, x) :: r, l', h => by
    obtain ⟨v, l2, e, b, c⟩ := h
    exact ⟨v, l2, e, RelE.ex E _ _ b, RelFs.ex E r l2 c⟩
theorem RelN.ex (E : Ex K m n H m' n' H') {env : En} {σ : L2.St} (R : RelN K m n H env σ) : RelN K m' n' H' env σ :=
  ⟨R.1, fun i v h => let ⟨x, a, b⟩ := R.2 i v h; ⟨x, a, RelE.ex E _ _ b⟩⟩
theorem RelO.ex (E : Ex K m n H m' n' H') {o : EO} {a : Addr} (he : H' a = H a) (hx : ∀ b, (H b = some (.xd []) → H' b = some (.xd [])) ∧ (H b = some (.own a) → H' b = some (.own a))) (R : RelO K m n H o a) : RelO K m' n' H' o a := by
  cases o with
  | lst xs => obtain ⟨vs, e, r⟩ := R; exact ⟨vs, he.trans e, RelEs.ex E _ _ r⟩
  | frz xs =>
    obtain ⟨vs, e, r⟩ := R
    refine ⟨vs, ?_, RelEs.ex E _ _ r⟩
    rcases e with ⟨o, e⟩ | e
    · exact .inl ⟨o, he.trans e⟩
    · exact .inr e
  | dic xs => obtain ⟨vs, e, r⟩ := R; exact ⟨vs, he.trans e, RelKV.ex E _ _ r⟩
  | dct xs => obtain ⟨vs, e, r⟩ := R; exact ⟨vs, he.trans e, RelKT.ex E _ _ r⟩
  | ins C fs => obtain ⟨dx, vs, e, r⟩ := R; exact ⟨dx, vs, he.trans e, RelFs.ex E _ _ r⟩
  | xob fs => obtain ⟨l, e, r⟩ := R; exact ⟨l, he.trans e, RelFs.ex E _ _ r⟩
  | mark m0 n0 H0 => exact Ex.trans R E
  | slo C fs =>
    obtain ⟨io, dx, ws, e, ne, hd, r⟩ := R
    refine ⟨io, dx, ws, ?_, ne, hd.imp (hx _).2 (hx _).1, fun i v q => let ⟨w, a, b⟩ := r i v q; ⟨w, a, RelE.ex E _ _ b⟩⟩
    rcases e with ⟨e, z⟩ | ⟨e, z⟩
    · exact .inl ⟨he.trans e, z⟩
    · exact .inr ⟨he.trans e, (hx _).1 z⟩
  | dlk o l xs => obtain ⟨e, r⟩ := R; exact ⟨he.trans e, RelKV.ex E _ _ r⟩
  | gone => obtain ⟨o, e, r⟩ := R; exact ⟨o, he.trans e, r⟩
theorem RelO.there {o : EO} {a : Addr} (R : RelO K m n H o a) (hf : isF o = false) : ∃ u, H a = some u ∧ NoTup u := by
  cases o with
  | lst xs => obtain ⟨vs, e, r⟩ := R; exact ⟨_, e, fun _ z => (nomatch z), fun _ _ z => (nomatch z), fun _ _ z => (nomatch z), fun _ z => (nomatch z), fun _ z => nomatch z⟩
  | frz xs => cases hf
  | dic xs => obtain ⟨vs, e, r⟩ := R; exact ⟨_, e, fun _ z => (nomatch z), fun _ _ z => (nomatch z), fun _ _ z => (nomatch z), fun _ z => (nomatch z), fun _ z => nomatch z⟩
  | dct xs => obtain ⟨vs, e, r⟩ := R; exact ⟨_, e, fun _ z => (nomatch z), fun _ _ z => (nomatch z), fun _ _ z => (nomatch z), fun _ z => (nomatch z), fun _ z => nomatch z⟩
  | ins C fs => obtain ⟨dx, vs, e, r⟩ := R; exact ⟨_, e, fun _ z => (nomatch z), fun _ _ z => (nomatch z), fun _ _ z => (nomatch z), fun _ z => (nomatch z), fun _ z => nomatch z⟩
  | xob fs => cases hf
  | mark m0 n0 H0 => cases hf
  | slo C fs =>
    obtain ⟨_, dx, ws, e, _, _, r⟩ := R
    rcases e with ⟨e, z⟩ | ⟨e, z⟩
    · exact ⟨_, e, fun _ z => (nomatch z), fun _ _ z => (nomatch z), fun _ _ z => (nomatch z), fun _ z => (nomatch z), fun _ z => nomatch z⟩
    · refine ⟨_, e, ?_⟩
      unfold SlX.SlO
      exact ⟨fun _ z => (nomatch z), fun _ _ z => (nomatch z), fun _ _ z => (nomatch z), fun _ z => (nomatch z), fun _ z => nomatch z⟩
  | dlk o l xs => obtain ⟨e, r⟩ := R; exact ⟨_, e, fun _ z => (nomatch z), fun _ _ z => (by cases z), fun _ _ z => (by cases z), fun _ z => (nomatch z), fun _ z => nomatch z⟩
  | gone => obtain ⟨o, e, r⟩ := R; exact ⟨o, e, r⟩
theorem RelO.off (E : Ex K m n H m' n' H') {o : EO} {a p : Addr} (R : RelO K m n H o a) (hp : ∀ u, H p = some u → NoTup u) (h : isF o = false → a ≠ p) (he : a ≠ p → H' a = H a) (hx : ∀ b, (H b = some (.xd []) → H' b = some (.xd [])) ∧ (H b = some (.own a) → H' b = some (.own a))) : RelO K m' n' H' o a := by
  by_cases z : a = p
  · subst z
    cases o with
    | frz xs =>
      obtain ⟨vs, e, r⟩ := R
      refine ⟨vs, ?_, RelEs.ex E _ _ r⟩
      rcases e with ⟨o, e⟩ | e
      · exact absurd rfl ((hp _ e).2.2.1 o vs)
      · exact .inr e
    | xob fs =>
      obtain ⟨l, e, r⟩ := R
      exact absurd rfl ((hp _ e).2.2.2.1 l)
    | mark m0 n0 H0 => exact Ex.trans R E
    | _ => exact absurd rfl (h rfl)
  · exact R.ex E (he z) hx
theorem RelEs.length : ∀ {es : List EV} {vs : List V}, RelEs K m n H es vs → es.length = vs.length
  | [], vs, h => by rw [RelEs] at h; subst h; rfl
  | x :: xs, vs, h => by
    rw [RelEs] at h
    obtain ⟨v, r, e, _, t⟩ := h
    subst e
    simp [RelEs.length t]
theorem RelEs.at : ∀ {es : List EV} {vs : List V} {i : Nat} {x : EV}, RelEs K m n H es vs → es[i]? = some x → ∃ v, vs[i]? = some v ∧ RelE K m n H x v
  | [], vs, i, x, h, e => by simp at e
  | y :: ys, vs, 0, x, h, e => by
    rw [RelEs] at h
    obtain ⟨v, r, rfl, q, t⟩ := h
    simp at e; subst e
    exact ⟨v, rfl, q⟩
  | y :: ys, vs, i + 1, x, h, e => by
    rw [RelEs] at h
    obtain ⟨v, r, rfl, q, t⟩ := h
    obtain ⟨u, a, b⟩ := RelEs.at (i := i) (x := x) t (by simpa using e)
    exact ⟨u, by simpa using a, b⟩
theorem RelEs.app : ∀ {es fs : List EV} {vs us : List V}, RelEs K m n H es vs → RelEs K m n H fs us → RelEs K m n H (es ++ fs) (vs ++ us)
  | [], fs, vs, us, h, g => by rw [RelEs] at h; subst h; exact g
  | y :: ys, fs, vs, us, h, g => by
    rw [RelEs] at h
    obtain ⟨v, r, rfl, q, t⟩ := h
    rw [List.cons_append, List.cons_append, RelEs]
    exact ⟨v, r ++ us, rfl, q, RelEs.app t g⟩
theorem RelEs.nil : RelEs K m n H [] [] := by rw [RelEs]
theorem RelEs.cons {x : EV} {v : V} {xs : List EV} {vs : List V} (a : RelE K m n H x v) (b : RelEs K m n H xs vs) : RelEs K m n H (x :: xs) (v :: vs) := by
  rw [RelEs]; exact ⟨v, vs, rfl, a, b⟩
theorem RelEs.one {x : EV} {v : V} (a : RelE K m n H x v) : RelEs K m n H [x] [v] := .cons a .nil
theorem RelEs.take : ∀ {es : List EV} {vs : List V} (k : Nat), RelEs K m n H es vs → RelEs K m n H (es.take k) (vs.take k)
  | _, _, 0, _ => by simpa using RelEs.nil
  | [], vs, k + 1, h => by rw [RelEs] at h; subst h; simpa using RelEs.nil
  | y :: ys, vs, k + 1, h => by
    rw [RelEs] at h
    obtain ⟨v, r, rfl, q, t⟩ := h
    rw [List.take_succ_cons, List.take_succ_cons]
    exact .cons q (RelEs.take k t)
theorem RelEs.drop : ∀ {es : List EV} {vs : List V} (k : Nat), RelEs K m n H es vs → RelEs K m n H (es.drop k) (vs.drop k)
  | _, _, 0, h => by simpa using h
  | [], vs, k + 1, h => by rw [RelEs] at h; subst h; simpa using RelEs.nil
  | y :: ys, vs, k + 1, h => by
    rw [RelEs] at h
    obtain ⟨v, r, rfl, q, t⟩ := h
    rw [List.drop_succ_cons, List.drop_succ_cons]
    exact RelEs.drop k t
theorem RelEs.set {x : EV} {v : V} (a : RelE K m n H x v) : ∀ {es : List EV} {vs : List V} (k : Nat), RelEs K m n H es vs → RelEs K m n H (es.set k x) (vs.set k v)
  | [], vs, k, h => by rw [RelEs] at h; subst h; simpa using RelEs.nil
  | y :: ys, vs, 0, h => by
    rw [RelEs] at h
    obtain ⟨w, r, rfl, q, t⟩ := h
    exact .cons a t
  | y :: ys, vs, k + 1, h => by
    rw [RelEs] at h
    obtain ⟨w, r, rfl, q, t⟩ := h
    exact .cons q (RelEs.set a k t)
theorem RelEs.reverse : ∀ {es : List EV} {vs : List V}, RelEs K m n H es vs → RelEs K m n H es.reverse vs.reverse
  | [], vs, h => by rw [RelEs] at h; subst h; simpa using RelEs.nil
  | y :: ys, vs, h => by
    rw [RelEs] at h
    obtain ⟨w, r, rfl, q, t⟩ := h
    rw [List.reverse_cons, List.reverse_cons]
    exact RelEs.app (RelEs.reverse t) (.one q)

theorem sqT_upd {a p : Addr} {xs : List V} {o : HO} (h : SqT K H a xs) (hp : ∀ u, H p = some u → NoTup u) : SqT K (upd H p o) a xs := by
  rcases h with h | h
  · refine .inl ?_
    have ne : a ≠ p := by
      rintro rfl
      rcases h with h | ⟨q, h⟩
      · exact (hp _ h).1 _ rfl
      · exact (hp _ h).2.1 _ _ rfl
    rcases h with h | ⟨q, h⟩
    · exact .inl (by rw [upd_ne ne]; exact h)
    · exact .inr ⟨q, by rw [upd_ne ne]; exact h⟩
  · exact .inr h
theorem upd_xd {p a : Addr} {o : HO} (hp : ∀ u, H p = some u → NoTup u) : ∀ b, (H b = some (.xd []) → upd H p o b = some (.xd [])) ∧ (H b = some (.own a) → upd H p o b = some (.own a)) := fun b => by
  refine ⟨fun e => ?_, fun e => ?_⟩
  · have ne : b ≠ p := by
      rintro rfl
      exact (hp _ e).2.2.2.1 _ rfl
    rw [upd_ne ne]; exact e
  · have ne : b ≠ p := by
      rintro rfl
      exact (hp _ e).2.2.2.2 _ rfl
    rw [upd_ne ne]; exact e
theorem free_no {p : Addr} (hp : H p = none) : ∀ u, H p = some u → NoTup u := fun u e => by rw [hp] at e; cases e
theorem tk_upd {a p : Addr} {xs : List V} {o : HO} (h : H a = some (.tup xs)) (hp : ∀ u, H p = some u → NoTup u) : upd H p o a = some (.tup xs) := by
  have ne : a ≠ p := by
    rintro rfl
    exact (hp _ h).1 _ rfl
  rw [upd_ne ne]; exact h
theorem Ex.tup1 {p : Addr} {o : HO} (hp : H p = none) : Ex K m n H m n (upd H p o) :=
  ⟨Nat.le_refl _, fun _ _ => rfl, fun a xs h => sqT_upd h (free_no hp), fun a xs h => tk_upd h (free_no hp)⟩
theorem RelH.tup {h : EH} {p : Addr} {o : HO} (R : RelH K m h H) (hp : H p = none) : RelH K m h (upd H p o) := by
  refine ⟨fun r e hr => ?_, R.inj⟩
  have q := R.obj r e hr
  refine q.off (Ex.tup1 hp) (free_no hp) (fun hf => ?_) (fun z => upd_ne z) (upd_xd (free_no hp))
  obtain ⟨u, hu, _⟩ := q.there hf
  exact ne_of_none hu hp
def mput (m : Nat → Addr) (n : Nat) (p : Addr) : Nat → Addr := fun r => if r = n then p else m r
theorem mput_lt {p : Addr} {r : Nat} (h : r < n) : mput m n p r = m r := if_neg (Nat.ne_of_lt h)
theorem mput_at {p : Addr} : mput m n p n = p := if_pos rfl
theorem Ex.new {h : EH} {p : Addr} {o : HO} {e : EO} (hp : H p = none) : Ex K m h.length H (mput m h.length p) (h ++ [e]).length (upd H p o) :=
  ⟨by simp, fun r hr => mput_lt hr, fun a xs q => sqT_upd q (free_no hp), fun a xs q => tk_upd q (free_no hp)⟩
theorem app_cases {h : EH} {e u : EO} {r : Nat} (hr : (h ++ [e])[r]? = some u) : (r < h.length ∧ h[r]? = some u) ∨ (r = h.length ∧ u = e) := by
  by_cases q : r < h.length
  · rw [List.getElem?_append_left q] at hr
    exact .inl ⟨q, hr⟩
  · rw [List.getElem?_append_right (by omega)] at hr
    have : r - h.length = 0 := by
      have := (List.getElem?_eq_some_iff.mp hr).1
      simp at this; omega
    rw [this] at hr
    simp at hr
    exact .inr ⟨by omega, hr.symm⟩
theorem RelH.new {h : EH} {p : Addr} {o : HO} {e : EO} (R : RelH K m h H) (hp : H p = none)
    (new : RelO K (mput m h.length p) (h ++ [e]).length (upd H p o) e p) : RelH K (mput m h.length p) (h ++ [e]) (upd H p o) := by
  have there : ∀ r u, h[r]? = some u → isF u = false → m r ≠ p := fun r u hr hf => by
    obtain ⟨w, hw, _⟩ := (R.obj r u hr).there hf
    exact ne_of_none hw hp
  refine ⟨fun r u hr => ?_, fun r q u v hr hq fu fv z => ?_⟩
  · rcases app_cases hr with ⟨q, hr⟩ | ⟨rfl, rfl⟩
    · rw [mput_lt q]
      exact (R.obj r u hr).off (Ex.new hp) (free_no hp) (there r u hr) (fun z => upd_ne z) (upd_xd (free_no hp))
    · rw [mput_at]; exact new
  · rcases app_cases hr with ⟨a, hr'⟩ | ⟨a, a'⟩ <;> rcases app_cases hq with ⟨b, hq'⟩ | ⟨b, b'⟩
    · rw [mput_lt a, mput_lt b] at z; exact R.inj r q u v hr' hq' fu fv z
    · rw [b, mput_lt a, mput_at] at z; exact absurd z (there r u hr' fu)
    · rw [a, mput_lt b, mput_at] at z; exact absurd z.symm (there q v hq' fv)
    · rw [a, b]
theorem RelH.tops {h : EH} {r : Nat} {e : EO} (R : RelH K m h H) (hr : h[r]? = some e) (hf : isF e = false := by rfl) : ∀ u, H (m r) = some u → NoTup u := fun u z => by
  obtain ⟨w, hw, nt⟩ := (R.obj r e hr).there hf
  rw [hw] at z; cases z; exact nt
theorem Ex.write {h : EH} {r : Nat} {o : HO} {e e' : EO} (R : RelH K m h H) (hr : h[r]? = some e) (hf : isF e = false := by rfl) : Ex K m h.length H m (h.set r e').length (upd H (m r) o) :=
  ⟨by simp, fun _ _ => rfl, fun a xs q => sqT_upd q (R.tops hr hf), fun a xs q => tk_upd q (R.tops hr hf)⟩
theorem RelH.write {h : EH} {r : Nat} {o : HO} {e e' : EO} (R : RelH K m h H) (hr : h[r]? = some e)
    (new : RelO K m (h.set r e').length (upd H (m r) o) e' (m r)) (hf : isF e = false := by rfl) : RelH K m (h.set r e') (upd H (m r) o) := by
  have hlt := (List.getElem?_eq_some_iff.mp hr).1
  have set_cases : ∀ {q : Nat} {u : EO}, (h.set r e')[q]? = some u → (q = r ∧ u = e') ∨ (q ≠ r ∧ h[q]? = some u) := fun {q u} hq => by
    by_cases z : r = q
    · subst z
      rw [List.getElem?_set_self hlt] at hq
      cases hq
      exact .inl ⟨rfl, rfl⟩
    · rw [List.getElem?_set_ne z] at hq
      exact .inr ⟨fun y => z y.symm, hq⟩
  refine ⟨fun q u hq => ?_, fun q p u v hq hp fu fv z => ?_⟩
  · rcases set_cases hq with ⟨rfl, rfl⟩ | ⟨z, hq⟩
    · exact new
    · exact (R.obj q u hq).off (Ex.write R hr hf) (R.tops hr hf) (fun fu y => z (R.inj q r u e hq hr fu hf y)) (fun y => upd_ne y) (upd_xd (R.tops hr hf))
  · rcases set_cases hq with ⟨a, a'⟩ | ⟨a, hq'⟩ <;> rcases set_cases hp with ⟨b, b'⟩ | ⟨b, hp'⟩
    · rw [a, b]
    · rw [a] at z; exact absurd (R.inj p r v e hp' hr fv hf z.symm) b
    · rw [b] at z; exact absurd (R.inj q r u e hq' hr fu hf z) a
    · exact R.inj q p u v hq' hp' fu fv z

def Kon (K : PySem.W.Frag) (m : Nat → Addr) (n : Nat) (H : Hp) (P : EK) (Q : VK) : Prop :=
  ∀ v h', P v h' → ∀ (m' : Nat → Addr) (H' : Hp) (x : V), Ex K m n H m' h'.length H' → RelH K m' h' H' → RelE K m' h'.length H' v x → Q x H'
theorem Kon.ex {P : EK} {Q : VK} (E : Ex K m n H m' n' H') (k : Kon K m n H P Q) : Kon K m' n' H' P Q := fun v h' p m2 H2 x E2 R r => k v h' p m2 H2 x (E.trans E2) R r
structure At (K : PySem.W.Frag) (env : En) (h : EH) (m : Nat → Addr) (σ : L2.St) (H : Hp) : Prop where
  hp : RelH K m h H
  nm : RelN K m h.length H env σ
theorem At.ex {env : En} {h h' : EH} {σ : L2.St} (a : At K env h m σ H) (E : Ex K m h.length H m' h'.length H') (R : RelH K m' h' H') : At K env h' m' σ H' := ⟨R, a.nm.ex E⟩
def up (K : PySem.W.Frag) (t : LT) : TE := fun σ H Q => ∃ m env h P, At K env h m σ H ∧ t env h P ∧ Kon K m h.length H P Q
structure LE (X : Cx) (e : Expr) (t : LT) : Prop where
  pe : PE X e (up X.K t)
abbrev LTt := En → EH → (Bool → EH → Prop) → Prop
def upT (K : PySem.W.Frag) (t : LTt) : TT := fun σ H Q => ∃ m env h P, At K env h m σ H ∧ t env h P ∧
  ∀ b h', P b h' → ∀ (m' : Nat → Addr) (H' : Hp), Ex K m h.length H m' h'.length H' → RelH K m' h' H' → Q b H'
structure LTe (X : Cx) (e : Expr) (t : LTt) : Prop where
  pt : PT X e (upT X.K t)
structure LWe (X : Cx) (e : Expr) (t : LTt) : Prop where
  pw : PW X e (upT X.K t)
abbrev LA := En → EH → (List EV → EH → Prop) → Prop
def KonA (K : PySem.W.Frag) (m : Nat → Addr) (n : Nat) (H : Hp) (P : List EV → EH → Prop) (Q : List V → Hp → Prop) : Prop :=
  ∀ vs h', P vs h' → ∀ (m' : Nat → Addr) (H' : Hp) (xs : List V), Ex K m n H m' h'.length H' → RelH K m' h' H' → RelEs K m' h'.length H' vs xs → Q xs H'
def upA (K : PySem.W.Frag) (t : LA) : TA := fun σ H Q => ∃ m env h P, At K env h m σ H ∧ t env h P ∧ KonA K m h.length H P Q
structure LAs (X : Cx) (es : List Expr) (t : LA) : Prop where
  pa : PA X es (upA X.K t)
structure LEnds where
  nx : En → EH → Prop
  rt : EK
  bk : En → EH → Prop := fun _ _ => False
  ct : En → EH → Prop := fun _ _ => False
abbrev LS := LEnds → En → EH → Prop
def KonS (K : PySem.W.Frag) (m : Nat → Addr) (n : Nat) (H : Hp) (P : En → EH → Prop) (Q : L2.St → Hp → Prop) : Prop :=
  ∀ env' h', P env' h' → ∀ (m' : Nat → Addr) (H' : Hp) (σ' : L2.St), Ex K m n H m' h'.length H' → At K env' h' m' σ' H' → Q σ' H'
theorem KonS.ex {P : En → EH → Prop} {Q : L2.St → Hp → Prop} (E : Ex K m n H m' n' H') (k : KonS K m n H P Q) : KonS K m' n' H' P Q := fun v h' p m2 H2 x E2 R => k v h' p m2 H2 x (E.trans E2) R
structure KonE (K : PySem.W.Frag) (m : Nat → Addr) (n : Nat) (H : Hp) (P : LEnds) (Q : Ends) : Prop where
  nx : KonS K m n H P.nx Q.nx
  rt : Kon K m n H P.rt Q.rt
  bk : KonS K m n H P.bk Q.bk
  ct : KonS K m n H P.ct Q.ct
theorem KonE.ex {P : LEnds} {Q : Ends} (E : Ex K m n H m' n' H') (k : KonE K m n H P Q) : KonE K m' n' H' P Q := ⟨k.nx.ex E, k.rt.ex E, k.bk.ex E, k.ct.ex E⟩
def upS (K : PySem.W.Frag) (t : LS) : TS := fun D σ H => ∃ m env h P, At K env h m σ H ∧ t P env h ∧ KonE K m h.length H P D
structure LSt (X : Cx) (st : Stmt) (t : LS) : Prop where
  ps : PS X st (upS X.K t)
structure LSs (X : Cx) (st : List Stmt) (t : LS) : Prop where
  pss : PSs X st (upS X.K t)
theorem PE.imp {X : Cx} {e : Expr} {t t' : TE} (h : PE X e t) (i : ∀ σ H Q, t' σ H Q → t σ H Q) : PE X e t' := ⟨fun pins s σ H Q I q => h.run pins s σ H Q I (i σ H Q q)⟩
theorem PT.imp {X : Cx} {e : Expr} {t t' : TT} (h : PT X e t) (i : ∀ σ H Q, t' σ H Q → t σ H Q) : PT X e t' := ⟨fun pins s σ H Q I q => h.run pins s σ H Q I (i σ H Q q)⟩
theorem PW.imp {X : Cx} {e : Expr} {t t' : TT} (h : PW X e t) (i : ∀ σ H Q, t' σ H Q → t σ H Q) : PW X e t' := ⟨fun wh pins s σ H Q I q => h.run wh pins s σ H Q I (i σ H Q q)⟩
theorem PA.imp {X : Cx} {e : List Expr} {t t' : TA} (h : PA X e t) (i : ∀ σ H Q, t' σ H Q → t σ H Q) : PA X e t' := ⟨fun p pins s σ H Q I q => h.run p pins s σ H Q I (i σ H Q q)⟩
theorem PS.imp {X : Cx} {e : Stmt} {t t' : TS} (h : PS X e t) (i : ∀ D σ H, t' D σ H → t D σ H) : PS X e t' := ⟨fun pins s σ H D I q => h.run pins s σ H D I (i D σ H q)⟩
theorem PSs.imp {X : Cx} {e : List Stmt} {t t' : TS} (h : PSs X e t) (i : ∀ D σ H, t' D σ H → t D σ H) : PSs X e t' := ⟨fun pins s σ H D I q => h.run pins s σ H D I (i D σ H q)⟩
theorem PI.imp {X : Cx} {tg e : Expr} {t t' : TI} (h : PI X tg e t) (i : ∀ σ H Q, t' σ H Q → t σ H Q) : PI X tg e t' := ⟨fun pins s σ H Q I q => h.run pins s σ H Q I (i σ H Q q)⟩

def lVar (i : Nat) : LT := fun env h P => match env[i]? with
  | some (some v) => P v h
  | _ => False
def lC (v : EV) : LT := fun _ h P => P v h
section
variable {X : Cx}
theorem le_var (i : Nat) {x : Str} {pos : Pos} (hN : X.N[i]? = some x := by rfl) (hv : Vis X.env.scope x := by first | exact Or.inl rfl | exact Or.inr (Or.inl rfl) | exact Or.inr (Or.inr rfl))
    (hd : (x == ("__debug__" : Str)) = false := by decide) (hcd : (x == ("__classdict__" : Str)) = false := by decide) : LE X (.Name x pos) (lVar i) :=
  ⟨PE.imp (pe_var hN hv hd hcd) fun σ H Q ⟨m, env, h, P, a, t, k⟩ => by
    unfold lVar at t
    split at t
    · rename_i v e
      obtain ⟨x, ex, rx⟩ := a.nm.2 i v e
      exact ⟨x, ex, k v h t m H x .refl a.hp rx⟩
    · exact t.elim⟩
theorem le_c {e : Expr} {v : V} (x : EV) (h : PE X e (tC v)) (r : ∀ m n H, RelE X.K m n H x v) : LE X e (lC x) :=
  ⟨PE.imp h fun σ H Q ⟨m, env, h, P, a, t, k⟩ => k x h t m H v .refl a.hp (r _ _ _)⟩
theorem le_int {i j pos} : LE X (.Constant (.int i) j pos) (lC (.int i)) := le_c _ pe_int fun _ _ _ => by rw [RelE]
theorem le_bl {i j pos} : LE X (.Constant (.bool i) j pos) (lC (.bl i)) := le_c _ pe_bl fun _ _ _ => by rw [RelE]
theorem le_non {j pos} : LE X (.Constant .none j pos) (lC .non) := le_c _ pe_non fun _ _ _ => by rw [RelE]
theorem le_str (l : List Nat) {x j pos} (h : x = S l := by decide +kernel) : LE X (.Constant (.str x) j pos) (lC (.str l)) := le_c _ pe_str fun _ _ _ => by rw [RelE, h]
theorem le_gint (i : Int) {x : Str} {pos : Pos} (hg : Gl X x) (hm : ∃ t, X.mg x = some (.int i t)) (hd : (x == ("__debug__" : Str)) = false := by decide) : LE X (.Name x pos) (lC (.int i)) := by
  obtain ⟨t, e⟩ := hm
  exact le_c _ (pe_glob (v := .int i) hg e ⟨t, rfl⟩ hd) fun _ _ _ => by rw [RelE]
theorem le_gstr (l : List Nat) {x : Str} {pos : Pos} (hg : Gl X x) (hm : ∃ t, X.mg x = some (.str (S l) t)) (hd : (x == ("__debug__" : Str)) = false := by decide) : LE X (.Name x pos) (lC (.str l)) := by
  obtain ⟨t, e⟩ := hm
  exact le_c _ (pe_glob (v := .str (S l)) hg e ⟨t, rfl⟩ hd) fun _ _ _ => by rw [RelE]
end
end
end Y

namespace Y
open PySem PySem.Spec PyProof.Rows L2

mutual
inductive Dat (h : EH) : Nat → EV → PyData → Prop
  | non {n : Nat} : Dat h n .non .none
  | bl {n : Nat} (b : Bool) : Dat h n (.bl b) (.bool b)
  | int {n : Nat} (i : Int) : Dat h n (.int i) (.int i)
  | str {n : Nat} (s : List Nat) : Dat h n (.str s) (.str (S s))
  | tup {n : Nat} {xs : List EV} {ds : List PyData} : Dats h n xs ds → Dat h (n + 1) (.tup xs) (.tuple ds)
  | ktup {n : Nat} {xs : List EV} {ds : List PyData} : Dats h n xs ds → Dat h (n + 1) (.ktup xs) (.tuple ds)
  | lst {n : Nat} {r : Nat} {xs : List EV} {ds : List PyData} : h[r]? = some (.lst xs) → Dats h n xs ds → Dat h (n + 1) (.ref r) (.list ds)
inductive Dats (h : EH) : Nat → List EV → List PyData → Prop
  | nil {n : Nat} : Dats h n [] []
  | cons {n : Nat} {x : EV} {xs : List EV} {d : PyData} {ds : List PyData} : Dat h n x d → Dats h n xs ds → Dats h n (x :: xs) (d :: ds)
end
section
variable {K : PySem.W.Frag} {m : Nat → Addr} {H : Hp} {h : EH}
mutual
theorem Dat.dp (R : RelH K m h H) : ∀ (d : PyData) (n : Nat) (v : EV) (x : V), Dat h n v d → RelE K m h.length H v x → Dp K H x d
  | .none, _, _, _, a, r => by cases a; rw [RelE] at r; subst r; exact .non
  | .bool b, _, _, _, a, r => by cases a; rw [RelE] at r; subst r; exact .bl b
  | .int b, _, _, _, a, r => by cases a; rw [RelE] at r; subst r; exact .int b
  | .str b, _, _, _, a, r => by cases a; rw [RelE] at r; subst r; exact .str _
  | .tuple ds, _, _, _, a, r => by
    cases a with
    | tup as =>
      rw [RelE] at r
      obtain ⟨p, vs, e, q, t⟩ := r
      subst e
      exact .tup (SqT.of q) (Dats.dp R ds _ _ _ as t)
    | ktup as =>
      rw [RelE] at r
      obtain ⟨p, vs, e, q, t⟩ := r
      subst e
      exact .tup q (Dats.dp R ds _ _ _ as t)
  | .list ds, _, _, _, a, r => by
    cases a with
    | lst hr as =>
      rw [RelE] at r
      obtain ⟨hl, e⟩ := r
      subst e
      obtain ⟨vs, hv, t⟩ := R.obj _ _ hr
      exact .lst (SqL.of hv) (Dats.dp R ds _ _ _ as t)
  | .dict _, _, _, _, a, _ => by cases a
theorem Dats.dp (R : RelH K m h H) : ∀ (ds : List PyData) (n : Nat) (vs : List EV) (xs : List V), Dats h n vs ds → RelEs K m h.length H vs xs → DpAll K H xs ds
  | [], _, _, _, a, r => by cases a; rw [RelEs] at r; subst r; exact .nil
  | d :: ds, _, _, _, a, r => by
    cases a with
    | cons a1 a2 =>
      rw [RelEs] at r
      obtain ⟨v, l, e, r1, r2⟩ := r
      subst e
      exact .cons (Dat.dp R d _ _ _ a1 r1) (Dats.dp R ds _ _ _ a2 r2)
end
mutual
theorem Dat.dep : ∀ (d : PyData) (n : Nat) (v : EV), Dat h n v d → d.depth ≤ n ∧ d.plain = true
  | .none, _, _, a => by simp [PyData.depth, PyData.plain]
  | .bool b, _, _, a => by simp [PyData.depth, PyData.plain]
  | .int b, _, _, a => by simp [PyData.depth, PyData.plain]
  | .str b, _, _, a => by simp [PyData.depth, PyData.plain]
  | .tuple ds, _, _, a => by
    cases a with
    | tup as =>
      have := Dats.dep ds _ _ as
      simp only [PyData.depth, PyData.plain]
      exact ⟨by omega, this.2⟩
    | ktup as =>
      have := Dats.dep ds _ _ as
      simp only [PyData.depth, PyData.plain]
      exact ⟨by omega, this.2⟩
  | .list ds, _, _, a => by
    cases a with
    | lst hr as =>
      have := Dats.dep ds _ _ as
      simp only [PyData.depth, PyData.plain]
      exact ⟨by omega, this.2⟩
  | .dict _, _, _, a => by cases a
theorem Dats.dep : ∀ (ds : List PyData) (n : Nat) (vs : List EV), Dats h n vs ds → PyData.depthAll ds ≤ n ∧ PyData.plainAll ds = true
  | [], _, _, a => by simp [PyData.depthAll, PyData.plainAll]
  | d :: ds, _, _, a => by
    cases a with
    | cons a1 a2 =>
      have h1 := Dat.dep d _ _ a1
      have h2 := Dats.dep ds _ _ a2
      simp only [PyData.depthAll, PyData.plainAll, h1.2, h2.2]
      exact ⟨by omega, rfl⟩
end
end

abbrev LO := EV → EV → EH → EK → Prop
def LOp (K : PySem.W.Frag) (r : R2) (o : LO) : Prop :=
  ∀ (m : Nat → Addr) (h : EH) (H : Hp) (v w : EV) (x y : V) (P : EK) (Q : VK), RelH K m h H → RelE K m h.length H v x → RelE K m h.length H w y → o v w h P → Kon K m h.length H P Q → r x y H Q
def LOpR (X : Cx) (f : Value → Value → Sem Value) (o : LO) : Prop := ∃ r, OpR X f r ∧ LOp X.K r o
def lOp (o : LO) (ta tb : LT) : LT := fun env h P => ta env h fun x h1 => tb env h1 fun y h2 => o x y h2 P
def lB (t : LT) : LTt := fun env h P => t env h fun v h1 => match v with
  | .bl b => P b h1
  | _ => False
theorem Kon.same {K : PySem.W.Frag} {m : Nat → Addr} {H : Hp} {h : EH} {P : EK} {Q : VK} (k : Kon K m h.length H P Q) (R : RelH K m h H) {v : EV} {x : V} (p : P v h) (r : RelE K m h.length H v x) : Q x H := k v h p m H x .refl R r
theorem Kon.tup {K : PySem.W.Frag} {m : Nat → Addr} {H : Hp} {h : EH} {P : EK} {Q : VK} (k : Kon K m h.length H P Q) (R : RelH K m h H) {vs : List EV} {xs : List V} (p : P (.tup vs) h) (r : RelEs K m h.length H vs xs) {a : Addr} (ha : H a = none) : Q (.ref a) (upd H a (.tup xs)) :=
  k _ h p m _ _ (Ex.tup1 ha) (R.tup ha) (by rw [RelE]; exact ⟨a, xs, rfl, upd_same, RelEs.ex (Ex.tup1 ha) _ _ r⟩)
theorem Kon.lst {K : PySem.W.Frag} {m : Nat → Addr} {H : Hp} {h : EH} {P : EK} {Q : VK} (k : Kon K m h.length H P Q) (R : RelH K m h H) {vs : List EV} {xs : List V} (p : P (.ref h.length) (h ++ [.lst vs])) (r : RelEs K m h.length H vs xs) {a : Addr} (ha : H a = none) : Q (.ref a) (upd H a (.lst xs)) := by
  have E : Ex K m h.length H (mput m h.length a) (h ++ [EO.lst vs]).length (upd H a (.lst xs)) := Ex.new ha
  refine k _ _ p _ _ _ E (R.new ha ⟨xs, upd_same, RelEs.ex E _ _ r⟩) ?_
  rw [RelE]
  exact ⟨by simp, by rw [mput_at]⟩
section
variable {X : Cx} {a b : Expr} {ta tb : LT} {pos : Pos} {o : LO}
theorem up_bin {K : PySem.W.Frag} {r : R2} (s : LOp K r o) (σ : L2.St) (H : Hp) (Q : VK) (q : up K (lOp o ta tb) σ H Q) : tOp r (up K ta) (up K tb) σ H Q := by
  obtain ⟨m, env, h, P, at_, t, k⟩ := q
  refine ⟨m, env, h, _, at_, t, fun x h1 p1 m1 H1 u E1 R1 r1 => ⟨m1, env, h1, _, at_.ex E1 R1, p1, fun y h2 p2 m2 H2 w E2 R2 r2 => ?_⟩⟩
  exact s _ _ _ _ _ _ _ P Q R2 (RelE.ex E2 _ _ r1) r2 p2 (k.ex (E1.trans E2))
theorem le_op {op : Operator} (ho : LOpR X (binaryOp op) o) (ha : LE X a ta) (hb : LE X b tb) : LE X (.BinOp a op b pos) (lOp o ta tb) := by
  obtain ⟨r, hr, s⟩ := ho
  exact ⟨PE.imp (pe_op hr ha.pe hb.pe) (up_bin s)⟩
theorem le_cmp {op : CmpOp} (ho : LOpR X (compareOp op) o) (ha : LE X a ta) (hb : LE X b tb) (hm : behindInMarks op b = false := by first | exact nomark _ | with_unfolding_all rfl) : LE X (.Compare a [op] [b] pos) (lOp o ta tb) := by
  obtain ⟨r, hr, s⟩ := ho
  exact ⟨PE.imp (pe_cmpR hr ha.pe hb.pe hm) (up_bin s)⟩
theorem up_test {K : PySem.W.Frag} {t : LT} {tt : TE} (i : ∀ σ H Q, up K t σ H Q → tt σ H Q) (σ : L2.St) (H : Hp) (Q : Bool → Hp → Prop) (q : upT K (lB t) σ H Q) : tTest tt σ H Q := by
  obtain ⟨m, env, h, P, at_, t1, k⟩ := q
  refine i σ H _ ⟨m, env, h, _, at_, t1, fun v h1 p1 m1 H1 x E1 R1 r1 => ?_⟩
  cases v with
  | bl b =>
    rw [RelE] at r1
    exact ⟨b, r1, k b h1 p1 m1 H1 E1 R1⟩
  | _ => exact p1.elim
theorem lt_cmp {op : CmpOp} (ho : LOpR X (compareOp op) o) (ha : LE X a ta) (hb : LE X b tb) (hm : behindInMarks op b = false := by first | exact nomark _ | with_unfolding_all rfl) : LTe X (.Compare a [op] [b] pos) (lB (lOp o ta tb)) := by
  obtain ⟨r, hr, s⟩ := ho
  exact ⟨PT.imp (pt_cmpR hr ha.pe hb.pe hm) (up_test (up_bin s))⟩
def lChain (o o' : LO) (ta tb tc : LT) : LT := fun env h P => ta env h fun x h1 => tb env h1 fun y h2 => o x y h2 fun z h3 => match z with
  | .bl k => if k = true then tc env h3 fun w h4 => o' y w h4 P else P (.bl false) h3
  | _ => False
theorem up_chain {K : PySem.W.Frag} {r r' : R2} {o o' : LO} {tc : LT} (s : LOp K r o) (s' : LOp K r' o') (σ : L2.St) (H : Hp) (Q : VK) (q : up K (lChain o o' ta tb tc) σ H Q) : tChain r r' (up K ta) (up K tb) (up K tc) σ H Q := by
  obtain ⟨m, env, h, P, at_, t, k⟩ := q
  refine ⟨m, env, h, _, at_, t, fun x h1 p1 m1 H1 u E1 R1 r1 => ⟨m1, env, h1, _, at_.ex E1 R1, p1, fun y h2 p2 m2 H2 w E2 R2 r2 => ?_⟩⟩
  refine s _ _ _ _ _ _ _ _ _ R2 (RelE.ex E2 _ _ r1) r2 p2 fun z h3 p3 m3 H3 zz E3 R3 r3 => ?_
  cases z with
  | bl c =>
    rw [RelE] at r3
    refine ⟨c, r3, ?_⟩
    cases c with
    | false => exact k _ _ p3 m3 H3 _ ((E1.trans E2).trans E3) R3 (by rw [RelE])
    | true => exact ⟨m3, env, h3, _, (at_.ex (E1.trans E2) R2).ex E3 R3, p3, fun w' h4 p4 m4 H4 ww E4 R4 r4 => s' _ _ _ _ _ _ _ P Q R4 (RelE.ex (E3.trans E4) _ _ r2) r4 p4 (k.ex (((E1.trans E2).trans E3).trans E4))⟩
  | _ => exact p3.elim
theorem le_chain {c : Expr} {tc : LT} {op op' : CmpOp} {o o' : LO} (ho : LOpR X (compareOp op) o) (ho' : LOpR X (compareOp op') o') (ha : LE X a ta) (hb : LE X b tb) (hc : LE X c tc)
    (hm : lastMarks [op, op'] [b, c] = false := by with_unfolding_all rfl) : LE X (.Compare a [op, op'] [b, c] pos) (lChain o o' ta tb tc) := by
  obtain ⟨r, hr, s⟩ := ho
  obtain ⟨r', hr', s'⟩ := ho'
  exact ⟨PE.imp (pe_chain hr hr' ha.pe hb.pe hc.pe hm) (up_chain s s')⟩
end

def addE : LO := fun v w h P => match v, w with
  | .int i, .int j => P (.int (i + j)) h
  | .int i, .bl b => P (.int (i + b2i b)) h
  | .str a, .str b => a.length + b.length ≤ sizeLine ∧ P (.str (a ++ b)) h
  | .tup a, .tup b => a.length + b.length ≤ sizeLine ∧ P (.tup (a ++ b)) h
  | .ref l, .ref r => match h[l]?, h[r]? with
    | some (.lst a), some (.lst b) => a.length + b.length ≤ sizeLine ∧ P (.ref h.length) (h ++ [.lst (a ++ b)])
    | _, _ => False
  | _, _ => False
theorem S_len (a : List Nat) : (S a).length = a.length := by
  show (S a).cps.size = _
  simp
theorem S_app (a b : List Nat) : S a ++ S b = S (a ++ b) := by
  show (⟨(a.toArray ++ b.toArray)⟩ : Str) = _
  simp
theorem lo_add {X : Cx} : LOpR X (binaryOp .Add) addE := by
  refine ⟨_, OpR.or op_add (OpR.or op_add_ib (OpR.or op_add_str (OpR.or op_catA op_cat))), ?_⟩
  intro m h H v w x y P Q R rx ry q k
  unfold addE at q
  split at q
  · rw [RelE] at rx ry
    exact .inl ⟨_, _, rx, ry, k.same R q (by rw [RelE])⟩
  · rw [RelE] at rx
    rw [RelE] at ry
    exact .inr (.inl ⟨_, _, rx, ry, k.same R q (by rw [RelE])⟩)
  · rw [RelE] at rx ry
    exact .inr (.inr (.inl ⟨_, _, rx, ry, by rw [S_len, S_len]; exact q.1, by rw [S_app]; exact k.same R q.2 (by rw [RelE])⟩))
  · rename_i a b
    rw [RelE] at rx ry
    obtain ⟨p, xs, rfl, hx, r1⟩ := rx
    obtain ⟨p', ys, rfl, hy, r2⟩ := ry
    refine .inr (.inr (.inr (.inl ⟨p, p', xs, ys, rfl, rfl, SqT.of hx, SqT.of hy, by rw [← r1.length, ← r2.length]; exact q.1, fun e => ?_, fun _ e => ?_, fun _ _ z hz => ?_⟩)))
    · subst e
      have : a = [] := by cases a with
        | nil => rfl
        | cons _ _ => have := r1.length; simp at this
      subst this
      exact k.same R q.2 (by rw [RelE]; exact ⟨p', ys, rfl, hy, r2⟩)
    · subst e
      have : b = [] := by cases b with
        | nil => rfl
        | cons _ _ => have := r2.length; simp at this
      subst this
      refine k.same R q.2 ?_
      rw [List.append_nil, RelE]
      exact ⟨p, xs, rfl, hx, r1⟩
    · exact k.tup R q.2 (r1.app r2) hz
  · rw [RelE] at rx ry
    obtain ⟨_, rfl⟩ := rx
    obtain ⟨_, rfl⟩ := ry
    split at q
    · rename_i e1 e2
      obtain ⟨xs, a1, r1⟩ := R.obj _ _ e1
      obtain ⟨ys, a2, r2⟩ := R.obj _ _ e2
      refine .inr (.inr (.inr (.inr ⟨_, _, xs, ys, rfl, rfl, a1, a2, by rw [← r1.length, ← r2.length]; exact q.1, fun z hz => ?_⟩)))
      exact k.lst R q.2 (r1.app r2) hz
    · exact q.elim
  · exact q.elim
def intE (C : Int → Int → Prop) (f : Int → Int → Int) : LO := fun v w h P => match v, w with
  | .int i, .int j => C i j ∧ P (.int (f i j)) h
  | _, _ => False
def intP (f : Int → Int → EV) : LO := fun v w h P => match v, w with
  | .int i, .int j => P (f i j) h
  | _, _ => False
theorem lo_int {X : Cx} {op : Operator} {C : Int → Int → Prop} {f : Int → Int → Int} (hr : OpR X (binaryOp op) (rI C fun i j => .int (f i j))) : LOpR X (binaryOp op) (intE C f) := by
  refine ⟨_, hr, ?_⟩
  intro m h H v w x y P Q R rx ry q k
  unfold intE at q
  split at q
  · rw [RelE] at rx ry
    exact ⟨_, _, rx, ry, q.1, k.same R q.2 (by rw [RelE])⟩
  · exact q.elim
theorem lo_intP {X : Cx} {fn : Value → Value → Sem Value} {f : Int → Int → EV} {g : Int → Int → V} (hr : OpR X fn (rI0 g)) (e : ∀ K m n H i j, RelE K m n H (f i j) (g i j)) : LOpR X fn (intP f) := by
  refine ⟨_, hr, ?_⟩
  intro m h H v w x y P Q R rx ry q k
  unfold intP at q
  split at q
  · rw [RelE] at rx ry
    exact ⟨_, _, rx, ry, k.same R q (e _ _ _ _ _ _)⟩
  · exact q.elim
abbrev subE : LO := intP fun i j => .int (i - j)
abbrev fdivE : LO := intE CDivW fun i j => i / j
abbrev modE : LO := intE (fun _ j => 0 < j) fun i j => i % j
abbrev powE : LO := intE CPow fun i j => i ^ j.toNat
theorem lo_sub {X : Cx} : LOpR X (binaryOp .Sub) subE := lo_intP op_sub fun _ _ _ _ _ _ => by rw [RelE]
theorem lo_fdiv {X : Cx} : LOpR X (binaryOp .FloorDiv) fdivE := lo_int op_fdivW
theorem lo_mod {X : Cx} : LOpR X (binaryOp .Mod) modE := lo_int op_mod
theorem lo_pow {X : Cx} : LOpR X (binaryOp .Pow) powE := lo_int op_pow
abbrev ltE : LO := intP fun i j => .bl (decide (i < j))
abbrev leE : LO := intP fun i j => .bl (decide (i ≤ j))
abbrev gtE : LO := intP fun i j => .bl (decide (j < i))
abbrev geE : LO := intP fun i j => .bl (decide (j ≤ i))
theorem lo_lt {X : Cx} : LOpR X (compareOp .Lt) ltE := lo_intP op_lt fun _ _ _ _ _ _ => by rw [RelE]
theorem lo_le {X : Cx} : LOpR X (compareOp .LtE) leE := lo_intP op_le fun _ _ _ _ _ _ => by rw [RelE]
theorem lo_gt {X : Cx} : LOpR X (compareOp .Gt) gtE := lo_intP op_gt fun _ _ _ _ _ _ => by rw [RelE]
theorem lo_ge {X : Cx} : LOpR X (compareOp .GtE) geE := lo_intP op_ge fun _ _ _ _ _ _ => by rw [RelE]
def eqE (neg : Bool) : LO := fun v w h P => match v, w with
  | .int i, .int j => P (.bl (neg ^^ decide (i = j))) h
  | .str a, .str b => P (.bl (neg ^^ decide (a = b))) h
  | .bl a, .bl b => P (.bl (neg ^^ decide (a = b))) h
  | v, w => ∃ d e, Dat h 60 v d ∧ Dat h 60 w e ∧ P (.bl (neg ^^ PyData.eqv d e)) h
theorem S_inj {a b : List Nat} : S a = S b ↔ a = b := by
  constructor
  · intro e
    have : a.toArray = b.toArray := congrArg Str.cps e
    simpa using this
  · rintro rfl; rfl
theorem beqD {α : Type} [BEq α] [LawfulBEq α] [DecidableEq α] (a b : α) : (a == b) = decide (a = b) := by
  rw [Bool.eq_iff_iff, beq_iff_eq, decide_eq_true_eq]
theorem eq_sim {K : PySem.W.Frag} {m : Nat → Addr} {h : EH} {H : Hp} {v w : EV} {x y : V} {P : EK} {Q : VK} {neg : Bool} (R : RelH K m h H) (rx : RelE K m h.length H v x) (ry : RelE K m h.length H w y) (q : eqE neg v w h P) (k : Kon K m h.length H P Q) :
    ∃ d e, Dp K H x d ∧ Dp K H y e ∧ d.depth ≤ 60 ∧ d.plain = true ∧ e.plain = true ∧ Q (.bl (neg ^^ PyData.eqv d e)) H := by
  unfold eqE at q
  split at q
  · rename_i i j
    rw [RelE] at rx ry; subst rx ry
    refine ⟨_, _, .int i, .int j, by simp [PyData.depth], rfl, rfl, ?_⟩
    rw [show PyData.eqv (.int i) (.int j) = decide (i = j) by simp only [PyData.eqv]; exact beqD i j]
    exact k.same R q (by rw [RelE])
  · rename_i i j
    rw [RelE] at rx ry; subst rx ry
    refine ⟨_, _, .str _, .str _, by simp [PyData.depth], rfl, rfl, ?_⟩
    rw [show PyData.eqv (.str (S i)) (.str (S j)) = decide (i = j) by simp only [PyData.eqv]; rw [beqD]; exact decide_eq_decide.mpr S_inj]
    exact k.same R q (by rw [RelE])
  · rename_i i j
    rw [RelE] at rx ry; subst rx ry
    refine ⟨_, _, .bl _, .bl _, by simp [PyData.depth], rfl, rfl, ?_⟩
    rw [show PyData.eqv (.bool i) (.bool j) = decide (i = j) by simp only [PyData.eqv]; exact beqD i j]
    exact k.same R q (by rw [RelE])
  · obtain ⟨d, e, d1, e1, p⟩ := q
    exact ⟨d, e, Dat.dp R _ _ _ _ d1 rx, Dat.dp R _ _ _ _ e1 ry, (Dat.dep _ _ _ d1).1, (Dat.dep _ _ _ d1).2, (Dat.dep _ _ _ e1).2, k.same R p (by rw [RelE])⟩
def rEqP (neg : Bool) (K : PySem.W.Frag) : R2 := fun x y H Q => ∃ d e, Dp K H x d ∧ Dp K H y e ∧ d.depth ≤ 60 ∧ d.plain = true ∧ e.plain = true ∧ Q (.bl (neg ^^ PyData.eqv d e)) H
theorem lo_eq {X : Cx} (hu : X.A.units + 64 < cLine) : LOpR X (compareOp .Eq) (eqE false) := by
  refine ⟨rEqP false X.K, ?_, fun m h H v w x y P Q R rx ry q k => eq_sim R rx ry q k⟩
  intro pins s σ H x y v u Q I rx ry h
  obtain ⟨d, e, hd, he, dd, pd, pe, q⟩ := h
  obtain ⟨as, r1⟩ := Dp.reads I d x v hd rx
  obtain ⟨bs, r2⟩ := Dp.reads I e y u he ry
  exact PySem.SeqAt.eq_plain r1 r2 pd pe (by omega) ⟨.bl _, H, I, rfl, by simpa using q⟩
theorem lo_ne {X : Cx} (hu : X.A.units + 64 < cLine) : LOpR X (compareOp .NotEq) (eqE true) := by
  refine ⟨rEqP true X.K, ?_, fun m h H v w x y P Q R rx ry q k => eq_sim R rx ry q k⟩
  intro pins s σ H x y v u Q I rx ry h
  obtain ⟨d, e, hd, he, dd, pd, pe, q⟩ := h
  obtain ⟨as, r1⟩ := Dp.reads I d x v hd rx
  obtain ⟨bs, r2⟩ := Dp.reads I e y u he ry
  exact PySem.SeqAt.ne_plain r1 r2 pd pe (by omega) ⟨.bl _, H, I, rfl, by simpa using q⟩
theorem op_isB {X : Cx} : OpR X (compareOp .Is) (fun x y H Q => ∃ a b, x = .bl a ∧ y = .bl b ∧ Q (.bl (decide (a = b))) H) := by
  intro pins s σ H x y v u Q I rx ry h
  obtain ⟨a, b, rfl, rfl, q⟩ := h
  cases (show v = Value.bool a from rx)
  cases (show u = Value.bool b from ry)
  refine is_bool (fin_bl I q ?_)
  cases a <;> cases b <;> rfl
theorem op_notB {X : Cx} : OpR X (compareOp .IsNot) (fun x y H Q => ∃ a b, x = .bl a ∧ y = .bl b ∧ Q (.bl (!decide (a = b))) H) := by
  intro pins s σ H x y v u Q I rx ry h
  obtain ⟨a, b, rfl, rfl, q⟩ := h
  cases (show v = Value.bool a from rx)
  cases (show u = Value.bool b from ry)
  refine isnot_bool (fin_bl I q ?_)
  cases a <;> cases b <;> rfl
def isN (neg : Bool) : LO := fun v w h P => match w with
  | .non => match v with
    | .non => P (.bl (!neg)) h
    | _ => P (.bl neg) h
  | .bl b => match v with
    | .bl a => P (.bl (neg ^^ decide (a = b))) h
    | _ => False
  | _ => False
theorem lo_isN {X : Cx} : LOpR X (compareOp .Is) (isN false) := by
  refine ⟨_, OpR.or op_isN op_isB, ?_⟩
  intro m h H v w x y P Q R rx ry q k
  unfold isN at q
  split at q
  · rw [RelE] at ry
    refine .inl ⟨ry, ?_⟩
    split at q
    · rw [RelE] at rx; subst rx
      exact k.same R q (by rw [RelE]; rfl)
    · have : x ≠ .non := by
        rintro rfl
        rename_i hv
        cases v <;> simp [RelE] at rx
        exact hv rfl
      rw [decide_eq_false this]
      exact k.same R q (by rw [RelE]; try rfl)
  · rename_i b
    rw [RelE] at ry
    split at q
    · rename_i a
      rw [RelE] at rx
      subst rx ry
      exact .inr ⟨a, b, rfl, rfl, k.same R q (by rw [RelE]; first | rfl | simp)⟩
    · exact q.elim
  · exact q.elim
theorem lo_notN {X : Cx} : LOpR X (compareOp .IsNot) (isN true) := by
  refine ⟨_, OpR.or op_notN op_notB, ?_⟩
  intro m h H v w x y P Q R rx ry q k
  unfold isN at q
  split at q
  · rw [RelE] at ry
    refine .inl ⟨ry, ?_⟩
    split at q
    · rw [RelE] at rx; subst rx
      exact k.same R q (by rw [RelE]; rfl)
    · have : x ≠ .non := by
        rintro rfl
        rename_i hv
        cases v <;> simp [RelE] at rx
        exact hv rfl
      rw [decide_eq_false this]
      exact k.same R q (by rw [RelE]; try rfl)
  · rename_i b
    rw [RelE] at ry
    split at q
    · rename_i a
      rw [RelE] at rx
      subst rx ry
      exact .inr ⟨a, b, rfl, rfl, k.same R q (by rw [RelE]; first | rfl | simp)⟩
    · exact q.elim
  · exact q.elim
end Y

namespace Y
open PySem PySem.Spec PyProof.Rows L2

def truE (v : EV) (h : EH) (P : Bool → Prop) : Prop := match v with
  | .bl b => P b
  | .non => P false
  | .int i => P (i != 0)
  | .str s => s.length ≤ sizeLine ∧ P (!s.isEmpty)
  | .tup xs => P (!xs.isEmpty)
  | .ref r => match h[r]? with
    | some (.lst xs) => P (!xs.isEmpty)
    | some (.dic xs) => P (!xs.isEmpty)
    | _ => False
  | _ => False
def lT (t : LT) : LTt := fun env h P => t env h fun v h1 => truE v h1 fun b => P b h1
def lAnd (t u : LTt) : LTt := fun env h P => t env h fun c h1 => if c = true then u env h1 P else P false h1
def lOr (t u : LTt) : LTt := fun env h P => t env h fun c h1 => if c = true then P true h1 else u env h1 P
def lNot (t : LTt) : LTt := fun env h P => t env h fun c h1 => P (!c) h1
def lIf (t : LTt) (ta tb : LT) : LT := fun env h P => t env h fun c h1 => if c = true then ta env h1 P else tb env h1 P
def lAndV (ta tb : LT) : LT := fun env h P => ta env h fun v h1 => match v with
  | .bl c => if c = true then tb env h1 P else P (.bl false) h1
  | _ => False
def lOrV (ta tb : LT) : LT := fun env h P => ta env h fun v h1 => match v with
  | .bl c => if c = true then P (.bl true) h1 else tb env h1 P
  | _ => False
def lNotV (ta : LT) : LT := fun env h P => ta env h fun v h1 => match v with
  | .bl c => P (.bl (!c)) h1
  | _ => False
section
variable {K : PySem.W.Frag} {m : Nat → Addr} {H : Hp} {h : EH}
theorem RelEs.isEmpty {n : Nat} {es : List EV} {vs : List V} (r : RelEs K m n H es vs) : vs.isEmpty = es.isEmpty := by
  cases es with
  | nil => rw [RelEs] at r; subst r; rfl
  | cons a l => rw [RelEs] at r; obtain ⟨v, t, rfl, _, _⟩ := r; rfl
theorem RelKV.isEmpty {n : Nat} {es : List (EV × EV)} {vs : List (L2.Key × V)} (r : RelKV K m n H es vs) : vs.isEmpty = es.isEmpty := by
  cases es with
  | nil => rw [RelKV] at r; subst r; rfl
  | cons a l => rw [RelKV] at r; obtain ⟨v, t, u, rfl, _, _⟩ := r; rfl
theorem tru_sim {v : EV} {x : V} {P : Bool → Prop} (R : RelH K m h H) (r : RelE K m h.length H v x) (q : truE v h P) : ∃ k, TruV K x H k ∧ P k := by
  unfold truE at q
  split at q
  · rw [RelE] at r; subst r; exact ⟨_, rfl, q⟩
  · rw [RelE] at r; subst r; exact ⟨_, rfl, q⟩
  · rw [RelE] at r; subst r; exact ⟨_, rfl, q⟩
  · rename_i s
    rw [RelE] at r; subst r
    refine ⟨_, ⟨by rw [S_len]; exact q.1, rfl⟩, ?_⟩
    rw [S_len]
    have e : (((s.length : Nat) : Int) != 0) = !s.isEmpty := by
      cases s <;> simp
      omega
    rw [e]; exact q.2
  · rw [RelE] at r
    obtain ⟨a, vs, rfl, hs, r⟩ := r
    exact ⟨_, .inr (.inl ⟨vs, SqT.of hs, rfl⟩), by rw [r.isEmpty]; exact q⟩
  · rw [RelE] at r
    obtain ⟨_, rfl⟩ := r
    split at q
    · rename_i e
      obtain ⟨vs, a, r⟩ := R.obj _ _ e
      exact ⟨_, .inl ⟨vs, SqL.of a, rfl⟩, by rw [r.isEmpty]; exact q⟩
    · rename_i e
      obtain ⟨vs, a, r⟩ := R.obj _ _ e
      exact ⟨_, .inr (.inr ⟨vs, a, rfl⟩), by rw [r.isEmpty]; exact q⟩
    · exact q.elim
  · exact q.elim
end
section
variable {X : Cx} {a b c e : Expr} {es : List Expr} {ta tb : LT} {t u : LTt} {pos : Pos} {rest : List Expr}
theorem lt_truth (ha : LE X a ta) (he : ∀ whole, isTrue a X.env whole = (do let v ← whole; standAt a.pos; holding [v] (truthy v)) := by intro _; rfl) : LTe X a (lT ta) := by
  refine ⟨PT.imp (pt_truth ha.pe he) fun σ H Q ⟨m, env, h, P, at_, t1, k⟩ => ⟨m, env, h, _, at_, t1, fun v h1 p1 m1 H1 x E1 R1 r1 => ?_⟩⟩
  obtain ⟨c, tc, pc⟩ := tru_sim R1 r1 p1
  exact ⟨c, tc, k c h1 pc m1 H1 E1 R1⟩
theorem LWe.lt (w : LWe X e t) : LTe X e t := ⟨w.pw.pt⟩
theorem lw_and1 (ha : LTe X a t) : LWe X (.BoolOp .And [a] pos) t := ⟨pw_and1 ha.pt⟩
theorem lw_or1 (ha : LTe X a t) : LWe X (.BoolOp .Or [a] pos) t := ⟨pw_or1 ha.pt⟩
theorem lw_and (ha : LTe X a t) (hb : LWe X (.BoolOp .And (b :: rest) pos) u) : LWe X (.BoolOp .And (a :: b :: rest) pos) (lAnd t u) := by
  refine ⟨PW.imp (pw_and ha.pt hb.pw) fun σ H Q ⟨m, env, h, P, at_, t1, k⟩ => ⟨m, env, h, _, at_, t1, fun c h1 p1 m1 H1 E1 R1 => ?_⟩⟩
  cases c with
  | true =>
    rw [if_pos rfl] at p1 ⊢
    exact ⟨m1, env, h1, P, at_.ex E1 R1, p1, fun c2 h2 p2 m2 H2 E2 R2 => k c2 h2 p2 m2 H2 (E1.trans E2) R2⟩
  | false =>
    rw [if_neg Bool.false_ne_true] at p1 ⊢
    exact k _ _ p1 m1 H1 E1 R1
theorem lw_or (ha : LTe X a t) (hb : LWe X (.BoolOp .Or (b :: rest) pos) u) : LWe X (.BoolOp .Or (a :: b :: rest) pos) (lOr t u) := by
  refine ⟨PW.imp (pw_or ha.pt hb.pw) fun σ H Q ⟨m, env, h, P, at_, t1, k⟩ => ⟨m, env, h, _, at_, t1, fun c h1 p1 m1 H1 E1 R1 => ?_⟩⟩
  cases c with
  | false =>
    rw [if_neg Bool.false_ne_true] at p1 ⊢
    exact ⟨m1, env, h1, P, at_.ex E1 R1, p1, fun c2 h2 p2 m2 H2 E2 R2 => k c2 h2 p2 m2 H2 (E1.trans E2) R2⟩
  | true =>
    rw [if_pos rfl] at p1 ⊢
    exact k _ _ p1 m1 H1 E1 R1
theorem lt_not (ha : LTe X a t) : LTe X (.UnaryOp .Not a pos) (lNot t) :=
  ⟨PT.imp (pt_not ha.pt) fun σ H Q ⟨m, env, h, P, at_, t1, k⟩ => ⟨m, env, h, _, at_, t1, fun c h1 p1 m1 H1 E1 R1 => k _ _ p1 m1 H1 E1 R1⟩⟩
theorem le_if (hc : LTe X c t) (ha : LE X a ta) (hb : LE X b tb) : LE X (.IfExp c a b pos) (lIf t ta tb) := by
  refine ⟨PE.imp (pe_ifExp hc.pt ha.pe hb.pe) fun σ H Q ⟨m, env, h, P, at_, t1, k⟩ => ⟨m, env, h, _, at_, t1, fun c h1 p1 m1 H1 E1 R1 => ?_⟩⟩
  cases c with
  | true =>
    rw [if_pos rfl] at p1 ⊢
    exact ⟨m1, env, h1, P, at_.ex E1 R1, p1, k.ex E1⟩
  | false =>
    rw [if_neg Bool.false_ne_true] at p1 ⊢
    exact ⟨m1, env, h1, P, at_.ex E1 R1, p1, k.ex E1⟩
theorem le_one {op} (ha : LE X a ta) : LE X (.BoolOp op [a] pos) ta := ⟨pe_one ha.pe⟩
theorem le_and (ha : LE X a ta) (hb : LE X (.BoolOp .And (b :: rest) pos) tb) : LE X (.BoolOp .And (a :: b :: rest) pos) (lAndV ta tb) := by
  refine ⟨PE.imp (pe_and ha.pe hb.pe) fun σ H Q ⟨m, env, h, P, at_, t1, k⟩ => ⟨m, env, h, _, at_, t1, fun v h1 p1 m1 H1 x E1 R1 r1 => ?_⟩⟩
  cases v with
  | bl c =>
    rw [RelE] at r1
    refine ⟨c, r1, ?_⟩
    cases c with
    | true =>
      exact ⟨m1, env, h1, P, at_.ex E1 R1, p1, k.ex E1⟩
    | false => exact k _ _ p1 m1 H1 _ E1 R1 (by rw [RelE])
  | _ => exact p1.elim
theorem le_or (ha : LE X a ta) (hb : LE X (.BoolOp .Or (b :: rest) pos) tb) : LE X (.BoolOp .Or (a :: b :: rest) pos) (lOrV ta tb) := by
  refine ⟨PE.imp (pe_or ha.pe hb.pe) fun σ H Q ⟨m, env, h, P, at_, t1, k⟩ => ⟨m, env, h, _, at_, t1, fun v h1 p1 m1 H1 x E1 R1 r1 => ?_⟩⟩
  cases v with
  | bl c =>
    rw [RelE] at r1
    refine ⟨c, r1, ?_⟩
    cases c with
    | false =>
      exact ⟨m1, env, h1, P, at_.ex E1 R1, p1, k.ex E1⟩
    | true => exact k _ _ p1 m1 H1 _ E1 R1 (by rw [RelE])
  | _ => exact p1.elim
theorem le_not (ha : LE X a ta) : LE X (.UnaryOp .Not a pos) (lNotV ta) := by
  refine ⟨PE.imp (pe_not ha.pe) fun σ H Q ⟨m, env, h, P, at_, t1, k⟩ => ⟨m, env, h, _, at_, t1, fun v h1 p1 m1 H1 x E1 R1 r1 => ?_⟩⟩
  cases v with
  | bl c =>
    rw [RelE] at r1
    exact ⟨c, r1, k _ _ p1 m1 H1 _ E1 R1 (by rw [RelE])⟩
  | _ => exact p1.elim
end
def lNil : LA := fun _ h P => P [] h
def lCons (ta : LT) (tr : LA) : LA := fun env h P => ta env h fun x h1 => tr env h1 fun xs h2 => P (x :: xs) h2
def lTup (t : LA) : LT := fun env h P => t env h fun xs h1 => xs.length ≤ sizeLine ∧ P (.tup xs) h1
def lLst (t : LA) : LT := fun env h P => t env h fun xs h1 => xs.length ≤ sizeLine ∧ P (.ref h1.length) (h1 ++ [.lst xs])
section
variable {X : Cx} {a b c e : Expr} {es : List Expr} {ta tb : LT} {t : LA} {pos : Pos}
theorem la_nil : LAs X [] lNil := ⟨PA.imp pa_nil fun σ H Q ⟨m, env, h, P, at_, t1, k⟩ => k _ _ t1 m H [] .refl at_.hp .nil⟩
theorem la_cons (ha : LE X e ta) (hr : LAs X es t) (hs : starEach (e :: es) X.env = (false, eval e X.env) :: starEach es X.env := by rfl) : LAs X (e :: es) (lCons ta t) :=
  ⟨PA.imp (pa_cons ha.pe hr.pa hs) fun σ H Q ⟨m, env, h, P, at_, t1, k⟩ => ⟨m, env, h, _, at_, t1, fun x h1 p1 m1 H1 v E1 R1 r1 =>
    ⟨m1, env, h1, _, at_.ex E1 R1, p1, fun xs h2 p2 m2 H2 vs E2 R2 r2 => k _ _ p2 m2 H2 _ (E1.trans E2) R2 (.cons (RelE.ex E2 _ _ r1) r2)⟩⟩⟩
theorem le_tup {k1} (ht : LAs X es t) : LE X (.Tuple es k1 pos) (lTup t) :=
  ⟨PE.imp (pe_tup ht.pa) fun σ H Q ⟨m, env, h, P, at_, t1, k⟩ => ⟨m, env, h, _, at_, t1, fun xs h1 p1 m1 H1 vs E1 R1 r1 =>
    ⟨by rw [← r1.length]; exact p1.1, fun p hp => (k.ex E1).tup R1 p1.2 r1 hp⟩⟩⟩
theorem le_lst (ht : LAs X es t) : LE X (.List es pos) (lLst t) :=
  ⟨PE.imp (pe_lst ht.pa) fun σ H Q ⟨m, env, h, P, at_, t1, k⟩ => ⟨m, env, h, _, at_, t1, fun xs h1 p1 m1 H1 vs E1 R1 r1 =>
    ⟨by rw [← r1.length]; exact p1.1, fun p hp => (k.ex E1).lst R1 p1.2 r1 hp⟩⟩⟩
end
abbrev LC := List EV → EH → EK → Prop
def LCl (K : PySem.W.Frag) (r : List V → Hp → VK → Prop) (c : LC) : Prop :=
  ∀ (m : Nat → Addr) (h : EH) (H : Hp) (vs : List EV) (xs : List V) (P : EK) (Q : VK), RelH K m h H → RelEs K m h.length H vs xs → c vs h P → Kon K m h.length H P Q → r xs H Q
def LCallR (X : Cx) (f : Value) (c : LC) : Prop := ∃ r, CallR X f r ∧ LCl X.K r c
def lCB (c : LC) (t : LA) : LT := fun env h P => t env h fun vs h1 => c vs h1 P
theorem CallR.or {X : Cx} {f : Value} {r r' : List V → Hp → VK → Prop} (a : CallR X f r) (b : CallR X f r') : CallR X f (fun xs H Q => r xs H Q ∨ r' xs H Q) := by
  intro pins s σ H xs us Q I rv q
  rcases q with q | q
  · exact a pins s σ H xs us Q I rv q
  · exact b pins s σ H xs us Q I rv q
theorem RelEs.one_inv {K : PySem.W.Frag} {m : Nat → Addr} {n : Nat} {H : Hp} {x : EV} {vs : List V} (r : RelEs K m n H [x] vs) : ∃ v, vs = [v] ∧ RelE K m n H x v := by
  rw [RelEs] at r
  obtain ⟨v, l, rfl, a, b⟩ := r
  rw [RelEs] at b
  subst b
  exact ⟨v, rfl, a⟩
theorem RelEs.two_inv {K : PySem.W.Frag} {m : Nat → Addr} {n : Nat} {H : Hp} {x y : EV} {vs : List V} (r : RelEs K m n H [x, y] vs) : ∃ v w, vs = [v, w] ∧ RelE K m n H x v ∧ RelE K m n H y w := by
  rw [RelEs] at r
  obtain ⟨v, l, rfl, a, b⟩ := r
  obtain ⟨w, rfl, c⟩ := b.one_inv
  exact ⟨v, w, rfl, a, c⟩
section
variable {X : Cx} {e : Expr} {es : List Expr} {c : LC} {t : LA} {pos p : Pos} {x : Str} {id T : String}
theorem up_cb {K : PySem.W.Frag} {r : List V → Hp → VK → Prop} (s : LCl K r c) (σ : L2.St) (H : Hp) (Q : VK) (q : up K (lCB c t) σ H Q) : tCB r (upA K t) σ H Q := by
  obtain ⟨m, env, h, P, at_, t1, k⟩ := q
  exact ⟨m, env, h, _, at_, t1, fun vs h1 p1 m1 H1 xs E1 R1 r1 => s _ _ _ _ _ _ _ R1 r1 p1 (k.ex E1)⟩
theorem le_callB (hc : LCallR X (.builtin id) c) (hg : Gl X x) (hm : X.mg x = none) (hv : bootBuiltins x = some (.builtin id)) (ha : LAs X (e :: es) t) (hn : x ≠ "__name__" := by decide) (hdb : (x == ("__debug__" : Str)) = false := by decide)
    (he : starEach (e :: es) X.env = (false, eval e X.env) :: starEach es X.env := by rfl) (hpl : (backTo pos (starEach es X.env)).any (·.1) = false := by rfl) : LE X (.Call (.Name x p) (e :: es) [] pos) (lCB c t) := by
  obtain ⟨r, hr, s⟩ := hc
  exact ⟨PE.imp (pe_callB hr hg hm hv ha.pa hn hdb he hpl) (up_cb s)⟩
theorem le_callTy (hc : LCallR X (.type T) c) (hg : Gl X x) (hm : X.mg x = none) (hv : bootBuiltins x = some (.type T)) (ha : LAs X (e :: es) t) (hn : x ≠ "__name__" := by decide) (hdb : (x == ("__debug__" : Str)) = false := by decide)
    (he : starEach (e :: es) X.env = (false, eval e X.env) :: starEach es X.env := by rfl) (hpl : (backTo pos (starEach es X.env)).any (·.1) = false := by rfl) : LE X (.Call (.Name x p) (e :: es) [] pos) (lCB c t) := by
  obtain ⟨r, hr, s⟩ := hc
  exact ⟨PE.imp (pe_callTy hr hg hm hv ha.pa hn hdb he hpl) (up_cb s)⟩
end
abbrev LM := EV → List EV → EH → EK → Prop
def LMl (K : PySem.W.Frag) (T : String) (r : V → List V → Hp → VK → Prop) (c : LM) : Prop :=
  ∀ (m : Nat → Addr) (h : EH) (H : Hp) (v : EV) (x : V) (vs : List EV) (xs : List V) (P : EK) (Q : VK), RelH K m h H → RelE K m h.length H v x → RelEs K m h.length H vs xs → c v vs h P → Kon K m h.length H P Q → r x xs H Q
def isTy (T : String) (v : EV) (h : EH) : Prop := match v with
  | .str _ => T = "str"
  | .ref r => match h[r]? with
    | some (.lst _) => T = "list"
    | some (.dic _) => T = "dict"
    | _ => False
  | _ => False
def lBM (T : String) (c : LM) (to : LT) (t : LA) : LT := fun env h P => to env h fun x h1 => isTy T x h1 ∧ t env h1 fun vs h2 => c x vs h2 P
theorem isTy_sim {K : PySem.W.Frag} {m : Nat → Addr} {H : Hp} {h : EH} {T : String} {v : EV} {x : V} (R : RelH K m h H) (r : RelE K m h.length H v x) (q : isTy T v h) : tyV K T x H := by
  unfold isTy at q
  split at q
  · rw [RelE] at r; subst r; exact q
  · rw [RelE] at r
    obtain ⟨_, rfl⟩ := r
    split at q
    · rename_i e
      obtain ⟨vs, a, _⟩ := R.obj _ _ e
      exact .inl ⟨q, vs, SqL.of a⟩
    · rename_i e
      obtain ⟨vs, a, _⟩ := R.obj _ _ e
      exact .inr (.inr (.inl ⟨q, .inl ⟨vs, a⟩⟩))
    · exact q.elim
  · exact q.elim
section
variable {X : Cx} {o e : Expr} {es : List Expr} {to : LT} {t : LA} {name : Str} {apos cpos : Pos} {T id : String} {r : V → List V → Hp → VK → Prop} {c : LM}
theorem le_bm (pa : PlainAttrs T) (slot : Slot T name id) (hty : typeOf (.builtin id) = pure (.type "method_descriptor")) (hm : MtR X id r) (s : LMl X.K T r c) (ho : LE X o to) (ha : LAs X (e :: es) t)
    (hbase : attributeBase o name X.env (eval o X.env) = eval o X.env := by rfl)
    (hfew : ((backTo cpos (starEach (e :: es) X.env)).all (fun x => !x.1) && (backToKw cpos (keywordEach [] X.env)).all (fun x => x.1.isSome)
      && decide ((e :: es).length + ([] : List Keyword).length + (if ([] : List Keyword).isEmpty then 0 else 1) < 30)) = true := by rfl)
    (hline : (apos.endLine == cpos.line) = true := by rfl) (hs : starEach (e :: es) X.env = (false, eval e X.env) :: starEach es X.env := by rfl) (hplain : (backTo cpos (starEach es X.env)).any (·.1) = false := by rfl) :
    LE X (.Call (.Attribute o name apos) (e :: es) [] cpos) (lBM T c to t) :=
  ⟨PE.imp (pe_bm pa slot hty hm ho.pe ha.pa hbase hfew hline hs hplain) fun σ H Q ⟨m, env, h, P, at_, t1, k⟩ => ⟨m, env, h, _, at_, t1, fun x h1 p1 m1 H1 v E1 R1 r1 =>
    ⟨isTy_sim R1 r1 p1.1, m1, env, h1, _, at_.ex E1 R1, p1.2, fun vs h2 p2 m2 H2 xs E2 R2 r2 => s _ _ _ _ _ _ _ _ _ R2 (RelE.ex E2 _ _ r1) r2 p2 (k.ex (E1.trans E2))⟩⟩⟩
end
def LIxR (X : Cx) (o : LO) : Prop := ∃ r, IxR X r ∧ LOp X.K r o
theorem le_ix {X : Cx} {a b : Expr} {ta tb : LT} {o : LO} {pos : Pos} (hr : LIxR X o) (ha : LE X a ta) (hb : LE X b tb) (hs : PlainIx b := by exact fun _ _ => rfl) : LE X (.Subscript a b pos) (lOp o ta tb) := by
  obtain ⟨r, h, s⟩ := hr
  exact ⟨PE.imp (pe_ix h ha.pe hb.pe hs) (up_bin s)⟩
def ixE : LO := fun v w h P => match w with
  | .int i => match v with
    | .tup xs => match atI xs i with
      | some x => P x h
      | none => False
    | .ktup xs => match atI xs i with
      | some x => P x h
      | none => False
    | .str s => s.length ≤ sizeLine ∧ match atI s i with
      | some x => P (.str [x]) h
      | none => False
    | .ref r => match h[r]? with
      | some (.lst xs) => match atI xs i with
        | some x => P x h
        | none => False
      | some (.frz xs) => match atI xs i with
        | some x => P x h
        | none => False
      | _ => False
    | _ => False
  | _ => False
theorem RelEs.atI {K : PySem.W.Frag} {m : Nat → Addr} {n : Nat} {H : Hp} {es : List EV} {vs : List V} {i : Int} {x : EV} (r : RelEs K m n H es vs) (e : atI es i = some x) : ∃ v, L2.atI vs i = some v ∧ RelE K m n H x v := by
  unfold L2.atI at e ⊢
  rw [← r.length]
  cases q : ixN es.length i with
  | none => rw [q] at e; cases e
  | some j =>
    rw [q] at e
    exact r.at e
theorem lix {X : Cx} : LIxR X ixE := by
  refine ⟨_, ix_seq, ?_⟩
  intro m h H v w x y P Q R rx ry q k
  unfold ixE at q
  split at q
  · rw [RelE] at ry
    subst ry
    split at q
    · rw [RelE] at rx
      obtain ⟨a, vs, rfl, hs, r⟩ := rx
      split at q
      · rename_i e
        obtain ⟨u, a1, r1⟩ := r.atI e
        exact .inr (.inl ⟨_, _, _, u, rfl, rfl, SqT.of hs, a1, k.same R q r1⟩)
      · exact q.elim
    · rw [RelE] at rx
      obtain ⟨a, vs, rfl, hs, r⟩ := rx
      split at q
      · rename_i e
        obtain ⟨u, a1, r1⟩ := r.atI e
        exact .inr (.inl ⟨_, _, _, u, rfl, rfl, hs, a1, k.same R q r1⟩)
      · exact q.elim
    · rw [RelE] at rx
      subst rx
      obtain ⟨q1, q⟩ := q
      split at q
      · rename_i e
        exact .inr (.inr ⟨_, _, _, rfl, rfl, by rw [S_len]; exact q1, by simpa using e, k.same R q (by rw [RelE])⟩)
      · exact q.elim
    · rw [RelE] at rx
      obtain ⟨_, rfl⟩ := rx
      split at q
      · rename_i e
        obtain ⟨vs, a, r⟩ := R.obj _ _ e
        split at q
        · rename_i e
          obtain ⟨u, a1, r1⟩ := r.atI e
          exact .inl ⟨_, _, _, u, rfl, rfl, SqL.of a, a1, k.same R q r1⟩
        · exact q.elim
      · rename_i e
        obtain ⟨vs, a, r⟩ := R.obj _ _ e
        split at q
        · rename_i e
          obtain ⟨u, a1, r1⟩ := r.atI e
          exact .inl ⟨_, _, _, u, rfl, rfl, a.sql, a1, k.same R q r1⟩
        · exact q.elim
      · exact q.elim
    · exact q.elim
  · exact q.elim
abbrev LO_ := En → EH → (Option Int → EH → Prop) → Prop
def lPart : Option LT → LO_
  | none => fun _ h P => P none h
  | some t => fun env h P => t env h fun v h1 => match v with
    | .int i => P (some i) h1
    | _ => False
def upO (K : PySem.W.Frag) (t : LO_) : L2.St → Hp → (Option Int → Hp → Prop) → Prop := fun σ H Q => ∃ m env h P, At K env h m σ H ∧ t env h P ∧
  ∀ b h', P b h' → ∀ (m' : Nat → Addr) (H' : Hp), Ex K m h.length H m' h'.length H' → RelH K m' h' H' → Q b H'
def LPo (X : Cx) (e : Option Expr) (t : LO_) : Prop := ∃ u, PO X e u ∧ ∀ σ H Q, upO X.K t σ H Q → u σ H Q
theorem lpo_none {X : Cx} : LPo X none (lPart none) := ⟨_, po_none, fun σ H Q ⟨m, env, h, P, at_, t1, k⟩ => k _ _ t1 m H .refl at_.hp⟩
theorem lpo_some {X : Cx} {e : Expr} {t : LT} (he : LE X e t) : LPo X (some e) (lPart (some t)) := by
  refine ⟨_, po_some he.pe, fun σ H Q ⟨m, env, h, P, at_, t1, k⟩ => ⟨m, env, h, _, at_, t1, fun v h1 p1 m1 H1 x E1 R1 r1 => ?_⟩⟩
  cases v with
  | int i =>
    rw [RelE] at r1
    exact ⟨i, r1, k _ _ p1 m1 H1 E1 R1⟩
  | _ => exact p1.elim
def cut {α : Type} (xs : List α) (lo hi : Option Int) : List α := (xs.drop (HT.sIx xs.length 0 lo)).take (HT.sIx xs.length xs.length hi - HT.sIx xs.length 0 lo)
abbrev LSlc := EV → Option Int → Option Int → EH → EK → Prop
def slE : LSlc := fun v lo hi h P => match v with
  | .tup xs => P (.tup (cut xs lo hi)) h
  | .str s => s.length ≤ sizeLine ∧ P (.str (cut s lo hi)) h
  | .ref r => match h[r]? with
    | some (.lst xs) => P (.ref h.length) (h ++ [.lst (cut xs lo hi)])
    | some (.frz xs) => P (.ref h.length) (h ++ [.lst (cut xs lo hi)])
    | _ => False
  | _ => False
def lSl (to : LT) (tl th : LO_) : LT := fun env h P => to env h fun x h1 => tl env h1 fun l h2 => th env h2 fun u h3 => slE x l u h3 P
theorem RelEs.cut {K : PySem.W.Frag} {m : Nat → Addr} {n : Nat} {H : Hp} {es : List EV} {vs : List V} {lo hi : Option Int} (r : RelEs K m n H es vs) : RelEs K m n H (cut es lo hi) (cutV vs lo hi) := by
  unfold Y.cut cutV
  rw [← r.length]
  exact RelEs.take _ (RelEs.drop _ r)
theorem cut_S (s : List Nat) (lo hi : Option Int) : cutS (S s) lo hi = S (cut s lo hi) := by
  unfold cutS Y.cut
  rw [S_len]
theorem cut_all {α : Type} {xs : List α} {lo hi : Option Int} (h : HT.sIx xs.length 0 lo = 0 ∧ HT.sIx xs.length xs.length hi = xs.length) : cut xs lo hi = xs := by
  unfold cut
  rw [h.1, h.2]
  simp
theorem le_slice {X : Cx} {e : Expr} {lo hi : Option Expr} {to : LT} {tl th : LO_} {p2 pos : Pos} (he : LE X e to) (hl : LPo X lo tl) (hu : LPo X hi th) : LE X (.Subscript e (.Slice lo hi none p2) pos) (lSl to tl th) := by
  obtain ⟨u1, h1, s1⟩ := hl
  obtain ⟨u2, h2, s2⟩ := hu
  refine ⟨PE.imp (pe_slice (SlR.or sl_list (SlR.or sl_tupA sl_str)) he.pe h1 h2) fun σ H Q ⟨m, env, h, P, at_, t1, k⟩ => ⟨m, env, h, _, at_, t1, fun v h1 p1 m1 H1 x E1 R1 r1 => s1 _ _ _ ⟨m1, env, h1, _, at_.ex E1 R1, p1, fun l h2 p2 m2 H2 E2 R2 =>
    s2 _ _ _ ⟨m2, env, h2, _, (at_.ex E1 R1).ex E2 R2, p2, fun u h3 p3 m3 H3 E3 R3 => ?_⟩⟩⟩⟩
  have r3 := RelE.ex (E2.trans E3) _ _ r1
  have k3 := k.ex ((E1.trans E2).trans E3)
  unfold slE at p3
  split at p3
  · rename_i xs
    rw [RelE] at r3
    obtain ⟨a, vs, rfl, hs, r⟩ := r3
    refine .inr (.inl ⟨a, vs, rfl, SqT.of hs, fun w => ?_, fun _ p hp => k3.tup R3 p3 r.cut hp⟩)
    rw [← r.length] at w
    rw [cut_all w] at p3
    exact k3.same R3 p3 (by rw [RelE]; exact ⟨a, vs, rfl, hs, r⟩)
  · rw [RelE] at r3
    subst r3
    exact .inr (.inr ⟨_, rfl, by rw [S_len]; exact p3.1, by rw [cut_S]; exact k3.same R3 p3.2 (by rw [RelE])⟩)
  · rw [RelE] at r3
    obtain ⟨_, rfl⟩ := r3
    split at p3
    · rename_i e
      obtain ⟨vs, a, r⟩ := R3.obj _ _ e
      exact .inl ⟨_, _, rfl, SqL.of a, fun p hp => k3.lst R3 p3 r.cut hp⟩
    · rename_i e
      obtain ⟨vs, a, r⟩ := R3.obj _ _ e
      exact .inl ⟨_, _, rfl, a.sql, fun p hp => k3.lst R3 p3 r.cut hp⟩
    · exact p3.elim
  · exact p3.elim
end Y

namespace Y
open PySem PySem.Spec PyProof.Rows L2

def lNext : LS := fun D env h => D.nx env h
def lSeq (t u : LS) : LS := fun D env h => t { D with nx := u D } env h
def lDrop (t : LT) : LS := fun D env h => t env h fun _ h1 => D.nx env h1
def lRet (t : LT) : LS := fun D env h => t env h D.rt
def lRetN : LS := fun D _ h => D.rt .non h
def lIfS (c : LTt) (t u : LS) : LS := fun D env h => c env h fun b h1 => if b = true then t D env h1 else u D env h1
section
variable {X : Cx} {st : Stmt} {rest a b : List Stmt} {t u : LS} {e c : Expr} {te : LT} {tc : LTt} {pos : Pos}
theorem lss_nil : LSs X [] lNext := ⟨PSs.imp pss_nil fun D σ H ⟨m, env, h, P, at_, t1, k⟩ => k.nx _ _ t1 m H σ .refl at_⟩
theorem lss_cons (h1 : LSt X st t) (h2 : LSs X rest u) : LSs X (st :: rest) (lSeq t u) := by
  refine ⟨PSs.imp (pss_cons h1.ps h2.pss) fun D σ H ⟨m, env, h, P, at_, t1, k⟩ => ⟨m, env, h, { P with nx := u P }, at_, t1, ⟨?_, k.rt, k.bk, k.ct⟩⟩⟩
  intro env' h' p m' H' σ' E a
  exact ⟨m', env', h', P, a, p, k.ex E⟩
theorem lss_one (h1 : LSt X st t) : LSs X [st] t := ⟨pss_one h1.ps⟩
theorem ls_expr (he : LE X e te) (hs : swapsWith e none pos.line X.env = pure false := by rfl) : LSt X (.Expr e pos) (lDrop te) :=
  ⟨PS.imp (ps_expr he.pe hs) fun D σ H ⟨m, env, h, P, at_, t1, k⟩ => ⟨m, env, h, _, at_, t1, fun v h1 p1 m1 H1 x E1 R1 r1 => k.nx _ _ p1 m1 H1 σ E1 (at_.ex E1 R1)⟩⟩
theorem ls_ret (he : LE X e te) : LSt X (.Return (some e) pos) (lRet te) :=
  ⟨PS.imp (ps_ret he.pe) fun D σ H ⟨m, env, h, P, at_, t1, k⟩ => ⟨m, env, h, _, at_, t1, k.rt⟩⟩
theorem ls_if (hc : LTe X c tc) (ha : LSs X a t) (hb : LSs X b u) : LSt X (.If c a b pos) (lIfS tc t u) := by
  refine ⟨PS.imp (ps_if hc.pt ha.pss hb.pss) fun D σ H ⟨m, env, h, P, at_, t1, k⟩ => ⟨m, env, h, _, at_, t1, fun c h1 p1 m1 H1 E1 R1 => ?_⟩⟩
  cases c with
  | true =>
    rw [if_pos rfl] at p1 ⊢
    exact ⟨m1, env, h1, P, at_.ex E1 R1, p1, k.ex E1⟩
  | false =>
    rw [if_neg Bool.false_ne_true] at p1 ⊢
    exact ⟨m1, env, h1, P, at_.ex E1 R1, p1, k.ex E1⟩
def lNever : LS := fun _ _ _ => False
theorem ls_never : LSt X st lNever := ⟨PS.imp ps_never fun D σ H ⟨m, env, h, P, at_, t1, k⟩ => t1⟩
end
inductive Pat where
  | nm (i : Nat)
  | tp (ps : List Pat)
mutual
def Pat.bind (h : EH) : Pat → EV → En → Option En
  | .nm i, v, env => some (env.set i (some v))
  | .tp ps, .tup vs, env => Pat.binds h ps vs env
  | .tp ps, .ref r, env => match h[r]? with
    | some (.lst vs) => Pat.binds h ps vs env
    | _ => none
  | .tp _, _, _ => none
def Pat.binds (h : EH) : List Pat → List EV → En → Option En
  | [], [], env => some env
  | p :: ps, v :: vs, env => match Pat.bind h p v env with
    | some e => Pat.binds h ps vs e
    | none => none
  | _, _, _ => none
end
def gSq (K : PySem.W.Frag) (n : Nat) (t : TGs) : TG := fun v σ H Q => gTup K n t v σ H Q ∨ gLst K n t v σ H Q
theorem pg_sq {X : Cx} {es : List Expr} {k : Nat} {t : TGs} {n : Nat} {pos : Pos} (hc : X.calm = true) (h : PGs X es t)
    (hn : (assignEach es X.env).length = n := by rfl) (hst : (assignEach es X.env).findIdx? (·.1) = none := by rfl) : PG X (.Tuple es k pos) (gSq X.K n t) :=
  ⟨fun pins s σ H v u Q I r hw => hw.elim (fun w => (pg_tup (k := k) (pos := pos) hc h hn hst).run pins s σ H v u Q I r w) fun w => (pg_lst (k := k) (pos := pos) hc h hn hst).run pins s σ H v u Q I r w⟩
mutual
def gP (K : PySem.W.Frag) : Pat → TG
  | .nm i => gName i
  | .tp ps => gSq K ps.length (gPs K ps)
def gPs (K : PySem.W.Frag) : List Pat → TGs
  | [] => gNil
  | p :: ps => gCons (gP K p) (gPs K ps)
end
mutual
def Pat.slots : Pat → List Nat
  | .nm i => [i]
  | .tp ps => Pat.slotsAll ps
def Pat.slotsAll : List Pat → List Nat
  | [] => []
  | p :: ps => Pat.slots p ++ Pat.slotsAll ps
end
section
variable {K : PySem.W.Frag} {m : Nat → Addr} {n : Nat} {H : Hp} {h : EH}
theorem RelN.set {env : En} {σ : L2.St} {v : EV} {x : V} (R : RelN K m n H env σ) (r : RelE K m n H v x) (i : Nat) : RelN K m n H (env.set i (some v)) (σ.set i (some x)) := by
  refine ⟨by simpa using R.1, fun j w hj => ?_⟩
  by_cases e : i = j
  · subst e
    have hl : i < env.length := by
      have := (List.getElem?_eq_some_iff.mp hj).1
      simpa using this
    rw [List.getElem?_set_self hl] at hj
    cases hj
    exact ⟨x, List.getElem?_set_self (by rw [← R.1]; exact hl), r⟩
  · rw [List.getElem?_set_ne e] at hj
    obtain ⟨y, a, b⟩ := R.2 j w hj
    exact ⟨y, by rw [List.getElem?_set_ne e]; exact a, b⟩
mutual
theorem Pat.sim (RH : RelH K m h H) : ∀ (p : Pat) (v : EV) (x : V) (env env' : En) (σ : L2.St), RelN K m h.length H env σ → RelE K m h.length H v x → Pat.bind h p v env = some env' →
    ∃ σ', (∀ Q, Q σ' H → gP K p x σ H Q) ∧ RelN K m h.length H env' σ' ∧ (∀ i, i ∉ Pat.slots p → σ'[i]? = σ[i]?) ∧ σ'.length = σ.length
  | .nm i, v, x, env, env', σ, R, r, e => by
    rw [Pat.bind] at e
    cases e
    refine ⟨σ.set i (some x), fun Q q => by rw [gP]; exact q, R.set r i, fun j hj => ?_, by simp⟩
    rw [Pat.slots] at hj
    exact List.getElem?_set_ne (fun z => hj (by simp [z]))
  | .tp ps, .tup vs, x, env, env', σ, R, r, e => by
    rw [Pat.bind] at e
    rw [RelE] at r
    obtain ⟨a, xs, rfl, hs, r⟩ := r
    obtain ⟨σ', f, R', s, l, z⟩ := Pat.sims RH ps vs xs env env' σ R r e
    refine ⟨σ', fun Q q => ?_, R', fun j hj => s j (by rw [Pat.slots] at hj; exact hj), z⟩
    rw [gP]
    exact .inl ⟨a, xs, rfl, SqT.of hs, l, f Q q⟩
  | .tp ps, .non, x, env, env', σ, R, r, e => by simp [Pat.bind] at e
  | .tp ps, .ktup _, x, env, env', σ, R, r, e => by simp [Pat.bind] at e
  | .tp ps, .bl _, x, env, env', σ, R, r, e => by simp [Pat.bind] at e
  | .tp ps, .int _, x, env, env', σ, R, r, e => by simp [Pat.bind] at e
  | .tp ps, .str _, x, env, env', σ, R, r, e => by simp [Pat.bind] at e
  | .tp ps, .ref q, x, env, env', σ, R, r, e => by
    rw [Pat.bind] at e
    rw [RelE] at r
    obtain ⟨_, rfl⟩ := r
    split at e
    · rename_i vs e1
      obtain ⟨xs, a, r2⟩ := RH.obj _ _ e1
      obtain ⟨σ', f, R', s, l, z⟩ := Pat.sims RH ps vs xs env env' σ R r2 e
      refine ⟨σ', fun Q q => ?_, R', fun j hj => s j (by rw [Pat.slots] at hj; exact hj), z⟩
      rw [gP]
      exact .inr ⟨_, xs, rfl, SqL.of a, l, f Q q⟩
    · cases e
  | .tp ps, .adr _, x, env, env', σ, R, r, e => by simp [Pat.bind] at e
  | .tp ps, .ty _, x, env, env', σ, R, r, e => by simp [Pat.bind] at e
theorem Pat.sims (RH : RelH K m h H) : ∀ (ps : List Pat) (vs : List EV) (xs : List V) (env env' : En) (σ : L2.St), RelN K m h.length H env σ → RelEs K m h.length H vs xs → Pat.binds h ps vs env = some env' →
    ∃ σ', (∀ Q, Q σ' H → gPs K ps xs σ H Q) ∧ RelN K m h.length H env' σ' ∧ (∀ i, i ∉ Pat.slotsAll ps → σ'[i]? = σ[i]?) ∧ xs.length = ps.length ∧ σ'.length = σ.length
  | [], [], xs, env, env', σ, R, r, e => by
    rw [Pat.binds] at e
    cases e
    rw [RelEs] at r
    subst r
    exact ⟨σ, fun Q q => by rw [gPs]; exact ⟨rfl, q⟩, R, fun _ _ => rfl, rfl, rfl⟩
  | [], _ :: _, xs, env, env', σ, R, r, e => by simp [Pat.binds] at e
  | _ :: _, [], xs, env, env', σ, R, r, e => by simp [Pat.binds] at e
  | p :: ps, v :: vs, xs, env, env', σ, R, r, e => by
    rw [Pat.binds] at e
    rw [RelEs] at r
    obtain ⟨x, l, rfl, r1, r2⟩ := r
    split at e
    · rename_i env1 e1
      obtain ⟨σ1, f1, R1, s1, z1⟩ := Pat.sim RH p v x env env1 σ R r1 e1
      obtain ⟨σ2, f2, R2, s2, l2, z2⟩ := Pat.sims RH ps vs l env1 env' σ1 R1 r2 e
      refine ⟨σ2, fun Q q => ?_, R2, fun j hj => ?_, by simp [l2], z2.trans z1⟩
      · rw [gPs]
        exact ⟨x, l, rfl, f1 _ (f2 Q q)⟩
      · rw [Pat.slotsAll] at hj
        rw [s2 j (fun z => hj (List.mem_append_right _ z)), s1 j (fun z => hj (List.mem_append_left _ z))]
    · cases e
end
end
structure LG (X : Cx) (tg : Expr) (p : Pat) : Prop where
  pg : PG X tg (gP X.K p)
structure LGs (X : Cx) (ts : List Expr) (ps : List Pat) : Prop where
  pgs : PGs X ts (gPs X.K ps)
section
variable {X : Cx} {pos : Pos}
theorem lg_name (i : Nat) {x : Str} (hN : X.N.Nodup) (hi : X.N[i]? = some x := by rfl) (hx : Loc X.env.scope x := by first | exact Or.inl rfl | exact Or.inr rfl) (hf : X.fn x = true ∨ X.env.scope.names.lookup x = some .local := by first | exact .inl rfl | exact .inr rfl) : LG X (.Name x pos) (.nm i) :=
  ⟨by rw [gP]; exact pg_name hN hi hx hf⟩
theorem lgs_nil : LGs X [] [] := ⟨by rw [gPs]; exact pgs_nil⟩
theorem lgs_cons {e : Expr} {es : List Expr} {p : Pat} {ps : List Pat} (h1 : LG X e p) (h2 : LGs X es ps) (hs : (assignEach (e :: es) X.env).map (·.2) = assign e X.env :: (assignEach es X.env).map (·.2) := by rfl) : LGs X (e :: es) (p :: ps) :=
  ⟨by rw [gPs]; exact pgs_cons h1.pg h2.pgs hs⟩
theorem lg_tup {es : List Expr} {k : Nat} {ps : List Pat} (hc : X.calm = true) (h : LGs X es ps) (hn : (assignEach es X.env).length = ps.length := by rfl) (hst : (assignEach es X.env).findIdx? (·.1) = none := by rfl) : LG X (.Tuple es k pos) (.tp ps) :=
  ⟨by rw [gP]; exact pg_sq hc h.pgs hn hst⟩
end
def lBind (h : EH) (p : Pat) (v : EV) (env : En) (P : En → Prop) : Prop := match Pat.bind h p v env with
  | some e => P e
  | none => False
theorem bind_sim {K : PySem.W.Frag} {m : Nat → Addr} {h : EH} {H : Hp} {p : Pat} {v : EV} {x : V} {env : En} {σ : L2.St} {P : En → Prop} (RH : RelH K m h H) (R : RelN K m h.length H env σ) (r : RelE K m h.length H v x) (q : lBind h p v env P) :
    ∃ env' σ', P env' ∧ (∀ Q, Q σ' H → gP K p x σ H Q) ∧ RelN K m h.length H env' σ' ∧ (∀ i, i ∉ Pat.slots p → σ'[i]? = σ[i]?) ∧ σ'.length = σ.length := by
  unfold lBind at q
  split at q
  · rename_i env' e
    obtain ⟨σ', f, R', s⟩ := Pat.sim RH p v x env env' σ R r e
    exact ⟨env', σ', q, f, R', s⟩
  · exact q.elim
def lAsg (te : LT) (p : Pat) : LS := fun D env h => te env h fun v h1 => lBind h1 p v env fun env' => D.nx env' h1
def lSet (te : LT) (i : Nat) : LS := fun D env h => te env h fun v h1 => D.nx (env.set i (some v)) h1
section
variable {X : Cx} {pos : Pos}
theorem ls_asg {tg e : Expr} {te : LT} {p : Pat} (he : LE X e te) (hg : LG X tg p) (hs : swapsWithSole [tg] e pos.line X.env = pure false := by rfl) (hw : swappedStores [tg] e X.env = pure none := by rfl)
    (h1 : (assignEach [tg] X.env).map (·.2) = [assign tg X.env] := by rfl) : LSt X (.Assign [tg] e pos) (lAsg te p) :=
  ⟨PS.imp (ps_asg he.pe hg.pg hs hw h1) fun D σ H ⟨m, env, h, P, at_, t1, k⟩ => ⟨m, env, h, _, at_, t1, fun v h1 p1 m1 H1 x E1 R1 r1 => by
    obtain ⟨env', σ', q, f, R', _, _⟩ := bind_sim R1 (at_.nm.ex E1) r1 p1
    exact f _ (k.nx _ _ q m1 H1 σ' E1 ⟨R1, R'⟩)⟩⟩
theorem ls_set (i : Nat) {x : Str} {e : Expr} {te : LT} {pos' : Pos} (hN : X.N.Nodup) (he : LE X e te) (hi : X.N[i]? = some x := by rfl) (hx : Loc X.env.scope x := by first | exact Or.inl rfl | exact Or.inr rfl) (hs : swapsWith e (some (.Name x pos')) pos.line X.env = pure false := by rfl)
    (hf : X.fn x = true ∨ X.env.scope.names.lookup x = some .local := by first | exact .inl rfl | exact .inr rfl) : LSt X (.Assign [.Name x pos'] e pos) (lSet te i) :=
  ⟨PS.imp (ps_set hN hi hx he.pe hs hf) fun D σ H ⟨m, env, h, P, at_, t1, k⟩ => ⟨m, env, h, _, at_, t1, fun v h1 p1 m1 H1 x E1 R1 r1 => k.nx _ _ p1 m1 H1 _ E1 ⟨R1, (at_.nm.ex E1).set r1 i⟩⟩⟩
def lPar (i j : Nat) (ta : LA) : LS := fun D env h => ta env h fun vs h1 => match vs with
  | [v, w] => D.nx ((env.set i (some v)).set j (some w)) h1
  | _ => False
theorem ls_par (i j : Nat) {x y : Str} {a b : Expr} {ta : LA} {px py pt : Pos} {kt k2 pt2} (hc : X.calm = true) (hN : X.N.Nodup) (ha : LAs X [a, b] ta) (hi : X.N[i]? = some x := by rfl) (hj : X.N[j]? = some y := by rfl) (hij : i ≠ j := by decide)
    (hx : X.env.scope.names.lookup x = some .local := by rfl) (hy : X.env.scope.names.lookup y = some .local := by rfl)
    (hw : swappedStores [.Tuple [.Name x px, .Name y py] kt pt] (.Tuple [a, b] k2 pt2) X.env = pure (some [x, y]) := by rfl)
    (hs : swapsWithSole [.Tuple [.Name x px, .Name y py] kt pt] (.Tuple [a, b] k2 pt2) pos.line X.env = pure false := by rfl) :
    LSt X (.Assign [.Tuple [.Name x px, .Name y py] kt pt] (.Tuple [a, b] k2 pt2) pos) (lPar i j ta) := by
  refine ⟨PS.imp (ps_par hc hN hi hj hij hx hy ha.pa hw hs) fun D σ H ⟨m, env, h, P, at_, t1, k⟩ => ⟨m, env, h, _, at_, t1, fun vs h1 p1 m1 H1 xs E1 R1 r1 => ?_⟩⟩
  split at p1
  · obtain ⟨v, w, rfl, a, b⟩ := r1.two_inv
    exact ⟨v, w, rfl, k.nx _ _ p1 m1 H1 _ E1 ⟨R1, ((at_.nm.ex E1).set a i).set b j⟩⟩
  · exact p1.elim
def setE (o i v : EV) (h : EH) (P : EH → Prop) : Prop := match o, i with
  | .ref r, .int k => match h[r]? with
    | some (.lst xs) => match ixN xs.length k with
      | some j => P (h.set r (.lst (xs.set j v)))
      | none => False
    | _ => False
  | _, _ => False
theorem set_sim {K : PySem.W.Frag} {m : Nat → Addr} {h : EH} {H : Hp} {o i v : EV} {x y z : V} {P : EH → Prop} {Q : Hp → Prop} (R : RelH K m h H) (rx : RelE K m h.length H o x) (ry : RelE K m h.length H i y) (rz : RelE K m h.length H v z) (q : setE o i v h P)
    (k : ∀ h', P h' → ∀ H', Ex K m h.length H m h'.length H' → RelH K m h' H' → Q H') : rSetL x y z H Q := by
  unfold setE at q
  split at q
  · rw [RelE] at rx
    rw [RelE] at ry
    obtain ⟨_, rfl⟩ := rx
    subst ry
    split at q
    · rename_i ls e
      obtain ⟨vs, a, r⟩ := R.obj _ _ e
      split at q
      · rename_i j ej
        refine ⟨_, vs, _, j, rfl, rfl, a, by rw [← r.length]; exact ej, ?_⟩
        have E := Ex.write (o := .lst (vs.set j z)) (e' := EO.lst (List.set ls j v)) R e
        exact k _ q _ E (R.write e ⟨_, upd_same, RelEs.set (RelE.ex E _ _ rz) j (RelEs.ex E _ _ r)⟩)
      · exact q.elim
    · exact q.elim
  · exact q.elim
def lSetI (to ti te : LT) : LS := fun D env h => te env h fun v h1 => to env h1 fun o h2 => ti env h2 fun i h3 => setE o i v h3 fun h4 => D.nx env h4
def getE (v w : EV) (h : EH) (P : EV → Prop) : Prop := match v, w with
  | .ref r, .int i => match h[r]? with
    | some (.lst xs) => 0 ≤ i ∧ match xs[i.toNat]? with
      | some x => P x
      | none => False
    | _ => False
  | _, _ => False
def lAugS (f : Int → Int → Int) (to ti te : LT) : LS := fun D env h => to env h fun o h1 => ti env h1 fun i h2 => getE o i h2 fun x => te env h2 fun y h4 => match x, y with
  | .int a, .int b => setE o i (.int (f a b)) h4 fun h5 => D.nx env h5
  | _, _ => False
def rGetN (K : PySem.W.Frag) : R2 := fun o i H Q => ∃ (p : Addr) (xs : List V) (k : Int) (x : V), o = .ref p ∧ i = .int k ∧ SqL K H p xs ∧ 0 ≤ k ∧ xs[k.toNat]? = some x ∧ Q x H
theorem pget_list : PGet X (rGetN X.K) := by
  intro pins s σ H o i ov iv Q I ro ri q
  obtain ⟨p, xs, k, x, rfl, rfl, hq, h0, hx, q⟩ := q
  cases ro
  obtain ⟨t, rfl⟩ := ri
  obtain ⟨its, rv, pl, hz⟩ := I.list hq
  obtain ⟨u, hu, ru⟩ := rv.get hx
  have hlt := (List.getElem?_eq_some_iff.mp hx).1
  have hs : sizeLine = 16777216 := by decide
  exact wpAny_getItem_list pl.isList h0 (by omega) (by simpa using hu) ⟨x, H, I, ru, q⟩
theorem ls_augS {o i e : Expr} {to ti te : LT} {op : Operator} {f : Int → Int → Int} {tpos : Pos} (hp : PIp X op (ipI f)) (ho : LE X o to) (hi : LE X i ti) (he : LE X e te)
    (ha : ∀ ov iv new, augStore i ov iv new = (do holding [new, ov, iv] (setItem ov iv new); release [new, ov, iv] []; pure .next) := by intros; rfl) : LSt X (.AugAssign (.Subscript o i tpos) op e pos) (lAugS f to ti te) := by
  refine ⟨PS.imp (ps_augS ho.pe hi.pe pget_list he.pe hp set_list ha) fun D σ H ⟨m, env, h, P, at_, t1, k⟩ => ⟨m, env, h, _, at_, t1, fun o h1 p1 m1 H1 x E1 R1 r1 => ⟨m1, env, h1, _, at_.ex E1 R1, p1, fun i h2 p2 m2 H2 y E2 R2 r2 => ?_⟩⟩⟩
  have ro2 := RelE.ex E2 _ _ r1
  unfold getE at p2
  split at p2
  · have ro := ro2
    have ri := r2
    rw [RelE] at ro
    rw [RelE] at ri
    obtain ⟨_, e1⟩ := ro
    split at p2
    · rename_i ls e
      obtain ⟨vs, a, r⟩ := R2.obj _ _ e
      obtain ⟨h0, p2⟩ := p2
      split at p2
      · rename_i w ew
        obtain ⟨u, hu, ru⟩ := r.at ew
        refine ⟨_, vs, _, u, e1, ri, SqL.of a, h0, hu, m2, env, h2, _, (at_.ex E1 R1).ex E2 R2, p2, fun v h3 p3 m3 H3 z E3 R3 r3 => ?_⟩
        have ru3 := RelE.ex E3 _ _ ru
        split at p3
        · rw [RelE] at ru3
          rw [RelE] at r3
          refine ⟨_, _, ru3, r3, ?_⟩
          exact set_sim R3 (RelE.ex E3 _ _ ro2) (RelE.ex E3 _ _ r2) (by rw [RelE]) p3 fun h4 p4 H4 E4 R4 => k.nx _ _ p4 m3 H4 σ (((E1.trans E2).trans E3).trans E4) ((((at_.ex E1 R1).ex E2 R2).ex E3 R3).ex E4 R4)
        · exact p3.elim
      · exact p2.elim
    · exact p2.elim
  · exact p2.elim
end
abbrev LI := En → EH → ((EH → Prop) → List EV → EH → Prop) → Prop
def SimIt (K : PySem.W.Frag) (m : Nat → Addr) (n : Nat) (H : Hp) (J : It) (g : EH → Prop) (xs : List EV) : Prop :=
  ∀ (i : Nat) (h' : EH) (m' : Nat → Addr) (H' : Hp), Ex K m n H m' h'.length H' → RelH K m' h' H' → g h' →
    (∀ x, xs[i]? = some x → J.go i H' ∧ ∀ v H2, J.yld i H' v H2 → Ex K m' h'.length H' m' h'.length H2 ∧ RelH K m' h' H2 ∧ RelE K m' h'.length H2 x v) ∧ (xs.length = i → J.stop i H')
def upI (K : PySem.W.Frag) (t : LI) : TI := fun σ H R => ∃ m env h P, At K env h m σ H ∧ t env h P ∧
  ∀ g xs h', P g xs h' → ∀ (m' : Nat → Addr) (H' : Hp) (J : It), Ex K m h.length H m' h'.length H' → RelH K m' h' H' → SimIt K m' h'.length H' J g xs → R J H'
structure LIt (X : Cx) (tg iter : Expr) (t : LI) : Prop where
  pi : PI X tg iter (upI X.K t)
def lTrue : EH → Prop := fun _ => True
def loopE (g : EH → Prop) (p : Pat) (tb : LS) (D : LEnds) : List EV → En → EH → Prop
  | [], env, h => g h ∧ D.nx env h
  | x :: xs, env, h => g h ∧ lBind h p x env fun env2 => tb { D with nx := loopE g p tb D xs, ct := loopE g p tb D xs, bk := D.nx } env2 h
def lFor (ti : LI) (p : Pat) (tb : LS) : LS := fun D env h => ti env h fun g xs h1 => loopE g p tb D xs env h1
section
variable {X : Cx} {pos : Pos}
theorem ls_for {tg iter : Expr} {body : List Stmt} {ti : LI} {p : Pat} {tb : LS} (hp : PassesOwn (model X.prog X.w) X.A X.env X.xe) (hc : X.calm = true) (hi : LIt X tg iter ti) (hg : LG X tg p) (hb : LSs X body tb)
    (hs : ∀ x, foldedSetIterable iter X.env x = pure x := by intro _; rfl) : LSt X (.For tg iter body [] pos) (lFor ti p tb) := by
  refine ⟨PS.imp (ps_for hp hc hi.pi hg.pg hb.pss hs) fun D σ H ⟨m, env, h, P, at_, t1, k⟩ => ⟨m, env, h, _, at_, t1, fun g xs h1 p1 m1 H1 J E1 R1 sim => ?_⟩⟩
  refine ⟨fun i c σ' H' => c = xs.length - i ∧ i ≤ xs.length ∧ ∃ m2 env2 h2, Ex X.K m1 h1.length H1 m2 h2.length H' ∧ At X.K env2 h2 m2 σ' H' ∧ loopE g p tb P (xs.drop i) env2 h2, ⟨xs.length, by simp, Nat.zero_le _, m1, env, h1, .refl, at_.ex E1 R1, by simpa using p1⟩, ?_⟩
  rintro i c σ' H' ⟨rfl, hi, m2, env2, h2, E2, a2, q⟩
  by_cases hlt : i < xs.length
  · have ed : xs.drop i = xs[i] :: xs.drop (i + 1) := List.drop_eq_getElem_cons hlt
    rw [ed, loopE] at q
    obtain ⟨qg, q⟩ := q
    obtain ⟨s1, s2⟩ := sim i h2 m2 H' E2 a2.hp qg
    obtain ⟨go, yl⟩ := s1 xs[i] (List.getElem?_eq_getElem hlt)
    refine .inr ⟨go, fun σ3 H3 => ∃ m3 env3 h3, Ex X.K m1 h1.length H1 m3 h3.length H3 ∧ At X.K env3 h3 m3 σ3 H3 ∧ loopE g p tb P (xs.drop (i + 1)) env3 h3, fun σ3 H3 ⟨m3, env3, h3, E3, a3, q3⟩ => ⟨xs.length - (i + 1), by omega, rfl, hlt, m3, env3, h3, E3, a3, q3⟩, fun v H3 y => ?_⟩
    obtain ⟨E3, R3, r3⟩ := yl v H3 y
    obtain ⟨env4, σ4, q4, f, R4, _, _⟩ := bind_sim R3 (a2.nm.ex E3) r3 q
    refine f _ ⟨m2, env4, h2, _, ⟨R3, R4⟩, q4, ?_⟩
    have E13 := E2.trans E3
    have k13 := k.ex (E1.trans E13)
    exact ⟨fun e5 h5 p5 m5 H5 σ5 E5 a5 => ⟨m5, e5, h5, E13.trans E5, a5, p5⟩, k13.rt, k13.nx, fun e5 h5 p5 m5 H5 σ5 E5 a5 => ⟨m5, e5, h5, E13.trans E5, a5, p5⟩⟩
  · have e : i = xs.length := by omega
    subst e
    rw [List.drop_length, loopE] at q
    obtain ⟨_, s2⟩ := sim xs.length h2 m2 H' E2 a2.hp q.1
    exact .inl ⟨s2 rfl, k.nx _ _ q.2 m2 H' σ' (E1.trans E2) a2⟩
def lIt (t : LT) : LI := fun env h P => t env h fun v h1 => match v with
  | .ref r => match h1[r]? with
    | some (.lst xs) => P (fun h' => h'[r]? = some (.lst xs)) xs h1
    | some (.frz xs) => P (fun h' => h'[r]? = some (.frz xs)) xs h1
    | _ => False
  | .tup xs => P lTrue xs h1
  | .ktup xs => P lTrue xs h1
  | .str s => P lTrue (s.map fun c => .str [c]) h1
  | _ => False
def iAny (K : PySem.W.Frag) (te : TE) : TI := fun σ H R => te σ H fun x H1 => (∃ a, x = .ref a ∧ (∃ xs, SqL K H1 a xs) ∧ R (Itl K a) H1) ∨ (∃ a, x = .ref a ∧ (∃ xs, SqT K H1 a xs) ∧ R (Itt K a) H1) ∨ ∃ z, x = .str z ∧ R (Its z) H1
theorem pi_any {tg e : Expr} {te : TE} (he : PE X e te) : PI X tg e (iAny X.K te) := by
  refine ⟨fun pins s σ H R I h => thn (he.run pins s σ H _ I h) fun v s1 ⟨x, H1, I1, r1, q⟩ => ?_⟩
  rcases q with ⟨a, rfl, ⟨xs, hq⟩, q⟩ | ⟨a, rfl, ⟨xs, hq⟩, q⟩ | ⟨z, rfl, q⟩
  · cases r1
    obtain ⟨its, rv, p, hz⟩ := I1.list hq
    exact wpAny_pyIter_list p.isList (pi_one (tk := s1.toks) I1 _ (turn_list a _) ⟨_, Heap.get?_push_size _ rfl, rfl, rfl⟩ q)
  · cases r1
    obtain ⟨its, rv, p, hz⟩ := I1.tuple hq
    exact wpAny_pyIter_tuple (show s1.heap.IsTuple a its.toArray from p) (pi_one (tk := s1.toks) I1 _ (turn_tuple a _) ⟨_, Heap.get?_push_size _ rfl, rfl, rfl⟩ q)
  · obtain ⟨t, rfl⟩ := r1
    cases ha : z.cps.all (· < 128)
    · exact wpAny_pyIter_wide ha (pi_one (tk := s1.toks) I1 _ (turn_str _ z t "str_iterator" (.inr rfl)) ⟨_, Heap.get?_push_size _ rfl, rfl, rfl⟩ q)
    · exact wpAny_pyIter_ascii ha (pi_one (tk := s1.toks) I1 _ (turn_str _ z t "str_ascii_iterator" (.inl rfl)) ⟨_, Heap.get?_push_size _ rfl, rfl, rfl⟩ q)
theorem SimIt.lst {K : PySem.W.Frag} {m : Nat → Addr} {n r : Nat} {H : Hp} {xs : List EV} {g : EH → Prop} (hr : r < n)
    (hh : ∀ h' m' H', Ex K m n H m' h'.length H' → RelH K m' h' H' → g h' → ∃ us, SqL K H' (m' r) us ∧ RelEs K m' h'.length H' xs us) : SimIt K m n H (Itl K (m r)) g xs := by
  intro i h' m' H' E' R' gh
  obtain ⟨us, s1, r1⟩ := hh h' m' H' E' R' gh
  rw [E'.eq r hr] at s1
  refine ⟨fun x hx => ?_, fun hi => ⟨us, s1, by rw [← r1.length]; exact Nat.le_of_eq hi⟩⟩
  obtain ⟨u, hu, ru⟩ := r1.at hx
  refine ⟨⟨us, u, s1, hu⟩, fun v H2 ⟨e, y⟩ => ?_⟩
  subst e
  have := y us s1
  rw [hu] at this
  cases this
  exact ⟨.refl, R', ru⟩
theorem lit_any {tg e : Expr} {t : LT} (he : LE X e t) : LIt X tg e (lIt t) := by
  refine ⟨PI.imp (pi_any he.pe) fun σ H R ⟨m, env, h, P, at_, t1, k⟩ => ⟨m, env, h, _, at_, t1, fun v h1 p1 m1 H1 x E1 R1 r1 => ?_⟩⟩
  split at p1
  · rename_i r
    rw [RelE] at r1
    obtain ⟨hr, rfl⟩ := r1
    split at p1
    · rename_i xs e
      obtain ⟨vs, a, r2⟩ := R1.obj _ _ e
      refine .inl ⟨_, rfl, ⟨vs, SqL.of a⟩, k _ xs h1 p1 m1 H1 _ E1 R1 (SimIt.lst hr fun h' m' H' E' R' gh => ?_)⟩
      obtain ⟨us, a', r'⟩ := R'.obj _ _ gh
      exact ⟨us, SqL.of a', r'⟩
    · rename_i xs e
      obtain ⟨vs, a, r2⟩ := R1.obj _ _ e
      refine .inl ⟨_, rfl, ⟨vs, a.sql⟩, k _ xs h1 p1 m1 H1 _ E1 R1 (SimIt.lst hr fun h' m' H' E' R' gh => ?_)⟩
      obtain ⟨us, a', r'⟩ := R'.obj _ _ gh
      exact ⟨us, a'.sql, r'⟩
    · exact p1.elim
  · rename_i xs
    rw [RelE] at r1
    obtain ⟨a, vs, rfl, hs, r2⟩ := r1
    refine .inr (.inl ⟨_, rfl, ⟨vs, SqT.of hs⟩, k _ xs h1 p1 m1 H1 _ E1 R1 fun i h' m' H' E' R' _ => ?_⟩)
    have hs' := E'.tup _ _ (SqT.of hs)
    have r' := RelEs.ex E' _ _ r2
    refine ⟨fun x hx => ?_, fun hi => ⟨vs, hs', by rw [← r'.length]; exact Nat.le_of_eq hi⟩⟩
    obtain ⟨u, hu, ru⟩ := r'.at hx
    refine ⟨⟨vs, u, hs', hu⟩, fun v H2 ⟨e, y⟩ => ?_⟩
    subst e
    have := y vs hs'
    rw [hu] at this
    cases this
    exact ⟨.refl, R', ru⟩
  · rename_i xs
    rw [RelE] at r1
    obtain ⟨a, vs, rfl, hs, r2⟩ := r1
    refine .inr (.inl ⟨_, rfl, ⟨vs, hs⟩, k _ xs h1 p1 m1 H1 _ E1 R1 fun i h' m' H' E' R' _ => ?_⟩)
    have hs' := E'.tup _ _ hs
    have r' := RelEs.ex E' _ _ r2
    refine ⟨fun x hx => ?_, fun hi => ⟨vs, hs', by rw [← r'.length]; exact Nat.le_of_eq hi⟩⟩
    obtain ⟨u, hu, ru⟩ := r'.at hx
    refine ⟨⟨vs, u, hs', hu⟩, fun v H2 ⟨e, y⟩ => ?_⟩
    subst e
    have := y vs hs'
    rw [hu] at this
    cases this
    exact ⟨.refl, R', ru⟩
  · rename_i s
    rw [RelE] at r1
    subst r1
    refine .inr (.inr ⟨_, rfl, k _ _ h1 p1 m1 H1 _ E1 R1 fun i h' m' H' E' R' _ => ?_⟩)
    refine ⟨fun x hx => ?_, fun hi => ?_⟩
    · rw [List.getElem?_map] at hx
      obtain ⟨c, hc, rfl⟩ := Option.map_eq_some_iff.mp hx
      have hl := (List.getElem?_eq_some_iff.mp hc).1
      refine ⟨by show i < s.toArray.size; simpa using hl, fun v H2 ⟨e, c', hc', y⟩ => ?_⟩
      subst e y
      have e2 : s[i]? = some c' := by simpa using hc'
      rw [hc] at e2
      cases e2
      exact ⟨.refl, R', by rw [RelE]⟩
    · show s.toArray.size ≤ i
      simpa using Nat.le_of_eq hi
  · exact p1.elim
def rangeL (lo : Int) (n : Nat) : List EV := (List.range n).map fun (i : Nat) => EV.int (lo + i)
def lRng1 (ta : LA) : LI := fun env h P => ta env h fun vs h1 => match vs with
  | [.int j] => (-(2 ^ 62) ≤ j ∧ j < 2 ^ 62) ∧ P lTrue (rangeL 0 j.toNat) h1
  | _ => False
def lRng2 (ta : LA) : LI := fun env h P => ta env h fun vs h1 => match vs with
  | [.int i, .int j] => (-(2 ^ 62) ≤ i ∧ i < 2 ^ 62 ∧ -(2 ^ 62) ≤ j ∧ j < 2 ^ 62) ∧ P lTrue (rangeL i (j - i).toNat) h1
  | _ => False
theorem SimIt.rng {K : PySem.W.Frag} {m : Nat → Addr} {n : Nat} {H : Hp} {lo : Int} {k : Nat} {g : EH → Prop} : SimIt K m n H (Itr lo k) g (rangeL lo k) := by
  intro i h' m' H' E' R' gh
  unfold rangeL
  refine ⟨fun x hx => ?_, fun hi => by show k ≤ i; simpa using Nat.le_of_eq hi⟩
  rw [List.getElem?_map] at hx
  obtain ⟨j, hj, rfl⟩ := Option.map_eq_some_iff.mp hx
  obtain ⟨hl, e⟩ := List.getElem?_eq_some_iff.mp hj
  rw [List.length_range] at hl
  rw [List.getElem_range] at e
  subst e
  refine ⟨hl, fun v H2 ⟨e1, e2⟩ => ?_⟩
  subst e1 e2
  exact ⟨.refl, R', by rw [RelE]⟩
theorem lit_range1 {tg a : Expr} {ta : LA} {p pos : Pos} (hg : Gl X "range") (hm : X.mg "range" = none) (ha : LAs X [a] ta) (hs : starEach [a] X.env = [(false, eval a X.env)] := by rfl) : LIt X tg (.Call (.Name "range" p) [a] [] pos) (lRng1 ta) := by
  refine ⟨PI.imp (pi_range1 hg hm ha.pa hs) fun σ H R ⟨m, env, h, P, at_, t1, k⟩ => ⟨m, env, h, _, at_, t1, fun vs h1 p1 m1 H1 xs E1 R1 r1 => ?_⟩⟩
  split at p1
  · obtain ⟨v, rfl, r2⟩ := r1.one_inv
    rw [RelE] at r2
    subst r2
    exact ⟨_, rfl, p1.1.1, p1.1.2, k _ _ h1 p1.2 m1 H1 _ E1 R1 SimIt.rng⟩
  · exact p1.elim
def wipeE (env : En) : List Nat → En
  | [] => env
  | v :: vs => (wipeE env vs).set v none
theorem RelN.wipe {K : PySem.W.Frag} {m : Nat → Addr} {n : Nat} {H : Hp} {env : En} {σ : L2.St} (R : RelN K m n H env σ) : ∀ vs, RelN K m n H (wipeE env vs) (wipe σ vs)
  | [] => R
  | v :: vs => by
    have r := RelN.wipe R vs
    unfold wipeE L2.wipe
    refine ⟨by simpa using r.1, fun j w hj => ?_⟩
    by_cases e : v = j
    · subst e
      have hl : v < (wipeE env vs).length := by
        have := (List.getElem?_eq_some_iff.mp hj).1
        simpa using this
      rw [List.getElem?_set_self hl] at hj
      cases hj
    · rw [List.getElem?_set_ne e] at hj ⊢
      exact r.2 j w hj
theorem wipe_at (σ : L2.St) : ∀ (vs : List Nat) (i : Nat), (wipe σ vs)[i]? = if i ∈ vs then (σ[i]?).map (fun _ => none) else σ[i]?
  | [], i => by simp [L2.wipe]
  | v :: vs, i => by
    unfold L2.wipe
    rw [List.getElem?_set, wipe_at σ vs i, wipe_length]
    by_cases e : v = i
    · subst e
      by_cases hl : v < σ.length
      · simp [hl]
      · simp [hl]
    · have : ¬ i = v := fun z => e z.symm
      simp [e, this]
theorem wipe_back {σ σ' : L2.St} {vs ss : List Nat} (h : ∀ i, i ∉ ss → σ'[i]? = (wipe σ vs)[i]?) (hs : ∀ i ∈ ss, i ∈ vs) (hl : σ'.length = σ.length) : wipe σ' vs = wipe σ vs := by
  refine List.ext_getElem? fun i => ?_
  rw [wipe_at, wipe_at]
  by_cases hv : i ∈ vs
  · rw [if_pos hv, if_pos hv]
    by_cases hi : i < σ.length
    · rw [List.getElem?_eq_getElem hi, List.getElem?_eq_getElem (by omega)]; rfl
    · rw [List.getElem?_eq_none (by omega), List.getElem?_eq_none (by omega)]
  · rw [if_neg hv, if_neg hv, h i fun z => hv (hs i z), wipe_at, if_neg hv]
structure LTs (X : Cx) (ifs : List Expr) (t : LTt) : Prop where
  pts : PTs X ifs (upT X.K t)
def lYes : LTt := fun _ h P => P true h
theorem PTs.imp {e : List Expr} {t t' : TT} (h : PTs X e t) (i : ∀ σ H Q, t' σ H Q → t σ H Q) : PTs X e t' := ⟨fun pins s σ H Q I q => h.run pins s σ H Q I (i σ H Q q)⟩
theorem lts_nil : LTs X [] lYes := ⟨PTs.imp pts_nil fun σ H Q ⟨m, env, h, P, at_, t1, k⟩ => k _ _ t1 m H .refl at_.hp⟩
theorem lts_one {c : Expr} {t : LTt} (h : LTe X c t) : LTs X [c] t := ⟨pts_one h.pt⟩
def lcE (g : EH → Prop) (p : Pat) (tt : LTt) (te : LT) (d : Nat) (env : En) (P : EK) : List EV → EH → Prop
  | [], h => g h ∧ P (.ref d) h
  | x :: xs, h => g h ∧ lBind h p x env fun env2 => tt env2 h fun b h3 => if b = true then te env2 h3 fun y h4 => match h4[d]? with
      | some (.lst acc) => acc.length < sizeLine ∧ lcE g p tt te d env P xs (h4.set d (.lst (acc ++ [y])))
      | _ => False
    else lcE g p tt te d env P xs h3
def lLc (ti : LI) (p : Pat) (tt : LTt) (te : LT) (vs : List Nat) : LT := fun env h P => ti env h fun g xs h1 => lcE g p tt te h1.length (wipeE env vs) P xs (h1 ++ [.lst []])
theorem le_lc {elt tg iter : Expr} {ifs : List Expr} {scope : Scope} (own : List (Str × Nat)) {ti : LI} {p : Pat} {tt : LTt} {te : LT} (hc : X.calm = true) (hN : X.N.Nodup) (hi : LIt X tg iter ti) (ok : BlkOk X.N X.env.scope scope own)
    (hp : ∀ i ∈ Pat.slots p, i ∈ own.map (·.2))
    (hg : ∀ (s : Shared) (H : Hp) (C : Addr) (cl : List (Str × Addr)) (fp : List Addr), LG (X.blk s H scope (compEnvC scope cl C X.env) fp) tg p)
    (ht : ∀ (s : Shared) (H : Hp) (C : Addr) (cl : List (Str × Addr)) (fp : List Addr), LTs (X.blk s H scope (compEnvC scope cl C X.env) fp) ifs tt)
    (he : ∀ (s : Shared) (H : Hp) (C : Addr) (cl : List (Str × Addr)) (fp : List Addr), LE (X.blk s H scope (compEnvC scope cl C X.env) fp) elt te) (hs : ∀ x, foldedSetIterable iter X.env x = pure x := by intro _; rfl) :
    LE X (.ListComp elt [⟨tg, iter, ifs, 0⟩] scope pos) (lLc ti p tt te (own.map (·.2))) := by
  refine ⟨PE.imp (pe_lc (g := gP X.K p) (tt := upT X.K tt) (te := up X.K te) hc hN hi.pi ok (fun s H C cl fp => (hg s H C cl fp).pg) (fun s H C cl fp => (ht s H C cl fp).pts) (fun s H C cl fp => (he s H C cl fp).pe) hs) fun σ H Q ⟨m, env, h, P, at_, t1, k⟩ => ⟨m, env, h, _, at_, t1, fun g xs h1 p1 m1 H1 J E1 R1 sim D hD => ?_⟩⟩
  have E2 : Ex X.K m1 h1.length H1 (mput m1 h1.length D) (h1 ++ [EO.lst []]).length (upd H1 D (.lst [])) := Ex.new hD
  have R2 : RelH X.K (mput m1 h1.length D) (h1 ++ [EO.lst []]) (upd H1 D (.lst [])) := R1.new hD ⟨[], upd_same, .nil⟩
  refine ⟨fun i c H' => c = xs.length - i ∧ i ≤ xs.length ∧ ∃ m2 h2, Ex X.K m1 h1.length H1 m2 h2.length H' ∧ RelH X.K m2 h2 H' ∧ m2 h1.length = D ∧ h1.length < h2.length ∧ lcE g p tt te h1.length (wipeE env (own.map (·.2))) P (xs.drop i) h2,
    ⟨xs.length, by simp, Nat.zero_le _, _, _, E2, R2, mput_at, by simp, by simpa using p1⟩, ?_⟩
  rintro i c H' ⟨rfl, hi, m2, h2, E3, R3, eD, lD, q⟩
  by_cases hlt : i < xs.length
  · have ed : xs.drop i = xs[i] :: xs.drop (i + 1) := List.drop_eq_getElem_cons hlt
    rw [ed, lcE] at q
    obtain ⟨qg, q⟩ := q
    obtain ⟨s1, s2⟩ := sim i h2 m2 H' E3 R3 qg
    obtain ⟨go, yl⟩ := s1 xs[i] (List.getElem?_eq_getElem hlt)
    refine .inr ⟨go, fun H4 => ∃ m4 h4, Ex X.K m1 h1.length H1 m4 h4.length H4 ∧ RelH X.K m4 h4 H4 ∧ m4 h1.length = D ∧ h1.length < h4.length ∧ lcE g p tt te h1.length (wipeE env (own.map (·.2))) P (xs.drop (i + 1)) h4,
      fun H4 q4 => ⟨xs.length - (i + 1), by omega, rfl, hlt, q4⟩, fun v H4 y => ?_⟩
    obtain ⟨E4, R4, r4⟩ := yl v H4 y
    have E14 := (E1.trans E3).trans E4
    obtain ⟨env5, σ5, q5, f, N5, keep, len⟩ := bind_sim R4 ((at_.nm.ex E14).wipe (own.map (·.2))) r4 q
    refine f _ ⟨wipe_back (ss := Pat.slots p) keep hp (by rw [len, wipe_length]), m2, env5, h2, _, ⟨R4, N5⟩, q5, fun b h6 p6 m6 H6 E6 R6 => ?_⟩
    have E16 := (E3.trans E4).trans E6
    have lt2 := E6.le
    have eD6 : m6 h1.length = D := (E6.eq _ lD).trans eD
    cases b with
    | false =>
      dsimp only
      rw [if_neg Bool.false_ne_true] at p6 ⊢
      exact ⟨m6, h6, E16, R6, eD6, by omega, p6⟩
    | true =>
      dsimp only
      rw [if_pos rfl] at p6 ⊢
      refine ⟨m6, env5, h6, _, ⟨R6, N5.ex E6⟩, p6, fun w h7 p7 m7 H7 y7 E7 R7 r7 => ?_⟩
      have lt7 := E7.le
      have eD7 : m7 h1.length = D := (E7.eq _ (by omega)).trans eD6
      split at p7
      · rename_i acc e7
        obtain ⟨vs, a, r⟩ := R7.obj _ _ e7
        rw [eD7] at a
        refine ⟨vs, a, by rw [← r.length]; exact p7.1, ?_⟩
        have E8 := Ex.write (o := .lst (vs ++ [y7])) (e' := EO.lst (acc ++ [w])) R7 e7
        have R8 := R7.write (o := .lst (vs ++ [y7])) (e' := EO.lst (acc ++ [w])) e7 ⟨_, upd_same, (RelEs.ex E8 _ _ r).app (.one (RelE.ex E8 _ _ r7))⟩
        rw [eD7] at E8 R8
        exact ⟨m7, _, (E16.trans E7).trans E8, R8, eD7, by simp; omega, p7.2⟩
      · exact p7.elim
  · have e : i = xs.length := by omega
    subst e
    rw [List.drop_length, lcE] at q
    obtain ⟨_, s2⟩ := sim xs.length h2 m2 H' E3 R3 q.1
    refine .inl ⟨s2 rfl, k _ _ q.2 m2 H' _ (E1.trans E3) R3 (by rw [RelE]; exact ⟨lD, by rw [eD]⟩)⟩
end
end Y

namespace Y
open PySem PySem.Spec PyProof.Rows L2

abbrev LSp := List EV → EH → EK → Prop
def upSp (K : PySem.W.Frag) (sp : LSp) : List V → Hp → VK → Prop := fun vs H Q => ∃ m h evs P, RelH K m h H ∧ RelEs K m h.length H evs vs ∧ sp evs h P ∧ Kon K m h.length H P Q
structure FnG (P : Program) (w : World) (K : PySem.W.Frag) (mg : Str → Option Value) (base : Heap) (k : Nat) (f : Addr) (fd : FuncData) (ps : List Str) (sp : LSp) : Prop where
  len : ∀ evs h Q, sp evs h Q → evs.length = ps.length
  run : ∀ (A : Around) (outer : List Env) (s : Shared) (H : Hp) (args : Args) (us : List Value) (vs : List V) (Q : VK), Room k A → A.guards = some [] → Env0 P w K mg base A outer s H →
    BindsTo s fd args (ps.zip us) → Vals vs us → upSp K sp vs H Q → codeAny (model P w) A (.call (.ref f) args) (CR CX0 outer P w H s Q E0) s
def lCall (sp : LSp) (t : LA) : LT := fun env h P => t env h fun vs h1 => sp vs h1 P
section
variable {X : Cx} {k : Nat} {f : Addr} {fd : FuncData} {ps : List Str} {sp : LSp} {x : Str} {p pos : Pos} {e : Expr} {es : List Expr} {t : LA}
theorem upSp.len {K : PySem.W.Frag} {vs : List V} {H : Hp} {Q : VK} {n : Nat} (l : ∀ evs h Q, sp evs h Q → evs.length = n) (q : upSp K sp vs H Q) : vs.length = n := by
  obtain ⟨m, h, evs, P, R, r, s, _⟩ := q
  rw [← r.length]
  exact l _ _ _ s
theorem runG {pins : List (Addr × Obj)} {σ : L2.St} {H : Hp} {s : Shared} {Q : VK} {us : List Value} {vs : List V} (F : FnG X.prog X.w X.K X.mg X.base k f fd ps sp) (hr : Room k X.A) (hG : X.A.guards = some [])
    (hb : Binds X.K fd ps []) (I : Inv X pins σ H s) (r : Vals vs us) (q : upSp X.K sp vs H Q) : wpAny (model X.prog X.w) X.A (call (.ref f) us) (EP X pins σ Q) X.xe s := by
  have hl : us.length = ps.length := r.length.symm.trans (upSp.len F.len q)
  have b := hb s us I.kIn (by simpa using hl)
  rw [List.append_nil] at b
  refine wpAny_call (codeAny_mono (F.run X.A X.stack s H _ us vs Q hr hG I.env0 b r q) fun o s' ho => ?_)
  match o, ho with
  | .error _, ho => exact ho.elim
  | .ok (.ret u), ho => exact I.after ho
  | .ok .next, ho => exact ho.elim
  | .ok .brk, ho => exact ho.elim
  | .ok .cont, ho => exact ho.elim
theorem up_call {K : PySem.W.Frag} (σ : L2.St) (H : Hp) (Q : VK) (q : up K (lCall sp t) σ H Q) : upA K t σ H fun vs H1 => upSp K sp vs H1 Q := by
  obtain ⟨m, env, h, P, at_, t1, k⟩ := q
  exact ⟨m, env, h, _, at_, t1, fun vs h1 p1 m1 H1 xs E1 R1 r1 => ⟨m1, h1, vs, P, R1, r1, p1, k.ex E1⟩⟩
theorem le_call (F : FnG X.prog X.w X.K X.mg X.base k f fd ps sp) (hr : Room k X.A) (hG : X.A.guards = some []) (hg : Gl X x) (hm : X.mg x = some (.ref f)) (hk : PySem.W.keepIn X.K (.ref f) = true) (hb : Binds X.K fd ps [])
    (ha : LAs X (e :: es) t) (hdb : (x == ("__debug__" : Str)) = false := by decide) (he : starEach (e :: es) X.env = (false, eval e X.env) :: starEach es X.env := by rfl) (hpl : (backTo pos (starEach es X.env)).any (·.1) = false := by rfl) :
    LE X (.Call (.Name x p) (e :: es) [] pos) (lCall sp t) :=
  ⟨⟨fun pins s σ H Q I q => wpAny_Call_Name_kw (ld_glob I hg hm (PySem.W.callWith_K (h₀ := X.base) I.ok.mod.kin hk (thn (ha.pa.run pos pins s σ H _ I (up_call σ H Q q)) fun us s1 ⟨vs, H1, I1, r, q1⟩ =>
    ⟨I1.kIn, runG F hr hG hb I1 r q1⟩) he hpl) hdb)⟩⟩
end
def startE (N : List Str) (vs : List EV) : En := vs.map some ++ List.replicate (N.length - vs.length) none
theorem start_rel {K : PySem.W.Frag} {m : Nat → Addr} {n : Nat} {H : Hp} (N : List Str) {evs : List EV} {vs : List V} (r : RelEs K m n H evs vs) : RelN K m n H (startE N evs) (start N vs) := by
  have l := r.length
  unfold startE L2.start
  refine ⟨by simp [l], fun i v h => ?_⟩
  by_cases hi : i < evs.length
  · rw [List.getElem?_append_left (by simpa using hi), List.getElem?_map] at h
    obtain ⟨w, hw, e⟩ := Option.map_eq_some_iff.mp h
    cases e
    obtain ⟨x, hx, rx⟩ := r.at hw
    exact ⟨x, by rw [List.getElem?_append_left (by simp; omega), List.getElem?_map, hx]; rfl, rx⟩
  · rw [List.getElem?_append_right (by simpa using hi), List.getElem?_replicate] at h
    split at h <;> cases h
abbrev endsOf (Q : EK) : LEnds := { nx := fun _ h => Q .non h, rt := Q }
theorem fnG_of {P : Program} {w : World} {K : PySem.W.Frag} {mg : Str → Option Value} {base : Heap} {k : Nat} {f : Addr} {fd : FuncData} {name qual : Str} {params : Arguments} {body : List Stmt} {scope : Scope} {N ps : List Str} {sp : LSp}
    (F : FunD K name qual params body scope [] [] f fd) (Sc : FnScope N ps scope) (len : ∀ evs h Q, sp evs h Q → evs.length = ps.length)
    (hbody : ∀ (cdv : Value) (A : Around) (outer : List Env) (s : Shared) (H : Hp), Room k (A.deeper (envOfC qual scope s.heap.objs.size f cdv)) → (A.deeper (envOfC qual scope s.heap.objs.size f cdv)).guards = some [] →
      ∃ t, LSs (cxOf CX0 P w K mg base N qual scope f cdv A outer s H E0).nox body t ∧ ∀ evs h Q, sp evs h Q → t (endsOf Q) (startE N evs) h) :
    FnG P w K mg base (k + 1) f fd ps sp := by
  obtain ⟨oc, od, dV, kV, doc, pm, an, cdv, ct, osl, rfl, lk, hcd, _, _⟩ := F.ex
  refine ⟨len, fun A outer s H args us vs Q hr hG e0 hb r q => ?_⟩
  have hl : vs.length = ps.length := upSp.len len q
  have keepB : ∀ b o, base.get? b = some o → s.heap.get? b = some o := fun b o e => (e0.bs b o e).1
  have inK := e0.mod.kin.keeps keepB
  obtain ⟨t, ht, hq⟩ := hbody cdv A outer s H (hr.deeper _) hG
  refine codeAny_call_function hr.depth (inK _ _ lk) rfl Sc.co Sc.gen rfl (PySem.W.codeRec_of inK hcd) (hb _ _ _ _ ?_)
  refine wpAny_newFunctionEnv_cells Sc.kind (fun y hy => ?_) fun env he s1 x => ?_
  · rcases Sc.par y.1 (List.of_mem_zip hy).1 with z | z
    · exact .inl z
    · exact .inr ⟨z, PySem.W.cellsFrom_some _ _ _ (.inl z)⟩
  · subst he
    refine ⟨(e0.mod.nolimit.keeps keepB).keeps x.toInCall.keep, codeAny_func ?_⟩
    obtain ⟨m, h, evs, Pk, R, re, sq, kq⟩ := q
    have I := inv_start (CX := CX0) (P := P) (w := w) (K := K) (mg := mg) (base := base) (E := E0) Sc hr.hd e0 hl r x
    have run := ht.pss.nox.run [] s1 (start N vs) H { nx := fun _ H' => Q .non H', rt := Q } I ⟨m, startE N evs, h, endsOf Pk, ⟨R, start_rel N re⟩, hq evs h Pk sq, ⟨fun env' h' p m' H' σ' E' a' => kq _ _ p m' H' _ E' a'.hp (by rw [RelE]), kq, fun _ _ z => z.elim, fun _ _ z => z.elim⟩⟩
    refine wpAny_mono run (fun fl s' hs => ?_) fun e s' hs => hs
    match fl, hs with
    | .ret u, ⟨v, σ', H', J, rv, z⟩ => exact ⟨v, H', J.os, J.bare, J.base, J.hok, rv, z⟩
    | .next, ⟨σ', H', J, z⟩ => exact ⟨.non, H', J.os, J.bare, J.base, J.hok, rfl, z⟩
    | .brk, ⟨_, _, _, z⟩ => exact z.elim
    | .cont, ⟨_, _, _, z⟩ => exact z.elim
def spTop (n : Nat) : LSp := fun evs h Q => ∃ ns : List Int, evs = [.ref 0] ∧ h = [.frz (ns.map EV.int)] ∧ ns.length ≤ n ∧ ∀ h', Q (.bl true) h'
theorem rel_ints {K : PySem.W.Frag} {m : Nat → Addr} {n : Nat} {H : Hp} : ∀ ns : List Int, RelEs K m n H (ns.map EV.int) (ns.map V.int)
  | [] => .nil
  | i :: l => .cons (by rw [RelE]) (rel_ints l)
theorem up_top {K : PySem.W.Frag} {H : Hp} {a : Addr} {ns : List Int} {n : Nat} (hl : ns.length ≤ n) (hf : FrzL K H a (ns.map V.int)) : upSp K (spTop n) [.ref a] H fun v _ => v = .bl true := by
  refine ⟨fun _ => a, [.frz (ns.map EV.int)], [.ref 0], fun v _ => v = .bl true, ⟨fun r o hr => ?_, fun r q o u hr hq fo => ?_⟩, .one (by rw [RelE]; exact ⟨Nat.one_pos, rfl⟩), ⟨ns, rfl, rfl, hl, fun _ => rfl⟩, fun v h' e m' H' x E R r => ?_⟩
  · cases r with
    | zero =>
      cases hr
      exact ⟨_, hf, rel_ints ns⟩
    | succ r => simp at hr
  · cases r with
    | zero => cases hr; cases fo
    | succ r => simp at hr
  · subst e
    rw [RelE] at r
    exact r
section
variable {P : Program} {w : World} {K : PySem.W.Frag} {mg : Str → Option Value}
theorem topCall {mb : Str → Option Value} {k n : Nat} {fa a : Addr} {fd : FuncData} {x : Str} {s₁ : Shared} {vs : List Value} {ns : List Int} (KX : K.In s₁.heap) (hns : s₁.heap.Ns mainGlobals mg) (hb : s₁.heap.Ns builtinsNs mb)
    (hbb : ∀ x : Str, x ≠ "__name__" → mb x = bootBuiltins x) (hlim : s₁.heap.NoLimit) (hg : s₁.gens = #[]) (ha : s₁.heap.get? a = some { cls := .type "list", data := .seq vs.toArray }) (hi : IntsAre vs ns) (hl : ns.length ≤ n) (hn : n ≤ sizeLine) (hr : Room k callerA)
    (F : ∀ base : Heap, K.In base → base.Ns mainGlobals mg → FnG P w K mg base k fa fd [x] (spTop n)) (hbind : ∀ (s : Shared) (u : Value), BindsTo s fd ⟨[u], []⟩ [(x, u)]) :
    codeAny (model P w) callerA (.call (.ref fa) ⟨[.ref a], []⟩) (fun r s' => r = .ok (.ret (.bool true)) ∧ OldK s₁.heap s'.heap ∧ s'.os = s₁.os ∧ AllBare s'.gens) s₁ := by
  -- H: the script, locked, or nothing at all
  have go : ∀ H : Hp, (∀ b u, H b = some u → b = a ∧ u = .frz { cls := .type "list", data := .seq vs.toArray } (.lst (ns.map V.int))) → (∀ u, H a = some u → K.lookup a = none) → FrzL K H a (ns.map V.int) →
      codeAny (model P w) callerA (.call (.ref fa) ⟨[.ref a], []⟩) (fun r s' => r = .ok (.ret (.bool true)) ∧ OldK s₁.heap s'.heap ∧ s'.os = s₁.os ∧ AllBare s'.gens) s₁ := by
    intro H hH hK hf
    have hok : HOk P w H s₁.heap := fun b u e => by
      obtain ⟨rfl, rfl⟩ := hH b u e
      exact ⟨ha, by rw [List.length_map]; omega, vs, _, vals_ints hi, ha⟩
    have off : ∀ {b : Addr} {o : Obj}, s₁.heap.get? b = some o → (b = a → H a = none) → (hidT s₁.heap H).get? b = some o := fun {b o} e z => hidT_get e (by
      cases q : H b with
      | none => rfl
      | some u =>
        have e2 := (hH b u q).1
        rw [e2, z e2] at q
        cases q)
    have ns' : ∀ {b : Addr} {m : Str → Option Value}, s₁.heap.Ns b m → (hidT s₁.heap H).Ns b m := fun {b m} ⟨o, es, ep, e, d, r⟩ => ⟨o, es, ep, off e (fun z => by
      subst z
      rw [ha] at e
      cases e
      cases (show Data.seq vs.toArray _ = Data.dict es ep from d)), d, r⟩
    have inB : K.In (hidT s₁.heap H) := fun b o e => off (KX b o e) fun z => by
      subst z
      cases q : H b with
      | none => rfl
      | some u => rw [hK u q] at e; cases e
    obtain ⟨ml, l1, l2⟩ := hlim
    have md : Mod K mg (hidT s₁.heap H) := ⟨inB, ns' hns, ⟨mb, ns' hb, hbb⟩, ⟨ml, ns' l1, l2⟩⟩
    have e0 : Env0 P w K mg (hidT s₁.heap H) callerA [] s₁ H := ⟨rfl, md, fun b o e => of_hidT e, Nat.le_of_eq (hidT_size _ _), trivial, fun b hb => (nomatch hb), hok, .of_eq hg⟩
    refine codeAny_mono ((F _ inB (ns' hns)).run callerA [] s₁ H ⟨[.ref a], []⟩ [.ref a] [.ref a] (fun v _ => v = .bl true) hr rfl e0 (hbind s₁ (.ref a)) (.cons rfl .nil) (up_top hl hf)) fun r s' h => ?_
    match r, h with
    | .error _, h => exact h.elim
    | .ok .next, h => exact h.elim
    | .ok .brk, h => exact h.elim
    | .ok .cont, h => exact h.elim
    | .ok (.ret u), ⟨v, H', os, bare, un, hok', rv, q⟩ =>
      have q' : v = .bl true := q
      subst q'
      have hu : u = Value.bool true := rv
      subst hu
      refine ⟨rfl, OldK.of_keep fun b o e => ?_, os, bare⟩
      cases z : H b with
      | none => exact un.keep b o e z (fun y => nomatch y) (fun y => nomatch y)
      | some t =>
        obtain ⟨rfl, rfl⟩ := hH b t z
        have z2 := un.frzs b _ _ z
        obtain ⟨e2, _⟩ := hok' b _ z2
        rw [ha] at e
        cases e
        exact e2
  cases hk : K.lookup a with
  | some o =>
    have e := KX a o hk
    rw [ha] at e
    cases e
    exact go (fun _ => none) (fun b u z => nomatch z) (fun u z => nomatch z) (.inr ⟨_, vs.toArray, _, hk, rfl, rfl, rfl, by rw [List.size_toArray, hi.length]; omega, by simpa using vals_ints hi⟩)
  | none =>
    refine go (fun b => if b = a then some (.frz { cls := .type "list", data := .seq vs.toArray } (.lst (ns.map V.int))) else none) (fun b u z => ?_) (fun _ _ => hk) (.inl ⟨_, if_pos rfl⟩)
    by_cases hb : b = a
    · rw [show (if b = a then some (HO.frz { cls := .type "list", data := .seq vs.toArray } (.lst (ns.map V.int))) else none) = _ from if_pos hb] at z
      cases z
      exact ⟨hb, rfl⟩
    · rw [show (if b = a then some (HO.frz { cls := .type "list", data := .seq vs.toArray } (.lst (ns.map V.int))) else none) = _ from if_neg hb] at z
      cases z
end
theorem walkG {l : PySem.W.OpenLaw} {n k : Nat} {q : Program} {loose : List Str} {XP : (Str → Option Value) → Heap → Prop} {YP : World → Heap → Prop} {d : DefRec} {x : Str}
    (hn : l.most = some n) (hn2 : n ≤ sizeLine) (hdf : d.params.defaults = []) (hr : Room k callerA)
    (F : ∀ (w : World) (mg : Str → Option Value) (fa : Addr) (h : Heap), YP w h → h.Ns mainGlobals mg → mg d.name = some (.ref fa) →
      ∃ (K : PySem.W.Frag) (fd : FuncData), K.In h ∧ (∀ (s : Shared) (u : Value), BindsTo s fd ⟨[u], []⟩ [(x, u)]) ∧ ∀ base : Heap, K.In base → base.Ns mainGlobals mg → FnG l.prog w K mg base k fa fd [x] (spTop n)) :
    PySem.W.WalkO q loose XP YP l.row.toRowW d [] (fun f vs => PySem.call f vs) := by
  refine Att.attach_call hn hdf fun w s₀ s₁ mg mb fa o pm cd doc a vs ns G Y _ _ _ hmg hobj hints hlen hg => ?_
  obtain ⟨K, fd, KX, hb, hF⟩ := F w mg fa _ Y G.T.g hmg
  exact topCall KX G.T.g G.T.b G.T.builtins G.T.nolimit hg hobj hints hlen hn2 hr hF hb
end Y

namespace Y
open PySem PySem.Spec PyProof.Rows L2

section
variable {X : Cx}
theorem RelKV.length {K : PySem.W.Frag} {m : Nat → Addr} {n : Nat} {H : Hp} : ∀ {es : List (EV × EV)} {vs : List (L2.Key × V)}, RelKV K m n H es vs → es.length = vs.length
  | [], _, r => by rw [RelKV] at r; subst r; rfl
  | _ :: _, _, r => by
    rw [RelKV] at r
    obtain ⟨k, v, l, rfl, _, _, r⟩ := r
    simp [RelKV.length r]
def lenE : LC := fun vs h P => match vs with
  | [.str s] => s.length ≤ sizeLine ∧ P (.int s.length) h
  | [.tup xs] => P (.int xs.length) h
  | [.ref r] => match h[r]? with
    | some (.lst xs) => P (.int xs.length) h
    | some (.frz xs) => P (.int xs.length) h
    | some (.dic xs) => P (.int xs.length) h
    | _ => False
  | _ => False
theorem lc_len : LCallR X (.builtin "len") lenE := by
  refine ⟨_, CallR.or call_len_str (CallR.or call_len_seq call_lenD), ?_⟩
  intro m h H vs xs P Q R r0 q k
  unfold lenE at q
  split at q
  · obtain ⟨v, rfl, r⟩ := r0.one_inv
    rw [RelE] at r
    subst r
    exact .inl ⟨_, rfl, by rw [S_len]; exact q.1, by rw [S_len]; exact k.same R q.2 (by rw [RelE])⟩
  · obtain ⟨v, rfl, r⟩ := r0.one_inv
    rw [RelE] at r
    obtain ⟨a, vs, rfl, hs, r⟩ := r
    exact .inr (.inl ⟨a, vs, rfl, .inr (SqT.of hs), by rw [← r.length]; exact k.same R q (by rw [RelE])⟩)
  · obtain ⟨v, rfl, r⟩ := r0.one_inv
    rw [RelE] at r
    obtain ⟨_, rfl⟩ := r
    split at q
    · rename_i e
      obtain ⟨vs, a, r⟩ := R.obj _ _ e
      exact .inr (.inl ⟨_, vs, rfl, .inl (SqL.of a), by rw [← r.length]; exact k.same R q (by rw [RelE])⟩)
    · rename_i e
      obtain ⟨vs, a, r⟩ := R.obj _ _ e
      exact .inr (.inl ⟨_, vs, rfl, .inl a.sql, by rw [← r.length]; exact k.same R q (by rw [RelE])⟩)
    · rename_i e
      obtain ⟨vs, a, r⟩ := R.obj _ _ e
      exact .inr (.inr ⟨_, vs, rfl, a, by rw [← r.length]; exact k.same R q (by rw [RelE])⟩)
    · exact q.elim
  · exact q.elim
def absE : LC := fun vs h P => match vs with
  | [.int i] => P (.int i.natAbs) h
  | _ => False
theorem lc_abs : LCallR X (.builtin "abs") absE := by
  refine ⟨_, call_abs, ?_⟩
  intro m h H vs xs P Q R r0 q k
  unfold absE at q
  split at q
  · obtain ⟨v, rfl, r⟩ := r0.one_inv
    rw [RelE] at r
    subst r
    rename_i i
    refine ⟨i, rfl, ?_⟩
    have e : (if i < 0 then -i else i) = (i.natAbs : Int) := by split <;> omega
    rw [e]
    exact k.same R q (by rw [RelE])
  · exact q.elim
def intOf : LC := fun vs h P => match vs with
  | [.int i] => P (.int i) h
  | [.bl b] => P (.int (if b then 1 else 0)) h
  | _ => False
theorem lc_int : LCallR X (.type "int") intOf := by
  refine ⟨_, call_int1, ?_⟩
  intro m h H vs xs P Q R r0 q k
  unfold intOf at q
  split at q
  · obtain ⟨v, rfl, r⟩ := r0.one_inv
    rw [RelE] at r
    subst r
    exact .inl ⟨_, rfl, k.same R q (by rw [RelE])⟩
  · obtain ⟨v, rfl, r⟩ := r0.one_inv
    rw [RelE] at r
    subst r
    exact .inr ⟨_, rfl, k.same R q (by rw [RelE])⟩
  · exact q.elim
theorem RelEs.ints {K : PySem.W.Frag} {m : Nat → Addr} {n : Nat} {H : Hp} : ∀ {ns : List Int} {vs : List V}, RelEs K m n H (ns.map EV.int) vs → vs = ns.map V.int
  | [], _, r => by rw [List.map_nil, RelEs] at r; exact r
  | i :: l, _, r => by
    rw [List.map_cons, RelEs] at r
    obtain ⟨v, t, rfl, a, b⟩ := r
    rw [RelE] at a
    rw [a, RelEs.ints b]; rfl
def maxE : LC := fun vs h P => match vs with
  | [.ref r] => match h[r]? with
    | some (.lst xs) => ∃ ns : List Int, xs = ns.map EV.int ∧ ns ≠ [] ∧ ∀ m, m ∈ ns → (∀ y ∈ ns, y ≤ m) → P (.int m) h
    | _ => False
  | [.int i, .int j] => P (.int (if j > i then j else i)) h
  | _ => False
theorem lc_max (hc : X.calm = true) : LCallR X (.builtin "max") maxE := by
  refine ⟨_, CallR.or (cr_max hc) (call_max2 hc), ?_⟩
  intro m h H vs xs P Q R r0 q k
  unfold maxE at q
  split at q
  · obtain ⟨v, rfl, r⟩ := r0.one_inv
    rw [RelE] at r
    obtain ⟨_, rfl⟩ := r
    split at q
    · rename_i e
      obtain ⟨vs, a, r⟩ := R.obj _ _ e
      obtain ⟨ns, rfl, ne, q⟩ := q
      have := r.ints
      subst this
      exact .inl ⟨_, ns, rfl, SqL.of a, List.length_pos_iff.mpr ne, fun z h1 h2 => k.same R (q z h1 h2) (by rw [RelE])⟩
    · exact q.elim
  · obtain ⟨v, w, rfl, r1, r2⟩ := r0.two_inv
    rw [RelE] at r1
    rw [RelE] at r2
    subst r1 r2
    exact .inr ⟨_, _, rfl, k.same R q (by rw [RelE])⟩
  · exact q.elim
def reprE : LC := fun vs h P => match vs with
  | [v] => ∃ d, Dat h 60 v d ∧ d.showable = true ∧ d.shown.length ≤ sizeLine ∧ P (.str d.shown.cps.toList) h
  | _ => False
def rRepr (K : PySem.W.Frag) : List V → Hp → VK → Prop := fun xs H Q => ∃ x d, xs = [x] ∧ Dp K H x d ∧ d.depth ≤ 60 ∧ d.plain = true ∧ d.showable = true ∧ d.shown.length ≤ sizeLine ∧ Q (.str d.shown) H
mutual
theorem plain_noDict : ∀ d : PyData, d.plain = true → d.hasDict = false
  | .none, _ => by simp only [PyData.hasDict]
  | .bool _, _ => by simp only [PyData.hasDict]
  | .int _, _ => by simp only [PyData.hasDict]
  | .str _, _ => by simp only [PyData.hasDict]
  | .list xs, h => by simp only [PyData.hasDict]; exact plain_noDicts xs (by simpa [PyData.plain] using h)
  | .tuple xs, h => by simp only [PyData.hasDict]; exact plain_noDicts xs (by simpa [PyData.plain] using h)
  | .dict _, h => by simp [PyData.plain] at h
theorem plain_noDicts : ∀ ds : List PyData, PyData.plainAll ds = true → PyData.hasDictAll ds = false
  | [], _ => by simp only [PyData.hasDictAll]
  | d :: ds, h => by
    have h' : d.plain = true ∧ PyData.plainAll ds = true := by simpa [PyData.plainAll] using h
    simp only [PyData.hasDictAll, plain_noDict d h'.1, plain_noDicts ds h'.2, Bool.or_self]
end
theorem call_reprD (hG : X.A.guards = some []) (hu : X.A.units + 64 < cLine) : CallR X (.builtin "repr") (rRepr X.K) := by
  intro pins s σ H xs us Q I r q
  obtain ⟨x, d, rfl, hd, dd, pd, sd, zd, q⟩ := q
  obtain ⟨u, rfl, ru⟩ := vals1 r
  cases hd with
  | non =>
    cases ru
    simp only [PyData.shown] at q
    exact PySem.P.repr_of_none ⟨.str _, H, I.tok _, ⟨_, rfl⟩, q⟩
  | bl b =>
    cases ru
    simp only [PyData.shown] at q
    exact PySem.P.repr_of_bool ⟨.str _, H, I.tok _, ⟨_, rfl⟩, q⟩
  | int i =>
    obtain ⟨t, rfl⟩ := ru
    simp only [PyData.shown] at q
    exact PySem.P.repr_of_int (by simpa [PyData.showable] using sd) ⟨.str _, H, I.tok _, ⟨_, rfl⟩, q⟩
  | str z =>
    obtain ⟨t, rfl⟩ := ru
    simp only [PyData.shown] at q zd
    exact PySem.P.repr_of_str ⟨.str _, H, I.tok _, ⟨_, rfl⟩, q⟩ zd
  | lst hs ha =>
    cases ru
    obtain ⟨as, rd⟩ := Dp.reads I _ _ _ (.lst hs ha) rfl
    exact PySem.repr_of_reads' rd sd (fun z => by rw [plain_noDict _ pd] at z; cases z) hG (by omega) (fun _ _ e => e) (fun h' u tk kk => ⟨.str _, H, I.kept kk, ⟨_, rfl⟩, q⟩) zd
  | tup hs ha =>
    cases ru
    obtain ⟨as, rd⟩ := Dp.reads I _ _ _ (.tup hs ha) rfl
    exact PySem.repr_of_reads' rd sd (fun z => by rw [plain_noDict _ pd] at z; cases z) hG (by omega) (fun _ _ e => e) (fun h' u tk kk => ⟨.str _, H, I.kept kk, ⟨_, rfl⟩, q⟩) zd
theorem lc_repr (hG : X.A.guards = some []) (hu : X.A.units + 64 < cLine) : LCallR X (.builtin "repr") reprE := by
  refine ⟨_, call_reprD hG hu, ?_⟩
  intro m h H vs xs P Q R r0 q k
  unfold reprE at q
  split at q
  · obtain ⟨v, rfl, r⟩ := r0.one_inv
    obtain ⟨d, dd, sd, zd, p⟩ := q
    exact ⟨v, d, rfl, Dat.dp R _ _ _ _ dd r, (Dat.dep _ _ _ dd).1, (Dat.dep _ _ _ dd).2, sd, zd, k.same R p (by rw [RelE])⟩
  · exact q.elim
def tupleOf : LC := fun vs h P => match vs with
  | [.tup xs] => P (.tup xs) h
  | [.ref r] => match h[r]? with
    | some (.lst xs) => P (.tup xs) h
    | some (.frz xs) => P (.tup xs) h
    | _ => False
  | _ => False
theorem lc_tuple : LCallR X (.type "tuple") tupleOf := by
  refine ⟨_, call_tuple_of, ?_⟩
  intro m h H vs xs P Q R r0 q k
  unfold tupleOf at q
  split at q
  · obtain ⟨v, rfl, r⟩ := r0.one_inv
    have r0 := r
    rw [RelE] at r
    obtain ⟨a, vs, rfl, hs, r⟩ := r
    exact ⟨a, vs, rfl, .inr ⟨(SqT.of hs), k.same R q r0⟩⟩
  · obtain ⟨v, rfl, r⟩ := r0.one_inv
    rw [RelE] at r
    obtain ⟨_, rfl⟩ := r
    split at q
    · rename_i e
      obtain ⟨vs, a, r⟩ := R.obj _ _ e
      exact ⟨_, vs, rfl, .inl ⟨SqL.of a, fun l hl => k.tup R q r hl⟩⟩
    · rename_i e
      obtain ⟨vs, a, r⟩ := R.obj _ _ e
      exact ⟨_, vs, rfl, .inl ⟨a.sql, fun l hl => k.tup R q r hl⟩⟩
    · exact q.elim
  · exact q.elim
end
def onList (v : EV) (h : EH) (f : Nat → List EV → Prop) : Prop := match v with
  | .ref r => match h[r]? with
    | some (.lst xs) => f r xs
    | _ => False
  | _ => False
section
variable {X : Cx}
theorem onList_sim {K : PySem.W.Frag} {m : Nat → Addr} {h : EH} {H : Hp} {v : EV} {x : V} {f : Nat → List EV → Prop} (R : RelH K m h H) (r : RelE K m h.length H v x) (q : onList v h f) : ∃ i xs vs, h[i]? = some (.lst xs) ∧ x = .ref (m i) ∧ H (m i) = some (.lst vs) ∧ RelEs K m h.length H xs vs ∧ f i xs := by
  unfold onList at q
  split at q
  · rw [RelE] at r
    obtain ⟨_, rfl⟩ := r
    split at q
    · rename_i e
      obtain ⟨vs, a, r⟩ := R.obj _ _ e
      exact ⟨_, _, vs, e, rfl, a, r, q⟩
    · exact q.elim
  · exact q.elim
theorem Kon.upd {K : PySem.W.Frag} {m : Nat → Addr} {H : Hp} {h : EH} {P : EK} {Q : VK} (k : Kon K m h.length H P Q) (R : RelH K m h H) {i : Nat} {xs ys : List EV} {us : List V} {v : EV} {x : V} (e : h[i]? = some (.lst xs)) (p : P v (h.set i (.lst ys))) (r : RelE K m h.length H v x) (ru : RelEs K m h.length H ys us) : Q x (upd H (m i) (.lst us)) := by
  have E : Ex K m h.length H m (h.set i (.lst ys)).length (L2.upd H (m i) (.lst us)) := Ex.write R e
  exact k _ _ p m _ _ E (R.write e ⟨us, upd_same, RelEs.ex E _ _ ru⟩) (RelE.ex E _ _ r)
def appendE : LM := fun v vs h P => match vs with
  | [y] => onList v h fun r xs => xs.length < sizeLine ∧ P .non (h.set r (.lst (xs ++ [y])))
  | _ => False
theorem lm_append {K : PySem.W.Frag} : LMl K "list" rAppend appendE := by
  intro m h H v x vs xs P Q R rx rv q k
  unfold appendE at q
  split at q
  · obtain ⟨y, rfl, ry⟩ := rv.one_inv
    obtain ⟨i, es, us, e, rfl, a, r, q⟩ := onList_sim R rx q
    exact ⟨_, us, y, rfl, rfl, a, by rw [← r.length]; exact q.1, k.upd R e q.2 (by rw [RelE]) (r.app (.one ry))⟩
  · exact q.elim
def insertE : LM := fun v vs h P => match vs with
  | [.int i, y] => onList v h fun r xs => xs.length < sizeLine ∧ 0 ≤ i ∧ i < 2 ^ 63 ∧ P .non (h.set r (.lst (xs.take i.toNat ++ [y] ++ xs.drop i.toNat)))
  | _ => False
theorem lm_insert {K : PySem.W.Frag} : LMl K "list" (fun x vs H Q => ∃ (l : Addr) (xs : List V) (i : Int) (y : V), x = .ref l ∧ vs = [.int i, y] ∧ H l = some (.lst xs) ∧ xs.length < sizeLine ∧ 0 ≤ i ∧ i < 2 ^ 63 ∧
    Q .non (upd H l (.lst (xs.take i.toNat ++ [y] ++ xs.drop i.toNat)))) insertE := by
  intro m h H v x vs xs P Q R rx rv q k
  unfold insertE at q
  split at q
  · obtain ⟨z, y, rfl, rz, ry⟩ := rv.two_inv
    rw [RelE] at rz
    subst rz
    obtain ⟨i, es, us, e, rfl, a, r, q⟩ := onList_sim R rx q
    exact ⟨_, us, _, y, rfl, rfl, a, by rw [← r.length]; exact q.1, q.2.1, q.2.2.1, k.upd R e q.2.2.2 (by rw [RelE]) (((r.take _).app (.one ry)).app (r.drop _))⟩
  · exact q.elim
def extendE : LM := fun v vs h P => match vs with
  | [.ref b] => onList v h fun r xs => onList (.ref b) h fun _ ys => xs.length + ys.length ≤ sizeLine ∧ P .non (h.set r (.lst (xs ++ ys)))
  | _ => False
theorem lm_extend {K : PySem.W.Frag} : LMl K "list" rExtend extendE := by
  intro m h H v x vs xs P Q R rx rv q k
  unfold extendE at q
  split at q
  · obtain ⟨y, rfl, ry⟩ := rv.one_inv
    obtain ⟨i, es, us, e, rfl, a, r, q⟩ := onList_sim R rx q
    obtain ⟨j, fs, ws, e2, rfl, a2, r2, q⟩ := onList_sim R ry q
    exact ⟨_, _, us, ws, rfl, rfl, a, a2, by rw [← r.length, ← r2.length]; exact q.1, k.upd R e q.2 (by rw [RelE]) (r.app r2)⟩
  · exact q.elim
def repN {α : Type} (k : Int) (xs : List α) : List α := (List.replicate k.toNat xs).flatten
def mulE : LO := fun v w h P => match v, w with
  | .int i, .int j => PySem.IntMulOk i j ∧ P (.int (i * j)) h
  | .str s, .int k => (0 < k ∧ k < 2 ^ 24 ∧ s.length * k.toNat ≤ 1000000) ∧ P (.str (repN k s)) h
  | .tup xs, .int k => (xs ≠ [] ∧ 2 ≤ k ∧ k ≤ 1000 ∧ xs.length ≤ 1000) ∧ P (.tup (repN k xs)) h
  | .ref r, .int k => match h[r]? with
    | some (.lst xs) => (-(2 ^ 63) ≤ k ∧ k < 2 ^ 63 ∧ xs.length * k.toNat ≤ sizeLine) ∧ P (.ref h.length) (h ++ [.lst (repN k xs)])
    | _ => False
  | _, _ => False
theorem foldl_rep (x : Array Nat) : ∀ (k : Nat) (a : Array Nat), (List.replicate k x).foldl (· ++ ·) a = a ++ (List.replicate k x.toList).flatten.toArray
  | 0, a => by simp
  | k + 1, a => by
    rw [List.replicate_succ, List.foldl_cons, foldl_rep x k, List.replicate_succ, List.flatten_cons]
    apply Array.ext'
    simp
def rMulS : R2 := fun x y H Q => ∃ (s : List Nat) (k : Int), x = .str (S s) ∧ y = .int k ∧ (0 < k ∧ k < 2 ^ 24 ∧ s.length * k.toNat ≤ 1000000) ∧ Q (.str (S (repN k s))) H
theorem op_mulS : OpR X (binaryOp .Mult) rMulS := by
  intro pins s σ H x y v u Q I rx ry q
  obtain ⟨l, k, rfl, rfl, ⟨h0, h1, hz⟩, q⟩ := q
  obtain ⟨t, rfl⟩ := rx
  obtain ⟨t', rfl⟩ := ry
  have e : (S l).length = l.length := S_len l
  have fin : ∀ tk, EP X pins σ Q (.str (S (repN k l)) tk) { s with toks := tk + 1 } := fun tk => ⟨.str _, H, I.tok _, ⟨_, rfl⟩, q⟩
  refine PySem.P.mul_str ?_ (fun _ _ z => ?_) (fun _ _ => ?_) ?_
  · have a : ¬ k < -(2 ^ 63 : Int) := by omega
    have b : ¬ k ≥ 2 ^ 63 := by omega
    rw [decide_eq_false a, decide_eq_false b]; rfl
  · rw [e] at z
    have h2 : (l.length : Int) * k ≤ 1000000 := by
      have : ((l.length * k.toNat : Nat) : Int) ≤ 1000000 := by omega
      rw [Int.natCast_mul, Int.toNat_of_nonneg (by omega)] at this
      exact this
    have h3 : (l.length : Int) ≤ 1000000 := by
      have : (l.length : Int) * 1 ≤ (l.length : Int) * k := Int.mul_le_mul_of_nonneg_left (by omega) (by omega)
      omega
    have h4 : (2 ^ 63 - 1 : Int) / k ≥ (2 ^ 63 - 1 : Int) / 2 ^ 24 := by
      rw [ge_iff_le, Int.le_ediv_iff_mul_le (by omega)]
      have : (2 ^ 63 - 1 : Int) / 2 ^ 24 * k ≤ (2 ^ 63 - 1 : Int) / 2 ^ 24 * 2 ^ 24 := Int.mul_le_mul_of_nonneg_left (by omega) (by decide)
      have h5 : (2 ^ 63 - 1 : Int) / 2 ^ 24 * 2 ^ 24 ≤ 2 ^ 63 - 1 := by decide
      omega
    have h6 : (2 ^ 63 - 1 : Int) / 2 ^ 24 = 549755813887 := by decide
    omega
  · rw [e]
    unfold Builtin.Str.tooLong
    have : sizeLine = 16777216 := by decide
    rw [decide_eq_false]
    omega
  · rw [if_neg (by omega)]
    by_cases hk : (k == 1 || (S l).length == 0) = true
    · rw [if_pos hk]
      have e2 : repN k l = l := by
        rw [e, Bool.or_eq_true, beq_iff_eq, beq_iff_eq] at hk
        rcases hk with rfl | hk
        · simp [repN]
        · have : l = [] := List.length_eq_zero_iff.mp hk
          subst this
          simp [repN]
      rw [e2] at q
      exact ⟨.str _, H, I, ⟨_, rfl⟩, q⟩
    · rw [if_neg hk]
      have e2 : (⟨(List.replicate k.toNat (S l).cps).foldl (· ++ ·) #[]⟩ : Str) = S (repN k l) := by
        rw [foldl_rep]
        simp [repN]
      rw [e2]
      exact ⟨by
        have e3 : (S (repN k l)).length = l.length * k.toNat := by
          rw [S_len, repN, List.length_flatten, List.map_replicate, List.sum_replicate_nat]
          exact Nat.mul_comm _ _
        rw [e3]
        have : sizeLine = 16777216 := by decide
        omega, fin _⟩
theorem op_mulO : OpR X (binaryOp .Mult) (rI PySem.IntMulOk fun i j => .int (i * j)) := opI fun _ _ _ _ _ _ _ hc q => mul_int q hc
theorem lo_mul : LOpR X (binaryOp .Mult) mulE := by
  refine ⟨_, OpR.or op_mulO (OpR.or op_mulS (OpR.or op_repT op_rep)), ?_⟩
  intro m h H v w x y P Q R rx ry q k
  unfold mulE at q
  split at q
  · rw [RelE] at rx
    rw [RelE] at ry
    exact .inl ⟨_, _, rx, ry, q.1, k.same R q.2 (by rw [RelE])⟩
  · rw [RelE] at rx
    rw [RelE] at ry
    exact .inr (.inl ⟨_, _, rx, ry, q.1, k.same R q.2 (by rw [RelE])⟩)
  · rw [RelE] at rx
    rw [RelE] at ry
    obtain ⟨a, us, rfl, hs, r⟩ := rx
    subst ry
    refine .inr (.inr (.inl ⟨a, _, us, rfl, rfl, (SqT.of hs), ?_, q.1.2.1, q.1.2.2.1, by rw [← r.length]; exact q.1.2.2.2, fun p hp => k.tup R q.2 ?_ hp⟩))
    · rintro rfl
      have := r.length
      exact q.1.1 (List.length_eq_zero_iff.mp this)
    · unfold repN
      generalize Int.toNat _ = n
      induction n with
      | zero => exact .nil
      | succ n ih => rw [List.replicate_succ, List.replicate_succ, List.flatten_cons, List.flatten_cons]; exact r.app ih
  · rw [RelE] at rx
    rw [RelE] at ry
    obtain ⟨_, rfl⟩ := rx
    subst ry
    split at q
    · rename_i e
      obtain ⟨us, a, r⟩ := R.obj _ _ e
      refine .inr (.inr (.inr ⟨_, _, us, rfl, rfl, a, q.1.1, q.1.2.1, by rw [← r.length]; exact q.1.2.2, fun p hp => k.lst R q.2 ?_ hp⟩))
      unfold repN
      generalize Int.toNat _ = n
      induction n with
      | zero => exact .nil
      | succ n ih => rw [List.replicate_succ, List.replicate_succ, List.flatten_cons, List.flatten_cons]; exact r.app ih
    · exact q.elim
  · exact q.elim
theorem lookup_mem {α β : Type} [BEq α] [LawfulBEq α] {l : List (α × β)} {a : α} {b : β} (h : l.lookup a = some b) : (a, b) ∈ l := by
  induction l with
  | nil => cases h
  | cons p l ih =>
    obtain ⟨x, y⟩ := p
    rw [List.lookup_cons] at h
    cases e : a == x with
    | true =>
      rw [e] at h
      cases h
      rw [beq_iff_eq.mp e]
      exact List.mem_cons_self
    | false =>
      rw [e] at h
      exact List.mem_cons_of_mem _ (ih h)
end
end Y

namespace Y
open PySem PySem.Spec PyProof.Rows L2

inductive Sc where
  | lst (a : Addr) | tup (a : Addr) | txt (x : Str)
def Sc.val : Sc → V
  | .lst a => .ref a
  | .tup a => .ref a
  | .txt x => .str x
def Sc.is (K : PySem.W.Frag) (H : Hp) : Sc → List V → Prop
  | .lst a, xs => SqL K H a xs
  | .tup a, xs => SqT K H a xs
  | .txt x, xs => xs = x.cps.toList.map fun c => V.str ⟨#[c]⟩
def Sc.cell : Sc → List Addr
  | .lst a => [a]
  | .tup a => [a]
  | .txt _ => []
def Sc.st (it : Addr) (i : Nat) (h : Heap) : Sc → Prop
  | .lst a => h.IsListIter it a i
  | .tup a => h.IsTupleIter it a i
  | .txt x => ∃ t, h.IsStrIter it (strIterType x) x t i
theorem Sc.st_obj {it : Addr} {i : Nat} {h : Heap} : ∀ {sc : Sc}, sc.st it i h → ∃ o, h.get? it = some o ∧ ∀ v, o.data ≠ .cell v
  | .lst _, ⟨o, e, _, d⟩ => ⟨o, e, fun v q => by rw [d] at q; cases q⟩
  | .tup _, ⟨o, e, _, d⟩ => ⟨o, e, fun v q => by rw [d] at q; cases q⟩
  | .txt _, ⟨t, o, e, _, d⟩ => ⟨o, e, fun v q => by rw [d] at q; cases q⟩
theorem Sc.st_at {it : Addr} {i : Nat} {h h' : Heap} (k : ∀ o, h.get? it = some o → h'.get? it = some o) : ∀ {sc : Sc}, sc.st it i h → sc.st it i h'
  | .lst _, ⟨o, e, r⟩ => ⟨o, k o e, r⟩
  | .tup _, ⟨o, e, r⟩ => ⟨o, k o e, r⟩
  | .txt _, ⟨t, o, e, r⟩ => ⟨t, o, k o e, r⟩
section
variable {X : Cx} {pins : List (Addr × Obj)} {s : Shared} {σ : L2.St} {H : Hp}
theorem Vals.back {xs : List V} {us : List Value} {i : Nat} {u : Value} (r : Vals xs us) (e : us[i]? = some u) : ∃ x, xs[i]? = some x ∧ RelV x u := by
  have hl := (List.getElem?_eq_some_iff.mp e).1
  have l := r.length
  have h2 : xs[i]? = some xs[i] := List.getElem?_eq_getElem (by omega)
  obtain ⟨w, hw, rw'⟩ := r.get h2
  rw [e] at hw
  cases hw
  exact ⟨_, h2, rw'⟩
theorem Sc.draws {sc : Sc} {xs : List V} {it : Addr} {i : Nat} (I : Inv X pins σ H s) (hc : X.calm = true) (hq : sc.is X.K H xs) (hn : it ∉ sc.cell) (st : sc.st it i s.heap) :
    ∃ P St, Draws X.prog X.w X.A.in1 it (it :: sc.cell) xs.length P St ∧ St i s.heap ∧ (∀ j u, P j u → ∃ v, xs[j]? = some v ∧ RelV v u) ∧ ∀ j h, St j h → sc.st it j h := by
  have hh : X.A.in1.handled = none := I.ok.hd hc
  match sc, hq, hn, st with
  | .lst a, hq, hn, st =>
    obtain ⟨its, rv, p, hz⟩ := I.list hq
    rw [show xs.length = its.toArray.size by simpa using rv.length]
    exact ⟨_, _, Draws.list hh it a (fun z => hn (by simp [Sc.cell, z])) its.toArray, ⟨st, p.isList⟩, fun j u e => Vals.back rv (by simpa using e), fun j h e => e.1⟩
  | .tup a, hq, hn, st =>
    obtain ⟨its, rv, p, hz⟩ := I.tuple hq
    rw [show xs.length = its.toArray.size by simpa using rv.length]
    exact ⟨_, _, Draws.tuple hh it a (fun z => hn (by simp [Sc.cell, z])) its.toArray, ⟨st, p⟩, fun j u e => Vals.back rv (by simpa using e), fun j h e => e.1⟩
  | .txt x, hq, hn, ⟨t, st⟩ =>
    have hq' : xs = x.cps.toList.map fun c => V.str ⟨#[c]⟩ := hq
    subst hq'
    rw [show (x.cps.toList.map fun c => V.str ⟨#[c]⟩).length = x.cps.size by simp]
    exact ⟨_, _, Draws.text hh it x t, st, fun j u ⟨c, t', e, eu⟩ => ⟨_, by rw [List.getElem?_map, Array.getElem?_toList, e]; rfl, show RelV (.str ⟨#[c]⟩) u from ⟨t', eu⟩⟩, fun j h e => ⟨t, e⟩⟩
theorem Sc.begins {sc : Sc} {xs : List V} {u : Value} (I : Inv X pins σ H s) (hq : sc.is X.K H xs) (r : RelV sc.val u) :
    ∃ o H1, Begins u o H1 ∧ H1 s.heap ∧ (∀ (h : Heap) it, h.get? it = some o → sc.st it 0 h) ∧ ∀ b ∈ sc.cell, b < s.heap.objs.size := by
  match sc, hq, r with
  | .lst a, hq, r =>
    obtain ⟨its, rv, p, hz⟩ := I.list hq
    cases r
    exact ⟨_, _, begins_list a its.toArray, p.isList, fun h it e => ⟨_, e, rfl, rfl⟩, fun b hb => by
      have e : b = a := by simpa [Sc.cell] using hb
      rw [e]; exact p.lt⟩
  | .tup a, hq, r =>
    obtain ⟨its, rv, p, hz⟩ := I.tuple hq
    cases r
    have p' : s.heap.IsTuple a its.toArray := p
    exact ⟨_, _, begins_tuple a its.toArray, p', fun h it e => ⟨_, e, rfl, rfl⟩, fun b hb => by
      have e : b = a := by simpa [Sc.cell] using hb
      rw [e]
      obtain ⟨o, e, _⟩ := p'
      exact Heap.lt_size e⟩
  | .txt x, hq, r =>
    obtain ⟨t, rfl⟩ := r
    exact ⟨_, _, begins_text x t, trivial, fun h it e => ⟨t, _, e, rfl, rfl⟩, fun b hb => by simp [Sc.cell] at hb⟩
theorem Sc.is_inj {sc : Sc} {xs ys : List V} (I : Inv X pins σ H s) (h : sc.is X.K H xs) (h' : sc.is X.K H ys) : xs = ys := by
  match sc, h, h' with
  | .lst a, h, h' => exact I.list_inj h h'
  | .tup a, h, h' => exact I.tuple_inj h h'
  | .txt a, h, h' => exact Eq.trans h (Eq.symm h')
end
def ItZ (K : PySem.W.Frag) (a b : Sc) : It :=
  ⟨fun i H => ∃ (xs ys : List V) (x y : V), a.is K H xs ∧ b.is K H ys ∧ xs[i]? = some x ∧ ys[i]? = some y,
    fun i H v H' => ∃ T x y, v = .ref T ∧ H T = none ∧ H' = upd H T (.tup [x, y]) ∧ (∀ xs, a.is K H xs → xs[i]? = some x) ∧ ∀ ys, b.is K H ys → ys[i]? = some y,
    fun i H => ∃ xs ys : List V, a.is K H xs ∧ b.is K H ys ∧ i ≤ xs.length ∧ i ≤ ys.length ∧ (i = xs.length ∨ i = ys.length)⟩
def ItN (K : PySem.W.Frag) (a : Sc) (k : Int) : It :=
  ⟨fun i H => ∃ (xs : List V) (x : V), a.is K H xs ∧ xs[i]? = some x,
    fun i H v H' => ∃ T x, v = .ref T ∧ H T = none ∧ H' = upd H T (.tup [.int (k + (i : Nat)), x]) ∧ ∀ xs, a.is K H xs → xs[i]? = some x,
    fun i H => ∃ xs : List V, a.is K H xs ∧ i = xs.length⟩
section
variable {P : Program} {w : World} {K : PySem.W.Frag} {elts : List Expr} {kk : Nat} {tpos : Pos}
theorem turnZ {a b : Sc} {z TI TO i1 i2 : Addr} (D : ZipSep2 z TI TO i1 i2 (i1 :: a.cell) (i2 :: b.cell)) (na : i1 ∉ a.cell) (nb : i2 ∉ b.cell) :
    Turn P w K (.Tuple elts kk tpos) (ItZ K a b) [z, TI, TO, i1, i2] z (fun i h => IsZip h z TI TO .none ∧ IsTupOf2 h TI (.ref i1) (.ref i2) ∧ (∃ x y, IsTupOf2 h TO x y) ∧ a.st i1 i h ∧ b.st i2 i h) where
  mem := by simp
  obj := fun i h st c hc => by
    obtain ⟨hz, hTI, ⟨x, y, hTO⟩, s1, s2⟩ := st
    have e' : c = z ∨ c = TI ∨ c = TO ∨ c = i1 ∨ c = i2 := by simpa using hc
    rcases e' with q | q | q | q | q
    · rw [q]; exact ⟨_, hz, fun v q => nomatch q⟩
    · rw [q]; exact ⟨_, hTI, fun v q => nomatch q⟩
    · rw [q]; exact ⟨_, hTO, fun v q => nomatch q⟩
    · rw [q]; exact Sc.st_obj s1
    · rw [q]; exact Sc.st_obj s2
  keep := fun i h h' st k => by
    obtain ⟨hz, hTI, ⟨x, y, hTO⟩, s1, s2⟩ := st
    exact ⟨k z (by simp) _ hz, k TI (by simp) _ hTI, ⟨x, y, k TO (by simp) _ hTO⟩, Sc.st_at (fun o q => k i1 (by simp) o q) s1, Sc.st_at (fun o q => k i2 (by simp) o q) s2⟩
  item := by
    intro X hP hw hK hc i pins s σ H E I hf st hg
    subst hP hw hK
    obtain ⟨hz, hTI, ⟨x0, y0, hTO⟩, s1, s2⟩ := st
    obtain ⟨xs, ys, x, y, hqx, hqy, hx, hy⟩ := hg
    obtain ⟨P1, St1, D1, t1, p1, b1⟩ := Sc.draws I hc hqx na s1
    obtain ⟨P2, St2, D2, t2, p2, b2⟩ := Sc.draws I hc hqy nb s2
    have lx := (List.getElem?_eq_some_iff.mp hx).1
    have ly := (List.getElem?_eq_some_iff.mp hy).1
    have hzl : z < s.heap.objs.size := Heap.lt_size hz
    refine wpAny_pyNext_zipD2_item D D1 D2 hz hTI hTO t1 t2 lx ly fun u1 u2 h' tk hu1 hu2 z' TO' t1' t2' hT hsz hk => ?_
    obtain ⟨x', hx', ru⟩ := p1 _ _ hu1
    obtain ⟨y', hy', ru2⟩ := p2 _ _ hu2
    rw [hx] at hx'
    rw [hy] at hy'
    cases hx'
    cases hy'
    refine ⟨_, rfl, wpAny_letOwnedTupleGo_zip (s := { s with heap := h', toks := tk }) z' fun h'' z'' sb => ?_⟩
    have hT2 : h''.get? s.heap.objs.size = some { cls := .type "tuple", data := .seq #[u1, u2] } := (sb.2 _ (Nat.ne_of_gt hzl)).trans hT
    have new : ObjOk X.prog X.w (upd H s.heap.objs.size (.tup [x, y])) h'' s.heap.objs.size (.tup [x, y]) :=
      ⟨by show 2 ≤ sizeLine; decide, [u1, u2], .cons ru (.cons ru2 .nil), ⟨_, hT2, rfl, _, rfl⟩⟩
    have I1 : Inv X pins σ (upd H s.heap.objs.size (.tup [x, y])) { s with heap := h'', toks := tk } :=
      I.turnedNew (t' := tk) (ch := [z, TI, TO, i1, i2]) (fun c o hb q => (sb.2 c (fun q' => hb (by simp [q']))).trans (hk c o (fun q' => hb (by simp [q'])) (fun q' => hb (by simp [q'])) (fun q' => hb (by simp [q'])) (fun q' => hb (by simp [q'])) q)) hf (Nat.le_refl _) new
    refine ⟨.ref s.heap.objs.size, _, I1, rfl, ⟨_, x, y, rfl, I.hok.fresh (Nat.le_refl _), rfl, fun l hl => by rw [Sc.is_inj I hl hqx]; exact hx, fun l hl => by rw [Sc.is_inj I hl hqy]; exact hy⟩, ⟨z'', ?_, ⟨u1, u2, ?_⟩, ?_, ?_⟩, fun c hcm => ?_⟩
    · exact (sb.2 _ D.TIz).trans (hk _ _ D.TIz D.TITO D.TIi1 D.TIi2 hTI)
    · exact (sb.2 _ D.TOz).trans TO'
    · exact Sc.st_at (fun o q => (sb.2 _ D.zi1.symm).trans q) (b1 _ _ t1')
    · exact Sc.st_at (fun o q => (sb.2 _ D.zi2.symm).trans q) (b2 _ _ t2')
    · have hlt : c < s.heap.objs.size := by
        have e' : c = z ∨ c = TI ∨ c = TO ∨ c = i1 ∨ c = i2 := by simpa using hcm
        rcases e' with q | q | q | q | q
        · rw [q]; exact hzl
        · rw [q]; exact Heap.lt_size hTI
        · rw [q]; exact Heap.lt_size hTO
        · rw [q]; obtain ⟨_, e1, _⟩ := Sc.st_obj s1; exact Heap.lt_size e1
        · rw [q]; obtain ⟨_, e2, _⟩ := Sc.st_obj s2; exact Heap.lt_size e2
      rw [upd_ne (Nat.ne_of_lt hlt)]
      exact (hf c hcm).1
  done := by
    intro X hP hw hK hc i pins s σ H E I hf st hg
    subst hP hw hK
    obtain ⟨hz, hTI, ⟨x0, y0, hTO⟩, s1, s2⟩ := st
    obtain ⟨xs, ys, hqx, hqy, hl1, hl2, hend⟩ := hg
    obtain ⟨P1, St1, D1, t1, p1, b1⟩ := Sc.draws I hc hqx na s1
    obtain ⟨P2, St2, D2, t2, p2, b2⟩ := Sc.draws I hc hqy nb s2
    exact wpAny_pyNext_zipD2_end D D1 D2 hz hTI hTO t1 t2 hl1 hl2 hend fun h' tk hk => ⟨rfl, I.turnedL (t' := tk) (ch := [z, TI, TO, i1, i2]) (fun c o hb q =>
      hk c o (fun q' => hb (by simp [q'])) (fun q' => hb (by simp [q'])) (fun q' => hb (by simp [q'])) (fun q' => hb (by simp [q'])) q) hf⟩
  self := fun A i s Q E st h => wpAny_pyIter_zip st.1 h
theorem turnN {a : Sc} {k : Int} {e it : Addr} (hne : e ≠ it) (hef : e ∉ it :: a.cell) (na : it ∉ a.cell) :
    Turn P w K (.Tuple elts kk tpos) (ItN K a k) [e, it] e (fun i h => (∃ old, IsEnum h e it (k + ((i : Nat) : Int)) old) ∧ a.st it i h) where
  mem := by simp
  obj := fun i h st b hb => by
    obtain ⟨⟨old, he⟩, s1⟩ := st
    have e' : b = e ∨ b = it := by simpa using hb
    rcases e' with z | z
    · rw [z]; exact ⟨_, he, fun v q => nomatch q⟩
    · rw [z]; exact Sc.st_obj s1
  keep := fun i h h' st k => let ⟨⟨old, he⟩, hi⟩ := st; ⟨⟨old, k e (by simp) _ he⟩, Sc.st_at (fun o q => k it (by simp) o q) hi⟩
  item := by
    intro X hP hw hK hc i pins s σ H E I hf st hg
    subst hP hw hK
    obtain ⟨⟨old, he⟩, s1⟩ := st
    obtain ⟨xs, x, hq, hx⟩ := hg
    obtain ⟨P1, St1, D1, t1, p1, b1⟩ := Sc.draws I hc hq na s1
    have lx := (List.getElem?_eq_some_iff.mp hx).1
    have hel : e < s.heap.objs.size := Heap.lt_size he
    refine wpAny_pyNext_enum_itemC D1 he t1 lx hne hef fun u h' tk hu ho t1' hT hsz hk => ?_
    obtain ⟨x', hx', ru⟩ := p1 _ _ hu
    rw [hx] at hx'
    cases hx'
    refine ⟨_, rfl, wpAny_letOwnedTupleGo_enum (s := { s with heap := h', toks := tk + 1 }) ho fun h'' he' sb => ?_⟩
    have hT2 : h''.get? s.heap.objs.size = some { cls := .type "tuple", data := .seq #[.int (k + (i : Nat)) tk, u] } := (sb.2 _ (Nat.ne_of_gt hel)).trans hT
    have new : ObjOk X.prog X.w (upd H s.heap.objs.size (.tup [.int (k + (i : Nat)), x])) h'' s.heap.objs.size (.tup [.int (k + (i : Nat)), x]) :=
      ⟨by show 2 ≤ sizeLine; decide, [.int (k + (i : Nat)) tk, u], .cons ⟨_, rfl⟩ (.cons ru .nil), ⟨_, hT2, rfl, _, rfl⟩⟩
    have I1 : Inv X pins σ (upd H s.heap.objs.size (.tup [.int (k + (i : Nat)), x])) { s with heap := h'', toks := tk + 1 } :=
      I.turnedNew (ch := [e, it]) (fun b ob hb q => (sb.2 b (fun z => hb (by simp [z]))).trans (hk b ob (fun z => hb (by simp [z])) (fun z => hb (by simp [z])) q)) hf (Nat.le_refl _) new
    refine ⟨.ref s.heap.objs.size, _, I1, rfl, ⟨_, x, rfl, I.hok.fresh (Nat.le_refl _), rfl, fun ys hy => by rw [Sc.is_inj I hy hq]; exact hx⟩, ⟨⟨u, ?_⟩, Sc.st_at (fun o q => (sb.2 it (Ne.symm hne)).trans q) (b1 _ _ t1')⟩, fun b hb => ?_⟩
    · have e1 : k + ((i + 1 : Nat) : Int) = k + (i : Int) + 1 := by omega
      rw [e1]; exact he'
    · have hb' : b < s.heap.objs.size := by
        have e' : b = e ∨ b = it := by simpa using hb
        rcases e' with z | z
        · rw [z]; exact hel
        · rw [z]; obtain ⟨_, e1, _⟩ := Sc.st_obj s1; exact Heap.lt_size e1
      rw [upd_ne (Nat.ne_of_lt hb')]
      exact (hf b hb).1
  done := by
    intro X hP hw hK hc i pins s σ H E I hf st hg
    subst hP hw hK
    obtain ⟨⟨old, he⟩, s1⟩ := st
    obtain ⟨xs, hq, hx⟩ := hg
    obtain ⟨P1, St1, D1, t1, p1, b1⟩ := Sc.draws I hc hq na s1
    subst hx
    obtain ⟨f0, f1, f2, f3, f4, f5⟩ := hf it (by simp)
    exact wpAny_pyNext_enum_endD D1 he t1 fun h' eb => ⟨rfl, I.turned (t' := s.toks) (fun b o hb q => eb b o hb q) f0 f1 f3 f4 f5⟩
  self := fun A i s Q E st h => let ⟨⟨_, he⟩, _⟩ := st; wpAny_pyIter_enum he h
end
def iZ (K : PySem.W.Frag) (ta : TA) : TI := fun σ H R => ta σ H fun vs H1 => ∃ (a b : Sc) (xs ys : List V), vs = [a.val, b.val] ∧ a.is K H1 xs ∧ b.is K H1 ys ∧ R (ItZ K a b) H1
section
variable {X : Cx} {e e2 : Expr} {ta : TA} {p pos tpos : Pos} {elts : List Expr} {kk : Nat}
theorem piZ (hg : Gl X "zip") (hm : X.mg "zip" = none) (ha : PA X [e, e2] ta)
    (hs : starEach [e, e2] X.env = (false, eval e X.env) :: starEach [e2] X.env := by rfl) (hpl : (backTo pos (starEach [e2] X.env)).any (·.1) = false := by rfl) :
    PI X (.Tuple elts kk tpos) (.Call (.Name "zip" p) [e, e2] [] pos) (iZ X.K ta) := by
  refine ⟨fun pins s σ H R I h => ?_⟩
  refine Call_ (ld_blt I hg hm PyProof.Rows.boot_zip (PyProof.Rows.callWith_type1 (thn (ha.run pos pins s σ H _ I h) fun us s1 ⟨vs, H1, I1, r1, q1⟩ => ?_) hs hpl))
  obtain ⟨a, b, xs, ys, ex, hqx, hqy, q⟩ := q1
  subst ex
  cases r1 with
  | cons r rr =>
    cases rr with
    | cons r' rr =>
      cases rr
      obtain ⟨o1, H1', B1, w1, z1, c1⟩ := Sc.begins I1 hqx r
      obtain ⟨o2, H2', B2, w2, z2, c2⟩ := Sc.begins I1 hqy r'
      refine zip_begins2 B1 B2 w1 w2 fun h' hz hTI hTO h1 h2 hsz hk => wpAny_pyIter_zip hz ?_
      have I2 : Inv X pins σ H1 { s1 with heap := h' } := I1.kept (t' := s1.toks) hk
      refine ⟨s1.heap.objs.size + 4, [s1.heap.objs.size + 4, s1.heap.objs.size + 2, s1.heap.objs.size + 3, s1.heap.objs.size, s1.heap.objs.size + 1], _, _, H1, rfl, I2,
        turnZ (zip_sep2 c1 c2) (fun z => Nat.lt_irrefl _ (c1 _ z)) (fun z => absurd (c2 _ z) (Nat.not_lt.mpr (Nat.le_add_right _ _))), ⟨hz, hTI, ⟨_, _, hTO⟩, z1 _ _ h1, z2 _ _ h2⟩, fun c hcm => ?_, q⟩
      have e' : c = s1.heap.objs.size + 4 ∨ c = s1.heap.objs.size + 2 ∨ c = s1.heap.objs.size + 3 ∨ c = s1.heap.objs.size ∨ c = s1.heap.objs.size + 1 := by simpa using hcm
      have hle : s1.heap.objs.size ≤ c := by
        rcases e' with z | z | z | z | z
        · rw [z]; exact Nat.le_add_right _ _
        · rw [z]; exact Nat.le_add_right _ _
        · rw [z]; exact Nat.le_add_right _ _
        · rw [z]; exact Nat.le_refl _
        · rw [z]; exact Nat.le_add_right _ _
      exact I1.fpOk hle (I1.hok.fresh hle)
end
def srcE (v : EV) (h : EH) (P : (EH → Prop) → List EV → Prop) : Prop := match v with
  | .ref r => match h[r]? with
    | some (.lst xs) => P (fun h' => h'[r]? = some (.lst xs)) xs
    | some (.frz xs) => P (fun h' => h'[r]? = some (.frz xs)) xs
    | _ => False
  | .tup xs => P lTrue xs
  | .str s => P lTrue (s.map fun c => .str [c])
  | _ => False
theorem src_sim {K : PySem.W.Frag} {m : Nat → Addr} {h : EH} {H : Hp} {v : EV} {x : V} {P : (EH → Prop) → List EV → Prop} (R : RelH K m h H) (r : RelE K m h.length H v x) (q : srcE v h P) :
    ∃ (sc : Sc) (g : EH → Prop) (xs : List EV), P g xs ∧ x = sc.val ∧ g h ∧
      ∀ m' h' H', Ex K m h.length H m' h'.length H' → RelH K m' h' H' → g h' → ∃ us, sc.is K H' us ∧ RelEs K m' h'.length H' xs us := by
  unfold srcE at q
  split at q
  · rename_i r0
    rw [RelE] at r
    obtain ⟨hr, rfl⟩ := r
    split at q
    · rename_i xs e
      refine ⟨.lst (m r0), _, xs, q, rfl, e, fun m' h' H' E' R' gh => ?_⟩
      obtain ⟨us, a', r'⟩ := R'.obj _ _ gh
      exact ⟨us, by rw [← E'.eq _ hr]; exact SqL.of a', r'⟩
    · rename_i xs e
      refine ⟨.lst (m r0), _, xs, q, rfl, e, fun m' h' H' E' R' gh => ?_⟩
      obtain ⟨us, a', r'⟩ := R'.obj _ _ gh
      exact ⟨us, by rw [← E'.eq _ hr]; exact a'.sql, r'⟩
    · exact q.elim
  · rename_i xs
    rw [RelE] at r
    obtain ⟨a, vs, rfl, hs, r2⟩ := r
    exact ⟨.tup a, _, xs, q, rfl, trivial, fun m' h' H' E' R' gh => ⟨vs, E'.tup _ _ (SqT.of hs), RelEs.ex E' _ _ r2⟩⟩
  · rename_i cs
    rw [RelE] at r
    subst r
    refine ⟨.txt (S cs), _, _, q, rfl, trivial, fun m' h' H' E' R' gh => ⟨_, rfl, ?_⟩⟩
    show RelEs K m' h'.length H' (cs.map fun c => EV.str [c]) (cs.toArray.toList.map fun c => V.str ⟨#[c]⟩)
    rw [List.toList_toArray]
    clear q
    induction cs with
    | nil => exact .nil
    | cons c cs ih => exact .cons (by rw [RelE]) ih
  · exact q.elim
def lZip (ta : LA) : LI := fun env h P => ta env h fun vs h1 => match vs with
  | [x, y] => srcE x h1 fun g xs => srcE y h1 fun g2 ys => P (fun h' => g h' ∧ g2 h') (List.zipWith (fun a b => EV.tup [a, b]) xs ys) h1
  | _ => False
theorem rel_pair {K : PySem.W.Frag} {m : Nat → Addr} {h : EH} {H : Hp} {a b : EV} {x y : V} {T : Addr} (R : RelH K m h H) (hT : H T = none) (r1 : RelE K m h.length H a x) (r2 : RelE K m h.length H b y) :
    Ex K m h.length H m h.length (upd H T (.tup [x, y])) ∧ RelH K m h (upd H T (.tup [x, y])) ∧ RelE K m h.length (upd H T (.tup [x, y])) (.tup [a, b]) (.ref T) := by
  have E : Ex K m h.length H m h.length (upd H T (.tup [x, y])) := Ex.tup1 hT
  refine ⟨E, R.tup hT, ?_⟩
  rw [RelE]
  exact ⟨T, [x, y], rfl, upd_same, .cons (RelE.ex E _ _ r1) (.one (RelE.ex E _ _ r2))⟩
theorem zw_at {α β γ : Type} {f : α → β → γ} {xs : List α} {ys : List β} {i : Nat} {z : γ} (e : (List.zipWith f xs ys)[i]? = some z) : ∃ a b, xs[i]? = some a ∧ ys[i]? = some b ∧ z = f a b := by
  rw [List.getElem?_zipWith] at e
  split at e
  · rename_i a b ha hb
    cases e
    exact ⟨a, b, ha, hb, rfl⟩
  · cases e
section
variable {X : Cx} {e e2 : Expr} {ta : LA} {p pos tpos : Pos} {elts : List Expr} {kk : Nat}
theorem lit_zip (hg : Gl X "zip") (hm : X.mg "zip" = none) (ha : LAs X [e, e2] ta)
    (hs : starEach [e, e2] X.env = (false, eval e X.env) :: starEach [e2] X.env := by rfl) (hpl : (backTo pos (starEach [e2] X.env)).any (·.1) = false := by rfl) :
    LIt X (.Tuple elts kk tpos) (.Call (.Name "zip" p) [e, e2] [] pos) (lZip ta) := by
  refine ⟨PI.imp (piZ hg hm ha.pa hs hpl) fun σ H R ⟨m, env, h, P, at_, t1, k⟩ => ⟨m, env, h, _, at_, t1, fun vs h1 p1 m1 H1 xs E1 R1 r1 => ?_⟩⟩
  split at p1
  · rename_i x y
    obtain ⟨v, w, rfl, r2, r3⟩ := r1.two_inv
    obtain ⟨sc, g, ls, q, rfl, gh, sim⟩ := src_sim R1 r2 p1
    obtain ⟨sc2, g2, ls2, q2, rfl, gh2, sim2⟩ := src_sim R1 r3 q
    obtain ⟨us, u1, _⟩ := sim m1 h1 H1 .refl R1 gh
    obtain ⟨ws, w1, _⟩ := sim2 m1 h1 H1 .refl R1 gh2
    refine ⟨sc, sc2, us, ws, rfl, u1, w1, k _ _ h1 q2 m1 H1 _ E1 R1 fun i h' m' H' E' R' ⟨gA, gB⟩ => ?_⟩
    obtain ⟨us, u1, ru⟩ := sim m' h' H' E' R' gA
    obtain ⟨ws, w1, rw'⟩ := sim2 m' h' H' E' R' gB
    refine ⟨fun z hz => ?_, fun hi => ?_⟩
    · obtain ⟨a, b, ha, hb, rfl⟩ := zw_at hz
      obtain ⟨x, hx, rx⟩ := ru.at ha
      obtain ⟨y, hy, ry⟩ := rw'.at hb
      refine ⟨⟨us, ws, x, y, u1, w1, hx, hy⟩, fun v H2 ⟨T, x', y', ev, hT, eH, ux, uy⟩ => ?_⟩
      have hx' := ux us u1
      have hy' := uy ws w1
      rw [hx] at hx'
      rw [hy] at hy'
      cases hx'
      cases hy'
      subst ev eH
      exact rel_pair R' hT rx ry
    · rw [List.length_zipWith, ru.length, rw'.length] at hi
      exact ⟨us, ws, u1, w1, by omega, by omega, by omega⟩
  · exact p1.elim
end
end Y

namespace Y
open PySem PySem.Spec PyProof.Rows L2

def lNeg (ta : LT) : LT := fun env h P => ta env h fun v h1 => match v with
  | .int i => P (.int (-i)) h1
  | _ => False
theorem le_neg {X : Cx} {a : Expr} {ta : LT} {pos : Pos} (ha : LE X a ta) : LE X (.UnaryOp .USub a pos) (lNeg ta) := by
  refine ⟨PE.imp (pe_un un_neg ha.pe) fun σ H Q ⟨m, env, h, P, at_, t1, k⟩ => ⟨m, env, h, _, at_, t1, fun v h1 p1 m1 H1 x E1 R1 r1 => ?_⟩⟩
  cases v with
  | int i =>
    rw [RelE] at r1
    exact ⟨i, r1, k _ _ p1 m1 H1 _ E1 R1 (by rw [RelE])⟩
  | _ => exact p1.elim
theorem loop_ind {g : EH → Prop} {p : Pat} {tb : LS} {D : LEnds} (I : List EV → En → EH → Prop)
    (stop : ∀ env h, I [] env h → g h ∧ D.nx env h)
    (turn : ∀ x xs env h (k : En → EH → Prop), I (x :: xs) env h → (∀ env' h', I xs env' h' → k env' h') → g h ∧ lBind h p x env fun env2 => tb { D with nx := k, ct := k, bk := D.nx } env2 h) :
    ∀ xs env h, I xs env h → loopE g p tb D xs env h
  | [], env, h, i => by rw [loopE]; exact stop env h i
  | x :: xs, env, h, i => by rw [loopE]; exact turn x xs env h _ i fun env' h' i' => loop_ind I stop turn xs env' h' i'
theorem lc_ind {g : EH → Prop} {p : Pat} {tt : LTt} {te : LT} {d : Nat} {env : En} {P : EK} (I : List EV → List EV → EH → Prop)
    (stop : ∀ acc h, I [] acc h → h[d]? = some (.lst acc) → g h ∧ P (.ref d) h)
    (turn : ∀ x xs acc h (ky : EK) (kn : EH → Prop), I (x :: xs) acc h → h[d]? = some (.lst acc) →
      (∀ y h', h'[d]? = some (.lst acc) → acc.length < sizeLine → I xs (acc ++ [y]) (h'.set d (.lst (acc ++ [y]))) → ky y h') → (∀ h', h'[d]? = some (.lst acc) → I xs acc h' → kn h') →
      g h ∧ lBind h p x env fun env2 => tt env2 h fun b h3 => if b = true then te env2 h3 ky else kn h3) :
    ∀ xs acc h, h[d]? = some (.lst acc) → I xs acc h → lcE g p tt te d env P xs h
  | [], acc, h, e, i => by rw [lcE]; exact stop acc h i e
  | x :: xs, acc, h, e, i => by
    rw [lcE]
    refine turn x xs acc h _ _ i e (fun y h' e' hl i' => ?_) fun h' e' i' => lc_ind I stop turn xs acc h' e' i'
    rw [e']
    refine ⟨hl, lc_ind I stop turn xs _ _ ?_ i'⟩
    exact List.getElem?_set_self (List.getElem?_eq_some_iff.mp e').1
theorem new_at {h : EH} {o : EO} : (h ++ [o])[h.length]? = some o := by simp
theorem new_set {h : EH} {o u : EO} : (h ++ [o]).set h.length u = h ++ [u] := by simp
theorem lc_plain {g : EH → Prop} {p : Pat} {tt : LTt} {te : LT} {env : En} {P : EK} {h : EH} (f : EV → Option EV) (xs : List EV) (hl : xs.length ≤ sizeLine) (hg : ∀ acc, g (h ++ [.lst acc]))
    (step : ∀ x ∈ xs, ∀ acc (ky : EK) (kn : EH → Prop), (∀ y, f x = some y → ky y (h ++ [.lst acc])) → (f x = none → kn (h ++ [.lst acc])) →
      lBind (h ++ [.lst acc]) p x env fun env2 => tt env2 (h ++ [.lst acc]) fun b h3 => if b = true then te env2 h3 ky else kn h3)
    (fin : P (.ref h.length) (h ++ [.lst (xs.filterMap f)])) : lcE g p tt te h.length env P xs (h ++ [.lst []]) := by
  have key : ∀ ys acc, (∀ x ∈ ys, x ∈ xs) → acc.length + ys.length ≤ xs.length → acc ++ ys.filterMap f = xs.filterMap f → lcE g p tt te h.length env P ys (h ++ [.lst acc]) := by
    intro ys
    induction ys with
    | nil =>
      intro acc _ _ e
      rw [lcE]
      rw [List.filterMap_nil, List.append_nil] at e
      exact ⟨hg _, by rw [e]; exact fin⟩
    | cons x ys ih =>
      intro acc hm hz e
      rw [lcE]
      refine ⟨hg _, step x (hm x (by simp)) acc _ _ (fun y hy => ?_) fun hy => ?_⟩
      · rw [new_at]
        simp only [List.length_cons] at hz
        refine ⟨by omega, ?_⟩
        rw [new_set]
        refine ih _ (fun z hz' => hm z (List.mem_cons_of_mem _ hz')) (by simp; omega) ?_
        rw [List.filterMap_cons, hy] at e
        simpa using e
      · simp only [List.length_cons] at hz
        refine ih _ (fun z hz' => hm z (List.mem_cons_of_mem _ hz')) (by omega) ?_
        rw [List.filterMap_cons, hy] at e
        exact e
  exact key xs [] (fun _ h => h) (by simp) (by simp)
theorem lc_map {g : EH → Prop} {p : Pat} {te : LT} {env : En} {P : EK} {h : EH} (f : EV → EV) (xs : List EV) (hl : xs.length ≤ sizeLine) (hg : ∀ acc, g (h ++ [.lst acc]))
    (step : ∀ x ∈ xs, ∀ acc (ky : EK), ky (f x) (h ++ [.lst acc]) → lBind (h ++ [.lst acc]) p x env fun env2 => te env2 (h ++ [.lst acc]) ky)
    (fin : P (.ref h.length) (h ++ [.lst (xs.map f)])) : lcE g p lYes te h.length env P xs (h ++ [.lst []]) := by
  refine lc_plain (fun x => some (f x)) xs hl hg (fun x hx acc ky kn hy _ => ?_) (by rw [List.filterMap_eq_map']; exact fin)
  have q := step x hx acc ky (hy _ rfl)
  unfold lBind at q ⊢
  split at q
  · rename_i e
    exact q
  · exact q
def Keep (b : Nat → Prop) (h h' : EH) : Prop := h.length ≤ h'.length ∧ ∀ r o, h[r]? = some o → ¬ b r → h'[r]? = some o
theorem Keep.refl {b : Nat → Prop} {h : EH} : Keep b h h := ⟨Nat.le_refl _, fun _ _ e _ => e⟩
theorem Keep.trans {b : Nat → Prop} {h h' h2 : EH} (x : Keep b h h') (y : Keep b h' h2) : Keep b h h2 := ⟨Nat.le_trans x.1 y.1, fun r o e n => y.2 r o (x.2 r o e n) n⟩
theorem Keep.app {b : Nat → Prop} {h : EH} (g : EH) : Keep b h (h ++ g) := ⟨by simp, fun r o e _ => by rw [List.getElem?_append_left (List.getElem?_eq_some_iff.mp e).1]; exact e⟩
theorem Keep.set {b : Nat → Prop} {h : EH} {r : Nat} {o : EO} (hb : b r) : Keep b h (h.set r o) := ⟨by simp, fun q u e n => by
  rw [List.getElem?_set_ne (fun z => n (by rw [← z]; exact hb))]; exact e⟩
theorem Keep.fresh {b : Nat → Prop} {h h' : EH} {r : Nat} {o : EO} (x : Keep b h h') (hr : h.length ≤ r) : Keep b h (h'.set r o) := ⟨by simpa using x.1, fun q u e n => by
  have hq := (List.getElem?_eq_some_iff.mp e).1
  rw [List.getElem?_set_ne (by omega)]; exact x.2 q u e n⟩
theorem Keep.weak {b c : Nat → Prop} {h h' : EH} (x : Keep b h h') (w : ∀ r, b r → c r) : Keep c h h' := ⟨x.1, fun r o e n => x.2 r o e fun z => n (w r z)⟩
def no1 : Nat → Prop := fun _ => False
theorem Keep.all {c : Nat → Prop} {h h' : EH} (x : Keep no1 h h') : Keep c h h' := x.weak fun _ z => z.elim
theorem Keep.at {h h' : EH} {r : Nat} {o : EO} (x : Keep no1 h h') (e : h[r]? = some o) : h'[r]? = some o := x.2 r o e fun z => z
theorem lt_of_at {h : EH} {r : Nat} {o : EO} (e : h[r]? = some o) : r < h.length := (List.getElem?_eq_some_iff.mp e).1
theorem app_at {h : EH} {r : Nat} {o : EO} (e : h[r]? = some o) (g : EH) : (h ++ g)[r]? = some o := by rw [List.getElem?_append_left (lt_of_at e)]; exact e
def DS (h : EH) (n k : Nat) (v : EV) (d : PyData) : Prop := Dat h n v d ∧ d.showable = true ∧ d.leavesShort 13 = true ∧ d.weight ≤ k
def DSs (h : EH) (n k : Nat) (vs : List EV) (ds : List PyData) : Prop := Dats h n vs ds ∧ PyData.showableAll ds = true ∧ PyData.leavesShortAll 13 ds = true ∧ PyData.weightAll ds ≤ k
section
variable {h : EH} {n k j : Nat}
theorem DS.non : DS h n k .non .none := ⟨.non, by simp [PyData.showable], by simp [PyData.leavesShort], by simp [PyData.weight]⟩
theorem DS.bl {b : Bool} : DS h n k (.bl b) (.bool b) := ⟨.bl b, by simp [PyData.showable], by simp [PyData.leavesShort], by simp [PyData.weight]⟩
theorem log_le {a k : Nat} (h : a < 2 ^ k) (h0 : 0 < k) : a.log2 < k := by
  by_cases z : a = 0
  · subst z; simpa using h0
  · exact (Nat.log2_lt z).mpr h
theorem DS.int {i : Int} (hi : i.natAbs < 10 ^ 12) (hk : 41 ≤ k) : DS h n k (.int i) (.int i) := by
  have l : i.natAbs.log2 < 40 := log_le (Nat.lt_trans hi (by decide)) (by decide)
  refine ⟨.int i, ?_, ?_, ?_⟩
  · rw [PyData.showable.eq_4]
    exact decide_eq_true (by omega)
  · simp only [PyData.leavesShort]
    exact decide_eq_true (PyData.shown_int_le hi)
  · simp only [PyData.weight]
    split <;> omega
theorem DS.str {s : List Nat} (hs : ∀ c ∈ s, c < 16 ^ 8) (hk : s.length ≤ k) : DS h n k (.str s) (.str (S s)) := by
  refine ⟨.str s, by rw [PyData.showable.eq_3], ?_, ?_⟩
  · simp only [PyData.leavesShort, List.all_eq_true, decide_eq_true_eq]
    exact fun c hc => hs c (by simpa using hc)
  · simp only [PyData.weight]
    simpa using hk
theorem DSs.nil : DSs h n k [] [] := ⟨.nil, by simp [PyData.showableAll], by simp [PyData.leavesShortAll], by simp [PyData.weightAll]⟩
theorem DSs.cons {x : EV} {xs : List EV} {d : PyData} {ds : List PyData} {a b : Nat} (hx : DS h n a x d) (hs : DSs h n b xs ds) : DSs h n (a + 1 + b) (x :: xs) (d :: ds) := by
  refine ⟨.cons hx.1 hs.1, ?_, ?_, ?_⟩
  · simp only [PyData.showableAll, hx.2.1, hs.2.1, Bool.and_self]
  · simp only [PyData.leavesShortAll, hx.2.2.1, hs.2.2.1, Bool.and_self]
  · simp only [PyData.weightAll]
    have := hx.2.2.2
    have := hs.2.2.2
    omega
theorem DS.tup {xs : List EV} {ds : List PyData} (hs : DSs h n k xs ds) : DS h (n + 1) k (.tup xs) (.tuple ds) := by
  refine ⟨.tup hs.1, ?_, ?_, ?_⟩
  · simpa only [PyData.showable] using hs.2.1
  · simpa only [PyData.leavesShort] using hs.2.2.1
  · simpa only [PyData.weight] using hs.2.2.2
theorem DS.lst {r : Nat} {xs : List EV} {ds : List PyData} (e : h[r]? = some (.lst xs)) (hs : DSs h n k xs ds) : DS h (n + 1) k (.ref r) (.list ds) := by
  refine ⟨.lst e hs.1, ?_, ?_, ?_⟩
  · simpa only [PyData.showable] using hs.2.1
  · simpa only [PyData.leavesShort] using hs.2.2.1
  · simpa only [PyData.weight] using hs.2.2.2
theorem DS.more {v : EV} {d : PyData} (x : DS h n k v d) (hk : k ≤ j) : DS h n j v d := ⟨x.1, x.2.1, x.2.2.1, Nat.le_trans x.2.2.2 hk⟩
theorem DSs.more {v : List EV} {d : List PyData} (x : DSs h n k v d) (hk : k ≤ j) : DSs h n j v d := ⟨x.1, x.2.1, x.2.2.1, Nat.le_trans x.2.2.2 hk⟩
theorem DS.fits {v : EV} {d : PyData} (x : DS h n k v d) (hk : k ≤ 2 ^ 20) : d.showable = true ∧ d.shown.length ≤ sizeLine := ⟨x.2.1, PyData.shown_fits (by decide) (by decide) x.2.2.1 (Nat.le_trans x.2.2.2 hk)⟩
end
mutual
def pd : EV → PyData
  | .int i => .int i
  | .bl b => .bool b
  | .str s => .str (S s)
  | .tup xs => .tuple (pds xs)
  | _ => .none
def pds : List EV → List PyData
  | [] => []
  | x :: xs => pd x :: pds xs
end
mutual
/-- small, no objects; nested at most n deep -/
def Sml : Nat → EV → Prop
  | _, .int i => i.natAbs < 10 ^ 12
  | _, .bl _ => True
  | _, .non => True
  | _, .str s => ∀ c ∈ s, c < 16 ^ 8
  | n + 1, .tup xs => Smls n xs
  | _, _ => False
def Smls : Nat → List EV → Prop
  | _, [] => True
  | n, x :: xs => Sml n x ∧ Smls n xs
end
mutual
def wE : EV → Nat
  | .int _ => 41
  | .str s => s.length
  | .tup xs => wEs xs
  | _ => 0
def wEs : List EV → Nat
  | [] => 0
  | x :: xs => wE x + 1 + wEs xs
end
mutual
theorem Sml.ds {h : EH} : ∀ (n : Nat) (v : EV), Sml n v → DS h n (wE v) v (pd v)
  | n, .int i, s => by rw [Sml] at s; rw [pd, wE]; exact .int s (Nat.le_refl _)
  | n, .bl b, s => by rw [pd]; exact .bl
  | n, .non, s => by simp only [pd, wE]; exact .non
  | n, .str l, s => by rw [Sml] at s; rw [pd, wE]; exact .str s (Nat.le_refl _)
  | n + 1, .tup xs, s => by rw [Sml] at s; rw [pd, wE]; exact .tup (Smls.ds n xs s)
  | 0, .tup xs, s => by simp [Sml] at s
  | _, .ref _, s => by simp [Sml] at s
  | _, .adr _, s => by simp [Sml] at s
  | _, .ty _, s => by simp [Sml] at s
theorem Smls.ds {h : EH} : ∀ (n : Nat) (vs : List EV), Smls n vs → DSs h n (wEs vs) vs (pds vs)
  | n, [], s => by rw [pds, wEs]; exact .nil
  | n, x :: xs, s => by rw [Smls] at s; rw [pds, wEs]; exact .cons (Sml.ds n x s.1) (Smls.ds n xs s.2)
end
theorem Smls.all {n : Nat} : ∀ {vs : List EV}, (∀ v ∈ vs, Sml n v) → Smls n vs
  | [], _ => by rw [Smls]; trivial
  | x :: xs, s => by rw [Smls]; exact ⟨s x (by simp), Smls.all fun v hv => s v (List.mem_cons_of_mem _ hv)⟩
theorem eqE_same {h : EH} {v w : EV} {d : PyData} {P : EK} (a : Dat h 60 v d) (b : Dat h 60 w d) (p : P (.bl true) h) : eqE false v w h P := by
  have fin : ∃ d e, Dat h 60 v d ∧ Dat h 60 w e ∧ P (.bl (false ^^ PyData.eqv d e)) h := ⟨d, d, a, b, by
    rw [PySem.SeqAt.eqv_refl_plain d (Dat.dep d 60 v a).2]; exact p⟩
  cases a <;> cases b <;> first | exact fin | (unfold eqE; simpa using p)
end Y

namespace Y
open PySem PySem.Spec PyProof.Rows L2

theorem sizeL : sizeLine = 16777216 := by decide
theorem at0 {α : Type} {x : α} {xs : List α} : atI (x :: xs) 0 = some x := by
  have := L2.atI_nat (xs := x :: xs) (j := 0) (v := x) rfl
  simpa using this
theorem at1 {α : Type} {x y : α} {xs : List α} : atI (x :: y :: xs) 1 = some y := by
  have := L2.atI_nat (xs := x :: y :: xs) (j := 1) (v := y) rfl
  simpa using this
theorem at2 {α : Type} {x y z : α} {xs : List α} : atI (x :: y :: z :: xs) 2 = some z := by
  have := L2.atI_nat (xs := x :: y :: z :: xs) (j := 2) (v := z) rfl
  simpa using this
theorem at3 {α : Type} {x y z u : α} {xs : List α} : atI (x :: y :: z :: u :: xs) 3 = some u := by
  have := L2.atI_nat (xs := x :: y :: z :: u :: xs) (j := 3) (v := u) rfl
  simpa using this
theorem atm1 {α : Type} (xs : List α) (v : α) : atI (xs ++ [v]) (-1) = some v := L2.atI_last xs v
theorem set_at {h : EH} {b : Nat} {o u : EO} (e : h[b]? = some u) : (h.set b o)[b]? = some o := List.getElem?_set_self (lt_of_at e)
theorem set_off {h : EH} {b c : Nat} {o u : EO} (e : h[c]? = some u) (n : c ≠ b) : (h.set b o)[c]? = some u := by rw [List.getElem?_set_ne (fun z => n z.symm)]; exact e
section
variable {h : EH} {P : EK} {r l b c : Nat} {xs ys : List EV} {i j : Int} {v w x : EV}
theorem ix_l (e : h[r]? = some (.lst xs)) (a : atI xs i = some x) (p : P x h) : ixE (.ref r) (.int i) h P := by
  unfold ixE; simp only [e, a]; exact p
theorem ix_t (a : atI xs i = some x) (p : P x h) : ixE (.tup xs) (.int i) h P := by
  unfold ixE; simp only [a]; exact p
theorem ix_s {s : List Nat} {y : Nat} (hl : s.length ≤ sizeLine) (a : atI s i = some y) (p : P (.str [y]) h) : ixE (.str s) (.int i) h P := by
  unfold ixE; simp only [a]; exact ⟨hl, p⟩
theorem sl_l {lo hi : Option Int} (e : h[r]? = some (.lst xs)) (p : P (.ref h.length) (h ++ [.lst (cut xs lo hi)])) : slE (.ref r) lo hi h P := by
  unfold slE; simp only [e]; exact p
theorem sl_s {s : List Nat} {lo hi : Option Int} (hl : s.length ≤ sizeLine) (p : P (.str (cut s lo hi)) h) : slE (.str s) lo hi h P := ⟨hl, p⟩
theorem add_l (e : h[l]? = some (.lst xs)) (e2 : h[r]? = some (.lst ys)) (hl : xs.length + ys.length ≤ sizeLine) (p : P (.ref h.length) (h ++ [.lst (xs ++ ys)])) : addE (.ref l) (.ref r) h P := by
  unfold addE; simp only [e, e2]; exact ⟨hl, p⟩
theorem set_l {k : Nat} {p : EH → Prop} (e : h[b]? = some (.lst xs)) (a : ixN xs.length i = some k) (q : p (h.set b (.lst (xs.set k v)))) : setE (.ref b) (.int i) v h p := by
  unfold setE; simp only [e, a]; exact q
theorem get_l {p : EV → Prop} (e : h[b]? = some (.lst xs)) (h0 : 0 ≤ i) (a : xs[i.toNat]? = some x) (q : p x) : getE (.ref b) (.int i) h p := by
  unfold getE; simp only [e, a]; exact ⟨h0, q⟩
theorem mul_i (c : IntMulOk i j) (p : P (.int (i * j)) h) : mulE (.int i) (.int j) h P := ⟨c, p⟩
theorem mod_i (c : 0 < j) (p : P (.int (i % j)) h) : modE (.int i) (.int j) h P := ⟨c, p⟩
theorem div_i (c : 0 < j) (c2 : j < 2 ^ 64) (p : P (.int (i / j)) h) : fdivE (.int i) (.int j) h P := ⟨⟨c, by
  have := log_le (a := j.natAbs) (k := 64) (by omega) (by decide)
  omega⟩, p⟩
theorem pow_i (c : CPow i j) (p : P (.int (i ^ j.toNat)) h) : powE (.int i) (.int j) h P := ⟨c, p⟩
theorem int_i (p : P (.int i) h) : intOf [.int i] h P := p
theorem int_b {q : Bool} (p : P (.int (if q then 1 else 0)) h) : intOf [.bl q] h P := p
theorem le_i (p : P (.bl (decide (i ≤ j))) h) : leE (.int i) (.int j) h P := p
theorem gt_i (p : P (.bl (decide (j < i))) h) : gtE (.int i) (.int j) h P := p
theorem ge_i (p : P (.bl (decide (j ≤ i))) h) : geE (.int i) (.int j) h P := p
theorem add_i (p : P (.int (i + j)) h) : addE (.int i) (.int j) h P := p
theorem eq_i {n : Bool} (p : P (.bl (n ^^ decide (i = j))) h) : eqE n (.int i) (.int j) h P := p
theorem eq_s {n : Bool} {s t : List Nat} (p : P (.bl (n ^^ decide (s = t))) h) : eqE n (.str s) (.str t) h P := p
theorem mulOk_r (hj : j.natAbs < 2 ^ 64) : IntMulOk i j := (show CMul i j from .inr (by omega)).ok
theorem mulOk_l (hi : i.natAbs < 2 ^ 64) : IntMulOk i j := (show CMul i j from .inl (by omega)).ok
theorem ins_e (e : h[r]? = some (.lst xs)) (hl : xs.length < sizeLine) (h0 : 0 ≤ i) (h1 : i < 2 ^ 63) (p : P .non (h.set r (.lst (xs.take i.toNat ++ [v] ++ xs.drop i.toNat)))) : insertE (.ref r) [.int i, v] h P := by
  unfold insertE onList; simp only [e]; exact ⟨hl, h0, h1, p⟩
theorem len_l (e : h[r]? = some (.lst xs)) (p : P (.int xs.length) h) : lenE [.ref r] h P := by
  unfold lenE; simp only [e]; exact p
end
theorem cut_to {α : Type} (xs : List α) (k : Nat) : cut xs none (some (k : Int)) = xs.take k := by
  unfold cut
  rw [HT.sIx_none, HT.sIx_nat]
  simp only [List.drop_zero, Nat.sub_zero]
  by_cases q : k ≤ xs.length
  · rw [Nat.min_eq_left q]
  · rw [Nat.min_eq_right (by omega), List.take_of_length_le (Nat.le_refl _), List.take_of_length_le (by omega)]
theorem cut_from {α : Type} (xs : List α) (k : Nat) : cut xs (some (k : Int)) none = xs.drop k := by
  unfold cut
  rw [HT.sIx_none, HT.sIx_nat]
  by_cases q : k ≤ xs.length
  · rw [Nat.min_eq_left q, List.take_of_length_le (by simp)]
  · rw [Nat.min_eq_right (by omega), List.take_of_length_le (by simp), List.drop_of_length_le (Nat.le_refl _), List.drop_of_length_le (by omega)]
mutual
/-- nested at most n deep, so at most j -/
theorem Dat.deep' {h : EH} : ∀ (d : PyData) (n j : Nat) (v : EV), n ≤ j → Dat h n v d → Dat h j v d
  | .none, n, j, v, l, a => by cases a; exact .non
  | .bool _, n, j, v, l, a => by cases a; exact .bl _
  | .int _, n, j, v, l, a => by cases a; exact .int _
  | .str _, n, j, v, l, a => by cases a; exact .str _
  | .dict _, n, j, v, l, a => by cases a
  | .tuple ds, n, j, v, l, a => by
    cases a with
    | tup r =>
      cases j with
      | zero => omega
      | succ j => exact .tup (Dats.deep' ds _ j _ (by omega) r)
    | ktup r =>
      cases j with
      | zero => omega
      | succ j => exact .ktup (Dats.deep' ds _ j _ (by omega) r)
  | .list ds, n, j, v, l, a => by
    cases a with
    | lst e r =>
      cases j with
      | zero => omega
      | succ j => exact .lst e (Dats.deep' ds _ j _ (by omega) r)
theorem Dats.deep' {h : EH} : ∀ (ds : List PyData) (n j : Nat) (vs : List EV), n ≤ j → Dats h n vs ds → Dats h j vs ds
  | [], n, j, vs, l, a => by cases a; exact .nil
  | d :: ds, n, j, vs, l, a => by
    cases a with
    | cons a b => exact .cons (Dat.deep' d n j _ l a) (Dats.deep' ds n j _ l b)
end
theorem Dat.deep {h : EH} {d : PyData} {n j : Nat} {v : EV} (a : Dat h n v d) (l : n ≤ j) : Dat h j v d := Dat.deep' d n j v l a
theorem bind_nm {h : EH} {i : Nat} {v : EV} {env : En} {P : En → Prop} (p : P (env.set i (some v))) : lBind h (.nm i) v env P := p
end Y

namespace Y
open PySem PySem.Spec PyProof.Rows L2

def kEq : EV → EV → Bool
  | .int i, .int j => decide (i = j)
  | .str a, .str b => decide (a = b)
  | _, _ => false
def isKey : EV → Prop
  | .int _ => True
  | .str _ => True
  | _ => False
def dGet (kvs : List (EV × EV)) (k : EV) : Option EV := match kvs with
  | [] => none
  | (a, x) :: r => if kEq a k = true then some x else dGet r k
def dHas (kvs : List (EV × EV)) (k : EV) : Bool := (dGet kvs k).isSome
def dRep (kvs : List (EV × EV)) (k v : EV) : List (EV × EV) := kvs.map fun p => if kEq p.1 k = true then (p.1, v) else p
def dPut (kvs : List (EV × EV)) (k v : EV) : List (EV × EV) := if dHas kvs k = true then dRep kvs k v else kvs ++ [(k, v)]
section
variable {K : PySem.W.Frag} {m : Nat → Addr} {n : Nat} {H : Hp}
theorem key_of {k : EV} {y : V} (hk : isKey k) (r : RelE K m n H k y) : ∃ k' : L2.Key, y = kV k' := by
  cases k with
  | int i => rw [RelE] at r; exact ⟨.inl i, r⟩
  | str s => rw [RelE] at r; exact ⟨.inr (S s), r⟩
  | _ => exact hk.elim
theorem kEq_dec {a k : EV} {x y : L2.Key} (ra : RelE K m n H a (kV x)) (rk : RelE K m n H k (kV y)) (hk : isKey k) : kEq a k = decide (x = y) := by
  have no : ∀ {b : Bool} {z : L2.Key}, kV z ≠ V.bl b := fun {b z} => by cases z <;> simp [kV]
  cases k with
  | int j =>
    rw [RelE] at rk
    cases y with
    | inl j' =>
      have : j' = j := by injection rk
      subst this
      cases a with
      | int i =>
        rw [RelE] at ra
        cases x with
        | inl i' =>
          have : i' = i := by injection ra
          subst this
          simp [kEq]
        | inr s => cases ra
      | str s =>
        rw [RelE] at ra
        cases x with
        | inl i' => cases ra
        | inr s' => simp [kEq]
      | non => rw [RelE] at ra; cases x <;> cases ra
      | bl b => rw [RelE] at ra; exact absurd ra no
      | tup xs => rw [RelE] at ra; obtain ⟨_, _, e, _⟩ := ra; cases x <;> cases e
      | ktup xs => rw [RelE] at ra; obtain ⟨_, _, e, _⟩ := ra; cases x <;> cases e
      | ref r => rw [RelE] at ra; cases x <;> cases ra.2
      | adr r => rw [RelE] at ra; cases x <;> cases ra
      | ty r => rw [RelE] at ra; cases x <;> cases ra
    | inr s => cases rk
  | str t =>
    rw [RelE] at rk
    cases y with
    | inl j' => cases rk
    | inr t' =>
      have : t' = S t := by injection rk
      subst this
      cases a with
      | int i =>
        rw [RelE] at ra
        cases x with
        | inl i' => simp [kEq]
        | inr s => cases ra
      | str s =>
        rw [RelE] at ra
        cases x with
        | inl i' => cases ra
        | inr s' =>
          have : s' = S s := by injection ra
          subst this
          simp only [kEq, Sum.inr.injEq, S_inj]
      | non => rw [RelE] at ra; cases x <;> cases ra
      | bl b => rw [RelE] at ra; exact absurd ra no
      | tup xs => rw [RelE] at ra; obtain ⟨_, _, e, _⟩ := ra; cases x <;> cases e
      | ktup xs => rw [RelE] at ra; obtain ⟨_, _, e, _⟩ := ra; cases x <;> cases e
      | ref r => rw [RelE] at ra; cases x <;> cases ra.2
      | adr r => rw [RelE] at ra; cases x <;> cases ra
      | ty r => rw [RelE] at ra; cases x <;> cases ra
  | _ => exact hk.elim
theorem RelKV.get {k : EV} {y : L2.Key} (rk : RelE K m n H k (kV y)) (hk : isKey k) : ∀ {es : List (EV × EV)} {l : List (L2.Key × V)}, RelKV K m n H es l →
    (∀ x, dGet es k = some x → ∃ v, valV l y = some v ∧ RelE K m n H x v) ∧ (dGet es k = none → valV l y = none)
  | [], l, r => by
    rw [RelKV] at r
    subst r
    exact ⟨fun x e => by simp [dGet] at e, fun _ => rfl⟩
  | (a, x) :: es, l, r => by
    rw [RelKV] at r
    obtain ⟨a', v, l', rfl, ra, rx, r⟩ := r
    have e := kEq_dec ra rk hk
    have ih := RelKV.get rk hk r
    unfold dGet
    rw [e]
    by_cases q : a' = y
    · rw [decide_eq_true q, if_pos rfl, valV_pos (p := (a', v)) q]
      exact ⟨fun z ez => by cases ez; exact ⟨v, rfl, rx⟩, fun ez => by cases ez⟩
    · rw [decide_eq_false q, if_neg Bool.false_ne_true, valV_neg (p := (a', v)) q]
      exact ih
theorem RelKV.has {k : EV} {y : L2.Key} {es : List (EV × EV)} {l : List (L2.Key × V)} (rk : RelE K m n H k (kV y)) (hk : isKey k) (r : RelKV K m n H es l) : (valV l y).isSome = dHas es k := by
  obtain ⟨h1, h2⟩ := RelKV.get rk hk r
  unfold dHas
  cases e : dGet es k with
  | none => rw [h2 e]; rfl
  | some x => obtain ⟨v, ev, _⟩ := h1 x e; rw [ev]; rfl
theorem RelKV.app {es fs : List (EV × EV)} {l l' : List (L2.Key × V)} (h : RelKV K m n H es l) (g : RelKV K m n H fs l') : RelKV K m n H (es ++ fs) (l ++ l') := by
  induction es generalizing l with
  | nil => rw [RelKV] at h; subst h; exact g
  | cons p es ih =>
    obtain ⟨a, x⟩ := p
    rw [RelKV] at h
    obtain ⟨a', v, l2, rfl, ra, rx, r⟩ := h
    rw [List.cons_append, List.cons_append, RelKV]
    exact ⟨a', v, _, rfl, ra, rx, ih r⟩
theorem RelKV.rep {k w : EV} {y : L2.Key} {z : V} (rk : RelE K m n H k (kV y)) (hk : isKey k) (rw' : RelE K m n H w z) : ∀ {es : List (EV × EV)} {l : List (L2.Key × V)}, RelKV K m n H es l →
    RelKV K m n H (dRep es k w) (l.map fun kv => if kv.1 = y then (kv.1, z) else kv)
  | [], l, r => by rw [RelKV] at r; subst r; exact rfl
  | (a, x) :: es, l, r => by
    rw [RelKV] at r
    obtain ⟨a', v, l', rfl, ra, rx, r⟩ := r
    have e := kEq_dec ra rk hk
    have ih := RelKV.rep rk hk rw' r
    unfold dRep at ih ⊢
    rw [List.map_cons, List.map_cons]
    simp only [e]
    by_cases q : a' = y
    · rw [decide_eq_true q, if_pos rfl, if_pos q, RelKV]
      exact ⟨a', z, _, rfl, ra, rw', ih⟩
    · rw [decide_eq_false q, if_neg Bool.false_ne_true, if_neg q, RelKV]
      exact ⟨a', v, _, rfl, ra, rx, ih⟩
theorem RelKV.put {k w : EV} {y : L2.Key} {z : V} {es : List (EV × EV)} {l : List (L2.Key × V)} (rk : RelE K m n H k (kV y)) (hk : isKey k) (rw' : RelE K m n H w z) (r : RelKV K m n H es l) : RelKV K m n H (dPut es k w) (putK l y z) := by
  unfold dPut putK
  rw [valV_any, RelKV.has rk hk r]
  split
  · exact RelKV.rep rk hk rw' r
  · exact r.app (by rw [RelKV]; exact ⟨y, z, [], rfl, rk, rw', rfl⟩)
end
def isKeyT (v : EV) : Prop := (keyL v).isSome = true
def dGetT (kvs : List (EV × EV)) (k : EV) : Option EV := match kvs with
  | [] => none
  | (a, x) :: r => if keyL a = keyL k then some x else dGetT r k
def dHasT (kvs : List (EV × EV)) (k : EV) : Bool := (dGetT kvs k).isSome
def dRepT (kvs : List (EV × EV)) (k v : EV) : List (EV × EV) := kvs.map fun p => if keyL p.1 = keyL k then (p.1, v) else p
def dPutT (kvs : List (EV × EV)) (k v : EV) : List (EV × EV) := if dHasT kvs k = true then dRepT kvs k v else kvs ++ [(k, v)]
section
variable {K : PySem.W.Frag} {m : Nat → Addr} {n : Nat} {H : Hp}
theorem keysL_rel : ∀ {ks : List EV} {k' : List L2.Key} {vs : List V}, keysL ks = some k' → RelEs K m n H ks vs → vs = k'.map kV
  | [], k', vs, e, r => by
    rw [keysL] at e; cases e
    rw [RelEs] at r; exact r
  | x :: ks, k', vs, e, r => by
    rw [RelEs] at r
    obtain ⟨v, l, rfl, a, b⟩ := r
    cases x with
    | int i =>
      rw [keysL] at e
      obtain ⟨q, hq, rfl⟩ := Option.map_eq_some_iff.mp e
      rw [RelE] at a
      rw [a, keysL_rel hq b]; rfl
    | str s =>
      rw [keysL] at e
      obtain ⟨q, hq, rfl⟩ := Option.map_eq_some_iff.mp e
      rw [RelE] at a
      rw [a, keysL_rel hq b]; rfl
    | _ => simp [keysL] at e
theorem keyT_of {k : EV} {y : V} (hk : isKeyT k) (r : RelE K m n H k y) : ∃ k' b, keyL k = some k' ∧ y = .ref b ∧ H b = some (.tup (k'.map kV)) := by
  obtain ⟨k', e⟩ := Option.isSome_iff_exists.mp hk
  cases k with
  | tup ks =>
    rw [RelE] at r
    obtain ⟨a, vs, rfl, h, r⟩ := r
    exact ⟨k', a, e, rfl, by rw [← keysL_rel e r]; exact h⟩
  | _ => simp [keyL] at e
theorem RelKT.get {k : EV} {y : List L2.Key} (hk : keyL k = some y) : ∀ {es : List (EV × EV)} {l : List (List L2.Key × V)}, RelKT K m n H es l →
    (∀ x, dGetT es k = some x → ∃ v, valV l y = some v ∧ RelE K m n H x v) ∧ (dGetT es k = none → valV l y = none)
  | [], l, r => by
    rw [RelKT] at r
    subst r
    exact ⟨fun x e => by simp [dGetT] at e, fun _ => rfl⟩
  | (a, x) :: es, l, r => by
    rw [RelKT] at r
    obtain ⟨a', v, l', rfl, ra, rx, r⟩ := r
    have ih := RelKT.get hk r
    unfold dGetT
    rw [ra, hk]
    by_cases q : a' = y
    · rw [if_pos (by rw [q]), valV_pos (p := (a', v)) q]
      exact ⟨fun z ez => by cases ez; exact ⟨v, rfl, rx⟩, fun ez => by cases ez⟩
    · rw [if_neg (fun z => q (Option.some.inj z)), valV_neg (p := (a', v)) q]
      exact ih
theorem RelKT.has {k : EV} {y : List L2.Key} {es : List (EV × EV)} {l : List (List L2.Key × V)} (hk : keyL k = some y) (r : RelKT K m n H es l) : (valV l y).isSome = dHasT es k := by
  obtain ⟨h1, h2⟩ := RelKT.get hk r
  unfold dHasT
  cases e : dGetT es k with
  | none => rw [h2 e]; rfl
  | some x => obtain ⟨v, ev, _⟩ := h1 x e; rw [ev]; rfl
theorem RelKT.app {es fs : List (EV × EV)} {l l' : List (List L2.Key × V)} (h : RelKT K m n H es l) (g : RelKT K m n H fs l') : RelKT K m n H (es ++ fs) (l ++ l') := by
  induction es generalizing l with
  | nil => rw [RelKT] at h; subst h; exact g
  | cons p es ih =>
    obtain ⟨a, x⟩ := p
    rw [RelKT] at h
    obtain ⟨a', v, l2, rfl, ra, rx, r⟩ := h
    rw [List.cons_append, List.cons_append, RelKT]
    exact ⟨a', v, _, rfl, ra, rx, ih r⟩
theorem RelKT.rep {k w : EV} {y : List L2.Key} {z : V} (hk : keyL k = some y) (rw' : RelE K m n H w z) : ∀ {es : List (EV × EV)} {l : List (List L2.Key × V)}, RelKT K m n H es l →
    RelKT K m n H (dRepT es k w) (l.map fun kv => if kv.1 = y then (kv.1, z) else kv)
  | [], l, r => by rw [RelKT] at r; subst r; exact rfl
  | (a, x) :: es, l, r => by
    rw [RelKT] at r
    obtain ⟨a', v, l', rfl, ra, rx, r⟩ := r
    have ih := RelKT.rep hk rw' r
    unfold dRepT at ih ⊢
    rw [List.map_cons, List.map_cons]
    simp only [ra, hk]
    by_cases q : a' = y
    · rw [if_pos (by rw [q]), if_pos q, RelKT]
      exact ⟨a', z, _, rfl, ra, rw', by simpa only [hk] using ih⟩
    · rw [if_neg (fun z => q (Option.some.inj z)), if_neg q, RelKT]
      exact ⟨a', v, _, rfl, ra, rx, by simpa only [hk] using ih⟩
theorem RelKT.put {k w : EV} {y : List L2.Key} {z : V} {es : List (EV × EV)} {l : List (List L2.Key × V)} (hk : keyL k = some y) (rw' : RelE K m n H w z) (r : RelKT K m n H es l) : RelKT K m n H (dPutT es k w) (putK l y z) := by
  unfold dPutT putK
  rw [valV_any, RelKT.has hk r]
  split
  · exact RelKT.rep hk rw' r
  · exact r.app (by rw [RelKT]; exact ⟨y, z, [], rfl, hk, rw', rfl⟩)
theorem RelKT.length : ∀ {es : List (EV × EV)} {vs : List (List L2.Key × V)}, RelKT K m n H es vs → es.length = vs.length
  | [], _, r => by rw [RelKT] at r; subst r; rfl
  | _ :: _, _, r => by
    rw [RelKT] at r
    obtain ⟨k, v, l, rfl, _, _, r⟩ := r
    simp [RelKT.length r]
end
def dgE : LO := fun v w h P => match v with
  | .ref r => match h[r]? with
    | some (.dic kvs) => isKey w ∧ match dGet kvs w with
      | some x => P x h
      | none => False
    | some (.dct kvs) => isKeyT w ∧ match dGetT kvs w with
      | some x => P x h
      | none => False
    | _ => False
  | _ => False
def rDg : R2 := fun x y H Q => ∃ a v, x = .ref a ∧ DGet H a y (some v) ∧ Q v H
section
variable {X : Cx}
theorem ix_dg (hu : X.A.units + 1 < cLine) : IxR X rDg := by
  intro value slice pins s σ H x y v u Q I rx ry h hs
  obtain ⟨a, r, rfl, g, q⟩ := h
  obtain rfl : v = Value.ref a := rx
  exact tail_any (dict_typeIs I g) slot_dict_getitem.lookup (d_getItem hu I g ry fun w' s3 I3 rw' => ⟨r, H, I3, rw', q⟩) hs
theorem lop_dg : LOp X.K rDg dgE := by
  intro m h H v w x y P Q R rx ry q k
  unfold dgE at q
  split at q
  · rw [RelE] at rx
    obtain ⟨_, rfl⟩ := rx
    split at q
    · rename_i e
      obtain ⟨l, a, r⟩ := R.obj _ _ e
      obtain ⟨hk, q⟩ := q
      obtain ⟨k', rfl⟩ := key_of hk ry
      split at q
      · rename_i e2
        obtain ⟨z, ez, rz⟩ := (RelKV.get ry hk r).1 _ e2
        refine ⟨_, z, rfl, ?_, k.same R q rz⟩
        rw [← ez]
        exact DGet.k a
      · exact q.elim
    · rename_i e
      obtain ⟨l, a, r⟩ := R.obj _ _ e
      obtain ⟨hk, q⟩ := q
      obtain ⟨k', b, ek, rfl, hb⟩ := keyT_of hk ry
      split at q
      · rename_i e2
        obtain ⟨z, ez, rz⟩ := (RelKT.get ek r).1 _ e2
        refine ⟨_, z, rfl, ?_, k.same R q rz⟩
        rw [← ez]
        exact DGet.t a hb
      · exact q.elim
    · exact q.elim
  · exact q.elim
end
def ixA : LO := fun v w h P => match v with
  | .ref r => match h[r]? with
    | some (.dic _) => dgE v w h P
    | some (.dct _) => dgE v w h P
    | _ => ixE v w h P
  | _ => ixE v w h P
theorem ixA_or {v w : EV} {h : EH} {P : EK} (q : ixA v w h P) : dgE v w h P ∨ ixE v w h P := by
  unfold ixA at q
  split at q
  · split at q
    · exact .inl q
    · exact .inl q
    · exact .inr q
  · exact .inr q
theorem lixA {X : Cx} (hu : X.A.units + 1 < cLine) : LIxR X ixA := by
  obtain ⟨r, h, s⟩ := lix (X := X)
  refine ⟨_, IxR.or (ix_dg hu) h, fun m h H v w x y P Q R rx ry q k => ?_⟩
  rcases ixA_or q with q | q
  · exact .inl (lop_dg m h H v w x y P Q R rx ry q k)
  · exact .inr (s m h H v w x y P Q R rx ry q k)
section
variable {h : EH} {P : EK} {r l b c : Nat} {xs ys : List EV} {i j : Int} {v w x : EV} {kvs : List (EV × EV)}
theorem ia_l (e : h[r]? = some (.lst xs)) (a : atI xs i = some x) (p : P x h) : ixA (.ref r) (.int i) h P := by
  unfold ixA; simp only [e]; exact ix_l e a p
theorem ia_t (a : atI xs i = some x) (p : P x h) : ixA (.tup xs) (.int i) h P := ix_t a p
theorem ia_s {s : List Nat} {y : Nat} (hl : s.length ≤ sizeLine) (a : atI s i = some y) (p : P (.str [y]) h) : ixA (.str s) (.int i) h P := ix_s hl a p
theorem ia_d (e : h[r]? = some (.dic kvs)) (hk : isKey w) (a : dGet kvs w = some x) (p : P x h) : ixA (.ref r) w h P := by
  unfold ixA dgE; simp only [e, a]; exact ⟨hk, p⟩
theorem ia_dt (e : h[r]? = some (.dct kvs)) (hk : isKeyT w) (a : dGetT kvs w = some x) (p : P x h) : ixA (.ref r) w h P := by
  unfold ixA dgE; simp only [e, a]; exact ⟨hk, p⟩
end
def flatE : EV → Bool
  | .non => true
  | .bl _ => true
  | .int _ => true
  | .str _ => true
  | _ => false
def toV : EV → V
  | .bl b => .bl b
  | .int i => .int i
  | .str s => .str (S s)
  | _ => .non
section
variable {X : Cx}
end
end Y

namespace Y
open PySem PySem.Spec PyProof.Rows L2

def lDnew : LT := fun _ h P => P (.ref h.length) (h ++ [.dic []])
def setA (o i v : EV) (h : EH) (P : EH → Prop) : Prop := match o with
  | .ref r => match h[r]? with
    | some (.dic kvs) => isKey i ∧ kvs.length < sizeLine ∧ P (h.set r (.dic (dPut kvs i v)))
    | some (.dct kvs) => isKeyT i ∧ kvs.length < sizeLine ∧ P (h.set r (.dct (dPutT kvs i v)))
    | _ => setE o i v h P
  | _ => setE o i v h P
def rSetA : TSet := fun x y z H Q => rSetL x y z H Q ∨ ∃ a H4, x = .ref a ∧ DPut H a y z H4 ∧ Q H4
section
variable {X : Cx} {pos : Pos}
theorem le_dnew : LE X (.Dict [] [] pos) lDnew := by
  refine ⟨PE.imp pe_dnewK fun σ H Q ⟨m, env, h, P, at_, t1, k⟩ p hp => ?_⟩
  have E : Ex X.K m h.length H (mput m h.length p) (h ++ [EO.dic []]).length (upd H p (.dK [])) := Ex.new hp
  have R : RelH X.K (mput m h.length p) (h ++ [EO.dic []]) (upd H p (.dK [])) := at_.hp.new hp ⟨[], upd_same, rfl⟩
  exact k _ _ t1 _ _ _ E R (by rw [RelE]; exact ⟨by simp, by rw [mput_at]⟩)
theorem set_any (hu : X.A.units + 1 < cLine) : PSet X rSetA := by
  intro pins s σ H o i v ov iv u Q I ro ri rv h
  rcases h with h | ⟨a, H4, rfl, g, q⟩
  · exact set_list pins s σ H o i v ov iv u Q I ro ri rv h
  · obtain rfl : ov = Value.ref a := ro
    exact d_setItem hu I g ri rv fun s4 I4 => ⟨H4, I4, q⟩
theorem setA_sim {K : PySem.W.Frag} {m : Nat → Addr} {h : EH} {H : Hp} {o i v : EV} {x y z : V} {P : EH → Prop} {Q : Hp → Prop} (R : RelH K m h H) (rx : RelE K m h.length H o x) (ry : RelE K m h.length H i y) (rz : RelE K m h.length H v z) (q : setA o i v h P)
    (k : ∀ h', P h' → ∀ H', Ex K m h.length H m h'.length H' → RelH K m h' H' → Q H') : rSetA x y z H Q := by
  unfold setA at q
  split at q
  · split at q
    · rename_i kvs e
      rw [RelE] at rx
      obtain ⟨_, rfl⟩ := rx
      obtain ⟨hk, hl, q⟩ := q
      obtain ⟨l, a, r⟩ := R.obj _ _ e
      obtain ⟨k', rfl⟩ := key_of hk ry
      have ll := RelKV.length r
      refine .inr ⟨_, _, rfl, DPut.k a (by omega), ?_⟩
      have E := Ex.write (o := .dK (putK l k' z)) (e' := EO.dic (dPut kvs i v)) R e
      exact k _ q _ E (R.write e ⟨_, upd_same, RelKV.put (RelE.ex E _ _ ry) hk (RelE.ex E _ _ rz) (r.ex E)⟩)
    · rename_i kvs e
      rw [RelE] at rx
      obtain ⟨_, rfl⟩ := rx
      obtain ⟨hk, hl, q⟩ := q
      obtain ⟨l, a, r⟩ := R.obj _ _ e
      obtain ⟨k', b, ek, rfl, hb⟩ := keyT_of hk ry
      have ll := RelKT.length r
      refine .inr ⟨_, _, rfl, DPut.t a hb (by omega), ?_⟩
      have E := Ex.write (o := .dT (putK l k' z)) (e' := EO.dct (dPutT kvs i v)) R e
      exact k _ q _ E (R.write e ⟨_, upd_same, RelKT.put ek (RelE.ex E _ _ rz) (r.ex E)⟩)
    · exact .inl (set_sim R rx ry rz q k)
  · exact .inl (set_sim R rx ry rz q k)
def lSetA (to ti te : LT) : LS := fun D env h => te env h fun v h1 => to env h1 fun o h2 => ti env h2 fun i h3 => setA o i v h3 fun h4 => D.nx env h4
theorem ls_setA {o i e : Expr} {to ti te : LT} {tpos : Pos} (hu : X.A.units + 1 < cLine) (he : LE X e te) (ho : LE X o to) (hi : LE X i ti) (ha : ∀ v, assign (.Subscript o i tpos) X.env v = (do
      let ov ← holding [v] (eval o X.env)
      let iv ← holding [v, ov] (eval i X.env)
      standAt tpos
      holding [v, ov, iv] (setItem ov iv v)
      release [v, ov, iv] []) := by intro _; rfl) (hs : swapsWithSole [.Subscript o i tpos] e pos.line X.env = pure false := by rfl) (hw : swappedStores [.Subscript o i tpos] e X.env = pure none := by rfl)
    (h1 : (assignEach [.Subscript o i tpos] X.env).map (·.2) = [assign (.Subscript o i tpos) X.env] := by rfl) : LSt X (.Assign [.Subscript o i tpos] e pos) (lSetA to ti te) :=
  ⟨PS.imp (ps_asg he.pe (pg_sub ho.pe hi.pe (set_any hu) ha) hs hw h1) fun D σ H ⟨m, env, h, P, at_, t1, k⟩ => ⟨m, env, h, _, at_, t1, fun v h1 p1 m1 H1 x E1 R1 r1 =>
    ⟨m1, env, h1, _, at_.ex E1 R1, p1, fun o h2 p2 m2 H2 y E2 R2 r2 => ⟨m2, env, h2, _, (at_.ex E1 R1).ex E2 R2, p2, fun i h3 p3 m3 H3 z E3 R3 r3 =>
      setA_sim R3 (RelE.ex E3 _ _ r2) r3 (RelE.ex (E2.trans E3) _ _ r1) p3 fun h4 p4 H4 E4 R4 => k.nx _ _ p4 m3 H4 σ (((E1.trans E2).trans E3).trans E4) ((((at_.ex E1 R1).ex E2 R2).ex E3 R3).ex E4 R4)⟩⟩⟩⟩
def sumE : LC := fun vs h P => match vs with
  | [.ref r] => match h[r]? with
    | some (.lst xs) => ∃ ns : List Int, xs = ns.map EV.int ∧ P (.int ns.sum) h
    | _ => False
  | _ => False
theorem lc_sum (hc : X.calm = true) : LCallR X (.builtin "sum") sumE := by
  refine ⟨_, cr_sum hc, fun m h H vs xs P Q R r0 q k => ?_⟩
  unfold sumE at q
  split at q
  · obtain ⟨v, rfl, r⟩ := r0.one_inv
    rw [RelE] at r
    obtain ⟨_, rfl⟩ := r
    split at q
    · rename_i e
      obtain ⟨us, a, r⟩ := R.obj _ _ e
      obtain ⟨ns, rfl, q⟩ := q
      have := r.ints
      subst this
      exact ⟨_, ns, rfl, SqL.of a, k.same R q (by rw [RelE])⟩
    · exact q.elim
  · exact q.elim
def minE : LC := fun vs h P => match vs with
  | [.ref r] => match h[r]? with
    | some (.lst xs) => ∃ ns : List Int, xs = ns.map EV.int ∧ ns ≠ [] ∧ ∀ m, m ∈ ns → (∀ y ∈ ns, m ≤ y) → P (.int m) h
    | _ => False
  | [.int i, .int j] => P (.int (if j < i then j else i)) h
  | _ => False
theorem lc_min (hc : X.calm = true) : LCallR X (.builtin "min") minE := by
  refine ⟨_, CallR.or (cr_min hc) (call_min2 hc), fun m h H vs xs P Q R r0 q k => ?_⟩
  unfold minE at q
  split at q
  · obtain ⟨v, rfl, r⟩ := r0.one_inv
    rw [RelE] at r
    obtain ⟨_, rfl⟩ := r
    split at q
    · rename_i e
      obtain ⟨us, a, r⟩ := R.obj _ _ e
      obtain ⟨ns, rfl, ne, q⟩ := q
      have := r.ints
      subst this
      exact .inl ⟨_, ns, rfl, SqL.of a, List.length_pos_iff.mpr ne, fun z h1 h2 => k.same R (q z h1 h2) (by rw [RelE])⟩
    · exact q.elim
  · obtain ⟨v, w, rfl, r1, r2⟩ := r0.two_inv
    rw [RelE] at r1
    rw [RelE] at r2
    subst r1 r2
    exact .inr ⟨_, _, rfl, k.same R q (by rw [RelE])⟩
  · exact q.elim
theorem RelEs.bools {K : PySem.W.Frag} {m : Nat → Addr} {n : Nat} {H : Hp} : ∀ {ns : List Bool} {vs : List V}, RelEs K m n H (ns.map EV.bl) vs → vs = ns.map V.bl
  | [], _, r => by rw [List.map_nil, RelEs] at r; exact r
  | i :: l, _, r => by
    rw [List.map_cons, RelEs] at r
    obtain ⟨v, t, rfl, a, b⟩ := r
    rw [RelE] at a
    rw [a, RelEs.bools b]; rfl
def quE (f : List Bool → Bool) : LC := fun vs h P => match vs with
  | [.ref r] => match h[r]? with
    | some (.lst xs) => ∃ bs : List Bool, xs = bs.map EV.bl ∧ P (.bl (f bs)) h
    | _ => False
  | _ => False
abbrev allE : LC := quE fun bs => bs.all id
theorem lc_all (hc : X.calm = true) : LCallR X (.builtin "all") allE := by
  refine ⟨_, cr_all hc, fun m h H vs xs P Q R r0 q k => ?_⟩
  unfold allE quE at q
  split at q
  · obtain ⟨v, rfl, r⟩ := r0.one_inv
    rw [RelE] at r
    obtain ⟨_, rfl⟩ := r
    split at q
    · rename_i e
      obtain ⟨us, a, r⟩ := R.obj _ _ e
      obtain ⟨ns, rfl, q⟩ := q
      have := r.bools
      subst this
      exact ⟨_, ns, rfl, SqL.of a, k.same R q (by rw [RelE])⟩
    · exact q.elim
  · exact q.elim
end
end Y

namespace Y
open PySem PySem.Spec PyProof.Rows L2

section
variable {X : Cx} {pos : Pos}
theorem up_lc (own : List (Str × Nat)) {ti : LI} {p : Pat} {tt : LTt} {te : LT} (hp : ∀ i ∈ Pat.slots p, i ∈ own.map (·.2)) (σ : L2.St) (H : Hp) (Q : VK) (q : up X.K (lLc ti p tt te (own.map (·.2))) σ H Q) :
    tLc (upI X.K ti) (gP X.K p) (upT X.K tt) (up X.K te) (own.map (·.2)) σ H Q := by
  obtain ⟨m, env, h, P, at_, t1, k⟩ := q
  refine ⟨m, env, h, _, at_, t1, fun g xs h1 p1 m1 H1 J E1 R1 sim D hD => ?_⟩
  have E2 : Ex X.K m1 h1.length H1 (mput m1 h1.length D) (h1 ++ [EO.lst []]).length (upd H1 D (.lst [])) := Ex.new hD
  have R2 : RelH X.K (mput m1 h1.length D) (h1 ++ [EO.lst []]) (upd H1 D (.lst [])) := R1.new hD ⟨[], upd_same, .nil⟩
  refine ⟨fun i c H' => c = xs.length - i ∧ i ≤ xs.length ∧ ∃ m2 h2, Ex X.K m1 h1.length H1 m2 h2.length H' ∧ RelH X.K m2 h2 H' ∧ m2 h1.length = D ∧ h1.length < h2.length ∧ lcE g p tt te h1.length (wipeE env (own.map (·.2))) P (xs.drop i) h2,
    ⟨xs.length, by simp, Nat.zero_le _, _, _, E2, R2, mput_at, by simp, by simpa using p1⟩, ?_⟩
  rintro i c H' ⟨rfl, hi, m2, h2, E3, R3, eD, lD, q⟩
  by_cases hlt : i < xs.length
  · have ed : xs.drop i = xs[i] :: xs.drop (i + 1) := List.drop_eq_getElem_cons hlt
    rw [ed, lcE] at q
    obtain ⟨qg, q⟩ := q
    obtain ⟨s1, s2⟩ := sim i h2 m2 H' E3 R3 qg
    obtain ⟨go, yl⟩ := s1 xs[i] (List.getElem?_eq_getElem hlt)
    refine .inr ⟨go, fun H4 => ∃ m4 h4, Ex X.K m1 h1.length H1 m4 h4.length H4 ∧ RelH X.K m4 h4 H4 ∧ m4 h1.length = D ∧ h1.length < h4.length ∧ lcE g p tt te h1.length (wipeE env (own.map (·.2))) P (xs.drop (i + 1)) h4,
      fun H4 q4 => ⟨xs.length - (i + 1), by omega, rfl, hlt, q4⟩, fun v H4 y => ?_⟩
    obtain ⟨E4, R4, r4⟩ := yl v H4 y
    have E14 := (E1.trans E3).trans E4
    obtain ⟨env5, σ5, q5, f, N5, keep, len⟩ := bind_sim R4 ((at_.nm.ex E14).wipe (own.map (·.2))) r4 q
    refine f _ ⟨wipe_back (ss := Pat.slots p) keep hp (by rw [len, wipe_length]), m2, env5, h2, _, ⟨R4, N5⟩, q5, fun b h6 p6 m6 H6 E6 R6 => ?_⟩
    have E16 := (E3.trans E4).trans E6
    have lt2 := E6.le
    have eD6 : m6 h1.length = D := (E6.eq _ lD).trans eD
    cases b with
    | false =>
      dsimp only
      rw [if_neg Bool.false_ne_true] at p6 ⊢
      exact ⟨m6, h6, E16, R6, eD6, by omega, p6⟩
    | true =>
      dsimp only
      rw [if_pos rfl] at p6 ⊢
      refine ⟨m6, env5, h6, _, ⟨R6, N5.ex E6⟩, p6, fun w h7 p7 m7 H7 y7 E7 R7 r7 => ?_⟩
      have lt7 := E7.le
      have eD7 : m7 h1.length = D := (E7.eq _ (by omega)).trans eD6
      split at p7
      · rename_i acc e7
        obtain ⟨vs, a, r⟩ := R7.obj _ _ e7
        rw [eD7] at a
        refine ⟨vs, a, by rw [← r.length]; exact p7.1, ?_⟩
        have E8 := Ex.write (o := .lst (vs ++ [y7])) (e' := EO.lst (acc ++ [w])) R7 e7
        have R8 := R7.write (o := .lst (vs ++ [y7])) (e' := EO.lst (acc ++ [w])) e7 ⟨_, upd_same, (RelEs.ex E8 _ _ r).app (.one (RelE.ex E8 _ _ r7))⟩
        rw [eD7] at E8 R8
        exact ⟨m7, _, (E16.trans E7).trans E8, R8, eD7, by simp; omega, p7.2⟩
      · exact p7.elim
  · have e : i = xs.length := by omega
    subst e
    rw [List.drop_length, lcE] at q
    obtain ⟨_, s2⟩ := sim xs.length h2 m2 H' E3 R3 q.1
    refine .inl ⟨s2 rfl, k _ _ q.2 m2 H' _ (E1.trans E3) R3 (by rw [RelE]; exact ⟨lD, by rw [eD]⟩)⟩
theorem ls_setLc (i : Nat) {y : Str} {py : Pos} {elt tg iter : Expr} {ifs : List Expr} {scope : Scope} (own : List (Str × Nat)) {spos : Pos} {ti : LI} {p : Pat} {tt : LTt} {te : LT} (hc : X.calm = true) (hN : X.N.Nodup) (hi : LIt X tg iter ti) (ok : BlkOk X.N X.env.scope scope own)
    (hp : ∀ i ∈ Pat.slots p, i ∈ own.map (·.2))
    (hg : ∀ (s : Shared) (H : Hp) (C : Addr) (cl : List (Str × Addr)) (fp : List Addr), LG (X.blk s H scope (compEnvC scope cl C X.env) fp) tg p)
    (ht : ∀ (s : Shared) (H : Hp) (C : Addr) (cl : List (Str × Addr)) (fp : List Addr), LTs (X.blk s H scope (compEnvC scope cl C X.env) fp) ifs tt)
    (he : ∀ (s : Shared) (H : Hp) (C : Addr) (cl : List (Str × Addr)) (fp : List Addr), LE (X.blk s H scope (compEnvC scope cl C X.env) fp) elt te) (hy : X.N[i]? = some y := by rfl) (hyl : X.env.scope.names.lookup y = some .local := by rfl)
    (hsw : swapsWith (.ListComp elt [⟨tg, iter, ifs, 0⟩] scope pos) (some (.Name y py)) spos.line X.env = pure true := by exact sw_true rfl rfl rfl (by decide +kernel)) (hs : ∀ x, foldedSetIterable iter X.env x = pure x := by intro _; rfl) :
    LSt X (.Assign [.Name y py] (.ListComp elt [⟨tg, iter, ifs, 0⟩] scope pos) spos) (lSet (lLc ti p tt te (own.map (·.2))) i) :=
  ⟨PS.imp (ps_setLc (g := gP X.K p) (tt := upT X.K tt) (te := up X.K te) hc hN hy hyl hsw hi.pi ok (fun s H C cl fp => (hg s H C cl fp).pg) (fun s H C cl fp => (ht s H C cl fp).pts) (fun s H C cl fp => (he s H C cl fp).pe) hs) fun D σ H ⟨m, env, h, P, at_, t1, k⟩ =>
    up_lc own hp σ H _ ⟨m, env, h, fun v h1 => P.nx (env.set i (some v)) h1, at_, t1, fun v h1 p1 m1 H1 x E1 R1 r1 => k.nx _ _ p1 m1 H1 _ E1 ⟨R1, (at_.nm.ex E1).set r1 i⟩⟩⟩
end
def lAug (f : Int → Int → Int) (i : Nat) (te : LT) : LS := fun D env h => match env[i]? with
  | some (some (.int a)) => te env h fun v h1 => match v with
    | .int b => D.nx (env.set i (some (.int (f a b)))) h1
    | _ => False
  | _ => False
theorem ls_aug {X : Cx} {pos pos' : Pos} (i : Nat) {x : Str} {e : Expr} {te : LT} {op : Operator} {f : Int → Int → Int} (ho : PIp X op (ipI f)) (hN : X.N.Nodup) (he : LE X e te) (hi : X.N[i]? = some x := by rfl) (hx : Loc X.env.scope x := by first | exact Or.inl rfl | exact Or.inr rfl)
    (hf : X.fn x = true ∨ X.env.scope.names.lookup x = some .local := by first | exact .inl rfl | exact .inr rfl) : LSt X (.AugAssign (.Name x pos') op e pos) (lAug f i te) := by
  refine ⟨PS.imp (ps_aug hN hi hx he.pe ho hf) fun D σ H ⟨m, env, h, P, at_, t1, k⟩ => ?_⟩
  unfold lAug at t1
  split at t1
  · rename_i a ea
    obtain ⟨x, ex, rx⟩ := at_.nm.2 _ _ ea
    refine ⟨x, ex, m, env, h, _, at_, t1, fun v h1 p1 m1 H1 y E1 R1 r1 => ?_⟩
    split at p1
    · rw [RelE] at rx
      rw [RelE] at r1
      exact ⟨_, _, rx, r1, k.nx _ _ p1 m1 H1 _ E1 ⟨R1, (at_.nm.ex E1).set (by rw [RelE]) i⟩⟩
    · exact p1.elim
  · exact t1.elim
def lcI (g : EH → Prop) (p : Pat) (tt : LTt) (te : LT) (d : Nat) (env : En) (k : EH → Prop) : List EV → EH → Prop
  | [], h => g h ∧ k h
  | x :: xs, h => g h ∧ lBind h p x env fun env2 => tt env2 h fun b h3 => if b = true then te env2 h3 fun y h4 => match h4[d]? with
      | some (.lst acc) => acc.length < sizeLine ∧ lcI g p tt te d env k xs (h4.set d (.lst (acc ++ [y])))
      | _ => False
    else lcI g p tt te d env k xs h3
def lcO (g : EH → Prop) (p : Pat) (tt : LTt) (ti1 : LI) (p1 : Pat) (tt1 : LTt) (te : LT) (d : Nat) (vs1 : List Nat) (env : En) (P : EK) : List EV → EH → Prop
  | [], h => g h ∧ P (.ref d) h
  | x :: xs, h => g h ∧ lBind h p x env fun env2 => tt env2 h fun b h3 => if b = true then ti1 env2 h3 fun g1 ys h4 => lcI g1 p1 tt1 te d (wipeE env2 vs1) (fun h5 => lcO g p tt ti1 p1 tt1 te d vs1 env P xs h5) ys h4
    else lcO g p tt ti1 p1 tt1 te d vs1 env P xs h3
def lLc2 (ti : LI) (p : Pat) (tt : LTt) (ti1 : LI) (p1 : Pat) (tt1 : LTt) (te : LT) (vs vs1 : List Nat) : LT := fun env h P => ti env h fun g xs h1 => lcO g p tt ti1 p1 tt1 te h1.length vs1 (wipeE env vs) P xs (h1 ++ [.lst []])
section
variable {X : Cx} {pos : Pos}
theorem up_lc2 (own : List (Str × Nat)) {ti ti1 : LI} {p p1 : Pat} {tt tt1 : LTt} {te : LT} {vs1 : List Nat} (hp : ∀ i ∈ Pat.slots p, i ∈ own.map (·.2)) (hp1 : ∀ i ∈ Pat.slots p1, i ∈ vs1) (σ : L2.St) (H : Hp) (Q : VK) (q : up X.K (lLc2 ti p tt ti1 p1 tt1 te (own.map (·.2)) vs1) σ H Q) :
    tLc2 (upI X.K ti) (gP X.K p) (upT X.K tt) (upI X.K ti1) (gP X.K p1) (upT X.K tt1) (up X.K te) (own.map (·.2)) vs1 σ H Q := by
  obtain ⟨m, env, h, P, at_, t1, k⟩ := q
  refine ⟨m, env, h, _, at_, t1, fun g xs h1 q1 m1 H1 J E1 R1 sim D hD => ?_⟩
  have E2 : Ex X.K m1 h1.length H1 (mput m1 h1.length D) (h1 ++ [EO.lst []]).length (upd H1 D (.lst [])) := Ex.new hD
  have R2 : RelH X.K (mput m1 h1.length D) (h1 ++ [EO.lst []]) (upd H1 D (.lst [])) := R1.new hD ⟨[], upd_same, .nil⟩
  let I : Nat → Hp → Prop := fun i H' => ∃ m2 h2, Ex X.K m1 h1.length H1 m2 h2.length H' ∧ RelH X.K m2 h2 H' ∧ m2 h1.length = D ∧ h1.length < h2.length ∧ lcO g p tt ti1 p1 tt1 te h1.length vs1 (wipeE env (own.map (·.2))) P (xs.drop i) h2
  refine ⟨fun i c H' => c = xs.length - i ∧ i ≤ xs.length ∧ I i H', ⟨xs.length, by simp, Nat.zero_le _, _, _, E2, R2, mput_at, by simp, by simpa using q1⟩, ?_⟩
  rintro i c H' ⟨rfl, hi, m2, h2, E3, R3, eD, lD, q⟩
  by_cases hlt : i < xs.length
  · have ed : xs.drop i = xs[i] :: xs.drop (i + 1) := List.drop_eq_getElem_cons hlt
    rw [ed, lcO] at q
    obtain ⟨qg, q⟩ := q
    obtain ⟨s1, s2⟩ := sim i h2 m2 H' E3 R3 qg
    obtain ⟨go, yl⟩ := s1 xs[i] (List.getElem?_eq_getElem hlt)
    refine .inr ⟨go, I (i + 1), fun H4 q4 => ⟨xs.length - (i + 1), by omega, rfl, hlt, q4⟩, fun v H4 y => ?_⟩
    obtain ⟨E4, R4, r4⟩ := yl v H4 y
    have E14 := (E1.trans E3).trans E4
    obtain ⟨env5, σ5, q5, f, N5, keep, len⟩ := bind_sim R4 ((at_.nm.ex E14).wipe (own.map (·.2))) r4 q
    refine f _ ⟨wipe_back (ss := Pat.slots p) keep hp (by rw [len, wipe_length]), m2, env5, h2, _, ⟨R4, N5⟩, q5, fun b h6 p6 m6 H6 E6 R6 => ?_⟩
    have E16 := (E3.trans E4).trans E6
    have lt2 := E6.le
    have eD6 : m6 h1.length = D := (E6.eq _ lD).trans eD
    cases b with
    | false =>
      dsimp only
      rw [if_neg Bool.false_ne_true] at p6 ⊢
      exact ⟨m6, h6, E16, R6, eD6, by omega, p6⟩
    | true =>
      dsimp only
      rw [if_pos rfl] at p6 ⊢
      refine ⟨m6, env5, h6, _, ⟨R6, N5.ex E6⟩, p6, fun g1 ys h7 p7 m7 H7 J1 E7 R7 sim1 => ?_⟩
      have lt7 := E7.le
      have eD7 : m7 h1.length = D := (E7.eq _ (by omega)).trans eD6
      have E17 := E16.trans E7
      have N7 := (N5.ex E6).ex E7
      let I1 : Nat → Hp → Prop := fun j H' => ∃ m8 h8, Ex X.K m7 h7.length H7 m8 h8.length H' ∧ RelH X.K m8 h8 H' ∧ lcI g1 p1 tt1 te h1.length (wipeE env5 vs1) (fun h5 => lcO g p tt ti1 p1 tt1 te h1.length vs1 (wipeE env (own.map (·.2))) P (xs.drop (i + 1)) h5) (ys.drop j) h8
      refine ⟨fun j c H' => c = ys.length - j ∧ j ≤ ys.length ∧ I1 j H', ⟨ys.length, by simp, Nat.zero_le _, m7, h7, .refl, R7, by simpa using p7⟩, ?_⟩
      rintro j c8 H8 ⟨rfl, hj, m8, h8, E8, R8, q8⟩
      have lt8 := E8.le
      have eD8 : m8 h1.length = D := (E8.eq _ (by omega)).trans eD7
      by_cases hjl : j < ys.length
      · have ed1 : ys.drop j = ys[j] :: ys.drop (j + 1) := List.drop_eq_getElem_cons hjl
        rw [ed1, lcI] at q8
        obtain ⟨qg8, q8⟩ := q8
        obtain ⟨s18, s28⟩ := sim1 j h8 m8 H8 E8 R8 qg8
        obtain ⟨go8, yl8⟩ := s18 ys[j] (List.getElem?_eq_getElem hjl)
        refine .inr ⟨go8, I1 (j + 1), fun H4 q4 => ⟨ys.length - (j + 1), by omega, rfl, hjl, q4⟩, fun v9 H9 y9 => ?_⟩
        obtain ⟨E9, R9, r9⟩ := yl8 v9 H9 y9
        obtain ⟨env10, σ10, q10, f10, N10, keep10, len10⟩ := bind_sim R9 ((N7.ex (E8.trans E9)).wipe vs1) r9 q8
        refine f10 _ ⟨wipe_back (ss := Pat.slots p1) keep10 hp1 (by rw [len10, wipe_length]), m8, env10, h8, _, ⟨R9, N10⟩, q10, fun b h11 p11 m11 H11 E11 R11 => ?_⟩
        have lt11 := E11.le
        have eD11 : m11 h1.length = D := (E11.eq _ (by omega)).trans eD8
        have E811 := (E8.trans E9).trans E11
        cases b with
        | false =>
          dsimp only
          rw [if_neg Bool.false_ne_true] at p11 ⊢
          exact ⟨m11, h11, E811, R11, p11⟩
        | true =>
          dsimp only
          rw [if_pos rfl] at p11 ⊢
          refine ⟨m11, env10, h11, _, ⟨R11, N10.ex E11⟩, p11, fun w h12 p12 m12 H12 y12 E12 R12 r12 => ?_⟩
          have lt12 := E12.le
          have eD12 : m12 h1.length = D := (E12.eq _ (by omega)).trans eD11
          split at p12
          · rename_i acc e12
            obtain ⟨us, a, r⟩ := R12.obj _ _ e12
            rw [eD12] at a
            refine ⟨us, a, by rw [← r.length]; exact p12.1, ?_⟩
            have E13 := Ex.write (o := .lst (us ++ [y12])) (e' := EO.lst (acc ++ [w])) R12 e12
            have R13 := R12.write (o := .lst (us ++ [y12])) (e' := EO.lst (acc ++ [w])) e12 ⟨_, upd_same, (RelEs.ex E13 _ _ r).app (.one (RelE.ex E13 _ _ r12))⟩
            rw [eD12] at E13 R13
            exact ⟨m12, _, (E811.trans E12).trans E13, R13, p12.2⟩
          · exact p12.elim
      · have e : j = ys.length := by omega
        subst e
        rw [List.drop_length, lcI] at q8
        obtain ⟨_, s28⟩ := sim1 ys.length h8 m8 H8 E8 R8 q8.1
        exact .inl ⟨s28 rfl, m8, h8, E17.trans E8, R8, eD8, by omega, q8.2⟩
  · have e : i = xs.length := by omega
    subst e
    rw [List.drop_length, lcO] at q
    obtain ⟨_, s2⟩ := sim xs.length h2 m2 H' E3 R3 q.1
    refine .inl ⟨s2 rfl, k _ _ q.2 m2 H' _ (E1.trans E3) R3 (by rw [RelE]; exact ⟨lD, by rw [eD]⟩)⟩
theorem le_lc2 {elt tg iter tg1 iter1 : Expr} {ifs ifs1 : List Expr} {scope : Scope} (own : List (Str × Nat)) (vs1 : List Nat) {ti ti1 : LI} {p p1 : Pat} {tt tt1 : LTt} {te : LT} (hc : X.calm = true) (hN : X.N.Nodup) (hi : LIt X tg iter ti) (ok : BlkOk X.N X.env.scope scope own)
    (hp : ∀ i ∈ Pat.slots p, i ∈ own.map (·.2)) (hp1 : ∀ i ∈ Pat.slots p1, i ∈ vs1) (hv : ∀ i ∈ vs1, i ∈ own.map (·.2))
    (hg : ∀ (s : Shared) (H : Hp) (C : Addr) (cl : List (Str × Addr)) (fp : List Addr), LG (X.blk s H scope (compEnvC scope cl C X.env) fp) tg p)
    (ht : ∀ (s : Shared) (H : Hp) (C : Addr) (cl : List (Str × Addr)) (fp : List Addr), LTs (X.blk s H scope (compEnvC scope cl C X.env) fp) ifs tt)
    (hi1 : ∀ (s : Shared) (H : Hp) (C : Addr) (cl : List (Str × Addr)) (fp : List Addr), LIt (X.blk s H scope (compEnvC scope cl C X.env) fp) tg1 iter1 ti1)
    (hg1 : ∀ (s : Shared) (H : Hp) (C : Addr) (cl : List (Str × Addr)) (fp : List Addr), LG (X.blk s H scope (compEnvC scope cl C X.env) fp) tg1 p1)
    (ht1 : ∀ (s : Shared) (H : Hp) (C : Addr) (cl : List (Str × Addr)) (fp : List Addr), LTs (X.blk s H scope (compEnvC scope cl C X.env) fp) ifs1 tt1)
    (he : ∀ (s : Shared) (H : Hp) (C : Addr) (cl : List (Str × Addr)) (fp : List Addr), LE (X.blk s H scope (compEnvC scope cl C X.env) fp) elt te) (hs : ∀ x, foldedSetIterable iter X.env x = pure x := by intro _; rfl) (hs1 : ∀ env x, foldedSetIterable iter1 env x = pure x := by intro _ _; rfl) :
    LE X (.ListComp elt [⟨tg, iter, ifs, 0⟩, ⟨tg1, iter1, ifs1, 0⟩] scope pos) (lLc2 ti p tt ti1 p1 tt1 te (own.map (·.2)) vs1) :=
  ⟨PE.imp (pe_lc2 (g := gP X.K p) (g1 := gP X.K p1) (tt := upT X.K tt) (tt1 := upT X.K tt1) (te := up X.K te) (wi1 := upI X.K ti1) hc hN hi.pi ok hv (fun s H C cl fp => (hg s H C cl fp).pg) (fun s H C cl fp => (ht s H C cl fp).pts) (fun s H C cl fp => (hi1 s H C cl fp).pi)
    (fun s H C cl fp => (hg1 s H C cl fp).pg) (fun s H C cl fp => (ht1 s H C cl fp).pts) (fun s H C cl fp => (he s H C cl fp).pe) hs hs1) (up_lc2 own hp hp1)⟩
end
end Y

namespace Y
open PySem PySem.Spec PyProof.Rows L2

section
variable {X : Cx}
end
def lPar3 (i j l : Nat) (ta : LA) : LS := fun D env h => ta env h fun vs h1 => match vs with
  | [u, v, w] => D.nx (((env.set i (some u)).set j (some v)).set l (some w)) h1
  | _ => False
theorem ls_par3 {X : Cx} {pos : Pos} (i j l : Nat) {x y z : Str} {a b c : Expr} {ta : LA} {px py pz pt : Pos} {kt k2 pt2} (hc : X.calm = true) (hN : X.N.Nodup) (ha : LAs X [a, b, c] ta) (hi : X.N[i]? = some x := by rfl) (hj : X.N[j]? = some y := by rfl) (hl : X.N[l]? = some z := by rfl) (hij : i ≠ j := by decide) (hil : i ≠ l := by decide) (hjl : j ≠ l := by decide)
    (hx : X.env.scope.names.lookup x = some .local := by rfl) (hy : X.env.scope.names.lookup y = some .local := by rfl) (hz : X.env.scope.names.lookup z = some .local := by rfl)
    (hw : swappedStores [.Tuple [.Name x px, .Name y py, .Name z pz] kt pt] (.Tuple [a, b, c] k2 pt2) X.env = pure (some [x, y, z]) := by rfl)
    (hs : swapsWithSole [.Tuple [.Name x px, .Name y py, .Name z pz] kt pt] (.Tuple [a, b, c] k2 pt2) pos.line X.env = pure false := by rfl) :
    LSt X (.Assign [.Tuple [.Name x px, .Name y py, .Name z pz] kt pt] (.Tuple [a, b, c] k2 pt2) pos) (lPar3 i j l ta) := by
  refine ⟨PS.imp (ps_par3 hc hN hi hj hl hij hil hjl hx hy hz ha.pa hw hs) fun D σ H ⟨m, env, h, P, at_, t1, k⟩ => ⟨m, env, h, _, at_, t1, fun vs h1 p1 m1 H1 xs E1 R1 r1 => ?_⟩⟩
  split at p1
  · rw [RelEs] at r1
    obtain ⟨u, l1, rfl, a1, r1⟩ := r1
    obtain ⟨v, w, rfl, a2, a3⟩ := r1.two_inv
    exact ⟨u, v, w, rfl, k.nx _ _ p1 m1 H1 _ E1 ⟨R1, (((at_.nm.ex E1).set a1 i).set a2 j).set a3 l⟩⟩
  · exact p1.elim
end Y

namespace Y
open PySem PySem.Spec PyProof.Rows L2

def putO (i : Nat) (v : EV) (vs : List (Option EV)) : List (Option EV) := (vs ++ List.replicate (i + 1 - vs.length) Option.none).set i (some v)
theorem putO_get (i : Nat) (v : EV) (vs : List (Option EV)) : (putO i v vs)[i]? = some (some v) := by
  unfold putO
  exact List.getElem?_set_self (by simp only [List.length_append, List.length_replicate]; omega)
theorem putO_ne {i j : Nat} {v x : EV} {vs : List (Option EV)} (h : j ≠ i) : (putO i v vs)[j]? = some (some x) ↔ vs[j]? = some (some x) := by
  unfold putO
  rw [List.getElem?_set_ne (Ne.symm h)]
  by_cases hj : j < vs.length
  · rw [List.getElem?_append_left hj]
  · have e1 : vs[j]? = Option.none := List.getElem?_eq_none_iff.mpr (by omega)
    rw [e1, List.getElem?_append_right (by omega), List.getElem?_replicate]
    constructor
    · intro q
      split at q <;> cases q
    · intro q
      cases q
section
variable {K : PySem.W.Frag} {m : Nat → Addr} {n : Nat} {H : Hp}
theorem sqT_upd3 {a p : Addr} {xs : List V} {o : HO} (h : SqT K H a xs) (hp : ∀ u, H p = some u → (∀ ys, u ≠ .tup ys) ∧ ∀ q ys, u ≠ .frz q (.tup ys)) : SqT K (upd H p o) a xs := by
  rcases h with h | h
  · refine .inl ?_
    have ne : a ≠ p := by
      rintro rfl
      rcases h with h | ⟨q, h⟩
      · exact (hp _ h).1 _ rfl
      · exact (hp _ h).2 _ _ rfl
    rcases h with h | ⟨q, h⟩
    · exact .inl (by rw [upd_ne ne]; exact h)
    · exact .inr ⟨q, by rw [upd_ne ne]; exact h⟩
  · exact .inr h
theorem tk_upd3 {H : Hp} {a p : Addr} {xs : List V} {o : HO} (h : H a = some (.tup xs)) (hp : ∀ u, H p = some u → ∀ ys, u ≠ .tup ys) : upd H p o a = some (.tup xs) := by
  have ne : a ≠ p := by
    rintro rfl
    exact hp _ h _ rfl
  rw [upd_ne ne]; exact h
theorem RelH.slot {h : EH} {r C dx : Nat} {vs : List (Option EV)} {ws : List (Option V)} {i : Nat} {v : EV} {x : V} (R : RelH K m h H) (hr : h[r]? = some (.slo C vs)) (S : SlX.Slt H (m r) C dx ws) (ne : dx ≠ m r) (hd : H dx = some (.own (m r)) ∨ H dx = some (.xd []))
    (rw' : ∀ (j : Nat) (v : EV), vs[j]? = some (some v) → ∃ w, ws[j]? = some (some w) ∧ RelE K m h.length H v w) (rx : RelE K m h.length H v x) :
    Ex K m h.length H m (h.set r (.slo C (putO i v vs))).length (SlX.slH H (m r) C dx (SlX.putS i x ws)) ∧ RelH K m (h.set r (.slo C (putO i v vs))) (SlX.slH H (m r) C dx (SlX.putS i x ws)) := by
  have hlt := (List.getElem?_eq_some_iff.mp hr).1
  have tops := R.tops hr
  have E : Ex K m h.length H m (h.set r (.slo C (putO i v vs))).length (SlX.slH H (m r) C dx (SlX.putS i x ws)) := by
    refine ⟨by simp, fun _ _ => rfl, fun a xs q => ?_, fun a xs q => ?_⟩
    · unfold SlX.slH
      refine sqT_upd3 (sqT_upd3 q fun u hu => ?_) fun u hu => ?_
      · rcases hd with z | z <;> rw [z] at hu <;> cases hu <;> exact ⟨fun _ z => (nomatch z), fun _ _ z => nomatch z⟩
      · rw [upd_ne (Ne.symm ne)] at hu
        exact ⟨(tops u hu).1, (tops u hu).2.1⟩
    · unfold SlX.slH
      refine tk_upd3 (tk_upd3 q fun u hu => ?_) fun u hu => ?_
      · rcases hd with z | z <;> rw [z] at hu <;> cases hu <;> exact fun _ z => nomatch z
      · rw [upd_ne (Ne.symm ne)] at hu
        exact (tops u hu).1
  refine ⟨E, ?_⟩
  have set_cases : ∀ {q : Nat} {u e' : EO}, (h.set r e')[q]? = some u → (q = r ∧ u = e') ∨ (q ≠ r ∧ h[q]? = some u) := fun {q u e'} hq => by
    by_cases z : r = q
    · subst z
      rw [List.getElem?_set_self hlt] at hq
      cases hq
      exact .inl ⟨rfl, rfl⟩
    · rw [List.getElem?_set_ne z] at hq
      exact .inr ⟨fun y => z y.symm, hq⟩
  refine ⟨fun q u hq => ?_, fun q p u v hq hp fu fv z => ?_⟩
  · rcases set_cases hq with ⟨rfl, rfl⟩ | ⟨z, hq⟩
    · have io := (R.obj _ _ hr).1
      refine ⟨io, dx, _, SlX.slH_slt ne, ne, .inr ?_, fun j y hj => ?_⟩
      · unfold SlX.slH
        rw [upd_ne ne, upd_same]
      · by_cases e : j = i
        · subst e
          rw [putO_get] at hj
          cases hj
          exact ⟨x, SlX.putS_get _ _ _, RelE.ex E _ _ rx⟩
        · obtain ⟨w, ew, r1⟩ := rw' j y ((putO_ne e).mp hj)
          exact ⟨w, (SlX.putS_ne e).mpr ew, RelE.ex E _ _ r1⟩
    · have Rq := R.obj q u hq
      have off : isF u = false → m q ≠ m r := fun fu y => z (R.inj q r u _ hq hr fu rfl y)
      by_cases fu : isF u = false
      · obtain ⟨c, hc, nt⟩ := Rq.there fu
        have nd : m q ≠ dx := by
          intro y
          rw [y] at hc
          rcases hd with z | z <;> rw [z] at hc <;> cases hc
          · exact nt.2.2.2.2 _ rfl
          · exact nt.2.2.2.1 _ rfl
        refine Rq.ex E (SlX.slH_ne (off fu) nd) fun b => ⟨fun e => ?_, fun e => ?_⟩
        · have nb : b ≠ m r := by
            rintro rfl
            exact (tops _ e).2.2.2.1 _ rfl
          unfold SlX.slH
          rw [upd_ne nb]
          by_cases y : b = dx
          · rw [y, upd_same]
          · rw [upd_ne y]; exact e
        · have nb : b ≠ m r := by
            rintro rfl
            exact (tops _ e).2.2.2.2 _ rfl
          have nd : b ≠ dx := by
            rintro rfl
            rcases hd with z | z
            · rw [z] at e
              injection e with e
              injection e with e
              exact off fu e.symm
            · rw [z] at e
              cases e
          rw [SlX.slH_ne nb nd]
          exact e
      · cases u with
        | frz xs =>
          obtain ⟨us, e, r1⟩ := Rq
          refine ⟨us, ?_, RelEs.ex E _ _ r1⟩
          rcases e with ⟨o, e⟩ | e
          · refine .inl ⟨o, ?_⟩
            have nb : m q ≠ m r := by
              intro y
              rw [y] at e
              exact (tops _ e).2.2.1 _ _ rfl
            have nd : m q ≠ dx := by
              intro y
              rw [y] at e
              rcases hd with z | z <;> rw [z] at e <;> cases e
            rw [SlX.slH_ne nb nd]
            exact e
          · exact .inr e
        | xob fs =>
          obtain ⟨l, e, r1⟩ := Rq
          refine ⟨l, ?_, RelFs.ex E _ _ r1⟩
          have nb : m q ≠ m r := by
            intro y
            rw [y] at e
            exact (tops _ e).2.2.2.1 _ rfl
          by_cases nd : m q = dx
          · rw [nd] at e ⊢
            rcases hd with z | z
            · rw [z] at e; cases e
            · rw [z] at e
              cases e
              unfold SlX.slH
              rw [upd_ne ne, upd_same]
          · rw [SlX.slH_ne nb nd]
            exact e
        | mark m0 n0 H0 => exact Ex.trans Rq E
        | _ => exact absurd rfl fu
  · rcases set_cases hq with ⟨a, a'⟩ | ⟨a, hq'⟩ <;> rcases set_cases hp with ⟨b, b'⟩ | ⟨b, hp'⟩
    · rw [a, b]
    · rw [a] at z; exact absurd (R.inj p r v _ hp' hr fv rfl z.symm) b
    · rw [b] at z; exact absurd (R.inj q r u _ hq' hr fu rfl z) a
    · exact R.inj q p u v hq' hp' fu fv z
end
abbrev STab := List (Addr × Nat)
def attrE (tab : STab) (v : EV) (h : EH) (P : EV → Prop) : Prop := match v with
  | .ref r => match h[r]? with
    | some (.slo C vs) => match tab.lookup C with
      | some i => match vs[i]? with
        | some (some x) => P x
        | _ => False
      | none => False
    | _ => False
  | _ => False
def lAttr (tab : STab) (to : LT) : LT := fun env h P => to env h fun v h1 => attrE tab v h1 fun x => P x h1
def SlotOf (K : PySem.W.Frag) (f : Str) (tab : STab) : Prop := ∀ q ∈ tab, SlX.SCls K q.1 ∧ ∃ p, SlX.Slot1 K q.1 f p q.2
def lSetAt (tab : STab) (to tv : LT) : LS := fun D env h => tv env h fun v h1 => to env h1 fun o h2 => match o with
  | .ref r => match h2[r]? with
    | some (.slo C vs) => match tab.lookup C with
      | some i => D.nx env (h2.set r (.slo C (putO i v vs)))
      | none => False
    | _ => False
  | _ => False
section
variable {X : Cx} {pos pos' apos : Pos} {o e : Expr} {es : List Expr} {to te : LT} {t : LA} {f x : Str}
theorem le_attr {tab : STab} (T : SlotOf X.K f tab) (he : LE X e te) (hb : attributeBase e f X.env (eval e X.env) = eval e X.env := by rfl) : LE X (.Attribute e f pos) (lAttr tab te) := by
  refine ⟨PE.imp (SlX.pe_sl he.pe hb) fun σ H Q ⟨m, env, h, P, at_, t1, k⟩ => ⟨m, env, h, _, at_, t1, fun v h1 p1 m1 H1 x E1 R1 r1 => ?_⟩⟩
  unfold attrE at p1
  split at p1
  · rw [RelE] at r1
    obtain ⟨_, rfl⟩ := r1
    split at p1
    · rename_i C vs e
      obtain ⟨_, dx, ws, s, _, _, r⟩ := R1.obj _ _ e
      split at p1
      · rename_i i ei
        obtain ⟨c, p, sl⟩ := T _ (lookup_mem ei)
        split at p1
        · rename_i y ey
          obtain ⟨w, ew, rw'⟩ := r _ _ ey
          exact ⟨_, C, dx, p, ws, i, w, rfl, s, c, sl, ew, k _ _ p1 m1 H1 _ E1 R1 rw'⟩
        · exact p1.elim
      · exact p1.elim
    · exact p1.elim
  · exact p1.elim
theorem ls_attr {tab : STab} (T : SlotOf X.K f tab) (ho : LE X o to) (hv : LE X e te) (hs : swapsWith e (some (.Attribute o f pos')) pos.line X.env = pure false := by rfl) : LSt X (.Assign [.Attribute o f pos'] e pos) (lSetAt tab to te) := by
  refine ⟨PS.imp (SlX.ps_sl ho.pe hv.pe hs) fun D σ H ⟨m, env, h, P, at_, t1, k⟩ => ⟨m, env, h, _, at_, t1, fun v h1 p1 m1 H1 x E1 R1 r1 => ⟨m1, env, h1, _, at_.ex E1 R1, p1, fun o h2 p2 m2 H2 y E2 R2 r2 => ?_⟩⟩⟩
  split at p2
  · rw [RelE] at r2
    obtain ⟨_, rfl⟩ := r2
    split at p2
    · rename_i C vs e
      obtain ⟨io, dx, ws, s, ne, hd, r⟩ := R2.obj _ _ e
      split at p2
      · rename_i i ei
        obtain ⟨c, p, sl⟩ := T _ (lookup_mem ei)
        have Z := R2.slot (i := i) e s ne hd r (RelE.ex E2 _ _ r1)
        exact ⟨_, C, dx, p, ws, i, rfl, s, c, sl, k.nx _ _ p2 m2 _ σ ((E1.trans E2).trans Z.1) (((at_.ex E1 R1).ex E2 R2).ex Z.1 Z.2)⟩
      · exact p2.elim
    · exact p2.elim
  · exact p2.elim
def lMake (C : Addr) (sp : LSp) (t : LA) : LT := fun env h P => t env h fun vs h1 => sp (.ref h1.length :: vs) (h1 ++ [.slo C []]) fun v h2 => v = .non ∧ P (.ref h1.length) h2
variable {k : Nat} {g C : Addr} {fd : FuncData} {ps : List Str} {sp : LSp} {p : Pos}
theorem guards_make {A : Around} (C : Addr) (us : List Value) (hG : A.guards = some []) : (A.under (.builtin "type.__call__" ⟨.ref C :: us, []⟩)).guards = some [] := by
  first | exact hG | simp [Around.under, Code.weight, Code.isCreation, Code.isGuard, Code.isCaller, Code.frames, Code.isFrame, guardIds, hG]
theorem runMk {pins : List (Addr × Obj)} {σ : L2.St} {H : Hp} {s : Shared} {Q : VK} {us : List Value} {vs : List V} (M : Mk X.K C g) (F : FnG X.prog X.w X.K X.mg X.base k g fd ps sp) (hr : Room (k + 1) X.A) (hG : X.A.guards = some []) (hb : Binds X.K fd ps [])
    (I : Inv X pins σ H s) (r : Vals vs us)
    (h : ∀ x dx, H x = none → H dx = none → dx ≠ x → upSp X.K sp (.ref x :: vs) (upd (upd H dx (.own x)) x (.ins C dx [])) (fun v H2 => v = .non ∧ Q (.ref x) H2)) :
    wpAny (model X.prog X.w) X.A (call (.ref C) us) (EP X pins σ Q) X.xe s := by
  have hq := h (s.heap.objs.size + 1) s.heap.objs.size (I.hok.fresh (Nat.le_succ _)) (I.hok.fresh (Nat.le_refl _)) (Nat.ne_of_lt (Nat.lt_succ_self _))
  have I2 := Inv.made (C := C) I
  have r2 : Vals (V.ref (s.heap.objs.size + 1) :: vs) (Value.ref (s.heap.objs.size + 1) :: us) := .cons rfl r
  have hl : (Value.ref (s.heap.objs.size + 1) :: us).length = ps.length := by
    have e := r2.length
    rw [upSp.len F.len hq] at e
    exact e.symm
  have b := hb _ (Value.ref (s.heap.objs.size + 1) :: us) I2.kIn (by rw [List.append_nil]; exact hl)
  rw [List.append_nil] at b
  refine wpAny_call (make_map (f := g) I.kIn M.makes M.init (beq_iff_eq.mp M.fn) (codeAny_mono (F.run _ X.stack _ _ ⟨Value.ref (s.heap.objs.size + 1) :: us, []⟩ (Value.ref (s.heap.objs.size + 1) :: us) _ _ (hr.make C us []) (guards_make C us hG)
    (I2.env0.make C us []) b r2 hq) fun r s' hq' => ?_))
  match r, hq' with
  | .error _, ho => exact ho.elim
  | .ok (.ret u), ho =>
    obtain ⟨v, H', I3, rv, ev, q3⟩ := I2.after ho
    subst ev
    exact ⟨rv, ⟨V.ref (s.heap.objs.size + 1), H', I3, rfl, q3⟩⟩
  | .ok .next, ho => exact ho.elim
  | .ok .brk, ho => exact ho.elim
  | .ok .cont, ho => exact ho.elim
theorem up_make {K : PySem.W.Frag} (io : IsiOk K C) (σ : L2.St) (H : Hp) (Q : VK) (q : up K (lMake C sp t) σ H Q) : upA K t σ H fun vs H1 => ∀ x dx, H1 x = none → H1 dx = none → dx ≠ x → upSp K sp (.ref x :: vs) (upd (upd H1 dx (.own x)) x (.ins C dx [])) (fun v H2 => v = .non ∧ Q (.ref x) H2) := by
  obtain ⟨m, env, h, P, at_, t1, k⟩ := q
  refine ⟨m, env, h, _, at_, t1, fun vs h1 p1 m1 H1 xs E1 R1 r1 x dx hx hdx ne => ?_⟩
  have E2 : Ex K m1 h1.length H1 m1 h1.length (upd H1 dx (.own x)) := Ex.tup1 hdx
  have R2 := R1.tup (o := .own x) hdx
  have hx2 : upd H1 dx (.own x) x = none := by rw [upd_ne (Ne.symm ne)]; exact hx
  have E3 : Ex K m1 h1.length (upd H1 dx (.own x)) (mput m1 h1.length x) (h1 ++ [EO.slo C []]).length (upd (upd H1 dx (.own x)) x (.ins C dx [])) := Ex.new hx2
  have R3 : RelH K (mput m1 h1.length x) (h1 ++ [EO.slo C []]) (upd (upd H1 dx (.own x)) x (.ins C dx [])) := R2.new hx2 ⟨io, dx, [], .inl ⟨upd_same, rfl⟩, ne, .inl (by rw [upd_ne ne, upd_same]), fun i v q => by simp at q⟩
  have E := E2.trans E3
  refine ⟨mput m1 h1.length x, _, _, _, R3, .cons (by rw [RelE]; exact ⟨by simp, by rw [mput_at]⟩) (RelEs.ex E _ _ r1), p1, fun v h2 p2 m2 H2 y E4 R4 r4 => ?_⟩
  obtain ⟨rfl, p2⟩ := p2
  rw [RelE] at r4
  refine ⟨r4, k _ _ p2 m2 H2 _ ((E1.trans E).trans E4) R4 ?_⟩
  have lt := E4.le
  simp only [List.length_append, List.length_singleton] at lt
  rw [RelE]
  refine ⟨by omega, ?_⟩
  rw [E4.eq h1.length (by simp), mput_at]
theorem le_make (io : IsiOk X.K C) (M : Mk X.K C g) (F : FnG X.prog X.w X.K X.mg X.base k g fd ps sp) (hr : Room (k + 1) X.A) (hG : X.A.guards = some []) (hg : Gl X x) (hm : X.mg x = some (.ref C)) (hb : Binds X.K fd ps [])
    (ha : LAs X (e :: es) t) (hdb : (x == ("__debug__" : Str)) = false := by decide) (he : starEach (e :: es) X.env = (false, eval e X.env) :: starEach es X.env := by rfl) (hpl : (backTo pos (starEach es X.env)).any (·.1) = false := by rfl) :
    LE X (.Call (.Name x p) (e :: es) [] pos) (lMake C sp t) :=
  ⟨⟨fun pins s σ H Q I q => wpAny_Call_Name_kw (ld_glob I hg hm (PySem.W.callWith_K (h₀ := X.base) I.ok.mod.kin M.kp (thn (ha.pa.run pos pins s σ H _ I (up_make io σ H Q q)) fun us s1 ⟨vs, H1, I1, r, q1⟩ =>
    ⟨I1.kIn, runMk M F hr hG hb I1 r q1⟩) he hpl) hdb)⟩⟩
def MetOf (X : Cx) (m : Str) (mt : Addr → Option LSp) : Prop := ∀ C sp, mt C = some sp → SlX.SCls X.K C ∧ ∃ g k fd ps, Meth X.K C m g ∧ FnG X.prog X.w X.K X.mg X.base k g fd ps sp ∧ Room k X.A ∧ Binds X.K fd ps []
def metK (mt : Addr → Option LSp) (t : LA) (env : En) (P : EK) (v : EV) (h1 : EH) : Prop := match v with
  | .ref r => match h1[r]? with
    | some (.slo C _) => match mt C with
      | some sp => t env h1 fun vs h2 => sp (.ref r :: vs) h2 P
      | none => False
    | _ => False
  | _ => False
def lMet (mt : Addr → Option LSp) (to : LT) (t : LA) : LT := fun env h P => to env h fun v h1 => metK mt t env P v h1
theorem le_met {mt : Addr → Option LSp} {m : Str} {pl : Sem Bool} (T : MetOf X m mt) (hG : X.A.guards = some []) (ho : LE X o to) (ha : LAs X (e :: es) t)
    (hst : starEach (e :: es) X.env = (false, eval e X.env) :: starEach es X.env := by rfl) (hpl : (backTo pos (starEach es X.env)).any (·.1) = false := by rfl)
    (ht : eval (.Call (.Attribute o m apos) (e :: es) [] pos) X.env = (do
      let ov ← eval o X.env
      standAt apos.atName
      let (f, first) ← holding [ov] (getMethod ov m pl)
      callWith pos f first (backTo pos (starEach (e :: es) X.env)) (backToKw pos (keywordEach [] X.env))) := by rfl) :
    LE X (.Call (.Attribute o m apos) (e :: es) [] pos) (lMet mt to t) := by
  refine ⟨⟨fun pins s σ H Q I ⟨mm, env, h, P, at_, t1, k⟩ => ?_⟩⟩
  have hq : up X.K to σ H (fun x H1 => ∃ m1 h1 v, metK mt t env P v h1 ∧ Ex X.K mm h.length H m1 h1.length H1 ∧ RelH X.K m1 h1 H1 ∧ RelE X.K m1 h1.length H1 v x) := ⟨mm, env, h, _, at_, t1, fun v h1 p1 m1 H1 x E1 R1 r1 => ⟨m1, h1, v, p1, E1, R1, r1⟩⟩
  refine PySem.W.methodCall_KW (pl := pl) (thn (ho.pe.run pins s σ H _ I hq) fun u s1 ⟨x, H1, I1, rx, m1, h1, v, p1, E1, R1, r1⟩ => ?_) ht
  unfold metK at p1
  split at p1
  · rename_i r
    rw [RelE] at r1
    obtain ⟨hlt, rfl⟩ := r1
    split at p1
    · rename_i C vs e
      obtain ⟨_, dx, ws, sl, _, _, _⟩ := R1.obj _ _ e
      split at p1
      · rename_i sp es
        obtain ⟨c, g, kk, fd, ps, hm, F, hr, hb⟩ := T _ _ es
        obtain rfl : u = Value.ref (m1 r) := rx
        refine SlX.getmethsl_ok I1 sl c hm ?_
        refine PySem.W.callWith_K (first := [.ref (m1 r)]) (h₀ := X.base) I.ok.mod.kin hm.kp (thn (ha.pa.run pos pins s1 σ H1 (fun vs H2 => upSp X.K sp (.ref (m1 r) :: vs) H2 Q) I1 ⟨m1, env, h1, _, at_.ex E1 R1, p1, fun vs h2 p2 m2 H2 xs E2 R2 r2 =>
          ⟨m2, h2, _, P, R2, .cons (by rw [RelE]; exact ⟨Nat.lt_of_lt_of_le hlt E2.le, by rw [E2.eq _ hlt]⟩) r2, p2, k.ex (E1.trans E2)⟩⟩) fun us s2 ⟨ws, H2, I2, rr, q2⟩ => ⟨I2.kIn, ?_⟩) hst hpl
        exact runG (us := .ref (m1 r) :: us) (vs := .ref (m1 r) :: ws) F hr hG hb I2 (.cons rfl rr) q2
      · exact p1.elim
    · exact p1.elim
  · exact p1.elim
end
end Y

namespace Y
open PySem PySem.Spec PyProof.Rows L2

def lLockE (t : LT) : LT := fun env h P => ∃ r kvs, h[r]? = some (.dic kvs) ∧ ∀ od l, t env (h.set r (.dlk od l kvs)) fun v h' => h'[r]? = some (.dlk od l kvs) ∧ P v (h'.set r (.dic kvs))
theorem le_lock {X : Cx} {e : Expr} {t : LT} (he : LE X e t) : LE X e (lLockE t) := by
  refine ⟨PE.imp (pe_lock he.pe) fun σ H Q ⟨m, env, h, P, at_, t1, k⟩ => ?_⟩
  obtain ⟨r, kvs, er, t1⟩ := t1
  obtain ⟨l, a, rl⟩ := at_.hp.obj _ _ er
  refine ⟨m r, .dK l, a, trivial, fun od => ?_⟩
  have E := Ex.write (o := .frz od (.dK l)) (e' := EO.dlk od l kvs) at_.hp er
  have R := at_.hp.write (o := .frz od (.dK l)) (e' := EO.dlk od l kvs) er ⟨upd_same, rl.ex E⟩
  refine ⟨m, env, _, _, at_.ex E R, t1 od l, fun v h' p m' H' x E' R' r' => ?_⟩
  have hr := lt_of_at er
  have em : m' r = m r := E'.eq r (by simpa using hr)
  obtain ⟨a', rl'⟩ := R'.obj _ _ p.1
  rw [em] at a'
  refine ⟨a', ?_⟩
  have E2 := Ex.write (o := .dK l) (e' := EO.dic kvs) R' p.1
  have R2 := R'.write (o := .dK l) (e' := EO.dic kvs) p.1 ⟨l, upd_same, rl'.ex E2⟩
  rw [em] at E2 R2
  exact k _ _ p.2 m' _ _ ((E.trans E').trans E2) R2 (RelE.ex E2 _ _ r')
theorem RelKV.at {K : PySem.W.Frag} {m : Nat → Addr} {n : Nat} {H : Hp} : ∀ {es : List (EV × EV)} {l : List (L2.Key × V)} {i : Nat} {p : EV × EV}, RelKV K m n H es l → es[i]? = some p → ∃ k v, l[i]? = some (k, v) ∧ RelE K m n H p.1 (kV k) ∧ RelE K m n H p.2 v
  | [], l, i, p, r, e => by simp at e
  | (a, x) :: es, l, 0, p, r, e => by
    rw [RelKV] at r
    obtain ⟨k, v, l', rfl, ra, rx, r⟩ := r
    simp at e
    subst e
    exact ⟨k, v, rfl, ra, rx⟩
  | (a, x) :: es, l, i + 1, p, r, e => by
    rw [RelKV] at r
    obtain ⟨k, v, l', rfl, ra, rx, r⟩ := r
    obtain ⟨k2, v2, e2, b⟩ := RelKV.at (i := i) r (by simpa using e)
    exact ⟨k2, v2, by simpa using e2, b⟩
def lItems (te : LT) : LI := fun env h P => te env h fun v h1 => match v with
  | .ref r => match h1[r]? with
    | some (.dlk o l kvs) => P (fun h' => h'[r]? = some (.dlk o l kvs)) (kvs.map fun p => EV.tup [p.1, p.2]) h1
    | _ => False
  | _ => False
theorem lit_items {X : Cx} {e : Expr} {te : LT} {elts : List Expr} {kk : Nat} {tpos apos cpos : Pos} (he : LE X e te) (hbase : attributeBase e "items" X.env (eval e X.env) = eval e X.env := by rfl) (hline : (apos.endLine == cpos.line) = true := by rfl) :
    LIt X (.Tuple elts kk tpos) (.Call (.Attribute e "items" apos) [] [] cpos) (lItems te) := by
  refine ⟨PI.imp (pi_items he.pe hbase hline) fun σ H R ⟨m, env, h, P, at_, t1, k⟩ => ⟨m, env, h, _, at_, t1, fun v h1 p1 m1 H1 x E1 R1 r1 => ?_⟩⟩
  split at p1
  · rename_i r
    rw [RelE] at r1
    obtain ⟨hr, rfl⟩ := r1
    split at p1
    · rename_i o l kvs er
      obtain ⟨a, rl⟩ := R1.obj _ _ er
      refine ⟨_, o, l, rfl, a, k _ _ h1 p1 m1 H1 _ E1 R1 fun i h' m' H' E' R' gh => ?_⟩
      obtain ⟨a', rl'⟩ := R'.obj _ _ gh
      rw [E'.eq _ hr] at a'
      have ll := RelKV.length rl'
      refine ⟨fun z hz => ?_, fun hi => ⟨a', by rw [List.length_map] at hi; omega⟩⟩
      rw [List.getElem?_map] at hz
      obtain ⟨p, hp, rfl⟩ := Option.map_eq_some_iff.mp hz
      obtain ⟨k2, v2, e2, ra, rb⟩ := RelKV.at rl' hp
      refine ⟨⟨a', (List.getElem?_eq_some_iff.mp e2).1⟩, fun v H2 ⟨T, k3, v3, e3, ev, hT, eH⟩ => ?_⟩
      rw [e2] at e3
      cases e3
      subst ev eH
      exact rel_pair R' hT ra rb
    · exact p1.elim
  · exact p1.elim
def tyE (v : EV) (h : EH) : Option String := match v with
  | .non => some "NoneType"
  | .bl _ => some "bool"
  | .int _ => some "int"
  | .str _ => some "str"
  | .ref r => match h[r]? with
    | some (.lst _) => some "list"
    | some (.dic _) => some "dict"
    | some (.slo _ _) => some "?"
    | _ => none
  | .tup _ => some "tuple"
  | .ktup _ => some "tuple"
  | _ => none
def isiB (t T : String) : Bool := t == T || (t == "bool" && T == "int")
def isiE : LC := fun vs h P => match vs with
  | [v, .ty T] => match tyE v h with
    | some t => (T = "int" ∨ T = "bool" ∨ T = "str" ∨ T = "tuple" ∨ T = "dict" ∨ T = "list") ∧ P (.bl (isiB t T)) h
    | none => False
  | _ => False
theorem isi_tab : ∀ t ∈ ["NoneType", "bool", "int", "str", "list", "dict", "tuple"], ∀ T ∈ ["int", "bool", "str", "tuple", "dict", "list"], kitB t T = some (isiB t T) := by decide +kernel
theorem le_bty {X : Cx} {x : Str} {pos : Pos} (T : String) (hg : Gl X x) (hm : X.mg x = none) (hv : bootBuiltins x = some (.type T)) (hn : x ≠ "__name__" := by decide) (hdb : (x == ("__debug__" : Str)) = false := by decide) : LE X (.Name x pos) (lC (.ty T)) :=
  ⟨⟨fun pins s σ H Q I ⟨m, env, h, P, at_, t1, k⟩ => ld_blt I hg hm hv (s := s) ⟨.ty T, H, I, rfl, k _ _ t1 m H _ .refl at_.hp (by rw [RelE])⟩ hn hdb⟩⟩
section
open PySem.W
variable {prog : Program} {w : World} {A : Around} {E : Value → Shared → Prop} {s : Shared} {K : PySem.W.Frag} {x D : Addr} {ox od : Obj}
theorem cls_some (h : isClsIn K D = true) : ∃ cd, clsIn K D = some cd := Option.isSome_iff_exists.mp h
theorem kin_class2 {Q : Option Value → Shared → Prop} (io : IsiOk K D) (X : K.In s.heap) (I : InstAt s.heap x ox D (some od)) (h : Q (some (.ref D)) { s with toks := s.toks + 1 }) : wpAny (model prog w) A (getAttr? (.ref x) "__class__") Q E s := by
  have hf : findObj K D (some od) "__class__" = some (.bind (.builtin "getset_descriptor.__get__") (.builtin "object.__class__")) := findObj_data (by obtain ⟨cd, hc⟩ := cls_some io.ic; rw [hc]; rfl) io.cl io.gt io.tk
  exact kin_open X I (plainGet_of io.pg).1 (kin_hooked (s := { s with toks := s.toks + 1 }) X I hf (plainGet_of io.pg).2
    (wpAny_call (class_get (s := { s with toks := s.toks + 1 }) (ox := ox) (od := some od) X I io.mo (handed_on rfl h))))
theorem kitx_own2 (io : IsiOk K D) : KitX K (.ref x) (.ref D) (fun h => InstAt h x ox D (some od)) where
  ty := fun _ _ _ I => I.type
  it := fun _ _ X _ => by
    obtain ⟨cdD, hcD⟩ := cls_some io.ic
    unfold clsIn at hcD
    split at hcD
    · rename_i c' d' cd' sl' ho
      intro A' Q' E' s' k q
      unfold isType loadHead
      exact wpAny_bind (wpAny_loadPart (k _ _ (X _ _ ho)) (wpAny_pure q))
    · cases hcD
  ne := fun h tp dd its n sl X htp => by
    obtain ⟨cdD, hcD⟩ := cls_some io.ic
    refine Bool.eq_false_iff.mpr fun q => ?_
    have e : D = tp := Value.ref.inj (beq_iff_eq.mp q)
    subst e
    unfold clsIn at hcD
    split at hcD
    · rename_i c' d' cd' sl' ho
      have z := (X _ _ ho).symm.trans htp
      cases z
    · cases hcD
  ca := fun X I k => kin_class2 io X I k
end
def IsSl (K : PySem.W.Frag) (H : Hp) (a C : Addr) : Prop := IsiOk K C ∧ ∃ dx ws, SlX.Slt H a C dx ws ∧ (H dx = some (.own a) ∨ H dx = some (.xd []))
theorem IsSl.at {X : Cx} {pins : List (Addr × Obj)} {σ : L2.St} {H : Hp} {s : Shared} {a C : Addr} (I : Inv X pins σ H s) (z : IsSl X.K H a C) : ∃ ox od, PySem.W.InstAt s.heap a ox C (some od) := by
  obtain ⟨io, dx, ws, sl, hd⟩ := z
  have hdx : ∃ od, s.heap.get? dx = some od := by
    rcases hd with hd | hd
    · exact I.hok dx _ hd
    · obtain ⟨mA, ⟨od, es, ep, e, _⟩, _⟩ := I.hok dx _ hd
      exact ⟨od, e⟩
  obtain ⟨od, hod⟩ := hdx
  rcases sl with ⟨e, _⟩ | ⟨e, _⟩
  · obtain ⟨d, _, ne, e1, _⟩ := I.hok a _ e
    exact ⟨_, od, e1, rfl, rfl, hod⟩
  · have e' := I.hok a _ e
    unfold SlX.SlO at e'
    obtain ⟨⟨sl, e1, _⟩, _⟩ := e'
    exact ⟨_, od, e1, rfl, rfl, hod⟩
def rIsiS (K : PySem.W.Frag) : List V → Hp → VK → Prop := fun xs H Q => ∃ a C T, xs = [.ref a, .ty T] ∧ IsSl K H a C ∧ T ∈ ["int", "bool", "str", "tuple", "dict", "list"] ∧ Q (.bl false) H
theorem call_isiS {X : Cx} : CallR X (.builtin "isinstance") (rIsiS X.K) := by
  intro pins s σ H xs us Q I r h
  obtain ⟨a, C, T, rfl, z, hT, q⟩ := h
  obtain ⟨u1, u2, rfl, r1, r2⟩ := vals2 r
  cases (show u1 = Value.ref a from r1)
  cases (show u2 = Value.type T from r2)
  obtain ⟨ox, od, J⟩ := z.at I
  exact PySem.W.kia_one (kitx_own2 z.1) I.kIn J (z.1.ty T hT) (fun y => nomatch y) fun tk => ⟨.bl false, H, I.tok tk, rfl, q⟩
theorem lc_isi {X : Cx} : LCallR X (.builtin "isinstance") isiE := by
  refine ⟨_, CallR.or call_isi call_isiS, fun m h H vs xs P Q R r0 q k => ?_⟩
  unfold isiE at q
  split at q
  · obtain ⟨x, y, rfl, r1, r2⟩ := r0.two_inv
    rw [RelE] at r2
    subst r2
    split at q
    · rename_i v T _ t et
      have hT : T ∈ ["int", "bool", "str", "tuple", "dict", "list"] := by
        rcases q.1 with z | z | z | z | z | z <;> rw [z] <;> simp
      by_cases hs : t = "?"
      · subst hs
        refine .inr ?_
        obtain ⟨r, C, vs, rfl, e⟩ : ∃ r C vs, v = .ref r ∧ h[r]? = some (.slo C vs) := by
          unfold tyE at et
          split at et <;> first
            | (rename_i r; split at et <;> first | (rename_i C vs e; exact ⟨r, C, vs, rfl, e⟩) | (simp at et; done))
            | (simp at et; done)
        rw [RelE] at r1
        obtain ⟨_, rfl⟩ := r1
        obtain ⟨io, dx, ws, sl, _, hd, _⟩ := R.obj _ _ e
        have qf : isiB "?" T = false := by
          simp only [List.mem_cons, List.not_mem_nil, or_false] at hT
          rcases hT with z | z | z | z | z | z <;> rw [z] <;> rfl
        rw [qf] at q
        exact ⟨_, _, T, rfl, ⟨io, dx, ws, sl, hd⟩, hT, k.same R q.2 (by rw [RelE])⟩
      have ty : TyX X.K H x (.type t) := by
        unfold tyE at et
        split at et
        · rw [RelE] at r1; subst r1; cases et; exact .base .non
        · rw [RelE] at r1; subst r1; cases et; exact .base (.bl _)
        · rw [RelE] at r1; subst r1; cases et; exact .base (.int _)
        · rw [RelE] at r1; subst r1; cases et; exact .base (.str _)
        · rw [RelE] at r1
          obtain ⟨_, rfl⟩ := r1
          split at et
          · rename_i e
            obtain ⟨us, a, _⟩ := R.obj _ _ e
            cases et; exact .base (.lst a)
          · rename_i e
            obtain ⟨us, a, _⟩ := R.obj _ _ e
            cases et; exact .base (.dK a)
          · cases et; exact absurd rfl hs
          · cases et
        · rw [RelE] at r1
          obtain ⟨a, us, rfl, ha, _⟩ := r1
          cases et
          exact .base (.tup ha)
        · rw [RelE] at r1
          obtain ⟨a, us, rfl, ha, _⟩ := r1
          cases et
          rcases ha with (ha | ⟨o, ha⟩) | ⟨o, its, n, hk, hc, _⟩
          · exact .base (.tup ha)
          · exact .fTuple ha
          · exact .kTuple hk hc
        · cases et
      have ht : t ∈ ["NoneType", "bool", "int", "str", "list", "dict", "tuple"] := by
        unfold tyE at et
        split at et <;> first | (cases et; simp; done) | (cases et; done) | (split at et <;> first | (cases et; simp; done) | (cases et; done) | (cases et; exact absurd rfl hs))
      exact .inl ⟨x, _, _, _, _, rfl, .ty T, ty, kit_ty (isi_tab t ht T hT), k.same R q.2 (by rw [RelE])⟩
    · exact q.elim
  · exact q.elim
def isDct (r : Nat) (h : EH) : Prop := match h[r]? with
  | some (.dic _) => True
  | some (.dct _) => True
  | _ => False
def lGet2 (td ty tx : LT) : LT := fun env h P => td env h fun v h1 => match v with
  | .ref r => isDct r h1 ∧ ty env h1 fun y h2 => tx env h2 fun z h3 => match h3[r]? with
    | some (.dic kvs) => isKey y ∧ P ((dGet kvs y).getD z) h3
    | some (.dct kvs) => isKeyT y ∧ P ((dGetT kvs y).getD z) h3
    | _ => False
  | _ => False
theorem le_get2 {X : Cx} {o e f : Expr} {td ty tx : LT} {apos cpos : Pos} (hu : X.A.units + 1 < cLine) (ho : LE X o td) (he : LE X e ty) (hf : LE X f tx) (m2 : M2 X o "get" apos e f cpos := by exact ⟨rfl, rfl, rfl, rfl⟩) :
    LE X (.Call (.Attribute o "get" apos) [e, f] [] cpos) (lGet2 td ty tx) := by
  refine ⟨PE.imp (pe_dget2 hu ho.pe he.pe hf.pe m2) fun σ H Q ⟨m, env, h, P, at_, t1, k⟩ => ⟨m, env, h, _, at_, t1, fun v h1 p1 m1 H1 x E1 R1 r1 => ?_⟩⟩
  split at p1
  · rename_i r
    obtain ⟨er, p1⟩ := p1
    rw [RelE] at r1
    obtain ⟨hr, rfl⟩ := r1
    have isd : IsD H1 (m1 r) := by
      unfold isDct at er
      split at er
      · rename_i e
        obtain ⟨l, a, _⟩ := R1.obj _ _ e
        exact .inl ⟨l, .inl a⟩
      · rename_i e
        obtain ⟨l, a, _⟩ := R1.obj _ _ e
        exact .inr ⟨l, .inl a⟩
      · exact er.elim
    refine ⟨_, rfl, isd, m1, env, h1, _, at_.ex E1 R1, p1, fun y h2 p2 m2 H2 yv E2 R2 r2 => ⟨m2, env, h2, _, (at_.ex E1 R1).ex E2 R2, p2, fun z h3 p3 m3 H3 zv E3 R3 r3 => ?_⟩⟩
    split at p3
    · rename_i kvs3 er3
      obtain ⟨l3, a3, rl3⟩ := R3.obj _ _ er3
      obtain ⟨hk, p3⟩ := p3
      have r2' := RelE.ex E3 _ _ r2
      obtain ⟨k', rfl⟩ := key_of hk r2'
      have em : m3 r = m1 r := (E3.eq _ (Nat.lt_of_lt_of_le hr E2.le)).trans (E2.eq _ hr)
      rw [em] at a3
      refine ⟨_, DGet.k a3, ?_⟩
      obtain ⟨g1, g2⟩ := RelKV.get r2' hk rl3
      have E13 := (E1.trans E2).trans E3
      cases e : dGet kvs3 y with
      | none =>
        rw [g2 e]
        rw [e] at p3
        exact k _ _ p3 m3 H3 _ E13 R3 r3
      | some w =>
        obtain ⟨u, eu, ru⟩ := g1 w e
        rw [eu]
        rw [e] at p3
        exact k _ _ p3 m3 H3 _ E13 R3 ru
    · rename_i kvs3 er3
      obtain ⟨l3, a3, rl3⟩ := R3.obj _ _ er3
      obtain ⟨hk, p3⟩ := p3
      have r2' := RelE.ex E3 _ _ r2
      obtain ⟨k', b, ek, rfl, hb⟩ := keyT_of hk r2'
      have em : m3 r = m1 r := (E3.eq _ (Nat.lt_of_lt_of_le hr E2.le)).trans (E2.eq _ hr)
      rw [em] at a3
      refine ⟨_, DGet.t a3 hb, ?_⟩
      obtain ⟨g1, g2⟩ := RelKT.get ek rl3
      have E13 := (E1.trans E2).trans E3
      cases e : dGetT kvs3 y with
      | none =>
        rw [g2 e]
        rw [e] at p3
        exact k _ _ p3 m3 H3 _ E13 R3 r3
      | some w =>
        obtain ⟨u, eu, ru⟩ := g1 w e
        rw [eu]
        rw [e] at p3
        exact k _ _ p3 m3 H3 _ E13 R3 ru
    · exact p3.elim
  · exact p1.elim
def sortE : LC := fun vs h P => match vs with
  | [.ref r] => match h[r]? with
    | some (.dic kvs) => ∃ ks : List Int, kvs.map (·.1) = ks.map EV.int ∧ ks.length < 64 ∧ ∀ ys : List Int, ys.Perm ks → ys.Pairwise (· ≤ ·) → P (.ref h.length) (h ++ [.lst (ys.map EV.int)])
    | _ => False
  | _ => False
def dcopyE : LC := fun vs h P => match vs with
  | [.ref r] => match h[r]? with
    | some (.dic kvs) => P (.ref h.length) (h ++ [.dic kvs])
    | _ => False
  | _ => False
theorem RelKV.keysI {K : PySem.W.Frag} {m : Nat → Addr} {n : Nat} {H : Hp} : ∀ {es : List (EV × EV)} {l : List (L2.Key × V)} {ks : List Int}, RelKV K m n H es l → es.map (·.1) = ks.map EV.int → l.map (·.1) = ks.map Sum.inl
  | [], l, ks, r, e => by
    rw [RelKV] at r
    subst r
    cases ks with
    | nil => rfl
    | cons => simp at e
  | (a, x) :: es, l, ks, r, e => by
    rw [RelKV] at r
    obtain ⟨k, v, l', rfl, ra, _, r⟩ := r
    cases ks with
    | nil => simp at e
    | cons i ks =>
      rw [List.map_cons, List.map_cons, List.cons.injEq] at e
      obtain ⟨e1, e2⟩ := e
      have e1 : a = EV.int i := e1
      subst e1
      rw [RelE] at ra
      have : k = Sum.inl i := by
        cases k with
        | inl j => injection ra with z; rw [z]
        | inr s => cases ra
      rw [List.map_cons, List.map_cons, RelKV.keysI r e2, this]
theorem lc_sorted {X : Cx} (hc : X.calm = true) : LCallR X (.builtin "sorted") sortE := by
  refine ⟨_, call_sortedDI hc, fun m h H vs xs P Q R r0 q k => ?_⟩
  unfold sortE at q
  split at q
  · obtain ⟨v, rfl, r⟩ := r0.one_inv
    rw [RelE] at r
    obtain ⟨_, rfl⟩ := r
    split at q
    · rename_i e
      obtain ⟨l, a, rl⟩ := R.obj _ _ e
      obtain ⟨ks, ek, hl, q⟩ := q
      exact ⟨_, l, ks, rfl, .inl a, rl.keysI ek, hl, fun ys p hp hs hn => k.lst R (q ys hp hs) (rel_ints ys) hn⟩
    · exact q.elim
  · exact q.elim
theorem lc_dict {X : Cx} : LCallR X (.type "dict") dcopyE := by
  refine ⟨_, call_dictD, fun m h H vs xs P Q R r0 q k => ?_⟩
  unfold dcopyE at q
  split at q
  · obtain ⟨v, rfl, r⟩ := r0.one_inv
    rw [RelE] at r
    obtain ⟨_, rfl⟩ := r
    split at q
    · rename_i kvs e
      obtain ⟨l, a, rl⟩ := R.obj _ _ e
      refine ⟨_, l, rfl, .inl a, fun p hp => ?_⟩
      have E : Ex X.K m h.length H (mput m h.length p) (h ++ [EO.dic kvs]).length (upd H p (.dK l)) := Ex.new hp
      have R2 : RelH X.K (mput m h.length p) (h ++ [EO.dic kvs]) (upd H p (.dK l)) := R.new hp ⟨l, upd_same, rl.ex E⟩
      exact k _ _ q _ _ _ E R2 (by rw [RelE]; exact ⟨by simp, by rw [mput_at]⟩)
    · exact q.elim
  · exact q.elim
end Y

namespace Y
open PySem PySem.Spec PyProof.Rows L2

def dcE (g : EH → Prop) (p : Pat) (tt : LTt) (tk tv : LT) (d : Nat) (env : En) (P : EK) : List EV → EH → Prop
  | [], h => g h ∧ P (.ref d) h
  | x :: xs, h => g h ∧ lBind h p x env fun env2 => tt env2 h fun b h3 => if b = true then tk env2 h3 fun y h4 => tv env2 h4 fun z h5 => match h5[d]? with
      | some (.dic kvs) => isKey y ∧ kvs.length < sizeLine ∧ dcE g p tt tk tv d env P xs (h5.set d (.dic (dPut kvs y z)))
      | _ => False
    else dcE g p tt tk tv d env P xs h3
def lDc (ti : LI) (p : Pat) (tt : LTt) (tk tv : LT) (vs : List Nat) : LT := fun env h P => ti env h fun g xs h1 => dcE g p tt tk tv h1.length (wipeE env vs) P xs (h1 ++ [.dic []])
section
variable {X : Cx} {pos : Pos}
theorem le_dc {kx vx tg iter : Expr} {ifs : List Expr} {scope : Scope} (own : List (Str × Nat)) {ti : LI} {p : Pat} {tt : LTt} {tk tv : LT} (hc : X.calm = true) (hN : X.N.Nodup) (hi : LIt X tg iter ti) (ok : BlkOk X.N X.env.scope scope own)
    (hp : ∀ i ∈ Pat.slots p, i ∈ own.map (·.2))
    (hg : ∀ (s : Shared) (H : Hp) (C : Addr) (cl : List (Str × Addr)) (fp : List Addr), LG (X.blk s H scope (compEnvC scope cl C X.env) fp) tg p)
    (ht : ∀ (s : Shared) (H : Hp) (C : Addr) (cl : List (Str × Addr)) (fp : List Addr), LTs (X.blk s H scope (compEnvC scope cl C X.env) fp) ifs tt)
    (hk : ∀ (s : Shared) (H : Hp) (C : Addr) (cl : List (Str × Addr)) (fp : List Addr), LE (X.blk s H scope (compEnvC scope cl C X.env) fp) kx tk)
    (he : ∀ (s : Shared) (H : Hp) (C : Addr) (cl : List (Str × Addr)) (fp : List Addr), LE (X.blk s H scope (compEnvC scope cl C X.env) fp) vx tv) (hs : ∀ x, foldedSetIterable iter X.env x = pure x := by intro _; rfl) :
    LE X (.DictComp kx vx [⟨tg, iter, ifs, 0⟩] scope pos) (lDc ti p tt tk tv (own.map (·.2))) := by
  refine ⟨PE.imp (pe_dc (g := gP X.K p) (tt := upT X.K tt) (tk := up X.K tk) (tv := up X.K tv) hc hN hi.pi ok (fun s H C cl fp => (hg s H C cl fp).pg) (fun s H C cl fp => (ht s H C cl fp).pts) (fun s H C cl fp => (hk s H C cl fp).pe) (fun s H C cl fp => (he s H C cl fp).pe) hs) fun σ H Q ⟨m, env, h, P, at_, t1, k⟩ => ⟨m, env, h, _, at_, t1, fun g xs h1 p1 m1 H1 J E1 R1 sim D hD => ?_⟩⟩
  have E2 : Ex X.K m1 h1.length H1 (mput m1 h1.length D) (h1 ++ [EO.dic []]).length (upd H1 D (.dK [])) := Ex.new hD
  have R2 : RelH X.K (mput m1 h1.length D) (h1 ++ [EO.dic []]) (upd H1 D (.dK [])) := R1.new hD ⟨[], upd_same, rfl⟩
  refine ⟨fun i c H' => c = xs.length - i ∧ i ≤ xs.length ∧ ∃ m2 h2, Ex X.K m1 h1.length H1 m2 h2.length H' ∧ RelH X.K m2 h2 H' ∧ m2 h1.length = D ∧ h1.length < h2.length ∧ dcE g p tt tk tv h1.length (wipeE env (own.map (·.2))) P (xs.drop i) h2,
    ⟨xs.length, by simp, Nat.zero_le _, _, _, E2, R2, mput_at, by simp, by simpa using p1⟩, ?_⟩
  rintro i c H' ⟨rfl, hi, m2, h2, E3, R3, eD, lD, q⟩
  by_cases hlt : i < xs.length
  · have ed : xs.drop i = xs[i] :: xs.drop (i + 1) := List.drop_eq_getElem_cons hlt
    rw [ed, dcE] at q
    obtain ⟨qg, q⟩ := q
    obtain ⟨s1, s2⟩ := sim i h2 m2 H' E3 R3 qg
    obtain ⟨go, yl⟩ := s1 xs[i] (List.getElem?_eq_getElem hlt)
    refine .inr ⟨go, fun H4 => ∃ m4 h4, Ex X.K m1 h1.length H1 m4 h4.length H4 ∧ RelH X.K m4 h4 H4 ∧ m4 h1.length = D ∧ h1.length < h4.length ∧ dcE g p tt tk tv h1.length (wipeE env (own.map (·.2))) P (xs.drop (i + 1)) h4,
      fun H4 q4 => ⟨xs.length - (i + 1), by omega, rfl, hlt, q4⟩, fun v H4 y => ?_⟩
    obtain ⟨E4, R4, r4⟩ := yl v H4 y
    have E14 := (E1.trans E3).trans E4
    obtain ⟨env5, σ5, q5, f, N5, keep, len⟩ := bind_sim R4 ((at_.nm.ex E14).wipe (own.map (·.2))) r4 q
    refine f _ ⟨wipe_back (ss := Pat.slots p) keep hp (by rw [len, wipe_length]), m2, env5, h2, _, ⟨R4, N5⟩, q5, fun b h6 p6 m6 H6 E6 R6 => ?_⟩
    have E16 := (E3.trans E4).trans E6
    have lt2 := E6.le
    have eD6 : m6 h1.length = D := (E6.eq _ lD).trans eD
    cases b with
    | false =>
      dsimp only
      rw [if_neg Bool.false_ne_true] at p6 ⊢
      exact ⟨m6, h6, E16, R6, eD6, by omega, p6⟩
    | true =>
      dsimp only
      rw [if_pos rfl] at p6 ⊢
      refine ⟨m6, env5, h6, _, ⟨R6, N5.ex E6⟩, p6, fun w h7 p7 m7 H7 y7 E7 R7 r7 => ⟨m7, env5, h7, _, ⟨R7, (N5.ex E6).ex E7⟩, p7, fun z h8 p8 m8 H8 z8 E8 R8 r8 => ?_⟩⟩
      have lt7 := E7.le
      have lt8 := E8.le
      have eD8 : m8 h1.length = D := ((E8.eq _ (by omega)).trans (E7.eq _ (by omega))).trans eD6
      split at p8
      · rename_i kvs e8
        obtain ⟨l, a, rl⟩ := R8.obj _ _ e8
        obtain ⟨hkey, hz, p8⟩ := p8
        have r7' := RelE.ex E8 _ _ r7
        obtain ⟨k', rfl⟩ := key_of hkey r7'
        rw [eD8] at a
        have ll := RelKV.length rl
        refine ⟨l, k', rfl, a, by omega, ?_⟩
        have E9 := Ex.write (o := .dK (putK l k' z8)) (e' := EO.dic (dPut kvs w z)) R8 e8
        have R9 := R8.write (o := .dK (putK l k' z8)) (e' := EO.dic (dPut kvs w z)) e8 ⟨_, upd_same, RelKV.put (RelE.ex E9 _ _ r7') hkey (RelE.ex E9 _ _ r8) (rl.ex E9)⟩
        rw [eD8] at E9 R9
        exact ⟨m8, _, ((E16.trans E7).trans E8).trans E9, R9, eD8, by simp; omega, p8⟩
      · exact p8.elim
  · have e : i = xs.length := by omega
    subst e
    rw [List.drop_length, dcE] at q
    obtain ⟨_, s2⟩ := sim xs.length h2 m2 H' E3 R3 q.1
    refine .inl ⟨s2 rfl, k _ _ q.2 m2 H' _ (E1.trans E3) R3 (by rw [RelE]; exact ⟨lD, by rw [eD]⟩)⟩
end
def KTup (K : PySem.W.Frag) (a : Addr) (xs : List EV) : Prop := xs.all flatE = true ∧ ∀ H, SqT K H a (xs.map toV)
theorem flats_toV {K : PySem.W.Frag} {m : Nat → Addr} {n : Nat} {H : Hp} : ∀ {xs : List EV}, xs.all flatE = true → RelEs K m n H xs (xs.map toV)
  | [], _ => .nil
  | x :: xs, f => by
    simp only [List.all_cons, Bool.and_eq_true] at f
    refine .cons ?_ (flats_toV f.2)
    cases x <;> first | (rw [RelE]; rfl) | (simp [flatE] at f; done)
theorem le_gtup {X : Cx} {a : Addr} {xs : List EV} {x : Str} {pos : Pos} (T : KTup X.K a xs) (hg : Gl X x) (hm : X.mg x = some (.ref a)) (hd : (x == ("__debug__" : Str)) = false := by decide) : LE X (.Name x pos) (lC (.ktup xs)) := by
  refine ⟨⟨fun pins s σ H Q I ⟨m, env, h, P, at_, t1, k⟩ => ld_glob I hg hm (s := s) ⟨.ref a, H, I, rfl, k _ _ t1 m H _ .refl at_.hp ?_⟩ hd⟩⟩
  rw [RelE]
  exact ⟨a, _, rfl, T.2 H, flats_toV T.1⟩
def relsB : List V → List Value → Bool
  | [], [] => true
  | v :: vs, u :: us => He.relB v u && relsB vs us
  | _, _ => false
theorem relsB_ok : ∀ {vs : List V} {us : List Value}, relsB vs us = true → Vals vs us
  | [], [], _ => .nil
  | v :: vs, u :: us, h => by
    obtain ⟨a, b⟩ := He.ba h
    exact .cons (He.relB_ok a) (relsB_ok b)
  | [], _ :: _, h => by cases h
  | _ :: _, [], h => by cases h
def tupB (K : PySem.W.Frag) (a : Addr) (xs : List EV) : Bool := xs.all flatE && (match K.lookup a with
  | some ⟨.type c, _, .seq its _, _⟩ => decide (c = "tuple") && (decide (its.size ≤ sizeLine) && relsB (xs.map toV) its.toList)
  | _ => false)
theorem tupB_ok {K : PySem.W.Frag} {a : Addr} {xs : List EV} (h : tupB K a xs = true) : KTup K a xs := by
  obtain ⟨h1, h2⟩ := He.ba h
  refine ⟨h1, fun H => ?_⟩
  cases q : K.lookup a with
  | none => rw [q] at h2; cases h2
  | some o =>
    obtain ⟨oc, od, dt, osl⟩ := o
    rw [q] at h2
    cases oc with
    | type c =>
      cases dt with
      | seq its n =>
        obtain ⟨h3, h4⟩ := He.ba h2
        obtain ⟨h4, h5⟩ := He.ba h4
        have e : c = "tuple" := of_decide_eq_true h3
        subst e
        exact .inr ⟨_, its, n, q, rfl, rfl, of_decide_eq_true h4, relsB_ok h5⟩
      | _ => cases h2
    | _ => cases dt <;> cases h2
def sclsB (K : PySem.W.Frag) (C : Addr) : Bool := PySem.W.plainGet K C Str.empty && (PySem.W.isClsIn K C && (PySem.W.plainOver K C && He.eqO (PySem.W.findIn K (.ref C) "__setattr__") (some (some (.builtin "object.__setattr__")))))
theorem sclsB_ok {K : PySem.W.Frag} {C : Addr} (h : sclsB K C = true) : SlX.SCls K C := by
  obtain ⟨h1, h⟩ := He.ba h
  obtain ⟨h2, h⟩ := He.ba h
  obtain ⟨h3, h⟩ := He.ba h
  exact ⟨h1, h2, h3, He.eqO_ok h⟩
def slotB (K : PySem.W.Frag) (C : Addr) (f : Str) (i : Nat) : Bool := match PySem.W.findIn K (.ref C) f with
  | some (some (.ref p)) => He.eqO (PySem.W.specialIn K (.ref p) "__get__") (some (some (.builtin "member_descriptor.__get__"))) && (decide (PySem.W.takesIn K (.ref p) = some true) && (decide (PySem.W.typeIn K (.ref p) = some (.type "member_descriptor")) && (decide (PySem.W.slotIn K p C = some i) && decide (i < 1000))))
  | _ => false
theorem slotB_ok {K : PySem.W.Frag} {C : Addr} {f : Str} {i : Nat} (h : slotB K C f i = true) : ∃ p, SlX.Slot1 K C f p i := by
  unfold slotB at h
  split at h
  · rename_i p e
    obtain ⟨h1, h⟩ := He.ba h
    obtain ⟨h2, h⟩ := He.ba h
    obtain ⟨h3, h⟩ := He.ba h
    obtain ⟨h4, h⟩ := He.ba h
    exact ⟨p, e, He.eqO_ok h1, of_decide_eq_true h2, of_decide_eq_true h3, of_decide_eq_true h4, of_decide_eq_true h⟩
  · cases h
def isiOkB (K : PySem.W.Frag) (C : Addr) : Bool := PySem.W.plainGet K C "__class__" && (PySem.W.isClsIn K C && (He.eqO (PySem.W.findIn K (.ref C) "__class__") (some (some (.builtin "object.__class__"))) && (He.eqO (PySem.W.specialIn K (.builtin "object.__class__") "__get__") (some (some (.builtin "getset_descriptor.__get__"))) && (decide (PySem.W.takesIn K (.builtin "object.__class__") = some true) && (decide (PySem.W.mroIn K C (.type "object") = some true) && ["int", "bool", "str", "tuple", "dict", "list"].all fun T => decide (PySem.W.kitOne K (.ref C) (.type T) = some false))))))
theorem isiOkB_ok {K : PySem.W.Frag} {C : Addr} (h : isiOkB K C = true) : IsiOk K C := by
  obtain ⟨h1, h⟩ := He.ba h
  obtain ⟨h2, h⟩ := He.ba h
  obtain ⟨h3, h⟩ := He.ba h
  obtain ⟨h4, h⟩ := He.ba h
  obtain ⟨h5, h⟩ := He.ba h
  obtain ⟨h6, h⟩ := He.ba h
  exact ⟨h1, h2, He.eqO_ok h3, He.eqO_ok h4, of_decide_eq_true h5, of_decide_eq_true h6, fun T hT => of_decide_eq_true (List.all_eq_true.mp h T hT)⟩
end Y
namespace Y
open PySem PySem.Spec PyProof.Rows L2
theorem slot1 {K : PySem.W.Frag} {C : Addr} {f : Str} {i : Nat} (c : SlX.SCls K C) (s : ∃ p, SlX.Slot1 K C f p i) : SlotOf K f [(C, i)] := by
  intro q hq
  rw [List.mem_singleton.mp hq]
  exact ⟨c, s⟩
theorem met1 {X : Cx} {C g : Addr} {m : Str} {sp : LSp} {k : Nat} {fd : FuncData} {ps : List Str} (c : SlX.SCls X.K C) (hm : Meth X.K C m g) (F : FnG X.prog X.w X.K X.mg X.base k g fd ps sp) (hr : Room k X.A) (hb : Binds X.K fd ps []) :
    MetOf X m (List.lookup · [(C, sp)]) := by
  intro D sp' e
  have q := lookup_mem (show List.lookup D [(C, sp)] = some sp' from e)
  have e2 := List.mem_singleton.mp q
  cases e2
  exact ⟨c, g, k, fd, ps, hm, F, hr, hb⟩
end Y

namespace Y
open PySem PySem.Spec PyProof.Rows L2

def liftP (K : PySem.W.Frag) (trs : List (LT × LT)) : List (TE × TE) := trs.map fun q => (up K q.1, up K q.2)
structure LPs (X : Cx) (pos : Pos) (keys : List (Option Expr)) (values : List Expr) (trs : List (LT × LT)) : Prop where
  pps : PPs X pos keys values (liftP X.K trs)
section
variable {X : Cx} {pos : Pos}
end
section
variable {X : Cx} {a b : Expr} {ta tb : LT} {p p2 q pos : Pos}
end
theorem u1 {k : Nat} {A : Around} (r : Room k A) : A.units + 1 < cLine := by have := r.un; omega
theorem sa_l {h : EH} {b : Nat} {xs : List EV} {i : Int} {v : EV} {k : Nat} {p : EH → Prop} (e : h[b]? = some (.lst xs)) (a : ixN xs.length i = some k) (q : p (h.set b (.lst (xs.set k v)))) : setA (.ref b) (.int i) v h p := by
  unfold setA; simp only [e]; exact set_l e a q
theorem sa_d {h : EH} {b : Nat} {kvs : List (EV × EV)} {i v : EV} {p : EH → Prop} (e : h[b]? = some (.dic kvs)) (hk : isKey i) (hl : kvs.length < sizeLine) (q : p (h.set b (.dic (dPut kvs i v)))) : setA (.ref b) i v h p := by
  unfold setA; simp only [e]; exact ⟨hk, hl, q⟩
end Y

namespace Y
open PySem PySem.Spec PyProof.Rows L2

def noTup : Sc → Prop
  | .tup _ => False
  | _ => True
theorem piN {X : Cx} {e : Expr} {ta : TA} {p pos tpos : Pos} {elts : List Expr} {kk : Nat} (hg : Gl X "enumerate") (hm : X.mg "enumerate" = none) (ha : PA X [e] ta) (hs : starEach [e] X.env = [(false, eval e X.env)] := by rfl) :
    PI X (.Tuple elts kk tpos) (.Call (.Name "enumerate" p) [e] [] pos) (fun σ H R => ta σ H fun vs H1 => ∃ (a : Sc) (xs : List V), noTup a ∧ vs = [a.val] ∧ a.is X.K H1 xs ∧ R (ItN X.K a 0) H1) := by
  refine ⟨fun pins s σ H R I h => ?_⟩
  refine Call_ (ld_blt I hg hm PyProof.Rows.boot_enumerate (PyProof.Rows.callWith_type1 (thn (ha.run pos pins s σ H _ I h) fun us s1 ⟨vs, H1, I1, r1, q1⟩ => ?_) hs rfl))
  obtain ⟨a, xs, nt, ex, hq, q⟩ := q1
  subst ex
  cases r1 with
  | cons r rr =>
    cases rr
    have fin : ∀ h' : Heap, IsEnum h' (s1.heap.objs.size + 1) s1.heap.objs.size 0 .none → a.st s1.heap.objs.size 0 h' → (∀ b o, s1.heap.get? b = some o → h'.get? b = some o) → (∀ b ∈ a.cell, b < s1.heap.objs.size) →
        PIE X pins σ (.Tuple elts kk tpos) R (.ref (s1.heap.objs.size + 1)) { s1 with heap := h' } := by
      intro h' he st hk hc
      have I2 : Inv X pins σ H1 { s1 with heap := h' } := I1.kept (t' := s1.toks) hk
      have n1 : s1.heap.objs.size ∉ a.cell := fun z => Nat.lt_irrefl _ (hc _ z)
      have n2 : s1.heap.objs.size + 1 ∉ s1.heap.objs.size :: a.cell := fun z => by
        rcases List.mem_cons.mp z with z | z
        · exact absurd z (Nat.succ_ne_self _)
        · exact absurd (hc _ z) (Nat.not_lt.mpr (Nat.le_succ _))
      refine ⟨s1.heap.objs.size + 1, [s1.heap.objs.size + 1, s1.heap.objs.size], _, _, H1, rfl, I2, turnN (k := 0) (Nat.succ_ne_self _) n2 n1, ⟨⟨.none, he⟩, st⟩, fun b hb => ?_, q⟩
      have e' : b = s1.heap.objs.size + 1 ∨ b = s1.heap.objs.size := by simpa using hb
      have hle : s1.heap.objs.size ≤ b := by
        rcases e' with z | z
        · rw [z]; exact Nat.le_add_right _ _
        · rw [z]; exact Nat.le_refl _
      exact I1.fpOk hle (I1.hok.fresh hle)
    match a, nt, hq, r, fin with
    | .lst l, _, hq, r, fin =>
      obtain ⟨its, rv, p', hz⟩ := I1.list hq
      cases r
      refine call_enumerate_list p'.isList fun h' he hit hsz hk => wpAny_pyIter_enum he (fin h' he hit hk fun b hb => ?_)
      have e : b = l := by simpa [Sc.cell] using hb
      rw [e]; exact p'.lt
    | .txt x, _, hq, r, fin =>
      obtain ⟨t, rfl⟩ := r
      exact call_enumerate_str fun h' he hit hsz hk => wpAny_pyIter_enum he (fin h' he ⟨t, hit⟩ hk fun b hb => by simp [Sc.cell] at hb)
def numE (xs : List EV) (k : Int) : List EV := (List.range xs.length).zipWith (fun (i : Nat) x => EV.tup [.int (k + i), x]) xs
def notTupE : EV → Prop
  | .tup _ => False
  | _ => True
theorem src_simN {K : PySem.W.Frag} {m : Nat → Addr} {h : EH} {H : Hp} {v : EV} {x : V} {P : (EH → Prop) → List EV → Prop} (R : RelH K m h H) (r : RelE K m h.length H v x) (q : srcE v h P) (nt : notTupE v) :
    ∃ (sc : Sc) (g : EH → Prop) (xs : List EV), noTup sc ∧ P g xs ∧ x = sc.val ∧ g h ∧
      ∀ m' h' H', Ex K m h.length H m' h'.length H' → RelH K m' h' H' → g h' → ∃ us, sc.is K H' us ∧ RelEs K m' h'.length H' xs us := by
  unfold srcE at q
  split at q
  · rename_i r0
    rw [RelE] at r
    obtain ⟨hr, rfl⟩ := r
    split at q
    · rename_i xs e
      refine ⟨.lst (m r0), _, xs, trivial, q, rfl, e, fun m' h' H' E' R' gh => ?_⟩
      obtain ⟨us, a', r'⟩ := R'.obj _ _ gh
      exact ⟨us, by rw [← E'.eq _ hr]; exact SqL.of a', r'⟩
    · rename_i xs e
      refine ⟨.lst (m r0), _, xs, trivial, q, rfl, e, fun m' h' H' E' R' gh => ?_⟩
      obtain ⟨us, a', r'⟩ := R'.obj _ _ gh
      exact ⟨us, by rw [← E'.eq _ hr]; exact a'.sql, r'⟩
    · exact q.elim
  · exact absurd nt (by simp [notTupE])
  · rename_i cs
    rw [RelE] at r
    subst r
    refine ⟨.txt (S cs), _, _, trivial, q, rfl, trivial, fun m' h' H' E' R' gh => ⟨_, rfl, ?_⟩⟩
    show RelEs K m' h'.length H' (cs.map fun c => EV.str [c]) (cs.toArray.toList.map fun c => V.str ⟨#[c]⟩)
    rw [List.toList_toArray]
    clear q nt
    induction cs with
    | nil => exact .nil
    | cons c cs ih => exact .cons (by rw [RelE]) ih
  · exact q.elim
def lEnum (ta : LA) : LI := fun env h P => ta env h fun vs h1 => match vs with
  | [x] => notTupE x ∧ srcE x h1 fun g xs => P g (numE xs 0) h1
  | _ => False
theorem numE_at {xs : List EV} {k : Int} {i : Nat} {z : EV} (e : (numE xs k)[i]? = some z) : ∃ x, xs[i]? = some x ∧ z = .tup [.int (k + (i : Nat)), x] := by
  obtain ⟨a, b, ha, hb, rfl⟩ := zw_at e
  obtain ⟨hl, e1⟩ := List.getElem?_eq_some_iff.mp ha
  rw [List.getElem_range] at e1
  subst e1
  exact ⟨b, hb, rfl⟩
theorem numE_len (xs : List EV) (k : Int) : (numE xs k).length = xs.length := by unfold numE; simp
theorem lit_enum {X : Cx} {e : Expr} {ta : LA} {p pos tpos : Pos} {elts : List Expr} {kk : Nat} (hg : Gl X "enumerate") (hm : X.mg "enumerate" = none) (ha : LAs X [e] ta) (hs : starEach [e] X.env = [(false, eval e X.env)] := by rfl) :
    LIt X (.Tuple elts kk tpos) (.Call (.Name "enumerate" p) [e] [] pos) (lEnum ta) := by
  refine ⟨PI.imp (piN hg hm ha.pa hs) fun σ H R ⟨m, env, h, P, at_, t1, k⟩ => ⟨m, env, h, _, at_, t1, fun vs h1 p1 m1 H1 xs E1 R1 r1 => ?_⟩⟩
  split at p1
  · rename_i x
    obtain ⟨v, rfl, r2⟩ := r1.one_inv
    obtain ⟨nt, p1⟩ := p1
    obtain ⟨sc, g, ls, nts, q, rfl, gh, sim⟩ := src_simN R1 r2 p1 nt
    obtain ⟨us, u1, _⟩ := sim m1 h1 H1 .refl R1 gh
    refine ⟨sc, us, nts, rfl, u1, k _ _ h1 q m1 H1 _ E1 R1 fun i h' m' H' E' R' gA => ?_⟩
    obtain ⟨us, u1, ru⟩ := sim m' h' H' E' R' gA
    refine ⟨fun z hz => ?_, fun hi => ⟨us, u1, by rw [numE_len] at hi; rw [← ru.length]; exact hi.symm⟩⟩
    obtain ⟨y, hy, rfl⟩ := numE_at hz
    obtain ⟨w, hw, rw'⟩ := ru.at hy
    refine ⟨⟨us, w, u1, hw⟩, fun v H2 ⟨T, w', ev, hT, eH, uw⟩ => ?_⟩
    have hw' := uw us u1
    rw [hw] at hw'
    cases hw'
    subst ev eH
    exact rel_pair R' hT (by rw [RelE]) rw'
  · exact p1.elim
end Y

namespace Y
open PySem PySem.Spec PyProof.Rows L2

theorem pick_rev2 (items : Array Value) : slicePick items (some (-2)) none (some (-1)) = items.toList.dropLast.reverse.toArray := by
  have hb : items.size ≠ 0 → sliceBounds (some (-2)) none (some (-1)) items.size = ((items.size : Int) - 2, -1, -1) := by
    intro h0
    unfold sliceBounds
    simp only [Option.getD_some, show ¬ ((-1 : Int) > 0) by decide, if_false, show (-2 : Int) < 0 by decide, if_true]
    congr 1
    omega
  by_cases h0 : items.size = 0
  · have : items = #[] := Array.eq_empty_of_size_eq_zero h0
    subst this
    rfl
  · unfold slicePick
    rw [hb h0]
    show ((sliceRange ((items.size : Int) - 2) (-1) (-1)).filterMap (items[·]?)).toArray = _
    have e : ((items.size : Int) - 2) = ((items.size - 1 : Nat) : Int) - 1 := by omega
    rw [e, PySem.W.krv_sliceRange, PySem.W.krv_range, List.filterMap_reverse]
    congr 2
    have h := pick_run items 0 (items.size - 1)
    have e2 : (List.range (items.size - 1)).map (0 + ·) = List.range (items.size - 1) := by
      rw [show ((0 + ·) : Nat → Nat) = id from funext fun k => Nat.zero_add k, List.map_id]
    rw [e2, List.drop_zero] at h
    rw [h, List.dropLast_eq_take, Array.length_toList]
def lRev2 (te : LT) : LT := fun env h P => te env h fun v h1 => match v with
  | .ref r => match h1[r]? with
    | some (.lst xs) => P (.ref h1.length) (h1 ++ [.lst xs.dropLast.reverse])
    | _ => False
  | _ => False
theorem RelEs.dropLast {K : PySem.W.Frag} {m : Nat → Addr} {n : Nat} {H : Hp} {es : List EV} {vs : List V} (r : RelEs K m n H es vs) : RelEs K m n H es.dropLast vs.dropLast := by
  rw [List.dropLast_eq_take, List.dropLast_eq_take, r.length]
  exact r.take _
theorem vals_dropLast {xs : List V} {vs : List Value} (r : Vals xs vs) : Vals xs.dropLast vs.dropLast := by
  rw [List.dropLast_eq_take, List.dropLast_eq_take, r.length]
  exact r.take _
theorem le_rev2 {X : Cx} {e : Expr} {te : LT} {k k2 : Nat} {p1 p2 p3 p4 p5 pos : Pos} (he : LE X e te) :
    LE X (.Subscript e (.Slice (some (.UnaryOp .USub (.Constant (.int 2) k2 p4) p5)) none (some (.UnaryOp .USub (.Constant (.int 1) k p1) p2)) p3) pos) (lRev2 te) := by
  refine ⟨⟨fun pins s σ H Q I ⟨m, env, h, P, at_, t1, kk⟩ => ?_⟩⟩
  refine Subscript_ (thn (he.pe.run pins s σ H (fun x H1 => ∃ a xs, x = .ref a ∧ SqL X.K H1 a xs ∧ ∀ p, H1 p = none → Q (.ref p) (upd H1 p (.lst xs.dropLast.reverse))) I ⟨m, env, h, _, at_, t1, fun v h1 p1 m1 H1 x E1 R1 r1 => ?_⟩) fun v s1 ⟨x, H1, I1, r1, q1⟩ => ?_)
  · cases v with
    | ref r =>
      rw [RelE] at r1
      obtain ⟨hr, rfl⟩ := r1
      dsimp only at p1
      split at p1
      · rename_i e1
        obtain ⟨vs, a, rr⟩ := R1.obj _ _ e1
        exact ⟨_, _, rfl, SqL.of a, fun p hp => (kk.ex E1).lst R1 p1 rr.dropLast.reverse hp⟩
      · exact p1.elim
    | _ => exact p1.elim
  · obtain ⟨a, xs, ex, hx, q⟩ := q1
    subst ex
    cases r1
    have hst : PO X (some (.UnaryOp .USub (.Constant (.int 1) k p1) p2)) (tPart (tUn (rU fun i => .int (-i)) (tC (.int 1)))) := po_some (pe_un un_neg pe_int)
    have hlo : PO X (some (.UnaryOp .USub (.Constant (.int 2) k2 p4) p5)) (tPart (tUn (rU fun i => .int (-i)) (tC (.int 2)))) := po_some (pe_un un_neg pe_int)
    refine wpAny_Slice (thn (hlo.run pins s1 σ H1 (fun o H2 => o = some (-2) ∧ H2 = H1) I1 ⟨2, rfl, -2, rfl, rfl, rfl⟩) fun vl s2 ⟨l, H2, I2, pl, el, e2⟩ => ?_)
    subst el e2
    refine thn (po_none.run pins s2 σ H2 (fun o H3 => o = none ∧ H3 = H2) I2 ⟨rfl, rfl⟩) fun vu s3 ⟨u, H3, I3, pu, eu, e3⟩ => ?_
    subst eu e3
    refine thn (hst.run pins s3 σ H3 (fun o H4 => o = some (-1) ∧ H4 = H3) I3 ⟨1, rfl, -1, rfl, rfl, rfl⟩) fun vs s4 ⟨o, H4, I4, ps, eo, e4⟩ => ?_
    subst eo e4
    have I5 : Inv X pins σ H4 { s4 with heap := s4.heap.push { cls := .type "slice", data := .fields #[vl, vu, vs] } } := I4.kept (t' := s4.toks) fun b ob q => Heap.get?_push_of_some _ q
    obtain ⟨its, r, ht, hz⟩ := I5.list hx
    have hlen := r.length
    show wpAny (model X.prog X.w) X.A (subscriptTail e (.Slice (some (.UnaryOp .USub (.Constant (.int 2) k2 p4) p5)) none (some (.UnaryOp .USub (.Constant (.int 1) k p1) p2)) p3) (.ref a) (.ref s4.heap.objs.size)) (EP X pins σ Q) X.xe { s4 with heap := s4.heap.push { cls := .type "slice", data := .fields #[vl, vu, vs] } }
    refine tail_any (ops := [.ref a, .ref s4.heap.objs.size]) ht.isList.typeIs (PySem.slot_list_getitem.lookup) ?_ (by with_unfolding_all rfl)
    refine wpAny_getItem_list_slice ht.isList (Heap.IsSliceOf.new _ vl vu vs) pl pu ps (by decide) ?_ (by rw [List.size_toArray]; omega)
    rw [pick_rev2]
    refine ⟨.ref _, _, I5.laid (t' := s4.toks) (o := .lst xs.dropLast.reverse) (fun b ob q => Heap.get?_push_of_some _ q) (Nat.le_refl _) ?_, rfl, q _ (I5.hok.fresh (Nat.le_refl _))⟩
    exact ⟨by rw [List.length_reverse, List.length_dropLast]; omega, _, 0, (vals_dropLast r).reverse, Heap.get?_push_size _ rfl⟩
end Y

namespace Y
open PySem PySem.Spec PyProof.Rows L2

end Y

namespace Y
open PySem PySem.Spec PyProof.Rows L2 HT
section
variable {prog : Program} {w : World} {A : Around} {E : Value → Shared → Prop} {s : Shared}
end
end Y

namespace Y
open PySem PySem.Spec PyProof.Rows L2
end Y

namespace Y
open PySem PySem.Spec PyProof.Rows L2 PySem.W
section
variable {prog : Program} {w : World} {A : Around} {E : Value → Shared → Prop} {s : Shared} {x : Str} {t : Tok}
end
end Y

namespace Y
open PySem PySem.Spec PyProof.Rows L2
section
variable {X : Cx} {a b : Expr} {ta tb : LT} {pos : Pos} {rest : List Expr}
end
end Y

namespace Y
open PySem PySem.Spec PyProof.Rows L2
section
variable {X : Cx}
end
end Y

namespace Y
open PySem PySem.Spec PyProof.Rows L2
section
variable {X : Cx}
end
section
variable {X : Cx} {a b : Expr} {ta tb : LT} {p p2 q pos : Pos}
end
end Y

namespace Y
open PySem PySem.Spec PyProof.Rows L2
mutual
def flatD : PyData → Bool
  | .none => true
  | .bool _ => true
  | .int _ => true
  | .str _ => true
  | .tuple xs => flatDs xs
  | .list _ => false
  | .dict _ => false
def flatDs : List PyData → Bool
  | [] => true
  | x :: xs => flatD x && flatDs xs
end
def kD : L2.Key → PyData
  | .inl i => .int i
  | .inr x => .str x
def dicD (ps : List (L2.Key × PyData)) : PyData := .dict (ps.map fun p => (kD p.1, p.2))
inductive DKV (h : EH) : List (EV × EV) → List (L2.Key × PyData) → Prop
  | nil : DKV h [] []
  | int {i : Int} {v : EV} {d : PyData} {r : List (EV × EV)} {ps : List (L2.Key × PyData)} : Dat h 50 v d → flatD d = true → DKV h r ps → DKV h ((.int i, v) :: r) ((.inl i, d) :: ps)
  | str {s : List Nat} {v : EV} {d : PyData} {r : List (EV × EV)} {ps : List (L2.Key × PyData)} : Dat h 50 v d → flatD d = true → DKV h r ps → DKV h ((.str s, v) :: r) ((.inr (S s), d) :: ps)
inductive DatE (h : EH) : EV → PyData → Prop
  | pl {v : EV} {d : PyData} : Dat h 55 v d → DatE h v d
  | dic {r : Nat} {kvs : List (EV × EV)} {ps : List (L2.Key × PyData)} : h[r]? = some (.dic kvs) → DKV h kvs ps → DatE h (.ref r) (dicD ps)
inductive DatEs (h : EH) : List EV → List PyData → Prop
  | nil : DatEs h [] []
  | cons {v : EV} {d : PyData} {vs : List EV} {ds : List PyData} : DatE h v d → DatEs h vs ds → DatEs h (v :: vs) (d :: ds)
inductive DatX (h : EH) : EV → PyData → Prop
  | el {v : EV} {d : PyData} : DatE h v d → DatX h v d
  | lst {r : Nat} {xs : List EV} {ds : List PyData} : h[r]? = some (.lst xs) → DatEs h xs ds → DatX h (.ref r) (.list ds)
abbrev DRow (K : PySem.W.Frag) (H : Hp) : List (L2.Key × V) → List (L2.Key × PyData) → Prop := Paired fun p q => p.1 = q.1 ∧ Dp K H p.2 q.2 ∧ flatD q.2 = true ∧ q.2.depth ≤ 50 ∧ q.2.plain = true
inductive DpE (K : PySem.W.Frag) (H : Hp) : V → PyData → Prop
  | pl {v : V} {d : PyData} : Dp K H v d → d.depth ≤ 55 → d.plain = true → DpE K H v d
  | dic {a : Addr} {l : List (L2.Key × V)} {ps : List (L2.Key × PyData)} : H a = some (.dK l) → DRow K H l ps → DpE K H (.ref a) (dicD ps)
inductive DpX (K : PySem.W.Frag) (H : Hp) : V → PyData → Prop
  | el {v : V} {d : PyData} : DpE K H v d → DpX K H v d
  | lst {a : Addr} {xs : List V} {ds : List PyData} : SqL K H a xs → Paired (DpE K H) xs ds → DpX K H (.ref a) (.list ds)
section
variable {K : PySem.W.Frag} {m : Nat → Addr} {H : Hp} {h : EH}
theorem kV_int {k : L2.Key} {i : Int} (e : kV k = .int i) : k = .inl i := by
  cases k with
  | inl j => simp only [kV] at e; cases e; rfl
  | inr x => simp [kV] at e
theorem kV_str {k : L2.Key} {x : Str} (e : kV k = .str x) : k = .inr x := by
  cases k with
  | inl j => simp [kV] at e
  | inr y => simp only [kV] at e; cases e; rfl
theorem DKV.row (R : RelH K m h H) : ∀ {kvs : List (EV × EV)} {ps : List (L2.Key × PyData)} {l : List (L2.Key × V)}, DKV h kvs ps → RelKV K m h.length H kvs l → DRow K H l ps
  | _, _, l, .nil, r => by
    have r' : l = [] := r
    subst r'; exact .nil
  | _, _, l, .int dv fd dr, r => by
    obtain ⟨k', v, l', rfl, rk, rv, rr⟩ := r
    rw [RelE] at rk
    have e := kV_int rk
    subst e
    exact .cons ⟨rfl, Dat.dp R _ _ _ _ dv rv, fd, (Dat.dep _ _ _ dv).1, (Dat.dep _ _ _ dv).2⟩ (DKV.row R dr rr)
  | _, _, l, .str dv fd dr, r => by
    obtain ⟨k', v, l', rfl, rk, rv, rr⟩ := r
    rw [RelE] at rk
    have e := kV_str rk
    subst e
    exact .cons ⟨rfl, Dat.dp R _ _ _ _ dv rv, fd, (Dat.dep _ _ _ dv).1, (Dat.dep _ _ _ dv).2⟩ (DKV.row R dr rr)
theorem DatE.dp (R : RelH K m h H) {v : EV} {x : V} {d : PyData} (a : DatE h v d) (r : RelE K m h.length H v x) : DpE K H x d := by
  cases a with
  | pl a => exact .pl (Dat.dp R _ _ _ _ a r) (Dat.dep _ _ _ a).1 (Dat.dep _ _ _ a).2
  | dic e b =>
    rw [RelE] at r
    obtain ⟨_, rfl⟩ := r
    obtain ⟨l, hl, rl⟩ := R.obj _ _ e
    exact .dic hl (DKV.row R b rl)
theorem DatEs.dp (R : RelH K m h H) : ∀ {vs : List EV} {xs : List V} {ds : List PyData}, DatEs h vs ds → RelEs K m h.length H vs xs → Paired (DpE K H) xs ds
  | _, _, _, .nil, r => by rw [RelEs] at r; subst r; exact .nil
  | _, _, _, .cons a b, r => by
    rw [RelEs] at r
    obtain ⟨v, l, rfl, r1, r2⟩ := r
    exact .cons (DatE.dp R a r1) (DatEs.dp R b r2)
theorem DatX.dp (R : RelH K m h H) {v : EV} {x : V} {d : PyData} (a : DatX h v d) (r : RelE K m h.length H v x) : DpX K H x d := by
  cases a with
  | el a => exact .el (DatE.dp R a r)
  | lst e b =>
    rw [RelE] at r
    obtain ⟨_, rfl⟩ := r
    obtain ⟨vs, hv, t⟩ := R.obj _ _ e
    exact .lst (SqL.of hv) (DatEs.dp R b t)
end
mutual
theorem flat_as {h : Heap} : ∀ (d : PyData) (u : Value) (as : List Addr), flatD d = true → Reads h u d as → as = []
  | .none, _, _, _, r => by cases r; rfl
  | .bool _, _, _, _, r => by cases r; rfl
  | .int _, _, _, _, r => by cases r; rfl
  | .str _, _, _, _, r => by cases r; rfl
  | .list _, _, _, f, _ => by simp [flatD] at f
  | .dict _, _, _, f, _ => by simp [flatD] at f
  | .tuple xs, _, _, f, r => by
    cases r with
    | tuple h1 h2 h3 h4 => exact flats_as xs _ _ (by simpa [flatD] using f) h4
theorem flats_as {h : Heap} : ∀ (ds : List PyData) (us : List Value) (as : List Addr), flatDs ds = true → ReadsAll h us ds as → as = []
  | [], _, _, _, r => by cases r; rfl
  | d :: ds, _, _, f, r => by
    have f' : flatD d = true ∧ flatDs ds = true := by simpa [flatDs] using f
    cases r with
    | cons r1 r2 => rw [flat_as d _ _ f'.1 r1, flats_as ds _ _ f'.2 r2]; rfl
end
section
variable {X : Cx} {pins : List (Addr × Obj)} {σ : L2.St} {H : Hp} {s : Shared}
theorem row_reads (I : Inv X pins σ H s) : ∀ {l : List (L2.Key × V)} {ps : List (L2.Key × PyData)} {vs : List (L2.Key × Value)} {es : List DictEntry}, DRow X.K H l ps → KV l vs → Pairs (mixKind X.prog X.w) es vs →
    ReadsAll s.heap (es.map (·.key)) (ps.map fun p => kD p.1) [] ∧ ReadsAll s.heap (es.map (·.val)) (ps.map (·.2)) []
  | _, _, _, _, .nil, kv, pr => by
    cases kv
    cases pr
    exact ⟨.nil, .nil⟩
  | _, _, _, _, .cons a b, kv, pr => by
    cases kv with
    | cons k1 k2 =>
      cases pr with
      | cons q1 q2 p2 =>
        obtain ⟨i1, i2⟩ := row_reads I b k2 p2
        obtain ⟨e1, d1, f1, _⟩ := a
        obtain ⟨e2, r2⟩ := k1
        obtain ⟨as, rd⟩ := Dp.reads I _ _ _ d1 r2
        have has := flat_as _ _ _ f1 rd
        subst has
        refine ⟨?_, ?_⟩
        · refine ReadsAll.cons (as := []) (bs := []) ?_ i1
          rcases keyIs_shape (k := _) (v := _) q1 with ⟨i, t, hk, hv⟩ | ⟨x, t, hk, hv⟩
          · dsimp only; rw [hv, ← e1, e2, hk]; exact .int i t
          · dsimp only; rw [hv, ← e1, e2, hk]; exact .str x t
        · refine ReadsAll.cons (as := []) (bs := []) ?_ i2
          dsimp only; rw [q2]; exact rd
theorem DpE.reads (I : Inv X pins σ H s) {v : V} {u : Value} {d : PyData} (a : DpE X.K H v d) (r : RelV v u) : ∃ as, Reads s.heap u d as ∧ (d.hasDict = true → sysModules ∉ as) := by
  cases a with
  | pl a _ pd =>
    obtain ⟨as, rd⟩ := Dp.reads I _ _ _ a r
    exact ⟨as, rd, fun z => by rw [plain_noDict _ pd] at z; cases z⟩
  | @dic a0 l0 ps0 e b =>
    cases (show u = Value.ref _ from r)
    obtain ⟨_, sm, vs, kv, o, es, ep, h1, h2, h3, _, hp, _⟩ := (show ObjOk X.prog X.w H s.heap _ (.dK _) from I.hok _ _ e)
    obtain ⟨i1, i2⟩ := row_reads I b kv hp
    refine ⟨_, .dict h1 h2.1 h3 (by rw [List.map_map]; exact i1) (by rw [List.map_map]; exact i2), fun _ z => ?_⟩
    have z' : sysModules = a0 := by simpa using z
    rw [← z'] at sm
    simp at sm
theorem row_depth {K : PySem.W.Frag} : ∀ {l : List (L2.Key × V)} {ps : List (L2.Key × PyData)}, DRow K H l ps → PyData.depthKv (ps.map fun p => (kD p.1, p.2)) ≤ 50
  | _, _, .nil => by simp [PyData.depthKv]
  | _, _, .cons (b := qq) a b => by
    have q := row_depth b
    obtain ⟨_, _, _, d1, _⟩ := a
    simp only [List.map_cons, PyData.depthKv]
    have : (kD qq.1).depth ≤ 1 := by cases qq.1 <;> simp [kD, PyData.depth]
    omega
theorem DpE.depth {K : PySem.W.Frag} {v : V} {d : PyData} (a : DpE K H v d) : d.depth ≤ 55 := by
  cases a with
  | pl _ dd _ => exact dd
  | dic _ b =>
    have q := row_depth b
    unfold dicD
    simp only [PyData.depth]
    omega
end
section
variable {X : Cx}
end
section
variable {X : Cx} {pins : List (Addr × Obj)} {σ : L2.St} {H : Hp} {s : Shared}
end
section
variable {X : Cx}
end
end Y

namespace Y
open PySem PySem.Spec PyProof.Rows L2

theorem mcall_eq {o e : Expr} {name : Str} {apos pos : Pos} {env : Env} {ov : Value} (hl : (apos.endLine == pos.line) = true) (he : starEach [e] env = [(false, eval e env)]) :
    methodCall o name apos pos env ov 1 (backTo pos (starEach [e] env)) [] = (do
      let (f, first) ← holding [ov] (getMethod ov name (do return (← importBound o env).getD true))
      callWith pos f first (backTo pos (starEach [e] env)) []) := by
  have hf : methodCallForm 1 (backTo pos (starEach [e] env)) [] = true := by rw [he]; rfl
  unfold methodCall methodCallPos calleeOf
  rw [hf]
  simp only [if_true, Bool.not_true, hl, Bool.or_true, pure_bind, Bool.false_or]
theorem call_form {o : Expr} {name x : Str} {p3 apos pos : Pos} {env : Env} (hl : (apos.endLine == pos.line) = true) : eval (.Call (.Attribute o name apos) [.Name x p3] [] pos) env = (do
      let ov ← attributeBase o name env (eval o env)
      standAt apos.atName
      let (f, first) ← holding [ov] (getMethod ov name (do return (← importBound o env).getD true))
      callWith pos f first (backTo pos (starEach [.Name x p3] env)) []) :=
  congrArg (fun k : Value → Sem Value => attributeBase o name env (eval o env) >>= k) (funext fun ov => congrArg (fun k : Sem Value => standAt apos.atName >>= fun _ => k) (mcall_eq hl rfl))
def InitBody (x f : Str) (body : List Stmt) : Prop := ∃ p0 p1 p2 p3 p4 p5 p6 p7 p8 p9 : Pos,
  (p2.endLine == p4.line) = true ∧ body = [.Expr (.Call (.Attribute (.Call (.Name "super" p0) [] [] p1) "__init__" p2) [.Name x p3] [] p4) p5, .Assign [.Attribute (.Name "self" p6) f p7] (.Name x p8) p9]
structure InitFn (P : Program) (K : PySem.W.Frag) (C fI : Addr) (x f : Str) : Prop where
  fn : ∃ (oc : Value) (od : Option Addr) (osl : Array (Option Value)) (n q : Str) (a1 a2 : Arg) (body : List Stmt) (scope : Scope) (cc cda : Addr) (kV doc pm ct : Value) (an : Option Addr),
    K.lookup fI = some ⟨oc, od, .func (PySem.W.fnX n q ⟨[], [a1, a2], none, [], [], none, []⟩ body scope [("__class__", cc)] .none kV doc pm an (.ref cda) ct), osl⟩ ∧
    a1.arg = "self" ∧ a2.arg = x ∧ InitBody x f body ∧ PySem.W.codeIn K (.ref cda) q = true ∧
    scope.kind = .function ∧ scope.isCoroutine = false ∧ scope.isGenerator = false ∧ scope.names.lookup ("super" : Str) = some .globalImplicit ∧ scope.names.lookup ("__class__" : Str) = some .free ∧ scope.names.lookup ("self" : Str) = some .local ∧
    scope.names.lookup x = some .local ∧ (∀ y ∈ scope.names, y.2 ≠ .cell) ∧
    (∃ (ccl : Value) (cdd : Option Addr) (vs : Array Value) (ccs : Array (Option Value)) (file : Str) (tf : Tok), K.lookup cda = some ⟨ccl, cdd, .fields vs, ccs⟩ ∧ vs[2]? = some (.str file tf) ∧ ((P.main.file : Str) == file) = true) ∧
    ∃ (cl : Value) (cld : Option Addr) (csl : Array (Option Value)), K.lookup cc = some ⟨cl, cld, .cell (some (.ref C)), csl⟩
  ne : (x == ("self" : Str)) = false
  xd : (x == ("__debug__" : Str)) = false
structure ExcC (P : Program) (K : PySem.W.Frag) (C : Addr) (x f : Str) : Prop where
  oex : OexC K C
  xf : XfC K C
  no : PySem.W.findIn K (.ref C) f = some none
  init : ∃ fI, PySem.W.findIn K (.ref C) "__init__" = some (some (.ref fI)) ∧ PySem.W.typeIn K (.ref fI) = some (.type "function") ∧ InitFn P K C fI x f
  top : (P.main.scope.names.lookup ("super" : Str)).isSome = false
  sup : PySem.W.nsIn K mainGlobals "super" = some none
  mro : PySem.W.mroIn K C (.ref C) = some true
  up : PySem.W.ks_superIn K C C "__init__" = some (some (.builtin "ValueError.__init__"))
  sub : PySem.W.subIn K (.ref C) (.type "ValueError") = some true
  st : PySem.W.nsIn K cStatics "thirdparty.any" = some none
  ein : PySem.W.excInitIn K C [.type "ValueError", .type "Exception", .type "BaseException", .type "object"] "ValueError.__new__" = true
section
variable {P : Program} {w : World} {K : PySem.W.Frag} {A : Around} {hp : Heap} {g : Array GenState} {dr : Drawn} {tk : Nat} {os : OsState} {C fI e t0 : Addr} {x f : Str} {u : Value} {R : Result → Shared → Prop}
theorem exc_init {mg : Str → Option Value} {h0 : Heap} (T : ExcC P K C x f) (Fi : InitFn P K C fI x f) (X0 : K.In h0) (G : h0.Ns mainGlobals mg) {mb : Str → Option Value} (B : h0.Ns builtinsNs mb) (hb : ∀ y : Str, y ≠ "__name__" → mb y = bootBuiltins y) (nl : h0.NoLimit)
    (k0 : ∀ b o, h0.get? b = some o → hp.get? b = some o) (hsz : h0.objs.size ≤ hp.objs.size) (hn : h0.get? e = none) (he : hp.get? e = some (PySem.W.excObj C t0 none .none)) (hd : A.depth < recursionLimit)
    (hq : ∀ h' tk' dx t', (∀ b o, h0.get? b = some o → h'.get? b = some o) → h'.get? e = some (PySem.W.excObj C t' (some dx) .none) → h0.objs.size ≤ dx → dx ≠ e → h'.Ns1 dx (fun y => if y = f then some u else none) →
      R (.ok (.ret .none)) ⟨h', g, dr, tk', os⟩) :
    codeAny (model P w) A (.call (.ref fI) ⟨[.ref e, u], []⟩) R ⟨hp, g, dr, tk, os⟩ := by
  obtain ⟨oc, od, osl, n, q, a1, a2, body, scope, cc, cda, kV, doc, pm, ct, an, lk, ea1, ea2, hbody, hcd, sk, sco, sge, ssu, scl, sse, sx, nocell, ⟨ccl, cdd, vs, ccs, file, tf, lkc, hvs, hfile⟩, cl, cld, csl, lkcell⟩ := Fi.fn
  have XH : K.In hp := X0.keeps k0
  have nx := Fi.ne
  refine ks_codeAny_call_defAt (binds := [(("self" : Str), Value.ref e), (x, u)]) hd (XH _ _ lk) rfl (nl.keeps k0) (PySem.W.codeRec_of XH hcd) rfl (.of_eq ?_) nocell (fun y hy => ?_) (fun h1 hns hk1 => ?_) sco sge sk
  · have e1 : (a2.arg == ("self" : Str)) = false := by rw [ea2]; exact nx
    have e2 : (("self" : Str) == a2.arg) = false := by
      rw [Bool.eq_false_iff]; intro z
      rw [← eq_of_beq z] at e1; simp at e1
    subst ea2
    unfold bindArgs
    simp [PySem.W.fnX, ea1, List.lookup, e1, e2, seqItems?]
    rfl
  · rcases List.mem_cons.mp hy with rfl | hy
    · exact sse
    · rcases List.mem_cons.mp hy with rfl | hy
      · exact sx
      · cases hy
  obtain ⟨p0, p1, p2, p3, p4, p5, p6, p7, p8, p9, hl, rfl⟩ := hbody
  have kk1 : ∀ b o, h0.get? b = some o → h1.get? b = some o := fun b o z => hk1 b o (k0 b o z)
  have Fr1 : PyProof.Rows.Fr h0 hp.objs.size h1 (fun y => [(("self" : Str), Value.ref e), (x, u)].reverse.lookup y) := ⟨hns, kk1, hsz⟩
  have eL : e ≠ hp.objs.size := Nat.ne_of_lt (Heap.lt_size he)
  have N1 : PyProof.Rows.News h0 hp.objs.size h1 [(e, PySem.W.excObj C t0 none .none)] := fun p hp' => by
    rcases List.mem_cons.mp hp' with rfl | z
    · exact ⟨hk1 _ _ he, eL, hn⟩
    · cases z
  have mself : (fun y => [(("self" : Str), Value.ref e), (x, u)].reverse.lookup y) "self" = some (Value.ref e) := by
    show List.lookup ("self" : Str) [(x, u), (("self" : Str), Value.ref e)] = _
    have e1 : (("self" : Str) == x) = false := by
      rw [Bool.eq_false_iff]; intro z
      have z2 := eq_of_beq z
      rw [← z2] at nx; simp at nx
    simp [List.lookup, e1]
  have mx : (fun y => [(("self" : Str), Value.ref e), (x, u)].reverse.lookup y) x = some u := by
    show List.lookup x [(x, u), (("self" : Str), Value.ref e)] = _
    simp [List.lookup]
  generalize hm : (fun y => [(("self" : Str), Value.ref e), (x, u)].reverse.lookup y) = m at Fr1 mself mx
  have hns' : h1.Ns hp.objs.size m := Fr1.ns
  refine ks_wpAt_execs_cons (ks_wpAt_Expr_any (ks_wpAt_MethodCall (pl := _) ?_ (call_form hl)) (by unfold interactive; simp [callEnv, newEnv, PySem.W.fnX, sk]))
  have I1 : PySem.W.InstAt h1 e (PySem.W.excObj C t0 none .none) C none := ⟨(N1 _ (List.mem_singleton.mpr rfl)).1, rfl, rfl, trivial⟩
  have clsC : ∃ cd, PySem.W.clsIn K C = some cd := by
    have z := T.mro
    unfold PySem.W.mroIn at z
    cases q : PySem.W.clsIn K C with
    | none => rw [q] at z; cases z
    | some cd => exact ⟨cd, rfl⟩
  obtain ⟨cd, hcls⟩ := clsC
  obtain ⟨oD, hD1, hD2⟩ : ∃ oD, h1.get? C = some oD ∧ oD.data = .cls cd := by
    unfold PySem.W.clsIn at hcls
    split at hcls
    · rename_i ho
      cases hcls
      exact ⟨_, hk1 _ _ (XH _ _ ho), rfl⟩
    · cases hcls
  have XH1 : K.In h1 := X0.keeps kk1
  refine ks_wpAt_super_base ssu scl (by decide) rfl (XH1 _ _ lk) rfl rfl rfl (XH1 _ _ lkc) rfl hvs hfile T.top ?_
  refine PySem.W.ks_loadName_global sk ssu (Calls.loadGlobal_builtin (mg := mg) (mb := mb) (G.keeps kk1) (PySem.W.mg_none_of X0 G T.sup) (B.keeps kk1) ((hb "super" (by decide)).trans PyProof.Rows.Boot.«super») ⟨rfl, ?_⟩)
  refine wpAny_loadName_free sk scl rfl ⟨_, XH1 _ _ lkcell, rfl⟩ ?_
  rw [ea1]
  refine wpAny_loadName_local sk sse hns' mself ?_
  refine PySem.ks_wpAny_isType_cls hD1 hD2 ⟨rfl, ?_⟩
  refine ks_wpAny_call_super hD1 hD2 I1.at_ rfl (fun c z => nomatch z) (PySem.W.looks_mroIn XH1 T.mro) (fun h2 e2 k2 => ?_)
  obtain ⟨Fr2, N2, lt2⟩ := PySem.W.ks_newsPush (s := ⟨h1, g, dr, 0, os⟩) Fr1 N1 rfl e2 k2
  have I2 : PySem.W.InstAt h2 e (PySem.W.excObj C t0 none .none) C none := ⟨k2 _ _ I1.at_, rfl, rfl, trivial⟩
  refine PySem.W.kxs_method (s := ⟨h2, g, dr, _, os⟩) PySem.W.kxs_ValueError Fr2 X0 N2 (List.mem_cons_self ..) I2 T.st T.up T.sub (by decide) (fun q3 h3 Fr3 N3 lt3 => ?_)
  refine PySem.W.kxs_callWith1 (s := ⟨h3, g, dr, _, os⟩) N3 (List.mem_cons_self ..) ?_ rfl rfl
  refine Calls.spliced_cons (wpAny_Name (wpAny_loadName_local sk sx Fr3.ns mx ?_) Fi.xd)
  refine Calls.spliced_nil ⟨(N3 _ (List.mem_cons_self ..)).1, ?_⟩
  have ne3 : ∀ p ∈ [(h1.objs.size, PySem.W.ks_superObj C e C), (e, PySem.W.excObj C t0 none .none)], p.1 < q3 := lt3
  have hlt : e < h1.objs.size := Heap.lt_size I1.at_
  have hq3 : q3 ≠ e := Nat.ne_of_gt (lt3 (e, PySem.W.excObj C t0 none .none) (by simp))
  have UF : PySem.W.UpdF e (PySem.W.excObj C t0 none .none) [(q3, PySem.W.kxs_mw "ValueError.__init__" e), (h1.objs.size, PySem.W.ks_superObj C e C), (e, PySem.W.excObj C t0 none .none)]
      (fun o' => [(q3, PySem.W.kxs_mw "ValueError.__init__" e), (h1.objs.size, PySem.W.ks_superObj C e C), (e, o')]) := .tail hq3 (.tail (Nat.ne_of_gt hlt) (.head (fun p z => nomatch z)))
  refine PySem.W.kxs_call (s := ⟨h3, g, dr, _, os⟩) Fr3 X0 N3 F.excBase_ValueError T.ein (List.mem_cons_self ..) UF (by rw [sizeLine_eq]; simp) (fun t4 h4 Fr4 N4 lt4 => ?_)
  have he4 : h4.get? e = some (PySem.W.excObj C t4 none .none) := (N4 (e, PySem.W.excObj C t4 none .none) (by simp)).1
  have kk4 := Fr4.keep
  refine ks_wpAt_execs_cons (ks_wpAt_Assign_Attr (wpAt_of_wpAny (wpAny_Name (wpAny_loadName_local sk sx Fr4.ns mx ?_) Fi.xd)) rfl)
  refine wpAny_Name (wpAny_loadName_local sk sse Fr4.ns mself ?_) (by decide)
  obtain ⟨nm, qq, NN, bs, bm, sn, sub, ab, col, dd, c0, c1, c2, c3, c5, hC, hbm⟩ := T.oex.cls
  have hcl : PySem.W.clsIn K C = some { name := nm, bases := bs, mro := .ref C :: bm, ns := NN, qualname := qq, hasDict := true, slotNames := sn, subclasses := sub, abstract := ab, collection := col, hasDel := false } := by unfold PySem.W.clsIn; rw [hC] <;> rfl
  have XH4 : K.In h4 := X0.keeps kk4
  refine PySem.W.set_plain (s := ⟨h4, g, dr, _, os⟩) (C := C) (od := none) XH4 ⟨he4, rfl, rfl, trivial⟩ T.oex.sa ?_
  refine PySem.HandSPX.exc_osa XH4 he4 hcl (show PySem.HandSPX.refsVE (.ref C :: bm) = true from hbm) rfl T.no (fun h5 tk5 dx k5 dn dne hx5 hn5 => ?_)
  refine wpAt_of_wpAny (wpAny_execs_nil ?_)
  have s04 : h0.objs.size ≤ h4.objs.size := by
    have a1 : h0.objs.size ≤ hp.objs.size := hsz
    have a2 : hp.objs.size < h4.objs.size := by
      obtain ⟨oL, _, _, hL, _⟩ := Fr4.ns
      exact Heap.lt_size hL
    omega
  refine hq h5 _ dx t4 (fun b o z => k5 b o (fun y => by rw [y, hn] at z; cases z) (kk4 b o z)) hx5 (Nat.le_trans s04 dn) dne hn5
end
section
variable {X : Cx} {C : Addr} {x f : Str}
theorem restricted (h : Heap) (e : Addr) : ∃ G : Heap, (∀ b, b ≠ e → G.get? b = h.get? b) ∧ G.get? e = none := by
  obtain ⟨G, a, b⟩ := restrict h fun b => decide (b ≠ e)
  exact ⟨G, fun c hc => a c (decide_eq_true hc), b e (by simp)⟩
theorem pmk_C {y : Str} {e : Expr} {te : TE} {p pos : Pos} (T : ExcC X.prog X.K C x f) (hr : Room 1 X.A) (hg : Gl X y) (hm : X.mg y = some (.ref C)) (he : PE X e te)
    (hdb : (y == ("__debug__" : Str)) = false := by decide) (hse : starEach [e] X.env = (false, eval e X.env) :: starEach [] X.env := by rfl) :
    PMk X (.Call (.Name y p) [e] [] pos) (fun σ H Q => te σ H fun v H1 => ∀ d, H1 d = none → Q (.ref C) (some d) (upd H1 d (.xd [(f, v)]))) := by
  intro pins s σ H Q I h
  obtain ⟨nm, q, N, bs, bm, sn, sub, ab, col, dd, k0, k1, k2, k3, k5, hC, hbm⟩ := T.oex.cls
  obtain ⟨fI, iC, tI, Fi⟩ := T.init
  refine wpAny_Call_Name_kw (ld_glob I hg hm ?_ hdb)
  refine PySem.W.callWith_K (h₀ := X.base) I.ok.mod.kin T.oex.kC (thn ((pa_cons he pa_nil hse).run pos pins s σ H (fun vs H1 => match vs with
    | [v] => ∀ d, H1 d = none → Q (.ref C) (some d) (upd H1 d (.xd [(f, v)]))
    | _ => False) I h) fun us s1 ⟨vs, H1, I1, r1, q1⟩ => ⟨I1.kIn, ?_⟩) hse rfl
  match vs, q1 with
  | [v], q1 =>
    obtain ⟨u, rfl, ru⟩ := vals1 r1
    show wpAny _ _ (call (.ref C) [u]) _ _ _
    obtain ⟨mm, fr⟩ := I1.fr
    obtain ⟨mb, hmb, hbb⟩ := I1.ok.mod.blt
    obtain ⟨hp, g, dr, tk, os⟩ := s1
    have XH : X.K.In hp := I1.kIn
    have kk : ∀ b o, hp.get? b = some o → ((hp.push (PySem.W.kdv_tup [u])).push (PySem.HandSPX.excO C hp.objs.size)).get? b = some o := fun b o z => Heap.get?_push_of_some _ (Heap.get?_push_of_some _ z)
    have hget : ((hp.push (PySem.W.kdv_tup [u])).push (PySem.HandSPX.excO C hp.objs.size)).get? (hp.objs.size + 1) = some (PySem.HandSPX.excO C hp.objs.size) := by heap_get
    have hno : ∀ n, hp.get? (hp.objs.size + n) = none := fun n => Heap.get?_none_of_le (Nat.le_add_right _ _)
    refine wpAny_call (PySem.HandSPX.call_own F.excBase_ValueError (fun Y => PySem.HandSPX.refsVE_contains Y bm hbm) (XH _ _ hC) (PySem.W.looks_findIn XH iC) (fun self => PySem.W.bind_fn XH self tI) (by rw [sizeLine_eq]; simp)
      (exc_init (t0 := hp.objs.size) T Fi XH (I1.ok.mod.glob.keeps fr.keep) (hmb.keeps fr.keep) hbb (I1.ok.mod.nolimit.keeps fr.keep) kk (by rw [Heap.size_push, Heap.size_push]; omega) (hno 1) hget (hr.make C [u] []).depth ?_))
    intro h' tk' dx t' k5 hx5 dn dne hn5
    refine ⟨rfl, ?_⟩
    have hH1 : H1 dx = none := I1.hok.fresh dn
    have hHe : H1 (hp.objs.size + 1) = none := I1.hok.fresh (Nat.le_succ _)
    obtain ⟨G, gk, ge⟩ := restricted h' (hp.objs.size + 1)
    have nhe : ∀ {b : Addr} {o : Obj}, hp.get? b = some o → b ≠ hp.objs.size + 1 := fun {b o} z => Nat.ne_of_lt (Nat.lt_succ_of_lt (Heap.lt_size z))
    have nhd : ∀ {b : Addr} {o : Obj}, hp.get? b = some o → b ≠ dx := fun {b o} z => Nat.ne_of_lt (Nat.lt_of_lt_of_le (Heap.lt_size z) dn)
    have kG : ∀ b o, hp.get? b = some o → G.get? b = some o := fun b o z => (gk b (nhe z)).trans (k5 b o z)
    have U : Un (frs X.stack) [] H1 (upd H1 dx (.xd [(f, v)])) hp G := {
      keep := fun b o z _ _ _ => kG b o z
      slot := fun b o z _ _ _ => ⟨o.slots, kG b o z⟩
      free := fun b o z n _ => by rw [upd_ne (nhd z)]; exact n
      there := fun b o z _ => ⟨o, kG b o z⟩
      tups := fun b xs z => by rw [upd_ne (ne_of_none z hH1)]; exact z
      frzs := fun b o w z => by rw [upd_ne (ne_of_none z hH1)]; exact z
      tbls := fun b ps z => ⟨#[], by rw [upd_ne (ne_of_none z hH1), z]; simp⟩ }
    have hok3 : HOk X.prog X.w (upd H1 dx (.xd [(f, v)])) G := fun b o z => by
      by_cases hbd : b = dx
      · subst hbd
        rw [upd_same] at z
        cases z
        exact ⟨_, hn5.at fun o y => (gk b dne).trans y, relO_put (fs := []) ru fun _ => True.intro⟩
      · rw [upd_ne hbd] at z
        exact (I1.hok b o z).stay (fun c w _ y => kG c w y) (fun c hc => by rw [upd_ne (ne_of_none hc hH1)]; exact hc) (fun c xs hc => by rw [upd_ne (ne_of_none hc hH1)]; exact hc)
    have J : Inv X pins σ (upd H1 dx (.xd [(f, v)])) ⟨G, g, dr, tk', os⟩ := I1.call' (ch := []) rfl U hok3 I1.bare (fun b z => absurd z (by simp))
    refine ⟨hp.objs.size + 1, _, _, ⟨G, g, dr, tk', os⟩, _, .ref C, some dx, rfl, J, fun b o z => ?_, ge, hx5, ⟨rfl, rfl⟩, rfl, rfl, ?_, rfl, I1.bare, raises_own T.oex.exC T.oex.tyC, q1 dx hH1⟩
    · by_cases hb : b = hp.objs.size + 1
      · have z' : G.get? b = some o := z
        rw [hb, ge] at z'; cases z'
      · exact (gk b hb).symm.trans z
    · rw [upd_ne (Ne.symm dne)]; exact hHe
end
end Y

namespace Y
open PySem PySem.Spec PyProof.Rows L2

section
variable {K : PySem.W.Frag} {m m' : Nat → Addr} {n n' : Nat} {H H' : Hp} {h h' : EH}
theorem Ex.mark {e : EO} : Ex K m h.length H m (h ++ [e]).length H := ⟨by simp, fun _ _ => rfl, fun _ _ z => z, fun _ _ z => z⟩
theorem RelH.mark (R : RelH K m h H) : RelH K m (h ++ [.mark m h.length H]) H := by
  refine ⟨fun r u hr => ?_, fun r q u v hr hq fu fv z => ?_⟩
  · rcases app_cases hr with ⟨q, hr⟩ | ⟨rfl, rfl⟩
    · exact (R.obj r u hr).ex Ex.mark rfl fun b => ⟨id, id⟩
    · exact Ex.mark
  · rcases app_cases hr with ⟨a, hr'⟩ | ⟨a, a'⟩
    · rcases app_cases hq with ⟨b, hq'⟩ | ⟨b, b'⟩
      · exact R.inj r q u v hr' hq' fu fv z
      · rw [b'] at fv; cases fv
    · rw [a'] at fu; cases fu
theorem At.mark {env : En} {σ : L2.St} (a : At K env h m σ H) : At K env (h ++ [.mark m h.length H]) m σ H := ⟨a.hp.mark, a.nm.ex Ex.mark⟩
theorem RelH.marked {k : Nat} (R : RelH K m' h' H') (e : h'[k]? = some (.mark m n H)) : Ex K m n H m' h'.length H' := R.obj k _ e
end
abbrev EW := Addr → List (Str × EV) → En → EH → Prop
abbrev ED := Addr → List (Str × EV) → EH → Prop
def upX (K : PySem.W.Frag) (W : EW) : WX := fun cls d σ H => ∃ m env h C fs dx l, At K env h m σ H ∧ cls = .ref C ∧ d = some dx ∧ H dx = some (.xd l) ∧ RelFs K m h.length H fs l ∧ W C fs env h
def KonX (K : PySem.W.Frag) (m : Nat → Addr) (n : Nat) (H : Hp) (W : ED) (E : XK) : Prop :=
  ∀ C fs h', W C fs h' → ∀ (m' : Nat → Addr) (H' : Hp) (dx : Addr) (l : List (Str × V)), Ex K m n H m' h'.length H' → RelH K m' h' H' → H' dx = some (.xd l) → RelFs K m' h'.length H' fs l → E (.ref C) (some dx) H'
def lRaise (W : EW) (C : Addr) (f : Str) (te : LT) : LS := fun _ env h => te env h fun v h1 => W C [(f, v)] env h1
section
variable {X : Cx} {W : EW}
theorem ls_raise {C : Addr} {x f y : Str} {e : Expr} {te : LT} {p pos pos' : Pos} (T : ExcC X.prog X.K C x f) (tk : Takes X (upX X.K W)) (hc : X.calm = true) (hr : Room 1 X.A) (hg : Gl X y) (hm : X.mg y = some (.ref C)) (he : LE X e te)
    (hdb : (y == ("__debug__" : Str)) = false := by decide) (hse : starEach [e] X.env = (false, eval e X.env) :: starEach [] X.env := by rfl) :
    LSt X (.Raise (some (.Call (.Name y p) [e] [] pos)) none pos') (lRaise W C f te) := by
  refine ⟨PS.imp (ps_raise hc tk (pmk_C (pos := pos) T hr hg hm he.pe hdb hse)) fun D σ H ⟨m, env, h, P, at_, t1, k⟩ => ⟨m, env, h, _, at_, t1, fun v h1 p1 m1 H1 x E1 R1 r1 d hd => ?_⟩⟩
  have a1 := at_.ex E1 R1
  exact ⟨m1, env, h1, C, [(f, v)], d, [(f, x)], ⟨R1.tup hd, a1.nm.ex (Ex.tup1 hd)⟩, rfl, rfl, upd_same, ⟨x, [], rfl, RelE.ex (Ex.tup1 hd) _ _ r1, rfl⟩, p1⟩
end
abbrev LSpX := List EV → EH → EK → ED → Prop
def upSpX (K : PySem.W.Frag) (sp : LSpX) : List V → Hp → VK → XK → Prop := fun vs H Q E => ∃ m h evs P W, RelH K m h H ∧ RelEs K m h.length H evs vs ∧ sp evs h P W ∧ Kon K m h.length H P Q ∧ KonX K m h.length H W E
structure FnX (P : Program) (w : World) (K : PySem.W.Frag) (mg : Str → Option Value) (base : Heap) (k : Nat) (f : Addr) (fd : FuncData) (ps : List Str) (sp : LSpX) : Prop where
  len : ∀ evs h Q W, sp evs h Q W → evs.length = ps.length
  run : ∀ (A : Around) (outer : List Env) (s : Shared) (H : Hp) (args : Args) (us : List Value) (vs : List V) (Q : VK) (E : XK), Room k A → A.guards = some [] → Env0 P w K mg base A outer s H →
    BindsTo s fd args (ps.zip us) → Vals vs us → upSpX K sp vs H Q E → codeAny (model P w) A (.call (.ref f) args) (CR (CX P w) outer P w H s Q E) s
def lCallX (sp : LSpX) (W : EW) (t : LA) : LT := fun env h P => t env h fun vs h1 => sp vs h1 P fun C fs h2 => W C fs env h2
section
variable {X : Cx} {k : Nat} {f : Addr} {fd : FuncData} {ps : List Str} {sp : LSpX} {W : EW} {x : Str} {p pos : Pos} {e : Expr} {es : List Expr} {t : LA}
theorem runX {pins : List (Addr × Obj)} {σ : L2.St} {H : Hp} {s : Shared} {Q : VK} {us : List Value} {vs : List V} (Fn : FnX X.prog X.w X.K X.mg X.base k f fd ps sp) (tk : Takes X (upX X.K W)) (hr : Room k X.A) (hG : X.A.guards = some [])
    (hb : Binds X.K fd ps []) (I : Inv X pins σ H s) (r : Vals vs us) (q : upSpX X.K sp vs H Q fun cls d H' => upX X.K W cls d σ H') : wpAny (model X.prog X.w) X.A (call (.ref f) us) (EP X pins σ Q) X.xe s := by
  have hl : us.length = ps.length := by
    obtain ⟨m, h, evs, P, W', R, re, sq, _⟩ := q
    rw [← r.length, ← re.length]
    exact Fn.len _ _ _ _ sq
  have b := hb s us I.kIn (by simpa using hl)
  rw [List.append_nil] at b
  refine wpAny_call (codeAny_mono (Fn.run X.A X.stack s H _ us vs Q _ hr hG I.env0 b r q) fun o s' ho => ?_)
  match o, ho with
  | .error er, ho => exact tk er s' (XE.of_call I (fun _ _ _ z => z) ho)
  | .ok (.ret u), ho => exact I.after ho
  | .ok .next, ho => exact ho.elim
  | .ok .brk, ho => exact ho.elim
  | .ok .cont, ho => exact ho.elim
theorem le_callX (Fn : FnX X.prog X.w X.K X.mg X.base k f fd ps sp) (tk : Takes X (upX X.K W)) (hr : Room k X.A) (hG : X.A.guards = some []) (hg : Gl X x) (hm : X.mg x = some (.ref f)) (hk : PySem.W.keepIn X.K (.ref f) = true) (hb : Binds X.K fd ps [])
    (ha : LAs X (e :: es) t) (hdb : (x == ("__debug__" : Str)) = false := by decide) (he : starEach (e :: es) X.env = (false, eval e X.env) :: starEach es X.env := by rfl) (hpl : (backTo pos (starEach es X.env)).any (·.1) = false := by rfl) :
    LE X (.Call (.Name x p) (e :: es) [] pos) (lCallX sp W t) := by
  refine ⟨⟨fun pins s σ H Q I ⟨m, env, h, P, at_, t1, k⟩ => wpAny_Call_Name_kw (ld_glob I hg hm (PySem.W.callWith_K (h₀ := X.base) I.ok.mod.kin hk (thn (ha.pa.run pos pins s σ H (fun vs H1 => upSpX X.K sp vs H1 Q fun cls d H' => upX X.K W cls d σ H') I
    ⟨m, env, h, _, at_, t1, fun vs h1 p1 m1 H1 xs E1 R1 r1 => ?_⟩) fun us s1 ⟨vs, H1, I1, r, q1⟩ => ⟨I1.kIn, runX Fn tk hr hG hb I1 r q1⟩) he hpl) hdb)⟩⟩
  exact ⟨m1, h1, vs, P, _, R1, r1, p1, k.ex E1, fun C fs h2 w2 m2 H2 dx l E2 R2 hd rf => ⟨m2, env, h2, C, fs, dx, l, (at_.ex E1 R1).ex E2 R2, rfl, rfl, hd, rf, w2⟩⟩
end
theorem fnX_of {P : Program} {w : World} {K : PySem.W.Frag} {mg : Str → Option Value} {base : Heap} {k : Nat} {f : Addr} {fd : FuncData} {name qual : Str} {params : Arguments} {body : List Stmt} {scope : Scope} {N ps : List Str} {sp : LSpX} {t : EW → LS}
    (Fd : FunD K name qual params body scope [] [] f fd) (Sc : FnScope N ps scope) (len : ∀ evs h Q W, sp evs h Q W → evs.length = ps.length)
    (hbody : ∀ (cdv : Value) (A : Around) (outer : List Env) (s : Shared) (H : Hp) (E : XK) (W : EW), Room k (A.deeper (envOfC qual scope s.heap.objs.size f cdv)) → (A.deeper (envOfC qual scope s.heap.objs.size f cdv)).guards = some [] →
      Takes (cxOf (CX P w) P w K mg base N qual scope f cdv A outer s H E) (upX K W) → LSs (cxOf (CX P w) P w K mg base N qual scope f cdv A outer s H E) body (t W))
    (pure : ∀ evs h Q W, sp evs h Q W → ∀ mk, isF mk = true → t (fun C fs _ h' => h'[h.length]? = some mk ∧ W C fs h') (endsOf Q) (startE N evs) (h ++ [mk])) :
    FnX P w K mg base (k + 1) f fd ps sp := by
  obtain ⟨oc, od, dV, kV, doc, pm, an, cdv, ct, osl, rfl, lk, hcd, _, _⟩ := Fd.ex
  refine ⟨len, fun A outer s H args us vs Q E hr hG e0 hb r q => ?_⟩
  obtain ⟨m, h, evs, Pk, Wk, R, re, sq, kq, kx⟩ := q
  have hl : vs.length = ps.length := by
    rw [← re.length]; exact len _ _ _ _ sq
  have keepB : ∀ b o, base.get? b = some o → s.heap.get? b = some o := fun b o z => (e0.bs b o z).1
  have inK := e0.mod.kin.keeps keepB
  refine codeAny_call_function hr.depth (inK _ _ lk) rfl Sc.co Sc.gen rfl (PySem.W.codeRec_of inK hcd) (hb _ _ _ _ ?_)
  refine wpAny_newFunctionEnv_cells Sc.kind (fun y hy => ?_) fun env he s1 x => ?_
  · rcases Sc.par y.1 (List.of_mem_zip hy).1 with z | z
    · exact .inl z
    · exact .inr ⟨z, PySem.W.cellsFrom_some _ _ _ (.inl z)⟩
  · subst he
    refine ⟨(e0.mod.nolimit.keeps keepB).keeps x.toInCall.keep, codeAny_func ?_⟩
    have I := inv_start (CX := CX P w) (P := P) (w := w) (K := K) (mg := mg) (base := base) (E := E) Sc hr.hd e0 hl r x
    have tk : Takes (cxOf (CX P w) P w K mg base N qual scope f cdv A outer s H E) (upX K fun C fs _ h' => h'[h.length]? = some (.mark m h.length H) ∧ Wk C fs h') :=
      (takes_of (X := cxOf (CX P w) P w K mg base N qual scope f cdv A outer s H E) rfl rfl rfl rfl).imp fun cls d σ H' ⟨m', env', h', C, fs, dx, l, at_, e1, e2, hd, rf, hmk, w'⟩ => by
        subst e1 e2
        exact kx C fs h' w' m' H' dx l (at_.hp.marked hmk) at_.hp hd rf
    have ht := hbody cdv A outer s H E _ (hr.deeper _) hG tk
    have at1 : At K (startE N evs) (h ++ [EO.mark m h.length H]) m (start N vs) H := At.mark ⟨R, start_rel N re⟩
    have pu := pure evs h Pk Wk sq (.mark m h.length H) rfl
    have E0 : Ex K m h.length H m (h ++ [EO.mark m h.length H]).length H := Ex.mark
    have up1 : upS K (t fun C fs _ h' => h'[h.length]? = some (.mark m h.length H) ∧ Wk C fs h') { nx := fun _ H' => Q .non H', rt := Q } (start N vs) H :=
      ⟨m, startE N evs, h ++ [EO.mark m h.length H], endsOf Pk, at1, pu, ⟨fun env' h' p m' H' σ' Ee a' => kq _ _ p m' H' _ (E0.trans Ee) a'.hp (by rw [RelE]), fun v h' p m' H' x Ee R' r' => kq _ _ p m' H' x (E0.trans Ee) R' r', fun _ _ z => z.elim, fun _ _ z => z.elim⟩⟩
    have run := ht.pss.run [] s1 (start N vs) H { nx := fun _ H' => Q .non H', rt := Q } I up1
    refine wpAny_mono run (fun fl s' hs => ?_) fun e s' hs => hs
    match fl, hs with
    | .ret u, ⟨v, σ', H', J, rv, z⟩ => exact ⟨v, H', J.os, J.bare, J.base, J.hok, rv, z⟩
    | .next, ⟨σ', H', J, z⟩ => exact ⟨.non, H', J.os, J.bare, J.base, J.hok, rfl, z⟩
    | .brk, ⟨_, _, _, z⟩ => exact z.elim
    | .cont, ⟨_, _, _, z⟩ => exact z.elim
end Y

namespace Y
open PySem PySem.Spec PyProof.Rows L2

abbrev Suite := Addr → Value → Option Addr → TS
def outOf (D : Ends) (i : Nat) : Ends := { nx := fun σ H => D.nx (σ.set i none) H, rt := D.rt, bk := fun σ H => D.bk (σ.set i none) H, ct := fun σ H => D.ct (σ.set i none) H }
def wName (K : PySem.W.Frag) (D : Ends) : List (Value × Nat × Suite) → WX
  | [] => fun _ _ _ _ => False
  | (c, i, ts) :: r => fun cls d σ H => ∃ b, PySem.W.exmOne K cls c = some b ∧ (b = true → ∀ a, H a = none → ts a cls d (outOf D i) (σ.set i (some (.ref a))) H) ∧ (b = false → wName K D r cls d σ H)
inductive HdsN (X : Cx) : List ExceptHandler → List (Value × Nat × Suite) → Prop
  | nil {hds : List ExceptHandler} : HdsN X hds []
  | cons {x n : Str} {c : Value} {i : Nat} {ts : Suite} {b₀ : Stmt} {suite : List Stmt} {np pos' : Pos} {hds : List ExceptHandler} {l : List (Value × Nat × Suite)} (hc : Names X x c) (hi : X.N[i]? = some n) (hl : X.env.kindOf n = some .local)
      (su : ∀ (a : Addr) (oe : Obj) (cls : Value) (d : Option Addr) (pn : List (Addr × Obj)), Zc cls d oe → (∃ vs, oe.data = .fields vs) → PSs (X.suite a ((a, oe) :: pn)) (b₀ :: suite) (ts a cls d)) (r : HdsN X hds l) :
      HdsN X (.ExceptHandler (some (.Name x np)) (some n) (b₀ :: suite) pos' :: hds) ((c, i, ts) :: l)
section
variable {X : Cx}
theorem clauses {pins : List (Addr × Obj)} {σ : L2.St} {H : Hp} {sI s' : Shared} {a : Addr} {B : Heap} {cls : Value} {d : Option Addr} {D : Ends} {h3 : Heap} (hs : X.stack = X.env :: X.outer) (hf : X.env.frame = some X.env.locals) (hN : X.N.Nodup)
    (J : Inv X pins σ H sI) (nb : ∀ b o, sI.heap.get? b = some o → b ∉ frs X.stack → B.get? b = some o) (up3 : sI.heap.UpToSlots h3) (fl3 : HandSPX.FlyingZ B (X.env :: X.outer) a (Zc cls d) h3) (na : H a = none) (os : s'.os = sI.os) (ag : AllBare s'.gens) :
    ∀ {hds : List ExceptHandler} {l : List (Value × Nat × Suite)}, HdsN X hds l → wName X.K D l cls d σ H → wpAny (model X.prog X.w) X.A (handleBy (.ref a) X.env hds) (SP X pins D) X.xe { s' with heap := h3 } := by
  have nofr : ∀ {h : Heap} {o : Obj} {vs : Array Value}, h.FunFrames B (X.env :: X.outer) → h.get? a = some o → o.data = .fields vs → a ∉ frs (X.env :: X.outer) := by
    intro h o vs ff z dd hm
    obtain ⟨_, o', z', hnf⟩ := ff.mem hm
    rw [z] at z'
    exact hnf vs (by cases z'; exact dd)
  obtain ⟨oe3, vs3, he3, hz3, hd3⟩ := fl3.there
  have nf := nofr fl3.2.2.1 he3 hd3
  have nL : a ≠ X.env.locals := fun z => nf (List.mem_filterMap.mpr ⟨X.env, by simp, by rw [hf, z]⟩)
  have nF : a ∉ X.fs := fun hm => by
    obtain ⟨env', he', z⟩ := List.mem_filterMap.mp hm
    exact nf (List.mem_filterMap.mpr ⟨env', by simp [he'], z⟩)
  have J3 : Inv X pins σ H { s' with heap := h3 } := J.landed nb fl3.1 up3 os ag
  have S3 := J3.suite he3 hd3 na nL nF
  intro hds l hk
  induction hk with
  | nil => exact fun w => w.elim
  | @cons x n c i ts b₀ suite np pos' hds l hc hi hl su _ ih =>
    intro w
    obtain ⟨b, hb, hyes, hno⟩ := w
    refine wpAny_handleBy_cons (codeAny_handlers_test ?_) (by intro z; cases z)
    have cl : PySem.W.Looks (model X.prog X.w) h3 (typeOf (.ref a)) cls := fun _ _ _ _ k z => wpAny_typeOf_ref (k _ _ he3) (by rw [hz3.1]; exact z)
    have mt := PySem.W.exm_one (M := model X.prog X.w) J3.kIn cl hb
    have named : ∀ {Q E : Value → Shared → Prop}, Q c { s' with heap := h3 } → wpAny (model X.prog X.w) (X.A.mark (some (.ref a))) (eval (.Name x np) X.env) Q E { s' with heap := h3 } := by
      intro Q E z
      obtain ⟨hg, hdb, e | ⟨e, hv, hnn⟩⟩ := hc
      · exact ld_glob (X := X.suite a ((a, oe3) :: (X.pn ++ pins))) S3 hg e z hdb
      · exact ld_blt (X := X.suite a ((a, oe3) :: (X.pn ++ pins))) S3 hg e hv z hnn hdb
    refine named (mt.here ?_)
    cases b with
    | false => exact ih (hno rfl)
    | true =>
      refine codeAny_handlers_suite_as (HandSPX.lands_againZ fl3 fun h4 fl4 up4 => ?_)
      obtain ⟨oe4, vs4, he4, hz4, hd4⟩ := fl4.there
      have J4 : Inv X pins σ H { s' with heap := h4 } := J.landed nb fl4.1 (up3.trans up4) os ag
      have S4 := J4.suite he4 hd4 na nL nF
      refine store_ok (X := X.suite a ((a, oe4) :: (X.pn ++ pins))) (v := .ref a) S4 hN hi (.inl hl) rfl (fun s5 S5 => ?_) (.inr hl)
      have run := (su a oe4 cls d (X.pn ++ pins) hz4 ⟨_, hd4⟩).run [] s5 _ H _ S5 (hyes rfl a na)
      have ends : ∀ {σ6 : L2.St} {H6 : Hp} {s6 : Shared} {Q : Shared → Prop}, Inv (X.suite a ((a, oe4) :: (X.pn ++ pins))) [] σ6 H6 s6 → (∀ s7, Inv X pins (σ6.set i none) H6 s7 → Q s7) →
          wpAny (model X.prog X.w) X.A (do bindName X.env n .none; unbindBehindTheSuite X.env n pos') (fun _ s7 => Q s7) X.xe s6 := fun S6 z => gone_ok (S6.unsuite J.ok) hN hi hl z
      refine wpAny_mono run (fun fl s6 z => ?_) (fun _ _ z => False.elim z)
      match fl, z with
      | .ret u, ⟨v6, σ6, H6, S6, r6, q6⟩ => exact ends S6 fun s7 J7 => ⟨_, _, _, J7, r6, q6⟩
      | .next, ⟨σ6, H6, S6, q6⟩ => exact ends S6 fun s7 J7 => ⟨_, _, J7, q6⟩
      | .brk, ⟨σ6, H6, S6, q6⟩ => exact ends S6 fun s7 J7 => ⟨_, _, J7, q6⟩
      | .cont, ⟨σ6, H6, S6, q6⟩ => exact ends S6 fun s7 J7 => ⟨_, _, J7, q6⟩
theorem ps_tryN {body : List Stmt} {h₀ : ExceptHandler} {hds : List ExceptHandler} {l : List (Value × Nat × Suite)} {pos : Pos} {tb : WX → TS} (hs : X.stack = X.env :: X.outer) (hf : X.env.frame = some X.env.locals) (hN : X.N.Nodup)
    (hb : ∀ (W : WX) (pn : List (Addr × Obj)) (xe : Value → Shared → Prop), Takes (X.tr pn xe) W → PassesOwn (model X.prog X.w) X.A X.env xe → PSs (X.tr pn xe) body (tb W))
    (hh : HdsN X (h₀ :: hds) l) : PS X (.Try body (h₀ :: hds) [] [] pos) (fun D σ H => tb (wName X.K D l) D σ H) := by
  refine ⟨fun pins s σ H D I h => wpAny_Try_except ?_⟩
  have ok := I.ok
  have fr2 : X.A.frames = some (X.env :: X.outer) := by rw [ok.frames, hs]
  have caught : Takes (X.tr (X.pn ++ pins) fun e s₁ => wpAny (model X.prog X.w) X.A (noteFrame e X.env) (fun _ s₂ => wpAny (model X.prog X.w) X.A (setFlight e none) (fun _ s₃ =>
      wpAny (model X.prog X.w) X.A (handleBy e X.env (h₀ :: hds)) (SP X pins D) X.xe s₃) X.xe s₂) X.xe s₁) (wName X.K D l) := by
    rintro u s' ⟨a, B, sI, pins', σ', H', cls, d, rfl, J', nb, up, sky, na, os, ag, w⟩
    have sky' : Sky B (X.env :: X.outer) a (Zc cls d) X.env.locals s'.heap := by rw [← hs]; exact sky
    refine Sky.land Zc.steady fr2 hf sky' fun h3 fl3 up3 => ?_
    exact clauses hs hf hN (J'.ofTry ok) nb (up.trans up3) fl3 na os ag hh w
  refine wpAny_mono ((hb _ (X.pn ++ pins) _ caught PassesOwn.looking).run [] s σ H D (I.toTry _) h) (fun fl s1 z => ?_) (fun e s1 z => z)
  match fl, z with
  | .next, ⟨σ', H', J', q⟩ => exact wpAny_execs_nil ⟨σ', H', J'.ofTry ok, q⟩
  | .brk, ⟨σ', H', J', q⟩ => exact ⟨σ', H', J'.ofTry ok, q⟩
  | .cont, ⟨σ', H', J', q⟩ => exact ⟨σ', H', J'.ofTry ok, q⟩
  | .ret u, ⟨v, σ', H', J', r, q⟩ => exact ⟨v, σ', H', J'.ofTry ok, r, q⟩
end
inductive HK where
  | tup (s : List Nat)
  | lst (s : List Nat)
def HK.run : HK → EV → EH → EK → Prop
  | .tup s => fun x h rt => rt (.tup [.str s, x]) h
  | .lst s => fun x h rt => rt (.ref h.length) (h ++ [.lst [.str s, x]])
abbrev HC := Addr × Str × HK × Nat
def wHds (rt : EK) : List HC → ED
  | [] => fun _ _ _ => False
  | (C1, f, k, _) :: r => fun C fs h => (C = C1 ∧ ∃ x, fs.lookup f = some x ∧ k.run x h rt) ∨ wHds rt r C fs h
def lTry (tb : EW → LS) (L : List HC) : LS := fun D env h => ∀ mk, isF mk = true → tb (fun C fs _ h' => h'[h.length]? = some mk ∧ wHds D.rt L C fs h') D env (h ++ [mk])
def HK.ts (C : Addr) (f : Str) (i : Nat) (k : HK) : Suite := fun a cls d D σ H => (i < σ.length → σ[i]? = some (some (.ref a))) ∧ cls = .ref C ∧ ∃ dd l v, d = some dd ∧ H dd = some (.xd l) ∧ l.lookup f = some v ∧ match k with
  | .tup s => ∀ p, H p = none → D.rt (.ref p) (upd H p (.tup [.str (S s), v]))
  | .lst s => ∀ p, H p = none → D.rt (.ref p) (upd H p (.lst [.str (S s), v]))
def HC.suite (c : HC) : Value × Nat × Suite := (.ref c.1, c.2.2.2, c.2.2.1.ts c.1 c.2.1 c.2.2.2)
def ExclA (K : PySem.W.Frag) (C : Addr) : List HC → Prop
  | [] => True
  | c :: r => PySem.W.exmOne K (.ref c.1) (.ref C) = some false ∧ ExclA K C r
def Excl (K : PySem.W.Frag) : List HC → Prop
  | [] => True
  | c :: r => PySem.W.exmOne K (.ref c.1) (.ref c.1) = some true ∧ ExclA K c.1 r ∧ Excl K r
section
variable {K : PySem.W.Frag} {m m' : Nat → Addr} {n n' : Nat} {H H' : Hp} {h h' : EH}
theorem RelFs.look : ∀ {fs : List (Str × EV)} {l : List (Str × V)} {f : Str} {x : EV}, RelFs K m n H fs l → fs.lookup f = some x → ∃ v, l.lookup f = some v ∧ RelE K m n H x v
  | [], _, _, _, _, e => nomatch e
  | (g, y) :: r, _, f, x, q, e => by
    obtain ⟨v, l', rfl, r1, r2⟩ := q
    by_cases hf : f = g
    · subst hf
      simp [List.lookup] at e ⊢
      subst e
      exact r1
    · have hb : (f == g) = false := by simpa using hf
      simp only [List.lookup, hb] at e ⊢
      exact RelFs.look r2 e
theorem wHds_mem {rt : EK} {C : Addr} {fs : List (Str × EV)} : ∀ {L : List HC}, wHds rt L C fs h → ∃ c ∈ L, c.1 = C
  | [], q => q.elim
  | (C1, f, k, i) :: r, q => by
    rcases q with ⟨e, _⟩ | q
    · exact ⟨_, List.mem_cons_self .., e.symm⟩
    · obtain ⟨c, hc, e⟩ := wHds_mem q
      exact ⟨c, List.mem_cons_of_mem _ hc, e⟩
theorem ExclA.mem {C : Addr} : ∀ {L : List HC}, ExclA K C L → ∀ c ∈ L, PySem.W.exmOne K (.ref c.1) (.ref C) = some false
  | [], _, _, z => nomatch z
  | _ :: _, q, c, z => by
    rcases List.mem_cons.mp z with rfl | z
    · exact q.1
    · exact ExclA.mem q.2 c z
theorem wHds_sim {rt : EK} {D : Ends} {C dx : Addr} {fs : List (Str × EV)} {l : List (Str × V)} {σ : L2.St} (k : Kon K m' h'.length H' rt D.rt) (R : RelH K m' h' H') (hd : H' dx = some (.xd l)) (rf : RelFs K m' h'.length H' fs l) :
    ∀ {L : List HC}, Excl K L → wHds rt L C fs h' → wName K D (L.map HC.suite) (.ref C) (some dx) σ H'
  | [], _, q => q.elim
  | (C1, f, hk, i) :: r, ex, q => by
    rcases q with ⟨rfl, x, ex1, q⟩ | q
    · refine ⟨true, ex.1, fun _ a ha => ⟨fun hi => List.getElem?_set_self (by simpa using hi), rfl, dx, l, ?_⟩, fun z => nomatch z⟩
      obtain ⟨v, e, rv⟩ := rf.look ex1
      refine ⟨v, rfl, hd, e, ?_⟩
      cases hk with
      | tup s => exact fun p hp => k.tup R q (.cons (by rw [RelE]) (.one rv)) hp
      | lst s => exact fun p hp => k.lst R q (.cons (by rw [RelE]) (.one rv)) hp
    · obtain ⟨c, hc, e⟩ := wHds_mem q
      refine ⟨false, ?_, fun z => absurd z Bool.false_ne_true, fun _ => wHds_sim k R hd rf ex.2.2 q⟩
      rw [← e]
      exact ex.2.1.mem c hc
end
section
variable {X : Cx}
theorem suite_tup {C a : Addr} {x f n : Str} {i : Nat} {s : List Nat} {st : Str} {oe : Obj} {cls : Value} {d : Option Addr} {pn : List (Addr × Obj)} {j : Nat} {kk : Nat} {p0 p1 p2 p3 p4 : Pos} (T : ExcC X.prog X.K C x f) (es : st = S s) (hi : X.N[i]? = some n) (hl : X.env.kindOf n = some .local)
    (hd : (n == ("__debug__" : Str)) = false) (hcd : (n == ("__classdict__" : Str)) = false) (hz : Zc cls d oe) (hf : ∃ vs, oe.data = .fields vs) (hb : attributeBase (.Name n p1) f X.env (eval (.Name n p1) X.env) = eval (.Name n p1) X.env)
    (hse1 : starEach [.Constant (.str st) j p0, .Attribute (.Name n p1) f p2] X.env = (false, eval (.Constant (.str st) j p0) X.env) :: starEach [.Attribute (.Name n p1) f p2] X.env) (hse2 : starEach [.Attribute (.Name n p1) f p2] X.env = (false, eval (.Attribute (.Name n p1) f p2) X.env) :: starEach [] X.env) :
    PSs (X.suite a ((a, oe) :: pn)) [.Return (some (.Tuple [.Constant (.str st) j p0, .Attribute (.Name n p1) f p2] kk p3)) p4] (HK.ts C f i (.tup s) a cls d) := by
  subst es
  have base := pss_one (ps_ret (X := X.suite a ((a, oe) :: pn)) (pos := p4) (pe_tup (x1 := kk) (pos := p3) (pa_cons (pe_str (x := S s)) (pa_cons (pe_xf (pos := p2) T.xf T.no hz hf (pe_var (pos := p1) hi (.inl hl) hd hcd) hb) pa_nil hse2) hse1)))
  refine ⟨fun pins s0 σ H D I ⟨h1, h2, dd, l, v, e1, e2, e3, q⟩ => base.run pins s0 σ H D I ?_⟩
  have hlt : i < σ.length := by
    rw [I.len]
    exact (List.getElem?_eq_some_iff.mp hi).1
  exact ⟨_, h1 hlt, rfl, h2, dd, l, v, e1, e2, e3, by simp [sizeLine_eq], q⟩
inductive HdsE (X : Cx) : List ExceptHandler → List HC → Prop
  | nil {hds : List ExceptHandler} : HdsE X hds []
  | cons {x n f : Str} {C : Addr} {i : Nat} {k : HK} {st : Stmt} {np pos' : Pos} {hds : List ExceptHandler} {L : List HC} (hc : Names X x (.ref C)) (hi : X.N[i]? = some n) (hl : X.env.kindOf n = some .local)
      (su : ∀ (a : Addr) (oe : Obj) (cls : Value) (d : Option Addr) (pn : List (Addr × Obj)), Zc cls d oe → (∃ vs, oe.data = .fields vs) → PSs (X.suite a ((a, oe) :: pn)) [st] (k.ts C f i a cls d)) (r : HdsE X hds L) :
      HdsE X (.ExceptHandler (some (.Name x np)) (some n) [st] pos' :: hds) ((C, f, k, i) :: L)
theorem HdsE.hdsN {hds : List ExceptHandler} {L : List HC} (h : HdsE X hds L) : HdsN X hds (L.map HC.suite) := by
  induction h with
  | nil => exact .nil
  | cons hc hi hl su _ ih => exact .cons hc hi hl su ih
theorem ls_try {body : List Stmt} {h₀ : ExceptHandler} {hds : List ExceptHandler} {L : List HC} {pos : Pos} {tb : EW → LS} (hs : X.stack = X.env :: X.outer) (hf : X.env.frame = some X.env.locals) (hN : X.N.Nodup)
    (hb : ∀ (W : EW) (pn : List (Addr × Obj)) (xe : Value → Shared → Prop), Takes (X.tr pn xe) (upX X.K W) → PassesOwn (model X.prog X.w) X.A X.env xe → LSs (X.tr pn xe) body (tb W))
    (hh : HdsE X (h₀ :: hds) L) (ex : Excl X.K L) : LSt X (.Try body (h₀ :: hds) [] [] pos) (lTry tb L) := by
  have hand := ps_tryN (X := X) (body := body) (pos := pos) (tb := fun W D σ H => ∃ W' : EW, (∀ c d σ H, upX X.K W' c d σ H → W c d σ H) ∧ upS X.K (tb W') D σ H) hs hf hN
    (fun W pn xe tk po => ⟨fun pins s σ H D I ⟨W', im, q⟩ => (hb W' pn xe (tk.imp im) po).pss.run pins s σ H D I q⟩) hh.hdsN
  refine ⟨PS.imp hand fun D σ H ⟨m, env, h, P, at_, t1, k⟩ => ?_⟩
  have E0 : Ex X.K m h.length H m (h ++ [EO.mark m h.length H]).length H := Ex.mark
  refine ⟨fun C fs _ h' => h'[h.length]? = some (.mark m h.length H) ∧ wHds P.rt L C fs h', ?_, m, env, h ++ [EO.mark m h.length H], P, at_.mark, t1 _ rfl, k.ex E0⟩
  rintro cls d σ' H' ⟨m', env', h', C, fs, dx, l, a', rfl, rfl, hd, rf, hmk, w⟩
  exact wHds_sim (k.rt.ex (a'.hp.marked hmk)) a'.hp hd rf ex w
end
end Y

namespace Y
open PySem PySem.Spec PyProof.Rows L2

def oexB (K : PySem.W.Frag) (C : Addr) : Bool := (match K.lookup C with
    | some ⟨.type "type", _, .cls cd, sl⟩ => (match cd.mro, sl.toList with
      | .ref C' :: bm, [_, _, _, _, some (.builtin n), _] => decide (C' = C) && (decide (n = "ValueError.__new__") && (cd.hasDict && (!cd.hasDel && HandSPX.refsVE bm)))
      | _, _ => false)
    | _ => false) && (decide (PySem.W.findIn K (.ref C) "__setattr__" = some (some (.builtin "object.__setattr__"))) && (decide (PySem.W.subIn K (.ref C) (.type "BaseException") = some true) && (decide (PySem.W.typeIn K (.ref C) = some (.type "type")) && PySem.W.keepIn K (.ref C))))
theorem ba2 {a b : Bool} (h : (a && b) = true) : a = true ∧ b = true := Bool.and_eq_true_iff.mp h
theorem oexB_ok {K : PySem.W.Frag} {C : Addr} (h : oexB K C = true) : OexC K C := by
  unfold oexB at h
  obtain ⟨h1, h⟩ := ba2 h
  obtain ⟨h2, h⟩ := ba2 h
  obtain ⟨h3, h⟩ := ba2 h
  obtain ⟨h4, h5⟩ := ba2 h
  refine ⟨?_, of_decide_eq_true h2, of_decide_eq_true h3, of_decide_eq_true h4, h5⟩
  split at h1
  · rename_i dd cd sl ho
    split at h1
    · rename_i C' bm k0 k1 k2 k3 n k5 hm hs
      obtain ⟨e1, h1⟩ := ba2 h1
      obtain ⟨e2, h1⟩ := ba2 h1
      obtain ⟨e3, h1⟩ := ba2 h1
      obtain ⟨e4, e5⟩ := ba2 h1
      have e1 := of_decide_eq_true e1
      have e2 := of_decide_eq_true e2
      subst e1 e2
      obtain ⟨nm, bs, mro, ns, qn, hd, sn, sub, ab, col, del⟩ := cd
      dsimp only at hm e3 e4
      subst hm e3
      have e4' : del = false := by simpa using e4
      subst e4'
      have hsl : sl = #[k0, k1, k2, k3, some (.builtin "ValueError.__new__"), k5] := by
        obtain ⟨l⟩ := sl
        simp only at hs
        rw [hs]
      subst hsl
      exact ⟨nm, qn, ns, bs, bm, sn, sub, ab, col, dd, k0, k1, k2, k3, k5, ho, e5⟩
    · cases h1
  · cases h1
def initBodyB (x f : Str) : List Stmt → Bool
  | [.Expr (.Call (.Attribute (.Call (.Name s _) [] [] _) i p2) [.Name x1 _] [] p4) _, .Assign [.Attribute (.Name s2 _) f2 _] (.Name x2 _) _] =>
    (p2.endLine == p4.line) && (decide (s = ("super" : Str)) && (decide (i = ("__init__" : Str)) && (decide (x1 = x) && (decide (s2 = ("self" : Str)) && (decide (f2 = f) && decide (x2 = x))))))
  | _ => false
theorem initBodyB_ok {x f : Str} {b : List Stmt} (h : initBodyB x f b = true) : InitBody x f b := by
  unfold initBodyB at h
  split at h
  · rename_i s p0 p1 i p2 x1 p3 p4 p5 s2 p6 f2 p7 x2 p8 p9
    obtain ⟨e0, h⟩ := ba2 h
    obtain ⟨e1, h⟩ := ba2 h
    obtain ⟨e2, h⟩ := ba2 h
    obtain ⟨e3, h⟩ := ba2 h
    obtain ⟨e4, h⟩ := ba2 h
    obtain ⟨e5, e6⟩ := ba2 h
    have e1 := of_decide_eq_true e1
    have e2 := of_decide_eq_true e2
    have e3 := of_decide_eq_true e3
    have e4 := of_decide_eq_true e4
    have e5 := of_decide_eq_true e5
    have e6 := of_decide_eq_true e6
    subst e1 e2 e3 e4 e5
    exact ⟨p0, p1, p2, p3, p4, p5, p6, p7, p8, p9, e0, by rw [e6]⟩
  · cases h
def paramsB (x : Str) : Arguments → Bool
  | ⟨[], [a1, a2], none, [], [], none, []⟩ => decide (a1.arg = ("self" : Str)) && decide (a2.arg = x)
  | _ => false
def scopeB (x : Str) (s : Scope) : Bool := decide (s.kind = .function) && (!s.isCoroutine && (!s.isGenerator && (decide (s.names.lookup ("super" : Str) = some .globalImplicit) && (decide (s.names.lookup ("__class__" : Str) = some .free) &&
  (decide (s.names.lookup ("self" : Str) = some .local) && (decide (s.names.lookup x = some .local) && s.names.all fun y => decide (y.2 ≠ .cell)))))))
def codeB (P : Program) (K : PySem.W.Frag) (cda : Addr) (q : Str) : Bool := PySem.W.codeIn K (.ref cda) q && (match K.lookup cda with
  | some ⟨_, _, .fields vs, _⟩ => (match (vs[2]? : Option Value) with
    | some (Value.str file _) => ((P.main.file : Str) == file)
    | _ => false)
  | _ => false)
def cellB (K : PySem.W.Frag) (C cc : Addr) : Bool := match K.lookup cc with
  | some ⟨_, _, .cell (some (.ref C')), _⟩ => decide (C' = C)
  | _ => false
def initFdB (P : Program) (K : PySem.W.Frag) (C : Addr) (x f : Str) : FuncData → Bool
  | ⟨_, q, ps, .stmts b, sc, gl, [(n, cc)], .none, _, _, _, _, .ref cda, _, bi⟩ =>
    paramsB x ps && (initBodyB x f b && (decide (gl = mainGlobals) && (decide (bi = builtinsNs) && (decide (n = ("__class__" : Str)) && (scopeB x sc && (codeB P K cda q && cellB K C cc))))))
  | _ => false
def initFnB (P : Program) (K : PySem.W.Frag) (C fI : Addr) (x f : Str) : Bool := !(x == ("self" : Str)) && (!(x == ("__debug__" : Str)) && (match K.lookup fI with
  | some ⟨_, _, .func fd, _⟩ => initFdB P K C x f fd
  | _ => false))
theorem initFnB_ok {P : Program} {K : PySem.W.Frag} {C fI : Addr} {x f : Str} (h : initFnB P K C fI x f = true) : InitFn P K C fI x f := by
  unfold initFnB at h
  obtain ⟨h1, h⟩ := ba2 h
  obtain ⟨h2, h⟩ := ba2 h
  refine ⟨?_, by simpa using h1, by simpa using h2⟩
  split at h
  · rename_i oc od fd osl lk
    unfold initFdB at h
    split at h
    · rename_i nm q ps b sc gl n cc kV doc pm an cda ct bi
      obtain ⟨a1, h⟩ := ba2 h
      obtain ⟨a2, h⟩ := ba2 h
      obtain ⟨a3, h⟩ := ba2 h
      obtain ⟨a4, h⟩ := ba2 h
      obtain ⟨a5, h⟩ := ba2 h
      obtain ⟨a6, h⟩ := ba2 h
      obtain ⟨a7, a8⟩ := ba2 h
      have a3 := of_decide_eq_true a3
      have a4 := of_decide_eq_true a4
      have a5 := of_decide_eq_true a5
      subst a3 a4 a5
      unfold paramsB at a1
      split at a1
      · rename_i g1 g2
        obtain ⟨b1, b2⟩ := ba2 a1
        unfold scopeB at a6
        obtain ⟨c1, a6⟩ := ba2 a6
        obtain ⟨c2, a6⟩ := ba2 a6
        obtain ⟨c3, a6⟩ := ba2 a6
        obtain ⟨c4, a6⟩ := ba2 a6
        obtain ⟨c5, a6⟩ := ba2 a6
        obtain ⟨c6, a6⟩ := ba2 a6
        obtain ⟨c7, c8⟩ := ba2 a6
        unfold codeB at a7
        obtain ⟨d1, d2⟩ := ba2 a7
        refine ⟨oc, od, osl, nm, q, g1, g2, b, sc, cc, cda, kV, doc, pm, ct, an, lk, of_decide_eq_true b1, of_decide_eq_true b2, initBodyB_ok a2, d1, of_decide_eq_true c1, by simpa using c2, by simpa using c3, of_decide_eq_true c4, of_decide_eq_true c5, of_decide_eq_true c6, of_decide_eq_true c7,
          fun y hy => of_decide_eq_true (List.all_eq_true.mp c8 y hy), ?_, ?_⟩
        · split at d2
          · rename_i ccl cdd vs ccs lkc
            split at d2
            · rename_i file tf hv
              exact ⟨ccl, cdd, vs, ccs, file, tf, lkc, hv, d2⟩
            · cases d2
          · cases d2
        · unfold cellB at a8
          split at a8
          · rename_i cl cld C' csl lkc
            have e := of_decide_eq_true a8
            subst e
            exact ⟨cl, cld, csl, lkc⟩
          · cases a8
      · cases a1
    · cases h
  · cases h
def excB (P : Program) (K : PySem.W.Frag) (C : Addr) (x f : Str) : Bool := oexB K C && (xfB K C && (decide (PySem.W.findIn K (.ref C) f = some none) && ((match PySem.W.findIn K (.ref C) "__init__" with
    | some (some (.ref fI)) => decide (PySem.W.typeIn K (.ref fI) = some (.type "function")) && initFnB P K C fI x f
    | _ => false) && (!(P.main.scope.names.lookup ("super" : Str)).isSome && (decide (PySem.W.nsIn K mainGlobals "super" = some none) && (decide (PySem.W.mroIn K C (.ref C) = some true) &&
  (decide (PySem.W.ks_superIn K C C "__init__" = some (some (.builtin "ValueError.__init__"))) && (decide (PySem.W.subIn K (.ref C) (.type "ValueError") = some true) && (decide (PySem.W.nsIn K cStatics "thirdparty.any" = some none) &&
    PySem.W.excInitIn K C [.type "ValueError", .type "Exception", .type "BaseException", .type "object"] "ValueError.__new__")))))))))
theorem excB_ok {P : Program} {K : PySem.W.Frag} {C : Addr} {x f : Str} (h : excB P K C x f = true) : ExcC P K C x f := by
  unfold excB at h
  obtain ⟨h1, h⟩ := ba2 h
  obtain ⟨h2, h⟩ := ba2 h
  obtain ⟨h3, h⟩ := ba2 h
  obtain ⟨h4, h⟩ := ba2 h
  obtain ⟨h5, h⟩ := ba2 h
  obtain ⟨h6, h⟩ := ba2 h
  obtain ⟨h7, h⟩ := ba2 h
  obtain ⟨h8, h⟩ := ba2 h
  obtain ⟨h9, h⟩ := ba2 h
  obtain ⟨h10, h11⟩ := ba2 h
  refine ⟨oexB_ok h1, xfB_ok h2, of_decide_eq_true h3, ?_, by simpa using h5, of_decide_eq_true h6, of_decide_eq_true h7, of_decide_eq_true h8, of_decide_eq_true h9, of_decide_eq_true h10, h11⟩
  split at h4
  · rename_i fI e
    obtain ⟨b1, b2⟩ := ba2 h4
    exact ⟨fI, e, of_decide_eq_true b1, initFnB_ok b2⟩
  · cases h4
def exmB (K : PySem.W.Frag) (C D : Addr) (b : Bool) : Bool := decide (PySem.W.exmOne K (.ref C) (.ref D) = some b)
theorem exmB_ok {K : PySem.W.Frag} {C D : Addr} {b : Bool} (h : exmB K C D b = true) : PySem.W.exmOne K (.ref C) (.ref D) = some b := of_decide_eq_true h
def obsY (n : Nat) (fa : List He.Fa) (fn : List He.DefD) (ts : List He.Tab) (ex : PySem.W.Frag → Bool) (g : Addr → Option Obj) : He.AlX := (He.obsT fa fn ts (He.frT g (He.asD g n ++ [cStatics])), ex (He.frT g (He.asD g n ++ [cStatics])))
def hookY (n : Nat) (fa : List He.Fa) (fn : List He.DefD) (ts : List He.Tab) (ex : PySem.W.Frag → Bool) : PySem.W.Hook where
  α := He.AlX
  obs := fun s => obsY n fa fn ts ex s.heap.get?
  val := fun w => He.valX fn ts w
  says := fun w h => ∃ K : PySem.W.Frag, K.In h ∧ He.SaysX fa fn ts [] ex w h K
  of := fun w s e => ⟨He.frT s.heap.get? (He.asD s.heap.get? n ++ [cStatics]), He.frT_in, { t := congrArg (fun z : He.AlX => z.1) e, more := congrArg (fun z : He.AlX => z.2) e, hd := fun p hp => by simp at hp, out := fun p hp => by simp at hp, empty := fun p hp => by simp at hp }⟩
  keeps := fun _ _ _ ⟨K, hK, c⟩ k => ⟨K, PySem.W.Frag.In.keeps hK k, ⟨c.t, c.more, c.hd, c.out, fun p hp => k _ _ (c.empty p hp)⟩⟩
end Y

namespace Y
open PySem PySem.Spec PyProof.Rows L2
abbrev gOf (sp : LSpX) : LSp := fun evs h Q => sp evs h Q fun _ _ _ => False
theorem FnX.g {P : Program} {w : World} {K : PySem.W.Frag} {mg : Str → Option Value} {base : Heap} {k : Nat} {f : Addr} {fd : FuncData} {ps : List Str} {sp : LSpX} (Fn : FnX P w K mg base k f fd ps sp) : FnG P w K mg base k f fd ps (gOf sp) := by
  refine ⟨fun evs h Q q => Fn.len _ _ _ _ q, fun A outer s H args us vs Q hr hG e0 hb r q => ?_⟩
  obtain ⟨m, h, evs, Pk, R, re, sq, kq⟩ := q
  refine codeAny_mono (Fn.run A outer s H args us vs Q (fun _ _ _ => False) hr hG e0 hb r ⟨m, h, evs, Pk, _, R, re, sq, kq, fun _ _ _ z => z.elim⟩) fun o s' ho => ?_
  match o, ho with
  | .error er, ⟨_, _, _, _, _, _, _, _, _, _, _, _, z⟩ => exact z.elim
  | .ok (.ret u), ho => exact ho
  | .ok .next, ho => exact ho.elim
  | .ok .brk, ho => exact ho.elim
  | .ok .cont, ho => exact ho.elim
end Y

namespace Y
open PySem PySem.Spec PyProof.Rows L2
def KAbs (K : PySem.W.Frag) (w : World) (a : Addr) (x : Str) : Prop := ∃ es n, K.lookup a = some ⟨.type "dict", none, .dict es n, #[]⟩ ∧ PySem.W.KeysLit w.params es.toList ∧ PySem.W.nsIn K a x = some none
structure KNo (K : PySem.W.Frag) (w : World) (a : Addr) (no : List (List Nat)) : Prop where
  low : (a == sysModules) = false
  miss : ∀ x ∈ no, KAbs K w a (S x)
section
variable {X : Cx}
end
end Y

namespace Y
open PySem PySem.Spec PyProof.Rows L2
theorem subAt_1 (s : Str) (c i : Nat) (hi : i < s.cps.toList.length) : Builtin.Str.subAt s ⟨#[c]⟩ i = decide (s.cps.toList[i] = c) := by
  unfold Builtin.Str.subAt
  have e : s.cps.extract i (i + (⟨#[c]⟩ : Str).length) = #[s.cps.toList[i]] := by
    apply Array.ext'
    have l1 : (⟨#[c]⟩ : Str).length = 1 := rfl
    rw [l1, Array.toList_extract]
    simp only [List.extract_eq_take_drop, Nat.add_sub_cancel_left]
    rw [List.drop_eq_getElem_cons hi]
    rfl
  rw [e]
  show (#[s.cps.toList[i]] == #[c]) = _
  generalize s.cps.toList[i] = d
  by_cases h : d = c
  · subst h; simp
  · have : (#[d] == #[c]) = false := by simpa using h
    rw [this]; simp [h]
def occB (s : Str) (c : Nat) (i : Nat) (x : Array Nat × Nat) : Id (ForInStep (Array Nat × Nat)) :=
  if (decide (x.fst.size < s.length + 1) && decide (x.snd ≤ i) && decide (i + ({ cps := #[c] } : Str).length ≤ s.length) && Builtin.Str.subAt s { cps := #[c] } i) = true then
    pure (ForInStep.yield (x.fst.push i, i + ({ cps := #[c] } : Str).length))
  else pure (ForInStep.yield (x.fst, x.snd))
theorem occ_go (s : Str) (c : Nat) : ∀ (k i : Nat) (x : Array Nat × Nat), i + k = s.length + 1 → x.2 ≤ i → x.1.size ≤ i → ((forIn (m := Id) (List.range' i k) x (occB s c)).run).1.size = x.1.size + (s.cps.toList.drop i).count c
  | 0, i, x, h, h1, h2 => by
    have hl : s.length = s.cps.toList.length := by show s.cps.size = _; simp
    have : s.cps.toList.drop i = [] := List.drop_eq_nil_of_le (by omega)
    rw [this]
    simp
  | k + 1, i, x, h, h1, h2 => by
    have hl : s.length = s.cps.toList.length := by show s.cps.size = _; simp
    have l1 : ({ cps := #[c] } : Str).length = 1 := rfl
    rw [List.range'_succ, List.forIn_cons]
    by_cases hi : i < s.cps.toList.length
    · rw [List.drop_eq_getElem_cons hi, List.count_cons]
      have hs := subAt_1 s c i hi
      by_cases hc : s.cps.toList[i] = c
      · have e : occB s c i x = pure (ForInStep.yield (x.1.push i, i + 1)) := by
          unfold occB
          rw [hs, l1, if_pos]
          simp [hc]
          omega
        rw [e]
        simp only [pure_bind]
        rw [occ_go s c k (i + 1) (x.1.push i, i + 1) (by omega) (Nat.le_refl _) (by simp; omega)]
        simp [hc]
        omega
      · have e : occB s c i x = pure (ForInStep.yield (x.1, x.2)) := by
          unfold occB
          rw [hs, if_neg]
          simp [hc]
          intros
          simpa using hc
        rw [e]
        simp only [pure_bind]
        rw [occ_go s c k (i + 1) (x.1, x.2) (by omega) (by simp; omega) (by simp; omega)]
        simp [hc]
        simpa using hc
    · have e : occB s c i x = pure (ForInStep.yield (x.1, x.2)) := by
        unfold occB
        rw [l1, if_neg]
        simp
        intro _ _ z
        omega
      rw [e]
      simp only [pure_bind]
      rw [occ_go s c k (i + 1) (x.1, x.2) (by omega) (by simp; omega) (by simp; omega)]
      rw [List.drop_eq_nil_of_le (by omega), List.drop_eq_nil_of_le (by omega)]
theorem occ_1 (s : Str) (c : Nat) : (PySem.Builtin.Str.occurrences s ⟨#[c]⟩ 0 s.length (s.length + 1)).length = s.cps.toList.count c := by
  unfold PySem.Builtin.Str.occurrences
  simp only [Std.Legacy.Range.forIn_eq_forIn_range', Std.Legacy.Range.size]
  have := occ_go s c (s.length + 1) 0 (#[], 0) (by omega) (Nat.le_refl _) (Nat.zero_le _)
  simp only [List.drop_zero] at this
  rw [show (s.length + 1 - 0 + 1 - 1) / 1 = s.length + 1 by omega]
  have e2 := this
  simp only [Array.size_empty, Nat.zero_add] at e2
  rw [← e2]
  show (Array.toList _).length = _
  rw [Array.length_toList]
  rfl
def countSE : LM := fun v vs h P => match v, vs with
  | .str s, [.str [c]] => P (.int (s.count c : Nat)) h
  | _, _ => False
theorem count_S (s : List Nat) (c : Nat) : Txt.count (S s) (S [c]) = (s.count c : Nat) := by
  show ((PySem.Builtin.Str.occurrences (S s) ⟨#[c]⟩ 0 (S s).length ((S s).length + 1)).length : Int) = _
  rw [occ_1]
theorem lm_countS {K : PySem.W.Frag} : LMl K "str" (fun x xs H Q => ∃ a b, x = .str a ∧ xs = [.str b] ∧ Q (.int (Txt.count a b)) H) countSE := by
  intro m h H v x vs xs P Q R rx rv q k
  unfold countSE at q
  split at q
  · obtain ⟨y, rfl, ry⟩ := rv.one_inv
    rw [RelE] at rx ry
    subst rx ry
    refine ⟨_, _, rfl, rfl, ?_⟩
    rw [count_S]
    exact k.same R q (by rw [RelE])
  · exact q.elim
end Y

namespace Y
open PySem PySem.Spec PyProof.Rows L2

def BagAt (h : EH) (b : Nat) : Prop := ∃ (c : Nat) (x y z : Int) (ns : List Int), h[b]? = some (.lst [.int x, .int y, .int z, .ref c]) ∧ h[c]? = some (.lst (ns.map EV.int)) ∧ c < b ∧ 0 ≤ x ∧ 0 ≤ y ∧ 0 ≤ z ∧ ns.length ≤ 63 ∧ ∀ n ∈ ns, 0 ≤ n
def is1 (b : Nat) : Nat → Prop := fun r => r = b
def spBag : LSp := fun evs h Q => ∃ ns : List Int, evs = [.ref 0] ∧ h = [.frz (ns.map EV.int)] ∧ ns.length ≤ 63 ∧ ∀ b h', BagAt h' b → Q (.ref b) h'
def spTake : LSp := fun evs h Q => ∃ (b : Nat) (many : Int), evs = [.ref b, .int many] ∧ 0 < many ∧ many < 2 ^ 60 ∧ BagAt h b ∧ ∀ d h', 0 ≤ d → d < many → Keep (is1 b) h h' → BagAt h' b → Q (.int d) h'
def spOne : LSp := fun evs h Q => ∃ (b l : Nat) (xs : List EV), evs = [.ref b, .ref l] ∧ h[l]? = some (.lst xs) ∧ xs ≠ [] ∧ xs.length ≤ sizeLine ∧ l ≠ b ∧ BagAt h b ∧ ∀ x h', x ∈ xs → Keep (is1 b) h h' → BagAt h' b → Q x h'
def spMixed : LSp := fun evs h Q => ∃ (b l : Nat) (xs : List EV), evs = [.ref b, .ref l] ∧ h[l]? = some (.lst xs) ∧ xs.length ≤ 1000000 ∧ l ≠ b ∧ BagAt h b ∧ ∀ r ys h', ys.Perm xs → Keep (is1 b) h h' → h.length ≤ r → h'[r]? = some (.lst ys) → BagAt h' b → Q (.ref r) h'
def spAlike : LSp := fun evs h Q => ∃ (v w : EV) (d : PyData), evs = [v, w] ∧ Dat h 60 v d ∧ Dat h 60 w d ∧ d.showable = true ∧ d.shown.length ≤ sizeLine ∧ Q (.bl true) h
def rdBag : LS :=
    lRet (lLst (lCons (lC (.int 0)) (lCons (lC (.int 1234567891)) (lCons (lC (.int 0)) (lCons (lLc (lIt (lSl (lVar 0) (lPart none) (lPart (some (lC (.int 63)))))) (.nm 1) (lYes) (lCB absE (lCons (lVar 1) (lNil))) [1]) (lNil))))))
def rdTake : LS :=
    lSeq (lIfS (lB (lOp (eqE false) (lOp ixA (lVar 0) (lC (.int 0))) (lC (.int 0))))
      (lSeq (lSet (lOp ixA (lOp addE (lSl (lOp ixA (lVar 0) (lC (.int 3))) (lPart (some (lOp ixA (lVar 0) (lC (.int 2))))) (lPart none)) (lLst (lCons (lC (.int 0)) (lNil)))) (lC (.int 0))) 2) <|
    lSeq (lAugS (fun i j => i + j) (lVar 0) (lC (.int 2)) (lC (.int 1))) <|
    lSeq (lSetA (lVar 0) (lC (.int 0)) (lOp mulE (lVar 2) (lCB intOf (lCons (lOp geE (lVar 2) (lOp powE (lC (.int 10)) (lC (.int 18)))) (lNil))))) <|
    lSeq (lSet (lOp addE (lOp addE (lOp mulE (lOp ixA (lVar 0) (lC (.int 1))) (lC (.int 48271))) (lOp modE (lCB intOf (lCons (lVar 2) (lNil))) (lC (.int 2147483647)))) (lOp mulE (lC (.int 7919)) (lOp ixA (lVar 0) (lC (.int 2))))) 3) <|
    lSetA (lVar 0) (lC (.int 1)) (lOp modE (lCB intOf (lCons (lVar 3) (lNil))) (lC (.int 2147483647))))
      (lNext)) <|
    lSeq (lIfS (lB (lOp gtE (lOp ixA (lVar 0) (lC (.int 0))) (lC (.int 0))))
      (lSeq (lSet (lOp modE (lCB intOf (lCons (lOp ixA (lVar 0) (lC (.int 0))) (lNil))) (lVar 1)) 4) <|
    lSeq (lSetA (lVar 0) (lC (.int 0)) (lOp fdivE (lCB intOf (lCons (lOp ixA (lVar 0) (lC (.int 0))) (lNil))) (lVar 1))) <|
    lRet (lVar 4))
      (lNext)) <|
    lSeq (lSet (lOp modE (lCB intOf (lCons (lOp mulE (lOp addE (lOp ixA (lVar 0) (lC (.int 1))) (lC (.int 1))) (lC (.int 39373))) (lNil))) (lC (.int 1000000007))) 5) <|
    lSeq (lSet (lOp modE (lCB intOf (lCons (lOp mulE (lOp modE (lCB intOf (lCons (lOp mulE (lVar 5) (lVar 5)) (lNil))) (lC (.int 998244353))) (lC (.int 30011))) (lNil))) (lC (.int 998244353))) 6) <|
    lRet (lOp modE (lCB intOf (lCons (lOp fdivE (lVar 6) (lC (.int 7))) (lNil))) (lVar 1))
def rdOne : LS :=
    lRet (lOp ixA (lVar 1) (lCall spTake (lCons (lVar 0) (lCons (lCB lenE (lCons (lVar 1) (lNil))) (lNil)))))
def rdMixed : LS :=
    lSeq (lSet (lLst (lNil)) 2) <|
    lSeq (lFor (lIt (lVar 1)) (.nm 3)
      (lDrop (lBM "list" insertE (lVar 2) (lCons (lCall spTake (lCons (lVar 0) (lCons (lOp addE (lCB lenE (lCons (lVar 2) (lNil))) (lC (.int 1))) (lNil)))) (lCons (lVar 3) (lNil)))))) <|
    lRet (lVar 2)
def rdAlike : LS :=
    lRet (lAndV (lOp (eqE false) (lVar 0) (lVar 1)) (lOp (eqE false) (lCB reprE (lCons (lVar 0) (lNil))) (lCB reprE (lCons (lVar 1) (lNil)))))
theorem pureBag (evs : List EV) (h : EH) (Q : EK) (q : spBag evs h Q) : rdBag (endsOf Q) (startE ["_law_script", "_law_cell"] evs) h := by
  obtain ⟨ns, rfl, rfl, hl, q⟩ := q
  show rdBag (endsOf Q) [some (.ref 0), none] [.frz (ns.map EV.int)]
  simp only [rdBag, lSeq, lSet, lRet, lRetN, lDrop, lIfS, lOp, lVar, lC, lB, lT, lAnd, lOr, lNot, lIf, lAndV, lOrV, lNotV, lNil, lCons, lTup, lLst, lCB, lBM, lSl, lPart, lNext, lFor, lIt, lRng1, lRng2, lAsg, lPar, lSetI, lSetA, lAugS, lLc, lZip, lNeg, lCall, lChain, List.getElem?_cons_zero, List.getElem?_cons_succ, List.set_cons_zero, List.set_cons_succ, truE, wipeE, intP, intE, slE]
  have ec : cut (ns.map EV.int) none (some 63) = ns.map EV.int := by
    rw [show (63 : Int) = ((63 : Nat) : Int) from rfl, cut_to, List.take_of_length_le (by simpa using hl)]
  rw [ec]
  simp only [List.length_cons, List.length_nil, List.getElem?_append_right, Nat.le_refl, Nat.sub_self, List.getElem?_cons_zero, Nat.zero_add]
  refine lc_map (fun v => match v with
    | .int i => EV.int (i.natAbs : Int)
    | _ => .non) _ ?_ (fun acc => by simp) (fun x hx acc ky hy => ?_) ?_
  · rw [List.length_map, sizeL]; omega
  · obtain ⟨c, hc, rfl⟩ := List.mem_map.mp hx
    simp only [lBind, Pat.bind, lSeq, lSet, lRet, lRetN, lDrop, lIfS, lOp, lVar, lC, lB, lT, lAnd, lOr, lNot, lIf, lAndV, lOrV, lNotV, lNil, lCons, lTup, lLst, lCB, lBM, lSl, lPart, lNext, lFor, lIt, lRng1, lRng2, lAsg, lPar, lSetI, lSetA, lAugS, lLc, lZip, lNeg, lCall, lChain, List.getElem?_cons_zero, List.getElem?_cons_succ, List.set_cons_zero, List.set_cons_succ, truE, wipeE, intP, intE, absE]
    exact hy
  · rw [sizeL]
    refine ⟨by decide, ?_⟩
    refine q _ _ ⟨2, 0, 1234567891, 0, ns.map fun i => (i.natAbs : Int), ?_, ?_, ?_, by decide, by decide, by decide, ?_, ?_⟩
    · simp
    · simp
    · simp
    · simpa using hl
    · intro n hn
      obtain ⟨i, _, rfl⟩ := List.mem_map.mp hn
      omega
theorem lenBag (evs : List EV) (h : EH) (Q : EK) (q : spBag evs h Q) : evs.length = ["_law_script"].length := by
  obtain ⟨_, rfl, _⟩ := q; rfl
theorem take_end {b : Nat} {many : Int} {x y z : Int} {c : Nat} {ns : List Int} {Q : EK} {h h0 : EH} (hm : 0 < many) (hm2 : many < 2 ^ 60) (k0 : Keep (is1 b) h0 h)
    (e1 : h[b]? = some (.lst [.int x, .int y, .int z, .ref c])) (e2 : h[c]? = some (.lst (ns.map EV.int))) (hcb : c < b) (hx : 0 ≤ x) (hy : 0 ≤ y) (hz : 0 ≤ z) (hnl : ns.length ≤ 63) (hn : ∀ n ∈ ns, 0 ≤ n)
    (q : ∀ d h', 0 ≤ d → d < many → Keep (is1 b) h0 h' → BagAt h' b → Q (.int d) h') {env : En} (he : env.length = 7) (h0 : env[0]? = some (some (.ref b))) (h1 : env[1]? = some (some (.int many))) :
    (lSeq (lIfS (lB (lOp gtE (lOp ixA (lVar 0) (lC (.int 0))) (lC (.int 0))))
      (lSeq (lSet (lOp modE (lCB intOf (lCons (lOp ixA (lVar 0) (lC (.int 0))) (lNil))) (lVar 1)) 4) <|
    lSeq (lSetA (lVar 0) (lC (.int 0)) (lOp fdivE (lCB intOf (lCons (lOp ixA (lVar 0) (lC (.int 0))) (lNil))) (lVar 1))) <|
    lRet (lVar 4))
      (lNext)) <|
    lSeq (lSet (lOp modE (lCB intOf (lCons (lOp mulE (lOp addE (lOp ixA (lVar 0) (lC (.int 1))) (lC (.int 1))) (lC (.int 39373))) (lNil))) (lC (.int 1000000007))) 5) <|
    lSeq (lSet (lOp modE (lCB intOf (lCons (lOp mulE (lOp modE (lCB intOf (lCons (lOp mulE (lVar 5) (lVar 5)) (lNil))) (lC (.int 998244353))) (lC (.int 30011))) (lNil))) (lC (.int 998244353))) 6) <|
    lRet (lOp modE (lCB intOf (lCons (lOp fdivE (lVar 6) (lC (.int 7))) (lNil))) (lVar 1))) (endsOf Q) env h := by
  obtain ⟨g0, g1, g2, g3, g4, g5, g6, rfl⟩ : ∃ a b c d e f g, env = [a, b, c, d, e, f, g] := by
    match env, he with
    | [a, b, c, d, e, f, g], _ => exact ⟨a, b, c, d, e, f, g, rfl⟩
  simp only [List.getElem?_cons_zero, List.getElem?_cons_succ, Option.some.injEq] at h0 h1
  subst h0 h1
  simp only [lSeq, lSet, lRet, lRetN, lDrop, lIfS, lOp, lVar, lC, lB, lT, lAnd, lOr, lNot, lIf, lAndV, lOrV, lNotV, lNil, lCons, lTup, lLst, lCB, lBM, lSl, lPart, lNext, lFor, lIt, lRng1, lRng2, lAsg, lPar, lSetI, lSetA, lAugS, lLc, lZip, lNeg, lCall, lChain, List.getElem?_cons_zero, List.getElem?_cons_succ, List.set_cons_zero, List.set_cons_succ, truE, wipeE, intP, intE]
  refine ia_l e1 at0 ?_
  show if decide (0 < x) = true then _ else _
  split
  · refine ia_l e1 at0 ?_
    refine int_i ?_
    refine mod_i hm ?_
    refine ia_l e1 at0 ?_
    refine int_i ?_
    refine div_i hm (by omega) ?_
    refine sa_l e1 (k := 0) rfl ?_
    refine q _ _ (Int.emod_nonneg _ (by omega)) (Int.emod_lt_of_pos _ hm) (k0.trans (Keep.set rfl)) ?_
    exact ⟨c, x / many, y, z, ns, set_at e1, set_off e2 (Nat.ne_of_lt hcb), hcb, Int.ediv_nonneg hx (by omega), hy, hz, hnl, hn⟩
  · refine ia_l e1 at1 ?_
    refine add_i ?_
    refine mul_i (mulOk_r (by decide)) ?_
    refine int_i ?_
    refine mod_i (by decide) ?_
    generalize hE : (y + 1) * 39373 % 1000000007 = E
    have b1 : 0 ≤ E := by rw [← hE]; exact Int.emod_nonneg _ (by decide)
    have b2 : E < 1000000007 := by rw [← hE]; exact Int.emod_lt_of_pos _ (by decide)
    refine mul_i (mulOk_r (by omega)) ?_
    refine int_i ?_
    refine mod_i (by decide) ?_
    refine mul_i (mulOk_r (by decide)) ?_
    refine int_i ?_
    refine mod_i (by decide) ?_
    refine div_i (by decide) (by decide) ?_
    refine int_i ?_
    refine mod_i hm ?_
    exact q _ _ (Int.emod_nonneg _ (by omega)) (Int.emod_lt_of_pos _ hm) k0 ⟨c, x, y, z, ns, e1, e2, hcb, hx, hy, hz, hnl, hn⟩
theorem pureTake (evs : List EV) (h : EH) (Q : EK) (q : spTake evs h Q) : rdTake (endsOf Q) (startE ["_law_bag_here", "_law_many", "_law_cell", "_law_mixed_here", "_law_drawn", "_law_early", "_law_second"] evs) h := by
  obtain ⟨b, many, rfl, hm, hm2, ⟨c, x, y, z, ns, e1, e2, hcb, hx, hy, hz, hnl, hn⟩, q⟩ := q
  show rdTake (endsOf Q) [some (.ref b), some (.int many), none, none, none, none, none] h
  unfold rdTake
  rw [lSeq, lIfS]
  simp only [lB, lOp, lVar, lC, List.getElem?_cons_zero, List.getElem?_cons_succ]
  refine ia_l e1 at0 ?_
  refine eq_i ?_
  dsimp only
  split
  · simp only [lSeq, lSet, lAugS, lSetA, lOp, lVar, lC, lSl, lPart, lLst, lCons, lNil, lCB, List.getElem?_cons_zero, List.getElem?_cons_succ, List.set_cons_zero, List.set_cons_succ]
    refine ia_l e1 at3 ?_
    refine ia_l e1 at2 ?_
    refine sl_l e2 ?_
    refine ⟨by rw [sizeL]; decide, ?_⟩
    obtain ⟨zn, rfl⟩ := Int.eq_ofNat_of_zero_le hz
    rw [cut_from]
    have g1 : (h ++ [EO.lst ((ns.map EV.int).drop zn)] ++ [.lst [.int 0]])[h.length]? = some (.lst ((ns.map EV.int).drop zn)) := by simp
    have g2 : (h ++ [EO.lst ((ns.map EV.int).drop zn)] ++ [.lst [.int 0]])[(h ++ [EO.lst ((ns.map EV.int).drop zn)]).length]? = some (.lst [.int 0]) := new_at
    refine add_l g1 g2 ?_ ?_
    · simp only [List.length_drop, List.length_map, List.length_singleton]
      rw [sizeL]; omega
    obtain ⟨v, vs, hv0, hv⟩ : ∃ (v : Int) (vs : List EV), 0 ≤ v ∧ (ns.map EV.int).drop zn ++ [.int 0] = .int v :: vs := by
      cases hd : ns.drop zn with
      | nil => exact ⟨0, [], by decide, by rw [← List.map_drop, hd]; rfl⟩
      | cons n r => exact ⟨n, r.map EV.int ++ [.int 0], hn n (List.mem_of_mem_drop (i := zn) (by rw [hd]; exact List.mem_cons_self)), by rw [← List.map_drop, hd]; rfl⟩
    rw [hv]
    refine ia_l new_at at0 ?_
    generalize hg : h ++ [EO.lst ((ns.map EV.int).drop zn)] ++ [.lst [.int 0]] ++ [.lst (.int v :: vs)] = hA
    have kA : Keep (is1 b) h hA := by
      rw [← hg, List.append_assoc, List.append_assoc]; exact Keep.app _
    have a1 : hA[b]? = some (.lst [.int x, .int y, .int zn, .ref c]) := by
      rw [← hg]; exact app_at (app_at (app_at e1 _) _) _
    have a2 : hA[c]? = some (.lst (ns.map EV.int)) := kA.2 _ _ e2 (Nat.ne_of_lt hcb)
    clear hg g1 g2
    refine get_l a1 (by decide) rfl ?_
    dsimp only
    refine set_l a1 (k := 2) rfl ?_
    simp only [List.set_cons_zero, List.set_cons_succ]
    have b1 := set_at (o := EO.lst ([.int x, .int y, .int (zn + 1), .ref c] : List EV)) a1
    have b2 := set_off (o := EO.lst ([.int x, .int y, .int (zn + 1), .ref c] : List EV)) a2 (Nat.ne_of_lt hcb)
    have kB := kA.trans (Keep.set (o := EO.lst ([.int x, .int y, .int (zn + 1), .ref c] : List EV)) (show is1 b b from rfl))
    generalize hA.set b (.lst ([.int x, .int y, .int (zn + 1), .ref c] : List EV)) = hB at b1 b2 kB ⊢
    refine pow_i (by unfold CPow; decide) ?_
    refine ge_i ?_
    refine int_b ?_
    refine mul_i (mulOk_r (by split <;> decide)) ?_
    have hx' : 0 ≤ v * (if decide ((10 : Int) ^ Int.toNat 18 ≤ v) = true then 1 else 0) := by
      split <;> omega
    generalize v * (if decide ((10 : Int) ^ Int.toNat 18 ≤ v) = true then (1 : Int) else 0) = x' at hx' ⊢
    refine sa_l b1 (k := 0) rfl ?_
    simp only [List.set_cons_zero, List.set_cons_succ]
    have c1 := set_at (o := EO.lst ([.int x', .int y, .int (zn + 1), .ref c] : List EV)) b1
    have c2 := set_off (o := EO.lst ([.int x', .int y, .int (zn + 1), .ref c] : List EV)) b2 (Nat.ne_of_lt hcb)
    have kC := kB.trans (Keep.set (o := EO.lst ([.int x', .int y, .int (zn + 1), .ref c] : List EV)) (show is1 b b from rfl))
    generalize hB.set b (.lst ([.int x', .int y, .int (zn + 1), .ref c] : List EV)) = hC at c1 c2 kC ⊢
    refine ia_l c1 at1 ?_
    refine mul_i (mulOk_r (by decide)) ?_
    refine int_i ?_
    refine mod_i (by decide) ?_
    refine add_i ?_
    refine ia_l c1 at2 ?_
    refine mul_i (mulOk_l (by decide)) ?_
    refine add_i ?_
    refine int_i ?_
    refine mod_i (by decide) ?_
    have hy' : 0 ≤ (y * 48271 + v % 2147483647 + 7919 * ((zn : Int) + 1)) % 2147483647 := Int.emod_nonneg _ (by decide)
    generalize (y * 48271 + v % 2147483647 + 7919 * ((zn : Int) + 1)) % 2147483647 = y' at hy' ⊢
    refine sa_l c1 (k := 1) rfl ?_
    simp only [List.set_cons_zero, List.set_cons_succ]
    have d1 := set_at (o := EO.lst ([.int x', .int y', .int (zn + 1), .ref c] : List EV)) c1
    have d2 := set_off (o := EO.lst ([.int x', .int y', .int (zn + 1), .ref c] : List EV)) c2 (Nat.ne_of_lt hcb)
    have kD := kC.trans (Keep.set (o := EO.lst ([.int x', .int y', .int (zn + 1), .ref c] : List EV)) (show is1 b b from rfl))
    exact take_end (env := [some (.ref b), some (.int many), some (.int v), some _, none, none, none]) hm hm2 kD d1 d2 hcb hx' hy' (by omega) hnl hn q rfl rfl rfl
  · exact take_end (env := [some (.ref b), some (.int many), none, none, none, none, none]) hm hm2 .refl e1 e2 hcb hx hy hz hnl hn q rfl rfl rfl
theorem lenTake (evs : List EV) (h : EH) (Q : EK) (q : spTake evs h Q) : evs.length = ["_law_bag_here", "_law_many"].length := by
  obtain ⟨_, _, rfl, _⟩ := q; rfl
theorem Keep.other {b l : Nat} {h h' : EH} {o : EO} (k : Keep (is1 b) h h') (e : h[l]? = some o) (n : l ≠ b) : h'[l]? = some o := k.2 _ _ e n
theorem pureOne (evs : List EV) (h : EH) (Q : EK) (q : spOne evs h Q) : rdOne (endsOf Q) (startE ["_law_bag_here", "_law_some"] evs) h := by
  obtain ⟨b, l, xs, rfl, e, hne, hl, hlb, B, q⟩ := q
  show rdOne (endsOf Q) [some (.ref b), some (.ref l)] h
  simp only [rdOne, lSeq, lSet, lRet, lRetN, lDrop, lIfS, lOp, lVar, lC, lB, lT, lAnd, lOr, lNot, lIf, lAndV, lOrV, lNotV, lNil, lCons, lTup, lLst, lCB, lBM, lSl, lPart, lNext, lFor, lIt, lRng1, lRng2, lAsg, lPar, lSetI, lSetA, lAugS, lLc, lZip, lNeg, lCall, lChain, List.getElem?_cons_zero, List.getElem?_cons_succ, List.set_cons_zero, List.set_cons_succ, truE, wipeE, intP, intE]
  refine len_l e ?_
  have hp : 0 < xs.length := List.length_pos_iff.mpr hne
  refine ⟨b, xs.length, rfl, by omega, by rw [sizeL] at hl; omega, B, fun d h1 d0 d1 k1 B1 => ?_⟩
  obtain ⟨n, rfl⟩ := Int.eq_ofNat_of_zero_le d0
  have hn : n < xs.length := by omega
  refine ia_l (k1.other e hlb) (L2.atI_nat (List.getElem?_eq_getElem hn)) ?_
  exact q _ _ (List.getElem_mem hn) k1 B1
theorem lenOne (evs : List EV) (h : EH) (Q : EK) (q : spOne evs h Q) : evs.length = ["_law_bag_here", "_law_some"].length := by
  obtain ⟨_, _, _, rfl, _⟩ := q; rfl
theorem BagAt.keep {h h' : EH} {b : Nat} (B : BagAt h b) (k : Keep no1 h h') : BagAt h' b := by
  obtain ⟨c, x, y, z, ns, e1, e2, r⟩ := B
  exact ⟨c, x, y, z, ns, k.at e1, k.at e2, r⟩
theorem BagAt.lt {h : EH} {b : Nat} (B : BagAt h b) : b < h.length := by
  obtain ⟨c, x, y, z, ns, e1, _⟩ := B
  exact lt_of_at e1
theorem BagAt.set {h : EH} {b r : Nat} {o : EO} (B : BagAt h b) (n : b < r) : BagAt (h.set r o) b := by
  obtain ⟨c, x, y, z, ns, e1, e2, l, r'⟩ := B
  exact ⟨c, x, y, z, ns, set_off e1 (Nat.ne_of_lt n), set_off e2 (Nat.ne_of_lt (Nat.lt_trans l n)), l, r'⟩
theorem pureMixed (evs : List EV) (h : EH) (Q : EK) (q : spMixed evs h Q) : rdMixed (endsOf Q) (startE ["_law_bag_here", "_law_things", "_law_found", "_law_thing"] evs) h := by
  obtain ⟨b, l, xs, rfl, e, hl, hlb, B, q⟩ := q
  show rdMixed (endsOf Q) [some (.ref b), some (.ref l), none, none] h
  simp only [rdMixed, lSeq, lSet, lRet, lRetN, lDrop, lIfS, lOp, lVar, lC, lB, lT, lAnd, lOr, lNot, lIf, lAndV, lOrV, lNotV, lNil, lCons, lTup, lLst, lCB, lBM, lSl, lPart, lNext, lFor, lIt, lRng1, lRng2, lAsg, lPar, lSetI, lSetA, lAugS, lLc, lZip, lNeg, lCall, lChain, List.getElem?_cons_zero, List.getElem?_cons_succ, List.set_cons_zero, List.set_cons_succ, truE, wipeE, intP, intE, List.length_nil]
  refine ⟨by rw [sizeL]; decide, ?_⟩
  have hlt := lt_of_at e
  have hbt := B.lt
  rw [app_at e]
  refine loop_ind (fun left env h' => ∃ (done acc : List EV) (x : Option EV), xs = done ++ left ∧ acc.Perm done ∧ env = [some (.ref b), some (.ref l), some (.ref h.length), x] ∧ Keep (is1 b) h h' ∧ h'[h.length]? = some (.lst acc) ∧ BagAt h' b) ?_ ?_ _ _ _ ⟨[], [], none, rfl, .refl _, rfl, Keep.app _, new_at, B.keep (Keep.app _)⟩
  · rintro env h' ⟨done, acc, x, rfl, p, rfl, k, e', B'⟩
    refine ⟨k.other e hlb, ?_⟩
    simp only [lSeq, lSet, lRet, lRetN, lDrop, lIfS, lOp, lVar, lC, lB, lT, lAnd, lOr, lNot, lIf, lAndV, lOrV, lNotV, lNil, lCons, lTup, lLst, lCB, lBM, lSl, lPart, lNext, lFor, lIt, lRng1, lRng2, lAsg, lPar, lSetI, lSetA, lAugS, lLc, lZip, lNeg, lCall, lChain, List.getElem?_cons_zero, List.getElem?_cons_succ, List.set_cons_zero, List.set_cons_succ, truE, wipeE, intP, intE]
    exact q _ _ _ (by simpa using p) k (Nat.le_refl _) e' B'
  · rintro x left env h' kk ⟨done, acc, x0, rfl, p, rfl, k, e', B'⟩ hk
    refine ⟨k.other e hlb, ?_⟩
    simp only [lBind, Pat.bind, lSeq, lSet, lRet, lRetN, lDrop, lIfS, lOp, lVar, lC, lB, lT, lAnd, lOr, lNot, lIf, lAndV, lOrV, lNotV, lNil, lCons, lTup, lLst, lCB, lBM, lSl, lPart, lNext, lFor, lIt, lRng1, lRng2, lAsg, lPar, lSetI, lSetA, lAugS, lLc, lZip, lNeg, lCall, lChain, List.getElem?_cons_zero, List.getElem?_cons_succ, List.set_cons_zero, List.set_cons_succ, truE, wipeE, intP, intE, isTy, e']
    refine ⟨trivial, ?_⟩
    refine len_l e' ?_
    refine add_i ?_
    have hz : acc.length = done.length := p.length_eq
    simp only [List.length_append, List.length_cons] at hl
    refine ⟨b, acc.length + 1, rfl, by omega, by omega, B', fun d h1 d0 d1 k1 B1 => ?_⟩
    have hne : h.length ≠ b := by omega
    have e1 := k1.other e' hne
    refine ins_e e1 (by rw [sizeL]; omega) d0 (by omega) ?_
    refine hk _ _ ⟨done ++ [x], _, some x, by simp, ?_, rfl, ?_, set_at e1, ?_⟩
    · have p1 : (List.take d.toNat acc ++ [x] ++ List.drop d.toNat acc).Perm (x :: acc) := by
        have e3 : List.take d.toNat acc ++ [x] ++ List.drop d.toNat acc = List.take d.toNat acc ++ x :: List.drop d.toNat acc := by simp
        rw [e3]
        exact List.perm_middle.trans (by rw [List.take_append_drop])
      refine p1.trans ((p.cons x).trans ?_)
      exact (List.perm_append_singleton x done).symm
    · exact (k.trans k1).fresh (Nat.le_refl _)
    · exact B1.set hbt
theorem lenMixed (evs : List EV) (h : EH) (Q : EK) (q : spMixed evs h Q) : evs.length = ["_law_bag_here", "_law_things"].length := by
  obtain ⟨_, _, _, rfl, _⟩ := q; rfl
theorem pureAlike (evs : List EV) (h : EH) (Q : EK) (q : spAlike evs h Q) : rdAlike (endsOf Q) (startE ["_law_found", "_law_due"] evs) h := by
  obtain ⟨v, w, d, rfl, a', b', sd, zd, q⟩ := q
  show rdAlike (endsOf Q) [some v, some w] h
  simp only [rdAlike, lSeq, lSet, lRet, lRetN, lDrop, lIfS, lOp, lVar, lC, lB, lT, lAnd, lOr, lNot, lIf, lAndV, lOrV, lNotV, lNil, lCons, lTup, lLst, lCB, lBM, lSl, lPart, lNext, lFor, lIt, lRng1, lRng2, lAsg, lPar, lSetI, lSetA, lAugS, lLc, lZip, lNeg, lCall, lChain, List.getElem?_cons_zero, List.getElem?_cons_succ, List.set_cons_zero, List.set_cons_succ, truE, wipeE, intP, intE]
  refine eqE_same a' b' ?_
  simp only [if_true]
  refine ⟨d, a', sd, zd, ?_⟩
  refine ⟨d, b', sd, zd, ?_⟩
  refine eq_s ?_
  simpa using q
theorem lenAlike (evs : List EV) (h : EH) (Q : EK) (q : spAlike evs h Q) : evs.length = ["_law_found", "_law_due"].length := by
  obtain ⟨_, _, _, rfl, _⟩ := q; rfl
end Y

namespace Y
open PySem PySem.Spec PyProof.Rows L2

def rdAlpha : LS :=
    lRet (lSl (lCall spMixed (lCons (lVar 0) (lCons (lLst (lCons (lC (.int 0)) (lCons (lC (.int 1)) (lCons (lC (.int 2)) (lCons (lC (.int 3)) (lCons (lC (.int 48)) (lCons (lC (.int 999999999)) (lCons (lOp powE (lC (.int 10)) (lC (.int 9))) (lNil))))))))) (lNil)))) (lPart none) (lPart (some (lCall spOne (lCons (lVar 0) (lCons (lLst (lCons (lC (.int 2)) (lCons (lC (.int 3)) (lCons (lC (.int 2)) (lCons (lC (.int 1)) (lCons (lC (.int 4)) (lNil))))))) (lNil)))))))
def rdText : LS :=
    lRet (lCB tupleOf (lCons (lLc (lRng1 (lCons (lCall spTake (lCons (lVar 0) (lCons (lOp addE (lVar 2) (lC (.int 1))) (lNil)))) (lNil))) (.nm 3) (lYes) (lCall spOne (lCons (lVar 0) (lCons (lVar 1) (lNil)))) [3]) (lNil)))
def rdFull : LS :=
    lRet (lCB tupleOf (lCons (lLc (lRng1 (lCons (lVar 2) (lNil))) (.nm 3) (lYes) (lCall spOne (lCons (lVar 0) (lCons (lVar 1) (lNil)))) [3]) (lNil)))
def spAlpha : LSp := fun evs h Q => ∃ b : Nat, evs = [.ref b] ∧ BagAt h b ∧ ∀ (r : Nat) (ns : List Int) (h' : EH), ns.Nodup → 0 < ns.length → ns.length ≤ 4 → (∀ n ∈ ns, 0 ≤ n ∧ n ≤ 1000000000) → Keep (is1 b) h h' → h.length ≤ r → h'[r]? = some (.lst (ns.map EV.int)) → BagAt h' b → Q (.ref r) h'
def spFull : LSp := fun evs h Q => ∃ (b l size : Nat) (ns : List Int), evs = [.ref b, .ref l, .int size] ∧ h[l]? = some (.lst (ns.map EV.int)) ∧ ns ≠ [] ∧ ns.length ≤ 1000 ∧ l ≠ b ∧ size ≤ 1000000 ∧ BagAt h b ∧
  ∀ (ms : List Int) (h' : EH), ms.length = size → (∀ m ∈ ms, m ∈ ns) → Keep (is1 b) h h' → BagAt h' b → Q (.tup (ms.map EV.int)) h'
def spText : LSp := fun evs h Q => ∃ (b l most : Nat) (ns : List Int), evs = [.ref b, .ref l, .int most] ∧ h[l]? = some (.lst (ns.map EV.int)) ∧ ns ≠ [] ∧ ns.length ≤ 1000 ∧ l ≠ b ∧ most ≤ 1000000 ∧ BagAt h b ∧
  ∀ (ms : List Int) (h' : EH), ms.length ≤ most → (∀ m ∈ ms, m ∈ ns) → Keep (is1 b) h h' → BagAt h' b → Q (.tup (ms.map EV.int)) h'
theorem pureAlpha (evs : List EV) (h : EH) (Q : EK) (q : spAlpha evs h Q) : rdAlpha (endsOf Q) (startE ["_law_bag_here"] evs) h := by
  obtain ⟨b, rfl, B, q⟩ := q
  show rdAlpha (endsOf Q) [some (.ref b)] h
  simp only [rdAlpha, lSeq, lSet, lRet, lRetN, lDrop, lIfS, lOp, lVar, lC, lB, lT, lAnd, lOr, lNot, lIf, lAndV, lOrV, lNotV, lNil, lCons, lTup, lLst, lCB, lBM, lSl, lPart, lNext, lFor, lIt, lRng1, lRng2, lAsg, lPar, lSetI, lSetA, lAugS, lLc, lZip, lNeg, lCall, lChain, List.getElem?_cons_zero, List.getElem?_cons_succ, List.set_cons_zero, List.set_cons_succ, wipeE, intP, intE]
  refine ⟨by unfold CPow; decide, by simp [sizeL], ?_⟩
  have hb := B.lt
  have eM : [EV.int 0, EV.int 1, EV.int 2, EV.int 3, EV.int 48, EV.int 999999999, EV.int (10 ^ Int.toNat 9)] = ([0, 1, 2, 3, 48, 999999999, 1000000000] : List Int).map EV.int := by simp
  rw [eM]
  refine ⟨b, _, _, rfl, new_at, by simp, Nat.ne_of_gt hb, B.keep (Keep.app _), fun r ys h1 pm k1 g1 e1 B1 => ?_⟩
  refine ⟨by simp [sizeL], ?_⟩
  refine ⟨b, _, _, rfl, new_at, by simp, by simp [sizeL], Nat.ne_of_gt B1.lt, B1.keep (Keep.app _), fun x h2 hx k2 B2 => ?_⟩
  obtain ⟨zs, rfl, pz⟩ : ∃ zs : List Int, ys = zs.map EV.int ∧ zs.Perm [0, 1, 2, 3, 48, 999999999, 1000000000] := by
    have key : ∀ (ys : List EV) (l : List Int), ys.Perm (l.map EV.int) → ∃ zs : List Int, ys = zs.map EV.int ∧ zs.Perm l := by
      intro ys l hp
      have hs : ∀ y ∈ ys, ∃ i, y = EV.int i := fun y hy => by
        obtain ⟨i, _, rfl⟩ := List.mem_map.mp (hp.mem_iff.mp hy)
        exact ⟨i, rfl⟩
      let f : EV → Int := fun v => match v with
        | .int i => i
        | _ => 0
      refine ⟨ys.map f, ?_, ?_⟩
      · rw [List.map_map]
        conv => lhs; rw [← List.map_id ys]
        refine List.map_congr_left fun y hy => ?_
        obtain ⟨i, rfl⟩ := hs y hy
        rfl
      · have := hp.map f
        rw [List.map_map] at this
        rw [show l.map (f ∘ EV.int) = l from by
          conv => rhs; rw [← List.map_id l]
          rfl] at this
        exact this
    exact key _ _ pm
  obtain ⟨m, rfl, m1, m2⟩ : ∃ m : Nat, x = .int m ∧ 0 < m ∧ m ≤ 4 := by
    simp only [List.mem_cons, List.not_mem_nil, or_false] at hx
    rcases hx with rfl | rfl | rfl | rfl | rfl
    · exact ⟨2, rfl, by decide, by decide⟩
    · exact ⟨3, rfl, by decide, by decide⟩
    · exact ⟨2, rfl, by decide, by decide⟩
    · exact ⟨1, rfl, by decide, by decide⟩
    · exact ⟨4, rfl, by decide, by decide⟩
  simp only []
  have g2 : h.length + 1 ≤ r := by simpa using g1
  have e2 := k2.other (app_at e1 _) (show r ≠ b by omega)
  refine sl_l e2 ?_
  rw [cut_to, ← List.map_take]
  have lz : zs.length = 7 := by rw [pz.length_eq]; rfl
  have kk : Keep (is1 b) h h2 := ((Keep.app _).trans k1).trans ((Keep.app _).trans k2)
  refine q _ _ _ ?_ ?_ ?_ (fun n hn => ?_) (kk.trans (Keep.app _)) kk.1 new_at (B2.keep (Keep.app _))
  · exact ((pz.nodup_iff).mpr (by decide)).sublist (List.take_sublist _ _)
  · rw [List.length_take]; omega
  · rw [List.length_take]; omega
  · have := pz.mem_iff.mp (List.mem_of_mem_take hn)
    simp only [List.mem_cons, List.not_mem_nil, or_false] at this
    omega
theorem pureFull (evs : List EV) (h : EH) (Q : EK) (q : spFull evs h Q) : rdFull (endsOf Q) (startE ["_law_bag_here", "_law_letters", "_law_size", "_law_k"] evs) h := by
  obtain ⟨b, l, size, ns, rfl, e, ne, nl, hlb, hs, B, q⟩ := q
  show rdFull (endsOf Q) [some (.ref b), some (.ref l), some (.int size), none] h
  simp only [rdFull, lSeq, lSet, lRet, lRetN, lDrop, lIfS, lOp, lVar, lC, lB, lT, lAnd, lOr, lNot, lIf, lAndV, lOrV, lNotV, lNil, lCons, lTup, lLst, lCB, lBM, lSl, lPart, lNext, lFor, lIt, lRng1, lRng2, lAsg, lPar, lSetI, lSetA, lAugS, lLc, lZip, lNeg, lCall, lChain, List.getElem?_cons_zero, List.getElem?_cons_succ, List.set_cons_zero, List.set_cons_succ, wipeE, intP, intE]
  refine ⟨⟨by omega, by omega⟩, ?_⟩
  have hb := B.lt
  have hl := lt_of_at e
  refine lc_ind (fun left acc h' => ∃ ms : List Int, acc = ms.map EV.int ∧ (∀ m ∈ ms, m ∈ ns) ∧ ms.length + left.length = size ∧ Keep (is1 b) h h' ∧ BagAt h' b ∧ ∀ v ∈ left, ∃ i : Int, v = .int i) ?_ ?_ _ [] _ new_at ⟨[], rfl, fun c hc => by simp at hc, by simp [rangeL], Keep.app _, B.keep (Keep.app _), ?_⟩
  · rintro acc h4 ⟨ms, rfl, hm, hl4, k4, B4, _⟩ e4
    refine ⟨trivial, ?_⟩
    simp only [tupleOf, e4]
    exact q _ _ (by simpa using hl4) hm k4 B4
  · rintro x left acc h4 ky kn ⟨ms, rfl, hm, hl4, k4, B4, hle⟩ e4 hky _
    obtain ⟨xi, rfl⟩ := hle x (by simp)
    refine ⟨trivial, bind_nm ?_⟩
    simp only [lYes, lSeq, lSet, lRet, lRetN, lDrop, lIfS, lOp, lVar, lC, lB, lT, lAnd, lOr, lNot, lIf, lAndV, lOrV, lNotV, lNil, lCons, lTup, lLst, lCB, lBM, lSl, lPart, lNext, lFor, lIt, lRng1, lRng2, lAsg, lPar, lSetI, lSetA, lAugS, lLc, lZip, lNeg, lCall, lChain, List.getElem?_cons_zero, List.getElem?_cons_succ, List.set_cons_zero, List.set_cons_succ, wipeE, intP, intE, if_true]
    refine ⟨b, l, _, rfl, k4.other e hlb, by simpa using ne, by rw [List.length_map, sizeL]; omega, hlb, B4, fun y h5 hy k5 B5 => ?_⟩
    obtain ⟨c, hc, rfl⟩ := List.mem_map.mp hy
    have hbl := B4.lt
    simp only [List.length_cons] at hl4
    refine hky _ _ (k5.other e4 (by omega)) (by rw [List.length_map, sizeL]; omega) ⟨ms ++ [c], by simp, ?_, by simp; omega, (k4.trans k5).fresh (Nat.le_refl _), B5.set hb, fun v hv => hle v (List.mem_cons_of_mem _ hv)⟩
    intro z hz
    rcases List.mem_append.mp hz with z1 | z1
    · exact hm z z1
    · rw [List.mem_singleton.mp z1]; exact hc
  · intro v hv
    unfold rangeL at hv
    obtain ⟨i, _, rfl⟩ := List.mem_map.mp hv
    exact ⟨_, rfl⟩
theorem pureText (evs : List EV) (h : EH) (Q : EK) (q : spText evs h Q) : rdText (endsOf Q) (startE ["_law_bag_here", "_law_letters", "_law_most", "_law_k"] evs) h := by
  obtain ⟨b, l, most, ns, rfl, e, ne, nl, hlb, hs, B, q⟩ := q
  show rdText (endsOf Q) [some (.ref b), some (.ref l), some (.int most), none] h
  simp only [rdText, lSeq, lSet, lRet, lRetN, lDrop, lIfS, lOp, lVar, lC, lB, lT, lAnd, lOr, lNot, lIf, lAndV, lOrV, lNotV, lNil, lCons, lTup, lLst, lCB, lBM, lSl, lPart, lNext, lFor, lIt, lRng1, lRng2, lAsg, lPar, lSetI, lSetA, lAugS, lLc, lZip, lNeg, lCall, lChain, List.getElem?_cons_zero, List.getElem?_cons_succ, List.set_cons_zero, List.set_cons_succ, wipeE, intP, intE]
  refine add_i ?_
  refine ⟨b, most + 1, rfl, by omega, by omega, B, fun d h1 d0 d1 k1 B1 => ?_⟩
  obtain ⟨size, rfl⟩ := Int.eq_ofNat_of_zero_le d0
  have e := k1.other e hlb
  simp only []
  refine ⟨⟨by omega, by omega⟩, ?_⟩
  have hb := B1.lt
  have hl := lt_of_at e
  refine lc_ind (fun left acc h' => ∃ ms : List Int, acc = ms.map EV.int ∧ (∀ m ∈ ms, m ∈ ns) ∧ ms.length + left.length = size ∧ Keep (is1 b) h1 h' ∧ BagAt h' b ∧ ∀ v ∈ left, ∃ i : Int, v = .int i) ?_ ?_ _ [] _ new_at ⟨[], rfl, fun c hc => by simp at hc, by simp [rangeL], Keep.app _, B1.keep (Keep.app _), ?_⟩
  · rintro acc h4 ⟨ms, rfl, hm, hl4, k4, B4, _⟩ e4
    refine ⟨trivial, ?_⟩
    simp only [tupleOf, e4]
    simp only [List.length_nil, Nat.add_zero] at hl4
    exact q _ _ (by omega) hm (k1.trans k4) B4
  · rintro x left acc h4 ky kn ⟨ms, rfl, hm, hl4, k4, B4, hle⟩ e4 hky _
    obtain ⟨xi, rfl⟩ := hle x (by simp)
    refine ⟨trivial, bind_nm ?_⟩
    simp only [lYes, lSeq, lSet, lRet, lRetN, lDrop, lIfS, lOp, lVar, lC, lB, lT, lAnd, lOr, lNot, lIf, lAndV, lOrV, lNotV, lNil, lCons, lTup, lLst, lCB, lBM, lSl, lPart, lNext, lFor, lIt, lRng1, lRng2, lAsg, lPar, lSetI, lSetA, lAugS, lLc, lZip, lNeg, lCall, lChain, List.getElem?_cons_zero, List.getElem?_cons_succ, List.set_cons_zero, List.set_cons_succ, wipeE, intP, intE, if_true]
    refine ⟨b, l, _, rfl, k4.other e hlb, by simpa using ne, by rw [List.length_map, sizeL]; omega, hlb, B4, fun y h5 hy k5 B5 => ?_⟩
    obtain ⟨c, hc, rfl⟩ := List.mem_map.mp hy
    have hbl := B4.lt
    simp only [List.length_cons] at hl4
    refine hky _ _ (k5.other e4 (by omega)) (by rw [List.length_map, sizeL]; omega) ⟨ms ++ [c], by simp, ?_, by simp; omega, (k4.trans k5).fresh (Nat.le_refl _), B5.set hb, fun v hv => hle v (List.mem_cons_of_mem _ hv)⟩
    intro z hz
    rcases List.mem_append.mp hz with z1 | z1
    · exact hm z z1
    · rw [List.mem_singleton.mp z1]; exact hc
  · intro v hv
    unfold rangeL at hv
    obtain ⟨i, _, rfl⟩ := List.mem_map.mp hv
    exact ⟨_, rfl⟩
end Y

namespace Y
open PySem PySem.Spec PyProof.Rows L2
structure Ad where
  a_Book : Addr
  a_Comparer : Addr
  a_Watch : Addr
  a_GainTable : Addr
  a_GameTable : Addr
  a_Lane : Addr
  a_Machine : Addr
  a_Nearest : Addr
  a_Prices : Addr
  a_Rulebook : Addr
  a_Sender : Addr
  a_Speaker : Addr
  a_Standing : Addr
  a_Writer : Addr
  a_Tails : Addr
  a_Teasing : Addr
  a_VersusTable : Addr
  a_WaitTable : Addr
  a_TURNED : Addr
  a_WORD_OF : Addr
  a_WORDS : Addr
  a_STEP_OF : Addr
  a_AlreadyEnded : Addr
  a_BadArrow : Addr
  a_BadLine : Addr
  a_BadRule : Addr
  a_BeyondEnd : Addr
  a_Broken : Addr
  a_Contradiction : Addr
  a_DoesNotFit : Addr
  a_Ended : Addr
  a_EndsShort : Addr
  a_Finished : Addr
  a_KeepNotShown : Addr
  a_NeedsNoPromise : Addr
  a_NoDeed : Addr
  a_NoElder : Addr
  a_NoRule : Addr
  a_NoSaying : Addr
  a_NoStand : Addr
  a_NoSuchLetter : Addr
  a_NoTick : Addr
  a_NoWait : Addr
  a_NotARing : Addr
  a_NotAScript : Addr
  a_NotAWalk : Addr
  a_NotClaimed : Addr
  a_NotComparable : Addr
  a_NotHeights : Addr
  a_NotLet : Addr
  a_NotOnRim : Addr
  a_NotSent : Addr
  a_NotWhole : Addr
  a_Nothing : Addr
  a_Stopped : Addr
  a_TooMany : Addr
  a_UnderLag : Addr
  a_UnderTotal : Addr
  a_Unsettled : Addr
  a_Wrong : Addr
theorem atI_n {α : Type} (xs : List α) (i : Nat) : atI xs (i : Int) = xs[i]? := by
  by_cases h : i < xs.length
  · exact (L2.atI_nat (List.getElem?_eq_getElem h)).trans (List.getElem?_eq_getElem h).symm
  · rw [List.getElem?_eq_none (by omega)]
    unfold atI ixN
    rw [if_pos (by omega), if_neg (by omega)]
    rfl
theorem atI_0 {α : Type} (xs : List α) : atI xs 0 = xs[0]? := atI_n xs 0
theorem atI_1 {α : Type} (xs : List α) : atI xs 1 = xs[1]? := atI_n xs 1
theorem atI_2 {α : Type} (xs : List α) : atI xs 2 = xs[2]? := atI_n xs 2
theorem atI_3 {α : Type} (xs : List α) : atI xs 3 = xs[3]? := atI_n xs 3
def sp__law_bag (_ : Ad) : LSp := spBag
def sp__law_take (_ : Ad) : LSp := spTake
def sp__law_one (_ : Ad) : LSp := spOne
def sp__law_mixed (_ : Ad) : LSp := spMixed
def sp__law_alphabet (_ : Ad) : LSp := spAlpha
def sp__law_text (_ : Ad) : LSp := spText
def sp__law_full (_ : Ad) : LSp := spFull
def sp__law_alike (_ : Ad) : LSp := spAlike
abbrev N__law_bag : List Str := ["_law_script", "_law_cell"]
def t__law_bag (ad : Ad) : LS :=
    lRet (lLst (lCons (lC (.int 0)) (lCons (lC (.int 1234567891)) (lCons (lC (.int 0)) (lCons (lLc (lIt (lSl (lVar 0) (lPart none) (lPart (some (lC (.int 63)))))) (.nm 1) (lYes) (lCB absE (lCons (lVar 1) (lNil))) [1]) (lNil))))))
abbrev N__law_take : List Str := ["_law_bag_here", "_law_many", "_law_cell", "_law_mixed_here", "_law_drawn", "_law_early", "_law_second"]
def t__law_take (ad : Ad) : LS :=
    lSeq (lIfS (lB (lOp (eqE false) (lOp ixA (lVar 0) (lC (.int 0))) (lC (.int 0))))
      (lSeq (lSet (lOp ixA (lOp addE (lSl (lOp ixA (lVar 0) (lC (.int 3))) (lPart (some (lOp ixA (lVar 0) (lC (.int 2))))) (lPart none)) (lLst (lCons (lC (.int 0)) (lNil)))) (lC (.int 0))) 2) <|
    lSeq (lAugS (fun i j => i + j) (lVar 0) (lC (.int 2)) (lC (.int 1))) <|
    lSeq (lSetA (lVar 0) (lC (.int 0)) (lOp mulE (lVar 2) (lCB intOf (lCons (lOp geE (lVar 2) (lOp powE (lC (.int 10)) (lC (.int 18)))) (lNil))))) <|
    lSeq (lSet (lOp addE (lOp addE (lOp mulE (lOp ixA (lVar 0) (lC (.int 1))) (lC (.int 48271))) (lOp modE (lCB intOf (lCons (lVar 2) (lNil))) (lC (.int 2147483647)))) (lOp mulE (lC (.int 7919)) (lOp ixA (lVar 0) (lC (.int 2))))) 3) <|
    lSetA (lVar 0) (lC (.int 1)) (lOp modE (lCB intOf (lCons (lVar 3) (lNil))) (lC (.int 2147483647))))
      (lNext)) <|
    lSeq (lIfS (lB (lOp gtE (lOp ixA (lVar 0) (lC (.int 0))) (lC (.int 0))))
      (lSeq (lSet (lOp modE (lCB intOf (lCons (lOp ixA (lVar 0) (lC (.int 0))) (lNil))) (lVar 1)) 4) <|
    lSeq (lSetA (lVar 0) (lC (.int 0)) (lOp fdivE (lCB intOf (lCons (lOp ixA (lVar 0) (lC (.int 0))) (lNil))) (lVar 1))) <|
    lRet (lVar 4))
      (lNext)) <|
    lSeq (lSet (lOp modE (lCB intOf (lCons (lOp mulE (lOp addE (lOp ixA (lVar 0) (lC (.int 1))) (lC (.int 1))) (lC (.int 39373))) (lNil))) (lC (.int 1000000007))) 5) <|
    lSeq (lSet (lOp modE (lCB intOf (lCons (lOp mulE (lOp modE (lCB intOf (lCons (lOp mulE (lVar 5) (lVar 5)) (lNil))) (lC (.int 998244353))) (lC (.int 30011))) (lNil))) (lC (.int 998244353))) 6) <|
    lRet (lOp modE (lCB intOf (lCons (lOp fdivE (lVar 6) (lC (.int 7))) (lNil))) (lVar 1))
abbrev N__law_one : List Str := ["_law_bag_here", "_law_some"]
def t__law_one (ad : Ad) : LS :=
    lRet (lOp ixA (lVar 1) (lCall (sp__law_take ad) (lCons (lVar 0) (lCons (lCB lenE (lCons (lVar 1) (lNil))) (lNil)))))
abbrev N__law_mixed : List Str := ["_law_bag_here", "_law_things", "_law_found", "_law_thing"]
def t__law_mixed (ad : Ad) : LS :=
    lSeq (lSet (lLst (lNil)) 2) <|
    lSeq (lFor (lIt (lVar 1)) (.nm 3)
      (lDrop (lBM "list" insertE (lVar 2) (lCons (lCall (sp__law_take ad) (lCons (lVar 0) (lCons (lOp addE (lCB lenE (lCons (lVar 2) (lNil))) (lC (.int 1))) (lNil)))) (lCons (lVar 3) (lNil)))))) <|
    lRet (lVar 2)
abbrev N__law_alphabet : List Str := ["_law_bag_here"]
def t__law_alphabet (ad : Ad) : LS :=
    lRet (lSl (lCall (sp__law_mixed ad) (lCons (lVar 0) (lCons (lLst (lCons (lC (.int 0)) (lCons (lC (.int 1)) (lCons (lC (.int 2)) (lCons (lC (.int 3)) (lCons (lC (.int 48)) (lCons (lC (.int 999999999)) (lCons (lOp powE (lC (.int 10)) (lC (.int 9))) (lNil))))))))) (lNil)))) (lPart none) (lPart (some (lCall (sp__law_one ad) (lCons (lVar 0) (lCons (lLst (lCons (lC (.int 2)) (lCons (lC (.int 3)) (lCons (lC (.int 2)) (lCons (lC (.int 1)) (lCons (lC (.int 4)) (lNil))))))) (lNil)))))))
abbrev N__law_text : List Str := ["_law_bag_here", "_law_letters", "_law_most", "_law_k"]
def t__law_text (ad : Ad) : LS :=
    lRet (lCB tupleOf (lCons (lLc (lRng1 (lCons (lCall (sp__law_take ad) (lCons (lVar 0) (lCons (lOp addE (lVar 2) (lC (.int 1))) (lNil)))) (lNil))) (.nm 3) (lYes) (lCall (sp__law_one ad) (lCons (lVar 0) (lCons (lVar 1) (lNil)))) [3]) (lNil)))
abbrev N__law_full : List Str := ["_law_bag_here", "_law_letters", "_law_size", "_law_k"]
def t__law_full (ad : Ad) : LS :=
    lRet (lCB tupleOf (lCons (lLc (lRng1 (lCons (lVar 2) (lNil))) (.nm 3) (lYes) (lCall (sp__law_one ad) (lCons (lVar 0) (lCons (lVar 1) (lNil)))) [3]) (lNil)))
abbrev N__law_alike : List Str := ["_law_found", "_law_due"]
def t__law_alike (ad : Ad) : LS :=
    lRet (lAndV (lOp (eqE false) (lVar 0) (lVar 1)) (lOp (eqE false) (lCB reprE (lCons (lVar 0) (lNil))) (lCB reprE (lCons (lVar 1) (lNil)))))
theorem pure__law_bag (ad : Ad) (evs : List EV) (h : EH) (Q : EK) (q : sp__law_bag ad evs h Q) : t__law_bag ad (endsOf Q) (startE N__law_bag evs) h := pureBag evs h Q q
theorem pure__law_take (ad : Ad) (evs : List EV) (h : EH) (Q : EK) (q : sp__law_take ad evs h Q) : t__law_take ad (endsOf Q) (startE N__law_take evs) h := pureTake evs h Q q
theorem pure__law_one (ad : Ad) (evs : List EV) (h : EH) (Q : EK) (q : sp__law_one ad evs h Q) : t__law_one ad (endsOf Q) (startE N__law_one evs) h := pureOne evs h Q q
theorem pure__law_mixed (ad : Ad) (evs : List EV) (h : EH) (Q : EK) (q : sp__law_mixed ad evs h Q) : t__law_mixed ad (endsOf Q) (startE N__law_mixed evs) h := pureMixed evs h Q q
theorem pure__law_alphabet (ad : Ad) (evs : List EV) (h : EH) (Q : EK) (q : sp__law_alphabet ad evs h Q) : t__law_alphabet ad (endsOf Q) (startE N__law_alphabet evs) h := pureAlpha evs h Q q
theorem pure__law_text (ad : Ad) (evs : List EV) (h : EH) (Q : EK) (q : sp__law_text ad evs h Q) : t__law_text ad (endsOf Q) (startE N__law_text evs) h := pureText evs h Q q
theorem pure__law_full (ad : Ad) (evs : List EV) (h : EH) (Q : EK) (q : sp__law_full ad evs h Q) : t__law_full ad (endsOf Q) (startE N__law_full evs) h := pureFull evs h Q q
theorem pure__law_alike (ad : Ad) (evs : List EV) (h : EH) (Q : EK) (q : sp__law_alike ad evs h Q) : t__law_alike ad (endsOf Q) (startE N__law_alike evs) h := pureAlike evs h Q q
theorem len__law_bag (ad : Ad) (evs : List EV) (h : EH) (Q : EK) (q : sp__law_bag ad evs h Q) : evs.length = ["_law_script"].length := lenBag evs h Q q
theorem len__law_take (ad : Ad) (evs : List EV) (h : EH) (Q : EK) (q : sp__law_take ad evs h Q) : evs.length = ["_law_bag_here", "_law_many"].length := lenTake evs h Q q
theorem len__law_one (ad : Ad) (evs : List EV) (h : EH) (Q : EK) (q : sp__law_one ad evs h Q) : evs.length = ["_law_bag_here", "_law_some"].length := lenOne evs h Q q
theorem len__law_mixed (ad : Ad) (evs : List EV) (h : EH) (Q : EK) (q : sp__law_mixed ad evs h Q) : evs.length = ["_law_bag_here", "_law_things"].length := lenMixed evs h Q q
theorem len__law_alphabet (ad : Ad) (evs : List EV) (h : EH) (Q : EK) (q : sp__law_alphabet ad evs h Q) : evs.length = ["_law_bag_here"].length := by obtain ⟨_, rfl, _⟩ := q; rfl
theorem len__law_text (ad : Ad) (evs : List EV) (h : EH) (Q : EK) (q : sp__law_text ad evs h Q) : evs.length = ["_law_bag_here", "_law_letters", "_law_most"].length := by obtain ⟨_, _, _, _, rfl, _⟩ := q; rfl
theorem len__law_full (ad : Ad) (evs : List EV) (h : EH) (Q : EK) (q : sp__law_full ad evs h Q) : evs.length = ["_law_bag_here", "_law_letters", "_law_size"].length := by obtain ⟨_, _, _, _, rfl, _⟩ := q; rfl
theorem len__law_alike (ad : Ad) (evs : List EV) (h : EH) (Q : EK) (q : sp__law_alike ad evs h Q) : evs.length = ["_law_found", "_law_due"].length := lenAlike evs h Q q
end Y

namespace Y
def omin : Option Int → Option Int → Option Int
  | none, b => b
  | a, none => a
  | some a, some b => some (min a b)
theorem omin_assoc (a b c : Option Int) : omin (omin a b) c = omin a (omin b c) := by
  cases a <;> cases b <;> cases c <;> simp [omin] <;> try omega
theorem omin_comm (a b : Option Int) : omin a b = omin b a := by
  cases a <;> cases b <;> simp [omin] <;> try omega
theorem omin_none (a : Option Int) : omin a none = a := by cases a <;> rfl
def oadd (a : Option Int) (k : Int) : Option Int := a.map (· + k)
structure GridOf where
  same : Nat → Nat → Bool
  drop : Nat → Int
  put : Nat → Int
  lag : Nat → Nat → Bool
def GridOf.best (g : GridOf) : Nat → Nat → Option Int
  | 0, 0 => some 0
  | i + 1, 0 => if g.lag (i + 1) 0 = true then oadd (g.best i 0) (g.drop i) else none
  | 0, j + 1 => if g.lag 0 (j + 1) = true then oadd (g.best 0 j) (g.put j) else none
  | i + 1, j + 1 => if g.lag (i + 1) (j + 1) = true then omin (if g.same i j = true then g.best i j else none) (omin (oadd (g.best i (j + 1)) (g.drop i)) (oadd (g.best (i + 1) j) (g.put j))) else none
  termination_by i j => i + j
def GridOf.part (g : GridOf) (done : Nat → Nat → Bool) : Nat → Nat → Option Int
  | 0, 0 => some 0
  | i + 1, 0 => if g.lag (i + 1) 0 = true then (if done i 0 = true then oadd (g.best i 0) (g.drop i) else none) else none
  | 0, j + 1 => if g.lag 0 (j + 1) = true then (if done 0 j = true then oadd (g.best 0 j) (g.put j) else none) else none
  | i + 1, j + 1 => if g.lag (i + 1) (j + 1) = true then omin (if (g.same i j && done i j) = true then g.best i j else none)
      (omin (if done i (j + 1) = true then oadd (g.best i (j + 1)) (g.drop i) else none) (if done (i + 1) j = true then oadd (g.best (i + 1) j) (g.put j) else none)) else none
theorem GridOf.part_best (g : GridOf) {done : Nat → Nat → Bool} {i j : Nat} (h : ∀ a b, a ≤ i → b ≤ j → (a < i ∨ b < j) → done a b = true) : g.part done i j = g.best i j := by
  match i, j with
  | 0, 0 => rw [part, best]
  | i + 1, 0 => rw [part, best, h i 0 (by omega) (by omega) (by omega)]; simp
  | 0, j + 1 => rw [part, best, h 0 j (by omega) (by omega) (by omega)]; simp
  | i + 1, j + 1 => rw [part, best, h i j (by omega) (by omega) (by omega), h i (j + 1) (by omega) (by omega) (by omega), h (i + 1) j (by omega) (by omega) (by omega)]; simp
def mark (done : Nat → Nat → Bool) (a b : Nat) : Nat → Nat → Bool := fun i j => done i j || (decide (i = a) && decide (j = b))
theorem GridOf.part_diag (g : GridOf) {done : Nat → Nat → Bool} {a b : Nat} (hd : done a b = false) : g.part (mark done a b) (a + 1) (b + 1) = if g.lag (a + 1) (b + 1) = true then omin (g.part done (a + 1) (b + 1)) (if g.same a b = true then g.best a b else none) else none := by
  have e1 : mark done a b a (b + 1) = done a (b + 1) := by simp [mark]
  have e2 : mark done a b (a + 1) b = done (a + 1) b := by simp [mark]
  have e3 : mark done a b a b = true := by simp [mark]
  rw [part, part, e1, e2, e3, hd]
  split
  · simp only [Bool.and_true, Bool.and_false, Bool.false_eq_true, if_false]
    rw [show omin none (omin (if done a (b + 1) = true then oadd (g.best a (b + 1)) (g.drop a) else none) (if done (a + 1) b = true then oadd (g.best (a + 1) b) (g.put b) else none)) = omin (if done a (b + 1) = true then oadd (g.best a (b + 1)) (g.drop a) else none) (if done (a + 1) b = true then oadd (g.best (a + 1) b) (g.put b) else none) from rfl]
    rw [omin_comm]
  · rfl
theorem omin_swap (a b c : Option Int) : omin a (omin b c) = omin (omin a c) b := by
  rw [omin_assoc, omin_comm c b]
theorem GridOf.part_down (g : GridOf) {done : Nat → Nat → Bool} {a b : Nat} (hd : done a b = false) : g.part (mark done a b) (a + 1) b = if g.lag (a + 1) b = true then omin (g.part done (a + 1) b) (oadd (g.best a b) (g.drop a)) else none := by
  have e3 : mark done a b a b = true := by simp [mark]
  cases b with
  | zero =>
    rw [part, part, e3, hd]
    split
    · simp only [Bool.false_eq_true, if_false, if_true]
      rfl
    · rfl
  | succ b =>
    have e1 : mark done a (b + 1) a b = done a b := by simp [mark]
    have e2 : mark done a (b + 1) (a + 1) b = done (a + 1) b := by simp [mark]
    rw [part, part, e1, e2, e3, hd]
    split
    · simp only [Bool.false_eq_true, if_false, if_true]
      rw [omin_swap]
      rw [omin_assoc, omin_assoc]
      rfl
    · rfl
theorem GridOf.part_right (g : GridOf) {done : Nat → Nat → Bool} {a b : Nat} (hd : done a b = false) : g.part (mark done a b) a (b + 1) = if g.lag a (b + 1) = true then omin (g.part done a (b + 1)) (oadd (g.best a b) (g.put b)) else none := by
  have e3 : mark done a b a b = true := by simp [mark]
  cases a with
  | zero =>
    rw [part, part, e3, hd]
    split
    · simp only [Bool.false_eq_true, if_false, if_true]
      rfl
    · rfl
  | succ a =>
    have e1 : mark done (a + 1) b a b = done a b := by simp [mark]
    have e2 : mark done (a + 1) b a (b + 1) = done a (b + 1) := by simp [mark]
    rw [part, part, e1, e2, e3, hd]
    split
    · simp only [Bool.false_eq_true, if_false, if_true]
      rw [omin_none, omin_assoc]
    · rfl
theorem mark_off {done : Nat → Nat → Bool} {a b i j : Nat} (h : ¬(i = a ∧ j = b)) : mark done a b i j = done i j := by
  unfold mark
  by_cases e : i = a
  · subst e
    have : j ≠ b := fun z => h ⟨rfl, z⟩
    simp [this]
  · simp [e]
theorem GridOf.part_other (g : GridOf) {done : Nat → Nat → Bool} {a b i j : Nat} (h1 : ¬(i = a + 1 ∧ j = b + 1)) (h2 : ¬(i = a + 1 ∧ j = b)) (h3 : ¬(i = a ∧ j = b + 1)) : g.part (mark done a b) i j = g.part done i j := by
  match i, j with
  | 0, 0 => rw [part, part]
  | i + 1, 0 => rw [part, part, mark_off (by omega)]
  | 0, j + 1 => rw [part, part, mark_off (by omega)]
  | i + 1, j + 1 => rw [part, part, mark_off (by omega), mark_off (by omega), mark_off (by omega)]
def ptsL (n m : Nat) : List (Nat × Nat) := (List.range (n + 1)).flatMap fun i => (List.range (m + 1)).map fun j => (i, j)
theorem ptsL_mem {n m : Nat} {p : Nat × Nat} : p ∈ ptsL n m ↔ p.1 ≤ n ∧ p.2 ≤ m := by
  unfold ptsL
  rw [List.mem_flatMap]
  constructor
  · rintro ⟨i, hi, hp⟩
    obtain ⟨j, hj, rfl⟩ := List.mem_map.mp hp
    simp at hi hj
    exact ⟨by show i ≤ n; omega, by show j ≤ m; omega⟩
  · intro h
    exact ⟨p.1, by simp; omega, List.mem_map.mpr ⟨p.2, by simp; omega, rfl⟩⟩
def lexL (p q : Nat × Nat) : Prop := p.1 < q.1 ∨ p.1 = q.1 ∧ p.2 < q.2
theorem ptsL_lex (n m : Nat) : (ptsL n m).Pairwise lexL := by
  unfold ptsL
  rw [List.pairwise_flatMap]
  refine ⟨fun i _ => ?_, ?_⟩
  · rw [List.pairwise_map]
    exact List.pairwise_lt_range.imp fun h => .inr ⟨rfl, h⟩
  · refine List.pairwise_lt_range.imp fun {a b} h x hx y hy => ?_
    obtain ⟨_, _, rfl⟩ := List.mem_map.mp hx
    obtain ⟨_, _, rfl⟩ := List.mem_map.mp hy
    exact .inl h
theorem ptsL_turn {n m : Nat} {pre post : List (Nat × Nat)} {i j : Nat} (e : ptsL n m = pre ++ (i, j) :: post) :
    i ≤ n ∧ j ≤ m ∧ (i, j) ∉ pre ∧ ∀ a b, a ≤ i → b ≤ j → (a < i ∨ b < j) → (a, b) ∈ pre := by
  have hm : (i, j) ∈ ptsL n m := by rw [e]; simp
  have hm' := ptsL_mem.mp hm
  have hp := ptsL_lex n m
  rw [e, List.pairwise_append] at hp
  obtain ⟨_, p2, p3⟩ := hp
  refine ⟨hm'.1, hm'.2, fun z => ?_, fun a b ha hb hab => ?_⟩
  · have := p3 _ z (i, j) (by simp)
    unfold lexL at this; simp at this
  · have hx : (a, b) ∈ ptsL n m := ptsL_mem.mpr ⟨Nat.le_trans ha hm'.1, Nat.le_trans hb hm'.2⟩
    rw [e] at hx
    rcases List.mem_append.mp hx with z | z
    · exact z
    · rcases List.mem_cons.mp z with z | z
      · cases z; omega
      · have := (List.pairwise_cons.mp p2).1 _ z
        unfold lexL at this; simp at this; omega
def inL (l : List (Nat × Nat)) (a b : Nat) : Bool := decide ((a, b) ∈ l)
theorem inL_mark (l : List (Nat × Nat)) (i j : Nat) : inL (l ++ [(i, j)]) = mark (inL l) i j := by
  funext a b
  simp [inL, mark, Bool.decide_or]
theorem GridOf.part_nil (g : GridOf) (a b : Nat) : g.part (inL []) a b = if a = 0 ∧ b = 0 then some 0 else none := by
  have e : ∀ x y, inL [] x y = false := fun x y => by simp [inL]
  match a, b with
  | 0, 0 => rw [part]; simp
  | i + 1, 0 => rw [part, e]; simp
  | 0, j + 1 => rw [part, e]; simp
  | i + 1, j + 1 => rw [part, e, e, e]; simp [omin]
theorem oadd_none (k : Int) : oadd none k = none := rfl
theorem GridOf.part_skip (g : GridOf) {done : Nat → Nat → Bool} {i j : Nat} (hd : done i j = false) (hb : g.best i j = none) (a b : Nat) : g.part (mark done i j) a b = g.part done a b := by
  by_cases h1 : a = i + 1 ∧ b = j + 1
  · obtain ⟨rfl, rfl⟩ := h1
    rw [g.part_diag hd, hb]
    by_cases hl : g.lag (i + 1) (j + 1) = true
    · rw [if_pos hl]; simp [omin_none]
    · rw [if_neg hl, part, if_neg hl]
  by_cases h2 : a = i + 1 ∧ b = j
  · obtain ⟨rfl, rfl⟩ := h2
    rw [g.part_down hd, hb, oadd_none, omin_none]
    by_cases hl : g.lag (i + 1) b = true
    · rw [if_pos hl]
    · cases b <;> rw [if_neg hl, part, if_neg hl]
  by_cases h3 : a = i ∧ b = j + 1
  · obtain ⟨rfl, rfl⟩ := h3
    rw [g.part_right hd, hb, oadd_none, omin_none]
    by_cases hl : g.lag a (j + 1) = true
    · rw [if_pos hl]
    · cases a <;> rw [if_neg hl, part, if_neg hl]
  exact g.part_other h1 h2 h3
end Y

namespace Y
open PySem PySem.Spec PyProof.Rows L2

abbrev tx (xs : List Int) : EV := .tup (xs.map EV.int)
def ptE (i j : Nat) : EV := .tup [.int i, .int j]
def pairE (p : Int × Int) : EV := .tup [.int p.1, .int p.2]
inductive Prom where
  | none | total (g : Int) | lag (g : Int)
def Prom.e : Prom → EV
  | .none => .tup [.str [110, 111, 110, 101]]
  | .total g => .tup [.str [116, 111, 116, 97, 108], .int g]
  | .lag g => .tup [.str [108, 97, 103], .int g]
def Prom.ok : Prom → Nat → Nat → Bool
  | .lag g, i, j => decide ((((i : Int) - j).natAbs : Int) ≤ g)
  | _, _, _ => true
abbrev Tab := List (Int × (Int × Int))
def tabKV (l : Tab) : List (EV × EV) := l.map fun q => (.int q.1, pairE q.2)
def cost (l : Tab) (x : Int) : Int × Int := (l.lookup x).getD (1, 1)
def PrAt (ad : Ad) (h : EH) (r : Nat) (l : Tab) : Prop := ∃ d, h[r]? = some (.slo ad.a_Prices [some (.ref d)]) ∧ h[d]? = some (.dic (tabKV l))
def mvI (i c : Nat) : Nat := if c = 112 then i else i + 1
def mvJ (j c : Nat) : Nat := if c = 100 then j else j + 1
def isStep (c : Nat) : Prop := c = 107 ∨ c = 100 ∨ c = 112
def canDo (l r : List Int) (c i j : Nat) : Bool := if c = 112 then decide (j < r.length) else if c = 100 then decide (i < l.length) else decide (i < l.length) && decide (j < r.length) && decide (l.getD i 0 = r.getD j 0)
def stepCost (f : Int → Int × Int) (l r : List Int) (c i j : Nat) : Int := if c = 107 then 0 else if c = 100 then (f (l.getD i 0)).1 else (f (r.getD j 0)).2
structure Wd where
  l : List Int
  r : List Int
  c : Tab
  p : Prom
def Wd.stp (w : Wd) (i j : Nat) : List Nat := [107, 100, 112].filter fun c => canDo w.l w.r c i j && w.p.ok (mvI i c) (mvJ j c)
def Wd.stpE (w : Wd) (i j c : Nat) : EV := .tup [.str [c], ptE (mvI i c) (mvJ j c), .int (stepCost (cost w.c) w.l w.r c i j)]
def Told (h : EH) (xs : List EV) (Q : EK) : Prop := ∀ r h', Keep no1 h h' → h.length ≤ r → h'[r]? = some (.lst xs) → Q (.ref r) h'
def sp_moved (ad : Ad) : LSp := fun evs h Q => ∃ i j c, evs = [ptE i j, .str [c]] ∧ Q (ptE (mvI i c) (mvJ j c)) h
def sp_can_be_done (ad : Ad) : LSp := fun evs h Q => ∃ c i j l r, evs = [.str [c], ptE i j, tx l, tx r] ∧ isStep c ∧ Q (.bl (canDo l r c i j)) h
def sp_Prices_drop (ad : Ad) : LSp := fun evs h Q => ∃ p x l, evs = [.ref p, .int x] ∧ PrAt ad h p l ∧ Q (.int (cost l x).1) h
def sp_Prices_put (ad : Ad) : LSp := fun evs h Q => ∃ p x l, evs = [.ref p, .int x] ∧ PrAt ad h p l ∧ Q (.int (cost l x).2) h
def sp_step_price (ad : Ad) : LSp := fun evs h Q => ∃ c i j l r p t, evs = [.str [c], ptE i j, tx l, tx r, .ref p] ∧ isStep c ∧ canDo l r c i j = true ∧ PrAt ad h p t ∧ Q (.int (stepCost (cost t) l r c i j)) h
def sp_is_in_lag (ad : Ad) : LSp := fun evs h Q => ∃ (i j : Nat) (p : Prom), evs = [ptE i j, p.e] ∧ Q (.bl (p.ok i j)) h
def sp_all_points (ad : Ad) : LSp := fun evs h Q => ∃ l r, evs = [tx l, tx r] ∧ l.length ≤ 1000 ∧ r.length ≤ 1000 ∧ Told h ((ptsL l.length r.length).map fun p => ptE p.1 p.2) Q
def sp_steps_from (ad : Ad) : LSp := fun evs h Q => ∃ (w : Wd) (p i j : Nat), evs = [tx w.l, tx w.r, .ref p, w.p.e, ptE i j] ∧ PrAt ad h p w.c ∧ Told h ((w.stp i j).map (w.stpE i j)) Q
abbrev N_moved : List Str := ["point", "step"]
def t_moved (ad : Ad) : LS :=
    lRet (lTup (lCons (lOp addE (lOp ixA (lVar 0) (lC (.int 0))) (lCB intOf (lCons (lOp (eqE true) (lVar 1) (lC (.str [112]))) (lNil)))) (lCons (lOp addE (lOp ixA (lVar 0) (lC (.int 1))) (lCB intOf (lCons (lOp (eqE true) (lVar 1) (lC (.str [100]))) (lNil)))) (lNil))))
abbrev N_can_be_done : List Str := ["step", "point", "left", "right", "i", "j"]
def t_can_be_done (ad : Ad) : LS :=
    lSeq (lAsg (lVar 1) (.tp [.nm 4, .nm 5])) <|
    lSeq (lIfS (lOr (lAnd (lB (lOp (eqE true) (lVar 0) (lC (.str [112])))) (lB (lOp geE (lVar 4) (lCB lenE (lCons (lVar 2) (lNil)))))) (lAnd (lB (lOp (eqE true) (lVar 0) (lC (.str [100])))) (lB (lOp geE (lVar 5) (lCB lenE (lCons (lVar 3) (lNil)))))))
      (lRet (lC (.bl false)))
      (lNext)) <|
    lRet (lOrV (lOp (eqE true) (lVar 0) (lC (.str [107]))) (lOp (eqE false) (lOp ixA (lVar 2) (lVar 4)) (lOp ixA (lVar 3) (lVar 5))))
abbrev N_Prices_drop : List Str := ["self", "letter"]
def t_Prices_drop (ad : Ad) : LS :=
    lRet (lOp ixA (lGet2 (lAttr [(ad.a_Prices, 0)] (lVar 0)) (lVar 1) (lC (.ktup [.int 1, .int 1]))) (lC (.int 0)))
abbrev N_Prices_put : List Str := ["self", "letter"]
def t_Prices_put (ad : Ad) : LS :=
    lRet (lOp ixA (lGet2 (lAttr [(ad.a_Prices, 0)] (lVar 0)) (lVar 1) (lC (.ktup [.int 1, .int 1]))) (lC (.int 1)))
abbrev N_step_price : List Str := ["step", "point", "left", "right", "prices"]
def t_step_price (ad : Ad) : LS :=
    lSeq (lIfS (lB (lOp (eqE false) (lVar 0) (lC (.str [107]))))
      (lRet (lC (.int 0)))
      (lNext)) <|
    lRet (lIf (lB (lOp (eqE false) (lVar 0) (lC (.str [100])))) (lMet (List.lookup · [(ad.a_Prices, (sp_Prices_drop ad))]) (lVar 4) (lCons (lOp ixA (lVar 2) (lOp ixA (lVar 1) (lC (.int 0)))) (lNil))) (lMet (List.lookup · [(ad.a_Prices, (sp_Prices_put ad))]) (lVar 4) (lCons (lOp ixA (lVar 3) (lOp ixA (lVar 1) (lC (.int 1)))) (lNil))))
abbrev N_is_in_lag : List Str := ["point", "promise"]
def t_is_in_lag (ad : Ad) : LS :=
    lRet (lOrV (lOp (eqE true) (lOp ixA (lVar 1) (lC (.int 0))) (lC (.str [108, 97, 103]))) (lOp leE (lCB absE (lCons (lOp subE (lOp ixA (lVar 0) (lC (.int 0))) (lOp ixA (lVar 0) (lC (.int 1)))) (lNil))) (lOp ixA (lVar 1) (lC (.int 1)))))
abbrev N_all_points : List Str := ["left", "right", "i", "j"]
def t_all_points (ad : Ad) : LS :=
    lRet (lLc2 (lRng1 (lCons (lOp addE (lCB lenE (lCons (lVar 0) (lNil))) (lC (.int 1))) (lNil))) (.nm 2) (lYes) (lRng1 (lCons (lOp addE (lCB lenE (lCons (lVar 1) (lNil))) (lC (.int 1))) (lNil))) (.nm 3) (lYes) (lTup (lCons (lVar 2) (lCons (lVar 3) (lNil)))) [2, 3] [3])
abbrev N_steps_from : List Str := ["left", "right", "prices", "promise", "point", "some", "step", "later"]
def t_steps_from (ad : Ad) : LS :=
    lSeq (lSet (lLc (lIt (lC (.ktup [.str [107], .str [100], .str [112]]))) (.nm 6) (lT (lCall (sp_can_be_done ad) (lCons (lVar 6) (lCons (lVar 4) (lCons (lVar 0) (lCons (lVar 1) (lNil))))))) (lTup (lCons (lVar 6) (lCons (lCall (sp_moved ad) (lCons (lVar 4) (lCons (lVar 6) (lNil)))) (lNil)))) [6]) 5) <|
    lRet (lLc (lIt (lVar 5)) (.tp [.nm 6, .nm 7]) (lT (lCall (sp_is_in_lag ad) (lCons (lVar 7) (lCons (lVar 3) (lNil))))) (lTup (lCons (lVar 6) (lCons (lVar 7) (lCons (lCall (sp_step_price ad) (lCons (lVar 6) (lCons (lVar 4) (lCons (lVar 0) (lCons (lVar 1) (lCons (lVar 2) (lNil))))))) (lNil))))) [6, 7])
theorem tx_at {l : List Int} {i : Nat} (hi : i < l.length) : atI (l.map EV.int) (i : Int) = some (.int (l.getD i 0)) := by
  refine L2.atI_nat ?_
  rw [List.getElem?_map, List.getElem?_eq_getElem hi, List.getD_eq_getElem?_getD, List.getElem?_eq_getElem hi]; rfl
theorem len_moved (ad : Ad) (evs : List EV) (h : EH) (Q : EK) (q : sp_moved ad evs h Q) : evs.length = ["point", "step"].length := by
  obtain ⟨_, _, _, rfl, _⟩ := q; rfl
theorem pure_moved (ad : Ad) (evs : List EV) (h : EH) (Q : EK) (q : sp_moved ad evs h Q) : t_moved ad (endsOf Q) (startE N_moved evs) h := by
  obtain ⟨i, j, c, rfl, q⟩ := q
  show t_moved ad (endsOf Q) [some (ptE i j), some (.str [c])] h
  by_cases h1 : c = 112 <;> by_cases h2 : c = 100 <;> simp [t_moved, lSeq, lSet, lRet, lRetN, lDrop, lIfS, lOp, lVar, lC, lB, lT, lAnd, lOr, lNot, lIf, lAndV, lOrV, lNotV, lNil, lCons, lTup, lLst, lCB, lBM, lSl, lPart, lNext, lFor, lIt, lRng1, lRng2, lAsg, lPar, lSetI, lSetA, lAugS, lLc, lZip, lNeg, lCall, lChain, List.getElem?_cons_zero, List.getElem?_cons_succ, List.set_cons_zero, List.set_cons_succ, truE, wipeE, intP, intE, lBind, Pat.bind, Pat.binds, eqE, geE, gtE, leE, ltE, intP, intE, addE, subE, lenE, ixA, ixE, isN, absE, intOf, isTy, attrE, atI_n, atI_0, atI_1, atI_2, atI_3, lYes, ptE, mvI, mvJ, h1, h2, sizeL] at q ⊢ <;> exact q
theorem len_can_be_done (ad : Ad) (evs : List EV) (h : EH) (Q : EK) (q : sp_can_be_done ad evs h Q) : evs.length = ["step", "point", "left", "right"].length := by
  obtain ⟨_, _, _, _, _, rfl, _⟩ := q; rfl
theorem pure_can_be_done (ad : Ad) (evs : List EV) (h : EH) (Q : EK) (q : sp_can_be_done ad evs h Q) : t_can_be_done ad (endsOf Q) (startE N_can_be_done evs) h := by
  obtain ⟨c, i, j, l, r, rfl, hc, q⟩ := q
  show t_can_be_done ad (endsOf Q) [some (.str [c]), some (ptE i j), some (tx l), some (tx r), none, none] h
  by_cases hi : i < l.length <;> by_cases hj : j < r.length <;> rcases hc with rfl | rfl | rfl <;>
    simp [t_can_be_done, lSeq, lSet, lRet, lRetN, lDrop, lIfS, lOp, lVar, lC, lB, lT, lAnd, lOr, lNot, lIf, lAndV, lOrV, lNotV, lNil, lCons, lTup, lLst, lCB, lBM, lSl, lPart, lNext, lFor, lIt, lRng1, lRng2, lAsg, lPar, lSetI, lSetA, lAugS, lLc, lZip, lNeg, lCall, lChain, List.getElem?_cons_zero, List.getElem?_cons_succ, List.set_cons_zero, List.set_cons_succ, truE, wipeE, intP, intE, lBind, Pat.bind, Pat.binds, eqE, geE, gtE, leE, ltE, intP, intE, addE, subE, lenE, ixA, ixE, isN, absE, intOf, isTy, attrE, atI_n, atI_0, atI_1, atI_2, atI_3, lYes, ptE, canDo, hi, hj, Nat.not_le.mpr, Nat.not_lt.mp] at q ⊢ <;> exact q
theorem len_Prices_drop (ad : Ad) (evs : List EV) (h : EH) (Q : EK) (q : sp_Prices_drop ad evs h Q) : evs.length = ["self", "letter"].length := by
  obtain ⟨_, _, _, rfl, _⟩ := q; rfl
theorem len_Prices_put (ad : Ad) (evs : List EV) (h : EH) (Q : EK) (q : sp_Prices_put ad evs h Q) : evs.length = ["self", "letter"].length := by
  obtain ⟨_, _, _, rfl, _⟩ := q; rfl
theorem tab_getK (l : Tab) (x : Int) : (dGet (tabKV l) (.int x)).getD (.ktup [.int 1, .int 1]) = pairE (cost l x) ∨ (dGet (tabKV l) (.int x)).getD (.ktup [.int 1, .int 1]) = .ktup [.int 1, .int 1] ∧ cost l x = (1, 1) := by
  induction l with
  | nil => exact .inr ⟨rfl, rfl⟩
  | cons q l ih =>
    obtain ⟨k, c⟩ := q
    unfold tabKV at ih ⊢
    rw [List.map_cons, dGet]
    by_cases e : k = x
    · subst e; left; simp [kEq, cost]
    · have e2 : (x == k) = false := by simpa using fun z => e z.symm
      simpa [kEq, e, cost, List.lookup_cons, e2] using ih
theorem tab_get (l : Tab) (x : Int) : (dGet (tabKV l) (.int x)).getD (.tup [.int 1, .int 1]) = pairE (cost l x) := by
  induction l with
  | nil => rfl
  | cons q l ih =>
    obtain ⟨k, c⟩ := q
    unfold tabKV at ih ⊢
    rw [List.map_cons, dGet]
    by_cases e : k = x
    · subst e; simp [kEq, cost]
    · have e2 : (x == k) = false := by simpa using fun z => e z.symm
      simpa [kEq, e, cost, List.lookup_cons, e2] using ih
theorem pure_Prices_drop (ad : Ad) (evs : List EV) (h : EH) (Q : EK) (q : sp_Prices_drop ad evs h Q) : t_Prices_drop ad (endsOf Q) (startE N_Prices_drop evs) h := by
  obtain ⟨p, x, l, rfl, ⟨d, e1, e2⟩, q⟩ := q
  show t_Prices_drop ad (endsOf Q) [some (.ref p), some (.int x)] h
  simp only [t_Prices_drop, lSeq, lSet, lRet, lRetN, lDrop, lIfS, lOp, lVar, lC, lB, lT, lAnd, lOr, lNot, lIf, lAndV, lOrV, lNotV, lNil, lCons, lTup, lLst, lCB, lBM, lSl, lPart, lNext, lFor, lIt, lRng1, lRng2, lAsg, lPar, lSetI, lSetA, lAugS, lLc, lZip, lNeg, lCall, lChain, List.getElem?_cons_zero, List.getElem?_cons_succ, List.set_cons_zero, List.set_cons_succ, truE, wipeE, intP, intE, lGet2, lAttr, attrE, e1, e2, List.lookup_cons, beq_self_eq_true, List.getElem?_cons_zero, isDct, isKey, true_and]
  rcases tab_getK l x with e | ⟨e, e3⟩
  · rw [e]; exact ia_t at0 q
  · rw [e]; rw [e3] at q; simpa [ixA, ixE, atI_0] using q
theorem pure_Prices_put (ad : Ad) (evs : List EV) (h : EH) (Q : EK) (q : sp_Prices_put ad evs h Q) : t_Prices_put ad (endsOf Q) (startE N_Prices_put evs) h := by
  obtain ⟨p, x, l, rfl, ⟨d, e1, e2⟩, q⟩ := q
  show t_Prices_put ad (endsOf Q) [some (.ref p), some (.int x)] h
  simp only [t_Prices_put, lSeq, lSet, lRet, lRetN, lDrop, lIfS, lOp, lVar, lC, lB, lT, lAnd, lOr, lNot, lIf, lAndV, lOrV, lNotV, lNil, lCons, lTup, lLst, lCB, lBM, lSl, lPart, lNext, lFor, lIt, lRng1, lRng2, lAsg, lPar, lSetI, lSetA, lAugS, lLc, lZip, lNeg, lCall, lChain, List.getElem?_cons_zero, List.getElem?_cons_succ, List.set_cons_zero, List.set_cons_succ, truE, wipeE, intP, intE, lGet2, lAttr, attrE, e1, e2, List.lookup_cons, beq_self_eq_true, List.getElem?_cons_zero, isDct, isKey, true_and]
  rcases tab_getK l x with e | ⟨e, e3⟩
  · rw [e]; exact ia_t at1 q
  · rw [e]; rw [e3] at q; simpa [ixA, ixE, atI_1] using q
theorem len_step_price (ad : Ad) (evs : List EV) (h : EH) (Q : EK) (q : sp_step_price ad evs h Q) : evs.length = ["step", "point", "left", "right", "prices"].length := by
  obtain ⟨_, _, _, _, _, _, _, rfl, _⟩ := q; rfl
theorem pure_step_price (ad : Ad) (evs : List EV) (h : EH) (Q : EK) (q : sp_step_price ad evs h Q) : t_step_price ad (endsOf Q) (startE N_step_price evs) h := by
  obtain ⟨c, i, j, l, r, p, t, rfl, hc, hd, ⟨d, e1, e2⟩, q⟩ := q
  show t_step_price ad (endsOf Q) [some (.str [c]), some (ptE i j), some (tx l), some (tx r), some (.ref p)] h
  rcases hc with rfl | rfl | rfl <;> simp [canDo] at hd <;> simp [t_step_price, lSeq, lSet, lRet, lRetN, lDrop, lIfS, lOp, lVar, lC, lB, lT, lAnd, lOr, lNot, lIf, lAndV, lOrV, lNotV, lNil, lCons, lTup, lLst, lCB, lBM, lSl, lPart, lNext, lFor, lIt, lRng1, lRng2, lAsg, lPar, lSetI, lSetA, lAugS, lLc, lZip, lNeg, lCall, lChain, List.getElem?_cons_zero, List.getElem?_cons_succ, List.set_cons_zero, List.set_cons_succ, truE, wipeE, intP, intE, lBind, Pat.bind, Pat.binds, eqE, geE, gtE, leE, ltE, intP, intE, addE, subE, lenE, ixA, ixE, isN, absE, intOf, isTy, attrE, atI_n, atI_0, atI_1, atI_2, atI_3, lYes, ptE, stepCost, hd, lMet, metK, e1] at q ⊢
  · exact q
  · exact ⟨p, _, t, rfl, ⟨d, e1, e2⟩, q⟩
  · exact ⟨p, _, t, rfl, ⟨d, e1, e2⟩, q⟩
theorem len_is_in_lag (ad : Ad) (evs : List EV) (h : EH) (Q : EK) (q : sp_is_in_lag ad evs h Q) : evs.length = ["point", "promise"].length := by
  obtain ⟨_, _, _, rfl, _⟩ := q; rfl
theorem pure_is_in_lag (ad : Ad) (evs : List EV) (h : EH) (Q : EK) (q : sp_is_in_lag ad evs h Q) : t_is_in_lag ad (endsOf Q) (startE N_is_in_lag evs) h := by
  obtain ⟨i, j, p, rfl, q⟩ := q
  show t_is_in_lag ad (endsOf Q) [some (ptE i j), some p.e] h
  cases p <;> simp [t_is_in_lag, lSeq, lSet, lRet, lRetN, lDrop, lIfS, lOp, lVar, lC, lB, lT, lAnd, lOr, lNot, lIf, lAndV, lOrV, lNotV, lNil, lCons, lTup, lLst, lCB, lBM, lSl, lPart, lNext, lFor, lIt, lRng1, lRng2, lAsg, lPar, lSetI, lSetA, lAugS, lLc, lZip, lNeg, lCall, lChain, List.getElem?_cons_zero, List.getElem?_cons_succ, List.set_cons_zero, List.set_cons_succ, truE, wipeE, intP, intE, lBind, Pat.bind, Pat.binds, eqE, geE, gtE, leE, ltE, intP, intE, addE, subE, lenE, ixA, ixE, isN, absE, intOf, isTy, attrE, atI_n, atI_0, atI_1, atI_2, atI_3, lYes, ptE, Prom.e, Prom.ok] at q ⊢ <;> exact q
theorem lcI_map {g : EH → Prop} {p : Pat} {te : LT} {env : En} {k : EH → Prop} {h : EH} (f : EV → EV) : ∀ (ys acc : List EV), acc.length + ys.length ≤ sizeLine → (∀ acc, g (h ++ [.lst acc])) →
    (∀ y ∈ ys, ∀ acc (ky : EK), ky (f y) (h ++ [.lst acc]) → lBind (h ++ [.lst acc]) p y env fun env2 => te env2 (h ++ [.lst acc]) ky) →
    k (h ++ [.lst (acc ++ ys.map f)]) → lcI g p lYes te h.length env k ys (h ++ [.lst acc])
  | [], acc, _, hg, _, fin => by
    rw [lcI]
    exact ⟨hg _, by simpa using fin⟩
  | y :: ys, acc, hl, hg, step, fin => by
    rw [lcI]
    refine ⟨hg _, ?_⟩
    have q := step y (by simp) acc (fun y' h4 => match h4[h.length]? with
      | some (.lst acc) => acc.length < sizeLine ∧ lcI g p lYes te h.length env k ys (h4.set h.length (.lst (acc ++ [y'])))
      | _ => False) ?_
    · unfold lBind at q ⊢
      split at q
      · rename_i e
        simp only [lYes, if_true]
        exact q
      · exact q.elim
    · simp only [List.length_cons] at hl
      simp only [new_at, new_set]
      refine ⟨by omega, lcI_map f ys _ (by simp; omega) hg (fun y hy => step y (List.mem_cons_of_mem _ hy)) (by simpa using fin)⟩
theorem lcO_map {g : EH → Prop} {p p1 : Pat} {ti1 : LI} {tt1 : LTt} {te : LT} {vs1 : List Nat} {env : En} {P : EK} {h : EH} (F : EV → List EV) : ∀ (xs acc : List EV), (∀ acc, g (h ++ [.lst acc])) →
    (acc ++ xs.flatMap F).length ≤ sizeLine →
    (∀ x ∈ xs, ∀ acc (k : EH → Prop), acc.length + (F x).length ≤ sizeLine → k (h ++ [.lst (acc ++ F x)]) → lBind (h ++ [.lst acc]) p x env fun env2 => ti1 env2 (h ++ [.lst acc]) fun g1 ys h4 => lcI g1 p1 tt1 te h.length (wipeE env2 vs1) k ys h4) →
    P (.ref h.length) (h ++ [.lst (acc ++ xs.flatMap F)]) → lcO g p lYes ti1 p1 tt1 te h.length vs1 env P xs (h ++ [.lst acc])
  | [], acc, hg, _, _, fin => by
    rw [lcO]
    exact ⟨hg _, by simpa using fin⟩
  | x :: xs, acc, hg, hl, step, fin => by
    rw [lcO]
    refine ⟨hg _, ?_⟩
    have hl' := hl
    rw [List.flatMap_cons] at hl'
    simp only [List.length_append] at hl'
    have q := step x (by simp) acc (fun h5 => lcO g p lYes ti1 p1 tt1 te h.length vs1 env P xs h5) (by omega) ?_
    · unfold lBind at q ⊢
      split at q
      · rename_i e
        simpa [lYes] using q
      · exact q.elim
    · exact lcO_map F xs _ hg (by simpa [List.flatMap_cons] using hl) (fun x hx => step x (List.mem_cons_of_mem _ hx)) (by simpa [List.flatMap_cons] using fin)
theorem len_all_points (ad : Ad) (evs : List EV) (h : EH) (Q : EK) (q : sp_all_points ad evs h Q) : evs.length = ["left", "right"].length := by
  obtain ⟨_, _, rfl, _⟩ := q; rfl
theorem ptsL_len (n m : Nat) : (ptsL n m).length = (n + 1) * (m + 1) := by
  unfold ptsL
  rw [List.length_flatMap]
  simp [List.map_const']
def apF (m : Nat) : EV → List EV
  | .int i => (List.range (m + 1)).map fun (j : Nat) => EV.tup [.int i, .int j]
  | _ => []
theorem pure_all_points (ad : Ad) (evs : List EV) (h : EH) (Q : EK) (q : sp_all_points ad evs h Q) : t_all_points ad (endsOf Q) (startE N_all_points evs) h := by
  obtain ⟨l, r, rfl, hl, hr, q⟩ := q
  show t_all_points ad (endsOf Q) [some (tx l), some (tx r), none, none] h
  simp [t_all_points, lSeq, lSet, lRet, lRetN, lDrop, lIfS, lOp, lVar, lC, lB, lT, lAnd, lOr, lNot, lIf, lAndV, lOrV, lNotV, lNil, lCons, lTup, lLst, lCB, lBM, lSl, lPart, lNext, lFor, lIt, lRng1, lRng2, lAsg, lPar, lSetI, lSetA, lAugS, lLc, lZip, lNeg, lCall, lChain, List.getElem?_cons_zero, List.getElem?_cons_succ, List.set_cons_zero, List.set_cons_succ, truE, wipeE, intP, intE, lBind, Pat.bind, Pat.binds, eqE, geE, gtE, leE, ltE, intP, intE, addE, subE, lenE, ixA, ixE, isN, absE, intOf, isTy, attrE, atI_n, atI_0, atI_1, atI_2, atI_3, lYes, lLc2]
  refine ⟨⟨by omega, by omega⟩, ?_⟩
  have eF : (rangeL 0 ((l.length : Int) + 1).toNat).flatMap (apF r.length) = (ptsL l.length r.length).map fun p => ptE p.1 p.2 := by
    unfold rangeL ptsL
    rw [List.flatMap_map, List.map_flatMap]
    rw [show ((l.length : Int) + 1).toNat = l.length + 1 by omega]
    simp [apF, ptE, Function.comp_def]
  have eL := congrArg List.length eF
  rw [List.length_map, ptsL_len] at eL
  have h1 : (l.length + 1) * (r.length + 1) ≤ 1001 * 1001 := Nat.mul_le_mul (by omega) (by omega)
  rw [show ((l.length : Int) + 1).toNat = l.length + 1 by omega] at eF eL
  refine lcO_map (apF r.length) _ [] (fun _ => trivial) (by simp only [List.nil_append]; rw [eL, sizeL]; omega) ?_ ?_
  · intro x hx acc k hz hk
    unfold rangeL at hx
    obtain ⟨i, hi, rfl⟩ := List.mem_map.mp hx
    simp only [apF, List.length_map, List.length_range] at hz hk
    simp [lSeq, lSet, lRet, lRetN, lDrop, lIfS, lOp, lVar, lC, lB, lT, lAnd, lOr, lNot, lIf, lAndV, lOrV, lNotV, lNil, lCons, lTup, lLst, lCB, lBM, lSl, lPart, lNext, lFor, lIt, lRng1, lRng2, lAsg, lPar, lSetI, lSetA, lAugS, lLc, lZip, lNeg, lCall, lChain, List.getElem?_cons_zero, List.getElem?_cons_succ, List.set_cons_zero, List.set_cons_succ, truE, wipeE, intP, intE, lBind, Pat.bind, Pat.binds, eqE, geE, gtE, leE, ltE, intP, intE, addE, subE, lenE, ixA, ixE, isN, absE, intOf, isTy, attrE, atI_n, atI_0, atI_1, atI_2, atI_3, lYes]
    refine ⟨⟨by omega, by omega⟩, ?_⟩
    refine lcI_map (fun v => match v with
      | .int j => EV.tup [.int i, .int j]
      | _ => .non) _ _ ?_ (fun _ => trivial) ?_ ?_
    · unfold rangeL
      simp
      omega
    · intro y hy acc ky hk2
      unfold rangeL at hy
      obtain ⟨j, hj, rfl⟩ := List.mem_map.mp hy
      simp [lSeq, lSet, lRet, lRetN, lDrop, lIfS, lOp, lVar, lC, lB, lT, lAnd, lOr, lNot, lIf, lAndV, lOrV, lNotV, lNil, lCons, lTup, lLst, lCB, lBM, lSl, lPart, lNext, lFor, lIt, lRng1, lRng2, lAsg, lPar, lSetI, lSetA, lAugS, lLc, lZip, lNeg, lCall, lChain, List.getElem?_cons_zero, List.getElem?_cons_succ, List.set_cons_zero, List.set_cons_succ, truE, wipeE, intP, intE, lBind, Pat.bind, Pat.binds, eqE, geE, gtE, leE, ltE, intP, intE, addE, subE, lenE, ixA, ixE, isN, absE, intOf, isTy, attrE, atI_n, atI_0, atI_1, atI_2, atI_3, lYes, sizeL] at hk2 ⊢
      exact hk2
    · unfold rangeL
      rw [List.map_map]
      simpa [Function.comp_def] using hk
  · rw [List.nil_append, eF]
    exact q _ _ (Keep.app _) (Nat.le_refl _) new_at
theorem len_steps_from (ad : Ad) (evs : List EV) (h : EH) (Q : EK) (q : sp_steps_from ad evs h Q) : evs.length = ["left", "right", "prices", "promise", "point"].length := by
  obtain ⟨_, _, _, _, rfl, _⟩ := q; rfl
theorem PrAt.keep {ad : Ad} {h h' : EH} {r : Nat} {l : Tab} (p : PrAt ad h r l) (k : Keep no1 h h') : PrAt ad h' r l := by
  obtain ⟨d, a, b⟩ := p
  exact ⟨d, k.at a, k.at b⟩
theorem pure_steps_from (ad : Ad) (evs : List EV) (h : EH) (Q : EK) (q : sp_steps_from ad evs h Q) : t_steps_from ad (endsOf Q) (startE N_steps_from evs) h := by
  obtain ⟨w, p, i, j, rfl, pr, q⟩ := q
  show t_steps_from ad (endsOf Q) [some (tx w.l), some (tx w.r), some (.ref p), some w.p.e, some (ptE i j), none, none, none] h
  simp only [t_steps_from, lSeq, lSet, lRet, lRetN, lDrop, lIfS, lOp, lVar, lC, lB, lT, lAnd, lOr, lNot, lIf, lAndV, lOrV, lNotV, lNil, lCons, lTup, lLst, lCB, lBM, lSl, lPart, lNext, lFor, lIt, lRng1, lRng2, lAsg, lPar, lSetI, lSetA, lAugS, lLc, lZip, lNeg, lCall, lChain, List.getElem?_cons_zero, List.getElem?_cons_succ, List.set_cons_zero, List.set_cons_succ, wipeE, intP, intE]
  refine lc_plain (fun v => match v with
    | .str [c] => if canDo w.l w.r c i j = true then some (.tup [.str [c], ptE (mvI i c) (mvJ j c)]) else none
    | _ => none) _ (by rw [sizeL]; decide) (fun acc => trivial) (fun x hx acc ky kn hy hn => ?_) ?_
  · obtain ⟨c, hc, rfl⟩ : ∃ c, isStep c ∧ x = .str [c] := by
      simp at hx
      rcases hx with rfl | rfl | rfl
      · exact ⟨107, .inl rfl, rfl⟩
      · exact ⟨100, .inr (.inl rfl), rfl⟩
      · exact ⟨112, .inr (.inr rfl), rfl⟩
    simp only [lSeq, lSet, lRet, lRetN, lDrop, lIfS, lOp, lVar, lC, lB, lT, lAnd, lOr, lNot, lIf, lAndV, lOrV, lNotV, lNil, lCons, lTup, lLst, lCB, lBM, lSl, lPart, lNext, lFor, lIt, lRng1, lRng2, lAsg, lPar, lSetI, lSetA, lAugS, lLc, lZip, lNeg, lCall, lChain, List.getElem?_cons_zero, List.getElem?_cons_succ, List.set_cons_zero, List.set_cons_succ, truE, wipeE, intP, intE, lBind, Pat.bind, Pat.binds, eqE, geE, gtE, leE, ltE, intP, intE, addE, subE, lenE, ixA, ixE, isN, absE, intOf, isTy, attrE, atI_n, atI_0, atI_1, atI_2, atI_3, lYes, lT]
    refine ⟨c, i, j, _, _, rfl, hc, ?_⟩
    cases e : canDo w.l w.r c i j
    · exact hn (by simp [e])
    · simp only [truE, if_true]
      exact ⟨i, j, c, rfl, by simp [sizeL], hy _ (by simp [e])⟩
  · simp only [lSeq, lSet, lRet, lRetN, lDrop, lIfS, lOp, lVar, lC, lB, lT, lAnd, lOr, lNot, lIf, lAndV, lOrV, lNotV, lNil, lCons, lTup, lLst, lCB, lBM, lSl, lPart, lNext, lFor, lIt, lRng1, lRng2, lAsg, lPar, lSetI, lSetA, lAugS, lLc, lZip, lNeg, lCall, lChain, List.getElem?_cons_zero, List.getElem?_cons_succ, List.set_cons_zero, List.set_cons_succ, wipeE, intP, intE, List.getElem?_append_right, Nat.le_refl, Nat.sub_self, new_at]
    refine lc_plain (fun v => match v with
      | .tup [.str [c], _] => if w.p.ok (mvI i c) (mvJ j c) = true then some (w.stpE i j c) else none
      | _ => none) _ (by rw [sizeL]; exact Nat.le_trans (List.length_filterMap_le _ _) (by decide)) (fun acc => app_at new_at _) (fun x hx acc ky kn hy hn => ?_) ?_
    · obtain ⟨c, hc, hd, rfl⟩ : ∃ c, isStep c ∧ canDo w.l w.r c i j = true ∧ x = .tup [.str [c], ptE (mvI i c) (mvJ j c)] := by
        obtain ⟨y, hy, e⟩ := List.mem_filterMap.mp hx
        simp at hy
        rcases hy with rfl | rfl | rfl <;> simp at e
        · exact ⟨107, .inl rfl, e.1, e.2.symm⟩
        · exact ⟨100, .inr (.inl rfl), e.1, e.2.symm⟩
        · exact ⟨112, .inr (.inr rfl), e.1, e.2.symm⟩
      simp only [lSeq, lSet, lRet, lRetN, lDrop, lIfS, lOp, lVar, lC, lB, lT, lAnd, lOr, lNot, lIf, lAndV, lOrV, lNotV, lNil, lCons, lTup, lLst, lCB, lBM, lSl, lPart, lNext, lFor, lIt, lRng1, lRng2, lAsg, lPar, lSetI, lSetA, lAugS, lLc, lZip, lNeg, lCall, lChain, List.getElem?_cons_zero, List.getElem?_cons_succ, List.set_cons_zero, List.set_cons_succ, truE, wipeE, intP, intE, lBind, Pat.bind, Pat.binds, eqE, geE, gtE, leE, ltE, intP, intE, addE, subE, lenE, ixA, ixE, isN, absE, intOf, isTy, attrE, atI_n, atI_0, atI_1, atI_2, atI_3, lYes, lT]
      refine ⟨_, _, w.p, rfl, ?_⟩
      cases e : w.p.ok (mvI i c) (mvJ j c)
      · exact hn (by simp [e])
      · simp only [truE, if_true]
        refine ⟨c, i, j, _, _, p, w.c, rfl, hc, hd, pr.keep ((Keep.app _).trans (Keep.app _)), by simp [sizeL], hy _ (by simp [e, Wd.stpE])⟩
    · refine q _ _ ((Keep.app _).trans (Keep.app _)) (by simp) ?_
      rw [new_at]
      unfold Wd.stp
      cases e1 : canDo w.l w.r 107 i j <;> cases e2 : canDo w.l w.r 100 i j <;> cases e3 : canDo w.l w.r 112 i j <;> cases f1 : w.p.ok (mvI i 107) (mvJ j 107) <;> cases f2 : w.p.ok (mvI i 100) (mvJ j 100) <;> cases f3 : w.p.ok (mvI i 112) (mvJ j 112) <;> simp [e1, e2, e3, f1, f2, f3]
end Y

namespace Y
open PySem PySem.Spec PyProof.Rows L2

def optE : Option Int → EV
  | none => .non
  | some i => .int i
abbrev Tbl := Nat → Nat → Option Int
def rowE (m : Nat) (f : Nat → Option Int) : List EV := (List.range (m + 1)).map fun j => optE (f j)
theorem rowE_at {m j : Nat} {f : Nat → Option Int} (h : j ≤ m) : (rowE m f)[j]? = some (optE (f j)) := by
  unfold rowE
  rw [List.getElem?_map, List.getElem?_range (by omega)]; rfl
theorem rowE_len (m : Nat) (f : Nat → Option Int) : (rowE m f).length = m + 1 := by simp [rowE]
def RowsAt (h : EH) (b t r n m : Nat) (R : Tbl) : Prop := ∃ rs : List Nat, h[r]? = some (.lst (rs.map EV.ref)) ∧ rs.length = n + 1 ∧ rs.Nodup ∧ r ∉ rs ∧ (b ≤ r ∧ r < t) ∧ (∀ q ∈ rs, b ≤ q ∧ q < t) ∧ ∀ (i q : Nat), rs[i]? = some q → h[q]? = some (.lst (rowE m (R i)))
def upd (R : Tbl) (i j : Nat) (v : Option Int) : Tbl := fun a b => if a = i ∧ b = j then v else R a b
theorem RowsAt.row {h : EH} {b t r n m : Nat} {R : Tbl} (z : RowsAt h b t r n m R) {i : Nat} (hi : i ≤ n) : ∃ q xs, h[r]? = some (.lst xs) ∧ xs[i]? = some (.ref q) ∧ xs.length = n + 1 ∧ (b ≤ q ∧ q < t) ∧ q ≠ r ∧ h[q]? = some (.lst (rowE m (R i))) := by
  obtain ⟨rs, e, l, nd, nr, br, bq, z⟩ := z
  have hl : i < rs.length := by omega
  have e1 : rs[i]? = some rs[i] := List.getElem?_eq_getElem hl
  have hm := List.getElem_mem hl
  exact ⟨rs[i], _, e, by rw [List.getElem?_map, e1]; rfl, by simpa using l, bq _ hm, fun z => nr (by rw [← z]; exact hm), z _ _ e1⟩
theorem RowsAt.lt {h : EH} {b t r n m : Nat} {R : Tbl} (z : RowsAt h b t r n m R) : b ≤ r ∧ r < t := z.choose_spec.2.2.2.2.1
theorem rowE_set {m i j : Nat} {R : Tbl} {v : Option Int} (hj : j ≤ m) : (rowE m (R i)).set j (optE v) = rowE m (upd R i j v i) := by
  refine List.ext_getElem? fun k => ?_
  rw [List.getElem?_set]
  by_cases e : j = k
  · subst e
    have e2 := rowE_at (f := upd R i j v i) hj
    rw [if_pos rfl, rowE_len, if_pos (by omega), e2]
    unfold upd
    rw [if_pos ⟨rfl, rfl⟩]
  · rw [if_neg e]
    unfold rowE
    rw [List.getElem?_map, List.getElem?_map]
    by_cases hk : k < m + 1
    · rw [List.getElem?_range hk]
      exact congrArg (fun z => some (optE z)) (if_neg fun z => e z.2.symm).symm
    · rw [List.getElem?_eq_none (by simp; omega)]; rfl
theorem RowsAt.set {h : EH} {b t r n m i j q : Nat} {R : Tbl} {v : Option Int} {xs : List EV} (z : RowsAt h b t r n m R) (e : h[r]? = some (.lst xs)) (a : xs[i]? = some (.ref q)) (hj : j ≤ m) :
    RowsAt (h.set q (.lst ((rowE m (R i)).set j (optE v)))) b t r n m (upd R i j v) := by
  obtain ⟨rs, e', l, nd, nr, br, bq, z⟩ := z
  rw [e'] at e
  cases e
  rw [List.getElem?_map] at a
  obtain ⟨q', e1, e2⟩ := Option.map_eq_some_iff.mp a
  cases e2
  have hm := List.mem_of_getElem? e1
  have z1 := z _ _ e1
  refine ⟨rs, set_off e' (fun y => nr (by rw [y]; exact hm)), l, nd, nr, br, bq, fun k q2 hk => ?_⟩
  by_cases ek : k = i
  · subst ek
    rw [e1] at hk
    cases hk
    rw [set_at z1, rowE_set hj]
  · have ne : q2 ≠ q := by
      rintro rfl
      obtain ⟨l1, h1⟩ := List.getElem?_eq_some_iff.mp hk
      obtain ⟨l2, h2⟩ := List.getElem?_eq_some_iff.mp e1
      exact ek ((List.getElem_inj nd).mp (h1.trans h2.symm))
    rw [set_off (z _ _ hk) ne]
    refine congrArg (fun f => some (EO.lst (rowE m f))) (funext fun x => ?_)
    simp [upd, ek]
theorem setA_row {h : EH} {q m j : Nat} {f : Nat → Option Int} {v : EV} {P : EH → Prop} (z : h[q]? = some (.lst (rowE m f))) (hj : j ≤ m) (p : P (h.set q (.lst ((rowE m f).set j v)))) : setA (.ref q) (.int j) v h P :=
  sa_l z (k := j) (by unfold ixN; rw [if_pos (by omega), if_pos (by rw [rowE_len]; omega)]; simp) p
theorem RowsAt.keep {h h' : EH} {b t r n m : Nat} {R : Tbl} (z : RowsAt h b t r n m R) (k : Keep no1 h h') : RowsAt h' b t r n m R := by
  obtain ⟨rs, e, l, nd, nr, br, bq, z⟩ := z
  exact ⟨rs, k.at e, l, nd, nr, br, bq, fun i q hq => k.at (z i q hq)⟩
theorem RowsAt.more {h : EH} {b t t' r n m : Nat} {R : Tbl} (z : RowsAt h b t r n m R) (l : t ≤ t') : RowsAt h b t' r n m R := by
  obtain ⟨rs, e, l', nd, nr, br, bq, z⟩ := z
  exact ⟨rs, e, l', nd, nr, ⟨br.1, by omega⟩, fun q hq => ⟨(bq q hq).1, Nat.lt_of_lt_of_le (bq q hq).2 l⟩, z⟩
theorem atI_last' {α : Type} {xs : List α} {n : Nat} (l : xs.length = n + 1) : atI xs (n : Int) = atI xs (-1) := by
  unfold atI ixN
  rw [if_pos (by omega), if_pos (by omega), if_neg (by omega), if_pos (by omega)]
  have e : ((-1 : Int) + ((xs.length : Nat) : Int)).toNat = n := by omega
  have e2 : (n : Int).toNat = n := by omega
  simp only [e2]
  first | rw [e] | (congr 1; omega)
theorem RowsAt.congr {h : EH} {b t r n m : Nat} {R R' : Tbl} (z : RowsAt h b t r n m R) (e : ∀ i j, i ≤ n → j ≤ m → R i j = R' i j) : RowsAt h b t r n m R' := by
  obtain ⟨rs, e', l, nd, nr, br, bq, z⟩ := z
  refine ⟨rs, e', l, nd, nr, br, bq, fun i q hq => ?_⟩
  rw [z i q hq]
  have hi := (List.getElem?_eq_some_iff.mp hq).1
  unfold rowE
  refine congrArg (fun l => some (EO.lst l)) (List.map_congr_left fun j hj => ?_)
  simp at hj
  rw [e i j (by omega) (by omega)]
def Wd.g (w : Wd) : GridOf where
  same i j := decide (w.l.getD i 0 = w.r.getD j 0)
  drop i := (cost w.c (w.l.getD i 0)).1
  put j := (cost w.c (w.r.getD j 0)).2
  lag := w.p.ok
abbrev Wd.n (w : Wd) : Nat := w.l.length
abbrev Wd.m (w : Wd) : Nat := w.r.length
def Wd.relax (w : Wd) (i j : Nat) (here : Int) : Tbl → List Nat → Tbl
  | R, [] => R
  | R, c :: cs => Wd.relax w i j here (upd R (mvI i c) (mvJ j c) (omin (R (mvI i c) (mvJ j c)) (some (here + stepCost (cost w.c) w.l w.r c i j)))) cs
theorem Wd.relax_at (w : Wd) (i j : Nat) (here : Int) (R : Tbl) (a b : Nat) : w.relax i j here R (w.stp i j) a b =
    if a = i + 1 ∧ b = j + 1 then (if (canDo w.l w.r 107 i j && w.p.ok (i + 1) (j + 1)) = true then omin (R a b) (some here) else R a b)
    else if a = i + 1 ∧ b = j then (if (canDo w.l w.r 100 i j && w.p.ok (i + 1) j) = true then omin (R a b) (some (here + w.g.drop i)) else R a b)
    else if a = i ∧ b = j + 1 then (if (canDo w.l w.r 112 i j && w.p.ok i (j + 1)) = true then omin (R a b) (some (here + w.g.put j)) else R a b)
    else R a b := by
  have e2 : w.g.drop i = (cost w.c (w.l.getD i 0)).1 := rfl
  have e3 : w.g.put j = (cost w.c (w.r.getD j 0)).2 := rfl
  rw [e2, e3]
  unfold Wd.stp
  simp only [List.filter_cons, List.filter_nil]
  have m1 : mvI i 107 = i + 1 := rfl
  have m2 : mvI i 100 = i + 1 := rfl
  have m3 : mvI i 112 = i := rfl
  have m4 : mvJ j 107 = j + 1 := rfl
  have m5 : mvJ j 100 = j := rfl
  have m6 : mvJ j 112 = j + 1 := rfl
  simp only [m1, m2, m3, m4, m5, m6]
  by_cases h1 : a = i + 1 ∧ b = j + 1
  · obtain ⟨rfl, rfl⟩ := h1
    split <;> split <;> split <;> simp [Wd.relax, upd, stepCost, m1, m2, m3, m4, m5, m6]
  by_cases h2 : a = i + 1 ∧ b = j
  · obtain ⟨rfl, rfl⟩ := h2
    split <;> split <;> split <;> simp [Wd.relax, upd, stepCost, m1, m2, m3, m4, m5, m6]
  by_cases h3 : a = i ∧ b = j + 1
  · obtain ⟨rfl, rfl⟩ := h3
    split <;> split <;> split <;> simp [Wd.relax, upd, stepCost, m1, m2, m3, m4, m5, m6]
  rw [if_neg h1, if_neg h2, if_neg h3]
  split <;> split <;> split <;> simp [Wd.relax, upd, stepCost, m1, m2, m3, m4, m5, m6, h1, h2, h3]
theorem Wd.relax_part (w : Wd) {done : Nat → Nat → Bool} {i j : Nat} {here : Int} (hd : done i j = false) (hb : w.g.best i j = some here) (a b : Nat) (ha : a ≤ w.n) (hb' : b ≤ w.m) :
    w.relax i j here (w.g.part done) (w.stp i j) a b = w.g.part (mark done i j) a b := by
  have lg : ∀ x y, w.g.lag x y = w.p.ok x y := fun _ _ => rfl
  have e1 : w.g.same i j = decide (w.l.getD i 0 = w.r.getD j 0) := rfl
  have f1 : ∀ x y, ¬w.p.ok x y = true → (0 < x ∨ 0 < y) → w.g.part done x y = none := by
    intro x y hxy h0
    match x, y with
    | 0, 0 => omega
    | x + 1, 0 => rw [GridOf.part, lg, if_neg hxy]
    | 0, y + 1 => rw [GridOf.part, lg, if_neg hxy]
    | x + 1, y + 1 => rw [GridOf.part, lg, if_neg hxy]
  rw [w.relax_at]
  by_cases h1 : a = i + 1 ∧ b = j + 1
  · obtain ⟨rfl, rfl⟩ := h1
    rw [if_pos ⟨rfl, rfl⟩, w.g.part_diag hd, lg, hb, e1]
    by_cases hl : w.p.ok (i + 1) (j + 1) = true
    · have c1 : canDo w.l w.r 107 i j = decide (w.l.getD i 0 = w.r.getD j 0) := by
        simp only [Wd.n, Wd.m] at ha hb'
        simp [canDo, show i < w.l.length by omega, show j < w.r.length by omega]
      rw [c1, hl, Bool.and_true, if_pos rfl]
      split
      · rfl
      · rw [omin_none]
    · rw [if_neg hl, f1 _ _ hl (by omega)]
      simp [hl]
  rw [if_neg h1]
  by_cases h2 : a = i + 1 ∧ b = j
  · obtain ⟨rfl, rfl⟩ := h2
    rw [if_pos ⟨rfl, rfl⟩, w.g.part_down hd, lg, hb]
    by_cases hl : w.p.ok (i + 1) b = true
    · have c1 : canDo w.l w.r 100 i b = true := by
        simp only [Wd.n] at ha
        simp [canDo, show i < w.l.length by omega]
      rw [c1, hl, Bool.and_true, if_pos rfl]
      rfl
    · rw [if_neg hl, f1 _ _ hl (by omega)]
      simp [hl]
  rw [if_neg h2]
  by_cases h3 : a = i ∧ b = j + 1
  · obtain ⟨rfl, rfl⟩ := h3
    rw [if_pos ⟨rfl, rfl⟩, w.g.part_right hd, lg, hb]
    by_cases hl : w.p.ok a (j + 1) = true
    · have c1 : canDo w.l w.r 112 a j = true := by
        simp only [Wd.m] at hb'
        simp [canDo, show j < w.r.length by omega]
      rw [c1, hl, Bool.and_true, if_pos rfl]
      rfl
    · rw [if_neg hl, f1 _ _ hl (by omega)]
      simp [hl]
  rw [if_neg h3, w.g.part_other h1 h2 h3]
theorem Wd.stp_le (w : Wd) {i j c : Nat} (hc : c ∈ w.stp i j) (hi : i ≤ w.l.length) (hj : j ≤ w.r.length) : mvI i c ≤ w.l.length ∧ mvJ j c ≤ w.r.length := by
  unfold Wd.stp at hc
  simp only [List.mem_filter, List.mem_cons, List.not_mem_nil, or_false, Bool.and_eq_true] at hc
  obtain ⟨rfl | rfl | rfl, hd, _⟩ := hc <;> simp [canDo] at hd <;> simp [mvI, mvJ] <;> omega
theorem Wd.relax_snoc (w : Wd) (i j : Nat) (here : Int) (R : Tbl) (dn : List Nat) (c : Nat) : w.relax i j here R (dn ++ [c]) = upd (w.relax i j here R dn) (mvI i c) (mvJ j c) (omin (w.relax i j here R dn (mvI i c) (mvJ j c)) (some (here + stepCost (cost w.c) w.l w.r c i j))) := by
  induction dn generalizing R with
  | nil => rfl
  | cons a dn ih => rw [List.cons_append, Wd.relax, ih]; rfl
def ToldRows (h : EH) (n m : Nat) (R : Tbl) (Q : EK) : Prop := ∀ r h', Keep no1 h h' → RowsAt h' h.length h'.length r n m R → Q (.ref r) h'
def sp_grid (ad : Ad) : LSp := fun evs h Q => ∃ (w : Wd) (p : Nat), evs = [tx w.l, tx w.r, .ref p, w.p.e] ∧ PrAt ad h p w.c ∧ w.n ≤ 1000 ∧ w.m ≤ 1000 ∧ ToldRows h w.n w.m w.g.best Q
def sp_least (ad : Ad) : LSp := fun evs h Q => ∃ (w : Wd) (p : Nat), evs = [tx w.l, tx w.r, .ref p, w.p.e] ∧ PrAt ad h p w.c ∧ w.n ≤ 1000 ∧ w.m ≤ 1000 ∧ ∀ h', Keep no1 h h' → Q (optE (w.g.best w.n w.m)) h'
abbrev N_grid : List Str := ["left", "right", "prices", "promise", "rows", "point", "here", "step", "i", "j", "cost"]
def t_grid (ad : Ad) : LS :=
    lSeq (lSet (lLc (lRng1 (lCons (lOp addE (lCB lenE (lCons (lVar 0) (lNil))) (lC (.int 1))) (lNil))) (.nm 8) (lYes) (lOp mulE (lLst (lCons (lC .non) (lNil))) (lOp addE (lCB lenE (lCons (lVar 1) (lNil))) (lC (.int 1)))) [8]) 4) <|
    lSeq (lSetA (lOp ixA (lVar 4) (lC (.int 0))) (lC (.int 0)) (lC (.int 0))) <|
    lSeq (lFor (lIt (lCall (sp_all_points ad) (lCons (lVar 0) (lCons (lVar 1) (lNil))))) (.nm 5)
      (lSeq (lSet (lOp ixA (lOp ixA (lVar 4) (lOp ixA (lVar 5) (lC (.int 0)))) (lOp ixA (lVar 5) (lC (.int 1)))) 6) <|
    lIfS (lB (lOp (isN true) (lVar 6) (lC .non)))
      (lFor (lIt (lCall (sp_steps_from ad) (lCons (lVar 0) (lCons (lVar 1) (lCons (lVar 2) (lCons (lVar 3) (lCons (lVar 5) (lNil)))))))) (.tp [.nm 7, .tp [.nm 8, .nm 9], .nm 10])
      (lIfS (lOr (lB (lOp (isN false) (lOp ixA (lOp ixA (lVar 4) (lVar 8)) (lVar 9)) (lC .non))) (lB (lOp ltE (lOp addE (lVar 6) (lVar 10)) (lOp ixA (lOp ixA (lVar 4) (lVar 8)) (lVar 9)))))
      (lSetA (lOp ixA (lVar 4) (lVar 8)) (lVar 9) (lOp addE (lVar 6) (lVar 10)))
      (lNext)))
      (lNext))) <|
    lRet (lVar 4)
abbrev N_least : List Str := ["left", "right", "prices", "promise"]
def t_least (ad : Ad) : LS :=
    lRet (lOp ixA (lOp ixA (lCall (sp_grid ad) (lCons (lVar 0) (lCons (lVar 1) (lCons (lVar 2) (lCons (lVar 3) (lNil)))))) (lNeg (lC (.int 1)))) (lNeg (lC (.int 1))))
theorem len_grid (ad : Ad) (evs : List EV) (h : EH) (Q : EK) (q : sp_grid ad evs h Q) : evs.length = ["left", "right", "prices", "promise"].length := by
  obtain ⟨_, _, rfl, _⟩ := q; rfl
theorem len_least (ad : Ad) (evs : List EV) (h : EH) (Q : EK) (q : sp_least ad evs h Q) : evs.length = ["left", "right", "prices", "promise"].length := by
  obtain ⟨_, _, rfl, _⟩ := q; rfl
theorem repN_one (k : Nat) (x : EV) : repN (k : Int) [x] = List.replicate k x := by
  unfold repN
  simp [List.flatten_replicate_singleton]
theorem rowE_none (m : Nat) : List.replicate (m + 1) EV.non = rowE m fun _ => none := by
  unfold rowE
  rw [List.map_const', List.length_range]; rfl
theorem rows_none {h : EH} {n m : Nat} {env : En} {P : EK} {p : Pat} {ta : LT} {i : Nat} (hn : n ≤ 1000) (hm : m ≤ 1000) (hp : p = .nm i)
    (hta : ∀ (v : EV) (h1 : EH) (P1 : EK), P1 (.int (m + 1 : Nat)) h1 → ta (env.set i (some v)) h1 P1)
    (fin : ∀ r h', Keep no1 h h' → RowsAt h' h.length h'.length r n m (fun _ _ => none) → P (.ref r) h') :
    lcE lTrue p lYes (lOp mulE (lLst (lCons (lC .non) lNil)) ta) h.length env P (rangeL 0 (n + 1)) (h ++ [.lst []]) := by
  subst hp
  refine lc_ind (fun left acc h' => ∃ rs : List Nat, acc = rs.map EV.ref ∧ rs.Nodup ∧ (∀ q ∈ rs, h.length < q ∧ q < h'.length ∧ h'[q]? = some (.lst (rowE m fun _ => none))) ∧ rs.length + left.length = n + 1 ∧ Keep no1 h h' ∧ h.length < h'.length ∧ ∀ v ∈ left, ∃ k : Int, v = .int k) ?_ ?_ _ [] _ new_at ⟨[], rfl, List.nodup_nil, by simp, by simp [rangeL], Keep.app _, by simp, fun v hv => ?_⟩
  · rintro acc h4 ⟨rs, rfl, nd, z, l, k, _, _⟩ e4
    refine ⟨trivial, fin _ _ k ⟨rs, e4, by simpa using l, nd, fun y => Nat.lt_irrefl _ (z _ y).1, ⟨Nat.le_refl _, lt_of_at e4⟩, fun q hq => ⟨Nat.le_of_lt (z q hq).1, (z q hq).2.1⟩, fun i q hq => (z q (List.mem_of_getElem? hq)).2.2⟩⟩
  · rintro x left acc h4 ky kn ⟨rs, rfl, nd, z, l, k, lt, hle⟩ e4 hky _
    obtain ⟨xi, rfl⟩ := hle x (by simp)
    refine ⟨trivial, bind_nm ?_⟩
    simp only [lYes, lOp, lLst, lCons, lC, lNil, if_true]
    refine ⟨by simp [sizeL], hta _ _ _ ?_⟩
    simp only [mulE, new_at]
    refine ⟨⟨by omega, by omega, by rw [sizeL]; simp; omega⟩, ?_⟩
    have hr : repN ((m + 1 : Nat) : Int) [EV.non] = rowE m fun _ => none := by rw [repN_one, rowE_none]
    rw [hr]
    have h5 : (h4 ++ [EO.lst [.non]] ++ [.lst (rowE m fun _ => none)])[(h4 ++ [EO.lst [EV.non]]).length]? = some (.lst (rowE m fun _ => none)) := new_at
    simp only [List.length_append, List.length_singleton] at h5 ⊢
    simp only [List.length_cons] at l
    refine hky _ _ (app_at (app_at e4 _) _) (by rw [List.length_map, sizeL]; omega) ⟨rs ++ [h4.length + 1], by simp, ?_, ?_, by simp; omega, ((k.trans (Keep.app _)).trans (Keep.app _)).fresh (Nat.le_refl _), by simp; omega, fun v hv => hle v (List.mem_cons_of_mem _ hv)⟩
    · rw [List.nodup_append]
      refine ⟨nd, by simp, fun a ha b hb => ?_⟩
      have := (z a ha).2.1
      simp at hb
      omega
    · intro q hq
      rcases List.mem_append.mp hq with y | y
      · obtain ⟨a, b, c⟩ := z q y
        exact ⟨a, by simp; omega, set_off (app_at (app_at c _) _) (by omega)⟩
      · have : q = h4.length + 1 := by simpa using y
        subst this
        exact ⟨by omega, by simp, set_off h5 (by omega)⟩
  · unfold rangeL at hv
    obtain ⟨i, _, rfl⟩ := List.mem_map.mp hv
    exact ⟨_, rfl⟩
theorem pure_grid (ad : Ad) (evs : List EV) (h : EH) (Q : EK) (q : sp_grid ad evs h Q) : t_grid ad (endsOf Q) (startE N_grid evs) h := by
  obtain ⟨w, p, rfl, pr, hn, hm, q⟩ := q
  simp only [Wd.n, Wd.m] at hn hm q
  show t_grid ad (endsOf Q) [some (tx w.l), some (tx w.r), some (.ref p), some w.p.e, none, none, none, none, none, none, none] h
  unfold t_grid
  rw [lSeq]
  simp only [lSeq, lSet, lRet, lRetN, lDrop, lIfS, lOp, lVar, lC, lB, lT, lAnd, lOr, lNot, lIf, lAndV, lOrV, lNotV, lNil, lCons, lTup, lLst, lCB, lBM, lSl, lPart, lNext, lFor, lIt, lRng1, lRng2, lAsg, lPar, lSetI, lSetA, lAugS, lLc, lZip, lNeg, lCall, lChain, List.getElem?_cons_zero, List.getElem?_cons_succ, List.set_cons_zero, List.set_cons_succ, truE, wipeE, intP, intE, tx, lenE, addE, List.length_map]
  refine ⟨⟨by omega, by omega⟩, ?_⟩
  rw [show ((w.l.length : Int) + 1).toNat = w.l.length + 1 by omega]
  refine rows_none hn hm rfl (fun v h1 P1 q1 => by simpa [lSeq, lSet, lRet, lRetN, lDrop, lIfS, lOp, lVar, lC, lB, lT, lAnd, lOr, lNot, lIf, lAndV, lOrV, lNotV, lNil, lCons, lTup, lLst, lCB, lBM, lSl, lPart, lNext, lFor, lIt, lRng1, lRng2, lAsg, lPar, lSetI, lSetA, lAugS, lLc, lZip, lNeg, lCall, lChain, List.getElem?_cons_zero, List.getElem?_cons_succ, List.set_cons_zero, List.set_cons_succ, truE, wipeE, intP, intE, lBind, Pat.bind, Pat.binds, eqE, geE, gtE, leE, ltE, intP, intE, addE, subE, lenE, ixA, ixE, isN, absE, intOf, isTy, attrE, atI_n, atI_0, atI_1, atI_2, atI_3, lYes] using q1) fun r h1 k1 t1 => ?_
  obtain ⟨qr, xs, ex, ax, lx, bq, nq, zx⟩ := t1.row (Nat.zero_le _)
  simp only [ixA, ixE, ex, atI_0, ax]
  refine setA_row (j := 0) zx (Nat.zero_le _) ?_
  have t2 := t1.set (v := some 0) ex ax (Nat.zero_le _)
  have k2 : Keep no1 h _ := k1.fresh (o := .lst ((rowE w.r.length fun _ => none).set 0 (.int 0))) bq.1
  have l2 : (h1.set qr (.lst ((rowE w.r.length fun _ => none).set 0 (.int 0)))).length = h1.length := by simp
  simp only [optE] at t2
  generalize h1.set qr (.lst ((rowE w.r.length fun _ => none).set 0 (.int 0))) = h2 at t2 k2 l2 ⊢
  generalize h1.length = T at t1 t2 l2 bq
  refine ⟨_, _, rfl, hn, hm, fun r3 h3 k3 b3 e3 => ?_⟩
  have t3 := t2.keep k3
  have k3' := k2.trans k3
  have hT := k3.1
  simp only [e3]
  have t4 : RowsAt h3 h.length T r w.l.length w.r.length (w.g.part (inL [])) := t3.congr fun i j _ _ => by
    rw [GridOf.part_nil]; simp [upd]
  refine loop_ind (fun left env h' => ∃ (pre post : List (Nat × Nat)) (x5 x6 x7 x8 x9 x10 : Option EV), ptsL w.l.length w.r.length = pre ++ post ∧ left = post.map (fun p => ptE p.1 p.2) ∧ env = [some (tx w.l), some (tx w.r), some (.ref p), some w.p.e, some (.ref r), x5, x6, x7, x8, x9, x10] ∧ Keep no1 h h' ∧ T ≤ h'.length ∧ h'[r3]? = some (.lst ((ptsL w.l.length w.r.length).map fun p => ptE p.1 p.2)) ∧ RowsAt h' h.length T r w.l.length w.r.length (w.g.part (inL pre))) ?_ ?_ _ _ _ ⟨[], _, none, none, none, none, none, none, rfl, rfl, rfl, k3', by omega, e3, t4⟩
  · rintro env h' ⟨pre, post, x5, x6, x7, x8, x9, x10, ep, el, rfl, k, lT, e4, t⟩
    obtain rfl : post = [] := by simpa using el.symm
    refine ⟨e4, ?_⟩
    simp only [lSeq, lSet, lRet, lRetN, lDrop, lIfS, lOp, lVar, lC, lB, lT, lAnd, lOr, lNot, lIf, lAndV, lOrV, lNotV, lNil, lCons, lTup, lLst, lCB, lBM, lSl, lPart, lNext, lFor, lIt, lRng1, lRng2, lAsg, lPar, lSetI, lSetA, lAugS, lLc, lZip, lNeg, lCall, lChain, List.getElem?_cons_zero, List.getElem?_cons_succ, List.set_cons_zero, List.set_cons_succ, truE, wipeE, intP, intE]
    refine q _ _ k ((t.congr fun i j hi hj => w.g.part_best fun a b ha hb _ => ?_).more lT)
    rw [List.append_nil] at ep
    rw [← ep]
    simp only [inL, decide_eq_true_eq]
    exact ptsL_mem.mpr ⟨by show a ≤ _; omega, by show b ≤ _; omega⟩
  · rintro x left env h' kk ⟨pre, post, x5, x6, x7, x8, x9, x10, ep, el, rfl, k, lT, e4, t⟩ hk
    obtain ⟨⟨i, j⟩, post, rfl⟩ : ∃ c r, post = c :: r := by
      cases post with
      | nil => simp at el
      | cons c r => exact ⟨c, r, rfl⟩
    rw [List.map_cons, List.cons.injEq] at el
    obtain ⟨rfl, rfl⟩ := el
    refine ⟨e4, bind_nm ?_⟩
    obtain ⟨hi, hj, hnd, hall⟩ := ptsL_turn ep
    have hd : inL pre i j = false := by simpa [inL] using hnd
    have hbest : w.g.part (inL pre) i j = w.g.best i j := w.g.part_best fun a b ha hb hab => by simpa [inL] using hall a b ha hb hab
    obtain ⟨qr, xs, ex, ax, _, _, _, zx⟩ := t.row hi
    have ep' : ptsL w.l.length w.r.length = (pre ++ [(i, j)]) ++ post := by rw [ep]; simp
    simp only [lSeq, lSet, lRet, lRetN, lDrop, lIfS, lOp, lVar, lC, lB, lT, lAnd, lOr, lNot, lIf, lAndV, lOrV, lNotV, lNil, lCons, lTup, lLst, lCB, lBM, lSl, lPart, lNext, lFor, lIt, lRng1, lRng2, lAsg, lPar, lSetI, lSetA, lAugS, lLc, lZip, lNeg, lCall, lChain, List.getElem?_cons_zero, List.getElem?_cons_succ, List.set_cons_zero, List.set_cons_succ, truE, wipeE, intP, intE, lBind, Pat.bind, Pat.binds, eqE, geE, gtE, leE, ltE, intP, intE, addE, subE, lenE, ixA, ixE, isN, absE, intOf, isTy, attrE, atI_n, atI_0, atI_1, atI_2, atI_3, lYes, ptE, List.getElem?_cons_zero, List.getElem?_cons_succ, ex, ax, zx, rowE_at hj, hbest]
    cases hb : w.g.best i j with
    | none =>
      simp only [optE, Bool.not_true, Bool.false_eq_true, if_false]
      refine hk _ _ ⟨pre ++ [(i, j)], post, _, _, _, _, _, _, ep', rfl, rfl, k, lT, e4, t.congr fun a b _ _ => ?_⟩
      rw [inL_mark]
      exact (w.g.part_skip hd hb a b).symm
    | some here =>
      simp only [optE, if_true]
      refine ⟨w, p, i, j, rfl, pr.keep k, fun r5 h5 k5 b5 e5 => ?_⟩
      simp only [e5]
      have t5 := t.keep k5
      have l5 := k5.1
      refine loop_ind (fun left env h' => ∃ (dn cs : List Nat) (x7 x8 x9 x10 : Option EV), w.stp i j = dn ++ cs ∧ left = cs.map (w.stpE i j) ∧ env = [some (tx w.l), some (tx w.r), some (.ref p), some w.p.e, some (.ref r), some (ptE i j), some (.int here), x7, x8, x9, x10] ∧ Keep no1 h h' ∧ T ≤ h'.length ∧ h'[r3]? = some (.lst ((ptsL w.l.length w.r.length).map fun p => ptE p.1 p.2)) ∧ h'[r5]? = some (.lst ((w.stp i j).map (w.stpE i j))) ∧ RowsAt h' h.length T r w.l.length w.r.length (w.relax i j here (w.g.part (inL pre)) dn)) ?_ ?_ _ _ _ ⟨[], _, _, _, _, _, rfl, rfl, rfl, k.trans k5, by omega, k5.at e4, e5, t5⟩
      · rintro env h6 ⟨dn, cs, y7, y8, y9, y10, es, el, rfl, k6, l6, e46, e56, t6⟩
        obtain rfl : cs = [] := by simpa using el.symm
        refine ⟨e56, hk _ _ ⟨pre ++ [(i, j)], post, _, _, _, _, _, _, ep', rfl, rfl, k6, l6, e46, t6.congr fun a b ha hb' => ?_⟩⟩
        rw [List.append_nil] at es
        rw [← es, w.relax_part hd hb a b ha hb', inL_mark]
      · rintro x left env h6 kk2 ⟨dn, cs, y7, y8, y9, y10, es, el, rfl, k6, l6, e46, e56, t6⟩ hk2
        obtain ⟨c, cs, rfl⟩ : ∃ c r, cs = c :: r := by
          cases cs with
          | nil => simp at el
          | cons c r => exact ⟨c, r, rfl⟩
        rw [List.map_cons, List.cons.injEq] at el
        obtain ⟨rfl, rfl⟩ := el
        refine ⟨e56, ?_⟩
        have hc : c ∈ w.stp i j := by rw [es]; simp
        obtain ⟨bi, bj⟩ := w.stp_le hc hi hj
        have es' : w.stp i j = (dn ++ [c]) ++ cs := by rw [es]; simp
        obtain ⟨qr, xs, ex, ax, _, bq, _, zx⟩ := t6.row bi
        simp only [Wd.stpE, lSeq, lSet, lRet, lRetN, lDrop, lIfS, lOp, lVar, lC, lB, lT, lAnd, lOr, lNot, lIf, lAndV, lOrV, lNotV, lNil, lCons, lTup, lLst, lCB, lBM, lSl, lPart, lNext, lFor, lIt, lRng1, lRng2, lAsg, lPar, lSetI, lSetA, lAugS, lLc, lZip, lNeg, lCall, lChain, List.getElem?_cons_zero, List.getElem?_cons_succ, List.set_cons_zero, List.set_cons_succ, truE, wipeE, intP, intE, lBind, Pat.bind, Pat.binds, eqE, geE, gtE, leE, ltE, intP, intE, addE, subE, lenE, ixA, ixE, isN, absE, intOf, isTy, attrE, atI_n, atI_0, atI_1, atI_2, atI_3, lYes, ptE, List.getElem?_cons_zero, List.getElem?_cons_succ, ex, ax, zx, rowE_at bj]
        have fin : ∀ h7, Keep no1 h h7 → T ≤ h7.length → h7[r3]? = some (.lst ((ptsL w.l.length w.r.length).map fun p => ptE p.1 p.2)) → h7[r5]? = some (.lst ((w.stp i j).map (w.stpE i j))) →
            RowsAt h7 h.length T r w.l.length w.r.length (w.relax i j here (w.g.part (inL pre)) (dn ++ [c])) →
            kk2 [some (tx w.l), some (tx w.r), some (.ref p), some w.p.e, some (.ref r), some (ptE i j), some (.int here), some (.str [c]), some (.int (mvI i c)), some (.int (mvJ j c)), some (.int (stepCost (cost w.c) w.l w.r c i j))] h7 :=
          fun h7 a1 a2 a3 a4 a5 => hk2 _ _ ⟨dn ++ [c], cs, _, _, _, _, es', rfl, rfl, a1, a2, a3, a4, a5⟩
        rw [w.relax_snoc] at fin
        generalize hR : w.relax i j here (w.g.part (inL pre)) dn = R at t6 zx fin ⊢
        have doit := fun (eo : omin (R (mvI i c) (mvJ j c)) (some (here + stepCost (cost w.c) w.l w.r c i j)) = some (here + stepCost (cost w.c) w.l w.r c i j)) => by
          rw [eo] at fin
          exact setA_row (v := .int (here + stepCost (cost w.c) w.l w.r c i j)) zx bj (fin _ (k6.fresh bq.1) (by simpa using l6) (set_off e46 (by omega)) (set_off e56 (by omega)) (t6.set (v := some (here + stepCost (cost w.c) w.l w.r c i j)) ex ax bj))
        cases hv : R (mvI i c) (mvJ j c) with
        | none =>
          simp only [optE, Bool.not_false, if_true]
          exact doit (by rw [hv]; rfl)
        | some v =>
          simp only [optE, Bool.false_eq_true, if_false]
          by_cases lt : here + stepCost (cost w.c) w.l w.r c i j < v
          · simp only [lt, decide_true, if_true]
            exact doit (by rw [hv, omin]; congr 1; omega)
          · simp only [lt, decide_false, Bool.false_eq_true, if_false]
            refine fin _ k6 l6 e46 e56 (t6.congr fun a b _ _ => ?_)
            unfold upd
            split
            · rename_i e
              rw [e.1, e.2, hv, omin]; congr 1; omega
            · rfl
theorem pure_least (ad : Ad) (evs : List EV) (h : EH) (Q : EK) (q : sp_least ad evs h Q) : t_least ad (endsOf Q) (startE N_least evs) h := by
  obtain ⟨w, p, rfl, pr, hn, hm, q⟩ := q
  show t_least ad (endsOf Q) [some (tx w.l), some (tx w.r), some (.ref p), some w.p.e] h
  simp only [t_least, lSeq, lSet, lRet, lRetN, lDrop, lIfS, lOp, lVar, lC, lB, lT, lAnd, lOr, lNot, lIf, lAndV, lOrV, lNotV, lNil, lCons, lTup, lLst, lCB, lBM, lSl, lPart, lNext, lFor, lIt, lRng1, lRng2, lAsg, lPar, lSetI, lSetA, lAugS, lLc, lZip, lNeg, lCall, lChain, List.getElem?_cons_zero, List.getElem?_cons_succ, List.set_cons_zero, List.set_cons_succ, truE, wipeE, intP, intE, lNeg]
  refine ⟨w, p, rfl, pr, hn, hm, fun r h1 k1 t1 => ?_⟩
  obtain ⟨qr, xs, ex, ax, lx, _, _, zx⟩ := t1.row (Nat.le_refl _)
  have a1 : atI xs (-1) = some (.ref qr) := by
    rw [← atI_last' (n := w.n) lx]; exact (atI_n _ _).trans ax
  have a2 : atI (rowE w.m (w.g.best w.n)) (-1) = some (optE (w.g.best w.n w.m)) := by
    rw [← atI_last' (n := w.m) (rowE_len _ _)]; exact (atI_n _ _).trans (rowE_at (Nat.le_refl _))
  refine ia_l ex a1 (ia_l zx a2 ?_)
  exact q _ k1
end Y

namespace Y
open PySem PySem.Spec PyProof.Rows L2

theorem app_f {h : EH} {r : Nat} {xs : List EV} {v : EV} {P : EK} (e : h[r]? = some (.lst xs)) (hl : xs.length < sizeLine) (p : P .non (h.set r (.lst (xs ++ [v])))) : appendE (.ref r) [v] h P := by
  unfold appendE onList; simp only [e]; exact ⟨hl, p⟩
theorem ext_f {h : EH} {r r2 : Nat} {xs ys : List EV} {P : EK} (e : h[r]? = some (.lst xs)) (e2 : h[r2]? = some (.lst ys)) (hl : xs.length + ys.length ≤ sizeLine) (p : P .non (h.set r (.lst (xs ++ ys)))) : extendE (.ref r) [.ref r2] h P := by
  unfold extendE onList; simp only [e, e2]; exact ⟨hl, p⟩
theorem isTy_l {h : EH} {r : Nat} {xs : List EV} (e : h[r]? = some (.lst xs)) : isTy "list" (.ref r) h := by
  unfold isTy; simp only [e]
def sp__law_edited (ad : Ad) : LSp := fun evs h Q => ∃ (b l most : Nat) (xs ns : List Int), evs = [.ref b, tx xs, .ref l, .int most] ∧ h[l]? = some (.lst (ns.map EV.int)) ∧ ns ≠ [] ∧ ns.length ≤ 1000 ∧ l ≠ b ∧ xs.length ≤ 1000000 ∧ (∀ x ∈ xs, x ∈ ns) ∧ BagAt h b ∧
  ∀ (ms : List Int) (h' : EH), ms.length ≤ most → (∀ m ∈ ms, m ∈ ns) → Keep (is1 b) h h' → BagAt h' b → Q (tx ms) h'
abbrev N__law_edited : List Str := ["_law_bag_here", "_law_text_here", "_law_letters", "_law_most", "_law_found", "_law_letter", "_law_way"]
def t__law_edited (ad : Ad) : LS :=
    lSeq (lSet (lLst (lNil)) 4) <|
    lSeq (lFor (lIt (lVar 1)) (.nm 5)
      (lSeq (lSet (lCall (sp__law_take ad) (lCons (lVar 0) (lCons (lC (.int 9)) (lNil)))) 6) <|
    lIfS (lB (lOp (eqE false) (lVar 6) (lC (.int 0))))
      (lDrop (lBM "list" extendE (lVar 4) (lCons (lLst (lCons (lCall (sp__law_one ad) (lCons (lVar 0) (lCons (lVar 2) (lNil)))) (lCons (lVar 5) (lNil)))) (lNil))))
      (lIfS (lB (lOp (eqE false) (lVar 6) (lC (.int 1))))
      (lDrop (lBM "list" extendE (lVar 4) (lCons (lLst (lCons (lVar 5) (lCons (lVar 5) (lNil)))) (lNil))))
      (lIfS (lB (lOp (eqE false) (lVar 6) (lC (.int 2))))
      (lDrop (lBM "list" appendE (lVar 4) (lCons (lCall (sp__law_one ad) (lCons (lVar 0) (lCons (lVar 2) (lNil)))) (lNil))))
      (lIfS (lB (lOp gtE (lVar 6) (lC (.int 3))))
      (lDrop (lBM "list" appendE (lVar 4) (lCons (lVar 5) (lNil))))
      (lNext)))))) <|
    lSeq (lIfS (lB (lOp (eqE false) (lCall (sp__law_take ad) (lCons (lVar 0) (lCons (lC (.int 4)) (lNil)))) (lC (.int 0))))
      (lDrop (lBM "list" appendE (lVar 4) (lCons (lCall (sp__law_one ad) (lCons (lVar 0) (lCons (lVar 2) (lNil)))) (lNil))))
      (lNext)) <|
    lRet (lCB tupleOf (lCons (lSl (lVar 4) (lPart none) (lPart (some (lVar 3)))) (lNil)))
theorem len__law_edited (ad : Ad) (evs : List EV) (h : EH) (Q : EK) (q : sp__law_edited ad evs h Q) : evs.length = ["_law_bag_here", "_law_text_here", "_law_letters", "_law_most"].length := by
  obtain ⟨_, _, _, _, _, rfl, _⟩ := q; rfl
theorem pure__law_edited (ad : Ad) (evs : List EV) (h : EH) (Q : EK) (q : sp__law_edited ad evs h Q) : t__law_edited ad (endsOf Q) (startE N__law_edited evs) h := by
  obtain ⟨b, l, most, xs, ns, rfl, e, ne, nl, hlb, hxl, hx, B, q⟩ := q
  show t__law_edited ad (endsOf Q) [some (.ref b), some (tx xs), some (.ref l), some (.int most), none, none, none] h
  simp only [t__law_edited, lSeq, lSet, lRet, lRetN, lDrop, lIfS, lOp, lVar, lC, lB, lT, lAnd, lOr, lNot, lIf, lAndV, lOrV, lNotV, lNil, lCons, lTup, lLst, lCB, lBM, lSl, lPart, lNext, lFor, lIt, lRng1, lRng2, lAsg, lPar, lSetI, lSetA, lAugS, lLc, lZip, lNeg, lCall, lChain, List.getElem?_cons_zero, List.getElem?_cons_succ, List.set_cons_zero, List.set_cons_succ, truE, wipeE, intP, intE, List.length_nil, tx]
  refine ⟨by rw [sizeL]; decide, ?_⟩
  have hb := B.lt
  have hl := lt_of_at e
  have drw : ∀ (h2 : EH) (P : EK), Keep (is1 b) h h2 → BagAt h2 b → (∀ m h3, m ∈ ns → Keep (is1 b) h2 h3 → BagAt h3 b → P (.int m) h3) → sp__law_one ad [.ref b, .ref l] h2 P := by
    intro h2 P k2 B2 p
    refine ⟨b, l, _, rfl, k2.other e hlb, by simpa using ne, by rw [List.length_map, sizeL]; omega, hlb, B2, fun x h' hx k' B' => ?_⟩
    obtain ⟨m, hm, rfl⟩ := List.mem_map.mp hx
    exact p m h' hm k' B'
  refine loop_ind (fun left env h' => ∃ (ms rest : List Int) (x5 x6 : Option EV), left = rest.map EV.int ∧ (∀ m ∈ rest, m ∈ ns) ∧ (∀ m ∈ ms, m ∈ ns) ∧ ms.length + 2 * rest.length ≤ 2 * xs.length ∧ env = [some (.ref b), some (.tup (xs.map EV.int)), some (.ref l), some (.int most), some (.ref h.length), x5, x6] ∧ Keep (is1 b) h h' ∧ BagAt h' b ∧ h'[h.length]? = some (.lst (ms.map EV.int))) ?_ ?_ _ _ _ ⟨[], xs, none, none, rfl, hx, by simp, by simp, rfl, Keep.app _, B.keep (Keep.app _), new_at⟩
  · rintro env h' ⟨ms, rest, x5, x6, el, hr, hms, hz, rfl, k, B', e'⟩
    obtain rfl : rest = [] := by simpa using el.symm
    refine ⟨trivial, ?_⟩
    simp only [lSeq, lSet, lRet, lRetN, lDrop, lIfS, lOp, lVar, lC, lB, lT, lAnd, lOr, lNot, lIf, lAndV, lOrV, lNotV, lNil, lCons, lTup, lLst, lCB, lBM, lSl, lPart, lNext, lFor, lIt, lRng1, lRng2, lAsg, lPar, lSetI, lSetA, lAugS, lLc, lZip, lNeg, lCall, lChain, List.getElem?_cons_zero, List.getElem?_cons_succ, List.set_cons_zero, List.set_cons_succ, wipeE, intP, intE]
    refine ⟨b, 4, rfl, by decide, by decide, B', fun d h1 d0 d1 k1 B1 => ?_⟩
    refine eq_i ?_
    have e1 := k1.other e' (by omega)
    simp only [List.length_nil, Nat.mul_zero, Nat.add_zero] at hz
    have fin : ∀ (ms : List Int) h2, Keep (is1 b) h h2 → BagAt h2 b → h2[h.length]? = some (.lst (ms.map EV.int)) → (∀ m ∈ ms, m ∈ ns) → slE (.ref h.length) none (some (most : Int)) h2 fun x h1 => tupleOf [x] h1 Q := by
      intro ms h2 k2 B2 e2 hm2
      refine sl_l e2 ?_
      rw [cut_to]
      simp only [tupleOf, new_at]
      rw [← List.map_take]
      exact q _ _ (by simp; omega) (fun m hm => hm2 m (List.mem_of_mem_take hm)) (k2.trans (Keep.app _)) (B2.keep (Keep.app _))
    simp only [Bool.false_xor]
    split
    · refine ⟨isTy_l e1, drw _ _ (k.trans k1) B1 fun m h3 hm k3 B3 => ?_⟩
      have e3 := k3.other e1 (by omega)
      refine app_f e3 (by rw [List.length_map, sizeL]; omega) ?_
      exact fin (ms ++ [m]) _ (((k.trans k1).trans k3).fresh (Nat.le_refl _)) (B3.set hb) (by rw [set_at e3]; simp) (fun x hx => by
        rcases List.mem_append.mp hx with z | z
        · exact hms x z
        · rw [List.mem_singleton.mp z]; exact hm)
    · exact fin ms _ (k.trans k1) B1 e1 hms
  · rintro x left env h' kk ⟨ms, rest, x5, x6, el, hr, hms, hz, rfl, k, B', e'⟩ hk
    obtain ⟨c, rest, rfl⟩ : ∃ c r, rest = c :: r := by
      cases rest with
      | nil => simp at el
      | cons c r => exact ⟨c, r, rfl⟩
    rw [List.map_cons, List.cons.injEq] at el
    obtain ⟨rfl, rfl⟩ := el
    refine ⟨trivial, bind_nm ?_⟩
    simp only [lSeq, lSet, lRet, lRetN, lDrop, lIfS, lOp, lVar, lC, lB, lT, lAnd, lOr, lNot, lIf, lAndV, lOrV, lNotV, lNil, lCons, lTup, lLst, lCB, lBM, lSl, lPart, lNext, lFor, lIt, lRng1, lRng2, lAsg, lPar, lSetI, lSetA, lAugS, lLc, lZip, lNeg, lCall, lChain, List.getElem?_cons_zero, List.getElem?_cons_succ, List.set_cons_zero, List.set_cons_succ, wipeE, intP, intE]
    refine ⟨b, 9, rfl, by decide, by decide, B', fun d h1 d0 d1 k1 B1 => ?_⟩
    have e1 := k1.other e' (by omega)
    have k01 := k.trans k1
    simp only [List.length_cons] at hz
    have hcm : c ∈ ns := hr c (by simp)
    have fin : ∀ (ys : List Int) h2, Keep (is1 b) h h2 → BagAt h2 b → h2[h.length]? = some (.lst (ms.map EV.int)) → (∀ m ∈ ys, m ∈ ns) → ys.length ≤ 2 → kk [some (.ref b), some (.tup (xs.map EV.int)), some (.ref l), some (.int most), some (.ref h.length), some (.int c), some (.int d)] (h2.set h.length (.lst (ms.map EV.int ++ ys.map EV.int))) := by
      intro ys h2 k2 B2 e2 hy hyl
      refine hk _ _ ⟨ms ++ ys, rest, _, _, rfl, fun m hm => hr m (by simp [hm]), fun m hm => ?_, by simp; omega, rfl, k2.fresh (Nat.le_refl _), B2.set hb, by rw [set_at e2]; simp⟩
      rcases List.mem_append.mp hm with z | z
      · exact hms m z
      · exact hy m z
    refine eq_i ?_
    simp only [Bool.false_xor]
    split
    · refine ⟨isTy_l e1, drw _ _ k01 B1 fun m h3 hm k3 B3 => ⟨by simp [sizeL], ?_⟩⟩
      have e3 := k3.other e1 (by omega)
      refine ext_f (app_at e3 _) new_at (by simp [sizeL]; omega) ?_
      exact fin [m, c] _ ((k01.trans k3).trans (Keep.app _)) (B3.keep (Keep.app _)) (app_at e3 _) (by simp [hm, hcm]) (by simp)
    · refine eq_i ?_
      simp only [Bool.false_xor]
      split
      · refine ⟨isTy_l e1, by simp [sizeL], ?_⟩
        refine ext_f (app_at e1 _) new_at (by simp [sizeL]; omega) ?_
        exact fin [c, c] _ (k01.trans (Keep.app _)) (B1.keep (Keep.app _)) (app_at e1 _) (by simp [hcm]) (by simp)
      · refine eq_i ?_
        simp only [Bool.false_xor]
        split
        · refine ⟨isTy_l e1, drw _ _ k01 B1 fun m h3 hm k3 B3 => ?_⟩
          have e3 := k3.other e1 (by omega)
          refine app_f e3 (by rw [List.length_map, sizeL]; omega) ?_
          exact fin [m] _ (k01.trans k3) B3 e3 (by simp [hm]) (by simp)
        · refine gt_i ?_
          dsimp only
          split
          · refine ⟨isTy_l e1, app_f e1 (by rw [List.length_map, sizeL]; omega) ?_⟩
            exact fin [c] _ k01 B1 e1 (by simp [hcm]) (by simp)
          · refine hk _ _ ⟨ms, rest, _, _, rfl, fun m hm => hr m (by simp [hm]), hms, by omega, rfl, k01, B1, e1⟩
def sp__law_texts (ad : Ad) : LSp := fun evs h Q => ∃ (b l most : Nat) (ns : List Int), evs = [.ref b, .ref l, .int most] ∧ h[l]? = some (.lst (ns.map EV.int)) ∧ ns ≠ [] ∧ ns.length ≤ 1000 ∧ l ≠ b ∧ 0 < most ∧ most < 1000 ∧ BagAt h b ∧
  ∀ (xs ys : List Int) (h' : EH), xs.length ≤ most → ys.length ≤ most → (∀ m ∈ xs, m ∈ ns) → (∀ m ∈ ys, m ∈ ns) → Keep (is1 b) h h' → BagAt h' b → Q (.tup [tx xs, tx ys]) h'
abbrev N__law_texts : List Str := ["_law_bag_here", "_law_letters", "_law_most", "_law_way", "_law_ring", "_law_base"]
def t__law_texts (ad : Ad) : LS :=
    lSeq (lSet (lCall (sp__law_take ad) (lCons (lVar 0) (lCons (lC (.int 4)) (lNil)))) 3) <|
    lSeq (lIfS (lB (lOp (eqE false) (lVar 3) (lC (.int 0))))
      (lRet (lTup (lCons (lCall (sp__law_text ad) (lCons (lVar 0) (lCons (lVar 1) (lCons (lVar 2) (lNil))))) (lCons (lCall (sp__law_text ad) (lCons (lVar 0) (lCons (lVar 1) (lCons (lVar 2) (lNil))))) (lNil)))))
      (lNext)) <|
    lSeq (lIfS (lB (lOp (eqE false) (lVar 3) (lC (.int 1))))
      (lSeq (lSet (lOp mulE (lCall (sp__law_full ad) (lCons (lVar 0) (lCons (lVar 1) (lCons (lOp addE (lC (.int 1)) (lCall (sp__law_take ad) (lCons (lVar 0) (lCons (lC (.int 3)) (lNil))))) (lNil))))) (lOp addE (lVar 2) (lC (.int 1)))) 4) <|
    lRet (lTup (lCons (lSl (lVar 4) (lPart none) (lPart (some (lCall (sp__law_take ad) (lCons (lVar 0) (lCons (lOp addE (lVar 2) (lC (.int 1))) (lNil))))))) (lCons (lSl (lSl (lVar 4) (lPart (some (lC (.int 1)))) (lPart none)) (lPart none) (lPart (some (lCall (sp__law_take ad) (lCons (lVar 0) (lCons (lOp addE (lVar 2) (lC (.int 1))) (lNil))))))) (lNil)))))
      (lNext)) <|
    lSeq (lSet (lCall (sp__law_full ad) (lCons (lVar 0) (lCons (lVar 1) (lCons (lOp addE (lC (.int 1)) (lCall (sp__law_take ad) (lCons (lVar 0) (lCons (lVar 2) (lNil))))) (lNil))))) 5) <|
    lRet (lTup (lCons (lCall (sp__law_edited ad) (lCons (lVar 0) (lCons (lVar 5) (lCons (lVar 1) (lCons (lVar 2) (lNil)))))) (lCons (lCall (sp__law_edited ad) (lCons (lVar 0) (lCons (lVar 5) (lCons (lVar 1) (lCons (lVar 2) (lNil)))))) (lNil))))
theorem len__law_texts (ad : Ad) (evs : List EV) (h : EH) (Q : EK) (q : sp__law_texts ad evs h Q) : evs.length = ["_law_bag_here", "_law_letters", "_law_most"].length := by
  obtain ⟨_, _, _, _, rfl, _⟩ := q; rfl
theorem repN_map (k : Int) (xs : List Int) : repN k (xs.map EV.int) = (repN k xs).map EV.int := by
  unfold repN
  rw [List.map_flatten, List.map_replicate]
theorem repN_mem {k : Int} {xs : List Int} {x : Int} (h : x ∈ repN k xs) : x ∈ xs := by
  unfold repN at h
  obtain ⟨l, hl, hx⟩ := List.mem_flatten.mp h
  rw [List.eq_of_mem_replicate hl] at hx
  exact hx
theorem pure__law_texts (ad : Ad) (evs : List EV) (h : EH) (Q : EK) (q : sp__law_texts ad evs h Q) : t__law_texts ad (endsOf Q) (startE N__law_texts evs) h := by
  obtain ⟨b, l, most, ns, rfl, e, ne, nl, hlb, m0, m1, B, q⟩ := q
  show t__law_texts ad (endsOf Q) [some (.ref b), some (.ref l), some (.int most), none, none, none] h
  simp only [t__law_texts, lSeq, lSet, lRet, lRetN, lDrop, lIfS, lOp, lVar, lC, lB, lT, lAnd, lOr, lNot, lIf, lAndV, lOrV, lNotV, lNil, lCons, lTup, lLst, lCB, lBM, lSl, lPart, lNext, lFor, lIt, lRng1, lRng2, lAsg, lPar, lSetI, lSetA, lAugS, lLc, lZip, lNeg, lCall, lChain, List.getElem?_cons_zero, List.getElem?_cons_succ, List.set_cons_zero, List.set_cons_succ, wipeE, intP, intE]
  have cl : ∀ (l : List Int) (x : Int), (∀ y ∈ l, y ∈ ns) → x ∈ l → x ∈ ns := fun l x z h => z x h
  refine ⟨b, 4, rfl, by decide, by decide, B, fun d h1 d0 d1 k1 B1 => eq_i ?_⟩
  have e1 := k1.other e hlb
  simp only [Bool.false_xor]
  split
  · refine ⟨b, l, most, ns, rfl, e1, ne, nl, hlb, by omega, B1, fun xs h2 xl xm k2 B2 => ?_⟩
    have e2 := k2.other e1 hlb
    refine ⟨b, l, most, ns, rfl, e2, ne, nl, hlb, by omega, B2, fun ys h3 yl ym k3 B3 => ?_⟩
    exact ⟨by simp [sizeL], q _ _ _ xl yl xm ym ((k1.trans k2).trans k3) B3⟩
  · refine eq_i ?_
    simp only [Bool.false_xor]
    split
    · refine ⟨b, 3, rfl, by decide, by decide, B1, fun d2 h2 d20 d21 k2 B2 => add_i ?_⟩
      obtain ⟨z, rfl⟩ := Int.eq_ofNat_of_zero_le d20
      refine ⟨b, l, 1 + z, ns, by simp, k2.other e1 hlb, ne, nl, hlb, by omega, B2, fun xs h3 xl xm k3 B3 => ?_⟩
      refine add_i ?_
      refine ⟨⟨by rintro z; have := congrArg List.length z; simp at this; simp [this] at xl; omega, by omega, by omega, by simp; omega⟩, ?_⟩
      rw [repN_map]
      refine ⟨b, (most : Int) + 1, rfl, by omega, by omega, B3, fun d3 h4 d30 d31 k4 B4 => ?_⟩
      obtain ⟨z3, rfl⟩ := Int.eq_ofNat_of_zero_le d30
      simp only [slE]
      refine ⟨b, (most : Int) + 1, rfl, by omega, by omega, B4, fun d4 h5 d40 d41 k5 B5 => ?_⟩
      obtain ⟨z4, rfl⟩ := Int.eq_ofNat_of_zero_le d40
      simp only []
      refine ⟨by simp [sizeL], ?_⟩
      rw [show (1 : Int) = ((1 : Nat) : Int) from rfl, cut_from, cut_to, cut_to, ← List.map_take, ← List.map_drop, ← List.map_take]
      refine q _ _ _ (by simp; omega) (by simp; omega) (fun m hm => xm m (repN_mem (List.mem_of_mem_take hm))) (fun m hm => xm m (repN_mem (List.mem_of_mem_drop (List.mem_of_mem_take hm)))) ((((k1.trans k2).trans k3).trans k4).trans k5) B5
    · refine ⟨b, most, rfl, by omega, by omega, B1, fun d2 h2 d20 d21 k2 B2 => add_i ?_⟩
      obtain ⟨z, rfl⟩ := Int.eq_ofNat_of_zero_le d20
      have e2 := k2.other e1 hlb
      refine ⟨b, l, 1 + z, ns, by simp, e2, ne, nl, hlb, by omega, B2, fun xs h3 xl xm k3 B3 => ?_⟩
      have e3 := k3.other e2 hlb
      refine ⟨b, l, most, xs, ns, rfl, e3, ne, nl, hlb, by omega, xm, B3, fun ys h4 yl ym k4 B4 => ?_⟩
      refine ⟨b, l, most, xs, ns, rfl, k4.other e3 hlb, ne, nl, hlb, by omega, xm, B4, fun zs h5 zl zm k5 B5 => ?_⟩
      exact ⟨by simp [sizeL], q _ _ _ yl zl ym zm ((((k1.trans k2).trans k3).trans k4).trans k5) B5⟩
structure TabOk (l : Tab) : Prop where
  nd : (l.map (·.1)).Nodup
  rg : ∀ q ∈ l, (0 ≤ q.1 ∧ q.1 ≤ 1000000000) ∧ (1 ≤ q.2.1 ∧ q.2.1 ≤ 9) ∧ (1 ≤ q.2.2 ∧ q.2.2 ≤ 9)
def sp__law_price_table (ad : Ad) : LSp := fun evs h Q => ∃ (b l : Nat) (ns : List Int), evs = [.ref b, .ref l] ∧ h[l]? = some (.lst (ns.map EV.int)) ∧ ns.Nodup ∧ (∀ n ∈ ns, 0 ≤ n ∧ n ≤ 1000000000) ∧ ns.length ≤ 40 ∧ l ≠ b ∧ BagAt h b ∧
  ∀ (r : Nat) (t : Tab) (h' : EH), TabOk t → (∀ q ∈ t, q.1 ∈ ns) → t.length ≤ 40 → Keep (is1 b) h h' → h.length ≤ r → h'[r]? = some (.dic (tabKV t)) → BagAt h' b → Q (.ref r) h'
abbrev N__law_price_table : List Str := ["_law_bag_here", "_law_letters", "_law_found", "_law_top", "_law_letter"]
def t__law_price_table (ad : Ad) : LS :=
    lSeq (lPar 2 3 (lCons (lDnew) (lCons (lCall (sp__law_one ad) (lCons (lVar 0) (lCons (lLst (lCons (lC (.int 3)) (lCons (lC (.int 1)) (lCons (lC (.int 2)) (lCons (lC (.int 9)) (lNil)))))) (lNil)))) (lNil)))) <|
    lSeq (lFor (lIt (lVar 1)) (.nm 4)
      (lIfS (lB (lOp gtE (lCall (sp__law_take ad) (lCons (lVar 0) (lCons (lC (.int 4)) (lNil)))) (lC (.int 0))))
      (lSetA (lVar 2) (lVar 4) (lTup (lCons (lOp addE (lC (.int 1)) (lCall (sp__law_take ad) (lCons (lVar 0) (lCons (lVar 3) (lNil))))) (lCons (lOp addE (lC (.int 1)) (lCall (sp__law_take ad) (lCons (lVar 0) (lCons (lVar 3) (lNil))))) (lNil)))))
      (lNext))) <|
    lRet (lVar 2)
theorem len__law_price_table (ad : Ad) (evs : List EV) (h : EH) (Q : EK) (q : sp__law_price_table ad evs h Q) : evs.length = ["_law_bag_here", "_law_letters"].length := by
  obtain ⟨_, _, _, rfl, _⟩ := q; rfl
theorem tab_put {t : Tab} {x : Int} {c : Int × Int} (h : x ∉ t.map (·.1)) : dPut (tabKV t) (.int x) (pairE c) = tabKV (t ++ [(x, c)]) := by
  have g : dGet (tabKV t) (.int x) = none := by
    induction t with
    | nil => rfl
    | cons q t ih =>
      simp only [List.map_cons, List.mem_cons, not_or] at h
      unfold tabKV at ih ⊢
      rw [List.map_cons, dGet]
      rw [if_neg (by simp only [kEq, decide_eq_true_eq]; exact fun z => h.1 z.symm)]
      exact ih h.2
  unfold dPut dHas
  rw [g]
  simp [tabKV]
theorem pure__law_price_table (ad : Ad) (evs : List EV) (h : EH) (Q : EK) (q : sp__law_price_table ad evs h Q) : t__law_price_table ad (endsOf Q) (startE N__law_price_table evs) h := by
  obtain ⟨b, l, ns, rfl, e, nd, rg, nl, hlb, B, q⟩ := q
  show t__law_price_table ad (endsOf Q) [some (.ref b), some (.ref l), none, none, none] h
  simp only [t__law_price_table, lSeq, lSet, lRet, lRetN, lDrop, lIfS, lOp, lVar, lC, lB, lT, lAnd, lOr, lNot, lIf, lAndV, lOrV, lNotV, lNil, lCons, lTup, lLst, lCB, lBM, lSl, lPart, lNext, lFor, lIt, lRng1, lRng2, lAsg, lPar, lSetI, lSetA, lAugS, lLc, lZip, lNeg, lCall, lChain, List.getElem?_cons_zero, List.getElem?_cons_succ, List.set_cons_zero, List.set_cons_succ, wipeE, intP, intE, lDnew]
  refine ⟨by simp [sizeL], ?_⟩
  have hb := B.lt
  refine ⟨b, _, _, rfl, new_at, by simp, by simp [sizeL], by simp; omega, (B.keep (Keep.app _)).keep (Keep.app _), fun x h2 hx k2 B2 => ?_⟩
  obtain ⟨top, rfl, t0, t1⟩ : ∃ t : Int, x = .int t ∧ 0 < t ∧ t ≤ 9 := by
    simp only [List.mem_cons, List.not_mem_nil, or_false] at hx
    rcases hx with rfl | rfl | rfl | rfl <;> exact ⟨_, rfl, by decide, by decide⟩
  have k02 : Keep (is1 b) h h2 := (Keep.app _).trans ((Keep.app _).trans k2)
  have e2 := k02.other e hlb
  have d2 := k2.other (app_at (new_at (h := h) (o := .dic [])) [.lst [.int 3, .int 1, .int 2, .int 9]]) (show h.length ≠ b by omega)
  simp only [e2]
  refine loop_ind (fun left env h' => ∃ (dn rest : List Int) (t : Tab) (x4 : Option EV), ns = dn ++ rest ∧ left = rest.map EV.int ∧ TabOk t ∧ (∀ q ∈ t, q.1 ∈ dn) ∧ t.length ≤ dn.length ∧ env = [some (.ref b), some (.ref l), some (.ref h.length), some (.int top), x4] ∧ Keep (is1 b) h h' ∧ BagAt h' b ∧ h'[h.length]? = some (.dic (tabKV t))) ?_ ?_ _ _ _ ⟨[], ns, [], none, rfl, rfl, ⟨by simp, by simp⟩, by simp, by simp, rfl, k02, B2, d2⟩
  · rintro env h' ⟨dn, rest, t, x4, en, el, ok, tm, tl, rfl, k, B', e'⟩
    obtain rfl : rest = [] := by simpa using el.symm
    refine ⟨k.other e hlb, ?_⟩
    simp only [lSeq, lSet, lRet, lRetN, lDrop, lIfS, lOp, lVar, lC, lB, lT, lAnd, lOr, lNot, lIf, lAndV, lOrV, lNotV, lNil, lCons, lTup, lLst, lCB, lBM, lSl, lPart, lNext, lFor, lIt, lRng1, lRng2, lAsg, lPar, lSetI, lSetA, lAugS, lLc, lZip, lNeg, lCall, lChain, List.getElem?_cons_zero, List.getElem?_cons_succ, List.set_cons_zero, List.set_cons_succ, wipeE, intP, intE]
    rw [List.append_nil] at en
    exact q _ _ _ ok (fun q hq => by rw [en]; exact tm q hq) (by rw [en] at nl; omega) k (Nat.le_refl _) e' B'
  · rintro x left env h' kk ⟨dn, rest, t, x4, en, el, ok, tm, tl, rfl, k, B', e'⟩ hk
    obtain ⟨c, rest, rfl⟩ : ∃ c r, rest = c :: r := by
      cases rest with
      | nil => simp at el
      | cons c r => exact ⟨c, r, rfl⟩
    rw [List.map_cons, List.cons.injEq] at el
    obtain ⟨rfl, rfl⟩ := el
    refine ⟨k.other e hlb, bind_nm ?_⟩
    simp only [lSeq, lSet, lRet, lRetN, lDrop, lIfS, lOp, lVar, lC, lB, lT, lAnd, lOr, lNot, lIf, lAndV, lOrV, lNotV, lNil, lCons, lTup, lLst, lCB, lBM, lSl, lPart, lNext, lFor, lIt, lRng1, lRng2, lAsg, lPar, lSetI, lSetA, lAugS, lLc, lZip, lNeg, lCall, lChain, List.getElem?_cons_zero, List.getElem?_cons_succ, List.set_cons_zero, List.set_cons_succ, wipeE, intP, intE]
    refine ⟨b, 4, rfl, by decide, by decide, B', fun d h1 d0 d1 k1 B1 => gt_i ?_⟩
    have e1 := k1.other e' (by omega)
    have en' : ns = (dn ++ [c]) ++ rest := by rw [en]; simp
    have hc : c ∉ dn := by
      rw [en'] at nd
      intro z
      rw [List.nodup_append] at nd
      have := (List.nodup_append.mp nd.1).2.2 c z c (by simp)
      exact this rfl
    dsimp only
    split
    · refine ⟨b, top, rfl, t0, by omega, B1, fun p1 h3 p10 p11 k3 B3 => add_i ?_⟩
      refine ⟨b, top, rfl, t0, by omega, B3, fun p2 h4 p20 p21 k4 B4 => add_i ?_⟩
      refine ⟨by simp [sizeL], ?_⟩
      have e4 := k4.other (k3.other e1 (by omega)) (by omega)
      refine sa_d e4 trivial (by simp [tabKV, sizeL]; rw [en] at nl; simp at nl; omega) ?_
      have hp : EV.tup [.int (1 + p1), .int (1 + p2)] = pairE (1 + p1, 1 + p2) := rfl
      have hct : c ∉ t.map (·.1) := by
        intro z
        obtain ⟨q, hq, e⟩ := List.mem_map.mp z
        exact hc (by rw [← e]; exact tm q hq)
      rw [hp, tab_put hct]
      refine hk _ _ ⟨dn ++ [c], rest, t ++ [(c, (1 + p1, 1 + p2))], _, en', rfl, ⟨?_, ?_⟩, ?_, by simp; omega, rfl, (((k.trans k1).trans k3).trans k4).fresh (Nat.le_refl _), B4.set hb, set_at e4⟩
      · rw [List.map_append, List.nodup_append]
        refine ⟨ok.nd, by simp, fun a ha y hy => ?_⟩
        simp at hy
        rintro rfl
        exact hct (by rw [← hy]; exact ha)
      · intro q hq
        rcases List.mem_append.mp hq with z | z
        · exact ok.rg q z
        · rw [List.mem_singleton.mp z]
          exact ⟨rg c (by rw [en]; simp), ⟨by show 1 ≤ 1 + p1; omega, by show 1 + p1 ≤ 9; omega⟩, ⟨by show 1 ≤ 1 + p2; omega, by show 1 + p2 ≤ 9; omega⟩⟩
      · intro q hq
        rcases List.mem_append.mp hq with z | z
        · exact List.mem_append_left _ (tm q z)
        · rw [List.mem_singleton.mp z]; simp
    · exact hk _ _ ⟨dn ++ [c], rest, t, _, en', rfl, ok, fun q hq => List.mem_append_left _ (tm q hq), by simp; omega, rfl, k.trans k1, B1, e1⟩
def PromOk : Prom → Prop
  | .none => True
  | .total g => 0 ≤ g ∧ g ≤ 60
  | .lag g => 1 ≤ g ∧ g ≤ 4
def sp__law_promise (ad : Ad) : LSp := fun evs h Q => ∃ b : Nat, evs = [.ref b] ∧ BagAt h b ∧ ∀ (p : Prom) (h' : EH), PromOk p → Keep (is1 b) h h' → BagAt h' b → Q p.e h'
def sp__law_costs (ad : Ad) : LSp := fun evs h Q => ∃ (t : Nat) (l : Tab) (x : Int), evs = [.ref t, .int x] ∧ h[t]? = some (.dic (tabKV l)) ∧ Q (pairE (cost l x)) h
abbrev N__law_promise : List Str := ["_law_bag_here", "_law_way"]
def t__law_promise (ad : Ad) : LS :=
    lSeq (lSet (lCall (sp__law_take ad) (lCons (lVar 0) (lCons (lC (.int 3)) (lNil)))) 1) <|
    lSeq (lIfS (lB (lOp (eqE false) (lVar 1) (lC (.int 0))))
      (lRet (lTup (lCons (lC (.str [110, 111, 110, 101])) (lNil))))
      (lNext)) <|
    lSeq (lIfS (lB (lOp (eqE false) (lVar 1) (lC (.int 1))))
      (lRet (lTup (lCons (lC (.str [108, 97, 103])) (lCons (lOp addE (lC (.int 1)) (lCall (sp__law_take ad) (lCons (lVar 0) (lCons (lC (.int 4)) (lNil))))) (lNil)))))
      (lNext)) <|
    lRet (lTup (lCons (lC (.str [116, 111, 116, 97, 108])) (lCons (lCall (sp__law_one ad) (lCons (lVar 0) (lCons (lLst (lCons (lC (.int 2)) (lCons (lC (.int 0)) (lCons (lC (.int 1)) (lCons (lC (.int 3)) (lCons (lC (.int 4)) (lCons (lC (.int 6)) (lCons (lC (.int 9)) (lCons (lC (.int 14)) (lCons (lC (.int 60)) (lNil))))))))))) (lNil)))) (lNil))))
abbrev N__law_costs : List Str := ["_law_table", "_law_letter"]
def t__law_costs (ad : Ad) : LS :=
    lRet (lGet2 (lVar 0) (lVar 1) (lTup (lCons (lC (.int 1)) (lCons (lC (.int 1)) (lNil)))))
theorem len__law_promise (ad : Ad) (evs : List EV) (h : EH) (Q : EK) (q : sp__law_promise ad evs h Q) : evs.length = ["_law_bag_here"].length := by
  obtain ⟨_, rfl, _⟩ := q; rfl
theorem pure__law_promise (ad : Ad) (evs : List EV) (h : EH) (Q : EK) (q : sp__law_promise ad evs h Q) : t__law_promise ad (endsOf Q) (startE N__law_promise evs) h := by
  obtain ⟨b, rfl, B, q⟩ := q
  show t__law_promise ad (endsOf Q) [some (.ref b), none] h
  simp only [t__law_promise, lSeq, lSet, lRet, lRetN, lDrop, lIfS, lOp, lVar, lC, lB, lT, lAnd, lOr, lNot, lIf, lAndV, lOrV, lNotV, lNil, lCons, lTup, lLst, lCB, lBM, lSl, lPart, lNext, lFor, lIt, lRng1, lRng2, lAsg, lPar, lSetI, lSetA, lAugS, lLc, lZip, lNeg, lCall, lChain, List.getElem?_cons_zero, List.getElem?_cons_succ, List.set_cons_zero, List.set_cons_succ, wipeE, intP, intE]
  refine ⟨b, 3, rfl, by decide, by decide, B, fun d h1 d0 d1 k1 B1 => eq_i ?_⟩
  simp only [Bool.false_xor]
  split
  · exact ⟨by simp [sizeL], q .none _ trivial k1 B1⟩
  · refine eq_i ?_
    simp only [Bool.false_xor]
    split
    · refine ⟨b, 4, rfl, by decide, by decide, B1, fun p1 h3 p10 p11 k3 B3 => add_i ⟨by simp [sizeL], ?_⟩⟩
      exact q (.lag (1 + p1)) _ ⟨by omega, by omega⟩ (k1.trans k3) B3
    · refine ⟨by simp [sizeL], ?_⟩
      refine ⟨b, _, _, rfl, new_at, by simp, by simp [sizeL], Nat.ne_of_gt B1.lt, B1.keep (Keep.app _), fun x h2 hx k2 B2 => ⟨by simp [sizeL], ?_⟩⟩
      simp only [List.mem_cons, List.not_mem_nil, or_false] at hx
      have k : Keep (is1 b) h h2 := k1.trans ((Keep.app _).trans k2)
      rcases hx with rfl | rfl | rfl | rfl | rfl | rfl | rfl | rfl | rfl <;> exact q (.total _) _ ⟨by decide, by decide⟩ k B2
theorem len__law_costs (ad : Ad) (evs : List EV) (h : EH) (Q : EK) (q : sp__law_costs ad evs h Q) : evs.length = ["_law_table", "_law_letter"].length := by
  obtain ⟨_, _, _, rfl, _⟩ := q; rfl
theorem pure__law_costs (ad : Ad) (evs : List EV) (h : EH) (Q : EK) (q : sp__law_costs ad evs h Q) : t__law_costs ad (endsOf Q) (startE N__law_costs evs) h := by
  obtain ⟨t, l, x, rfl, e, q⟩ := q
  show t__law_costs ad (endsOf Q) [some (.ref t), some (.int x)] h
  simp only [t__law_costs, lSeq, lSet, lRet, lRetN, lDrop, lIfS, lOp, lVar, lC, lB, lT, lAnd, lOr, lNot, lIf, lAndV, lOrV, lNotV, lNil, lCons, lTup, lLst, lCB, lBM, lSl, lPart, lNext, lFor, lIt, lRng1, lRng2, lAsg, lPar, lSetI, lSetA, lAugS, lLc, lZip, lNeg, lCall, lChain, List.getElem?_cons_zero, List.getElem?_cons_succ, List.set_cons_zero, List.set_cons_succ, wipeE, intP, intE, lGet2, isDct, e, tab_get]
  exact ⟨trivial, by simp [sizeL], trivial, q⟩
end Y

namespace Y
open PySem PySem.Spec PyProof.Rows L2

def isInt : EV → Bool
  | .int _ => true
  | _ => false
def isBt (v : EV) (lo hi : Int) : Bool := match v with
  | .int i => decide (lo ≤ i) && decide (i ≤ hi)
  | _ => false
def areC : EV → Bool
  | .tup [a, b] => isBt a 1 9 && isBt b 1 9
  | _ => false
def sp_is_integer (ad : Ad) : LSp := fun evs h Q => ∃ v t, evs = [v] ∧ tyE v h = some t ∧ Q (.bl (isInt v)) h
def sp_is_between (ad : Ad) : LSp := fun evs h Q => ∃ v t lo hi, evs = [v, .int lo, .int hi] ∧ tyE v h = some t ∧ Q (.bl (isBt v lo hi)) h
def sp_is_letter (ad : Ad) : LSp := fun evs h Q => ∃ v t, evs = [v] ∧ tyE v h = some t ∧ Q (.bl (isBt v 0 1000000000)) h
def sp_are_costs (ad : Ad) : LSp := fun evs h Q => ∃ v t, evs = [v] ∧ tyE v h = some t ∧ (∀ xs, v ≠ .ktup xs) ∧ (∀ xs, v = .tup xs → xs.length = 2 → ∀ x ∈ xs, ∃ t, ∀ h', Keep no1 h h' → tyE x h' = some t) ∧ ∀ h', Keep no1 h h' → Q (.bl (areC v)) h'
abbrev N_is_integer : List Str := ["thing"]
def t_is_integer (ad : Ad) : LS :=
    lRet (lAndV (lCB isiE (lCons (lVar 0) (lCons (lC (.ty "int")) (lNil)))) (lNotV (lCB isiE (lCons (lVar 0) (lCons (lC (.ty "bool")) (lNil))))))
abbrev N_is_between : List Str := ["thing", "low", "high"]
def t_is_between (ad : Ad) : LS :=
    lRet (lAndV (lCall (sp_is_integer ad) (lCons (lVar 0) (lNil))) (lChain leE leE (lVar 1) (lVar 0) (lVar 2)))
abbrev N_is_letter : List Str := ["thing"]
def t_is_letter (ad : Ad) : LS :=
    lRet (lCall (sp_is_between ad) (lCons (lVar 0) (lCons (lC (.int 0)) (lCons (lC (.int 1000000000)) (lNil)))))
abbrev N_are_costs : List Str := ["thing", "one"]
def t_are_costs (ad : Ad) : LS :=
    lSeq (lIfS (lOr (lNot (lT (lCB isiE (lCons (lVar 0) (lCons (lC (.ty "tuple")) (lNil)))))) (lB (lOp (eqE true) (lCB lenE (lCons (lVar 0) (lNil))) (lC (.int 2)))))
      (lRet (lC (.bl false)))
      (lNext)) <|
    lRet (lCB allE (lCons (lLc (lIt (lVar 0)) (.nm 1) (lYes) (lCall (sp_is_between ad) (lCons (lVar 1) (lCons (lC (.int 1)) (lCons (lC (.int 9)) (lNil))))) [1]) (lNil)))
theorem len_is_integer (ad : Ad) (evs : List EV) (h : EH) (Q : EK) (q : sp_is_integer ad evs h Q) : evs.length = ["thing"].length := by
  obtain ⟨_, _, rfl, _⟩ := q; rfl
theorem len_is_between (ad : Ad) (evs : List EV) (h : EH) (Q : EK) (q : sp_is_between ad evs h Q) : evs.length = ["thing", "low", "high"].length := by
  obtain ⟨_, _, _, _, rfl, _⟩ := q; rfl
theorem len_is_letter (ad : Ad) (evs : List EV) (h : EH) (Q : EK) (q : sp_is_letter ad evs h Q) : evs.length = ["thing"].length := by
  obtain ⟨_, _, rfl, _⟩ := q; rfl
theorem len_are_costs (ad : Ad) (evs : List EV) (h : EH) (Q : EK) (q : sp_are_costs ad evs h Q) : evs.length = ["thing"].length := by
  obtain ⟨_, _, rfl, _⟩ := q; rfl
theorem pure_is_integer (ad : Ad) (evs : List EV) (h : EH) (Q : EK) (q : sp_is_integer ad evs h Q) : t_is_integer ad (endsOf Q) (startE N_is_integer evs) h := by
  obtain ⟨v, t, rfl, ht, q⟩ := q
  show t_is_integer ad (endsOf Q) [some v] h
  have e : (isiB t "int" && !isiB t "bool") = isInt v := by
    cases v <;> simp [tyE] at ht <;> try (subst ht; rfl)
    split at ht <;> simp at ht <;> subst ht <;> rfl
  simp only [t_is_integer, lSeq, lSet, lRet, lRetN, lDrop, lIfS, lOp, lVar, lC, lB, lT, lAnd, lOr, lNot, lIf, lAndV, lOrV, lNotV, lNil, lCons, lTup, lLst, lCB, lBM, lSl, lPart, lNext, lFor, lIt, lRng1, lRng2, lAsg, lPar, lSetI, lSetA, lAugS, lLc, lZip, lNeg, lCall, lChain, List.getElem?_cons_zero, List.getElem?_cons_succ, List.set_cons_zero, List.set_cons_succ, wipeE, intP, intE, isiE, ht]
  refine ⟨by simp, ?_⟩
  cases e1 : isiB t "int"
  · rw [e1] at e
    simp only [Bool.false_eq_true, if_false]
    rw [← e] at q; exact q
  · rw [e1] at e
    simp only [if_true, ht]
    refine ⟨by simp, ?_⟩
    rw [← e] at q
    simpa using q
theorem pure_is_between (ad : Ad) (evs : List EV) (h : EH) (Q : EK) (q : sp_is_between ad evs h Q) : t_is_between ad (endsOf Q) (startE N_is_between evs) h := by
  obtain ⟨v, t, lo, hi, rfl, ht, q⟩ := q
  show t_is_between ad (endsOf Q) [some v, some (.int lo), some (.int hi)] h
  simp only [t_is_between, lSeq, lSet, lRet, lRetN, lDrop, lIfS, lOp, lVar, lC, lB, lT, lAnd, lOr, lNot, lIf, lAndV, lOrV, lNotV, lNil, lCons, lTup, lLst, lCB, lBM, lSl, lPart, lNext, lFor, lIt, lRng1, lRng2, lAsg, lPar, lSetI, lSetA, lAugS, lLc, lZip, lNeg, lCall, lChain, List.getElem?_cons_zero, List.getElem?_cons_succ, List.set_cons_zero, List.set_cons_succ, wipeE, intP, intE]
  refine ⟨v, t, rfl, ht, ?_⟩
  cases v with
  | int i =>
    simp only [isInt, if_true, isBt] at q ⊢
    refine le_i ?_
    dsimp only
    by_cases h1 : lo ≤ i
    · simp only [h1, decide_true, Bool.true_and, if_true] at q ⊢
      exact le_i q
    · simpa [h1] using q
  | _ => simpa [isInt, isBt] using q
theorem pure_is_letter (ad : Ad) (evs : List EV) (h : EH) (Q : EK) (q : sp_is_letter ad evs h Q) : t_is_letter ad (endsOf Q) (startE N_is_letter evs) h := by
  obtain ⟨v, t, rfl, ht, q⟩ := q
  show t_is_letter ad (endsOf Q) [some v] h
  simp only [t_is_letter, lSeq, lSet, lRet, lRetN, lDrop, lIfS, lOp, lVar, lC, lB, lT, lAnd, lOr, lNot, lIf, lAndV, lOrV, lNotV, lNil, lCons, lTup, lLst, lCB, lBM, lSl, lPart, lNext, lFor, lIt, lRng1, lRng2, lAsg, lPar, lSetI, lSetA, lAugS, lLc, lZip, lNeg, lCall, lChain, List.getElem?_cons_zero, List.getElem?_cons_succ, List.set_cons_zero, List.set_cons_succ, wipeE, intP, intE]
  exact ⟨v, t, _, _, rfl, ht, q⟩
theorem pure_are_costs (ad : Ad) (evs : List EV) (h : EH) (Q : EK) (q : sp_are_costs ad evs h Q) : t_are_costs ad (endsOf Q) (startE N_are_costs evs) h := by
  obtain ⟨v, t, rfl, ht, nk, ok, q⟩ := q
  show t_are_costs ad (endsOf Q) [some v, none] h
  simp only [t_are_costs, lSeq, lSet, lRet, lRetN, lDrop, lIfS, lOp, lVar, lC, lB, lT, lAnd, lOr, lNot, lIf, lAndV, lOrV, lNotV, lNil, lCons, lTup, lLst, lCB, lBM, lSl, lPart, lNext, lFor, lIt, lRng1, lRng2, lAsg, lPar, lSetI, lSetA, lAugS, lLc, lZip, lNeg, lCall, lChain, List.getElem?_cons_zero, List.getElem?_cons_succ, List.set_cons_zero, List.set_cons_succ, wipeE, intP, intE, lT, isiE, ht]
  refine ⟨by simp, ?_⟩
  simp only [truE]
  by_cases hv : ∃ xs, v = .tup xs
  · obtain ⟨xs, rfl⟩ := hv
    simp [tyE] at ht
    subst ht
    simp only [show isiB "tuple" "tuple" = true from rfl, Bool.not_true, Bool.false_eq_true, if_false, lenE]
    refine eq_i ?_
    by_cases hl : xs.length = 2
    · simp only [hl]
      obtain ⟨a, b, rfl⟩ : ∃ a b, xs = [a, b] := by
        match xs, hl with
        | [a, b], _ => exact ⟨a, b, rfl⟩
      obtain ⟨ta, ha⟩ := ok _ rfl rfl a (by simp)
      obtain ⟨tb, hb⟩ := ok _ rfl rfl b (by simp)
      have fin := q (h ++ [.lst [.bl (isBt a 1 9), .bl (isBt b 1 9)]]) (Keep.app _)
      simp only [lcE, lBind, Pat.bind, lSeq, lSet, lRet, lRetN, lDrop, lIfS, lOp, lVar, lC, lB, lT, lAnd, lOr, lNot, lIf, lAndV, lOrV, lNotV, lNil, lCons, lTup, lLst, lCB, lBM, lSl, lPart, lNext, lFor, lIt, lRng1, lRng2, lAsg, lPar, lSetI, lSetA, lAugS, lLc, lZip, lNeg, lCall, lChain, List.getElem?_cons_zero, List.getElem?_cons_succ, List.set_cons_zero, List.set_cons_succ, wipeE, intP, intE, lYes, sp_is_between, new_at, new_set, lTrue]
      refine ⟨trivial, ?_⟩
      simp only [if_true]
      refine ⟨a, ta, 1, 9, rfl, ha _ (Keep.app _), ?_⟩
      simp only [new_at, new_set, List.length_nil, List.nil_append]
      refine ⟨by decide, trivial, ?_⟩
      refine ⟨b, tb, 1, 9, rfl, hb _ (Keep.app _), ?_⟩
      simp only [new_at, new_set, List.length_cons, List.length_nil]
      refine ⟨by decide, trivial, ?_⟩
      simp only [allE, quE, new_at]
      refine ⟨[isBt a 1 9, isBt b 1 9], rfl, ?_⟩
      simpa [areC] using fin
    · rw [decide_eq_false (by omega)]
      simp only [Bool.xor_false, if_true]
      have e : areC (.tup xs) = false := by
        match xs, hl with
        | [], _ => rfl
        | [_], _ => rfl
        | [_, _], h => exact absurd rfl h
        | _ :: _ :: _ :: _, _ => rfl
      rw [← e]
      exact q _ .refl
  · have e : isiB t "tuple" = false := by
      cases v <;> simp [tyE] at ht <;> try (subst ht; rfl)
      · exact absurd ⟨_, rfl⟩ hv
      · exact absurd rfl (nk _)
      · split at ht <;> simp at ht <;> subst ht <;> rfl
    rw [e]
    simp only [Bool.not_false, if_true]
    have e2 : areC v = false := by
      cases v <;> first | rfl | exact absurd ⟨_, rfl⟩ hv
    rw [← e2]
    exact q _ .refl
def TabRg (l : Tab) : Prop := ∀ q ∈ l, (0 ≤ q.1 ∧ q.1 ≤ 1000000000) ∧ (1 ≤ q.2.1 ∧ q.2.1 ≤ 9) ∧ (1 ≤ q.2.2 ∧ q.2.2 ≤ 9)
def sp_is_price_table (ad : Ad) : LSp := fun evs h Q => ∃ r l, evs = [.ref r] ∧ h[r]? = some (.dic (tabKV l)) ∧ TabRg l ∧ l.length ≤ 1000 ∧ ∀ h', Keep no1 h h' → Q (.bl true) h'
abbrev N_is_price_table : List Str := ["thing", "letter", "costs"]
def t_is_price_table (ad : Ad) : LS :=
    lSeq (lIfS (lNot (lT (lCB isiE (lCons (lVar 0) (lCons (lC (.ty "dict")) (lNil))))))
      (lRet (lC (.bl false)))
      (lNext)) <|
    lRet (lCB allE (lCons (lLockE (lLc (lItems (lVar 0)) (.tp [.nm 1, .nm 2]) (lYes) (lAndV (lCall (sp_is_letter ad) (lCons (lVar 1) (lNil))) (lCall (sp_are_costs ad) (lCons (lVar 2) (lNil)))) [1, 2])) (lNil)))
theorem len_is_price_table (ad : Ad) (evs : List EV) (h : EH) (Q : EK) (q : sp_is_price_table ad evs h Q) : evs.length = ["thing"].length := by
  obtain ⟨_, _, rfl, _⟩ := q; rfl
theorem pure_is_price_table (ad : Ad) (evs : List EV) (h : EH) (Q : EK) (q : sp_is_price_table ad evs h Q) : t_is_price_table ad (endsOf Q) (startE N_is_price_table evs) h := by
  obtain ⟨r, l, rfl, e, rg, ll, q⟩ := q
  show t_is_price_table ad (endsOf Q) [some (.ref r), none, none] h
  simp only [t_is_price_table, lSeq, lSet, lRet, lRetN, lDrop, lIfS, lOp, lVar, lC, lB, lT, lAnd, lOr, lNot, lIf, lAndV, lOrV, lNotV, lNil, lCons, lTup, lLst, lCB, lBM, lSl, lPart, lNext, lFor, lIt, lRng1, lRng2, lAsg, lPar, lSetI, lSetA, lAugS, lLc, lZip, lNeg, lCall, lChain, List.getElem?_cons_zero, List.getElem?_cons_succ, List.set_cons_zero, List.set_cons_succ, wipeE, intP, intE, lT, isiE, tyE, e]
  refine ⟨by simp, ?_⟩
  simp only [truE, show isiB "dict" "dict" = true from rfl, Bool.not_true, Bool.false_eq_true, if_false, lLockE]
  refine ⟨r, _, e, fun od l0 => ?_⟩
  have hr := lt_of_at e
  simp only [lSeq, lSet, lRet, lRetN, lDrop, lIfS, lOp, lVar, lC, lB, lT, lAnd, lOr, lNot, lIf, lAndV, lOrV, lNotV, lNil, lCons, lTup, lLst, lCB, lBM, lSl, lPart, lNext, lFor, lIt, lRng1, lRng2, lAsg, lPar, lSetI, lSetA, lAugS, lLc, lZip, lNeg, lCall, lChain, List.getElem?_cons_zero, List.getElem?_cons_succ, List.set_cons_zero, List.set_cons_succ, wipeE, intP, intE, lItems, set_at e]
  have d0 := set_at (o := EO.dlk od l0 (tabKV l)) e
  have k0 : ∀ h', Keep no1 (h.set r (.dlk od l0 (tabKV l))) h' → Keep no1 h (h'.set r (.dic (tabKV l))) := by
    intro h' k
    refine ⟨by simpa using k.1, fun x o hx _ => ?_⟩
    by_cases ex : x = r
    · subst ex
      rw [e] at hx
      cases hx
      have := k.at d0
      exact set_at this
    · rw [List.getElem?_set_ne (fun z => ex z.symm)]
      exact k.at (set_off hx ex)
  generalize hh0 : h.set r (.dlk od l0 (tabKV l)) = h0 at d0 k0
  refine lc_ind (fun left acc h' => ∃ rest, left = (tabKV rest).map (fun p => EV.tup [p.1, p.2]) ∧ TabRg rest ∧ (∃ n, acc = (List.replicate n true).map EV.bl ∧ n + rest.length = l.length) ∧ Keep no1 h0 h') ?_ ?_ _ [] _ new_at ⟨l, rfl, rg, ⟨0, rfl, by simp⟩, Keep.app _⟩
  · rintro acc h4 ⟨rest, el, rg', ⟨n, rfl, hn⟩, k⟩ e4
    have hne : h0.length ≠ r := by rw [← hh0]; simp; omega
    have := k.at d0
    refine ⟨this, this, ?_⟩
    simp only [allE, quE]
    rw [set_off e4 hne]
    exact ⟨_, rfl, by simpa using q _ (k0 _ k)⟩
  · rintro x left acc h4 ky kn ⟨rest, el, rg', ⟨n, rfl, hn⟩, k⟩ e4 hky _
    obtain ⟨c, rest, rfl⟩ : ∃ c r, rest = c :: r := by
      cases rest with
      | nil => simp [tabKV] at el
      | cons c r => exact ⟨c, r, rfl⟩
    simp only [tabKV, List.map_cons, List.cons.injEq] at el
    obtain ⟨rfl, rfl⟩ := el
    obtain ⟨g1, g2, g3⟩ := rg' c (by simp)
    refine ⟨k.at d0, ?_⟩
    simp only [lBind, Pat.bind, Pat.binds, lSeq, lSet, lRet, lRetN, lDrop, lIfS, lOp, lVar, lC, lB, lT, lAnd, lOr, lNot, lIf, lAndV, lOrV, lNotV, lNil, lCons, lTup, lLst, lCB, lBM, lSl, lPart, lNext, lFor, lIt, lRng1, lRng2, lAsg, lPar, lSetI, lSetA, lAugS, lLc, lZip, lNeg, lCall, lChain, List.getElem?_cons_zero, List.getElem?_cons_succ, List.set_cons_zero, List.set_cons_succ, wipeE, intP, intE, lYes, if_true]
    refine ⟨_, "int", rfl, rfl, ?_⟩
    rw [show isBt (.int c.1) 0 1000000000 = true by simp [isBt, g1]]
    simp only [if_true]
    refine ⟨_, "tuple", rfl, rfl, (fun xs z => EV.noConfusion z), fun xs ex hl x hx => ?_, fun h5 k5 => ?_⟩
    · unfold pairE at ex
      cases ex
      simp at hx
      rcases hx with rfl | rfl <;> exact ⟨"int", fun _ _ => rfl⟩
    · rw [show areC (pairE c.2) = true by simp [areC, pairE, isBt, g2, g3]]
      simp only [List.length_cons] at hn
      have l4 := lt_of_at e4
      refine hky _ _ (k5.at e4) (by simp [sizeL]; omega) ⟨rest, rfl, fun q hq => rg' q (by simp [hq]), ⟨n + 1, by rw [List.replicate_succ']; simp, by omega⟩, (k.trans k5).fresh (Nat.le_refl _)⟩
def prTab (t : Tab) : Tab := (t.mergeSort fun a b => decide (a.1 ≤ b.1)).filter fun q => decide (q.2 ≠ (1, 1))
theorem lookup_mem_nd {t : Tab} {x : Int} {c : Int × Int} (nd : (t.map (·.1)).Nodup) : t.lookup x = some c ↔ (x, c) ∈ t := by
  induction t with
  | nil => simp
  | cons q t ih =>
    obtain ⟨k, d⟩ := q
    simp only [List.map_cons, List.nodup_cons] at nd
    rw [List.lookup_cons]
    by_cases e : x = k
    · subst e
      simp only [beq_self_eq_true, List.mem_cons, Prod.mk.injEq, true_and, Option.some.injEq]
      constructor
      · rintro rfl; exact .inl rfl
      · rintro (rfl | z)
        · rfl
        · exact absurd (List.mem_map.mpr ⟨_, z, rfl⟩) nd.1
    · have e2 : (x == k) = false := by simpa using e
      rw [e2]
      simp only [ih nd.2, List.mem_cons, Prod.mk.injEq, e, false_and, false_or]
theorem prTab_ok {t : Tab} (ok : TabOk t) : TabOk (prTab t) := by
  have p := List.mergeSort_perm t fun a b => decide (a.1 ≤ b.1)
  refine ⟨?_, fun q hq => ok.rg q (p.mem_iff.mp (List.mem_filter.mp hq |>.1))⟩
  refine List.Nodup.sublist (List.Sublist.map _ List.filter_sublist) ?_
  exact ((p.map (·.1)).nodup_iff).mpr ok.nd
theorem prTab_cost {t : Tab} (nd : (t.map (·.1)).Nodup) (x : Int) : cost (prTab t) x = cost t x := by
  have p := List.mergeSort_perm t fun a b => decide (a.1 ≤ b.1)
  have nd2 : ((prTab t).map (·.1)).Nodup := List.Nodup.sublist (List.Sublist.map _ List.filter_sublist) (((p.map (·.1)).nodup_iff).mpr nd)
  unfold cost
  cases e : t.lookup x with
  | some c =>
    have m := (lookup_mem_nd nd).mp e
    by_cases hc : c = (1, 1)
    · cases e2 : (prTab t).lookup x with
      | none => simp [hc]
      | some d =>
        have m2 := (lookup_mem_nd nd2).mp e2
        unfold prTab at m2
        rw [List.mem_filter] at m2
        have := (lookup_mem_nd nd).mpr (p.mem_iff.mp m2.1)
        rw [e] at this
        cases this
        rfl
    · have : (x, c) ∈ prTab t := by
        unfold prTab
        rw [List.mem_filter]
        exact ⟨p.mem_iff.mpr m, by simpa using hc⟩
      rw [(lookup_mem_nd nd2).mpr this]
  | none =>
    cases e2 : (prTab t).lookup x with
    | none => rfl
    | some d =>
      have m2 := (lookup_mem_nd nd2).mp e2
      unfold prTab at m2
      rw [List.mem_filter] at m2
      have := (lookup_mem_nd nd).mpr (p.mem_iff.mp m2.1)
      rw [e] at this
      cases this
theorem dc_tab {g : EH → Prop} {p : Pat} {tt : LTt} {tk tv : LT} {env : En} {P : EK} {h : EH} (f : EV → Option (Int × (Int × Int))) (xs : List EV) (hl : xs.length ≤ sizeLine) (hg : ∀ acc, g (h ++ [.dic acc])) (nd : ((xs.filterMap f).map (·.1)).Nodup)
    (step : ∀ x ∈ xs, ∀ acc (ky : EV → EV → EH → Prop) (kn : EH → Prop), (∀ q, f x = some q → ky (.int q.1) (pairE q.2) (h ++ [.dic acc])) → (f x = none → kn (h ++ [.dic acc])) →
      lBind (h ++ [.dic acc]) p x env fun env2 => tt env2 (h ++ [.dic acc]) fun b h3 => if b = true then tk env2 h3 fun y h4 => tv env2 h4 fun z h5 => ky y z h5 else kn h3)
    (fin : P (.ref h.length) (h ++ [.dic (tabKV (xs.filterMap f))])) : dcE g p tt tk tv h.length env P xs (h ++ [.dic []]) := by
  have key : ∀ ys (acc : Tab), (∀ x ∈ ys, x ∈ xs) → acc.length + ys.length ≤ xs.length → acc ++ ys.filterMap f = xs.filterMap f → dcE g p tt tk tv h.length env P ys (h ++ [.dic (tabKV acc)]) := by
    intro ys
    induction ys with
    | nil =>
      intro acc _ _ e
      rw [dcE]
      rw [List.filterMap_nil, List.append_nil] at e
      exact ⟨hg _, by rw [e]; exact fin⟩
    | cons x ys ih =>
      intro acc hm hz e
      rw [dcE]
      simp only [List.length_cons] at hz
      refine ⟨hg _, step x (hm x (by simp)) _ _ _ (fun q hq => ?_) fun hq => ?_⟩
      · simp only [new_at, new_set]
        refine ⟨trivial, by simp [tabKV]; omega, ?_⟩
        rw [List.filterMap_cons, hq] at e
        have hk : q.1 ∉ acc.map (·.1) := by
          rw [← e] at nd
          simp only [List.map_append, List.map_cons] at nd
          rw [List.nodup_append] at nd
          intro z
          exact nd.2.2 _ z q.1 (by simp) rfl
        rw [tab_put hk]
        exact ih _ (fun z hz' => hm z (List.mem_cons_of_mem _ hz')) (by simp; omega) (by simpa using e)
      · refine ih _ (fun z hz' => hm z (List.mem_cons_of_mem _ hz')) (by omega) ?_
        rw [List.filterMap_cons, hq] at e
        exact e
  exact key xs [] (fun _ h => h) (by simp) (by simp)
theorem eqE_pairK {n : Bool} {a b c d : Int} {h : EH} {P : EK} (p : P (.bl (n ^^ decide ((a, b) = (c, d)))) h) : eqE n (.tup [.int a, .int b]) (.ktup [.int c, .int d]) h P := by
  unfold eqE
  refine ⟨.tuple [.int a, .int b], .tuple [.int c, .int d], .tup (.cons (.int _) (.cons (.int _) .nil)), .ktup (.cons (.int _) (.cons (.int _) .nil)), ?_⟩
  have e : PyData.eqv (.tuple [.int a, .int b]) (.tuple [.int c, .int d]) = decide ((a, b) = (c, d)) := by
    simp only [PyData.eqv, PyData.eqvAll]
    by_cases h1 : a = c <;> by_cases h2 : b = d <;> simp [h1, h2]
  rw [e]
  exact p
theorem eqE_pair {n : Bool} {a b c d : Int} {h : EH} {P : EK} (p : P (.bl (n ^^ decide ((a, b) = (c, d)))) h) : eqE n (.tup [.int a, .int b]) (.tup [.int c, .int d]) h P := by
  unfold eqE
  refine ⟨.tuple [.int a, .int b], .tuple [.int c, .int d], .tup (.cons (.int _) (.cons (.int _) .nil)), .tup (.cons (.int _) (.cons (.int _) .nil)), ?_⟩
  have e : PyData.eqv (.tuple [.int a, .int b]) (.tuple [.int c, .int d]) = decide ((a, b) = (c, d)) := by
    simp only [PyData.eqv, PyData.eqvAll]
    by_cases h1 : a = c <;> by_cases h2 : b = d <;> simp [h1, h2]
  rw [e]
  exact p
def sp_Prices___init__ (ad : Ad) : LSp := fun evs h Q => ∃ (p r : Nat) (t : Tab), evs = [.ref p, .ref r] ∧ h[p]? = some (.slo ad.a_Prices []) ∧ h[r]? = some (.dic (tabKV t)) ∧ TabOk t ∧ t.length < 64 ∧
  ∀ h', Keep (is1 p) h h' → PrAt ad h' p (prTab t) → Q .non h'
abbrev N_Prices___init__ : List Str := ["self", "table", "letter"]
def t_Prices___init__ (ad : Ad) : LS :=
    lSeq (lIfS (lNot (lT (lCall (sp_is_price_table ad) (lCons (lVar 1) (lNil)))))
      (lNever)
      (lNext)) <|
    lSetAt [(ad.a_Prices, 0)] (lVar 0) (lDc (lIt (lCB sortE (lCons (lVar 1) (lNil)))) (.nm 2) (lB (lOp (eqE true) (lOp ixA (lVar 1) (lVar 2)) (lC (.ktup [.int 1, .int 1])))) (lVar 2) (lOp ixA (lVar 1) (lVar 2)) [2])
theorem len_Prices___init__ (ad : Ad) (evs : List EV) (h : EH) (Q : EK) (q : sp_Prices___init__ ad evs h Q) : evs.length = ["self", "table"].length := by
  obtain ⟨_, _, _, rfl, _⟩ := q; rfl
theorem pure_Prices___init__ (ad : Ad) (evs : List EV) (h : EH) (Q : EK) (q : sp_Prices___init__ ad evs h Q) : t_Prices___init__ ad (endsOf Q) (startE N_Prices___init__ evs) h := by
  obtain ⟨p, r, t, rfl, ep, er, ok, tl, q⟩ := q
  show t_Prices___init__ ad (endsOf Q) [some (.ref p), some (.ref r), none] h
  simp only [t_Prices___init__, lSeq, lSet, lRet, lRetN, lDrop, lIfS, lOp, lVar, lC, lB, lT, lAnd, lOr, lNot, lIf, lAndV, lOrV, lNotV, lNil, lCons, lTup, lLst, lCB, lBM, lSl, lPart, lNext, lFor, lIt, lRng1, lRng2, lAsg, lPar, lSetI, lSetA, lAugS, lLc, lZip, lNeg, lCall, lChain, List.getElem?_cons_zero, List.getElem?_cons_succ, List.set_cons_zero, List.set_cons_succ, wipeE, intP, intE, lT]
  refine ⟨r, t, rfl, er, ok.rg, by omega, fun h1 k1 => ?_⟩
  simp only [truE, Bool.not_true, Bool.false_eq_true, if_false, lSetAt, lDc, lSeq, lSet, lRet, lRetN, lDrop, lIfS, lOp, lVar, lC, lB, lT, lAnd, lOr, lNot, lIf, lAndV, lOrV, lNotV, lNil, lCons, lTup, lLst, lCB, lBM, lSl, lPart, lNext, lFor, lIt, lRng1, lRng2, lAsg, lPar, lSetI, lSetA, lAugS, lLc, lZip, lNeg, lCall, lChain, List.getElem?_cons_zero, List.getElem?_cons_succ, List.set_cons_zero, List.set_cons_succ, wipeE, intP, intE, sortE, k1.at er]
  refine ⟨t.map (·.1), by simp [tabKV], by simpa using tl, fun ys py sy => ?_⟩
  have pm := List.mergeSort_perm t fun a b => decide (a.1 ≤ b.1)
  have sm : (t.mergeSort fun a b => decide (a.1 ≤ b.1)).Pairwise fun a b => a.1 ≤ b.1 := by
    have := List.pairwise_mergeSort (le := fun (a b : Int × (Int × Int)) => decide (a.1 ≤ b.1)) (fun a b c => by simp only [decide_eq_true_eq]; omega) (fun a b => by simp only [Bool.or_eq_true, decide_eq_true_eq]; omega) t
    exact this.imp fun h => by simpa using h
  have ey : ys = (t.mergeSort fun a b => decide (a.1 ≤ b.1)).map (·.1) := by
    refine List.Perm.eq_of_pairwise (le := (· ≤ ·)) (fun a b _ _ h1 h2 => Int.le_antisymm h1 h2) sy ?_ (py.trans (pm.map (·.1)).symm)
    rw [List.pairwise_map]
    exact sm
  have k2 : Keep no1 h (h1 ++ [.lst (ys.map EV.int)]) := k1.trans (Keep.app _)
  have e1 := k2.at er
  simp only [new_at]
  let f : EV → Option (Int × (Int × Int)) := fun v => match v with
    | .int x => if cost t x ≠ (1, 1) then some (x, cost t x) else none
    | _ => none
  have ef : (ys.map EV.int).filterMap f = prTab t := by
    rw [ey]
    have key : ∀ l : Tab, (∀ q ∈ l, cost t q.1 = q.2) → ((l.map (·.1)).map EV.int).filterMap f = l.filter fun q => decide (q.2 ≠ (1, 1)) := by
      intro l
      induction l with
      | nil => intro _; rfl
      | cons q l ih =>
        intro hq
        have h1 := hq q (by simp)
        rw [List.map_cons, List.map_cons, List.filterMap_cons, List.filter_cons, ih fun z hz => hq z (by simp [hz])]
        simp only [f, h1]
        by_cases h2 : q.2 = (1, 1)
        · simp [h2]
        · simp [h2]
    refine key _ fun q hq => ?_
    unfold cost
    rw [(lookup_mem_nd ok.nd).mpr (show (q.1, q.2) ∈ t from pm.mem_iff.mp hq)]
    rfl
  refine dc_tab f _ (by rw [List.length_map, ey, List.length_map, pm.length_eq, sizeL]; omega) (fun acc => app_at new_at _) ?_ (fun x hx acc ky kn hy hn => ?_) ?_
  · rw [ef]; exact (prTab_ok ok).nd
  · obtain ⟨x, hx', rfl⟩ := List.mem_map.mp hx
    simp only [lBind, Pat.bind, lSeq, lSet, lRet, lRetN, lDrop, lIfS, lOp, lVar, lC, lB, lT, lAnd, lOr, lNot, lIf, lAndV, lOrV, lNotV, lNil, lCons, lTup, lLst, lCB, lBM, lSl, lPart, lNext, lFor, lIt, lRng1, lRng2, lAsg, lPar, lSetI, lSetA, lAugS, lLc, lZip, lNeg, lCall, lChain, List.getElem?_cons_zero, List.getElem?_cons_succ, List.set_cons_zero, List.set_cons_succ, wipeE, intP, intE]
    have hx2 : x ∈ t.map (·.1) := py.mem_iff.mp hx'
    have eg : dGet (tabKV t) (.int x) = some (pairE (cost t x)) := by
      obtain ⟨q, hq, rfl⟩ := List.mem_map.mp hx2
      have h1 : t.lookup q.1 = some q.2 := (lookup_mem_nd ok.nd).mpr hq
      have g := tab_get t q.1
      cases e2 : dGet (tabKV t) (.int q.1) with
      | some v => rw [e2] at g; simpa using g
      | none =>
        exfalso
        clear g hx hx' hy hn ef sm ey
        have key : ∀ l : Tab, q ∈ l → dGet (tabKV l) (.int q.1) ≠ none := by
          intro l
          induction l with
          | nil => intro z; simp at z
          | cons a l ih =>
            intro z
            unfold tabKV at ih ⊢
            rw [List.map_cons, dGet]
            by_cases ea : a.1 = q.1
            · rw [if_pos (by simp [kEq, ea])]; simp
            · rw [if_neg (by simp [kEq, ea])]
              rcases List.mem_cons.mp z with y | y
              · exact absurd (by rw [y]) ea
              · exact ih y
        exact key t hq e2
    have e3 := app_at (app_at e1 [.dic acc]) []
    refine ia_d (app_at e1 _) trivial eg ?_
    unfold pairE
    refine eqE_pairK ?_
    dsimp only
    by_cases hc : cost t x = (1, 1)
    · rw [hc]
      exact hn (by simp [f, hc])
    · have hc' : ¬((cost t x).1, (cost t x).2) = (1, 1) := hc
      rw [decide_eq_false hc']
      simp only [Bool.xor_false, if_true]
      refine ia_d (app_at e1 _) trivial eg ?_
      exact hy (x, cost t x) (by simp [f, hc])
  · rw [ef]
    have kf : Keep no1 h (h1 ++ [.lst (ys.map EV.int)] ++ [.dic (tabKV (prTab t))]) := k2.trans (Keep.app _)
    have ep2 := kf.at ep
    simp only [ep2, List.lookup_cons, beq_self_eq_true]
    refine q _ ((kf.all (c := is1 p)).trans (Keep.set rfl)) ⟨(h1 ++ [EO.lst (ys.map EV.int)]).length, ?_, ?_⟩
    · rw [set_at ep2]; rfl
    · refine set_off new_at ?_
      have := lt_of_at (k2.at ep)
      omega
end Y

namespace Y
open PySem PySem.Spec PyProof.Rows L2

theorem if_app {c : LTt} {te : LT} {i : Nat} {D : LEnds} {env : En} {h : EH} {s : Nat} {acc : List EV} (b : Bool) (v : EV) (hc : ∀ P : Bool → EH → Prop, P b h → c env h P) (hv : b = true → ∀ P : EK, P v h → te env h P)
    (hs : env[i]? = some (some (.ref s))) (e : h[s]? = some (.lst acc)) (hl : acc.length < sizeLine) (k : D.nx env (h.set s (.lst (acc ++ if b = true then [v] else [])))) :
    lIfS c (lDrop (lBM "list" appendE (lVar i) (lCons te lNil))) lNext D env h := by
  unfold lIfS
  refine hc _ ?_
  cases b with
  | true =>
    simp only [if_true, lDrop, lBM, lVar, hs, lCons, lNil] at k ⊢
    exact ⟨isTy_l e, hv rfl _ (app_f e hl k)⟩
  | false =>
    simp only [Bool.false_eq_true, if_false, List.append_nil, lNext] at k ⊢
    have : h.set s (.lst acc) = h := by
      refine List.ext_getElem? fun k => ?_
      rw [List.getElem?_set]
      by_cases q : s = k
      · subst q; rw [if_pos rfl, if_pos (lt_of_at e), e]
      · rw [if_neg q]
    rw [this] at k
    exact k
def ominL : List (Option Int) → Option Int
  | [] => none
  | o :: l => omin o (ominL l)
theorem none_omin (o : Option Int) : omin none o = o := by cases o <;> rfl
theorem ominL_app (a b : List (Option Int)) : ominL (a ++ b) = omin (ominL a) (ominL b) := by
  induction a with
  | nil => exact (none_omin _).symm
  | cons o a ih => rw [List.cons_append, ominL, ih, ominL, omin_assoc]
theorem ominL_min : ∀ (ns : List Int) (m : Int), m ∈ ns → (∀ y ∈ ns, m ≤ y) → ominL (ns.map some) = some m
  | [], m, h, _ => by simp at h
  | a :: l, m, h, g => by
    rw [List.map_cons, ominL]
    by_cases hl : l = []
    · subst hl
      simp at h
      subst h
      rfl
    · obtain ⟨m2, hm2, g2⟩ : ∃ m2, m2 ∈ l ∧ ∀ y ∈ l, m2 ≤ y := by
        clear h g
        induction l with
        | nil => exact absurd rfl hl
        | cons b l ih =>
          by_cases hl' : l = []
          · subst hl'; exact ⟨b, by simp, by simp⟩
          · obtain ⟨m2, h1, h2⟩ := ih hl'
            by_cases q : b ≤ m2
            · refine ⟨b, by simp, fun y hy => ?_⟩
              rcases List.mem_cons.mp hy with rfl | z
              · omega
              · have := h2 y z; omega
            · refine ⟨m2, by simp [h1], fun y hy => ?_⟩
              rcases List.mem_cons.mp hy with rfl | z
              · omega
              · exact h2 y z
      rw [ominL_min l m2 hm2 g2, omin]
      congr 1
      have h1 := g a (by simp)
      have h2 := g m2 (by simp [hm2])
      rcases List.mem_cons.mp h with rfl | z
      · omega
      · have := g2 m z; omega
theorem ominL_fm (l : List (Option Int)) : ominL ((l.filterMap id).map some) = ominL l := by
  induction l with
  | nil => rfl
  | cons o l ih =>
    cases o with
    | none => simpa [ominL, omin] using ih
    | some a => simp only [List.filterMap_cons, id, List.map_cons, ominL, ih]
def GridOf.cell (g : GridOf) (i j : Nat) : List (Option Int) :=
  (if i = 0 ∧ j = 0 then [some 0] else []) ++ (if 0 < i ∧ 0 < j ∧ g.same (i - 1) (j - 1) = true then [g.best (i - 1) (j - 1)] else []) ++
  (if 0 < i ∧ g.best (i - 1) j ≠ none then [oadd (g.best (i - 1) j) (g.drop (i - 1))] else []) ++ (if 0 < j ∧ g.best i (j - 1) ≠ none then [oadd (g.best i (j - 1)) (g.put (j - 1))] else [])
theorem ominL_if (o : Option Int) (k : Int) : ominL (if o ≠ none then [oadd o k] else []) = oadd o k := by
  cases o <;> simp [ominL, oadd, omin]
theorem eqE_nil {n : Bool} {a b : Nat} {ns : List Int} {h : EH} {P : EK} (e : h[a]? = some (.lst (ns.map EV.int))) (e2 : h[b]? = some (.lst [])) (p : P (.bl (n ^^ decide (ns = []))) h) : eqE n (.ref a) (.ref b) h P := by
  unfold eqE
  have d1 : ∀ l : List Int, Dats h 59 (l.map EV.int) (l.map PyData.int) := by
    intro l
    induction l with
    | nil => exact .nil
    | cons x l ih => exact .cons (.int x) ih
  refine ⟨.list (ns.map PyData.int), .list [], .lst e (d1 ns), .lst e2 .nil, ?_⟩
  have e3 : PyData.eqv (.list (ns.map PyData.int)) (.list []) = decide (ns = []) := by
    cases ns <;> simp [PyData.eqv, PyData.eqvAll]
  rw [e3]
  exact p
def PromNN : Prom → Prop
  | .lag g => 0 ≤ g
  | _ => True
theorem PromOk.nn {p : Prom} (h : PromOk p) : PromNN p := by
  cases p <;> simp [PromOk, PromNN] at h ⊢
  omega
theorem Prom.ok0 {p : Prom} (h : PromNN p) : p.ok 0 0 = true := by
  cases p <;> simp [PromNN, Prom.ok] at h ⊢
  exact h
theorem rep1 : repN 1 [EV.int 0] = [EV.int 0] := by simp [repN]
theorem rep0 : repN 0 [EV.int 0] = [] := by simp [repN]
end Y

namespace Y
open PySem PySem.Spec PyProof.Rows L2

theorem omin_some {a b : Option Int} {v : Int} (h : omin a b = some v) : a = some v ∨ b = some v := by
  cases a with
  | none => rw [none_omin] at h; exact .inr h
  | some x =>
    cases b with
    | none => rw [omin_none] at h; exact .inl h
    | some y =>
      simp only [omin, Option.some.injEq] at h ⊢
      omega
theorem oadd_some {a : Option Int} {k v : Int} (h : oadd a k = some v) : ∃ u, a = some u ∧ v = u + k := by
  cases a with
  | none => cases h
  | some u => simp [oadd] at h; exact ⟨u, rfl, h.symm⟩
structure GridOf.Small (g : GridOf) : Prop where
  d : ∀ i, 1 ≤ g.drop i ∧ g.drop i ≤ 9
  p : ∀ j, 1 ≤ g.put j ∧ g.put j ≤ 9
theorem cost_rg {t : Tab} (rg : TabRg t) (x : Int) : (1 ≤ (cost t x).1 ∧ (cost t x).1 ≤ 9) ∧ (1 ≤ (cost t x).2 ∧ (cost t x).2 ≤ 9) := by
  unfold cost
  cases e : t.lookup x with
  | none => exact ⟨⟨by decide, by decide⟩, ⟨by decide, by decide⟩⟩
  | some c => 
    obtain ⟨l1, l2, rfl, _⟩ := List.lookup_eq_some_iff.mp e
    exact (rg (x, c) (by simp)).2
theorem Wd.small {w : Wd} (rg : TabRg w.c) : w.g.Small := ⟨fun i => (cost_rg rg _).1, fun j => (cost_rg rg _).2⟩
def optD : Option Int → PyData
  | none => .none
  | some i => .int i
def rowD (m : Nat) (f : Nat → Option Int) : PyData := .list ((List.range (m + 1)).map fun j => optD (f j))
def tblD (n m : Nat) (R : Tbl) : PyData := .list ((List.range (n + 1)).map fun i => rowD m (R i))
def OSm (o : Option Int) : Prop := ∀ v, o = some v → v.natAbs < 10 ^ 12
theorem optE_ds {h : EH} {n : Nat} {o : Option Int} (s : OSm o) : DS h n 41 (optE o) (optD o) := by
  cases o with
  | none => exact .non
  | some v => exact .int (s v rfl) (Nat.le_refl _)
theorem ds_map {α : Type} {h : EH} {n k : Nat} {f : α → EV} {d : α → PyData} : ∀ (l : List α), (∀ x ∈ l, DS h n k (f x) (d x)) → DSs h n (l.length * (k + 1)) (l.map f) (l.map d)
  | [], _ => by simpa using DSs.nil
  | x :: l, hs => by
    have := DSs.cons (hs x (by simp)) (ds_map l fun y hy => hs y (List.mem_cons_of_mem _ hy))
    refine this.more ?_
    rw [List.length_cons, Nat.add_mul]; omega
theorem row_ds {h : EH} {q m n : Nat} {f : Nat → Option Int} (e : h[q]? = some (.lst (rowE m f))) (s : ∀ j, j ≤ m → OSm (f j)) : DS h (n + 1) ((m + 1) * 42) (.ref q) (rowD m f) := by
  refine DS.lst e ?_
  have := ds_map (h := h) (n := n) (k := 41) (f := fun j => optE (f j)) (d := fun j => optD (f j)) (List.range (m + 1)) fun j hj => optE_ds (s j (by simp at hj; omega))
  rw [List.length_range] at this
  exact this
theorem RowsAt.ds {h : EH} {b t r n m k : Nat} {R : Tbl} (z : RowsAt h b t r n m R) (s : ∀ i j, i ≤ n → j ≤ m → OSm (R i j)) : DS h (k + 2) ((n + 1) * ((m + 1) * 42 + 1)) (.ref r) (tblD n m R) := by
  obtain ⟨rs, e, l, nd, nr, br, bq, z⟩ := z
  refine DS.lst e ?_
  have e1 : rs = (List.range (n + 1)).map fun i => rs.getD i 0 := by
    refine List.ext_getElem? fun i => ?_
    rw [List.getElem?_map]
    by_cases hi : i < rs.length
    · rw [List.getElem?_range (by omega), List.getElem?_eq_getElem hi]
      simp [List.getD_eq_getElem?_getD, List.getElem?_eq_getElem hi]
    · rw [List.getElem?_eq_none (by omega), List.getElem?_eq_none (by simp; omega)]; rfl
  have := ds_map (h := h) (n := k + 1) (k := (m + 1) * 42) (f := fun i => EV.ref (rs.getD i 0)) (d := fun i => rowD m (R i)) (List.range (n + 1)) fun i hi => by
    simp at hi
    have hl : i < rs.length := by omega
    refine row_ds (z i _ ?_) fun j hj => s i j (by omega) hj
    rw [List.getD_eq_getElem?_getD, List.getElem?_eq_getElem hl]; rfl
  rw [List.length_range] at this
  rw [e1, List.map_map]
  exact this
end Y

namespace Y
open PySem PySem.Spec PyProof.Rows L2

theorem RowsAt.off {h : EH} {b t r n m q : Nat} {R : Tbl} {o : EO} (z : RowsAt h b t r n m R) (hq : t ≤ q) : RowsAt (h.set q o) b t r n m R := by
  obtain ⟨rs, e, l, nd, nr, br, bq, z⟩ := z
  exact ⟨rs, set_off e (by omega), l, nd, nr, br, bq, fun i x hx => set_off (z i x hx) (by have := bq x (List.mem_of_getElem? hx); omega)⟩
theorem RowsAt.last {h : EH} {b t r n m : Nat} {R : Tbl} (z : RowsAt h b t r n m R) : ∃ q xs, h[r]? = some (.lst xs) ∧ atI xs (-1) = some (.ref q) ∧ xs.length = n + 1 ∧ (b ≤ q ∧ q < t) ∧ q ≠ r ∧ h[q]? = some (.lst (rowE m (R n))) ∧ atI (rowE m (R n)) (-1) = some (optE (R n m)) := by
  obtain ⟨q, xs, ex, ax, lx, bq, ne, zx⟩ := z.row (Nat.le_refl n)
  refine ⟨q, xs, ex, ?_, lx, bq, ne, zx, ?_⟩
  · rw [← atI_last' (n := n) lx]; exact (atI_n _ _).trans ax
  · rw [← atI_last' (n := m) (rowE_len _ _)]; exact (atI_n _ _).trans (rowE_at (Nat.le_refl _))
theorem Wd.g_cost {w : Wd} {c : Tab} (hc : ∀ x, cost c x = cost w.c x) : ({ w with c := c } : Wd).g = w.g := by
  have e : cost c = cost w.c := funext hc
  simp only [Wd.g, e]
theorem alike_ok {ad : Ad} {v w : EV} {d : PyData} {n k : Nat} {h : EH} {Q : EK} (a : DS h n k v d) (b : DS h n k w d) (hn : n ≤ 60) (hk : k ≤ 2 ^ 20) (q : Q (.bl true) h) : sp__law_alike ad [v, w] h Q := ⟨v, w, d, rfl, Dat.deep a.1 hn, Dat.deep b.1 hn, (a.fits hk).1, (a.fits hk).2, q⟩
theorem Keep.tab {b : Nat} {h h' : EH} {r : Nat} {kvs : List (EV × EV)} (k : Keep (is1 b) h h') (B : BagAt h b) (e : h[r]? = some (.dic kvs)) : h'[r]? = some (.dic kvs) := by
  refine k.other e ?_
  rintro rfl
  obtain ⟨c, x, y, z, ns, e1, _⟩ := B
  rw [e1] at e
  cases e
theorem bag_ne {h : EH} {b r : Nat} {o : EO} (B : BagAt h b) (e : h[r]? = some o) (n : ∀ xs, o ≠ .lst xs) : r ≠ b := by
  rintro rfl
  obtain ⟨c, x, y, z, ns, e1, _⟩ := B
  rw [e1] at e
  cases e
  exact n _ rfl
theorem make_prices {ad : Ad} {h : EH} {t i : Nat} {c : Tab} {P : EK} {env : En} (ht : env[i]? = some (some (.ref t))) (e : h[t]? = some (.dic (tabKV c))) (ok : TabOk c) (tl : c.length < 64)
    (q : ∀ r h', Keep no1 h h' → h.length ≤ r → PrAt ad h' r (prTab c) → P (.ref r) h') : lMake ad.a_Prices (sp_Prices___init__ ad) (lCons (lCB dcopyE (lCons (lVar i) lNil)) lNil) env h P := by
  simp only [lMake, lCons, lCB, lNil, lVar, ht, dcopyE, e]
  refine ⟨_, _, c, rfl, new_at, app_at new_at _, ok, tl, fun h' k p => ⟨rfl, q _ _ ?_ (by simp) p⟩⟩
  have ka : Keep no1 h (h ++ [.dic (tabKV c)] ++ [.slo ad.a_Prices []]) := (Keep.app _).trans (Keep.app _)
  refine ⟨Nat.le_trans ka.1 k.1, fun r o ho _ => k.2 r o (ka.at ho) ?_⟩
  have := lt_of_at ho
  simp [is1]
  omega
def WorldAt (h : EH) (W : Nat) (v : EV) : Prop := ∃ (q : Nat) (l r : List Int) (t : Nat) (c : Tab) (p : Prom), v = .ref q ∧ W < q ∧ h[q]? = some (.lst [tx l, tx r, .ref t, p.e]) ∧ h[t]? = some (.dic (tabKV c)) ∧ TabOk c ∧ c.length ≤ 40 ∧ l.length ≤ 9 ∧ r.length ≤ 9 ∧ PromNN p
theorem WorldAt.keepB {h h' : EH} {W b : Nat} {v : EV} (z : WorldAt h W v) (B : BagAt h b) (k : Keep (is1 b) h h') : WorldAt h' W v := by
  obtain ⟨q, l, r, t, c, p, e, lt, e1, e2, rest⟩ := z
  refine ⟨q, l, r, t, c, p, e, lt, k.other e1 ?_, k.tab B e2, rest⟩
  rintro rfl
  obtain ⟨c, x, y, z, ns, e3, _⟩ := B
  rw [e1] at e3
  cases e3
structure Pk (h0 : EH) (b W L : Nat) (ns : List Int) (h : EH) (ws : List EV) : Prop where
  k : Keep (is1 b) h0 h
  B : BagAt h b
  w : h[W]? = some (.lst ws)
  a : ∀ v ∈ ws, WorldAt h W v
  l : h[L]? = some (.lst (ns.map EV.int))
end Y

namespace Y
open PySem PySem.Spec PyProof.Rows L2
def GridOf.rest (g : GridOf) (n m i j : Nat) : Option Int :=
  if g.lag i j = true then
    omin (if i = n ∧ j = m then some 0 else none)
      (omin (if _h : i < n ∧ j < m then (if g.same i j = true then g.rest n m (i + 1) (j + 1) else none) else none)
        (omin (if _h : i < n then oadd (g.rest n m (i + 1) j) (g.drop i) else none) (if _h : j < m then oadd (g.rest n m i (j + 1)) (g.put j) else none)))
  else none
  termination_by (n - i) + (m - j)
theorem GridOf.rest_off (g : GridOf) {n m i j : Nat} (h : ¬g.lag i j = true) : g.rest n m i j = none := by
  rw [rest, if_neg h]
theorem GridOf.rest_end (g : GridOf) {n m : Nat} (h : g.lag n m = true) : g.rest n m n m = some 0 := by
  rw [rest, if_pos h, if_pos ⟨rfl, rfl⟩, dif_neg (by omega), dif_neg (by omega), dif_neg (by omega)]; rfl
def GridOf.cellR (g : GridOf) (n m i j : Nat) : List (Option Int) :=
  (if i = n ∧ j = m then [some 0] else []) ++ (if i < n ∧ j < m ∧ g.same i j = true then [g.rest n m (i + 1) (j + 1)] else []) ++
  (if i < n ∧ g.rest n m (i + 1) j ≠ none then [oadd (g.rest n m (i + 1) j) (g.drop i)] else []) ++ (if j < m ∧ g.rest n m i (j + 1) ≠ none then [oadd (g.rest n m i (j + 1)) (g.put j)] else [])
theorem GridOf.cellR_rest (g : GridOf) (n m i j : Nat) : (if g.lag i j = true then ominL (g.cellR n m i j) else none) = g.rest n m i j := by
  rw [rest]
  unfold GridOf.cellR
  split
  · rw [ominL_app, ominL_app, ominL_app, omin_assoc, omin_assoc]
    have h1 : ominL (if i = n ∧ j = m then [some 0] else []) = if i = n ∧ j = m then some 0 else none := by split <;> rfl
    have h2 : ominL (if i < n ∧ j < m ∧ g.same i j = true then [g.rest n m (i + 1) (j + 1)] else []) = if _h : i < n ∧ j < m then (if g.same i j = true then g.rest n m (i + 1) (j + 1) else none) else none := by
      by_cases a : i < n ∧ j < m
      · rw [dif_pos a]
        by_cases b : g.same i j = true
        · rw [if_pos ⟨a.1, a.2, b⟩, if_pos b]; simp [ominL, omin_none]
        · rw [if_neg (fun z => b z.2.2), if_neg b]; rfl
      · rw [dif_neg a, if_neg (fun z => a ⟨z.1, z.2.1⟩)]; rfl
    have h3 : ominL (if i < n ∧ g.rest n m (i + 1) j ≠ none then [oadd (g.rest n m (i + 1) j) (g.drop i)] else []) = if _h : i < n then oadd (g.rest n m (i + 1) j) (g.drop i) else none := by
      by_cases a : i < n
      · rw [dif_pos a]
        have := ominL_if (g.rest n m (i + 1) j) (g.drop i)
        simpa [a] using this
      · rw [dif_neg a, if_neg (fun z => a z.1)]; rfl
    have h4 : ominL (if j < m ∧ g.rest n m i (j + 1) ≠ none then [oadd (g.rest n m i (j + 1)) (g.put j)] else []) = if _h : j < m then oadd (g.rest n m i (j + 1)) (g.put j) else none := by
      by_cases a : j < m
      · rw [dif_pos a]
        have := ominL_if (g.rest n m i (j + 1)) (g.put j)
        simpa [a] using this
      · rw [dif_neg a, if_neg (fun z => a z.1)]; rfl
    rw [h1, h2, h3, h4]
  · rfl
theorem GridOf.rest_le (g : GridOf) (s : g.Small) (n m : Nat) : ∀ (i j : Nat) (v : Int), i ≤ n → j ≤ m → g.rest n m i j = some v → 0 ≤ v ∧ v ≤ 9 * ((n : Int) - i + (m - j)) := by
  intro i j
  induction hk : (n - i) + (m - j) using Nat.strongRecOn generalizing i j with
  | _ k ih =>
    intro v hi hj h
    rw [rest] at h
    split at h
    · rcases omin_some h with h | h
      · split at h
        · cases h; omega
        · cases h
      · rcases omin_some h with h | h
        · split at h
          · split at h
            · have := ih _ (by omega) (i + 1) (j + 1) rfl v (by omega) (by omega) h
              omega
            · cases h
          · cases h
        · rcases omin_some h with h | h
          · split at h
            · obtain ⟨u, e, rfl⟩ := oadd_some h
              have := ih _ (by omega) (i + 1) j rfl u (by omega) (by omega) e
              have := s.d i
              omega
            · cases h
          · split at h
            · obtain ⟨u, e, rfl⟩ := oadd_some h
              have := ih _ (by omega) i (j + 1) rfl u (by omega) (by omega) e
              have := s.p j
              omega
            · cases h
    · cases h
abbrev Wd.rest (w : Wd) : Tbl := w.g.rest w.n w.m
def Wd.cs (w : Wd) (i j c : Nat) : Int := stepCost (cost w.c) w.l w.r c i j
theorem Wd.rest_stp (w : Wd) {i j : Nat} (hi : i ≤ w.n) (hj : j ≤ w.m) (hl : w.p.ok i j = true) (he : ¬(i = w.n ∧ j = w.m)) :
    ominL ((w.stp i j).map fun c => oadd (w.rest (mvI i c) (mvJ j c)) (w.cs i j c)) = w.rest i j := by
  have lg : ∀ x y, w.g.lag x y = w.p.ok x y := fun _ _ => rfl
  have m1 : mvI i 107 = i + 1 := rfl
  have m2 : mvI i 100 = i + 1 := rfl
  have m3 : mvI i 112 = i := rfl
  have m4 : mvJ j 107 = j + 1 := rfl
  have m5 : mvJ j 100 = j := rfl
  have m6 : mvJ j 112 = j + 1 := rfl
  have k1 : w.cs i j 107 = 0 := rfl
  have k2 : w.cs i j 100 = w.g.drop i := rfl
  have k3 : w.cs i j 112 = w.g.put j := rfl
  have z0 : ∀ o : Option Int, oadd o 0 = o := fun o => by cases o <;> simp [oadd]
  have r1 : ¬w.p.ok (i + 1) (j + 1) = true → w.rest (i + 1) (j + 1) = none := fun h => w.g.rest_off h
  have r2 : ¬w.p.ok (i + 1) j = true → w.rest (i + 1) j = none := fun h => w.g.rest_off h
  have r3 : ¬w.p.ok i (j + 1) = true → w.rest i (j + 1) = none := fun h => w.g.rest_off h
  have c1 : canDo w.l w.r 107 i j = (decide (i < w.n) && decide (j < w.m) && w.g.same i j) := rfl
  have c2 : canDo w.l w.r 100 i j = decide (i < w.n) := rfl
  have c3 : canDo w.l w.r 112 i j = decide (j < w.m) := rfl
  conv => rhs; rw [Wd.rest, GridOf.rest, lg, if_pos hl, if_neg he, none_omin]
  unfold Wd.stp
  simp only [List.filter_cons, List.filter_nil, m1, m2, m3, m4, m5, m6, c1, c2, c3]
  have e1 : (if _h : i < w.n ∧ j < w.m then (if w.g.same i j = true then w.rest (i + 1) (j + 1) else none) else none) = if (decide (i < w.n) && decide (j < w.m) && w.g.same i j && w.p.ok (i + 1) (j + 1)) = true then oadd (w.rest (i + 1) (j + 1)) (w.cs i j 107) else none := by
    rw [k1, z0]
    by_cases a : i < w.n ∧ j < w.m
    · rw [dif_pos a]
      by_cases b : w.g.same i j = true
      · rw [if_pos b]
        by_cases c : w.p.ok (i + 1) (j + 1) = true
        · rw [if_pos (by simp [a.1, a.2, b, c])]
        · rw [if_neg (by simp [c]), r1 c]
      · rw [if_neg b, if_neg (by simp [b])]
    · rw [dif_neg a, if_neg (by simp only [Bool.and_eq_true, decide_eq_true_eq]; exact fun z => a z.1.1)]
  have e2 : (if _h : i < w.n then oadd (w.rest (i + 1) j) (w.g.drop i) else none) = if (decide (i < w.n) && w.p.ok (i + 1) j) = true then oadd (w.rest (i + 1) j) (w.cs i j 100) else none := by
    rw [k2]
    by_cases a : i < w.n
    · rw [dif_pos a]
      by_cases c : w.p.ok (i + 1) j = true
      · rw [if_pos (by simp [a, c])]
      · rw [if_neg (by simp [c]), r2 c]; rfl
    · rw [dif_neg a, if_neg (by simp [a])]
  have e3 : (if _h : j < w.m then oadd (w.rest i (j + 1)) (w.g.put j) else none) = if (decide (j < w.m) && w.p.ok i (j + 1)) = true then oadd (w.rest i (j + 1)) (w.cs i j 112) else none := by
    rw [k3]
    by_cases a : j < w.m
    · rw [dif_pos a]
      by_cases c : w.p.ok i (j + 1) = true
      · rw [if_pos (by simp [a, c])]
      · rw [if_neg (by simp [c]), r3 c]; rfl
    · rw [dif_neg a, if_neg (by simp [a])]
  show _ = omin (if _h : i < w.n ∧ j < w.m then (if w.g.same i j = true then w.rest (i + 1) (j + 1) else none) else none) (omin (if _h : i < w.n then oadd (w.rest (i + 1) j) (w.g.drop i) else none) (if _h : j < w.m then oadd (w.rest i (j + 1)) (w.g.put j) else none))
  rw [e1, e2, e3]
  split <;> split <;> split <;> simp [m1, m2, m3, m4, m5, m6, ominL, none_omin, omin_none]
theorem ptsL_last (n m : Nat) : (ptsL n m).dropLast ++ [(n, m)] = ptsL n m := by
  have e : ∃ l, ptsL n m = l ++ [(n, m)] := by
    unfold ptsL
    rw [List.range_succ (n := n), List.flatMap_append]
    refine ⟨(List.range n).flatMap (fun i => (List.range (m + 1)).map fun j => (i, j)) ++ (List.range m).map fun j => (n, j), ?_⟩
    rw [List.append_assoc]
    congr 1
    simp [List.range_succ]
  obtain ⟨l, e⟩ := e
  rw [e, List.dropLast_concat]
theorem ptsL_back {n m : Nat} {pre done : List (Nat × Nat)} {i j : Nat} (e : ptsL n m = pre ++ (i, j) :: done) :
    i ≤ n ∧ j ≤ m ∧ (i, j) ∉ done ∧ ∀ a b, i ≤ a → j ≤ b → a ≤ n → b ≤ m → (i < a ∨ j < b) → (a, b) ∈ done := by
  have hm : (i, j) ∈ ptsL n m := by rw [e]; simp
  have hm' := ptsL_mem.mp hm
  have hp := ptsL_lex n m
  rw [e, List.pairwise_append] at hp
  obtain ⟨_, p2, p3⟩ := hp
  refine ⟨hm'.1, hm'.2, fun z => ?_, fun a b ha hb ha2 hb2 hab => ?_⟩
  · have := (List.pairwise_cons.mp p2).1 _ z
    unfold lexL at this; simp at this
  · have hx : (a, b) ∈ ptsL n m := ptsL_mem.mpr ⟨ha2, hb2⟩
    rw [e] at hx
    rcases List.mem_append.mp hx with z | z
    · have := p3 _ z (i, j) (by simp)
      unfold lexL at this; simp at this; omega
    · rcases List.mem_cons.mp z with z | z
      · cases z; omega
      · exact z
end Y

namespace Y
open PySem PySem.Spec PyProof.Rows L2

def sp_rests (ad : Ad) : LSp := fun evs h Q => ∃ (w : Wd) (p : Nat), evs = [tx w.l, tx w.r, .ref p, w.p.e] ∧ PrAt ad h p w.c ∧ w.n ≤ 1000 ∧ w.m ≤ 1000 ∧ ToldRows h w.n w.m w.rest Q
abbrev N_rests : List Str := ["left", "right", "prices", "promise", "rows", "end", "point", "some", "found", "i", "step", "cost", "j", "rest"]
def t_rests_4 (ad : Ad) : LS :=
    lRet (lVar 4)
def t_rests_3 (ad : Ad) : LS :=
    lSeq (lFor (lIt (lRev2 (lCall (sp_all_points ad) (lCons (lVar 0) (lCons (lVar 1) (lNil)))))) (.nm 6)
      (lIfS (lT (lCall (sp_is_in_lag ad) (lCons (lVar 6) (lCons (lVar 3) (lNil)))))
      (lSeq (lSet (lLc (lIt (lCall (sp_steps_from ad) (lCons (lVar 0) (lCons (lVar 1) (lCons (lVar 2) (lCons (lVar 3) (lCons (lVar 6) (lNil)))))))) (.tp [.nm 10, .tp [.nm 9, .nm 12], .nm 11]) (lYes) (lTup (lCons (lOp ixA (lOp ixA (lVar 4) (lVar 9)) (lVar 12)) (lCons (lVar 11) (lNil)))) [10, 11, 9, 12]) 7) <|
    lSeq (lSet (lLc (lIt (lVar 7)) (.tp [.nm 13, .nm 11]) (lB (lOp (isN true) (lVar 13) (lC .non))) (lOp addE (lVar 13) (lVar 11)) [13, 11]) 8) <|
    lSetA (lOp ixA (lVar 4) (lOp ixA (lVar 6) (lC (.int 0)))) (lOp ixA (lVar 6) (lC (.int 1))) (lIf (lB (lOp (eqE true) (lVar 8) (lLst (lNil)))) (lCB minE (lCons (lVar 8) (lNil))) (lC .non)))
      (lNext))) <| t_rests_4 ad
def t_rests_2 (ad : Ad) : LS :=
    lSeq (lIfS (lT (lCall (sp_is_in_lag ad) (lCons (lVar 5) (lCons (lVar 3) (lNil)))))
      (lSetA (lOp ixA (lVar 4) (lNeg (lC (.int 1)))) (lNeg (lC (.int 1))) (lC (.int 0)))
      (lNext)) <| t_rests_3 ad
def t_rests_1 (ad : Ad) : LS :=
    lSeq (lSet (lTup (lCons (lCB lenE (lCons (lVar 0) (lNil))) (lCons (lCB lenE (lCons (lVar 1) (lNil))) (lNil)))) 5) <| t_rests_2 ad
def t_rests_0 (ad : Ad) : LS :=
    lSeq (lSet (lLc (lRng1 (lCons (lOp addE (lCB lenE (lCons (lVar 0) (lNil))) (lC (.int 1))) (lNil))) (.nm 9) (lYes) (lOp mulE (lLst (lCons (lC .non) (lNil))) (lOp addE (lCB lenE (lCons (lVar 1) (lNil))) (lC (.int 1)))) [9]) 4) <| t_rests_1 ad
def t_rests (ad : Ad) : LS :=
    lSeq (lSet (lLc (lRng1 (lCons (lOp addE (lCB lenE (lCons (lVar 0) (lNil))) (lC (.int 1))) (lNil))) (.nm 9) (lYes) (lOp mulE (lLst (lCons (lC .non) (lNil))) (lOp addE (lCB lenE (lCons (lVar 1) (lNil))) (lC (.int 1)))) [9]) 4) <|
    lSeq (lSet (lTup (lCons (lCB lenE (lCons (lVar 0) (lNil))) (lCons (lCB lenE (lCons (lVar 1) (lNil))) (lNil)))) 5) <|
    lSeq (lIfS (lT (lCall (sp_is_in_lag ad) (lCons (lVar 5) (lCons (lVar 3) (lNil)))))
      (lSetA (lOp ixA (lVar 4) (lNeg (lC (.int 1)))) (lNeg (lC (.int 1))) (lC (.int 0)))
      (lNext)) <|
    lSeq (lFor (lIt (lRev2 (lCall (sp_all_points ad) (lCons (lVar 0) (lCons (lVar 1) (lNil)))))) (.nm 6)
      (lIfS (lT (lCall (sp_is_in_lag ad) (lCons (lVar 6) (lCons (lVar 3) (lNil)))))
      (lSeq (lSet (lLc (lIt (lCall (sp_steps_from ad) (lCons (lVar 0) (lCons (lVar 1) (lCons (lVar 2) (lCons (lVar 3) (lCons (lVar 6) (lNil)))))))) (.tp [.nm 10, .tp [.nm 9, .nm 12], .nm 11]) (lYes) (lTup (lCons (lOp ixA (lOp ixA (lVar 4) (lVar 9)) (lVar 12)) (lCons (lVar 11) (lNil)))) [10, 11, 9, 12]) 7) <|
    lSeq (lSet (lLc (lIt (lVar 7)) (.tp [.nm 13, .nm 11]) (lB (lOp (isN true) (lVar 13) (lC .non))) (lOp addE (lVar 13) (lVar 11)) [13, 11]) 8) <|
    lSetA (lOp ixA (lVar 4) (lOp ixA (lVar 6) (lC (.int 0)))) (lOp ixA (lVar 6) (lC (.int 1))) (lIf (lB (lOp (eqE true) (lVar 8) (lLst (lNil)))) (lCB minE (lCons (lVar 8) (lNil))) (lC .non)))
      (lNext))) <|
    lRet (lVar 4)
theorem len_rests (ad : Ad) (evs : List EV) (h : EH) (Q : EK) (q : sp_rests ad evs h Q) : evs.length = ["left", "right", "prices", "promise"].length := by
  obtain ⟨_, _, rfl, _⟩ := q; rfl
def doneT (d : List (Nat × Nat)) (R : Tbl) : Tbl := fun a b => if (a, b) ∈ d then R a b else none
theorem Wd.rest_none (w : Wd) {i j : Nat} (h : ¬w.p.ok i j = true) : w.rest i j = none := w.g.rest_off h
theorem Wd.fm_rest (w : Wd) (i j : Nat) (cs : List Nat) : ((cs.map fun c => EV.tup [optE (w.rest (mvI i c) (mvJ j c)), .int (w.cs i j c)]).filterMap fun v => match v with
    | .tup [.int a, .int b] => some (EV.int (a + b))
    | _ => none) = ((cs.map fun c => oadd (w.rest (mvI i c) (mvJ j c)) (w.cs i j c)).filterMap id).map EV.int := by
  induction cs with
  | nil => rfl
  | cons c cs ih =>
    rw [List.map_cons, List.map_cons, List.filterMap_cons, List.filterMap_cons, ih]
    cases e : w.rest (mvI i c) (mvJ j c) <;> rfl
theorem setA_last {h : EH} {q m : Nat} {f : Nat → Option Int} {v : EV} {P : EH → Prop} (z : h[q]? = some (.lst (rowE m f))) (p : P (h.set q (.lst ((rowE m f).set m v)))) : setA (.ref q) (.int (-1)) v h P :=
  sa_l z (k := m) (by unfold ixN; rw [if_neg (by decide), if_pos (by rw [rowE_len]; omega), rowE_len]; congr 1; omega) p
theorem pure_rests (ad : Ad) (evs : List EV) (h : EH) (Q : EK) (q : sp_rests ad evs h Q) : t_rests ad (endsOf Q) (startE N_rests evs) h := by
  obtain ⟨w, p, rfl, pr, hn, hm, q⟩ := q
  simp only [Wd.n, Wd.m] at hn hm q
  show t_rests_0 ad (endsOf Q) [some (tx w.l), some (tx w.r), some (.ref p), some w.p.e, none, none, none, none, none, none, none, none, none, none] h
  unfold t_rests_0
  rw [lSeq]
  simp only [lSet, lRet, lRetN, lDrop, lOp, lVar, lC, lB, lT, lAnd, lOr, lNot, lIf, lAndV, lOrV, lNotV, lNil, lCons, lTup, lLst, lCB, lBM, lSl, lPart, lNext, lIt, lRng1, lRng2, lAsg, lPar, lSetI, lSetA, lAugS, lLc, lZip, lNeg, lCall, lChain, List.getElem?_cons_zero, List.getElem?_cons_succ, List.set_cons_zero, List.set_cons_succ, wipeE, intP, intE, tx, lenE, addE, List.length_map]
  refine ⟨⟨by omega, by omega⟩, ?_⟩
  rw [show ((w.l.length : Int) + 1).toNat = w.l.length + 1 by omega]
  refine rows_none hn hm rfl (fun v h1 P1 q1 => by simpa [lSeq, lSet, lRet, lRetN, lDrop, lIfS, lOp, lVar, lC, lB, lT, lAnd, lOr, lNot, lIf, lAndV, lOrV, lNotV, lNil, lCons, lTup, lLst, lCB, lBM, lSl, lPart, lNext, lFor, lIt, lRng1, lRng2, lAsg, lPar, lSetI, lSetA, lAugS, lLc, lZip, lNeg, lCall, lChain, List.getElem?_cons_zero, List.getElem?_cons_succ, List.set_cons_zero, List.set_cons_succ, truE, wipeE, intP, intE, lBind, Pat.bind, Pat.binds, eqE, geE, gtE, leE, ltE, intP, intE, addE, subE, lenE, ixA, ixE, isN, absE, intOf, isTy, attrE, atI_n, atI_0, atI_1, atI_2, atI_3, lYes] using q1) fun r h1 k1 t1 => ?_
  unfold t_rests_1
  rw [lSeq]
  simp only [lSet, lRet, lRetN, lDrop, lOp, lVar, lC, lB, lT, lAnd, lOr, lNot, lIf, lAndV, lOrV, lNotV, lNil, lCons, lTup, lLst, lCB, lBM, lSl, lPart, lNext, lIt, lRng1, lRng2, lAsg, lPar, lSetI, lSetA, lAugS, lLc, lZip, lNeg, lCall, lChain, List.getElem?_cons_zero, List.getElem?_cons_succ, List.set_cons_zero, List.set_cons_succ, wipeE, intP, intE, lenE, List.length_map]
  refine ⟨by simp [sizeL], ?_⟩
  -- from the end on
  have fin : ∀ (R : Tbl) (h2 : EH), Keep no1 h h2 → h1.length ≤ h2.length → RowsAt h2 h.length h1.length r w.l.length w.r.length R → (∀ a b, a ≤ w.l.length → b ≤ w.r.length → R a b = doneT [(w.l.length, w.r.length)] w.rest a b) →
      t_rests_3 ad (endsOf Q) [some (tx w.l), some (tx w.r), some (.ref p), some w.p.e, some (.ref r), some (ptE w.l.length w.r.length), none, none, none, none, none, none, none, none] h2 := by
    intro R h2 k2 l2 t2 eR
    unfold t_rests_3
    rw [lSeq, lFor]
    simp only [lSet, lRet, lRetN, lDrop, lOp, lVar, lC, lB, lT, lAnd, lOr, lNot, lIf, lAndV, lOrV, lNotV, lNil, lCons, lTup, lLst, lCB, lBM, lSl, lPart, lNext, lIt, lRng1, lRng2, lAsg, lPar, lSetI, lSetA, lAugS, lLc, lZip, lNeg, lCall, lChain, List.getElem?_cons_zero, List.getElem?_cons_succ, List.set_cons_zero, List.set_cons_succ, wipeE, intP, intE, lRev2]
    refine ⟨w.l, w.r, rfl, hn, hm, fun r3 h3 k3 b3 e3 => ?_⟩
    simp only [e3, new_at]
    have t3 := (t2.congr eR).keep (k3.trans (Keep.app [.lst (((ptsL w.l.length w.r.length).map fun p => ptE p.1 p.2).dropLast.reverse)]))
    have k3' := k2.trans (k3.trans (Keep.app [.lst (((ptsL w.l.length w.r.length).map fun p => ptE p.1 p.2).dropLast.reverse)]))
    have e4 : (h3 ++ [EO.lst (((ptsL w.l.length w.r.length).map fun p => ptE p.1 p.2).dropLast.reverse)])[h3.length]? = some (.lst (((ptsL w.l.length w.r.length).map fun p => ptE p.1 p.2).dropLast.reverse)) := new_at
    have l3 := k3.1
    generalize h3 ++ [EO.lst (((ptsL w.l.length w.r.length).map fun p => ptE p.1 p.2).dropLast.reverse)] = h4 at t3 k3' e4 ⊢
    refine loop_ind (fun left env h' => ∃ (pre done : List (Nat × Nat)) (x6 x7 x8 x9 x10 x11 x12 x13 : Option EV), ptsL w.l.length w.r.length = pre ++ done ∧ (w.l.length, w.r.length) ∈ done ∧ left = (pre.reverse).map (fun p => ptE p.1 p.2) ∧ env = [some (tx w.l), some (tx w.r), some (.ref p), some w.p.e, some (.ref r), some (ptE w.l.length w.r.length), x6, x7, x8, x9, x10, x11, x12, x13] ∧ Keep no1 h h' ∧ h'[h3.length]? = some (.lst (((ptsL w.l.length w.r.length).map fun p => ptE p.1 p.2).dropLast.reverse)) ∧ RowsAt h' h.length h1.length r w.l.length w.r.length (doneT done w.rest)) ?_ ?_ _ _ _ ⟨(ptsL w.l.length w.r.length).dropLast, [(w.l.length, w.r.length)], _, _, _, _, _, _, _, _, (ptsL_last _ _).symm, by simp, by rw [List.map_reverse, ← List.map_dropLast], rfl, k3', e4, t3⟩
    · rintro env h' ⟨pre, done, x6, x7, x8, x9, x10, x11, x12, x13, ep, _, el, rfl, k, e5, t⟩
      obtain rfl : pre = [] := by simpa using el.symm
      refine ⟨e5, ?_⟩
      simp only [t_rests_4, lSet, lRet, lRetN, lDrop, lOp, lVar, lC, lB, lT, lAnd, lOr, lNot, lIf, lAndV, lOrV, lNotV, lNil, lCons, lTup, lLst, lCB, lBM, lSl, lPart, lNext, lIt, lRng1, lRng2, lAsg, lPar, lSetI, lSetA, lAugS, lLc, lZip, lNeg, lCall, lChain, List.getElem?_cons_zero, List.getElem?_cons_succ, List.set_cons_zero, List.set_cons_succ, wipeE, intP, intE]
      have lr := t.lt
      have lk : h1.length ≤ h'.length := by have := lt_of_at e5; omega
      refine q _ _ k ((t.congr fun i j hi hj => ?_).more lk)
      rw [List.nil_append] at ep
      unfold doneT
      rw [if_pos]
      rw [← ep]
      exact ptsL_mem.mpr ⟨hi, hj⟩
    · rintro x left env h' kk ⟨pre, done, x6, x7, x8, x9, x10, x11, x12, x13, ep, ne, el, rfl, k, e5, t⟩ hk
      obtain ⟨pre, i, j, rfl⟩ : ∃ q i j, pre = q ++ [(i, j)] := by
        rcases List.eq_nil_or_concat pre with rfl | ⟨q, ⟨i, j⟩, rfl⟩
        · simp at el
        · exact ⟨q, i, j, by simp⟩
      rw [List.reverse_append, List.reverse_singleton, List.singleton_append, List.map_cons, List.cons.injEq] at el
      obtain ⟨rfl, rfl⟩ := el
      refine ⟨e5, bind_nm ?_⟩
      rw [List.append_assoc, List.singleton_append] at ep
      obtain ⟨hi, hj, hnd, hall⟩ := ptsL_back ep
      have hne : ¬(i = w.l.length ∧ j = w.r.length) := by
        rintro ⟨rfl, rfl⟩
        exact hnd ne
      have lk : h1.length ≤ h'.length := by have := lt_of_at e5; omega
      rw [lIfS]
      simp only [lSet, lRet, lRetN, lDrop, lOp, lVar, lC, lB, lT, lAnd, lOr, lNot, lIf, lAndV, lOrV, lNotV, lNil, lCons, lTup, lLst, lCB, lBM, lSl, lPart, lNext, lIt, lRng1, lRng2, lAsg, lPar, lSetI, lSetA, lAugS, lLc, lZip, lNeg, lCall, lChain, List.getElem?_cons_zero, List.getElem?_cons_succ, List.set_cons_zero, List.set_cons_succ, wipeE, intP, intE, lT, List.set_cons_zero, List.set_cons_succ]
      refine ⟨i, j, w.p, rfl, ?_⟩
      simp only [truE]
      cases hl : w.p.ok i j with
      | false =>
        simp only [Bool.false_eq_true, if_false]
        refine hk _ _ ⟨pre, (i, j) :: done, _, _, _, _, _, _, _, _, ep, by simp [ne], rfl, rfl, k, e5, t.congr fun a b _ _ => ?_⟩
        unfold doneT
        by_cases hab : (a, b) = (i, j)
        · cases hab
          rw [if_neg hnd, if_pos (by simp), w.rest_none (by simp [hl])]
        · simp only [List.mem_cons, hab, false_or]
      | true =>
        simp only [if_true]
        rw [lSeq]
        simp only [lSet, lRet, lRetN, lDrop, lOp, lVar, lC, lB, lT, lAnd, lOr, lNot, lIf, lAndV, lOrV, lNotV, lNil, lCons, lTup, lLst, lCB, lBM, lSl, lPart, lNext, lIt, lRng1, lRng2, lAsg, lPar, lSetI, lSetA, lAugS, lLc, lZip, lNeg, lCall, lChain, List.getElem?_cons_zero, List.getElem?_cons_succ, List.set_cons_zero, List.set_cons_succ, wipeE, intP, intE]
        refine ⟨w, p, i, j, rfl, pr.keep k, fun r6 h6 k6 b6 e6 => ?_⟩
        simp only [e6]
        have t6 := t.keep k6
        have stl : (w.stp i j).length ≤ 3 := Nat.le_trans (List.length_filter_le _ _) (by decide)
        refine lc_map (fun v => match v with
          | .tup [.str [c], _, _] => EV.tup [optE (w.rest (mvI i c) (mvJ j c)), .int (w.cs i j c)]
          | _ => .non) _ (by rw [List.length_map, sizeL]; omega) (fun acc => app_at e6 _) (fun y hy acc ky hky => ?_) ?_
        · obtain ⟨c, hc, rfl⟩ := List.mem_map.mp hy
          obtain ⟨bi, bj⟩ := w.stp_le hc hi hj
          obtain ⟨q1, xs, ex, ax, _, _, _, zx⟩ := (t6.keep (Keep.app [.lst acc])).row bi
          have hd : doneT done w.rest (mvI i c) (mvJ j c) = w.rest (mvI i c) (mvJ j c) := by
            unfold doneT
            rw [if_pos]
            refine hall _ _ ?_ ?_ bi bj ?_
            · unfold mvI; split <;> omega
            · unfold mvJ; split <;> omega
            · by_cases h1 : c = 112
              · right; subst h1; simp [mvJ]
              · left; simp [mvI, h1]
          simp only [Wd.stpE, lSeq, lSet, lRet, lRetN, lDrop, lIfS, lOp, lVar, lC, lB, lT, lAnd, lOr, lNot, lIf, lAndV, lOrV, lNotV, lNil, lCons, lTup, lLst, lCB, lBM, lSl, lPart, lNext, lFor, lIt, lRng1, lRng2, lAsg, lPar, lSetI, lSetA, lAugS, lLc, lZip, lNeg, lCall, lChain, List.getElem?_cons_zero, List.getElem?_cons_succ, List.set_cons_zero, List.set_cons_succ, truE, wipeE, intP, intE, lBind, Pat.bind, Pat.binds, eqE, geE, gtE, leE, ltE, intP, intE, addE, subE, lenE, ixA, ixE, isN, absE, intOf, isTy, attrE, atI_n, atI_0, atI_1, atI_2, atI_3, lYes, ptE, wipeE, ex, ax, zx, rowE_at bj, hd]
          exact ⟨by simp [sizeL], hky⟩
        have k7 : Keep no1 h' (h6 ++ [.lst ((w.stp i j).map fun c => EV.tup [optE (w.rest (mvI i c) (mvJ j c)), .int (w.cs i j c)])]) := k6.trans (Keep.app _)
        have e7 : (h6 ++ [EO.lst ((w.stp i j).map fun c => EV.tup [optE (w.rest (mvI i c) (mvJ j c)), .int (w.cs i j c)])])[h6.length]? = some (.lst ((w.stp i j).map fun c => EV.tup [optE (w.rest (mvI i c) (mvJ j c)), .int (w.cs i j c)])) := new_at
        have em : (((w.stp i j).map (w.stpE i j)).map fun v => match v with
          | .tup [.str [c], _, _] => EV.tup [optE (w.rest (mvI i c) (mvJ j c)), .int (w.cs i j c)]
          | _ => .non) = (w.stp i j).map fun c => EV.tup [optE (w.rest (mvI i c) (mvJ j c)), .int (w.cs i j c)] := by
          rw [List.map_map]; rfl
        rw [em]
        generalize h6 ++ [EO.lst ((w.stp i j).map fun c => EV.tup [optE (w.rest (mvI i c) (mvJ j c)), .int (w.cs i j c)])] = h7 at k7 e7 ⊢
        rw [lSeq]
        simp only [lSet, lRet, lRetN, lDrop, lOp, lVar, lC, lB, lT, lAnd, lOr, lNot, lIf, lAndV, lOrV, lNotV, lNil, lCons, lTup, lLst, lCB, lBM, lSl, lPart, lNext, lIt, lRng1, lRng2, lAsg, lPar, lSetI, lSetA, lAugS, lLc, lZip, lNeg, lCall, lChain, List.getElem?_cons_zero, List.getElem?_cons_succ, List.set_cons_zero, List.set_cons_succ, wipeE, intP, intE, e7, wipeE]
        refine lc_plain (fun v => match v with
          | .tup [.int a, .int b] => some (EV.int (a + b))
          | _ => none) _ (by rw [List.length_map, sizeL]; omega) (fun acc => app_at e7 _) (fun y hy acc ky kn hky hkn => ?_) ?_
        · obtain ⟨c, hc, rfl⟩ := List.mem_map.mp hy
          cases ev : w.rest (mvI i c) (mvJ j c) with
          | none =>
            simp [lSeq, lSet, lRet, lRetN, lDrop, lIfS, lOp, lVar, lC, lB, lT, lAnd, lOr, lNot, lIf, lAndV, lOrV, lNotV, lNil, lCons, lTup, lLst, lCB, lBM, lSl, lPart, lNext, lFor, lIt, lRng1, lRng2, lAsg, lPar, lSetI, lSetA, lAugS, lLc, lZip, lNeg, lCall, lChain, List.getElem?_cons_zero, List.getElem?_cons_succ, List.set_cons_zero, List.set_cons_succ, truE, wipeE, intP, intE, lBind, Pat.bind, Pat.binds, eqE, geE, gtE, leE, ltE, intP, intE, addE, subE, lenE, ixA, ixE, isN, absE, intOf, isTy, attrE, atI_n, atI_0, atI_1, atI_2, atI_3, lYes, optE, ev] at hky hkn ⊢
            exact hkn
          | some v =>
            simp [lSeq, lSet, lRet, lRetN, lDrop, lIfS, lOp, lVar, lC, lB, lT, lAnd, lOr, lNot, lIf, lAndV, lOrV, lNotV, lNil, lCons, lTup, lLst, lCB, lBM, lSl, lPart, lNext, lFor, lIt, lRng1, lRng2, lAsg, lPar, lSetI, lSetA, lAugS, lLc, lZip, lNeg, lCall, lChain, List.getElem?_cons_zero, List.getElem?_cons_succ, List.set_cons_zero, List.set_cons_succ, truE, wipeE, intP, intE, lBind, Pat.bind, Pat.binds, eqE, geE, gtE, leE, ltE, intP, intE, addE, subE, lenE, ixA, ixE, isN, absE, intOf, isTy, attrE, atI_n, atI_0, atI_1, atI_2, atI_3, lYes, optE, ev] at hky hkn ⊢
            exact hky
        rw [w.fm_rest]
        have em2 : ominL ((((w.stp i j).map fun c => oadd (w.rest (mvI i c) (mvJ j c)) (w.cs i j c)).filterMap id).map some) = w.rest i j := by
          rw [ominL_fm]; exact w.rest_stp hi hj hl hne
        generalize ((w.stp i j).map fun c => oadd (w.rest (mvI i c) (mvJ j c)) (w.cs i j c)).filterMap id = ns at em2 ⊢
        have e8 : (h7 ++ [EO.lst (ns.map EV.int)])[h7.length]? = some (.lst (ns.map EV.int)) := new_at
        have k8 : Keep no1 h' (h7 ++ [EO.lst (ns.map EV.int)]) := k7.trans (Keep.app _)
        refine ⟨by rw [sizeL]; decide, ?_⟩
        refine eqE_nil (app_at e8 _) new_at ?_
        have k9 : Keep no1 h' (h7 ++ [EO.lst (ns.map EV.int)] ++ [.lst []]) := k8.trans (Keep.app _)
        have e9 := app_at e8 [.lst []]
        generalize h7 ++ [EO.lst (ns.map EV.int)] ++ [.lst []] = h9 at k9 e9 ⊢
        have t9 := t.keep k9
        obtain ⟨qr, xs, ex, ax, _, bq, _, zx⟩ := t9.row hi
        have fn : setA (.ref qr) (.int j) (optE (w.rest i j)) h9 (fun h4 => kk [some (tx w.l), some (tx w.r), some (.ref p), some w.p.e, some (.ref r), some (ptE w.l.length w.r.length), some (ptE i j), some (.ref h6.length), some (.ref h7.length), x9, x10, x11, x12, x13] h4) := by
          refine setA_row zx hj ?_
          refine hk _ _ ⟨pre, (i, j) :: done, _, _, _, _, _, _, _, _, ep, by simp [ne], rfl, rfl, (k.trans k9).fresh bq.1, set_off (k9.at e5) (by omega), (t9.set ex ax hj).congr fun a b _ _ => ?_⟩
          unfold upd doneT
          by_cases hab : (a, b) = (i, j)
          · cases hab
            rw [if_pos ⟨rfl, rfl⟩, if_pos (by simp)]
          · rw [if_neg (fun z => hab (by rw [z.1, z.2]))]
            simp only [List.mem_cons, hab, false_or]
        by_cases hns : ns = []
        · subst hns
          have : w.rest i j = none := by rw [← em2]; rfl
          rw [this] at fn
          simp [lSeq, lSet, lRet, lRetN, lDrop, lIfS, lOp, lVar, lC, lB, lT, lAnd, lOr, lNot, lIf, lAndV, lOrV, lNotV, lNil, lCons, lTup, lLst, lCB, lBM, lSl, lPart, lNext, lFor, lIt, lRng1, lRng2, lAsg, lPar, lSetI, lSetA, lAugS, lLc, lZip, lNeg, lCall, lChain, List.getElem?_cons_zero, List.getElem?_cons_succ, List.set_cons_zero, List.set_cons_succ, truE, wipeE, intP, intE, lBind, Pat.bind, Pat.binds, eqE, geE, gtE, leE, ltE, intP, intE, addE, subE, lenE, ixA, ixE, isN, absE, intOf, isTy, attrE, atI_n, atI_0, atI_1, atI_2, atI_3, lYes, ptE, ex, ax]
          exact fn
        · rw [decide_eq_false hns]
          simp only [Bool.xor_false, if_true, minE, e9]
          refine ⟨ns, rfl, hns, fun m hmm hle => ?_⟩
          have : w.rest i j = some m := by rw [← em2]; exact ominL_min _ _ hmm hle
          rw [this] at fn
          simp [lSeq, lSet, lRet, lRetN, lDrop, lIfS, lOp, lVar, lC, lB, lT, lAnd, lOr, lNot, lIf, lAndV, lOrV, lNotV, lNil, lCons, lTup, lLst, lCB, lBM, lSl, lPart, lNext, lFor, lIt, lRng1, lRng2, lAsg, lPar, lSetI, lSetA, lAugS, lLc, lZip, lNeg, lCall, lChain, List.getElem?_cons_zero, List.getElem?_cons_succ, List.set_cons_zero, List.set_cons_succ, truE, wipeE, intP, intE, lBind, Pat.bind, Pat.binds, eqE, geE, gtE, leE, ltE, intP, intE, addE, subE, lenE, ixA, ixE, isN, absE, intOf, isTy, attrE, atI_n, atI_0, atI_1, atI_2, atI_3, lYes, ptE, ex, ax]
          exact fn
  unfold t_rests_2
  rw [lSeq, lIfS]
  simp only [lSet, lRet, lRetN, lDrop, lOp, lVar, lC, lB, lT, lAnd, lOr, lNot, lIf, lAndV, lOrV, lNotV, lNil, lCons, lTup, lLst, lCB, lBM, lSl, lPart, lNext, lIt, lRng1, lRng2, lAsg, lPar, lSetI, lSetA, lAugS, lLc, lZip, lNeg, lCall, lChain, List.getElem?_cons_zero, List.getElem?_cons_succ, List.set_cons_zero, List.set_cons_succ, wipeE, intP, intE, lT]
  refine ⟨w.l.length, w.r.length, w.p, rfl, ?_⟩
  simp only [truE]
  cases hl : w.p.ok w.l.length w.r.length with
  | false =>
    simp only [Bool.false_eq_true, if_false]
    refine fin _ _ k1 (Nat.le_refl _) t1 fun a b _ _ => ?_
    unfold doneT
    split
    · rename_i z
      simp at z
      rw [z.1, z.2, w.rest_none (by simp [hl])]
    · rfl
  | true =>
    simp only [if_true, lNeg]
    obtain ⟨qr, xs, ex, ax, lx, bq, nq, zx⟩ := t1.row (Nat.le_refl _)
    have ax' : atI xs (-1) = some (.ref qr) := by rw [← atI_last' lx]; exact (atI_n _ _).trans ax
    refine ia_l ex ax' ?_
    refine setA_last zx ?_
    refine fin _ _ (k1.fresh bq.1) (by simp) (t1.set (v := some 0) ex ax (Nat.le_refl _)) fun a b _ _ => ?_
    unfold upd doneT
    by_cases hab : (a, b) = (w.l.length, w.r.length)
    · cases hab
      rw [if_pos ⟨rfl, rfl⟩, if_pos (by simp)]
      exact (w.g.rest_end hl).symm
    · rw [if_neg (fun z => hab (by rw [z.1, z.2])), if_neg (by simpa using hab)]
def Wd.tight (w : Wd) (i j : Nat) : List Nat := (w.stp i j).filter fun c => decide (w.rest (mvI i c) (mvJ j c) ≠ none) && decide (oadd (w.rest (mvI i c) (mvJ j c)) (w.cs i j c) = w.rest i j)
end Y

namespace Y
open PySem PySem.Spec PyProof.Rows L2

theorem ominL_mem {l : List (Option Int)} {v : Int} (h : ominL l = some v) : some v ∈ l := by
  induction l with
  | nil => cases h
  | cons o l ih =>
    rw [ominL] at h
    rcases omin_some h with z | z
    · rw [z]; simp
    · exact List.mem_cons_of_mem _ (ih z)
theorem Wd.rest_lag {w : Wd} {i j : Nat} (h : w.rest i j ≠ none) : w.p.ok i j = true := by
  cases e : w.p.ok i j with
  | true => rfl
  | false => exact absurd (w.rest_none (by simp [e])) h
theorem Wd.tight_ne (w : Wd) {i j : Nat} (hi : i ≤ w.n) (hj : j ≤ w.m) (hr : w.rest i j ≠ none) (he : ¬(i = w.n ∧ j = w.m)) : w.tight i j ≠ [] := by
  obtain ⟨v, hv⟩ := Option.ne_none_iff_exists'.mp hr
  have hl := Wd.rest_lag hr
  have e := w.rest_stp hi hj hl he
  rw [hv] at e
  obtain ⟨c, hc, e2⟩ := List.mem_map.mp (ominL_mem e)
  intro z
  have : c ∈ w.tight i j := by
    unfold Wd.tight
    rw [List.mem_filter]
    refine ⟨hc, ?_⟩
    rw [e2, hv]
    have : w.rest (mvI i c) (mvJ j c) ≠ none := by
      intro z; rw [z] at e2; cases e2
    simp [this]
  rw [z] at this
  cases this
theorem Wd.tight_mem {w : Wd} {i j c : Nat} (h : c ∈ w.tight i j) : c ∈ w.stp i j ∧ w.rest (mvI i c) (mvJ j c) ≠ none ∧ oadd (w.rest (mvI i c) (mvJ j c)) (w.cs i j c) = w.rest i j := by
  unfold Wd.tight at h
  rw [List.mem_filter] at h
  simpa using h
def Wd.fst (w : Wd) : Nat → Nat → Nat → List Nat
  | 0, _, _ => []
  | k + 1, i, j => if i = w.n ∧ j = w.m then [] else match w.tight i j with
    | [] => []
    | c :: _ => c :: Wd.fst w k (mvI i c) (mvJ j c)
def Wd.first (w : Wd) : List Nat := w.fst (w.n + w.m) 0 0
theorem stp_dec {w : Wd} {i j c k : Nat} (hc : c ∈ w.stp i j) (hi : i ≤ w.n) (hj : j ≤ w.m) (hk : (w.n - i) + (w.m - j) ≤ k + 1) : (w.n - mvI i c) + (w.m - mvJ j c) ≤ k := by
  have := w.stp_le hc hi hj
  by_cases h1 : c = 112
  · subst h1; simp [mvI, mvJ] at this ⊢; simp only [Wd.n, Wd.m] at *; omega
  · by_cases h2 : c = 100
    · subst h2; simp [mvI, mvJ] at this ⊢; simp only [Wd.n, Wd.m] at *; omega
    · simp [mvI, mvJ, h1, h2] at this ⊢; simp only [Wd.n, Wd.m] at *; omega
end Y

namespace Y
open PySem PySem.Spec PyProof.Rows L2

abbrev StepC (s : List Nat) : Prop := ∀ c ∈ s, isStep c
def pts (i j : Nat) : List Nat → List (Nat × Nat)
  | [] => [(i, j)]
  | c :: cs => (i, j) :: pts (mvI i c) (mvJ j c) cs
theorem pts_len (i j : Nat) (s : List Nat) : (pts i j s).length = s.length + 1 := by
  induction s generalizing i j with
  | nil => rfl
  | cons c s ih => simp [pts, ih]
theorem pts_ne (i j : Nat) (s : List Nat) : pts i j s ≠ [] := by cases s <;> simp [pts]
def ptP (q : Nat × Nat) : EV := ptE q.1 q.2
def offs (s : List Nat) : List Int := (pts 0 0 s).map fun q => (((q.1 : Int) - q.2).natAbs : Int)
def maxL : List Int → Int
  | [] => 0
  | [a] => a
  | a :: b :: l => max a (maxL (b :: l))
def wide (s : List Nat) : Int := maxL (offs s)
theorem maxL_le : ∀ (l : List Int) (g : Int), l ≠ [] → (maxL l ≤ g ↔ ∀ y ∈ l, y ≤ g)
  | [], g, h => absurd rfl h
  | [a], g, _ => by simp [maxL]
  | a :: b :: l, g, _ => by
    rw [maxL, Int.max_le, maxL_le (b :: l) g (by simp)]
    simp
theorem maxL_mem : ∀ (l : List Int), l ≠ [] → maxL l ∈ l
  | [], h => absurd rfl h
  | [a], _ => by simp [maxL]
  | a :: b :: l, _ => by
    rw [maxL]
    have := maxL_mem (b :: l) (by simp)
    by_cases q : a ≤ maxL (b :: l)
    · rw [Int.max_eq_right q]; exact List.mem_cons_of_mem _ this
    · rw [Int.max_eq_left (by omega)]; exact List.mem_cons_self
def Prom.kept (p : Prom) (s : List Nat) : Bool := match p with
  | .lag g => decide (wide s ≤ g)
  | _ => true
def wrg (l r : List Int) : List Nat → Nat → Nat → Nat → Option Nat
  | [], i, j, k => if i = l.length ∧ j = r.length then none else some k
  | c :: cs, i, j, k => if canDo l r c i j = true then wrg l r cs (mvI i c) (mvJ j c) (k + 1) else some k
def optN (o : Option Nat) : EV := match o with
  | none => .non
  | some k => .int k
def priceS (f : Int → Int × Int) (l r : List Int) : List Nat → Nat → Nat → Int
  | [], _, _ => 0
  | c :: cs, i, j => stepCost f l r c i j + priceS f l r cs (mvI i c) (mvJ j c)
def sp_points (ad : Ad) : LSp := fun evs h Q => ∃ s : List Nat, evs = [.str s] ∧ s.length ≤ 100000 ∧ Told h ((pts 0 0 s).map ptP) Q
def sp_widest (ad : Ad) : LSp := fun evs h Q => ∃ s : List Nat, evs = [.str s] ∧ s.length ≤ 100000 ∧ ∀ h', Keep no1 h h' → Q (.int (wide s)) h'
def sp_is_allowed (ad : Ad) : LSp := fun evs h Q => ∃ (s : List Nat) (p : Prom), evs = [.str s, p.e] ∧ s.length ≤ 100000 ∧ ∀ h', Keep no1 h h' → Q (.bl (p.kept s)) h'
def sp_first_wrong (ad : Ad) : LSp := fun evs h Q => ∃ (s : List Nat) (l r : List Int), evs = [.str s, tx l, tx r] ∧ s.length ≤ 100000 ∧ StepC s ∧ ∀ h', Keep no1 h h' → Q (optN (wrg l r s 0 0 0)) h'
abbrev N_points : List Str := ["script", "found", "step"]
def t_points (ad : Ad) : LS :=
    lSeq (lSet (lLst (lCons (lTup (lCons (lC (.int 0)) (lCons (lC (.int 0)) (lNil)))) (lNil))) 1) <|
    lSeq (lFor (lIt (lVar 0)) (.nm 2)
      (lDrop (lBM "list" appendE (lVar 1) (lCons (lCall (sp_moved ad) (lCons (lOp ixA (lVar 1) (lNeg (lC (.int 1)))) (lCons (lVar 2) (lNil)))) (lNil))))) <|
    lRet (lVar 1)
abbrev N_widest : List Str := ["script", "i", "j"]
def t_widest (ad : Ad) : LS :=
    lRet (lCB maxE (lCons (lLc (lIt (lCall (sp_points ad) (lCons (lVar 0) (lNil)))) (.tp [.nm 1, .nm 2]) (lYes) (lCB absE (lCons (lOp subE (lVar 1) (lVar 2)) (lNil))) [1, 2]) (lNil)))
abbrev N_is_allowed : List Str := ["script", "promise"]
def t_is_allowed (ad : Ad) : LS :=
    lRet (lOrV (lOp (eqE true) (lOp ixA (lVar 1) (lC (.int 0))) (lC (.str [108, 97, 103]))) (lOp leE (lCall (sp_widest ad) (lCons (lVar 0) (lNil))) (lOp ixA (lVar 1) (lC (.int 1)))))
abbrev N_first_wrong : List Str := ["script", "left", "right", "some", "index", "step"]
def t_first_wrong (ad : Ad) : LS :=
    lSeq (lSet (lCall (sp_points ad) (lCons (lVar 0) (lNil))) 3) <|
    lSeq (lFor (lEnum (lCons (lVar 0) (lNil))) (.tp [.nm 4, .nm 5])
      (lIfS (lNot (lT (lCall (sp_can_be_done ad) (lCons (lVar 5) (lCons (lOp ixA (lVar 3) (lVar 4)) (lCons (lVar 1) (lCons (lVar 2) (lNil))))))))
      (lRet (lVar 4))
      (lNext))) <|
    lRet (lIf (lB (lOp (eqE false) (lOp ixA (lVar 3) (lNeg (lC (.int 1)))) (lTup (lCons (lCB lenE (lCons (lVar 1) (lNil))) (lCons (lCB lenE (lCons (lVar 2) (lNil))) (lNil)))))) (lC .non) (lCB lenE (lCons (lVar 0) (lNil))))
theorem len_points (ad : Ad) (evs : List EV) (h : EH) (Q : EK) (q : sp_points ad evs h Q) : evs.length = ["script"].length := by
  obtain ⟨_, rfl, _⟩ := q; rfl
theorem len_widest (ad : Ad) (evs : List EV) (h : EH) (Q : EK) (q : sp_widest ad evs h Q) : evs.length = ["script"].length := by
  obtain ⟨_, rfl, _⟩ := q; rfl
theorem len_is_allowed (ad : Ad) (evs : List EV) (h : EH) (Q : EK) (q : sp_is_allowed ad evs h Q) : evs.length = ["script", "promise"].length := by
  obtain ⟨_, _, rfl, _⟩ := q; rfl
theorem len_first_wrong (ad : Ad) (evs : List EV) (h : EH) (Q : EK) (q : sp_first_wrong ad evs h Q) : evs.length = ["script", "left", "right"].length := by
  obtain ⟨_, _, _, rfl, _⟩ := q; rfl
theorem pure_points (ad : Ad) (evs : List EV) (h : EH) (Q : EK) (q : sp_points ad evs h Q) : t_points ad (endsOf Q) (startE N_points evs) h := by
  obtain ⟨s, rfl, hl, q⟩ := q
  show t_points ad (endsOf Q) [some (.str s), none, none] h
  simp only [t_points, lSeq, lSet, lRet, lRetN, lDrop, lIfS, lOp, lVar, lC, lB, lT, lAnd, lOr, lNot, lIf, lAndV, lOrV, lNotV, lNil, lCons, lTup, lLst, lCB, lBM, lSl, lPart, lNext, lFor, lIt, lRng1, lRng2, lAsg, lPar, lSetI, lSetA, lAugS, lLc, lZip, lNeg, lCall, lChain, List.getElem?_cons_zero, List.getElem?_cons_succ, List.set_cons_zero, List.set_cons_succ, truE, wipeE, intP, intE, List.length_cons, List.length_nil]
  rw [sizeL]
  refine ⟨by decide, by decide, ?_⟩
  refine loop_ind (fun xs env h' => ∃ (cs : List Nat) (acc : List (Nat × Nat)) (i j : Nat) (x : Option EV), xs = cs.map (fun c => EV.str [c]) ∧ env = [some (.str s), some (.ref h.length), x] ∧ h' = h ++ [.lst ((acc ++ [(i, j)]).map ptP)] ∧ pts 0 0 s = acc ++ pts i j cs ∧ acc.length + cs.length ≤ 100000) ?_ ?_ _ _ _ ⟨s, [], 0, 0, none, rfl, rfl, rfl, rfl, by simpa using hl⟩
  · rintro env h' ⟨cs, acc, i, j, x, e, rfl, rfl, ep, el⟩
    obtain rfl : cs = [] := by simpa using e.symm
    refine ⟨trivial, ?_⟩
    simp only [lSeq, lSet, lRet, lRetN, lDrop, lIfS, lOp, lVar, lC, lB, lT, lAnd, lOr, lNot, lIf, lAndV, lOrV, lNotV, lNil, lCons, lTup, lLst, lCB, lBM, lSl, lPart, lNext, lFor, lIt, lRng1, lRng2, lAsg, lPar, lSetI, lSetA, lAugS, lLc, lZip, lNeg, lCall, lChain, List.getElem?_cons_zero, List.getElem?_cons_succ, List.set_cons_zero, List.set_cons_succ, truE, wipeE, intP, intE]
    refine q _ _ (Keep.app _) (Nat.le_refl _) ?_
    rw [new_at, ep]; rfl
  · rintro x xs env h' k ⟨cs, acc, i, j, x0, e, rfl, rfl, ep, el⟩ hk
    obtain ⟨c, cs, rfl⟩ : ∃ c r, cs = c :: r := by
      cases cs with
      | nil => simp at e
      | cons c r => exact ⟨c, r, rfl⟩
    rw [List.map_cons, List.cons.injEq] at e
    obtain ⟨rfl, rfl⟩ := e
    refine ⟨trivial, bind_nm ?_⟩
    have e1 : (h ++ [EO.lst ((acc ++ [(i, j)]).map ptP)])[h.length]? = some (.lst ((acc ++ [(i, j)]).map ptP)) := new_at
    simp only [lSeq, lSet, lRet, lRetN, lDrop, lIfS, lOp, lVar, lC, lB, lT, lAnd, lOr, lNot, lIf, lAndV, lOrV, lNotV, lNil, lCons, lTup, lLst, lCB, lBM, lSl, lPart, lNext, lFor, lIt, lRng1, lRng2, lAsg, lPar, lSetI, lSetA, lAugS, lLc, lZip, lNeg, lCall, lChain, List.getElem?_cons_zero, List.getElem?_cons_succ, List.set_cons_zero, List.set_cons_succ, truE, wipeE, intP, intE]
    refine ⟨isTy_l e1, ?_⟩
    refine ia_l e1 (by rw [List.map_append]; exact atm1 _ _) ?_
    refine ⟨i, j, c, rfl, ?_⟩
    simp only [List.length_cons] at el
    refine app_f e1 (by rw [sizeL]; simp; omega) ?_
    rw [new_set]
    exact hk _ _ ⟨cs, acc ++ [(i, j)], mvI i c, mvJ j c, _, rfl, rfl, by simp [ptP], by rw [ep]; simp [pts], by simp; omega⟩
theorem pure_widest (ad : Ad) (evs : List EV) (h : EH) (Q : EK) (q : sp_widest ad evs h Q) : t_widest ad (endsOf Q) (startE N_widest evs) h := by
  obtain ⟨s, rfl, hl, q⟩ := q
  show t_widest ad (endsOf Q) [some (.str s), none, none] h
  simp only [t_widest, lSeq, lSet, lRet, lRetN, lDrop, lIfS, lOp, lVar, lC, lB, lT, lAnd, lOr, lNot, lIf, lAndV, lOrV, lNotV, lNil, lCons, lTup, lLst, lCB, lBM, lSl, lPart, lNext, lFor, lIt, lRng1, lRng2, lAsg, lPar, lSetI, lSetA, lAugS, lLc, lZip, lNeg, lCall, lChain, List.getElem?_cons_zero, List.getElem?_cons_succ, List.set_cons_zero, List.set_cons_succ, truE, wipeE, intP, intE]
  refine ⟨s, rfl, hl, fun r h1 k1 hr e1 => ?_⟩
  simp only [e1]
  refine lc_map (fun v => match v with
    | .tup [.int i, .int j] => EV.int ((i - j).natAbs : Int)
    | _ => .non) _ (by rw [List.length_map, pts_len, sizeL]; omega) (fun acc => app_at e1 _) (fun x hx acc ky hy => ?_) ?_
  · obtain ⟨⟨i, j⟩, hp, rfl⟩ := List.mem_map.mp hx
    simp only [ptP, ptE, lBind, Pat.bind, Pat.binds, lSeq, lSet, lRet, lRetN, lDrop, lIfS, lOp, lVar, lC, lB, lT, lAnd, lOr, lNot, lIf, lAndV, lOrV, lNotV, lNil, lCons, lTup, lLst, lCB, lBM, lSl, lPart, lNext, lFor, lIt, lRng1, lRng2, lAsg, lPar, lSetI, lSetA, lAugS, lLc, lZip, lNeg, lCall, lChain, List.getElem?_cons_zero, List.getElem?_cons_succ, List.set_cons_zero, List.set_cons_succ, truE, wipeE, intP, intE, absE]
    exact hy
  · have em : ((pts 0 0 s).map ptP).map (fun v => match v with
      | .tup [.int i, .int j] => EV.int ((i - j).natAbs : Int)
      | _ => .non) = (offs s).map EV.int := by
      rw [offs, List.map_map, List.map_map]; rfl
    rw [em]
    simp only [maxE, new_at]
    have hne : offs s ≠ [] := by simp [offs, pts_ne]
    refine ⟨offs s, rfl, hne, fun m hm hg => ?_⟩
    have : m = wide s := by
      have h1 := (maxL_le (offs s) m hne).mpr hg
      have h2 := hg _ (maxL_mem _ hne)
      have h3 := (maxL_le (offs s) (maxL (offs s)) hne).mp (Int.le_refl _) m hm
      unfold wide
      omega
    rw [this]
    exact q _ (k1.trans (Keep.app _))
theorem pure_is_allowed (ad : Ad) (evs : List EV) (h : EH) (Q : EK) (q : sp_is_allowed ad evs h Q) : t_is_allowed ad (endsOf Q) (startE N_is_allowed evs) h := by
  obtain ⟨s, p, rfl, hl, q⟩ := q
  show t_is_allowed ad (endsOf Q) [some (.str s), some p.e] h
  cases p with
  | lag g =>
    simp [t_is_allowed, lSeq, lSet, lRet, lRetN, lDrop, lIfS, lOp, lVar, lC, lB, lT, lAnd, lOr, lNot, lIf, lAndV, lOrV, lNotV, lNil, lCons, lTup, lLst, lCB, lBM, lSl, lPart, lNext, lFor, lIt, lRng1, lRng2, lAsg, lPar, lSetI, lSetA, lAugS, lLc, lZip, lNeg, lCall, lChain, List.getElem?_cons_zero, List.getElem?_cons_succ, List.set_cons_zero, List.set_cons_succ, truE, wipeE, intP, intE, lBind, Pat.bind, Pat.binds, eqE, geE, gtE, leE, ltE, intP, intE, addE, subE, lenE, ixA, ixE, isN, absE, intOf, isTy, attrE, atI_n, atI_0, atI_1, atI_2, atI_3, lYes, Prom.e]
    exact ⟨s, rfl, hl, fun h1 k1 => q _ k1⟩
  | _ =>
    simp [t_is_allowed, lSeq, lSet, lRet, lRetN, lDrop, lIfS, lOp, lVar, lC, lB, lT, lAnd, lOr, lNot, lIf, lAndV, lOrV, lNotV, lNil, lCons, lTup, lLst, lCB, lBM, lSl, lPart, lNext, lFor, lIt, lRng1, lRng2, lAsg, lPar, lSetI, lSetA, lAugS, lLc, lZip, lNeg, lCall, lChain, List.getElem?_cons_zero, List.getElem?_cons_succ, List.set_cons_zero, List.set_cons_succ, truE, wipeE, intP, intE, lBind, Pat.bind, Pat.binds, eqE, geE, gtE, leE, ltE, intP, intE, addE, subE, lenE, ixA, ixE, isN, absE, intOf, isTy, attrE, atI_n, atI_0, atI_1, atI_2, atI_3, lYes, Prom.e]
    exact q _ .refl
def endS : List Nat → Nat → Nat → Nat × Nat
  | [], i, j => (i, j)
  | c :: cs, i, j => endS cs (mvI i c) (mvJ j c)
theorem pts_last : ∀ (s : List Nat) (i j : Nat), ∃ l, pts i j s = l ++ [endS s i j]
  | [], i, j => ⟨[], rfl⟩
  | c :: cs, i, j => by
    obtain ⟨l, e⟩ := pts_last cs (mvI i c) (mvJ j c)
    exact ⟨(i, j) :: l, by rw [pts, e]; rfl⟩
theorem pts_mid : ∀ (a b : List Nat) (i j : Nat), (pts i j (a ++ b))[a.length]? = some (endS a i j)
  | [], b, i, j => by cases b <;> rfl
  | c :: a, b, i, j => by
    rw [List.cons_append, pts, List.length_cons, List.getElem?_cons_succ, pts_mid a b, endS]
theorem endS_app : ∀ (a b : List Nat) (i j : Nat), endS (a ++ b) i j = endS b (endS a i j).1 (endS a i j).2
  | [], b, i, j => rfl
  | c :: a, b, i, j => by rw [List.cons_append, endS, endS_app a b, endS]
theorem pure_first_wrong (ad : Ad) (evs : List EV) (h : EH) (Q : EK) (q : sp_first_wrong ad evs h Q) : t_first_wrong ad (endsOf Q) (startE N_first_wrong evs) h := by
  obtain ⟨s, l, r, rfl, hl, hs, q⟩ := q
  show t_first_wrong ad (endsOf Q) [some (.str s), some (tx l), some (tx r), none, none, none] h
  unfold t_first_wrong
  rw [lSeq, lSet]
  refine ⟨s, rfl, hl, fun r1 h1 k1 b1 e1 => ?_⟩
  try dsimp only
  rw [lSeq, lFor]
  simp only [lSet, lRet, lRetN, lDrop, lOp, lVar, lC, lB, lT, lAnd, lOr, lNot, lIf, lAndV, lOrV, lNotV, lNil, lCons, lTup, lLst, lCB, lBM, lSl, lPart, lNext, lIt, lRng1, lRng2, lAsg, lPar, lSetI, lSetA, lAugS, lLc, lZip, lNeg, lCall, lChain, List.getElem?_cons_zero, List.getElem?_cons_succ, List.set_cons_zero, List.set_cons_succ, wipeE, intP, intE, lEnum, srcE, notTupE]
  refine ⟨trivial, ?_⟩
  refine loop_ind (fun left env h' => ∃ (a b : List Nat) (x4 x5 : Option EV), s = a ++ b ∧ left = (numE (s.map fun c => EV.str [c]) 0).drop a.length ∧ env = [some (.str s), some (tx l), some (tx r), some (.ref r1), x4, x5] ∧ h' = h1 ∧ wrg l r s 0 0 0 = wrg l r b (endS a 0 0).1 (endS a 0 0).2 a.length) ?_ ?_ _ _ _ ⟨[], s, _, _, rfl, rfl, rfl, rfl, rfl⟩
  · rintro env h' ⟨a, b, x4, x5, es, el, rfl, rfl, ew⟩
    have hb : b = [] := by
      have := congrArg List.length el
      rw [es] at this
      simp [numE] at this
      exact List.length_eq_zero_iff.mp (by omega)
    subst hb
    rw [List.append_nil] at es
    subst es
    refine ⟨trivial, ?_⟩
    obtain ⟨l0, el0⟩ := pts_last s 0 0
    simp only [lSet, lRet, lRetN, lDrop, lOp, lVar, lC, lB, lT, lAnd, lOr, lNot, lIf, lAndV, lOrV, lNotV, lNil, lCons, lTup, lLst, lCB, lBM, lSl, lPart, lNext, lIt, lRng1, lRng2, lAsg, lPar, lSetI, lSetA, lAugS, lLc, lZip, lNeg, lCall, lChain, List.getElem?_cons_zero, List.getElem?_cons_succ, List.set_cons_zero, List.set_cons_succ, wipeE, intP, intE, lNeg]
    refine ia_l e1 (by rw [el0, List.map_append]; exact atm1 _ _) ?_
    rw [ew, wrg] at q
    simp only [lenE, tx, List.length_map]
    refine ⟨by simp [sizeL], ?_⟩
    unfold ptP ptE
    refine eqE_pair ?_
    have hp : decide ((((endS s 0 0).1 : Int), ((endS s 0 0).2 : Int)) = ((l.length : Int), (r.length : Int))) = decide ((endS s 0 0).1 = l.length ∧ (endS s 0 0).2 = r.length) := by
      apply decide_eq_decide.mpr
      simp only [Prod.mk.injEq]
      omega
    rw [hp]
    by_cases he : (endS s 0 0).1 = l.length ∧ (endS s 0 0).2 = r.length
    · rw [if_pos he] at q
      simp only [he, and_self, decide_true, Bool.false_xor, if_true]
      exact q _ k1
    · rw [if_neg he] at q
      rw [decide_eq_false he]
      simp only [Bool.false_xor, Bool.false_eq_true, if_false]
      exact ⟨by rw [sizeL]; omega, q _ k1⟩
  · rintro x left env h' kk ⟨a, b, x4, x5, es, el, rfl, rfl, ew⟩ hk
    have hal : a.length < (numE (s.map fun c => EV.str [c]) 0).length := by
      have := congrArg List.length el
      simp at this; omega
    have hb : b ≠ [] := by
      rintro rfl
      rw [es] at hal
      simp [numE] at hal
    obtain ⟨c, b, rfl⟩ : ∃ c r, b = c :: r := by
      cases b with
      | nil => exact absurd rfl hb
      | cons c r => exact ⟨c, r, rfl⟩
    rw [List.drop_eq_getElem_cons hal, List.cons.injEq] at el
    obtain ⟨ex, rfl⟩ := el
    have hx : x = .tup [.int (a.length : Nat), .str [c]] := by
      have h1 : (numE (s.map fun c => EV.str [c]) 0)[a.length]? = some x := by rw [List.getElem?_eq_getElem hal, ex]
      obtain ⟨y, hy, rfl⟩ := numE_at h1
      rw [es, List.getElem?_map] at hy
      simp at hy
      rw [← hy]; simp
    subst hx
    refine ⟨trivial, ?_⟩
    simp only [lBind, Pat.bind, Pat.binds, List.set_cons_zero, List.set_cons_succ]
    rw [lIfS]
    simp only [lSet, lRet, lRetN, lDrop, lOp, lVar, lC, lB, lT, lAnd, lOr, lNot, lIf, lAndV, lOrV, lNotV, lNil, lCons, lTup, lLst, lCB, lBM, lSl, lPart, lNext, lIt, lRng1, lRng2, lAsg, lPar, lSetI, lSetA, lAugS, lLc, lZip, lNeg, lCall, lChain, List.getElem?_cons_zero, List.getElem?_cons_succ, List.set_cons_zero, List.set_cons_succ, wipeE, intP, intE, lT]
    refine ia_l e1 (L2.atI_nat (by rw [List.getElem?_map, es, pts_mid]; rfl)) ?_
    refine ⟨c, _, _, l, r, rfl, hs c (by rw [es]; simp), ?_⟩
    rw [wrg] at ew
    simp only [truE]
    cases hd : canDo l r c (endS a 0 0).1 (endS a 0 0).2 with
    | false =>
      rw [hd] at ew
      rw [ew] at q
      simp only [Bool.not_false, if_true]
      exact q _ k1
    | true =>
      rw [hd, if_pos rfl] at ew
      simp only [Bool.not_true, Bool.false_eq_true, if_false]
      refine hk _ _ ⟨a ++ [c], b, _, _, by rw [es]; simp, by simp, rfl, rfl, ?_⟩
      rw [ew, endS_app]
      simp [endS]
theorem priceS_sum (f : Int → Int × Int) (l r : List Int) : ∀ (s : List Nat) (i j : Nat), ((List.zip s (pts i j s)).map fun q => stepCost f l r q.1 q.2.1 q.2.2).sum = priceS f l r s i j
  | [], _, _ => rfl
  | c :: s, i, j => by
    rw [pts, List.zip_cons_cons, List.map_cons, List.sum_cons, priceS_sum f l r s, priceS]
theorem zip_mid (l r : List Int) : ∀ (s : List Nat) (i j : Nat) (q : Nat × (Nat × Nat)), q ∈ List.zip s (pts i j s) → ∃ a b, s = a ++ q.1 :: b ∧ q.2 = endS a i j
  | [], i, j, q, h => by simp at h
  | c :: s, i, j, q, h => by
    rw [pts, List.zip_cons_cons, List.mem_cons] at h
    rcases h with rfl | h
    · exact ⟨[], s, rfl, rfl⟩
    · obtain ⟨a, b, e1, e2⟩ := zip_mid l r s _ _ q h
      exact ⟨c :: a, b, by rw [e1]; rfl, e2⟩
end Y

namespace Y
open PySem PySem.Spec PyProof.Rows L2

theorem tyE_keep {h h' : EH} {v : EV} {t : String} (k : Keep no1 h h') (e : tyE v h = some t) : tyE v h' = some t := by
  cases v <;> simp [tyE] at e ⊢ <;> try exact e
  rename_i r
  split at e <;> first
    | (rename_i e1; rw [k.at e1]; exact e)
    | cases e
def isLst (v : EV) (h : EH) : Option (List EV) := match v with
  | .ref r => match h[r]? with
    | some (.lst xs) => some xs
    | _ => none
  | _ => none
theorem isLst_some {v : EV} {h : EH} {xs : List EV} (e : isLst v h = some xs) : ∃ r, v = .ref r ∧ h[r]? = some (.lst xs) := by
  unfold isLst at e
  split at e
  · split at e
    · rename_i e1; cases e; exact ⟨_, rfl, e1⟩
    · cases e
  · cases e
theorem isLst_keep {h h' : EH} {v : EV} {t : String} (k : Keep no1 h h') (e : tyE v h = some t) : isLst v h' = isLst v h := by
  cases v <;> simp [tyE] at e <;> try rfl
  rename_i r
  unfold isLst
  split at e <;> first
    | (rename_i e1; simp only [e1, k.at e1])
    | cases e
def rowsOf (h : EH) (m : Nat) : List EV → Option (List (List EV))
  | [] => some []
  | x :: xs => match isLst x h with
    | some es => if es.length = m + 1 then (rowsOf h m xs).map (es :: ·) else none
    | none => none
def tblOf (h : EH) (v : EV) (n m : Nat) : Option (List (List EV)) := match isLst v h with
  | some rows => if rows.length = n + 1 then rowsOf h m rows else none
  | none => none
def entAt (es : List (List EV)) (i j : Nat) : EV := (es.getD i []).getD j .non
def toT (es : List (List EV)) : Tbl := fun i j => match entAt es i j with
  | .int v => some v
  | _ => none
def isNon : EV → Bool
  | .non => true
  | _ => false
def entOk (p : Prom) (i j : Nat) (v : EV) : Bool := if p.ok i j = true then isInt v else isNon v
def tableB (p : Prom) (n m : Nat) (es : List (List EV)) : Bool := (ptsL n m).all fun q => entOk p q.1 q.2 (entAt es q.1 q.2)
def Wd.stB (w : Wd) (R : Tbl) (i j : Nat) (v : Int) (c : Nat) : Bool := match R (mvI i c) (mvJ j c) with
  | some u => decide (u ≤ v + w.cs i j c)
  | none => true
def Wd.ptB (w : Wd) (R : Tbl) (q : Nat × Nat) : Bool := match R q.1 q.2 with
  | none => true
  | some v => (w.stp q.1 q.2).all (w.stB R q.1 q.2 v)
def Wd.boundB (w : Wd) (R : Tbl) : Bool := decide (R 0 0 = some 0) && (ptsL w.n w.m).all (w.ptB R)
def Wd.boundV (w : Wd) (h : EH) (v : EV) : Bool := match tblOf h v w.n w.m with
  | some es => tableB w.p w.n w.m es && w.boundB (toT es)
  | none => false
structure TyOk (h : EH) (v : EV) (n m : Nat) : Prop where
  a : (tyE v h).isSome = true
  b : ∀ rows, isLst v h = some rows → rows.length = n + 1 → ∀ x ∈ rows, (tyE x h).isSome = true
  c : ∀ es, tblOf h v n m = some es → ∀ r ∈ es, ∀ x ∈ r, (tyE x h).isSome = true
theorem rowsOf_keep {h h' : EH} {m : Nat} (k : Keep no1 h h') : ∀ {rows : List EV}, (∀ x ∈ rows, (tyE x h).isSome = true) → rowsOf h' m rows = rowsOf h m rows
  | [], _ => rfl
  | x :: xs, t => by
    obtain ⟨tx, ht⟩ := Option.isSome_iff_exists.mp (t x (by simp))
    rw [rowsOf, rowsOf, isLst_keep k ht, rowsOf_keep k fun y hy => t y (List.mem_cons_of_mem _ hy)]
theorem TyOk.tbl {h h' : EH} {v : EV} {n m : Nat} (t : TyOk h v n m) (k : Keep no1 h h') : tblOf h' v n m = tblOf h v n m := by
  obtain ⟨tv, ht⟩ := Option.isSome_iff_exists.mp t.a
  unfold tblOf
  rw [isLst_keep k ht]
  split
  · rename_i rows e
    split
    · rename_i hl
      exact rowsOf_keep k (t.b rows e hl)
    · rfl
  · rfl
theorem TyOk.keep {h h' : EH} {v : EV} {n m : Nat} (t : TyOk h v n m) (k : Keep no1 h h') : TyOk h' v n m := by
  have ks : ∀ {x : EV}, (tyE x h).isSome = true → (tyE x h').isSome = true := fun {x} e => by
    obtain ⟨tx, ht⟩ := Option.isSome_iff_exists.mp e
    rw [tyE_keep k ht]; rfl
  obtain ⟨tv, ht⟩ := Option.isSome_iff_exists.mp t.a
  refine ⟨ks t.a, fun rows e hl x hx => ?_, fun es e r hr x hx => ?_⟩
  · rw [isLst_keep k ht] at e
    exact ks (t.b rows e hl x hx)
  · rw [t.tbl k] at e
    exact ks (t.c es e r hr x hx)
end Y

namespace Y
open PySem PySem.Spec PyProof.Rows L2

end Y

namespace Y
open PySem PySem.Spec PyProof.Rows L2

def Wd.hT (w : Wd) : Tbl := fun i j => match w.rest 0 0, w.rest i j with
  | some a, some b => some (a - b)
  | _, _ => none
def isSt (c : Nat) : Bool := decide (c = 107) || decide (c = 100) || decide (c = 112)
theorem step_isSt {s : List Nat} (h : StepC s) : s.all isSt = true := by
  rw [List.all_eq_true]
  intro c hc
  rcases h c hc with rfl | rfl | rfl <;> rfl
def Wd.leastV (w : Wd) (h : EH) (sv v : EV) : Bool := match sv with
  | .str s => s.all isSt && (wrg w.l w.r s 0 0 0).isNone && w.p.kept s && w.boundV h v && (match tblOf h v w.n w.m with
    | some es => decide (toT es w.n w.m = some (priceS (cost w.c) w.l w.r s 0 0))
    | none => false)
  | _ => false
end Y

namespace Y
open PySem PySem.Spec PyProof.Rows L2

def Wd.cin (w : Wd) (p : Nat → Nat → Bool) (C : Nat → Nat → Nat) (i j : Nat) : Nat :=
  (if i = 0 ∧ j = 0 then 1 else 0) + (if 0 < i ∧ 0 < j ∧ p (i - 1) (j - 1) = true ∧ 107 ∈ w.tight (i - 1) (j - 1) then C (i - 1) (j - 1) else 0) +
  (if 0 < i ∧ p (i - 1) j = true ∧ 100 ∈ w.tight (i - 1) j then C (i - 1) j else 0) + (if 0 < j ∧ p i (j - 1) = true ∧ 112 ∈ w.tight i (j - 1) then C i (j - 1) else 0)
def Wd.cntF (w : Wd) : Nat → Nat → Nat → Nat
  | 0, _, _ => 0
  | k + 1, i, j => w.cin (fun _ _ => true) (Wd.cntF w k) i j
def Wd.cnt (w : Wd) (i j : Nat) : Nat := w.cntF (i + j + 1) i j
def Wd.many (w : Wd) : Nat := if w.rest 0 0 = none then 0 else w.cnt w.n w.m
def oc (n : Nat) : Option EV := if n = 0 then none else some (.int n)
theorem isKeyT_pt (i j : Nat) : isKeyT (ptE i j) := rfl
end Y

namespace Y
open PySem PySem.Spec PyProof.Rows L2

theorem Wd.stp_iff {w : Wd} {i j c : Nat} : c ∈ w.stp i j ↔ isStep c ∧ canDo w.l w.r c i j = true ∧ w.p.ok (mvI i c) (mvJ j c) = true := by
  unfold Wd.stp isStep
  rw [List.mem_filter]
  simp
theorem omin_le_l (v : Int) (b : Option Int) : ∃ u, omin (some v) b = some u ∧ u ≤ v := by
  cases b <;> simp [omin]
  omega
theorem omin_le_r (v : Int) (a : Option Int) : ∃ u, omin a (some v) = some u ∧ u ≤ v := by
  cases a <;> simp [omin]
  omega
theorem omin_rr {a b : Option Int} {v : Int} (h : ∃ u, b = some u ∧ u ≤ v) : ∃ u, omin a b = some u ∧ u ≤ v := by
  obtain ⟨u, rfl, hu⟩ := h
  obtain ⟨x, e, hx⟩ := omin_le_r u a
  exact ⟨x, e, Int.le_trans hx hu⟩
theorem ominL_le : ∀ {l : List (Option Int)} {u : Int}, some u ∈ l → ∃ v, ominL l = some v ∧ v ≤ u
  | o :: l, u, h => by
    rw [ominL]
    rcases List.mem_cons.mp h with e | e
    · rw [← e]; exact omin_le_l _ _
    · exact omin_rr (ominL_le e)
theorem Wd.best_stp {w : Wd} {i j c : Nat} {v : Int} (hb : w.g.best i j = some v) (hc : c ∈ w.stp i j) : ∃ u, w.g.best (mvI i c) (mvJ j c) = some u ∧ u ≤ v + w.cs i j c := by
  obtain ⟨s, cd, ok⟩ := Wd.stp_iff.mp hc
  have lg : ∀ x y, w.g.lag x y = w.p.ok x y := fun _ _ => rfl
  rcases s with rfl | rfl | rfl
  · have cd' : (decide (i < w.n) && decide (j < w.m) && w.g.same i j) = true := cd
    simp only [Bool.and_eq_true] at cd'
    show ∃ u, w.g.best (i + 1) (j + 1) = some u ∧ u ≤ v + 0
    rw [GridOf.best, lg, if_pos (show w.p.ok (i + 1) (j + 1) = true from ok), if_pos cd'.2, hb, Int.add_zero]
    exact omin_le_l _ _
  · show ∃ u, w.g.best (i + 1) j = some u ∧ u ≤ v + w.g.drop i
    cases j with
    | zero =>
      rw [GridOf.best, lg, if_pos (show w.p.ok (i + 1) 0 = true from ok), hb]
      exact ⟨_, rfl, Int.le_refl _⟩
    | succ j =>
      rw [GridOf.best, lg, if_pos (show w.p.ok (i + 1) (j + 1) = true from ok), hb]
      exact omin_rr (omin_le_l _ _)
  · show ∃ u, w.g.best i (j + 1) = some u ∧ u ≤ v + w.g.put j
    cases i with
    | zero =>
      rw [GridOf.best, lg, if_pos (show w.p.ok 0 (j + 1) = true from ok), hb]
      exact ⟨_, rfl, Int.le_refl _⟩
    | succ i =>
      rw [GridOf.best, lg, if_pos (show w.p.ok (i + 1) (j + 1) = true from ok), hb]
      exact omin_rr (omin_rr ⟨_, rfl, Int.le_refl _⟩)
theorem Wd.best_pre {w : Wd} {i j : Nat} {v : Int} (hi : i ≤ w.n) (hj : j ≤ w.m) (hb : w.g.best i j = some v) (h0 : ¬(i = 0 ∧ j = 0)) :
    ∃ a b c u, c ∈ w.stp a b ∧ mvI a c = i ∧ mvJ b c = j ∧ a ≤ i ∧ b ≤ j ∧ a + b < i + j ∧ w.g.best a b = some u ∧ v = u + w.cs a b c := by
  have lg : ∀ x y, w.g.lag x y = w.p.ok x y := fun _ _ => rfl
  have d1 : ∀ a b, canDo w.l w.r 107 a b = (decide (a < w.n) && decide (b < w.m) && w.g.same a b) := fun _ _ => rfl
  have d2 : ∀ a b, canDo w.l w.r 100 a b = decide (a < w.n) := fun _ _ => rfl
  have d3 : ∀ a b, canDo w.l w.r 112 a b = decide (b < w.m) := fun _ _ => rfl
  match i, j with
  | 0, 0 => exact absurd ⟨rfl, rfl⟩ h0
  | i + 1, 0 =>
    rw [GridOf.best, lg] at hb
    split at hb
    · rename_i ok
      obtain ⟨u, e, rfl⟩ := oadd_some hb
      exact ⟨i, 0, 100, u, Wd.stp_iff.mpr ⟨.inr (.inl rfl), by rw [d2]; simp; omega, ok⟩, rfl, rfl, by omega, by omega, by omega, e, rfl⟩
    · cases hb
  | 0, j + 1 =>
    rw [GridOf.best, lg] at hb
    split at hb
    · rename_i ok
      obtain ⟨u, e, rfl⟩ := oadd_some hb
      exact ⟨0, j, 112, u, Wd.stp_iff.mpr ⟨.inr (.inr rfl), by rw [d3]; simp; omega, ok⟩, rfl, rfl, by omega, by omega, by omega, e, rfl⟩
    · cases hb
  | i + 1, j + 1 =>
    rw [GridOf.best, lg] at hb
    split at hb
    · rename_i ok
      rcases omin_some hb with z | z
      · split at z
        · rename_i sm
          exact ⟨i, j, 107, v, Wd.stp_iff.mpr ⟨.inl rfl, by rw [d1, sm]; simp; omega, ok⟩, rfl, rfl, by omega, by omega, by omega, z, (Int.add_zero _).symm⟩
        · cases z
      · rcases omin_some z with z | z
        · obtain ⟨u, e, rfl⟩ := oadd_some z
          exact ⟨i, j + 1, 100, u, Wd.stp_iff.mpr ⟨.inr (.inl rfl), by rw [d2]; simp; omega, ok⟩, rfl, rfl, by omega, by omega, by omega, e, rfl⟩
        · obtain ⟨u, e, rfl⟩ := oadd_some z
          exact ⟨i + 1, j, 112, u, Wd.stp_iff.mpr ⟨.inr (.inr rfl), by rw [d3]; simp; omega, ok⟩, rfl, rfl, by omega, by omega, by omega, e, rfl⟩
    · cases hb
theorem Wd.best_ok {w : Wd} (nn : PromNN w.p) {i j : Nat} {v : Int} (hb : w.g.best i j = some v) : w.p.ok i j = true := by
  have lg : ∀ x y, w.g.lag x y = w.p.ok x y := fun _ _ => rfl
  match i, j with
  | 0, 0 => exact Prom.ok0 nn
  | i + 1, 0 => rw [GridOf.best, lg] at hb; split at hb <;> first | assumption | cases hb
  | 0, j + 1 => rw [GridOf.best, lg] at hb; split at hb <;> first | assumption | cases hb
  | i + 1, j + 1 => rw [GridOf.best, lg] at hb; split at hb <;> first | assumption | cases hb
theorem Wd.stp_end {w : Wd} {i j c : Nat} (hc : c ∈ w.stp i j) : ¬(i = w.n ∧ j = w.m) := by
  rintro ⟨rfl, rfl⟩
  obtain ⟨s, cd, _⟩ := Wd.stp_iff.mp hc
  rcases s with rfl | rfl | rfl <;> simp [canDo] at cd
theorem Wd.rest_step {w : Wd} {i j c : Nat} {u : Int} (hi : i ≤ w.n) (hj : j ≤ w.m) (hl : w.p.ok i j = true) (hc : c ∈ w.stp i j) (hr : w.rest (mvI i c) (mvJ j c) = some u) : ∃ v, w.rest i j = some v ∧ v ≤ u + w.cs i j c := by
  rw [← w.rest_stp hi hj hl (Wd.stp_end hc)]
  refine ominL_le (List.mem_map.mpr ⟨c, hc, ?_⟩)
  rw [hr]; rfl
theorem Wd.rest_tight {w : Wd} {i j : Nat} {v : Int} (hi : i ≤ w.n) (hj : j ≤ w.m) (hr : w.rest i j = some v) (he : ¬(i = w.n ∧ j = w.m)) : ∃ c u, c ∈ w.stp i j ∧ w.rest (mvI i c) (mvJ j c) = some u ∧ v = u + w.cs i j c := by
  have tn := w.tight_ne hi hj (by rw [hr]; simp) he
  obtain ⟨c, hc⟩ := List.exists_mem_of_ne_nil _ tn
  obtain ⟨a, b, e⟩ := Wd.tight_mem hc
  rw [hr] at e
  obtain ⟨u, e1, e2⟩ := oadd_some e
  exact ⟨c, u, a, e1, e2⟩
theorem Wd.best_rest {w : Wd} : ∀ (k i j : Nat) (a b : Int), i ≤ w.n → j ≤ w.m → (w.n - i) + (w.m - j) ≤ k → w.g.best i j = some a → w.rest i j = some b → ∃ u, w.g.best w.n w.m = some u ∧ u ≤ a + b := by
  intro k
  induction k with
  | zero =>
    intro i j a b hi hj hk ha hb
    obtain rfl : i = w.n := by omega
    obtain rfl : j = w.m := by omega
    have e1 : w.rest w.n w.m = some 0 := w.g.rest_end (Wd.rest_lag (w := w) (by rw [hb]; simp))
    rw [e1] at hb
    cases hb
    exact ⟨a, ha, by omega⟩
  | succ k ih =>
    intro i j a b hi hj hk ha hb
    by_cases he : i = w.n ∧ j = w.m
    · exact ih i j a b hi hj (by omega) ha hb
    · obtain ⟨c, u, hc, e, rfl⟩ := Wd.rest_tight hi hj hb he
      have le := w.stp_le hc hi hj
      obtain ⟨x, ex, lx⟩ := Wd.best_stp ha hc
      obtain ⟨y, ey, ly⟩ := ih _ _ x u le.1 le.2 (stp_dec hc hi hj hk) ex e
      exact ⟨y, ey, by omega⟩
theorem Wd.rest_best {w : Wd} (nn : PromNN w.p) : ∀ (k i j : Nat) (a b : Int), i ≤ w.n → j ≤ w.m → i + j ≤ k → w.g.best i j = some a → w.rest i j = some b → ∃ u, w.rest 0 0 = some u ∧ u ≤ a + b := by
  intro k
  induction k with
  | zero =>
    intro i j a b hi hj hk ha hb
    obtain rfl : i = 0 := by omega
    obtain rfl : j = 0 := by omega
    rw [GridOf.best] at ha
    cases ha
    exact ⟨b, hb, by omega⟩
  | succ k ih =>
    intro i j a b hi hj hk ha hb
    by_cases he : i = 0 ∧ j = 0
    · exact ih i j a b hi hj (by omega) ha hb
    · obtain ⟨x, y, c, u, hc, rfl, rfl, hx, hy, lt, eu, rfl⟩ := Wd.best_pre hi hj ha he
      obtain ⟨z, ez, lz⟩ := Wd.rest_step (Nat.le_trans hx hi) (Nat.le_trans hy hj) (Wd.best_ok nn eu) hc hb
      obtain ⟨t, et, lt2⟩ := ih x y u z (Nat.le_trans hx hi) (Nat.le_trans hy hj) (by omega) eu ez
      exact ⟨t, et, by omega⟩
theorem Wd.best_end {w : Wd} (nn : PromNN w.p) : w.g.best w.n w.m = w.rest 0 0 := by
  have b0 : w.g.best 0 0 = some 0 := by rw [GridOf.best]
  cases hr : w.rest 0 0 with
  | some b =>
    obtain ⟨u, eu, lu⟩ := Wd.best_rest _ 0 0 0 b (Nat.zero_le _) (Nat.zero_le _) (Nat.le_refl _) b0 hr
    have e1 : w.rest w.n w.m = some 0 := w.g.rest_end (Wd.best_ok nn eu)
    obtain ⟨t, et, lt⟩ := Wd.rest_best nn _ _ _ u 0 (Nat.le_refl _) (Nat.le_refl _) (Nat.le_refl _) eu e1
    rw [hr] at et
    cases et
    rw [eu]
    congr 1
    omega
  | none =>
    cases hb : w.g.best w.n w.m with
    | none => rfl
    | some u =>
      have e1 : w.rest w.n w.m = some 0 := w.g.rest_end (Wd.best_ok nn hb)
      obtain ⟨t, et, lt⟩ := Wd.rest_best nn _ _ _ u 0 (Nat.le_refl _) (Nat.le_refl _) (Nat.le_refl _) hb e1
      rw [hr] at et
      cases et
def PromL : Prom → Prop
  | .lag g => 1 ≤ g
  | _ => True
theorem PromL.nn {p : Prom} (h : PromL p) : PromNN p := by
  cases p <;> simp [PromL, PromNN] at h ⊢
  omega
theorem ok_down {p : Prom} (hp : PromL p) {i j : Nat} (h : p.ok i j = true) (hl : i ≤ j) : p.ok (i + 1) j = true := by
  cases p <;> simp [PromL, Prom.ok] at hp h ⊢
  omega
theorem ok_right {p : Prom} (hp : PromL p) {i j : Nat} (h : p.ok i j = true) (hl : j ≤ i) : p.ok i (j + 1) = true := by
  cases p <;> simp [PromL, Prom.ok] at hp h ⊢
  omega
theorem ok_by {p : Prom} {a b i j : Nat} (h : p.ok a b = true) (hl : ((i : Int) - j).natAbs ≤ ((a : Int) - b).natAbs) : p.ok i j = true := by
  cases p <;> simp [Prom.ok] at h ⊢
  omega
theorem Wd.rest_reach {w : Wd} (hp : PromL w.p) (oe : w.p.ok w.n w.m = true) : ∀ (k i j : Nat), i ≤ w.n → j ≤ w.m → (w.n - i) + (w.m - j) ≤ k → w.p.ok i j = true → w.rest i j ≠ none := by
  intro k
  induction k with
  | zero =>
    intro i j hi hj hk ok
    obtain rfl : i = w.n := by omega
    obtain rfl : j = w.m := by omega
    rw [show w.rest w.n w.m = some 0 from w.g.rest_end oe]; simp
  | succ k ih =>
    intro i j hi hj hk ok
    by_cases h0 : i = w.n ∧ j = w.m
    · obtain ⟨rfl, rfl⟩ := h0
      rw [show w.rest w.n w.m = some 0 from w.g.rest_end oe]; simp
    have go : ∀ c, c ∈ w.stp i j → w.rest i j ≠ none := fun c hc => by
      have le := w.stp_le hc hi hj
      obtain ⟨v, e⟩ := Option.ne_none_iff_exists'.mp (ih _ _ le.1 le.2 (stp_dec hc hi hj hk) (Wd.stp_iff.mp hc).2.2)
      obtain ⟨u, eu, _⟩ := Wd.rest_step hi hj ok hc e
      rw [eu]; simp
    have dn : i < w.n → w.p.ok (i + 1) j = true → w.rest i j ≠ none := fun h o => go 100 (Wd.stp_iff.mpr ⟨.inr (.inl rfl), by simp [canDo]; exact h, o⟩)
    have pt : j < w.m → w.p.ok i (j + 1) = true → w.rest i j ≠ none := fun h o => go 112 (Wd.stp_iff.mpr ⟨.inr (.inr rfl), by simp [canDo]; exact h, o⟩)
    by_cases hl : i ≤ j
    · by_cases hn : i < w.n
      · exact dn hn (ok_down hp ok hl)
      · exact pt (by omega) (ok_by oe (by omega))
    · by_cases hm : j < w.m
      · exact pt hm (ok_right hp ok (by omega))
      · exact dn (by omega) (ok_by oe (by omega))
structure Wd.Bnd (w : Wd) (R : Tbl) : Prop where
  z : R 0 0 = some 0
  s : ∀ (i j c : Nat) (u v : Int), i ≤ w.n → j ≤ w.m → c ∈ w.stp i j → R i j = some v → R (mvI i c) (mvJ j c) = some u → u ≤ v + w.cs i j c
  o : ∀ i j, i ≤ w.n → j ≤ w.m → (w.p.ok i j = true ↔ R i j ≠ none)
theorem Wd.Bnd.weak {w : Wd} {R : Tbl} (b : w.Bnd R) : ∀ (s : List Nat) (i j k : Nat) (v : Int), StepC s → wrg w.l w.r s i j k = none → (∀ q ∈ pts i j s, w.p.ok q.1 q.2 = true) → i ≤ w.n → j ≤ w.m → R i j = some v → ∃ u, R w.n w.m = some u ∧ u ≤ v + priceS (cost w.c) w.l w.r s i j
  | [], i, j, k, v, _, hw, _, hi, hj, hv => by
    rw [wrg] at hw
    split at hw
    · rename_i e
      obtain ⟨rfl, rfl⟩ := e
      exact ⟨v, hv, by simp [priceS]⟩
    · cases hw
  | c :: s, i, j, k, v, hs, hw, ho, hi, hj, hv => by
    rw [wrg] at hw
    split at hw
    · rename_i cd
      have ok : w.p.ok (mvI i c) (mvJ j c) = true := ho (mvI i c, mvJ j c) (by
        rw [pts]
        refine List.mem_cons_of_mem _ ?_
        cases s <;> simp [pts])
      have hc : c ∈ w.stp i j := Wd.stp_iff.mpr ⟨hs c (by simp), cd, ok⟩
      have le := w.stp_le hc hi hj
      obtain ⟨x, ex⟩ := Option.ne_none_iff_exists'.mp ((b.o _ _ le.1 le.2).mp ok)
      have l1 := b.s i j c x v hi hj hc hv ex
      obtain ⟨u, eu, lu⟩ := b.weak s (mvI i c) (mvJ j c) (k + 1) x (fun c hc => hs c (List.mem_cons_of_mem _ hc)) hw (fun q hq => ho q (by rw [pts]; exact List.mem_cons_of_mem _ hq)) le.1 le.2 ex
      refine ⟨u, eu, ?_⟩
      rw [priceS]
      have : w.cs i j c = stepCost (cost w.c) w.l w.r c i j := rfl
      omega
    · cases hw
end Y

namespace Y
open PySem PySem.Spec PyProof.Rows L2

theorem rowsOf_of {h : EH} {m : Nat} : ∀ (rs : List Nat) (F : Nat → List EV), (∀ (i q : Nat), rs[i]? = some q → h[q]? = some (EO.lst (F i))) → (∀ i, (F i).length = m + 1) → rowsOf h m (rs.map EV.ref) = some ((List.range rs.length).map F)
  | [], F, _, _ => rfl
  | q :: rs, F, z, l => by
    have e := z 0 q rfl
    have ih := rowsOf_of rs (fun i => F (i + 1)) (fun i x hx => z (i + 1) x (by simpa using hx)) (fun i => l _)
    rw [List.map_cons, rowsOf]
    have e1 : isLst (.ref q) h = some (F 0) := by simp only [isLst, e]
    rw [e1]
    dsimp only
    rw [if_pos (l 0), ih, List.length_cons, List.range_succ_eq_map]
    simp
abbrev rowsL (n m : Nat) (R : Tbl) : List (List EV) := (List.range (n + 1)).map fun i => rowE m (R i)
theorem RowsAt.tbl {h : EH} {b t r n m : Nat} {R : Tbl} (z : RowsAt h b t r n m R) : tblOf h (.ref r) n m = some (rowsL n m R) := by
  obtain ⟨rs, e, l, _, _, _, _, g⟩ := z
  have e1 : isLst (.ref r) h = some (rs.map EV.ref) := by simp only [isLst, e]
  unfold tblOf
  rw [e1]
  dsimp only
  rw [if_pos (by simpa using l), rowsOf_of rs (fun i => rowE m (R i)) g (fun i => rowE_len _ _), l]
theorem entAt_rows {n m i j : Nat} {R : Tbl} (hi : i ≤ n) (hj : j ≤ m) : entAt (rowsL n m R) i j = optE (R i j) := by
  unfold entAt
  have e1 : (rowsL n m R).getD i [] = rowE m (R i) := by
    rw [List.getD_eq_getElem?_getD, List.getElem?_map, List.getElem?_range (by omega)]; rfl
  rw [e1, List.getD_eq_getElem?_getD, rowE_at hj]; rfl
theorem toT_rows {n m i j : Nat} {R : Tbl} (hi : i ≤ n) (hj : j ≤ m) : toT (rowsL n m R) i j = R i j := by
  unfold toT
  rw [entAt_rows hi hj]
  cases R i j <;> rfl
theorem tyE_opt {h : EH} (o : Option Int) : (tyE (optE o) h).isSome = true := by cases o <;> simp [optE, tyE]
theorem RowsAt.ty {h : EH} {b t r n m : Nat} {R : Tbl} (z : RowsAt h b t r n m R) : TyOk h (.ref r) n m := by
  obtain ⟨rs, e, l, _, _, _, _, g⟩ := z
  have zt : tblOf h (.ref r) n m = some (rowsL n m R) := RowsAt.tbl (b := b) (t := t) ⟨rs, e, l, by assumption, by assumption, by assumption, by assumption, g⟩
  refine ⟨by simp [tyE, e], fun rows er hl x hx => ?_, fun es ee y hy x hx => ?_⟩
  · have e1 : isLst (.ref r) h = some (rs.map EV.ref) := by simp only [isLst, e]
    rw [e1] at er
    cases er
    obtain ⟨q, hq, rfl⟩ := List.mem_map.mp hx
    obtain ⟨i, hi⟩ := List.getElem?_of_mem hq
    simp [tyE, g i q hi]
  · rw [zt] at ee
    cases ee
    obtain ⟨i, _, rfl⟩ := List.mem_map.mp hy
    obtain ⟨j, _, rfl⟩ := List.mem_map.mp hx
    exact tyE_opt _
theorem RowsAt.bound {h : EH} {b t r : Nat} {w : Wd} {R : Tbl} (z : RowsAt h b t r w.n w.m R) (B : w.Bnd R) : w.boundV h (.ref r) = true := by
  unfold Wd.boundV
  rw [z.tbl]
  dsimp only
  rw [Bool.and_eq_true]
  constructor
  · unfold tableB
    rw [List.all_eq_true]
    rintro ⟨i, j⟩ hq
    have hq := ptsL_mem.mp hq
    dsimp only at hq ⊢
    rw [entAt_rows hq.1 hq.2]
    unfold entOk
    have o := B.o i j hq.1 hq.2
    by_cases h1 : w.p.ok i j = true
    · rw [if_pos h1]
      obtain ⟨v, e⟩ := Option.ne_none_iff_exists'.mp (o.mp h1)
      rw [e]; rfl
    · rw [if_neg h1]
      have : R i j = none := Decidable.byContradiction fun z => h1 (o.mpr z)
      rw [this]; rfl
  · unfold Wd.boundB
    rw [Bool.and_eq_true, decide_eq_true_eq, toT_rows (Nat.zero_le _) (Nat.zero_le _)]
    refine ⟨B.z, ?_⟩
    rw [List.all_eq_true]
    rintro ⟨i, j⟩ hq
    have hq := ptsL_mem.mp hq
    dsimp only at hq
    unfold Wd.ptB
    dsimp only
    rw [toT_rows hq.1 hq.2]
    cases e : R i j with
    | none => rfl
    | some v =>
      dsimp only
      rw [List.all_eq_true]
      intro c hc
      have le := w.stp_le hc hq.1 hq.2
      unfold Wd.stB
      rw [toT_rows le.1 le.2]
      cases e2 : R (mvI i c) (mvJ j c) with
      | none => rfl
      | some u => exact decide_eq_true (B.s i j c u v hq.1 hq.2 hc e e2)
theorem RowsAt.least {h : EH} {b t r : Nat} {w : Wd} {R : Tbl} {s : List Nat} (z : RowsAt h b t r w.n w.m R) (B : w.Bnd R) (sc : StepC s) (hw : wrg w.l w.r s 0 0 0 = none) (hk : w.p.kept s = true) :
    w.leastV h (.str s) (.ref r) = decide (R w.n w.m = some (priceS (cost w.c) w.l w.r s 0 0)) := by
  unfold Wd.leastV
  dsimp only
  rw [z.tbl, z.bound B, step_isSt sc, hw, hk]
  dsimp only
  rw [toT_rows (Nat.le_refl _) (Nat.le_refl _)]
  rfl
end Y

namespace Y
open PySem PySem.Spec PyProof.Rows L2

def Grow (h0 h : EH) (m i : Nat) (R : Tbl) : Prop := Keep no1 h0 h ∧ ∃ rs : List Nat, h[h0.length]? = some (.lst (rs.map EV.ref)) ∧ rs.length = i ∧ rs.Nodup ∧ (∀ q ∈ rs, h0.length < q ∧ q < h.length) ∧ ∀ (a q : Nat), rs[a]? = some q → h[q]? = some (.lst (rowE m (R a)))
theorem Grow.start {h0 : EH} {m : Nat} {R : Tbl} : Grow h0 (h0 ++ [.lst []]) m 0 R := ⟨Keep.app _, [], new_at, rfl, List.nodup_nil, by simp, by simp⟩
theorem Grow.keep {h0 h h' : EH} {m i : Nat} {R : Tbl} (z : Grow h0 h m i R) (k : Keep no1 h h') : Grow h0 h' m i R := by
  obtain ⟨k0, rs, e, l, nd, b, g⟩ := z
  exact ⟨k0.trans k, rs, k.at e, l, nd, fun q hq => ⟨(b q hq).1, Nat.lt_of_lt_of_le (b q hq).2 k.1⟩, fun a q hq => k.at (g a q hq)⟩
theorem Grow.lst {h0 h : EH} {m i : Nat} {R : Tbl} (z : Grow h0 h m i R) : ∃ xs, h[h0.length]? = some (.lst xs) ∧ xs.length = i := by
  obtain ⟨k0, rs, e, l, nd, b, g⟩ := z
  exact ⟨_, e, by rw [List.length_map, l]⟩
theorem Grow.push {h0 h h' : EH} {m i W : Nat} {R : Tbl} {xs : List EV} (z : Grow h0 h m i R) (k : Keep no1 h h') (hW : h.length ≤ W) (eW : h'[W]? = some (.lst (rowE m (R i)))) (ex : h'[h0.length]? = some (.lst xs)) : Grow h0 (h'.set h0.length (.lst (xs ++ [.ref W]))) m (i + 1) R := by
  obtain ⟨k0, rs, e, l, nd, b, g⟩ := z
  have := k.at e
  rw [ex] at this
  cases this
  have lF := lt_of_at e
  have lW := lt_of_at eW
  refine ⟨(k0.trans k).fresh (Nat.le_refl _), rs ++ [W], by rw [set_at ex]; simp, by simp [l], ?_, ?_, ?_⟩
  · rw [List.nodup_append]
    refine ⟨nd, by simp, fun a ha b' hb => ?_⟩
    have := (b a ha).2
    simp at hb
    omega
  · intro q hq
    rcases List.mem_append.mp hq with y | y
    · have := b q y
      have := k.1
      simp; omega
    · have : q = W := by simpa using y
      subst this
      simp; omega
  · intro a q hq
    by_cases ha : a < i
    · rw [List.getElem?_append_left (by omega)] at hq
      exact set_off (k.at (g a q hq)) (by have := b q (List.mem_of_getElem? hq); omega)
    · rw [List.getElem?_append_right (by omega)] at hq
      have ha2 : a - rs.length = 0 := by
        have := (List.getElem?_eq_some_iff.mp hq).1
        simp at this; omega
      rw [ha2] at hq
      simp at hq
      subst hq
      have : a = i := by omega
      subst this
      exact set_off eW (by omega)
theorem Grow.done {h0 h : EH} {n m : Nat} {R : Tbl} (z : Grow h0 h m (n + 1) R) : RowsAt h h0.length h.length h0.length n m R := by
  obtain ⟨k0, rs, e, l, nd, b, g⟩ := z
  exact ⟨rs, e, l, nd, fun z => Nat.lt_irrefl _ (b _ z).1, ⟨Nat.le_refl _, lt_of_at e⟩, fun q hq => ⟨Nat.le_of_lt (b q hq).1, (b q hq).2⟩, g⟩
theorem rangeL_nat (n : Nat) : rangeL 0 n = (List.range' 0 n).map fun (k : Nat) => EV.int k := by
  unfold rangeL
  rw [List.range_eq_range']
  refine List.map_congr_left fun k _ => ?_
  rw [Int.zero_add]
theorem loop_nat {g : EH → Prop} {p : Pat} {tb : LS} {D : LEnds} (n : Nat) (I : Nat → En → EH → Prop)
    (stop : ∀ env h, I n env h → g h ∧ D.nx env h)
    (turn : ∀ i env h (k : En → EH → Prop), i < n → I i env h → (∀ env' h', I (i + 1) env' h' → k env' h') → g h ∧ lBind h p (.int (i : Nat)) env fun env2 => tb { D with nx := k, ct := k, bk := D.nx } env2 h) :
    ∀ env h, I 0 env h → loopE g p tb D (rangeL 0 n) env h := by
  intro env h i0
  rw [rangeL_nat]
  refine loop_ind (fun left env h => ∃ i : Nat, i ≤ n ∧ left = (List.range' i (n - i)).map (fun (k : Nat) => EV.int k) ∧ I i env h) ?_ ?_ _ _ _ ⟨0, Nat.zero_le _, rfl, i0⟩
  · rintro env h ⟨i, hi, el, z⟩
    have : i = n := by
      have := congrArg List.length el
      simp at this
      omega
    subst this
    exact stop env h z
  · rintro x left env h k ⟨i, hi, el, z⟩ hk
    have hi2 : i < n := by
      have := congrArg List.length el
      simp at this
      omega
    rw [show n - i = (n - i - 1) + 1 by omega, List.range'_succ, List.map_cons, List.cons.injEq] at el
    obtain ⟨rfl, rfl⟩ := el
    exact turn i env h k hi2 z fun env' h' z' => hk env' h' ⟨i + 1, hi2, by rw [show n - (i + 1) = n - i - 1 by omega], z'⟩
def stpN (l r : List Int) (i j : Nat) : List Nat := [107, 100, 112].filter fun c => canDo l r c i j
def stE (c : Nat) : EV := .str [c]
def sp__law_steps (ad : Ad) : LSp := fun evs h Q => ∃ (l r : List Int) (i j : Nat), evs = [tx l, tx r, .int i, .int j] ∧ Told h ((stpN l r i j).map stE) Q
abbrev N__law_steps : List Str := ["_law_left", "_law_right", "_law_i", "_law_j", "_law_found"]
def t__law_steps (ad : Ad) : LS :=
    lSeq (lSet (lLst (lNil)) 4) <|
    lSeq (lIfS (lAnd (lB (lOp ltE (lVar 2) (lCB lenE (lCons (lVar 0) (lNil))))) (lAnd (lB (lOp ltE (lVar 3) (lCB lenE (lCons (lVar 1) (lNil))))) (lB (lOp (eqE false) (lOp ixA (lVar 0) (lVar 2)) (lOp ixA (lVar 1) (lVar 3))))))
      (lDrop (lBM "list" appendE (lVar 4) (lCons (lC (.str [107])) (lNil))))
      (lNext)) <|
    lSeq (lIfS (lB (lOp ltE (lVar 2) (lCB lenE (lCons (lVar 0) (lNil)))))
      (lDrop (lBM "list" appendE (lVar 4) (lCons (lC (.str [100])) (lNil))))
      (lNext)) <|
    lSeq (lIfS (lB (lOp ltE (lVar 3) (lCB lenE (lCons (lVar 1) (lNil)))))
      (lDrop (lBM "list" appendE (lVar 4) (lCons (lC (.str [112])) (lNil))))
      (lNext)) <|
    lRet (lVar 4)
theorem len__law_steps (ad : Ad) (evs : List EV) (h : EH) (Q : EK) (q : sp__law_steps ad evs h Q) : evs.length = ["_law_left", "_law_right", "_law_i", "_law_j"].length := by
  obtain ⟨_, _, _, _, rfl, _⟩ := q; rfl
theorem pure__law_steps (ad : Ad) (evs : List EV) (h : EH) (Q : EK) (q : sp__law_steps ad evs h Q) : t__law_steps ad (endsOf Q) (startE N__law_steps evs) h := by
  obtain ⟨l, r, i, j, rfl, q⟩ := q
  show t__law_steps ad (endsOf Q) [some (tx l), some (tx r), some (.int i), some (.int j), none] h
  have s0 : ∀ (x y z : EO), ((h ++ [x]).set h.length y).set h.length z = h ++ [z] := fun x y z => by simp
  have fin : ∀ xs : List EV, xs = (stpN l r i j).map stE → Q (.ref h.length) (h ++ [.lst xs]) := fun xs e => q _ _ (Keep.app _) (Nat.le_refl _) (by rw [e]; exact new_at)
  by_cases hi : i < l.length <;> by_cases hj : j < r.length
  · by_cases hs : l.getD i 0 = r.getD j 0
    · have hs' : l[i] = r[j] := by simpa [List.getD_eq_getElem?_getD, List.getElem?_eq_getElem hi, List.getElem?_eq_getElem hj] using hs
      have f := fin [.str [107], .str [100], .str [112]] (by simp [stpN, canDo, hi, hj, hs', stE, List.filter_cons])
      simp [t__law_steps, lSeq, lSet, lRet, lRetN, lDrop, lIfS, lOp, lVar, lC, lB, lT, lAnd, lOr, lNot, lIf, lAndV, lOrV, lNotV, lNil, lCons, lTup, lLst, lCB, lBM, lSl, lPart, lNext, lFor, lIt, lRng1, lRng2, lAsg, lPar, lSetI, lSetA, lAugS, lLc, lZip, lNeg, lCall, lChain, List.getElem?_cons_zero, List.getElem?_cons_succ, List.set_cons_zero, List.set_cons_succ, truE, wipeE, intP, intE, lBind, Pat.bind, Pat.binds, eqE, geE, gtE, leE, ltE, intP, intE, addE, subE, lenE, ixA, ixE, isN, absE, intOf, isTy, attrE, atI_n, atI_0, atI_1, atI_2, atI_3, lYes, hi, hj, hs', sizeL, new_at, tx, appendE, onList, Int.ofNat_lt] at f ⊢
      exact f
    · have hs' : ¬l[i] = r[j] := by simpa [List.getD_eq_getElem?_getD, List.getElem?_eq_getElem hi, List.getElem?_eq_getElem hj] using hs
      have f := fin [.str [100], .str [112]] (by simp [stpN, canDo, hi, hj, hs', stE, List.filter_cons])
      simp [t__law_steps, lSeq, lSet, lRet, lRetN, lDrop, lIfS, lOp, lVar, lC, lB, lT, lAnd, lOr, lNot, lIf, lAndV, lOrV, lNotV, lNil, lCons, lTup, lLst, lCB, lBM, lSl, lPart, lNext, lFor, lIt, lRng1, lRng2, lAsg, lPar, lSetI, lSetA, lAugS, lLc, lZip, lNeg, lCall, lChain, List.getElem?_cons_zero, List.getElem?_cons_succ, List.set_cons_zero, List.set_cons_succ, truE, wipeE, intP, intE, lBind, Pat.bind, Pat.binds, eqE, geE, gtE, leE, ltE, intP, intE, addE, subE, lenE, ixA, ixE, isN, absE, intOf, isTy, attrE, atI_n, atI_0, atI_1, atI_2, atI_3, lYes, hi, hj, hs', sizeL, new_at, tx, appendE, onList, Int.ofNat_lt] at f ⊢
      exact f
  · have f := fin [.str [100]] (by simp [stpN, canDo, hi, hj, stE, List.filter_cons])
    simp [t__law_steps, lSeq, lSet, lRet, lRetN, lDrop, lIfS, lOp, lVar, lC, lB, lT, lAnd, lOr, lNot, lIf, lAndV, lOrV, lNotV, lNil, lCons, lTup, lLst, lCB, lBM, lSl, lPart, lNext, lFor, lIt, lRng1, lRng2, lAsg, lPar, lSetI, lSetA, lAugS, lLc, lZip, lNeg, lCall, lChain, List.getElem?_cons_zero, List.getElem?_cons_succ, List.set_cons_zero, List.set_cons_succ, truE, wipeE, intP, intE, lBind, Pat.bind, Pat.binds, eqE, geE, gtE, leE, ltE, intP, intE, addE, subE, lenE, ixA, ixE, isN, absE, intOf, isTy, attrE, atI_n, atI_0, atI_1, atI_2, atI_3, lYes, hi, hj, sizeL, new_at, tx, appendE, onList, Int.ofNat_lt] at f ⊢
    exact f
  · have f := fin [.str [112]] (by simp [stpN, canDo, hi, hj, stE, List.filter_cons])
    simp [t__law_steps, lSeq, lSet, lRet, lRetN, lDrop, lIfS, lOp, lVar, lC, lB, lT, lAnd, lOr, lNot, lIf, lAndV, lOrV, lNotV, lNil, lCons, lTup, lLst, lCB, lBM, lSl, lPart, lNext, lFor, lIt, lRng1, lRng2, lAsg, lPar, lSetI, lSetA, lAugS, lLc, lZip, lNeg, lCall, lChain, List.getElem?_cons_zero, List.getElem?_cons_succ, List.set_cons_zero, List.set_cons_succ, truE, wipeE, intP, intE, lBind, Pat.bind, Pat.binds, eqE, geE, gtE, leE, ltE, intP, intE, addE, subE, lenE, ixA, ixE, isN, absE, intOf, isTy, attrE, atI_n, atI_0, atI_1, atI_2, atI_3, lYes, hi, hj, sizeL, new_at, tx, appendE, onList, Int.ofNat_lt] at f ⊢
    exact f
  · have f := fin [] (by simp [stpN, canDo, hi, hj, stE, List.filter_cons])
    simp [t__law_steps, lSeq, lSet, lRet, lRetN, lDrop, lIfS, lOp, lVar, lC, lB, lT, lAnd, lOr, lNot, lIf, lAndV, lOrV, lNotV, lNil, lCons, lTup, lLst, lCB, lBM, lSl, lPart, lNext, lFor, lIt, lRng1, lRng2, lAsg, lPar, lSetI, lSetA, lAugS, lLc, lZip, lNeg, lCall, lChain, List.getElem?_cons_zero, List.getElem?_cons_succ, List.set_cons_zero, List.set_cons_succ, truE, wipeE, intP, intE, lBind, Pat.bind, Pat.binds, eqE, geE, gtE, leE, ltE, intP, intE, addE, subE, lenE, ixA, ixE, isN, absE, intOf, isTy, attrE, atI_n, atI_0, atI_1, atI_2, atI_3, lYes, hi, hj, sizeL, new_at, tx, appendE, onList, Int.ofNat_lt] at f ⊢
    exact f
end Y

namespace Y
open PySem PySem.Spec PyProof.Rows L2

theorem RowsAt.keepB {h h' : EH} {b0 t r n m b : Nat} {R : Tbl} (z : RowsAt h b0 t r n m R) (B : BagAt h b) (k : Keep (is1 b) h h') : RowsAt h' b0 t r n m R := by
  obtain ⟨rs, e, l, nd, nr, br, bq, g⟩ := z
  obtain ⟨c, x, y, u, ns, eb, _⟩ := B
  refine ⟨rs, k.other e ?_, l, nd, nr, br, bq, fun i q hq => k.other (g i q hq) ?_⟩
  · rintro rfl
    rw [eb] at e
    cases rs with
    | nil => simp at l
    | cons a rs => simp at e
  · rintro rfl
    have g' := g i _ hq
    rw [eb] at g'
    have e4 : [EV.int x, .int y, .int u, .ref c] = rowE m (R i) := by simpa using g'
    have e5 : (rowE m (R i))[3]? = some (.ref c) := by rw [← e4]; rfl
    have l5 := (List.getElem?_eq_some_iff.mp e5).1
    rw [rowE_len] at l5
    rw [rowE_at (by omega)] at e5
    cases hv : R i 3 <;> rw [hv] at e5 <;> cases e5
theorem RowsAt.base {h : EH} {b b' t r n m : Nat} {R : Tbl} (z : RowsAt h b t r n m R) (l : b' ≤ b) : RowsAt h b' t r n m R := by
  obtain ⟨rs, e, l', nd, nr, br, bq, g⟩ := z
  exact ⟨rs, e, l', nd, nr, ⟨by omega, br.2⟩, fun q hq => ⟨by have := (bq q hq).1; omega, (bq q hq).2⟩, g⟩
theorem eqE_nilS {n : Bool} {a b : Nat} {ns : List Nat} {h : EH} {P : EK} (e : h[a]? = some (.lst (ns.map stE))) (e2 : h[b]? = some (.lst [])) (p : P (.bl (n ^^ decide (ns = []))) h) : eqE n (.ref a) (.ref b) h P := by
  unfold eqE
  have d1 : ∀ l : List Nat, Dats h 59 (l.map stE) (l.map fun c => PyData.str (S [c])) := by
    intro l
    induction l with
    | nil => exact .nil
    | cons x l ih => exact .cons (.str [x]) ih
  refine ⟨.list (ns.map fun c => PyData.str (S [c])), .list [], .lst e (d1 ns), .lst e2 .nil, ?_⟩
  have e3 : PyData.eqv (.list (ns.map fun c => PyData.str (S [c]))) (.list []) = decide (ns = []) := by
    cases ns <;> simp [PyData.eqv, PyData.eqvAll]
  rw [e3]
  exact p
theorem pts_snoc (c : Nat) : ∀ (s : List Nat) (i j : Nat), pts i j (s ++ [c]) = pts i j s ++ [(mvI (endS s i j).1 c, mvJ (endS s i j).2 c)]
  | [], i, j => rfl
  | d :: s, i, j => by rw [List.cons_append, pts, pts, pts_snoc c s, endS]; rfl
theorem endS_snoc (c : Nat) (s : List Nat) (i j : Nat) : endS (s ++ [c]) i j = (mvI (endS s i j).1 c, mvJ (endS s i j).2 c) := by
  rw [endS_app]; rfl
def nearB (g : Int) (i j : Nat) : Bool := decide ((((i : Int) - j).natAbs : Int) ≤ g)
structure Scr (l r : List Int) (g : Int) (k i j : Nat) (s : List Nat) : Prop where
  e : endS s 0 0 = (i, j)
  c : StepC s
  w : ∀ (t : List Nat) (x : Nat), wrg l r (s ++ t) 0 0 x = wrg l r t i j (x + s.length)
  p : ∀ q ∈ pts 0 0 s, nearB g q.1 q.2 = true
  n : s.length ≤ k
theorem Scr.step {l r : List Int} {g : Int} {k i j c : Nat} {s : List Nat} (z : Scr l r g k i j s) (hc : c ∈ (stpN l r i j).filter fun c => nearB g (mvI i c) (mvJ j c)) : Scr l r g (k + 1) (mvI i c) (mvJ j c) (s ++ [c]) := by
  rw [List.mem_filter] at hc
  obtain ⟨hc, hn⟩ := hc
  unfold stpN at hc
  rw [List.mem_filter] at hc
  obtain ⟨h3, cd⟩ := hc
  refine ⟨by rw [endS_snoc, z.e], fun x hx => ?_, fun t x => ?_, fun q hq => ?_, by have := z.n; simp; omega⟩
  · rcases List.mem_append.mp hx with y | y
    · exact z.c x y
    · rw [List.mem_singleton.mp y]
      simpa [isStep] using h3
  · rw [List.append_assoc, z.w, List.singleton_append, wrg, if_pos cd]
    simp; rfl
  · rw [pts_snoc, z.e] at hq
    rcases List.mem_append.mp hq with y | y
    · exact z.p q y
    · rw [List.mem_singleton.mp y]; exact hn
end Y

namespace Y
open PySem PySem.Spec PyProof.Rows L2

def DctAt (h : EH) (d : Nat) (w : Wd) : Prop := ∃ kvs, h[d]? = some (.dct kvs) ∧ ∀ a b, a ≤ w.n → b ≤ w.m → dGetT kvs (ptE a b) = some (optE (w.rest a b))
theorem DctAt.keep {h h' : EH} {d : Nat} {w : Wd} (z : DctAt h d w) (k : Keep no1 h h') : DctAt h' d w := by
  obtain ⟨kvs, e, g⟩ := z
  exact ⟨kvs, k.at e, g⟩
theorem DctAt.get {h : EH} {d : Nat} {w : Wd} (z : DctAt h d w) {a b : Nat} (ha : a ≤ w.n) (hb : b ≤ w.m) {P : EK} (q : P (optE (w.rest a b)) h) : ixA (.ref d) (ptE a b) h P := by
  obtain ⟨kvs, e, g⟩ := z
  exact ia_dt e (isKeyT_pt _ _) (g a b ha hb) q
def DctP (h : EH) (d : Nat) (w : Wd) (z : Nat) (done : Nat → Nat → Prop) : Prop := ∃ kvs, h[d]? = some (.dct kvs) ∧ kvs.length ≤ z ∧ ∀ a b, a ≤ w.n → b ≤ w.m → done a b → dGetT kvs (ptE a b) = some (optE (w.rest a b))
theorem DctP.get {h : EH} {d : Nat} {w : Wd} {z : Nat} {done : Nat → Nat → Prop} (y : DctP h d w z done) {a b : Nat} (ha : a ≤ w.n) (hb : b ≤ w.m) (hd : done a b) {P : EK} (q : P (optE (w.rest a b)) h) : ixA (.ref d) (ptE a b) h P := by
  obtain ⟨kvs, e, _, g⟩ := y
  exact ia_dt e (isKeyT_pt _ _) (g a b ha hb hd) q
theorem DctP.keep {h h' : EH} {d : Nat} {w : Wd} {z : Nat} {done : Nat → Nat → Prop} (y : DctP h d w z done) (k : Keep no1 h h') : DctP h' d w z done := by
  obtain ⟨kvs, e, l, g⟩ := y
  exact ⟨kvs, k.at e, l, g⟩
def LagIs (w : Wd) (L : Int) : Prop := ∀ i j : Nat, i ≤ w.n → j ≤ w.m → decide ((((i : Int) - j).natAbs : Int) ≤ L) = w.p.ok i j
end Y

namespace Y
open PySem PySem.Spec PyProof.Rows L2

end Y

namespace Y
open PySem PySem.Spec PyProof.Rows L2

end Y

namespace Y
open PySem PySem.Spec PyProof.Rows L2

section
variable {w : Wd} {c : Tab} (hc : ∀ x, cost c x = cost w.c x)
include hc
theorem sameC_rest : ({ w with c := c } : Wd).rest = w.rest := by
  show ({ w with c := c } : Wd).g.rest w.n w.m = _
  rw [Wd.g_cost hc]
end
end Y

namespace Y
open PySem PySem.Spec PyProof.Rows L2

mutual
inductive DatB (b : Nat) (h : EH) : Nat → EV → PyData → Prop
  | non {n : Nat} : DatB b h n .non .none
  | bl {n : Nat} (x : Bool) : DatB b h n (.bl x) (.bool x)
  | int {n : Nat} (i : Int) : DatB b h n (.int i) (.int i)
  | str {n : Nat} (s : List Nat) : DatB b h n (.str s) (.str (S s))
  | tup {n : Nat} {xs : List EV} {ds : List PyData} : DatsB b h n xs ds → DatB b h (n + 1) (.tup xs) (.tuple ds)
  | lst {n : Nat} {r : Nat} {xs : List EV} {ds : List PyData} : b < r → h[r]? = some (.lst xs) → DatsB b h n xs ds → DatB b h (n + 1) (.ref r) (.list ds)
inductive DatsB (b : Nat) (h : EH) : Nat → List EV → List PyData → Prop
  | nil {n : Nat} : DatsB b h n [] []
  | cons {n : Nat} {x : EV} {xs : List EV} {d : PyData} {ds : List PyData} : DatB b h n x d → DatsB b h n xs ds → DatsB b h n (x :: xs) (d :: ds)
end
mutual
theorem DatB.dat {b : Nat} {h : EH} : ∀ (d : PyData) (n : Nat) (v : EV), DatB b h n v d → Dat h n v d
  | .none, _, _, a => by cases a; exact .non
  | .bool _, _, _, a => by cases a; exact .bl _
  | .int _, _, _, a => by cases a; exact .int _
  | .str _, _, _, a => by cases a; exact .str _
  | .dict _, _, _, a => by cases a
  | .tuple ds, _, _, a => by
    cases a with
    | tup r => exact .tup (DatsB.dats ds _ _ r)
  | .list ds, _, _, a => by
    cases a with
    | lst l e r => exact .lst e (DatsB.dats ds _ _ r)
theorem DatsB.dats {b : Nat} {h : EH} : ∀ (ds : List PyData) (n : Nat) (vs : List EV), DatsB b h n vs ds → Dats h n vs ds
  | [], _, _, a => by cases a; exact .nil
  | d :: ds, _, _, a => by
    cases a with
    | cons x y => exact .cons (DatB.dat d _ _ x) (DatsB.dats ds _ _ y)
end
mutual
theorem DatB.mono {b b' : Nat} {h h' : EH} (kp : ∀ r xs, b < r → h[r]? = some (.lst xs) → b' < r ∧ h'[r]? = some (.lst xs)) : ∀ (d : PyData) (n j : Nat) (v : EV), n ≤ j → DatB b h n v d → DatB b' h' j v d
  | .none, _, _, _, _, a => by cases a; exact .non
  | .bool _, _, _, _, _, a => by cases a; exact .bl _
  | .int _, _, _, _, _, a => by cases a; exact .int _
  | .str _, _, _, _, _, a => by cases a; exact .str _
  | .dict _, _, _, _, _, a => by cases a
  | .tuple ds, n, j, _, l, a => by
    cases a with
    | tup r =>
      cases j with
      | zero => omega
      | succ j => exact .tup (DatsB.mono kp ds _ j _ (by omega) r)
  | .list ds, n, j, _, l, a => by
    cases a with
    | lst lr e r =>
      cases j with
      | zero => omega
      | succ j =>
        obtain ⟨y, e2⟩ := kp _ _ lr e
        exact .lst y e2 (DatsB.mono kp ds _ j _ (by omega) r)
theorem DatsB.mono {b b' : Nat} {h h' : EH} (kp : ∀ r xs, b < r → h[r]? = some (.lst xs) → b' < r ∧ h'[r]? = some (.lst xs)) : ∀ (ds : List PyData) (n j : Nat) (vs : List EV), n ≤ j → DatsB b h n vs ds → DatsB b' h' j vs ds
  | [], _, _, _, _, a => by cases a; exact .nil
  | d :: ds, _, _, _, l, a => by
    cases a with
    | cons x y => exact .cons (DatB.mono kp d _ _ _ l x) (DatsB.mono kp ds _ _ _ l y)
end
structure SmlD (k : Nat) (d : PyData) : Prop where
  s : d.showable = true
  l : d.leavesShort 42 = true
  w : d.weight ≤ k
structure SmlDs (k : Nat) (d : List PyData) : Prop where
  s : PyData.showableAll d = true
  l : PyData.leavesShortAll 42 d = true
  w : PyData.weightAll d ≤ k
def VOk (b : Nat) (h : EH) (n k : Nat) (v : EV) : Prop := ∃ d, DatB b h n v d ∧ SmlD k d
def VsOk (b : Nat) (h : EH) (n k : Nat) (vs : List EV) : Prop := ∃ ds, DatsB b h n vs ds ∧ SmlDs k ds
section
variable {b : Nat} {h h' : EH} {n k j : Nat}
theorem VOk.keepB {v : EV} (z : VOk b h n k v) (kp : Keep (is1 b) h h') : VOk b h' n k v := by
  obtain ⟨d, a, c⟩ := z
  exact ⟨d, DatB.mono (fun r xs lr e => ⟨lr, kp.2 r _ e (fun y => by rw [is1] at y; omega)⟩) d n n v (Nat.le_refl _) a, c⟩
theorem VOk.keep {v : EV} (z : VOk b h n k v) (kp : Keep no1 h h') : VOk b h' n k v := z.keepB kp.all
theorem VOk.up {v : EV} {n' k' : Nat} (z : VOk b h n k v) (hn : n ≤ n') (hk : k ≤ k') : VOk b h n' k' v := by
  obtain ⟨d, a, c⟩ := z
  exact ⟨d, DatB.mono (fun r xs lr e => ⟨lr, e⟩) d n n' v hn a, c.s, c.l, Nat.le_trans c.w hk⟩
theorem VOk.low {v : EV} {b' : Nat} (z : VOk b h n k v) (hb : b' ≤ b) : VOk b' h n k v := by
  obtain ⟨d, a, c⟩ := z
  exact ⟨d, DatB.mono (fun r xs lr e => ⟨by omega, e⟩) d n n v (Nat.le_refl _) a, c⟩
theorem VOk.non : VOk b h n k .non := ⟨_, .non, by simp [PyData.showable], by simp [PyData.leavesShort], by simp [PyData.weight]⟩
theorem VOk.bl {x : Bool} : VOk b h n k (.bl x) := ⟨_, .bl x, by simp [PyData.showable], by simp [PyData.leavesShort], by simp [PyData.weight]⟩
theorem VOk.int {i : Int} (hi : i.natAbs < 10 ^ 31) (hk : 104 ≤ k) : VOk b h n k (.int i) := by
  have l : i.natAbs.log2 < 103 := log_le (Nat.lt_of_lt_of_le hi (by decide)) (by decide)
  refine ⟨_, .int i, ?_, ?_, ?_⟩
  · rw [PyData.showable.eq_4]
    exact decide_eq_true (by omega)
  · simp only [PyData.leavesShort]
    refine decide_eq_true ?_
    have e := PySem.int_text_length_le10 (k := 31) (a := i) (by decide) hi
    show (Str.ofString (toString i)).length ≤ 42
    rw [PySem.ofString_length]; omega
  · simp only [PyData.weight]
    split <;> omega
theorem VOk.str {s : List Nat} (hs : ∀ c ∈ s, c < 16 ^ 8) (hk : s.length ≤ k) : VOk b h n k (.str s) := by
  refine ⟨_, .str s, by rw [PyData.showable.eq_3], ?_, ?_⟩
  · simp only [PyData.leavesShort, List.all_eq_true, decide_eq_true_eq]
    exact fun c hc => hs c (by simpa using hc)
  · simp only [PyData.weight]
    simpa using hk
theorem VsOk.nil : VsOk b h n k [] := ⟨[], .nil, by simp [PyData.showableAll], by simp [PyData.leavesShortAll], by simp [PyData.weightAll]⟩
theorem VsOk.cons {x : EV} {xs : List EV} {c : Nat} (a : VOk b h n c x) (z : VsOk b h n k xs) : VsOk b h n (c + 1 + k) (x :: xs) := by
  obtain ⟨d, a1, a2⟩ := a
  obtain ⟨ds, z1, z2⟩ := z
  refine ⟨d :: ds, .cons a1 z1, ?_, ?_, ?_⟩
  · simp only [PyData.showableAll, a2.s, z2.s, Bool.and_self]
  · simp only [PyData.leavesShortAll, a2.l, z2.l, Bool.and_self]
  · simp only [PyData.weightAll]
    have := a2.w
    have := z2.w
    omega
theorem VsOk.all {c : Nat} : ∀ {vs : List EV}, (∀ v ∈ vs, VOk b h n c v) → VsOk b h n (vs.length * (c + 1)) vs
  | [], _ => VsOk.nil
  | x :: xs, z => by
    have y := VsOk.cons (z x (by simp)) (VsOk.all (vs := xs) fun v hv => z v (List.mem_cons_of_mem _ hv))
    rw [List.length_cons, Nat.add_mul, Nat.one_mul, Nat.add_comm]
    exact y
theorem VsOk.up {vs : List EV} {k' : Nat} (z : VsOk b h n k vs) (hk : k ≤ k') : VsOk b h n k' vs := by
  obtain ⟨ds, a, c⟩ := z
  exact ⟨ds, a, c.s, c.l, Nat.le_trans c.w hk⟩
theorem VOk.tup {xs : List EV} (z : VsOk b h n k xs) : VOk b h (n + 1) k (.tup xs) := by
  obtain ⟨ds, a, c⟩ := z
  refine ⟨_, .tup a, ?_, ?_, ?_⟩
  · simpa only [PyData.showable] using c.s
  · simpa only [PyData.leavesShort] using c.l
  · simpa only [PyData.weight] using c.w
theorem VOk.lst {r : Nat} {xs : List EV} (hb : b < r) (e : h[r]? = some (.lst xs)) (z : VsOk b h n k xs) : VOk b h (n + 1) k (.ref r) := by
  obtain ⟨ds, a, c⟩ := z
  refine ⟨_, .lst hb e a, ?_, ?_, ?_⟩
  · simpa only [PyData.showable] using c.s
  · simpa only [PyData.leavesShort] using c.l
  · simpa only [PyData.weight] using c.w
theorem SmlD.fits {d : PyData} (z : SmlD k d) (hk : k ≤ 2 ^ 17) : d.shown.length ≤ sizeLine := by
  have h1 := PyData.shown_le 42 (by decide) d z.l
  have e : (2 : Nat) ^ 17 = 131072 := by decide
  have h2 : (42 + 2) * d.weight ≤ 44 * 131072 := Nat.mul_le_mul (Nat.le_refl _) (Nat.le_trans z.w (by omega))
  rw [sizeLine_eq]
  omega
theorem VOk.repr {v : EV} (z : VOk b h n k v) (hn : n ≤ 60) (hk : k ≤ 2 ^ 17) : ∃ s : List Nat, ∀ (h2 : EH) (P : EK), Keep (is1 b) h h2 → P (.str s) h2 → reprE [v] h2 P := by
  obtain ⟨d, a, c⟩ := z
  refine ⟨d.shown.cps.toList, fun h2 P k2 p => ⟨d, ?_, c.s, c.fits hk, p⟩⟩
  exact (DatB.dat d n v (DatB.mono (fun r xs lr e => ⟨lr, k2.2 r _ e (fun y => by rw [is1] at y; omega)⟩) d n n v (Nat.le_refl _) a)).deep hn
theorem DatB.ty {v : EV} {d : PyData} (a : DatB b h n v d) : (tyE v h).isSome = true := by
  cases a with
  | lst _ e _ => simp [tyE, e]
  | _ => simp [tyE]
theorem VOk.ty {v : EV} (z : VOk b h n k v) : (tyE v h).isSome = true := by
  obtain ⟨d, a, _⟩ := z
  exact a.ty
theorem DatsB.at {vs : List EV} {ds : List PyData} : DatsB b h n vs ds → ∀ x ∈ vs, ∃ d, DatB b h n x d := by
  induction vs generalizing ds with
  | nil => intro _ x hx; simp at hx
  | cons y ys ih =>
    intro a x hx
    cases a with
    | cons a1 a2 =>
      rcases List.mem_cons.mp hx with rfl | hx
      · exact ⟨_, a1⟩
      · exact ih a2 x hx
theorem DatB.items {v : EV} {d : PyData} {xs : List EV} (a : DatB b h n v d) (e : isLst v h = some xs) : ∀ x ∈ xs, ∃ d n, DatB b h n x d := by
  obtain ⟨r, rfl, er⟩ := isLst_some e
  cases a with
  | lst _ e2 z =>
    rw [er] at e2
    cases e2
    intro x hx
    obtain ⟨d, q⟩ := z.at x hx
    exact ⟨d, _, q⟩
end
structure LookV (h : EH) (v : EV) : Prop where
  ty : (tyE v h).isSome = true
  its : ∀ xs, isLst v h = some xs → ∀ x ∈ xs, (tyE x h).isSome = true
  its2 : ∀ xs, isLst v h = some xs → ∀ x ∈ xs, ∀ ys, isLst x h = some ys → ∀ y ∈ ys, (tyE y h).isSome = true
theorem VOk.look {b n k : Nat} {h : EH} {v : EV} (z : VOk b h n k v) : LookV h v := by
  obtain ⟨d, a, _⟩ := z
  refine ⟨a.ty, fun xs e x hx => ?_, fun xs e x hx ys e2 y hy => ?_⟩
  · obtain ⟨_, _, q⟩ := a.items e x hx
    exact q.ty
  · obtain ⟨_, _, q⟩ := a.items e x hx
    obtain ⟨_, _, q2⟩ := q.items e2 y hy
    exact q2.ty
structure Rws (b : Nat) (h : EH) (r n m : Nat) (R : Tbl) : Prop where
  z : RowsAt h (b + 1) h.length r n m R
  s : ∀ i j v, R i j = some v → v.natAbs < 10 ^ 9
  n8 : n ≤ 9
  m8 : m ≤ 9
theorem RowsAt.lt2 {h : EH} {b t r n m : Nat} {R : Tbl} (z : RowsAt h b t r n m R) : b ≤ r := z.choose_spec.2.2.2.2.1.1
theorem Rws.keepB {b r n m : Nat} {h h' : EH} {R : Tbl} (w : Rws b h r n m R) (k : Keep (is1 b) h h') : Rws b h' r n m R := by
  refine ⟨?_, w.s, w.n8, w.m8⟩
  obtain ⟨rs, e, l, nd, nr, br, bq, g⟩ := w.z
  refine ⟨rs, k.2 r _ e (fun y => by rw [is1] at y; omega), l, nd, nr, ⟨br.1, Nat.lt_of_lt_of_le br.2 k.1⟩, fun q hq => ⟨(bq q hq).1, Nat.lt_of_lt_of_le (bq q hq).2 k.1⟩, fun i q hq => k.2 q _ (g i q hq) fun y => ?_⟩
  have := bq q (List.mem_of_getElem? hq)
  rw [is1] at y
  omega
theorem Rws.keep {b r n m : Nat} {h h' : EH} {R : Tbl} (w : Rws b h r n m R) (k : Keep no1 h h') : Rws b h' r n m R := w.keepB k.all
theorem Rws.of {b b0 t r n m : Nat} {h : EH} {R : Tbl} (z : RowsAt h b0 t r n m R) (hb : b < b0) (ht : t ≤ h.length) (s : ∀ i j v, R i j = some v → v.natAbs < 10 ^ 9) (hn : n ≤ 9) (hm : m ≤ 9) : Rws b h r n m R :=
  ⟨(z.more ht).base (by omega), s, hn, hm⟩
theorem VOk.opt {b : Nat} {h : EH} {n : Nat} {o : Option Int} (hs : ∀ v, o = some v → v.natAbs < 10 ^ 9) : VOk b h n 104 (optE o) := by
  cases o with
  | none => exact VOk.non
  | some v => exact VOk.int (Nat.lt_trans (hs v rfl) (by decide)) (Nat.le_refl _)
theorem Rws.ok {b r n m : Nat} {h : EH} {R : Tbl} (w : Rws b h r n m R) : VOk b h 2 20000 (.ref r) := by
  obtain ⟨rs, e, l, nd, nr, br, bq, g⟩ := w.z
  have h1 := w.n8
  have h2 := w.m8
  refine VOk.lst (by omega) e ((VsOk.all (c := 1050) fun v hv => ?_).up ?_)
  · obtain ⟨q, hq, rfl⟩ := List.mem_map.mp hv
    obtain ⟨i, hi⟩ := List.getElem?_of_mem hq
    refine VOk.lst (by have := (bq q hq).1; omega) (g i q hi) ((VsOk.all (c := 104) fun v hv => ?_).up ?_)
    · obtain ⟨j, _, rfl⟩ := List.mem_map.mp hv
      exact VOk.opt fun x hx => w.s _ _ x hx
    · rw [rowE_len]
      have : (m + 1) * (104 + 1) ≤ 10 * 105 := Nat.mul_le_mul (by omega) (Nat.le_refl _)
      omega
  · rw [List.length_map, l]
    have : (n + 1) * (1050 + 1) ≤ 10 * 1051 := Nat.mul_le_mul (by omega) (Nat.le_refl _)
    omega
end Y

namespace Y
open PySem PySem.Spec PyProof.Rows L2

end Y

namespace Y
open PySem PySem.Spec PyProof.Rows L2

end Y

namespace Y
open PySem PySem.Spec PyProof.Rows L2

end Y

namespace Y
open PySem PySem.Spec PyProof.Rows L2

theorem stpN_iff {l r : List Int} {i j c : Nat} : c ∈ stpN l r i j ↔ isStep c ∧ canDo l r c i j = true := by
  unfold stpN isStep
  simp [List.mem_filter]
end Y

namespace Y
open PySem PySem.Spec PyProof.Rows L2

def sp__law_walk (ad : Ad) : LSp := fun evs h Q => ∃ (b most : Nat) (l r : List Int), evs = [.ref b, tx l, tx r, .int most] ∧ BagAt h b ∧ most ≤ 1000 ∧
  ∀ (s : List Nat) (h' : EH), Keep (is1 b) h h' → BagAt h' b → StepC s → s.length ≤ most → Q (.str s) h'
abbrev N__law_walk : List Str := ["_law_bag_here", "_law_left", "_law_right", "_law_most", "_law_i", "_law_j", "_law_found", "_law_turn", "_law_some", "_law_step"]
def t__law_walk_2 (ad : Ad) : LS :=
    lRet (lVar 6)
def t__law_walk_1b_1 (ad : Ad) : LS :=
    lIfS (lB (lOp (eqE true) (lVar 8) (lLst (lNil))))
      (lSeq (lSet (lIf (lB (lOp (eqE false) (lCall (sp__law_take ad) (lCons (lVar 0) (lCons (lC (.int 2)) (lNil)))) (lC (.int 0)))) (lOp ixA (lVar 8) (lC (.int 0))) (lCall (sp__law_one ad) (lCons (lVar 0) (lCons (lVar 8) (lNil))))) 9) <|
    lPar3 6 4 5 (lCons (lOp addE (lVar 6) (lVar 9)) (lCons (lOp addE (lVar 4) (lCB intOf (lCons (lOp (eqE true) (lVar 9) (lC (.str [112]))) (lNil)))) (lCons (lOp addE (lVar 5) (lCB intOf (lCons (lOp (eqE true) (lVar 9) (lC (.str [100]))) (lNil)))) (lNil)))))
      (lNext)
def t__law_walk_1b_0 (ad : Ad) : LS :=
    lSeq (lSet (lCall (sp__law_steps ad) (lCons (lVar 1) (lCons (lVar 2) (lCons (lVar 4) (lCons (lVar 5) (lNil)))))) 8) <| t__law_walk_1b_1 ad
def t__law_walk_1 (ad : Ad) : LS :=
    lSeq (lFor (lRng1 (lCons (lVar 3) (lNil))) (.nm 7)
      (t__law_walk_1b_0 ad)) <| t__law_walk_2 ad
def t__law_walk_0 (ad : Ad) : LS :=
    lSeq (lAsg (lTup (lCons (lC (.int 0)) (lCons (lC (.int 0)) (lCons (lC (.str [])) (lNil))))) (.tp [.nm 4, .nm 5, .nm 6])) <| t__law_walk_1 ad
def t__law_walk (ad : Ad) : LS :=
    lSeq (lAsg (lTup (lCons (lC (.int 0)) (lCons (lC (.int 0)) (lCons (lC (.str [])) (lNil))))) (.tp [.nm 4, .nm 5, .nm 6])) <|
    lSeq (lFor (lRng1 (lCons (lVar 3) (lNil))) (.nm 7)
      (lSeq (lSet (lCall (sp__law_steps ad) (lCons (lVar 1) (lCons (lVar 2) (lCons (lVar 4) (lCons (lVar 5) (lNil)))))) 8) <|
    lIfS (lB (lOp (eqE true) (lVar 8) (lLst (lNil))))
      (lSeq (lSet (lIf (lB (lOp (eqE false) (lCall (sp__law_take ad) (lCons (lVar 0) (lCons (lC (.int 2)) (lNil)))) (lC (.int 0)))) (lOp ixA (lVar 8) (lC (.int 0))) (lCall (sp__law_one ad) (lCons (lVar 0) (lCons (lVar 8) (lNil))))) 9) <|
    lPar3 6 4 5 (lCons (lOp addE (lVar 6) (lVar 9)) (lCons (lOp addE (lVar 4) (lCB intOf (lCons (lOp (eqE true) (lVar 9) (lC (.str [112]))) (lNil)))) (lCons (lOp addE (lVar 5) (lCB intOf (lCons (lOp (eqE true) (lVar 9) (lC (.str [100]))) (lNil)))) (lNil)))))
      (lNext))) <|
    lRet (lVar 6)
theorem len__law_walk (ad : Ad) (evs : List EV) (h : EH) (Q : EK) (q : sp__law_walk ad evs h Q) : evs.length = ["_law_bag_here", "_law_left", "_law_right", "_law_most"].length := by
  obtain ⟨_, _, _, _, rfl, _⟩ := q; rfl
theorem pure__law_walk (ad : Ad) (evs : List EV) (h : EH) (Q : EK) (q : sp__law_walk ad evs h Q) : t__law_walk ad (endsOf Q) (startE N__law_walk evs) h := by
  obtain ⟨b, most, l, r, rfl, B, hm, q⟩ := q
  show t__law_walk_0 ad (endsOf Q) [some (.ref b), some (tx l), some (tx r), some (.int most), none, none, none, none, none, none] h
  unfold t__law_walk_0
  rw [lSeq, lAsg]
  simp only [lSet, lRet, lRetN, lDrop, lOp, lVar, lC, lB, lT, lAnd, lOr, lNot, lIf, lAndV, lOrV, lNotV, lNil, lCons, lTup, lLst, lCB, lBM, lSl, lPart, lNext, lIt, lRng1, lRng2, lAsg, lPar, lSetI, lSetA, lAugS, lLc, lZip, lNeg, lCall, lChain, List.getElem?_cons_zero, List.getElem?_cons_succ, List.set_cons_zero, List.set_cons_succ, wipeE, intP, intE, lBind, Pat.bind, Pat.binds]
  refine ⟨by simp [sizeL], ?_⟩
  unfold t__law_walk_1
  try dsimp only
  rw [lSeq, lFor]
  simp only [lSet, lRet, lRetN, lDrop, lOp, lVar, lC, lB, lT, lAnd, lOr, lNot, lIf, lAndV, lOrV, lNotV, lNil, lCons, lTup, lLst, lCB, lBM, lSl, lPart, lNext, lIt, lRng1, lRng2, lAsg, lPar, lSetI, lSetA, lAugS, lLc, lZip, lNeg, lCall, lChain, List.getElem?_cons_zero, List.getElem?_cons_succ, List.set_cons_zero, List.set_cons_succ, wipeE, intP, intE]
  refine ⟨⟨by omega, by omega⟩, ?_⟩
  rw [show (most : Int).toNat = most by omega]
  refine loop_nat most (fun k env h' => ∃ (i j : Nat) (s : List Nat) (x7 x8 x9 : Option EV), env = [some (.ref b), some (tx l), some (tx r), some (.int most), some (.int i), some (.int j), some (.str s), x7, x8, x9] ∧ Keep (is1 b) h h' ∧ BagAt h' b ∧ StepC s ∧ s.length ≤ k) ?_ ?_ _ _ ⟨0, 0, [], none, none, none, rfl, .refl, B, (fun c hc => by cases hc), Nat.le_refl _⟩
  · rintro env h' ⟨i, j, s, x7, x8, x9, rfl, k, B', sc, ls⟩
    refine ⟨trivial, ?_⟩
    simp only [t__law_walk_2, lSet, lRet, lRetN, lDrop, lOp, lVar, lC, lB, lT, lAnd, lOr, lNot, lIf, lAndV, lOrV, lNotV, lNil, lCons, lTup, lLst, lCB, lBM, lSl, lPart, lNext, lIt, lRng1, lRng2, lAsg, lPar, lSetI, lSetA, lAugS, lLc, lZip, lNeg, lCall, lChain, List.getElem?_cons_zero, List.getElem?_cons_succ, List.set_cons_zero, List.set_cons_succ, wipeE, intP, intE]
    exact q s _ k B' sc ls
  rintro k env h' kk hk ⟨i, j, s, x7, x8, x9, rfl, k0, B', sc, ls⟩ hkk
  refine ⟨trivial, bind_nm ?_⟩
  simp only [List.set_cons_zero, List.set_cons_succ]
  unfold t__law_walk_1b_0
  try dsimp only
  rw [lSeq, lSet]
  simp only [lSet, lRet, lRetN, lDrop, lOp, lVar, lC, lB, lT, lAnd, lOr, lNot, lIf, lAndV, lOrV, lNotV, lNil, lCons, lTup, lLst, lCB, lBM, lSl, lPart, lNext, lIt, lRng1, lRng2, lAsg, lPar, lSetI, lSetA, lAugS, lLc, lZip, lNeg, lCall, lChain, List.getElem?_cons_zero, List.getElem?_cons_succ, List.set_cons_zero, List.set_cons_succ, wipeE, intP, intE]
  refine ⟨l, r, i, j, rfl, fun r2 h2 k2 l2 e2 => ?_⟩
  have B2 := B'.keep k2
  have hb2 := B2.lt
  have hb0 := B'.lt
  unfold t__law_walk_1b_1
  try dsimp only
  rw [lIfS]
  simp only [lSet, lRet, lRetN, lDrop, lOp, lVar, lC, lB, lT, lAnd, lOr, lNot, lIf, lAndV, lOrV, lNotV, lNil, lCons, lTup, lLst, lCB, lBM, lSl, lPart, lNext, lIt, lRng1, lRng2, lAsg, lPar, lSetI, lSetA, lAugS, lLc, lZip, lNeg, lCall, lChain, List.getElem?_cons_zero, List.getElem?_cons_succ, List.set_cons_zero, List.set_cons_succ, wipeE, intP, intE, List.length_nil]
  refine ⟨by simp [sizeL], eqE_nilS (app_at e2 _) new_at ?_⟩
  have e4 : (h2 ++ [EO.lst []])[r2]? = some (.lst ((stpN l r i j).map stE)) := app_at e2 _
  have B4 := B2.keep (Keep.app [EO.lst []])
  have k4 : Keep (is1 b) h (h2 ++ [EO.lst []]) := (k0.trans k2.all).trans (Keep.app _)
  generalize h2 ++ [EO.lst []] = h4 at e4 B4 k4 ⊢
  have n3 : r2 ≠ b := by omega
  have hst : ∀ c ∈ stpN l r i j, isStep c := fun c hc => (stpN_iff.mp hc).1
  have hlen : (stpN l r i j).length ≤ 3 := by unfold stpN; exact Nat.le_trans (List.length_filter_le _ _) (by simp)
  generalize hcs : stpN l r i j = cs at e4 hst hlen ⊢
  cases cs with
  | nil =>
    simp only [decide_true, Bool.xor_true, Bool.not_true, Bool.false_eq_true, if_false]
    exact hkk _ _ ⟨i, j, s, _, _, _, rfl, k4, B4, sc, by omega⟩
  | cons c cs =>
    simp only [reduceCtorEq, decide_false, Bool.xor_false, if_true]
    rw [lSeq]
    generalize hK : lPar3 6 4 5 _ = K
    have fin : ∀ (c2 : Nat) (h5 : EH) (x7 x8 : Option EV), c2 ∈ c :: cs → Keep (is1 b) h h5 → BagAt h5 b → K { nx := kk, rt := Q, bk := t__law_walk_2 ad (endsOf Q), ct := kk } [some (.ref b), some (tx l), some (tx r), some (.int most), some (.int i), some (.int j), some (.str s), x7, x8, some (stE c2)] h5 := by
      intro c2 h5 x7 x8 hc2 k5 B5
      have sc2 : StepC (s ++ [c2]) := fun x hx => by
        rcases List.mem_append.mp hx with y | y
        · exact sc x y
        · rw [List.mem_singleton] at y; subst y; exact hst _ hc2
      have f := hkk _ _ ⟨mvI i c2, mvJ j c2, s ++ [c2], x7, x8, some (stE c2), rfl, k5, B5, sc2, by simp; omega⟩
      have ls : (s ++ [c2]).length ≤ sizeLine := by simp [sizeL]; omega
      rw [← hK]
      rcases hst _ hc2 with rfl | rfl | rfl <;> simp [lPar3, lSeq, lSet, lRet, lRetN, lDrop, lIfS, lOp, lVar, lC, lB, lT, lAnd, lOr, lNot, lIf, lAndV, lOrV, lNotV, lNil, lCons, lTup, lLst, lCB, lBM, lSl, lPart, lNext, lFor, lIt, lRng1, lRng2, lAsg, lPar, lSetI, lSetA, lAugS, lLc, lZip, lNeg, lCall, lChain, List.getElem?_cons_zero, List.getElem?_cons_succ, List.set_cons_zero, List.set_cons_succ, truE, wipeE, intP, intE, lBind, Pat.bind, Pat.binds, eqE, geE, gtE, leE, ltE, intP, intE, addE, subE, lenE, ixA, ixE, isN, absE, intOf, isTy, attrE, atI_n, atI_0, atI_1, atI_2, atI_3, lYes, stE, mvI, mvJ, ls, sizeL] at f ls ⊢ <;> first | exact f | exact ⟨by omega, f⟩ | skip
    rw [lSet]
    simp only [lIf, lB, lOp, lCall, lCons, lNil, lVar, lC, List.getElem?_cons_zero, List.getElem?_cons_succ, List.set_cons_zero, List.set_cons_succ]
    refine ⟨b, 2, rfl, by decide, by decide, B4, fun d h5 d0 d2 k5 B5 => eq_i ?_⟩
    have e5 := k5.other e4 n3
    simp only [Bool.false_xor, decide_eq_true_eq]
    split
    · refine ia_l e5 ((atI_0 _).trans rfl) ?_
      exact fin c _ _ _ (by simp) (k4.trans k5) B5
    · refine ⟨b, r2, _, rfl, e5, by simp, ?_, n3, B5, fun x h6 hx k6 B6 => ?_⟩
      · rw [List.length_map, sizeL]; omega
      · obtain ⟨c2, hc2, rfl⟩ := List.mem_map.mp hx
        exact fin c2 _ _ _ hc2 ((k4.trans k5).trans k6) B6
def scrX (b : Nat) (h : EH) (v : EV) : Prop := VOk b h 2 2000 v ∧ ∀ s, v = .str s → s.length ≤ 2000
end Y

namespace Y
open PySem PySem.Spec PyProof.Rows L2

theorem scrX.keepB {b : Nat} {h h' : EH} {v : EV} (z : scrX b h v) (k : Keep (is1 b) h h') : scrX b h' v := ⟨z.1.keepB k, z.2⟩
end Y

namespace Y
open PySem PySem.Spec PyProof.Rows L2

inductive Dd where
  | keep (n : Nat) | drop (n : Nat) | put (xs : List Int)
inductive Un where
  | k | d | p (x : Int)
abbrev sKeep : List Nat := [107, 101, 101, 112]
abbrev sDrop : List Nat := [100, 114, 111, 112]
abbrev sPut : List Nat := [112, 117, 116]
def Dd.e : Dd → EV
  | .keep n => .tup [.str sKeep, .int n]
  | .drop n => .tup [.str sDrop, .int n]
  | .put xs => .tup [.str sPut, tx xs]
def Un.e : Un → EV
  | .k => .tup [.str [107]]
  | .d => .tup [.str [100]]
  | .p x => .tup [.str [112], .int x]
def Dd.units : Dd → List Un
  | .keep n => List.replicate n .k
  | .drop n => List.replicate n .d
  | .put xs => xs.map .p
abbrev Delta := List Dd
def unitsD (D : Delta) : List Un := D.flatMap Dd.units
def Dd.w : Dd → Nat
  | .keep n => n
  | .drop n => n
  | .put _ => 0
def Dd.kind : Dd → Nat
  | .keep _ => 0
  | .drop _ => 1
  | .put _ => 2
def Dd.ok : Dd → Prop
  | .keep n => 1 ≤ n
  | .drop n => 1 ≤ n
  | .put xs => xs ≠ []
def LetOk (x : Int) : Prop := 0 ≤ x ∧ x ≤ 1000000000
def Proper : Delta → Prop
  | [] => True
  | [d] => d.ok
  | d :: e :: r => d.ok ∧ d.kind ≠ e.kind ∧ Proper (e :: r)
def AllOk (D : Delta) : Prop := ∀ d ∈ D, d.ok
theorem Proper.tail {d : Dd} {r : Delta} (h : Proper (d :: r)) : Proper r := by
  cases r with
  | nil => trivial
  | cons e r => exact h.2.2
theorem Proper.head {d : Dd} {r : Delta} (h : Proper (d :: r)) : d.ok := by
  cases r with
  | nil => exact h
  | cons e r => exact h.1
theorem Proper.all : ∀ {D : Delta}, Proper D → AllOk D
  | [], _ => fun d h => by cases h
  | d :: r, h => fun x hx => by
    rcases List.mem_cons.mp hx with rfl | hx
    · exact h.head
    · exact Proper.all h.tail x hx
theorem unitsD_cons (d : Dd) (D : Delta) : unitsD (d :: D) = d.units ++ unitsD D := by simp [unitsD]
def one : Un → Dd
  | .k => .keep 1
  | .d => .drop 1
  | .p x => .put [x]
def grow : Dd → Un → Option Dd
  | .keep n, .k => some (.keep (n + 1))
  | .drop n, .d => some (.drop (n + 1))
  | .put xs, .p x => some (.put (xs ++ [x]))
  | _, _ => none
def push : Delta → Un → Delta
  | [], u => [one u]
  | [d], u => match grow d u with
    | some e => [e]
    | none => [d, one u]
  | d :: e :: r, u => d :: push (e :: r) u
def packed (us : List Un) : Delta := us.foldl push []
def made : List Un → List Int → List Int
  | [], _ => []
  | .p x :: us, l => x :: made us l
  | .k :: us, a :: l => a :: made us l
  | .k :: us, [] => made us []
  | .d :: us, _ :: l => made us l
  | .d :: us, [] => made us []
def Dd.made (l : List Int) : Dd → List Int
  | .keep n => l.take n
  | .drop _ => []
  | .put xs => xs
def Dd.back (l : List Int) : Dd → Dd
  | .keep n => .keep n
  | .drop n => .put (l.take n)
  | .put xs => .drop xs.length
theorem units_pos {d : Dd} (ok : d.ok) : 1 ≤ d.units.length := by
  cases d with
  | keep n => simpa [Dd.units, Dd.ok] using ok
  | drop n => simpa [Dd.units, Dd.ok] using ok
  | put xs =>
    simp only [Dd.units, List.length_map]
    exact List.length_pos_iff.mpr ok
def LetU (us : List Un) : Prop := ∀ x, Un.p x ∈ us → LetOk x
def LetL (l : List Int) : Prop := ∀ x ∈ l, LetOk x
theorem tx_sml {n : Nat} {xs : List Int} (h : LetL xs) : Sml (n + 1) (tx xs) := by
  rw [tx, Sml]
  refine Smls.all fun v hv => ?_
  obtain ⟨x, hx, rfl⟩ := List.mem_map.mp hv
  have := h x hx
  rw [Sml]
  unfold LetOk at this
  omega
theorem tx_w (xs : List Int) : wE (tx xs) = 42 * xs.length := by
  rw [tx, wE]
  induction xs with
  | nil => rfl
  | cons x xs ih => rw [List.map_cons, wEs, ih, wE, List.length_cons]; omega
theorem deed_sml {n : Nat} {d : Dd} (ok : d.units.length ≤ 100000) (hl : LetU d.units) : Sml (n + 2) d.e := by
  cases d with
  | keep n =>
    simp only [Dd.units, List.length_replicate] at ok
    simp only [Dd.e, Sml, Smls]
    exact ⟨by simp [sKeep], by omega, trivial⟩
  | drop n =>
    simp only [Dd.units, List.length_replicate] at ok
    simp only [Dd.e, Sml, Smls]
    exact ⟨by simp [sDrop], by omega, trivial⟩
  | put xs =>
    rw [Dd.e, Sml, Smls, Smls, Smls]
    exact ⟨by rw [Sml]; simp [sPut], tx_sml fun x hx => hl x (by simp [Dd.units]; exact hx), trivial⟩
theorem deed_w {d : Dd} (ok : d.ok) : wE d.e + 1 ≤ 100 * d.units.length := by
  have := units_pos ok
  cases d with
  | keep n => simp only [Dd.e, wE, wEs, sKeep, List.length_cons, List.length_nil]; omega
  | drop n => simp only [Dd.e, wE, wEs, sDrop, List.length_cons, List.length_nil]; omega
  | put xs =>
    simp only [Dd.units, List.length_map] at this ⊢
    rw [Dd.e, wE, wEs, wEs, wEs, tx_w, wE]
    simp only [sPut, List.length_cons, List.length_nil]
    omega
theorem delta_w : ∀ {D : Delta}, AllOk D → wEs (D.map Dd.e) ≤ 100 * (unitsD D).length
  | [], _ => Nat.zero_le _
  | d :: D, h => by
    rw [List.map_cons, wEs, unitsD_cons, List.length_append]
    have := deed_w (h d List.mem_cons_self)
    have := delta_w (D := D) fun x hx => h x (List.mem_cons_of_mem _ hx)
    omega
theorem mem_units {D : Delta} {d : Dd} (h : d ∈ D) : d.units.length ≤ (unitsD D).length ∧ ∀ u ∈ d.units, u ∈ unitsD D := by
  induction D with
  | nil => cases h
  | cons e D ih =>
    rw [unitsD_cons, List.length_append]
    rcases List.mem_cons.mp h with rfl | h
    · exact ⟨by omega, fun u hu => List.mem_append_left _ hu⟩
    · have := ih h
      exact ⟨by omega, fun u hu => List.mem_append_right _ (this.2 u hu)⟩
theorem delta_ds {n : Nat} {h : EH} {D : Delta} (ok : AllOk D) (hn : (unitsD D).length ≤ 10000) (hl : LetU (unitsD D)) : DSs h (n + 2) 1000000 (D.map Dd.e) (pds (D.map Dd.e)) := by
  refine (Smls.ds (n + 2) (D.map Dd.e) (Smls.all fun v hv => ?_)).more (Nat.le_trans (delta_w ok) (by omega))
  obtain ⟨d, hd, rfl⟩ := List.mem_map.mp hv
  have := mem_units hd
  exact deed_sml (by omega) fun x hx => hl x (this.2 _ hx)
end Y

namespace Y
open PySem PySem.Spec PyProof.Rows L2

structure DlAt (h : EH) (r : Nat) (D : Delta) : Prop where
  at_ : h[r]? = some (.lst (D.map Dd.e))
  ok : AllOk D
  len : (unitsD D).length ≤ 1000
  lt : LetU (unitsD D)
theorem DlAt.keep {h h' : EH} {r : Nat} {D : Delta} (z : DlAt h r D) (k : Keep no1 h h') : DlAt h' r D := ⟨k.at z.at_, z.ok, z.len, z.lt⟩
theorem DlAt.ds {n : Nat} {h : EH} {r : Nat} {D : Delta} (z : DlAt h r D) : DS h (n + 3) 1000000 (.ref r) (.list (pds (D.map Dd.e))) := DS.lst z.at_ (delta_ds z.ok (Nat.le_trans z.len (by decide)) z.lt)
def Dd.word : Dd → List Nat
  | .keep _ => sKeep
  | .drop _ => sDrop
  | .put _ => sPut
def Dd.what : Dd → EV
  | .keep n => .int n
  | .drop n => .int n
  | .put xs => tx xs
end Y

namespace Y
open PySem PySem.Spec PyProof.Rows L2

end Y

namespace Y
open PySem PySem.Spec PyProof.Rows L2

theorem loop_on {α : Type} (f : α → EV) {g : EH → Prop} {p : Pat} {tb : LS} {D : LEnds} (xs : List α) (I : List α → List α → En → EH → Prop)
    (stop : ∀ env h, I xs [] env h → g h ∧ D.nx env h)
    (turn : ∀ a x b env h (k : En → EH → Prop), xs = a ++ x :: b → I a (x :: b) env h → (∀ env' h', I (a ++ [x]) b env' h' → k env' h') → g h ∧ lBind h p (f x) env fun env2 => tb { D with nx := k, ct := k, bk := D.nx } env2 h) :
    ∀ env h, I [] xs env h → loopE g p tb D (xs.map f) env h := by
  intro env h i0
  refine loop_ind (fun left env h => ∃ a b, xs = a ++ b ∧ left = b.map f ∧ I a b env h) ?_ ?_ _ _ _ ⟨[], xs, rfl, rfl, i0⟩
  · rintro env h ⟨a, b, e, el, i⟩
    obtain rfl : b = [] := by simpa using el.symm
    rw [List.append_nil] at e
    subst e
    exact stop env h i
  · rintro x left env h k ⟨a, b, e, el, i⟩ hk
    obtain ⟨y, b, rfl⟩ : ∃ c r, b = c :: r := by
      cases b with
      | nil => simp at el
      | cons c r => exact ⟨c, r, rfl⟩
    rw [List.map_cons, List.cons.injEq] at el
    obtain ⟨rfl, rfl⟩ := el
    exact turn a y b env h k e i fun env' h' i' => hk env' h' ⟨_, _, by rw [e]; simp, rfl, i'⟩
theorem loop_num {α : Type} (f : α → EV) {g : EH → Prop} {p : Pat} {tb : LS} {D : LEnds} (xs : List α) (I : List α → List α → En → EH → Prop)
    (stop : ∀ env h, I xs [] env h → g h ∧ D.nx env h)
    (turn : ∀ a x b env h (k : En → EH → Prop), xs = a ++ x :: b → I a (x :: b) env h → (∀ env' h', I (a ++ [x]) b env' h' → k env' h') → g h ∧ lBind h p (.tup [.int (a.length : Nat), f x]) env fun env2 => tb { D with nx := k, ct := k, bk := D.nx } env2 h) :
    ∀ env h, I [] xs env h → loopE g p tb D (numE (xs.map f) 0) env h := by
  intro env h i0
  refine loop_ind (fun left env h => ∃ a b, xs = a ++ b ∧ left = (numE (xs.map f) 0).drop a.length ∧ I a b env h) ?_ ?_ _ _ _ ⟨[], xs, rfl, rfl, i0⟩
  · rintro env h ⟨a, b, e, el, i⟩
    have hb : b = [] := by
      have := congrArg List.length el
      rw [e] at this
      simp [numE] at this
      exact List.length_eq_zero_iff.mp (by omega)
    subst hb
    rw [List.append_nil] at e
    subst e
    exact stop env h i
  · rintro x left env h k ⟨a, b, e, el, i⟩ hk
    have hal : a.length < (numE (xs.map f) 0).length := by
      have := congrArg List.length el
      simp at this; omega
    have hb : b ≠ [] := by
      rintro rfl
      rw [e] at hal
      simp [numE] at hal
    obtain ⟨y, b, rfl⟩ : ∃ c r, b = c :: r := by
      cases b with
      | nil => exact absurd rfl hb
      | cons c r => exact ⟨c, r, rfl⟩
    rw [List.drop_eq_getElem_cons hal, List.cons.injEq] at el
    obtain ⟨ex, rfl⟩ := el
    have hx : x = .tup [.int (a.length : Nat), f y] := by
      have h1 : (numE (xs.map f) 0)[a.length]? = some x := by rw [List.getElem?_eq_getElem hal, ex]
      obtain ⟨z, hz, rfl⟩ := numE_at h1
      rw [e, List.getElem?_map] at hz
      simp at hz
      rw [← hz]; simp
    subst hx
    exact turn a y b env h k e i fun env' h' i' => hk env' h' ⟨_, _, by rw [e]; simp, by simp, i'⟩
end Y

namespace Y
open PySem PySem.Spec PyProof.Rows L2

theorem Told.app {h : EH} {o : List EO} {xs : List EV} {Q : EK} (q : Told h xs Q) : Told (h ++ o) xs Q := fun r h' k hr e => q r h' ((Keep.app _).trans k) (by simp at hr; omega) e
theorem Told.keep {h h1 : EH} {xs : List EV} {Q : EK} (q : Told h xs Q) (k1 : Keep no1 h h1) : Told h1 xs Q := fun r h' k hr e => q r h' (k1.trans k) (by have := k1.1; omega) e
theorem sum_i {r : Nat} {h : EH} {P : EK} (ns : List Int) (e : h[r]? = some (.lst (ns.map EV.int))) (p : P (.int ns.sum) h) : sumE [.ref r] h P := by
  unfold sumE
  simp only [e]
  exact ⟨ns, rfl, p⟩
def putS (t : Tab) (q : Dd × List Int) : Option Int := if q.1.kind = 2 then some ((q.2.map fun x => (cost t x).2).sum) else none
end Y

namespace Y
open PySem PySem.Spec PyProof.Rows L2

def Un.word : Un → List Nat
  | .k => sKeep
  | .d => sDrop
  | .p _ => sPut
def Un.more : Un → EV
  | .p x => tx [x]
  | _ => .int 1
end Y

namespace Y
open PySem PySem.Spec PyProof.Rows L2

theorem rangeN (n : Nat) : rangeL 0 n = (List.range' 0 n).map fun (k : Nat) => EV.int k := by
  unfold rangeL
  rw [List.range_eq_range']
  refine List.map_congr_left fun k _ => ?_
  rw [Int.zero_add]
theorem loopN {g : EH → Prop} {p : Pat} {tb : LS} {D : LEnds} (n : Nat) (I : Nat → En → EH → Prop)
    (stop : ∀ env h, I n env h → g h ∧ D.nx env h)
    (turn : ∀ i env h (k : En → EH → Prop), i < n → I i env h → (∀ env' h', I (i + 1) env' h' → k env' h') → g h ∧ lBind h p (.int (i : Nat)) env fun env2 => tb { D with nx := k, ct := k, bk := D.nx } env2 h) :
    ∀ env h, I 0 env h → loopE g p tb D (rangeL 0 n) env h := by
  intro env h i0
  rw [rangeN]
  refine loop_ind (fun left env h => ∃ i : Nat, i ≤ n ∧ left = (List.range' i (n - i)).map (fun (k : Nat) => EV.int k) ∧ I i env h) ?_ ?_ _ _ _ ⟨0, Nat.zero_le _, rfl, i0⟩
  · rintro env h ⟨i, hi, el, z⟩
    have : i = n := by
      have := congrArg List.length el
      simp at this
      omega
    subst this
    exact stop env h z
  · rintro x left env h k ⟨i, hi, el, z⟩ hk
    have hi2 : i < n := by
      have := congrArg List.length el
      simp at this
      omega
    rw [show n - i = (n - i - 1) + 1 by omega, List.range'_succ, List.map_cons, List.cons.injEq] at el
    obtain ⟨rfl, rfl⟩ := el
    exact turn i env h k hi2 z fun env' h' z' => hk env' h' ⟨i + 1, hi2, by rw [show n - (i + 1) = n - i - 1 by omega], z'⟩
def Un.w : Un → Nat
  | .p _ => 0
  | _ => 1
end Y

namespace Y
open PySem PySem.Spec PyProof.Rows L2

end Y

namespace Y
open PySem PySem.Spec PyProof.Rows L2

end Y

namespace Y
open PySem PySem.Spec PyProof.Rows L2

theorem PrAt.keepD {ad : Ad} {h h' : EH} {r b : Nat} {l : Tab} (p : PrAt ad h r l) (B : BagAt h b) (k : Keep (is1 b) h h') : PrAt ad h' r l := by
  obtain ⟨d, e1, e2⟩ := p
  exact ⟨d, k.other e1 (bag_ne B e1 (fun _ z => by cases z)), k.tab B e2⟩
theorem pair_ds {h : EH} {n k : Nat} {v : EV} {d : PyData} {s : List Nat} (hs : ∀ c ∈ s, c < 16 ^ 8) (hv : DS h n k v d) : DS h (n + 1) (s.length + 1 + (k + 1 + 0)) (.tup [.str s, v]) (.tuple [.str (S s), d]) :=
  DS.tup (DSs.cons (DS.str hs (Nat.le_refl _)) (DSs.cons hv DSs.nil))
end Y

namespace Y
open PySem PySem.Spec PyProof.Rows L2

end Y

namespace Y
open PySem PySem.Spec PyProof.Rows L2

end Y

namespace Y
open PySem PySem.Spec PyProof.Rows L2

end Y

namespace Y
open PySem PySem.Spec PyProof.Rows L2

end Y

namespace Y
open PySem PySem.Spec PyProof.Rows L2

def isD : Un → Bool
  | .d => true
  | _ => false
def mk (us : List Un) : Nat := (us.filter fun u => !isD u).length
theorem Keep.into {h hS h' : EH} {F : Nat} (k1 : Keep no1 h hS) (hF : h.length ≤ F) (k2 : Keep (is1 F) hS h') : Keep no1 h h' := ⟨Nat.le_trans k1.1 k2.1, fun r o e _ => k2.2 r o (k1.at e) (by
  have := lt_of_at e
  simp [is1]
  omega)⟩
end Y

namespace Y
open PySem PySem.Spec PyProof.Rows L2

end Y

namespace Y
open PySem PySem.Spec PyProof.Rows L2

def Parts (h : EH) : List Nat → List (List Un) → Prop
  | [], [] => True
  | q :: bs, p :: ps => h[q]? = some (.lst (p.map Un.e)) ∧ Parts h bs ps
  | _, _ => False
theorem Parts.len {h : EH} : ∀ {bs : List Nat} {ps : List (List Un)}, Parts h bs ps → bs.length = ps.length
  | [], [], _ => rfl
  | _ :: _, _ :: _, z => by simp [Parts.len z.2]
  | [], _ :: _, z => z.elim
  | _ :: _, [], z => z.elim
theorem Parts.split {h : EH} {p : List Un} : ∀ {bs : List Nat} {ps : List (List Un)}, Parts h bs (ps ++ [p]) → ∃ bs' q, bs = bs' ++ [q] ∧ Parts h bs' ps ∧ h[q]? = some (.lst (p.map Un.e))
  | [], [], z => z.elim
  | [q], [], z => ⟨[], q, rfl, trivial, z.1⟩
  | q :: r :: bs, [], z => z.2.elim
  | [], _ :: _, z => z.elim
  | q :: bs, p0 :: ps, z => by
    obtain ⟨bs', r, e, a, b⟩ := Parts.split z.2
    exact ⟨q :: bs', r, by rw [e]; rfl, ⟨z.1, a⟩, b⟩
theorem Parts.other {h h' : EH} : ∀ {bs : List Nat} {ps : List (List Un)}, Parts h bs ps → (∀ q ∈ bs, ∀ o, h[q]? = some o → h'[q]? = some o) → Parts h' bs ps
  | [], [], _, _ => trivial
  | q :: _, _ :: _, z, k => ⟨k q List.mem_cons_self _ z.1, Parts.other z.2 fun r hr => k r (List.mem_cons_of_mem _ hr)⟩
  | [], _ :: _, z, _ => z.elim
  | _ :: _, [], z, _ => z.elim
theorem Parts.keep {h h' : EH} {bs : List Nat} {ps : List (List Un)} (z : Parts h bs ps) (k : Keep no1 h h') : Parts h' bs ps := z.other fun _ _ _ e => k.at e
end Y

namespace Y
open PySem PySem.Spec PyProof.Rows L2

theorem Parts.lt {h : EH} : ∀ {bs : List Nat} {ps : List (List Un)}, Parts h bs ps → ∀ x ∈ bs, x < h.length
  | [], [], _, x, hx => by cases hx
  | q :: bs, p :: ps, z, x, hx => by
    rcases List.mem_cons.mp hx with rfl | hx
    · exact lt_of_at z.1
    · exact Parts.lt z.2 x hx
  | [], _ :: _, z, _, _ => z.elim
  | _ :: _, [], z, _, _ => z.elim
end Y

namespace Y
open PySem PySem.Spec PyProof.Rows L2

end Y

namespace Y
open PySem PySem.Spec PyProof.Rows L2

end Y

namespace Y
open PySem PySem.Spec PyProof.Rows L2

end Y

namespace Y
open PySem PySem.Spec PyProof.Rows L2

theorem RowsAt.get {h : EH} {b t r n m x y : Nat} {R : Tbl} {P : EK} (z : RowsAt h b t r n m R) (hx : x ≤ n) (hy : y ≤ m) (p : P (optE (R x y)) h) : ixA (.ref r) (.int x) h fun v h1 => ixA v (.int y) h1 P := by
  obtain ⟨q, xs, e, a, _, _, _, er⟩ := z.row hx
  exact ia_l e ((atI_n _ _).trans a) (ia_l er ((atI_n _ _).trans (rowE_at hy)) p)
def tbB (w : Wd) (a b : Nat) : Tbl := fun i j => if w.n - i < a ∨ (w.n - i = a ∧ w.m - j < b) then w.rest i j else none
def X1 (w : Wd) (i j : Nat) : List Int := if i = w.n ∧ j = w.m then [0] else []
def X2 (w : Wd) (i j : Nat) : List Int := if i < w.n ∧ j < w.m ∧ w.g.same i j = true then (w.rest (i + 1) (j + 1)).toList else []
def X3 (w : Wd) (i j : Nat) : List Int := if i < w.n then (oadd (w.rest (i + 1) j) (w.g.drop i)).toList else []
def X4 (w : Wd) (i j : Nat) : List Int := if j < w.m then (oadd (w.rest i (j + 1)) (w.g.put j)).toList else []
theorem lenO (o : Option Int) : o.toList.length ≤ 1 := by cases o <;> simp
theorem Xs_cell (w : Wd) (i j : Nat) : (w.g.cellR w.n w.m i j).filterMap id = X1 w i j ++ X2 w i j ++ X3 w i j ++ X4 w i j := by
  unfold GridOf.cellR
  rw [List.filterMap_append, List.filterMap_append, List.filterMap_append]
  congr 1
  · congr 1
    · congr 1
      · unfold X1
        split <;> rfl
      · unfold X2
        split
        · simp only [Wd.rest]
          cases w.g.rest w.n w.m (i + 1) (j + 1) <;> rfl
        · rfl
    · unfold X3
      simp only [Wd.rest]
      by_cases a : i < w.n
      · rw [if_pos a]
        cases h : w.g.rest w.n w.m (i + 1) j <;> simp [oadd, a]
      · rw [if_neg a, if_neg (fun z => a z.1)]; rfl
  · unfold X4
    simp only [Wd.rest]
    by_cases a : j < w.m
    · rw [if_pos a]
      cases h : w.g.rest w.n w.m i (j + 1) <;> simp [oadd, a]
    · rw [if_neg a, if_neg (fun z => a z.1)]; rfl
def sp__law_behind (ad : Ad) : LSp := fun evs h Q => ∃ (w : Wd) (t : Nat) (L : Int), evs = [tx w.l, tx w.r, .ref t, .int L] ∧ h[t]? = some (.dic (tabKV w.c)) ∧ w.n ≤ 1000 ∧ w.m ≤ 1000 ∧ LagIs w L ∧ ToldRows h w.n w.m w.rest Q
abbrev N__law_behind : List Str := ["_law_left", "_law_right", "_law_table", "_law_lag_here", "_law_rows", "_law_a", "_law_b", "_law_i", "_law_j", "_law_some"]
def t__law_behind (ad : Ad) : LS :=
    lSeq (lSet (lLc (lRng1 (lCons (lOp addE (lCB lenE (lCons (lVar 0) (lNil))) (lC (.int 1))) (lNil))) (.nm 7) (lYes) (lOp mulE (lLst (lCons (lC .non) (lNil))) (lOp addE (lCB lenE (lCons (lVar 1) (lNil))) (lC (.int 1)))) [7]) 4) <|
    lSeq (lFor (lRng1 (lCons (lOp addE (lCB lenE (lCons (lVar 0) (lNil))) (lC (.int 1))) (lNil))) (.nm 5)
      (lFor (lRng1 (lCons (lOp addE (lCB lenE (lCons (lVar 1) (lNil))) (lC (.int 1))) (lNil))) (.nm 6)
      (lSeq (lPar 7 8 (lCons (lOp subE (lCB lenE (lCons (lVar 0) (lNil))) (lVar 5)) (lCons (lOp subE (lCB lenE (lCons (lVar 1) (lNil))) (lVar 6)) (lNil)))) <|
    lSeq (lSet (lOp mulE (lLst (lCons (lC (.int 0)) (lNil))) (lCB intOf (lCons (lAndV (lOp (eqE false) (lVar 5) (lC (.int 0))) (lOp (eqE false) (lVar 6) (lC (.int 0)))) (lNil)))) 9) <|
    lSeq (lIfS (lAnd (lB (lOp gtE (lVar 5) (lC (.int 0)))) (lAnd (lB (lOp gtE (lVar 6) (lC (.int 0)))) (lAnd (lB (lOp (eqE false) (lOp ixA (lVar 0) (lVar 7)) (lOp ixA (lVar 1) (lVar 8)))) (lB (lOp (isN true) (lOp ixA (lOp ixA (lVar 4) (lOp addE (lVar 7) (lC (.int 1)))) (lOp addE (lVar 8) (lC (.int 1)))) (lC .non))))))
      (lDrop (lBM "list" appendE (lVar 9) (lCons (lOp ixA (lOp ixA (lVar 4) (lOp addE (lVar 7) (lC (.int 1)))) (lOp addE (lVar 8) (lC (.int 1)))) (lNil))))
      (lNext)) <|
    lSeq (lIfS (lAnd (lB (lOp gtE (lVar 5) (lC (.int 0)))) (lB (lOp (isN true) (lOp ixA (lOp ixA (lVar 4) (lOp addE (lVar 7) (lC (.int 1)))) (lVar 8)) (lC .non))))
      (lDrop (lBM "list" appendE (lVar 9) (lCons (lOp addE (lOp ixA (lOp ixA (lVar 4) (lOp addE (lVar 7) (lC (.int 1)))) (lVar 8)) (lOp ixA (lCall (sp__law_costs ad) (lCons (lVar 2) (lCons (lOp ixA (lVar 0) (lVar 7)) (lNil)))) (lC (.int 0)))) (lNil))))
      (lNext)) <|
    lSeq (lIfS (lAnd (lB (lOp gtE (lVar 6) (lC (.int 0)))) (lB (lOp (isN true) (lOp ixA (lOp ixA (lVar 4) (lVar 7)) (lOp addE (lVar 8) (lC (.int 1)))) (lC .non))))
      (lDrop (lBM "list" appendE (lVar 9) (lCons (lOp addE (lOp ixA (lOp ixA (lVar 4) (lVar 7)) (lOp addE (lVar 8) (lC (.int 1)))) (lOp ixA (lCall (sp__law_costs ad) (lCons (lVar 2) (lCons (lOp ixA (lVar 1) (lVar 8)) (lNil)))) (lC (.int 1)))) (lNil))))
      (lNext)) <|
    lIfS (lAnd (lB (lOp (eqE true) (lVar 9) (lLst (lNil)))) (lB (lOp leE (lCB absE (lCons (lOp subE (lVar 7) (lVar 8)) (lNil))) (lVar 3))))
      (lSetA (lOp ixA (lVar 4) (lVar 7)) (lVar 8) (lCB minE (lCons (lVar 9) (lNil))))
      (lNext)))) <|
    lRet (lVar 4)
theorem len__law_behind (ad : Ad) (evs : List EV) (h : EH) (Q : EK) (q : sp__law_behind ad evs h Q) : evs.length = ["_law_left", "_law_right", "_law_table", "_law_lag_here"].length := by
  obtain ⟨_, _, _, rfl, _⟩ := q; rfl
theorem pure__law_behind (ad : Ad) (evs : List EV) (h : EH) (Q : EK) (q : sp__law_behind ad evs h Q) : t__law_behind ad (endsOf Q) (startE N__law_behind evs) h := by
  obtain ⟨w, t, L, rfl, et, hn, hm, hL, q⟩ := q
  have wn : w.n = w.l.length := rfl
  have wm : w.m = w.r.length := rfl
  show t__law_behind ad (endsOf Q) [some (tx w.l), some (tx w.r), some (.ref t), some (.int L), none, none, none, none, none, none] h
  have sz : sizeLine = 16777216 := by decide
  unfold t__law_behind
  rw [lSeq, lSet]
  simp only [lSet, lRet, lRetN, lDrop, lOp, lVar, lC, lB, lT, lAnd, lOr, lNot, lIf, lAndV, lOrV, lNotV, lNil, lCons, lTup, lLst, lCB, lBM, lSl, lPart, lNext, lIt, lRng1, lRng2, lAsg, lPar, lSetI, lSetA, lAugS, lLc, lZip, lNeg, lCall, lChain, List.getElem?_cons_zero, List.getElem?_cons_succ, List.set_cons_zero, List.set_cons_succ, wipeE, intP, intE, tx, lenE, addE, List.length_map]
  refine ⟨⟨by omega, by omega⟩, ?_⟩
  rw [show ((w.l.length : Int) + 1).toNat = w.l.length + 1 by omega]
  refine rows_none (n := w.l.length) (m := w.r.length) (by omega) (by omega) rfl (fun v h1 P1 q1 => by simpa [lSeq, lSet, lRet, lRetN, lDrop, lIfS, lOp, lVar, lC, lB, lT, lAnd, lOr, lNot, lIf, lAndV, lOrV, lNotV, lNil, lCons, lTup, lLst, lCB, lBM, lSl, lPart, lNext, lFor, lIt, lRng1, lRng2, lAsg, lPar, lSetI, lSetA, lAugS, lLc, lZip, lNeg, lCall, lChain, List.getElem?_cons_zero, List.getElem?_cons_succ, List.set_cons_zero, List.set_cons_succ, truE, wipeE, intP, intE, lBind, Pat.bind, Pat.binds, eqE, geE, gtE, leE, ltE, intP, intE, addE, subE, lenE, ixA, ixE, isN, absE, intOf, isTy, attrE, atI_n, atI_0, atI_1, atI_2, atI_3, lYes] using q1) fun r h1 k1 t1 => ?_
  try dsimp only
  rw [lSeq, lFor]
  simp only [lSet, lRet, lRetN, lDrop, lOp, lVar, lC, lB, lT, lAnd, lOr, lNot, lIf, lAndV, lOrV, lNotV, lNil, lCons, lTup, lLst, lCB, lBM, lSl, lPart, lNext, lIt, lRng1, lRng2, lAsg, lPar, lSetI, lSetA, lAugS, lLc, lZip, lNeg, lCall, lChain, List.getElem?_cons_zero, List.getElem?_cons_succ, List.set_cons_zero, List.set_cons_succ, wipeE, intP, intE, tx, lenE, addE, List.length_map]
  refine ⟨⟨by omega, by omega⟩, ?_⟩
  rw [show ((w.l.length : Int) + 1).toNat = w.l.length + 1 by omega]
  refine loopN (w.l.length + 1) (fun a env h' => ∃ x5 x6 x7 x8 x9 : Option EV, env = [some (tx w.l), some (tx w.r), some (.ref t), some (.int L), some (.ref r), x5, x6, x7, x8, x9] ∧ Keep no1 h h' ∧ h1.length ≤ h'.length ∧ RowsAt h' h.length h1.length r w.n w.m (tbB w a 0)) ?_ ?_ _ _ ⟨_, _, _, _, _, rfl, k1, Nat.le_refl _, t1.congr fun i j hi hj => by
    unfold tbB
    rw [if_neg (by omega)]⟩
  · rintro env h' ⟨x5, x6, x7, x8, x9, rfl, k, lh, z⟩
    refine ⟨trivial, ?_⟩
    simp only [lSet, lRet, lRetN, lDrop, lOp, lVar, lC, lB, lT, lAnd, lOr, lNot, lIf, lAndV, lOrV, lNotV, lNil, lCons, lTup, lLst, lCB, lBM, lSl, lPart, lNext, lIt, lRng1, lRng2, lAsg, lPar, lSetI, lSetA, lAugS, lLc, lZip, lNeg, lCall, lChain, List.getElem?_cons_zero, List.getElem?_cons_succ, List.set_cons_zero, List.set_cons_succ, wipeE, intP, intE]
    refine q _ _ k ((z.congr fun i j hi hj => ?_).more lh)
    unfold tbB
    rw [if_pos (by omega)]
  rintro a env h2 kk ha ⟨x5, x6, x7, x8, x9, rfl, k2, lh2, z2⟩ hk
  refine ⟨trivial, bind_nm ?_⟩
  simp only [List.set_cons_zero, List.set_cons_succ]
  rw [lFor]
  simp only [lSet, lRet, lRetN, lDrop, lOp, lVar, lC, lB, lT, lAnd, lOr, lNot, lIf, lAndV, lOrV, lNotV, lNil, lCons, lTup, lLst, lCB, lBM, lSl, lPart, lNext, lIt, lRng1, lRng2, lAsg, lPar, lSetI, lSetA, lAugS, lLc, lZip, lNeg, lCall, lChain, List.getElem?_cons_zero, List.getElem?_cons_succ, List.set_cons_zero, List.set_cons_succ, wipeE, intP, intE, tx, lenE, addE, List.length_map]
  refine ⟨⟨by omega, by omega⟩, ?_⟩
  rw [show ((w.r.length : Int) + 1).toNat = w.r.length + 1 by omega]
  refine loopN (w.r.length + 1) (fun b env h' => ∃ x6 x7 x8 x9 : Option EV, env = [some (tx w.l), some (tx w.r), some (.ref t), some (.int L), some (.ref r), some (.int (a : Nat)), x6, x7, x8, x9] ∧ Keep no1 h h' ∧ h1.length ≤ h'.length ∧ RowsAt h' h.length h1.length r w.n w.m (tbB w a b)) ?_ ?_ _ _ ⟨_, _, _, _, rfl, k2, lh2, z2⟩
  · rintro env h' ⟨x6, x7, x8, x9, rfl, k, lh, z⟩
    refine ⟨trivial, hk _ _ ⟨_, _, _, _, _, rfl, k, lh, z.congr fun i j hi hj => ?_⟩⟩
    unfold tbB
    have : (w.n - i < a ∨ (w.n - i = a ∧ w.m - j < w.r.length + 1)) ↔ (w.n - i < a + 1 ∨ (w.n - i = a + 1 ∧ w.m - j < 0)) := by omega
    simp only [this]
  rintro b env h6 kk2 hb ⟨x6, x7, x8, x9, rfl, k6, lh6, z6⟩ hkk2
  refine ⟨trivial, bind_nm ?_⟩
  simp only [List.set_cons_zero, List.set_cons_succ]
  obtain ⟨i, hi⟩ : ∃ i : Nat, i + a = w.l.length := ⟨w.l.length - a, by omega⟩
  obtain ⟨j, hj⟩ : ∃ j : Nat, j + b = w.r.length := ⟨w.r.length - b, by omega⟩
  rw [lSeq, lPar]
  simp only [lSet, lRet, lRetN, lDrop, lOp, lVar, lC, lB, lT, lAnd, lOr, lNot, lIf, lAndV, lOrV, lNotV, lNil, lCons, lTup, lLst, lCB, lBM, lSl, lPart, lNext, lIt, lRng1, lRng2, lAsg, lPar, lSetI, lSetA, lAugS, lLc, lZip, lNeg, lCall, lChain, List.getElem?_cons_zero, List.getElem?_cons_succ, List.set_cons_zero, List.set_cons_succ, wipeE, intP, intE, tx, lenE, subE, intP, List.length_map]
  rw [show (w.l.length : Int) - (a : Int) = (i : Int) by omega, show (w.r.length : Int) - (b : Int) = (j : Int) by omega]
  have hi2 : i ≤ w.n := by omega
  have hj2 : j ≤ w.m := by omega
  have c1 : ∀ a : Nat, ((a : Int) + 1) = ((a + 1 : Nat) : Int) := fun a => by omega
  have g0 : ∀ x y, x ≤ w.n → y ≤ w.m → (w.n - x < a ∨ (w.n - x = a ∧ w.m - y < b)) → tbB w a b x y = w.rest x y := fun x y _ _ hc => by
    unfold tbB
    rw [if_pos hc]
  -- [0] * int(..)
  try dsimp only
  rw [lSeq, lSet]
  simp only [lOp, lLst, lCons, lNil, lC, List.length_singleton]
  refine ⟨by rw [sizeL]; decide, ?_⟩
  have hz : ∀ (h7 : EH) (P : EK), P (.int (if i = w.n ∧ j = w.m then 1 else 0)) h7 → lCB intOf (lCons (lAndV (fun env h P => lVar 5 env h fun x h1 => (fun _ h P => P (.int 0) h) env h1 fun y h2 => eqE false x y h2 P) (fun env h P => lVar 6 env h fun x h1 => (fun _ h P => P (.int 0) h) env h1 fun y h2 => eqE false x y h2 P)) (fun _ h P => P [] h)) [some (.tup (w.l.map EV.int)), some (.tup (w.r.map EV.int)), some (.ref t), some (.int L), some (.ref r), some (.int (a : Nat)), some (.int (b : Nat)), some (.int (i : Nat)), some (.int (j : Nat)), x9] h7 P := by
    intro h7 P hP
    by_cases hi0 : a = 0
    · by_cases hj0 : b = 0
      · rw [if_pos ⟨by omega, by omega⟩] at hP
        simp [lSeq, lSet, lRet, lRetN, lDrop, lIfS, lOp, lVar, lC, lB, lT, lAnd, lOr, lNot, lIf, lAndV, lOrV, lNotV, lNil, lCons, lTup, lLst, lCB, lBM, lSl, lPart, lNext, lFor, lIt, lRng1, lRng2, lAsg, lPar, lSetI, lSetA, lAugS, lLc, lZip, lNeg, lCall, lChain, List.getElem?_cons_zero, List.getElem?_cons_succ, List.set_cons_zero, List.set_cons_succ, truE, wipeE, intP, intE, lBind, Pat.bind, Pat.binds, eqE, geE, gtE, leE, ltE, intP, intE, addE, subE, lenE, ixA, ixE, isN, absE, intOf, isTy, attrE, atI_n, atI_0, atI_1, atI_2, atI_3, lYes, hi0, hj0] at hP ⊢; exact hP
      · rw [if_neg (by omega)] at hP
        simp [lSeq, lSet, lRet, lRetN, lDrop, lIfS, lOp, lVar, lC, lB, lT, lAnd, lOr, lNot, lIf, lAndV, lOrV, lNotV, lNil, lCons, lTup, lLst, lCB, lBM, lSl, lPart, lNext, lFor, lIt, lRng1, lRng2, lAsg, lPar, lSetI, lSetA, lAugS, lLc, lZip, lNeg, lCall, lChain, List.getElem?_cons_zero, List.getElem?_cons_succ, List.set_cons_zero, List.set_cons_succ, truE, wipeE, intP, intE, lBind, Pat.bind, Pat.binds, eqE, geE, gtE, leE, ltE, intP, intE, addE, subE, lenE, ixA, ixE, isN, absE, intOf, isTy, attrE, atI_n, atI_0, atI_1, atI_2, atI_3, lYes, hi0, hj0] at hP ⊢; exact hP
    · rw [if_neg (by omega)] at hP
      simp [lSeq, lSet, lRet, lRetN, lDrop, lIfS, lOp, lVar, lC, lB, lT, lAnd, lOr, lNot, lIf, lAndV, lOrV, lNotV, lNil, lCons, lTup, lLst, lCB, lBM, lSl, lPart, lNext, lFor, lIt, lRng1, lRng2, lAsg, lPar, lSetI, lSetA, lAugS, lLc, lZip, lNeg, lCall, lChain, List.getElem?_cons_zero, List.getElem?_cons_succ, List.set_cons_zero, List.set_cons_succ, truE, wipeE, intP, intE, lBind, Pat.bind, Pat.binds, eqE, geE, gtE, leE, ltE, intP, intE, addE, subE, lenE, ixA, ixE, isN, absE, intOf, isTy, attrE, atI_n, atI_0, atI_1, atI_2, atI_3, lYes, hi0] at hP ⊢; exact hP
  refine hz _ _ ?_
  clear hz
  simp only [mulE, new_at]
  refine ⟨⟨by split <;> omega, by split <;> omega, by rw [sizeL]; split <;> simp⟩, ?_⟩
  have ea : repN (if i = w.n ∧ j = w.m then 1 else 0) [EV.int 0] = (X1 w i j).map EV.int := by
    unfold X1
    split
    · rw [rep1]; rfl
    · rw [rep0]; rfl
  rw [ea]
  have e1 : (h6 ++ [EO.lst [.int 0]] ++ [EO.lst ((X1 w i j).map EV.int)])[(h6 ++ [EO.lst [.int 0]]).length]? = some (.lst ((X1 w i j).map EV.int)) := new_at
  have k1 : Keep no1 h6 (h6 ++ [EO.lst [.int 0]] ++ [EO.lst ((X1 w i j).map EV.int)]) := (Keep.app _).trans (Keep.app _)
  have z1 : (X1 w i j).length ≤ 1 := by unfold X1; split <;> simp
  have hs1 : (h6 ++ [EO.lst [EV.int 0]]).length = h6.length + 1 := by simp
  rw [hs1] at e1 ⊢
  generalize h6 ++ [EO.lst [.int 0]] ++ [EO.lst ((X1 w i j).map EV.int)] = h7 at e1 k1 ⊢
  try dsimp only
  simp only [List.set_cons_zero, List.set_cons_succ]
  have la : i < w.l.length → atI (w.l.map EV.int) (i : Int) = some (.int (w.l.getD i 0)) := fun ha => tx_at ha
  have ra : j < w.r.length → atI (w.r.map EV.int) (j : Int) = some (.int (w.r.getD j 0)) := fun ha => tx_at ha
  have ga : decide ((0 : Int) < (a : Int)) = decide (i < w.n) := decide_eq_decide.mpr (by omega)
  have gb : decide ((0 : Int) < (b : Int)) = decide (j < w.m) := decide_eq_decide.mpr (by omega)
  -- both letters
  rw [lSeq]
  refine if_app (decide (i < w.n) && (decide (j < w.m) && (w.g.same i j && (w.rest (i + 1) (j + 1)).isSome))) (optE (w.rest (i + 1) (j + 1))) (fun P hP => ?_) (fun hb P hP => ?_) rfl e1 (by rw [List.length_map]; omega) ?_
  · by_cases hi0 : i < w.n
    · by_cases hj0 : j < w.m
      · simp only [lSeq, lSet, lRet, lRetN, lDrop, lIfS, lOp, lVar, lC, lB, lT, lAnd, lOr, lNot, lIf, lAndV, lOrV, lNotV, lNil, lCons, lTup, lLst, lCB, lBM, lSl, lPart, lNext, lFor, lIt, lRng1, lRng2, lAsg, lPar, lSetI, lSetA, lAugS, lLc, lZip, lNeg, lCall, lChain, List.getElem?_cons_zero, List.getElem?_cons_succ, List.set_cons_zero, List.set_cons_succ, truE, wipeE, intP, intE, gtE, addE, ga, gb, hi0, hj0, decide_true, if_true, c1]
        refine ia_t (la hi0) (ia_t (ra hj0) (eq_i ?_))
        by_cases hs : w.l.getD i 0 = w.r.getD j 0
        · have hsm : w.g.same i j = true := decide_eq_true hs
          simp only [hs, decide_true, Bool.false_xor, if_true]
          refine (z6.keep k1).get (x := i + 1) (y := j + 1) (by omega) (by omega) ?_
          rw [g0 _ _ (by omega) (by omega) (by omega)]
          cases hv : w.rest (i + 1) (j + 1) <;> simp [hv, isN, optE, hi0, hj0, hsm] at hP ⊢ <;> exact hP
        · have hsm : w.g.same i j = false := decide_eq_false hs
          simp only [hs, decide_false, Bool.false_xor, Bool.false_eq_true, if_false]
          simpa [hi0, hj0, hsm] using hP
      · simp only [lSeq, lSet, lRet, lRetN, lDrop, lIfS, lOp, lVar, lC, lB, lT, lAnd, lOr, lNot, lIf, lAndV, lOrV, lNotV, lNil, lCons, lTup, lLst, lCB, lBM, lSl, lPart, lNext, lFor, lIt, lRng1, lRng2, lAsg, lPar, lSetI, lSetA, lAugS, lLc, lZip, lNeg, lCall, lChain, List.getElem?_cons_zero, List.getElem?_cons_succ, List.set_cons_zero, List.set_cons_succ, truE, wipeE, intP, intE, gtE, ga, gb, hi0, hj0, decide_true, decide_false, if_true, Bool.false_eq_true, if_false]
        simpa [hj0] using hP
    · simp only [lSeq, lSet, lRet, lRetN, lDrop, lIfS, lOp, lVar, lC, lB, lT, lAnd, lOr, lNot, lIf, lAndV, lOrV, lNotV, lNil, lCons, lTup, lLst, lCB, lBM, lSl, lPart, lNext, lFor, lIt, lRng1, lRng2, lAsg, lPar, lSetI, lSetA, lAugS, lLc, lZip, lNeg, lCall, lChain, List.getElem?_cons_zero, List.getElem?_cons_succ, List.set_cons_zero, List.set_cons_succ, truE, wipeE, intP, intE, gtE, ga, hi0, decide_false, Bool.false_eq_true, if_false]
      simpa [hi0] using hP
  · simp only [Bool.and_eq_true, decide_eq_true_eq] at hb
    simp only [lSeq, lSet, lRet, lRetN, lDrop, lIfS, lOp, lVar, lC, lB, lT, lAnd, lOr, lNot, lIf, lAndV, lOrV, lNotV, lNil, lCons, lTup, lLst, lCB, lBM, lSl, lPart, lNext, lFor, lIt, lRng1, lRng2, lAsg, lPar, lSetI, lSetA, lAugS, lLc, lZip, lNeg, lCall, lChain, List.getElem?_cons_zero, List.getElem?_cons_succ, List.set_cons_zero, List.set_cons_succ, truE, wipeE, intP, intE, addE, c1]
    refine (z6.keep k1).get (x := i + 1) (y := j + 1) (by omega) (by omega) ?_
    rw [g0 _ _ (by omega) (by omega) (by omega)]
    exact hP
  have ea2 : ((X1 w i j).map EV.int ++ if (decide (i < w.n) && (decide (j < w.m) && (w.g.same i j && (w.rest (i + 1) (j + 1)).isSome))) = true then [optE (w.rest (i + 1) (j + 1))] else []) = (X1 w i j ++ X2 w i j).map EV.int := by
    rw [List.map_append]
    congr 1
    unfold X2
    simp only [Bool.and_eq_true, decide_eq_true_eq]
    by_cases hc : i < w.n ∧ j < w.m ∧ w.g.same i j = true
    · rw [if_pos hc]
      cases hv : w.rest (i + 1) (j + 1) <;> simp [hc, optE]
    · rw [if_neg hc, if_neg (fun z => hc ⟨z.1, z.2.1, z.2.2.1⟩)]
      rfl
  rw [ea2]
  have e2 := set_at (o := EO.lst ((X1 w i j ++ X2 w i j).map EV.int)) e1
  have k2 : Keep no1 h6 (h7.set (h6.length + 1) (.lst ((X1 w i j ++ X2 w i j).map EV.int))) := k1.fresh (by omega)
  have z2 : (X1 w i j ++ X2 w i j).length ≤ 2 := by
    rw [List.length_append]
    have : (X2 w i j).length ≤ 1 := by unfold X2; split; exact lenO _; simp
    omega
  generalize h7.set (h6.length + 1) (.lst ((X1 w i j ++ X2 w i j).map EV.int)) = h8 at e2 k2 ⊢
  clear e1 k1 ea2
  try dsimp only
  -- down
  rw [lSeq]
  refine if_app (decide (i < w.n) && (w.rest (i + 1) j).isSome) (optE (oadd (w.rest (i + 1) j) (w.g.drop i))) (fun P hP => ?_) (fun hb P hP => ?_) rfl e2 (by rw [List.length_map]; omega) ?_
  · by_cases hi0 : i < w.n
    · simp only [lSeq, lSet, lRet, lRetN, lDrop, lIfS, lOp, lVar, lC, lB, lT, lAnd, lOr, lNot, lIf, lAndV, lOrV, lNotV, lNil, lCons, lTup, lLst, lCB, lBM, lSl, lPart, lNext, lFor, lIt, lRng1, lRng2, lAsg, lPar, lSetI, lSetA, lAugS, lLc, lZip, lNeg, lCall, lChain, List.getElem?_cons_zero, List.getElem?_cons_succ, List.set_cons_zero, List.set_cons_succ, truE, wipeE, intP, intE, gtE, addE, ga, hi0, decide_true, if_true, c1]
      refine (z6.keep k2).get (x := i + 1) (y := j) (by omega) (by omega) ?_
      rw [g0 _ _ (by omega) (by omega) (by omega)]
      cases hv : w.rest (i + 1) j <;> simp [hv, isN, optE, hi0] at hP ⊢ <;> exact hP
    · simp only [lSeq, lSet, lRet, lRetN, lDrop, lIfS, lOp, lVar, lC, lB, lT, lAnd, lOr, lNot, lIf, lAndV, lOrV, lNotV, lNil, lCons, lTup, lLst, lCB, lBM, lSl, lPart, lNext, lFor, lIt, lRng1, lRng2, lAsg, lPar, lSetI, lSetA, lAugS, lLc, lZip, lNeg, lCall, lChain, List.getElem?_cons_zero, List.getElem?_cons_succ, List.set_cons_zero, List.set_cons_succ, truE, wipeE, intP, intE, gtE, ga, hi0, decide_false, Bool.false_eq_true, if_false]
      simpa [hi0] using hP
  · simp only [Bool.and_eq_true, decide_eq_true_eq] at hb
    simp only [lSeq, lSet, lRet, lRetN, lDrop, lIfS, lOp, lVar, lC, lB, lT, lAnd, lOr, lNot, lIf, lAndV, lOrV, lNotV, lNil, lCons, lTup, lLst, lCB, lBM, lSl, lPart, lNext, lFor, lIt, lRng1, lRng2, lAsg, lPar, lSetI, lSetA, lAugS, lLc, lZip, lNeg, lCall, lChain, List.getElem?_cons_zero, List.getElem?_cons_succ, List.set_cons_zero, List.set_cons_succ, truE, wipeE, intP, intE, addE, c1]
    refine (z6.keep k2).get (x := i + 1) (y := j) (by omega) (by omega) ?_
    rw [g0 _ _ (by omega) (by omega) (by omega)]
    refine ia_t (la hb.1) ⟨t, w.c, _, rfl, (k6.trans k2).at et, ia_t at0 ?_⟩
    obtain ⟨v, hv⟩ := Option.isSome_iff_exists.mp hb.2
    rw [hv] at hP ⊢
    exact hP
  have ea3 : ((X1 w i j ++ X2 w i j).map EV.int ++ if (decide (i < w.n) && (w.rest (i + 1) j).isSome) = true then [optE (oadd (w.rest (i + 1) j) (w.g.drop i))] else []) = (X1 w i j ++ X2 w i j ++ X3 w i j).map EV.int := by
    rw [List.map_append (l₁ := X1 w i j ++ X2 w i j)]
    congr 1
    unfold X3
    simp only [Bool.and_eq_true, decide_eq_true_eq]
    by_cases hc : i < w.n
    · rw [if_pos hc]
      cases hv : w.rest (i + 1) j <;> simp [hc, optE, oadd]
    · rw [if_neg hc, if_neg (fun z => hc z.1)]
      rfl
  rw [ea3]
  have e3 := set_at (o := EO.lst ((X1 w i j ++ X2 w i j ++ X3 w i j).map EV.int)) e2
  have k3 : Keep no1 h6 (h8.set (h6.length + 1) (.lst ((X1 w i j ++ X2 w i j ++ X3 w i j).map EV.int))) := k2.fresh (by omega)
  have z3 : (X1 w i j ++ X2 w i j ++ X3 w i j).length ≤ 3 := by
    rw [List.length_append]
    have : (X3 w i j).length ≤ 1 := by unfold X3; split; exact lenO _; simp
    omega
  generalize h8.set (h6.length + 1) (.lst ((X1 w i j ++ X2 w i j ++ X3 w i j).map EV.int)) = h9 at e3 k3 ⊢
  clear e2 k2 ea3
  try dsimp only
  -- right
  rw [lSeq]
  refine if_app (decide (j < w.m) && (w.rest i (j + 1)).isSome) (optE (oadd (w.rest i (j + 1)) (w.g.put j))) (fun P hP => ?_) (fun hb P hP => ?_) rfl e3 (by rw [List.length_map]; omega) ?_
  · by_cases hj0 : j < w.m
    · simp only [lSeq, lSet, lRet, lRetN, lDrop, lIfS, lOp, lVar, lC, lB, lT, lAnd, lOr, lNot, lIf, lAndV, lOrV, lNotV, lNil, lCons, lTup, lLst, lCB, lBM, lSl, lPart, lNext, lFor, lIt, lRng1, lRng2, lAsg, lPar, lSetI, lSetA, lAugS, lLc, lZip, lNeg, lCall, lChain, List.getElem?_cons_zero, List.getElem?_cons_succ, List.set_cons_zero, List.set_cons_succ, truE, wipeE, intP, intE, gtE, addE, gb, hj0, decide_true, if_true, c1]
      refine (z6.keep k3).get (x := i) (y := j + 1) (by omega) (by omega) ?_
      rw [g0 _ _ (by omega) (by omega) (by omega)]
      cases hv : w.rest i (j + 1) <;> simp [hv, isN, optE, hj0] at hP ⊢ <;> exact hP
    · simp only [lSeq, lSet, lRet, lRetN, lDrop, lIfS, lOp, lVar, lC, lB, lT, lAnd, lOr, lNot, lIf, lAndV, lOrV, lNotV, lNil, lCons, lTup, lLst, lCB, lBM, lSl, lPart, lNext, lFor, lIt, lRng1, lRng2, lAsg, lPar, lSetI, lSetA, lAugS, lLc, lZip, lNeg, lCall, lChain, List.getElem?_cons_zero, List.getElem?_cons_succ, List.set_cons_zero, List.set_cons_succ, truE, wipeE, intP, intE, gtE, gb, hj0, decide_false, Bool.false_eq_true, if_false]
      simpa [hj0] using hP
  · simp only [Bool.and_eq_true, decide_eq_true_eq] at hb
    simp only [lSeq, lSet, lRet, lRetN, lDrop, lIfS, lOp, lVar, lC, lB, lT, lAnd, lOr, lNot, lIf, lAndV, lOrV, lNotV, lNil, lCons, lTup, lLst, lCB, lBM, lSl, lPart, lNext, lFor, lIt, lRng1, lRng2, lAsg, lPar, lSetI, lSetA, lAugS, lLc, lZip, lNeg, lCall, lChain, List.getElem?_cons_zero, List.getElem?_cons_succ, List.set_cons_zero, List.set_cons_succ, truE, wipeE, intP, intE, addE, c1]
    refine (z6.keep k3).get (x := i) (y := j + 1) (by omega) (by omega) ?_
    rw [g0 _ _ (by omega) (by omega) (by omega)]
    refine ia_t (ra hb.1) ⟨t, w.c, _, rfl, (k6.trans k3).at et, ia_t at1 ?_⟩
    obtain ⟨v, hv⟩ := Option.isSome_iff_exists.mp hb.2
    rw [hv] at hP ⊢
    exact hP
  have ea4 : ((X1 w i j ++ X2 w i j ++ X3 w i j).map EV.int ++ if (decide (j < w.m) && (w.rest i (j + 1)).isSome) = true then [optE (oadd (w.rest i (j + 1)) (w.g.put j))] else []) = ((w.g.cellR w.n w.m i j).filterMap id).map EV.int := by
    rw [Xs_cell, List.map_append (l₁ := X1 w i j ++ X2 w i j ++ X3 w i j)]
    congr 1
    unfold X4
    simp only [Bool.and_eq_true, decide_eq_true_eq]
    by_cases hc : j < w.m
    · rw [if_pos hc]
      cases hv : w.rest i (j + 1) <;> simp [hc, optE, oadd]
    · rw [if_neg hc, if_neg (fun z => hc z.1)]
      rfl
  rw [ea4]
  have e4 := set_at (o := EO.lst (((w.g.cellR w.n w.m i j).filterMap id).map EV.int)) e3
  have k4 : Keep no1 h6 (h9.set (h6.length + 1) (.lst (((w.g.cellR w.n w.m i j).filterMap id).map EV.int))) := k3.fresh (by omega)
  generalize h9.set (h6.length + 1) (.lst (((w.g.cellR w.n w.m i j).filterMap id).map EV.int)) = hA at e4 k4 ⊢
  clear e3 k3 ea4
  try dsimp only
  -- the least
  have cb := w.g.cellR_rest w.n w.m i j
  have next : ∀ (h' : EH) (R : Tbl), Keep no1 h h' → h1.length ≤ h'.length → RowsAt h' h.length h1.length r w.n w.m R → (∀ x y, R x y = upd (tbB w a b) i j (w.rest i j) x y) → kk2 [some (.tup (w.l.map EV.int)), some (.tup (w.r.map EV.int)), some (.ref t), some (.int L), some (.ref r), some (.int (a : Nat)), some (.int (b : Nat)), some (.int (i : Nat)), some (.int (j : Nat)), some (.ref (h6.length + 1))] h' := by
    intro h' R k' l' z' eR
    refine hkk2 _ _ ⟨_, _, _, _, rfl, k', l', z'.congr fun x y hx hy => ?_⟩
    rw [eR]
    unfold upd
    by_cases hxy : x = i ∧ y = j
    · rw [if_pos hxy]
      obtain ⟨rfl, rfl⟩ := hxy
      unfold tbB
      rw [if_pos (by omega)]
    · rw [if_neg hxy]
      unfold tbB
      have : (w.n - x < a ∨ (w.n - x = a ∧ w.m - y < b)) ↔ (w.n - x < a ∨ (w.n - x = a ∧ w.m - y < b + 1)) := by omega
      simp only [this]
  have same : w.rest i j = none → ∀ x y, tbB w a b x y = upd (tbB w a b) i j (w.rest i j) x y := by
    intro hn' x y
    unfold upd
    by_cases hxy : x = i ∧ y = j
    · obtain ⟨rfl, rfl⟩ := hxy
      rw [if_pos ⟨rfl, rfl⟩]
      unfold tbB
      rw [if_neg (by omega), hn']
    · rw [if_neg hxy]
  rw [lIfS]
  simp only [lSet, lRet, lRetN, lDrop, lOp, lVar, lC, lB, lT, lAnd, lOr, lNot, lIf, lAndV, lOrV, lNotV, lNil, lCons, lTup, lLst, lCB, lBM, lSl, lPart, lNext, lIt, lRng1, lRng2, lAsg, lPar, lSetI, lSetA, lAugS, lLc, lZip, lNeg, lCall, lChain, List.getElem?_cons_zero, List.getElem?_cons_succ, List.set_cons_zero, List.set_cons_succ, wipeE, intP, intE, List.length_nil]
  refine ⟨by rw [sizeL]; decide, ?_⟩
  refine eqE_nil (app_at e4 _) new_at ?_
  have k7 : Keep no1 h6 (hA ++ [.lst []]) := k4.trans (Keep.app _)
  have e7 := app_at e4 [.lst []]
  generalize hA ++ [.lst []] = hB at k7 e7 ⊢
  have l7 := k7.1
  by_cases hne : (w.g.cellR w.n w.m i j).filterMap id = []
  · have hb : w.rest i j = none := by
      rw [Wd.rest, ← cb]
      have := ominL_fm (w.g.cellR w.n w.m i j)
      rw [hne] at this
      rw [← this]
      simp [ominL]
    simp only [hne, decide_true, Bool.xor_true, Bool.not_true, Bool.false_eq_true, if_false]
    exact next hB _ (k6.trans k7) (by omega) (z6.keep k7) (same hb)
  · rw [decide_eq_false hne]
    simp only [Bool.xor_false, if_true, absE, leE, intP]
    have hl := hL i j hi2 hj2
    rw [hl]
    cases hok : w.p.ok i j with
    | false =>
      have hb : w.rest i j = none := by
        rw [Wd.rest, ← cb, show w.g.lag i j = false from hok]; simp
      simp only [Bool.false_eq_true, if_false]
      exact next hB _ (k6.trans k7) (by omega) (z6.keep k7) (same hb)
    | true =>
      simp only [if_true, minE, e7]
      refine ⟨_, rfl, hne, fun m hm hle => ?_⟩
      have hb : w.rest i j = some m := by
        rw [Wd.rest, ← cb, show w.g.lag i j = true from hok, if_pos rfl, ← ominL_fm]
        exact ominL_min _ _ hm hle
      obtain ⟨q1, xs, ex, ax, _, bq, _, er⟩ := (z6.keep k7).row hi2
      refine ia_l ex ((atI_n _ _).trans ax) (setA_row er hj2 ?_)
      have zs := (z6.keep k7).set (v := some m) ex ax hj2
      refine next _ _ ?_ (by simp; omega) zs (fun x y => by rw [hb])
      exact (k6.trans k7).fresh bq.1
end Y

namespace Y
open PySem PySem.Spec PyProof.Rows L2

def stopS (l r : List Int) : List Nat → Nat → Nat → Nat → Option Nat
  | [], _, _, _ => none
  | c :: cs, i, j, k => if canDo l r c i j = true then stopS l r cs (mvI i c) (mvJ j c) (k + 1) else some k
theorem stop_wrg (l r : List Int) : ∀ (s : List Nat) (i j k : Nat), wrg l r s i j k = match stopS l r s i j k with
    | some x => some x
    | none => if (endS s i j).1 = l.length ∧ (endS s i j).2 = r.length then none else some (k + s.length)
  | [], i, j, k => rfl
  | c :: cs, i, j, k => by
    rw [wrg, stopS]
    split
    · rw [stop_wrg l r cs]
      have : k + 1 + cs.length = k + (c :: cs).length := by simp; omega
      rw [this]
      rfl
    · rfl
theorem stop_lt (l r : List Int) : ∀ (s : List Nat) (i j k x : Nat), stopS l r s i j k = some x → k ≤ x ∧ x < k + s.length
  | [], i, j, k, x, h => by cases h
  | c :: cs, i, j, k, x, h => by
    rw [stopS] at h
    split at h
    · have := stop_lt l r cs _ _ _ _ h
      simp only [List.length_cons]
      omega
    · cases h
      simp only [List.length_cons]
      omega
theorem stop_can (l r : List Int) : ∀ (s : List Nat) (i j k : Nat), stopS l r s i j k = none → ∀ (a b : List Nat) (c : Nat), s = a ++ c :: b → canDo l r c (endS a i j).1 (endS a i j).2 = true
  | [], i, j, k, h, a, b, c, e => by simp at e
  | d :: s, i, j, k, h, [], b, c, e => by
    simp only [List.nil_append, List.cons.injEq] at e
    rw [stopS] at h
    split at h
    · rename_i hc
      rw [← e.1]; exact hc
    · cases h
  | d :: s, i, j, k, h, x :: a, b, c, e => by
    simp only [List.cons_append, List.cons.injEq] at e
    rw [stopS] at h
    split at h
    · rw [← e.1]
      exact stop_can l r s _ _ _ h a b c e.2
    · cases h
theorem can_le {l r : List Int} {c i j : Nat} (hs : isStep c) (h : canDo l r c i j = true) : mvI i c ≤ max i l.length ∧ mvJ j c ≤ max j r.length := by
  rcases hs with rfl | rfl | rfl <;> simp [canDo, mvI, mvJ] at h ⊢ <;> omega
theorem stop_end (l r : List Int) : ∀ (s : List Nat) (i j k : Nat), StepC s → i ≤ l.length → j ≤ r.length → stopS l r s i j k = none → (endS s i j).1 ≤ l.length ∧ (endS s i j).2 ≤ r.length
  | [], i, j, k, _, hi, hj, _ => ⟨hi, hj⟩
  | c :: cs, i, j, k, hs, hi, hj, h => by
    rw [stopS] at h
    split at h
    · rename_i hc
      have := can_le (hs c List.mem_cons_self) hc
      exact stop_end l r cs _ _ _ (fun x hx => hs x (List.mem_cons_of_mem _ hx)) (by omega) (by omega) h
    · cases h
def sp_price_so_far (ad : Ad) : LSp := fun evs h Q => ∃ (s : List Nat) (l r : List Int) (p : Nat) (t : Tab), evs = [.str s, tx l, tx r, .ref p] ∧ s.length ≤ 100000 ∧ StepC s ∧ PrAt ad h p t ∧ stopS l r s 0 0 0 = none ∧ ∀ h', Keep no1 h h' → Q (.int (priceS (cost t) l r s 0 0)) h'
abbrev N_price_so_far : List Str := ["script", "left", "right", "prices", "step", "point"]
def t_price_so_far (ad : Ad) : LS :=
    lRet (lCB sumE (lCons (lLc (lZip (lCons (lVar 0) (lCons (lCall (sp_points ad) (lCons (lVar 0) (lNil))) (lNil)))) (.tp [.nm 4, .nm 5]) (lYes) (lCall (sp_step_price ad) (lCons (lVar 4) (lCons (lVar 5) (lCons (lVar 1) (lCons (lVar 2) (lCons (lVar 3) (lNil))))))) [4, 5]) (lNil)))
theorem len_price_so_far (ad : Ad) (evs : List EV) (h : EH) (Q : EK) (q : sp_price_so_far ad evs h Q) : evs.length = ["script", "left", "right", "prices"].length := by
  obtain ⟨_, _, _, _, _, rfl, _⟩ := q; rfl
theorem pure_price_so_far (ad : Ad) (evs : List EV) (h : EH) (Q : EK) (q : sp_price_so_far ad evs h Q) : t_price_so_far ad (endsOf Q) (startE N_price_so_far evs) h := by
  obtain ⟨s, l, r, p, t, rfl, hl, hs, pr, hw, q⟩ := q
  show t_price_so_far ad (endsOf Q) [some (.str s), some (tx l), some (tx r), some (.ref p), none, none] h
  simp only [t_price_so_far, lSeq, lSet, lRet, lRetN, lDrop, lIfS, lOp, lVar, lC, lB, lT, lAnd, lOr, lNot, lIf, lAndV, lOrV, lNotV, lNil, lCons, lTup, lLst, lCB, lBM, lSl, lPart, lNext, lFor, lIt, lRng1, lRng2, lAsg, lPar, lSetI, lSetA, lAugS, lLc, lZip, lNeg, lCall, lChain, List.getElem?_cons_zero, List.getElem?_cons_succ, List.set_cons_zero, List.set_cons_succ, truE, wipeE, intP, intE, lZip]
  refine ⟨s, rfl, hl, fun r2 h2 k2 b2 e2 => ?_⟩
  simp only [srcE, e2, wipeE, List.set_cons_zero, List.set_cons_succ]
  have zz : List.zipWith (fun a b => EV.tup [a, b]) (s.map fun c => EV.str [c]) ((pts 0 0 s).map ptP) = (List.zip s (pts 0 0 s)).map fun q => EV.tup [.str [q.1], ptP q.2] := by
    generalize pts 0 0 s = l
    clear hw q hs hl e2
    induction s generalizing l with
    | nil => rfl
    | cons c s ih => cases l <;> simp [ih]
  rw [zz]
  refine lc_map (fun v => match v with
    | .tup [.str [c], .tup [.int i, .int j]] => EV.int (stepCost (cost t) l r c i.toNat j.toNat)
    | _ => .non) _ ?_ (fun acc => ⟨trivial, app_at e2 _⟩) (fun x hx acc ky hy => ?_) ?_
  · rw [List.length_map, List.length_zip, sizeL]; omega
  · obtain ⟨⟨c, i, j⟩, hp, rfl⟩ := List.mem_map.mp hx
    obtain ⟨a, b, e3, e4⟩ := zip_mid l r s 0 0 _ hp
    have hc := stop_can l r s 0 0 0 hw a b c e3
    rw [← e4] at hc
    simp only [ptP, ptE, lBind, Pat.bind, Pat.binds, lSeq, lSet, lRet, lRetN, lDrop, lIfS, lOp, lVar, lC, lB, lT, lAnd, lOr, lNot, lIf, lAndV, lOrV, lNotV, lNil, lCons, lTup, lLst, lCB, lBM, lSl, lPart, lNext, lFor, lIt, lRng1, lRng2, lAsg, lPar, lSetI, lSetA, lAugS, lLc, lZip, lNeg, lCall, lChain, List.getElem?_cons_zero, List.getElem?_cons_succ, List.set_cons_zero, List.set_cons_succ, truE, wipeE, intP, intE]
    refine ⟨c, i, j, l, r, p, t, rfl, hs c (by rw [e3]; simp), hc, (pr.keep k2).keep (Keep.app _), ?_⟩
    simpa [ptP, ptE] using hy
  · have em : ((List.zip s (pts 0 0 s)).map fun q => EV.tup [.str [q.1], ptP q.2]).map (fun v => match v with
      | .tup [.str [c], .tup [.int i, .int j]] => EV.int (stepCost (cost t) l r c i.toNat j.toNat)
      | _ => .non) = ((List.zip s (pts 0 0 s)).map fun q => stepCost (cost t) l r q.1 q.2.1 q.2.2).map EV.int := by
      rw [List.map_map, List.map_map]
      refine List.map_congr_left fun q _ => ?_
      simp [ptP, ptE]
    rw [em]
    refine sum_i _ new_at ?_
    rw [priceS_sum]
    exact q _ (k2.trans (Keep.app _))
def sp_rest_least (ad : Ad) : LSp := fun evs h Q => ∃ (w : Wd) (p i j : Nat), evs = [tx w.l, tx w.r, .ref p, w.p.e, ptE i j] ∧ PrAt ad h p w.c ∧ w.n ≤ 1000 ∧ w.m ≤ 1000 ∧ i ≤ w.n ∧ j ≤ w.m ∧ ∀ h', Keep no1 h h' → Q (optE (w.rest i j)) h'
abbrev N_rest_least : List Str := ["left", "right", "prices", "promise", "point"]
def t_rest_least (ad : Ad) : LS :=
    lRet (lOp ixA (lOp ixA (lCall (sp_rests ad) (lCons (lVar 0) (lCons (lVar 1) (lCons (lVar 2) (lCons (lVar 3) (lNil)))))) (lOp ixA (lVar 4) (lC (.int 0)))) (lOp ixA (lVar 4) (lC (.int 1))))
theorem len_rest_least (ad : Ad) (evs : List EV) (h : EH) (Q : EK) (q : sp_rest_least ad evs h Q) : evs.length = ["left", "right", "prices", "promise", "point"].length := by
  obtain ⟨_, _, _, _, rfl, _⟩ := q; rfl
theorem pure_rest_least (ad : Ad) (evs : List EV) (h : EH) (Q : EK) (q : sp_rest_least ad evs h Q) : t_rest_least ad (endsOf Q) (startE N_rest_least evs) h := by
  obtain ⟨w, p, i, j, rfl, pr, hn, hm, hi, hj, q⟩ := q
  show t_rest_least ad (endsOf Q) [some (tx w.l), some (tx w.r), some (.ref p), some w.p.e, some (ptE i j)] h
  simp only [t_rest_least, lSeq, lSet, lRet, lRetN, lDrop, lIfS, lOp, lVar, lC, lB, lT, lAnd, lOr, lNot, lIf, lAndV, lOrV, lNotV, lNil, lCons, lTup, lLst, lCB, lBM, lSl, lPart, lNext, lFor, lIt, lRng1, lRng2, lAsg, lPar, lSetI, lSetA, lAugS, lLc, lZip, lNeg, lCall, lChain, List.getElem?_cons_zero, List.getElem?_cons_succ, List.set_cons_zero, List.set_cons_succ, truE, wipeE, intP, intE]
  refine ⟨w, p, rfl, pr, hn, hm, fun r h1 k1 z => ?_⟩
  obtain ⟨q1, xs, e, a, _, _, _, er⟩ := z.row hi
  refine ia_t at0 (ia_l e ((atI_n _ _).trans a) (ia_t at1 (ia_l er ((atI_n _ _).trans (rowE_at hj)) (q _ k1))))
def lossO (w : Wd) (s : List Nat) : Option Int := match w.p.kept s, w.rest (endS s 0 0).1 (endS s 0 0).2, w.rest 0 0 with
  | true, some a, some b => some (priceS (cost w.c) w.l w.r s 0 0 + a - b)
  | _, _, _ => none
def sp_loss_of_script__X (ad : Ad) : LSpX := fun evs h Q W => ∃ (w : Wd) (p : Nat) (s : List Nat), evs = [tx w.l, tx w.r, .ref p, w.p.e, .str s] ∧ PrAt ad h p w.c ∧ w.n ≤ 1000 ∧ w.m ≤ 1000 ∧ PromNN w.p ∧ StepC s ∧ s.length ≤ 1000 ∧
  (stopS w.l w.r s 0 0 0 = none → ∀ h', Keep no1 h h' → Q (optE (lossO w s)) h') ∧ ∀ k, stopS w.l w.r s 0 0 0 = some k → ∀ h', Keep no1 h h' → W ad.a_NotAScript [("index", .int k)] h'
abbrev N_loss_of_script__X : List Str := ["left", "right", "prices", "promise", "script", "wrong", "rest", "whole"]
def t_loss_of_script__X (ad : Ad) (W : EW) : LS :=
    lSeq (lSet (lCall (sp_first_wrong ad) (lCons (lVar 4) (lCons (lVar 0) (lCons (lVar 1) (lNil))))) 5) <|
    lSeq (lIfS (lAnd (lB (lOp (isN true) (lVar 5) (lC .non))) (lB (lOp ltE (lVar 5) (lCB lenE (lCons (lVar 4) (lNil))))))
      (lRaise W ad.a_NotAScript "index" (lVar 5))
      (lNext)) <|
    lSeq (lPar 6 7 (lCons (lCall (sp_rest_least ad) (lCons (lVar 0) (lCons (lVar 1) (lCons (lVar 2) (lCons (lVar 3) (lCons (lOp ixA (lCall (sp_points ad) (lCons (lVar 4) (lNil))) (lNeg (lC (.int 1)))) (lNil))))))) (lCons (lCall (sp_least ad) (lCons (lVar 0) (lCons (lVar 1) (lCons (lVar 2) (lCons (lVar 3) (lNil)))))) (lNil)))) <|
    lSeq (lIfS (lOr (lNot (lT (lCall (sp_is_allowed ad) (lCons (lVar 4) (lCons (lVar 3) (lNil)))))) (lOr (lB (lOp (isN false) (lVar 6) (lC .non))) (lB (lOp (isN false) (lVar 7) (lC .non)))))
      (lRet (lC .non))
      (lNext)) <|
    lRet (lOp subE (lOp addE (lCall (sp_price_so_far ad) (lCons (lVar 4) (lCons (lVar 0) (lCons (lVar 1) (lCons (lVar 2) (lNil)))))) (lVar 6)) (lVar 7))
theorem len_loss_of_script__X (ad : Ad) (evs : List EV) (h : EH) (Q : EK) (W : ED) (q : sp_loss_of_script__X ad evs h Q W) : evs.length = ["left", "right", "prices", "promise", "script"].length := by
  obtain ⟨_, _, _, rfl, _⟩ := q; rfl
theorem pure_loss_of_script__X (ad : Ad) (evs : List EV) (h0 : EH) (Q : EK) (W : ED) (q : sp_loss_of_script__X ad evs h0 Q W) (mk' : EO) (hmk : isF mk' = true) :
    t_loss_of_script__X ad (fun C fs _ h' => h'[h0.length]? = some mk' ∧ W C fs h') (endsOf Q) (startE N_loss_of_script__X evs) (h0 ++ [mk']) := by
  obtain ⟨w, p, s, rfl, pr0, hn, hm, nn, hs, hl, q, qx⟩ := q
  have k0 : Keep no1 h0 (h0 ++ [mk']) := Keep.app _
  have em : (h0 ++ [mk'])[h0.length]? = some mk' := new_at
  have pr := pr0.keep k0
  replace q := fun hw h' (k : Keep no1 (h0 ++ [mk']) h') => q hw h' (k0.trans k)
  replace qx := fun x hw h' (k : Keep no1 (h0 ++ [mk']) h') => qx x hw h' (k0.trans k)
  clear hmk pr0 k0
  generalize h0 ++ [mk'] = h at *
  show t_loss_of_script__X ad _ (endsOf Q) [some (tx w.l), some (tx w.r), some (.ref p), some w.p.e, some (.str s), none, none, none] h
  unfold t_loss_of_script__X
  rw [lSeq, lSet]
  simp only [lSet, lRet, lRetN, lDrop, lOp, lVar, lC, lB, lT, lAnd, lOr, lNot, lIf, lAndV, lOrV, lNotV, lNil, lCons, lTup, lLst, lCB, lBM, lSl, lPart, lNext, lIt, lRng1, lRng2, lAsg, lPar, lSetI, lSetA, lAugS, lLc, lZip, lNeg, lCall, lChain, List.getElem?_cons_zero, List.getElem?_cons_succ, List.set_cons_zero, List.set_cons_succ, wipeE, intP, intE]
  refine ⟨s, w.l, w.r, rfl, by omega, hs, fun h1 k1 => ?_⟩
  have sw := stop_wrg w.l w.r s 0 0 0
  have slt := stop_lt w.l w.r s 0 0 0
  try dsimp only
  rw [lSeq, lIfS]
  cases hst : stopS w.l w.r s 0 0 0 with
  | some k =>
    rw [hst] at sw
    simp only at sw
    have hk := slt k hst
    rw [sw]
    simp only [lSet, lRet, lRetN, lDrop, lOp, lVar, lC, lB, lT, lAnd, lOr, lNot, lIf, lAndV, lOrV, lNotV, lNil, lCons, lTup, lLst, lCB, lBM, lSl, lPart, lNext, lIt, lRng1, lRng2, lAsg, lPar, lSetI, lSetA, lAugS, lLc, lZip, lNeg, lCall, lChain, List.getElem?_cons_zero, List.getElem?_cons_succ, List.set_cons_zero, List.set_cons_succ, wipeE, intP, intE, optN, isN, if_true, lenE, ltE, lRaise]
    refine ⟨by rw [sizeL]; omega, ?_⟩
    simp only [show ((k : Int) < (s.length : Int)) by omega, decide_true, if_true]
    exact ⟨k1.at em, qx k hst _ k1⟩
  | none =>
    rw [hst] at sw
    simp only at sw
    have pass : ∀ (P : Bool → EH → Prop), P false h1 → lAnd (lB (lOp (isN true) (lVar 5) (lC .non))) (lB (lOp ltE (lVar 5) (lCB lenE (lCons (lVar 4) (lNil))))) [some (tx w.l), some (tx w.r), some (.ref p), some w.p.e, some (.str s), some (optN (wrg w.l w.r s 0 0 0)), none, none] h1 P := by
      intro P hP
      rw [sw]
      split
      · simpa [lSeq, lSet, lRet, lRetN, lDrop, lIfS, lOp, lVar, lC, lB, lT, lAnd, lOr, lNot, lIf, lAndV, lOrV, lNotV, lNil, lCons, lTup, lLst, lCB, lBM, lSl, lPart, lNext, lFor, lIt, lRng1, lRng2, lAsg, lPar, lSetI, lSetA, lAugS, lLc, lZip, lNeg, lCall, lChain, List.getElem?_cons_zero, List.getElem?_cons_succ, List.set_cons_zero, List.set_cons_succ, truE, wipeE, intP, intE, lBind, Pat.bind, Pat.binds, eqE, geE, gtE, leE, ltE, intP, intE, addE, subE, lenE, ixA, ixE, isN, absE, intOf, isTy, attrE, atI_n, atI_0, atI_1, atI_2, atI_3, lYes, optN] using hP
      · simp only [lSet, lRet, lRetN, lDrop, lOp, lVar, lC, lB, lT, lAnd, lOr, lNot, lIf, lAndV, lOrV, lNotV, lNil, lCons, lTup, lLst, lCB, lBM, lSl, lPart, lNext, lIt, lRng1, lRng2, lAsg, lPar, lSetI, lSetA, lAugS, lLc, lZip, lNeg, lCall, lChain, List.getElem?_cons_zero, List.getElem?_cons_succ, List.set_cons_zero, List.set_cons_succ, wipeE, intP, intE, optN, isN, if_true, lenE, ltE]
        refine ⟨by rw [sizeL]; omega, ?_⟩
        rw [show decide (((0 + s.length : Nat) : Int) < (s.length : Int)) = false from decide_eq_false (by omega)]
        exact hP
    refine pass _ ?_
    simp only [Bool.false_eq_true, if_false, lNext]
    obtain ⟨b1, b2⟩ := stop_end w.l w.r s 0 0 0 hs (Nat.zero_le _) (Nat.zero_le _) hst
    try dsimp only
    rw [lSeq, lPar]
    simp only [lSet, lRet, lRetN, lDrop, lOp, lVar, lC, lB, lT, lAnd, lOr, lNot, lIf, lAndV, lOrV, lNotV, lNil, lCons, lTup, lLst, lCB, lBM, lSl, lPart, lNext, lIt, lRng1, lRng2, lAsg, lPar, lSetI, lSetA, lAugS, lLc, lZip, lNeg, lCall, lChain, List.getElem?_cons_zero, List.getElem?_cons_succ, List.set_cons_zero, List.set_cons_succ, wipeE, intP, intE]
    refine ⟨s, rfl, by omega, fun r2 h2 k2 l2 e2 => ?_⟩
    obtain ⟨l0, el0⟩ := pts_last s 0 0
    have k12 := k1.trans k2
    refine ia_l e2 (by rw [el0, List.map_append]; exact atm1 _ _) ⟨w, p, (endS s 0 0).1, (endS s 0 0).2, rfl, pr.keep k12, hn, hm, b1, b2, fun h3 k3 => ?_⟩
    refine ⟨w, p, rfl, (pr.keep k12).keep k3, hn, hm, fun h4 k4 => ?_⟩
    rw [Wd.best_end nn]
    have k14 := (k12.trans k3).trans k4
    try dsimp only
    rw [lSeq, lIfS]
    simp only [lSet, lRet, lRetN, lDrop, lOp, lVar, lC, lB, lT, lAnd, lOr, lNot, lIf, lAndV, lOrV, lNotV, lNil, lCons, lTup, lLst, lCB, lBM, lSl, lPart, lNext, lIt, lRng1, lRng2, lAsg, lPar, lSetI, lSetA, lAugS, lLc, lZip, lNeg, lCall, lChain, List.getElem?_cons_zero, List.getElem?_cons_succ, List.set_cons_zero, List.set_cons_succ, wipeE, intP, intE, lT]
    refine ⟨s, w.p, rfl, by omega, fun h5 k5 => ?_⟩
    have k15 := k14.trans k5
    replace q := q hst
    unfold lossO at q
    simp only [truE]
    cases hk : w.p.kept s with
    | false =>
      rw [hk] at q
      simp only [Bool.not_false, if_true]
      exact q _ k15
    | true =>
      rw [hk] at q
      simp only [Bool.not_true, Bool.false_eq_true, if_false]
      cases ha : w.rest (endS s 0 0).1 (endS s 0 0).2 with
      | none =>
        rw [ha] at q
        simp only [optE, isN, Bool.not_false, if_true]
        exact q _ k15
      | some a =>
        rw [ha] at q
        simp only [optE, isN, Bool.false_eq_true, if_false]
        cases hb : w.rest 0 0 with
        | none =>
          rw [hb] at q
          simp only [optE, isN, Bool.not_false, if_true]
          exact q _ k15
        | some b =>
          rw [hb] at q
          simp only [optE, isN, Bool.false_eq_true, if_false]
          refine ⟨s, w.l, w.r, p, w.c, rfl, by omega, hs, pr.keep k15, hst, fun h6 k6 => ?_⟩
          simp only [addE, subE, intP]
          exact q _ (k15.trans k6)
end Y

namespace Y
open PySem PySem.Spec PyProof.Rows L2

def lagK : Prom → Int
  | .lag g => g
  | _ => 1000000
def sp__law_lag_k58 (ad : Ad) : LSp := fun evs h Q => ∃ p : Prom, evs = [p.e] ∧ Q (.int (lagK p)) h
abbrev N__law_lag_k58 : List Str := ["_law_promise_here"]
def t__law_lag_k58 (ad : Ad) : LS :=
    lRet (lIf (lB (lOp (eqE false) (lOp ixA (lVar 0) (lC (.int 0))) (lC (.str [108, 97, 103])))) (lOp ixA (lVar 0) (lC (.int 1))) (lOp powE (lC (.int 10)) (lC (.int 6))))
theorem len__law_lag_k58 (ad : Ad) (evs : List EV) (h : EH) (Q : EK) (q : sp__law_lag_k58 ad evs h Q) : evs.length = ["_law_promise_here"].length := by
  obtain ⟨_, rfl, _⟩ := q; rfl
theorem pure__law_lag_k58 (ad : Ad) (evs : List EV) (h : EH) (Q : EK) (q : sp__law_lag_k58 ad evs h Q) : t__law_lag_k58 ad (endsOf Q) (startE N__law_lag_k58 evs) h := by
  obtain ⟨p, rfl, q⟩ := q
  show t__law_lag_k58 ad (endsOf Q) [some p.e] h
  have po : ∀ P : EK, P (.int 1000000) h → powE (.int 10) (.int 6) h P := fun P hP => pow_i (by unfold CPow; decide) (by simpa using hP)
  cases p with
  | none =>
    simp only [t__law_lag_k58, lSeq, lSet, lRet, lRetN, lDrop, lIfS, lOp, lVar, lC, lB, lT, lAnd, lOr, lNot, lIf, lAndV, lOrV, lNotV, lNil, lCons, lTup, lLst, lCB, lBM, lSl, lPart, lNext, lFor, lIt, lRng1, lRng2, lAsg, lPar, lSetI, lSetA, lAugS, lLc, lZip, lNeg, lCall, lChain, List.getElem?_cons_zero, List.getElem?_cons_succ, List.set_cons_zero, List.set_cons_succ, truE, wipeE, intP, intE, Prom.e]
    refine ia_t at0 (eq_s ?_)
    simp only [show decide (([110, 111, 110, 101] : List Nat) = [108, 97, 103]) = false by decide, Bool.false_xor, Bool.false_eq_true, if_false]
    exact po _ q
  | total g =>
    simp only [t__law_lag_k58, lSeq, lSet, lRet, lRetN, lDrop, lIfS, lOp, lVar, lC, lB, lT, lAnd, lOr, lNot, lIf, lAndV, lOrV, lNotV, lNil, lCons, lTup, lLst, lCB, lBM, lSl, lPart, lNext, lFor, lIt, lRng1, lRng2, lAsg, lPar, lSetI, lSetA, lAugS, lLc, lZip, lNeg, lCall, lChain, List.getElem?_cons_zero, List.getElem?_cons_succ, List.set_cons_zero, List.set_cons_succ, truE, wipeE, intP, intE, Prom.e]
    refine ia_t at0 (eq_s ?_)
    simp only [show decide (([116, 111, 116, 97, 108] : List Nat) = [108, 97, 103]) = false by decide, Bool.false_xor, Bool.false_eq_true, if_false]
    exact po _ q
  | lag g =>
    simp only [t__law_lag_k58, lSeq, lSet, lRet, lRetN, lDrop, lIfS, lOp, lVar, lC, lB, lT, lAnd, lOr, lNot, lIf, lAndV, lOrV, lNotV, lNil, lCons, lTup, lLst, lCB, lBM, lSl, lPart, lNext, lFor, lIt, lRng1, lRng2, lAsg, lPar, lSetI, lSetA, lAugS, lLc, lZip, lNeg, lCall, lChain, List.getElem?_cons_zero, List.getElem?_cons_succ, List.set_cons_zero, List.set_cons_succ, truE, wipeE, intP, intE, Prom.e]
    refine ia_t at0 (eq_s ?_)
    simp only [decide_true, Bool.false_xor, if_true]
    exact ia_t at1 q
theorem lagK_is (w : Wd) (hn : w.n ≤ 1000) (hm : w.m ≤ 1000) : LagIs w (lagK w.p) := by
  intro i j hi hj
  cases e : w.p with
  | lag g => rfl
  | none => simp only [lagK, Prom.ok]; exact decide_eq_true (by omega)
  | total g => simp only [lagK, Prom.ok]; exact decide_eq_true (by omega)
def sp__law_paid_k58 (ad : Ad) : LSp := fun evs h Q => ∃ (s : List Nat) (l r : List Int) (t : Nat) (c : Tab), evs = [.str s, tx l, tx r, .ref t] ∧ StepC s ∧ h[t]? = some (.dic (tabKV c)) ∧ stopS l r s 0 0 0 = none ∧ Q (.int (priceS (cost c) l r s 0 0)) h
abbrev N__law_paid_k58 : List Str := ["_law_script_here", "_law_left", "_law_right", "_law_table", "_law_i", "_law_j", "_law_found", "_law_step"]
def t__law_paid_k58 (ad : Ad) : LS :=
    lSeq (lAsg (lTup (lCons (lC (.int 0)) (lCons (lC (.int 0)) (lCons (lC (.int 0)) (lNil))))) (.tp [.nm 4, .nm 5, .nm 6])) <|
    lSeq (lFor (lIt (lVar 0)) (.nm 7)
      (lSeq (lIfS (lB (lOp (eqE false) (lVar 7) (lC (.str [100]))))
      (lAug (fun i j => i + j) 6 (lOp ixA (lCall (sp__law_costs ad) (lCons (lVar 3) (lCons (lOp ixA (lVar 1) (lVar 4)) (lNil)))) (lC (.int 0))))
      (lNext)) <|
    lSeq (lIfS (lB (lOp (eqE false) (lVar 7) (lC (.str [112]))))
      (lAug (fun i j => i + j) 6 (lOp ixA (lCall (sp__law_costs ad) (lCons (lVar 3) (lCons (lOp ixA (lVar 2) (lVar 5)) (lNil)))) (lC (.int 1))))
      (lNext)) <|
    lPar 4 5 (lCons (lOp addE (lVar 4) (lCB intOf (lCons (lOp (eqE true) (lVar 7) (lC (.str [112]))) (lNil)))) (lCons (lOp addE (lVar 5) (lCB intOf (lCons (lOp (eqE true) (lVar 7) (lC (.str [100]))) (lNil)))) (lNil))))) <|
    lRet (lVar 6)
theorem len__law_paid_k58 (ad : Ad) (evs : List EV) (h : EH) (Q : EK) (q : sp__law_paid_k58 ad evs h Q) : evs.length = ["_law_script_here", "_law_left", "_law_right", "_law_table"].length := by
  obtain ⟨_, _, _, _, _, rfl, _⟩ := q; rfl
theorem pure__law_paid_k58 (ad : Ad) (evs : List EV) (h : EH) (Q : EK) (q : sp__law_paid_k58 ad evs h Q) : t__law_paid_k58 ad (endsOf Q) (startE N__law_paid_k58 evs) h := by
  obtain ⟨s, l, r, t, c, rfl, hs, et, hw, q⟩ := q
  show t__law_paid_k58 ad (endsOf Q) [some (.str s), some (tx l), some (tx r), some (.ref t), none, none, none, none] h
  unfold t__law_paid_k58
  rw [lSeq, lAsg]
  simp only [lSet, lRet, lRetN, lDrop, lOp, lVar, lC, lB, lT, lAnd, lOr, lNot, lIf, lAndV, lOrV, lNotV, lNil, lCons, lTup, lLst, lCB, lBM, lSl, lPart, lNext, lIt, lRng1, lRng2, lAsg, lPar, lSetI, lSetA, lAugS, lLc, lZip, lNeg, lCall, lChain, List.getElem?_cons_zero, List.getElem?_cons_succ, List.set_cons_zero, List.set_cons_succ, wipeE, intP, intE, lBind, Pat.bind, Pat.binds]
  refine ⟨by simp [sizeL], ?_⟩
  rw [lSeq, lFor]
  simp only [lSet, lRet, lRetN, lDrop, lOp, lVar, lC, lB, lT, lAnd, lOr, lNot, lIf, lAndV, lOrV, lNotV, lNil, lCons, lTup, lLst, lCB, lBM, lSl, lPart, lNext, lIt, lRng1, lRng2, lAsg, lPar, lSetI, lSetA, lAugS, lLc, lZip, lNeg, lCall, lChain, List.getElem?_cons_zero, List.getElem?_cons_succ, List.set_cons_zero, List.set_cons_succ, wipeE, intP, intE, srcE]
  refine loop_on (fun c : Nat => EV.str [c]) s (fun a b env h' => ∃ (i j : Nat) (acc : Int) (x7 : Option EV), env = [some (.str s), some (tx l), some (tx r), some (.ref t), some (.int i), some (.int j), some (.int acc), x7] ∧ h' = h ∧ stopS l r b i j a.length = none ∧ priceS (cost c) l r s 0 0 = acc + priceS (cost c) l r b i j) ?_ ?_ _ _ ⟨0, 0, 0, none, rfl, rfl, hw, by simp⟩
  · rintro env h' ⟨i, j, acc, x7, rfl, rfl, ew, e⟩
    refine ⟨trivial, ?_⟩
    simp only [lSet, lRet, lRetN, lDrop, lOp, lVar, lC, lB, lT, lAnd, lOr, lNot, lIf, lAndV, lOrV, lNotV, lNil, lCons, lTup, lLst, lCB, lBM, lSl, lPart, lNext, lIt, lRng1, lRng2, lAsg, lPar, lSetI, lSetA, lAugS, lLc, lZip, lNeg, lCall, lChain, List.getElem?_cons_zero, List.getElem?_cons_succ, List.set_cons_zero, List.set_cons_succ, wipeE, intP, intE]
    rw [priceS, Int.add_zero] at e
    rw [← e]
    exact q
  rintro a d b env h' kk es ⟨i, j, acc, x7, rfl, rfl, ew, e⟩ hk
  refine ⟨trivial, bind_nm ?_⟩
  simp only [List.set_cons_zero, List.set_cons_succ]
  have hst : isStep d := hs d (by rw [es]; simp)
  rw [stopS] at ew
  have hd : canDo l r d i j = true := by
    cases z : canDo l r d i j with
    | true => rfl
    | false => rw [z] at ew; simp at ew
  rw [if_pos hd] at ew
  rw [priceS] at e
  rcases hst with rfl | rfl | rfl
  · simp only [lSeq, lSet, lRet, lRetN, lDrop, lIfS, lOp, lVar, lC, lB, lT, lAnd, lOr, lNot, lIf, lAndV, lOrV, lNotV, lNil, lCons, lTup, lLst, lCB, lBM, lSl, lPart, lNext, lFor, lIt, lRng1, lRng2, lAsg, lPar, lSetI, lSetA, lAugS, lLc, lZip, lNeg, lCall, lChain, List.getElem?_cons_zero, List.getElem?_cons_succ, List.set_cons_zero, List.set_cons_succ, truE, wipeE, intP, intE, eqE, show decide (([107] : List Nat) = [100]) = false by decide, show decide (([107] : List Nat) = [112]) = false by decide, Bool.false_xor, Bool.false_eq_true, if_false, intOf, addE, lPar]
    simp [mvI, mvJ] at ew e
    simp [stepCost] at e
    simp
    exact hk _ _ ⟨i + 1, j + 1, acc, some (.str [107]), by simp, rfl, by simpa using ew, e⟩
  · simp [canDo] at hd
    simp only [lSeq, lSet, lRet, lRetN, lDrop, lIfS, lOp, lVar, lC, lB, lT, lAnd, lOr, lNot, lIf, lAndV, lOrV, lNotV, lNil, lCons, lTup, lLst, lCB, lBM, lSl, lPart, lNext, lFor, lIt, lRng1, lRng2, lAsg, lPar, lSetI, lSetA, lAugS, lLc, lZip, lNeg, lCall, lChain, List.getElem?_cons_zero, List.getElem?_cons_succ, List.set_cons_zero, List.set_cons_succ, truE, wipeE, intP, intE, eqE, decide_true, Bool.false_xor, if_true]
    rw [lAug]
    simp only [lSeq, lSet, lRet, lRetN, lDrop, lIfS, lOp, lVar, lC, lB, lT, lAnd, lOr, lNot, lIf, lAndV, lOrV, lNotV, lNil, lCons, lTup, lLst, lCB, lBM, lSl, lPart, lNext, lFor, lIt, lRng1, lRng2, lAsg, lPar, lSetI, lSetA, lAugS, lLc, lZip, lNeg, lCall, lChain, List.getElem?_cons_zero, List.getElem?_cons_succ, List.set_cons_zero, List.set_cons_succ, truE, wipeE, intP, intE, tx]
    refine ia_t (tx_at hd) ⟨t, c, _, rfl, et, ia_t at0 ?_⟩
    simp only [lSeq, lSet, lRet, lRetN, lDrop, lIfS, lOp, lVar, lC, lB, lT, lAnd, lOr, lNot, lIf, lAndV, lOrV, lNotV, lNil, lCons, lTup, lLst, lCB, lBM, lSl, lPart, lNext, lFor, lIt, lRng1, lRng2, lAsg, lPar, lSetI, lSetA, lAugS, lLc, lZip, lNeg, lCall, lChain, List.getElem?_cons_zero, List.getElem?_cons_succ, List.set_cons_zero, List.set_cons_succ, truE, wipeE, intP, intE, eqE, show decide (([100] : List Nat) = [112]) = false by decide, Bool.false_xor, Bool.false_eq_true, if_false, intOf, addE, lPar]
    simp [mvI, mvJ] at ew e
    simp [stepCost] at e
    simp
    exact hk _ _ ⟨i + 1, j, acc + (cost c (l.getD i 0)).1, some (.str [100]), by simp, rfl, by simpa using ew, by rw [e]; simp; omega⟩
  · simp [canDo] at hd
    simp only [lSeq, lSet, lRet, lRetN, lDrop, lIfS, lOp, lVar, lC, lB, lT, lAnd, lOr, lNot, lIf, lAndV, lOrV, lNotV, lNil, lCons, lTup, lLst, lCB, lBM, lSl, lPart, lNext, lFor, lIt, lRng1, lRng2, lAsg, lPar, lSetI, lSetA, lAugS, lLc, lZip, lNeg, lCall, lChain, List.getElem?_cons_zero, List.getElem?_cons_succ, List.set_cons_zero, List.set_cons_succ, truE, wipeE, intP, intE, eqE, show decide (([112] : List Nat) = [100]) = false by decide, decide_true, Bool.false_xor, if_true, Bool.false_eq_true, if_false]
    rw [lAug]
    simp only [lSeq, lSet, lRet, lRetN, lDrop, lIfS, lOp, lVar, lC, lB, lT, lAnd, lOr, lNot, lIf, lAndV, lOrV, lNotV, lNil, lCons, lTup, lLst, lCB, lBM, lSl, lPart, lNext, lFor, lIt, lRng1, lRng2, lAsg, lPar, lSetI, lSetA, lAugS, lLc, lZip, lNeg, lCall, lChain, List.getElem?_cons_zero, List.getElem?_cons_succ, List.set_cons_zero, List.set_cons_succ, truE, wipeE, intP, intE, tx]
    refine ia_t (tx_at hd) ⟨t, c, _, rfl, et, ia_t at1 ?_⟩
    simp only [lSeq, lSet, lRet, lRetN, lDrop, lIfS, lOp, lVar, lC, lB, lT, lAnd, lOr, lNot, lIf, lAndV, lOrV, lNotV, lNil, lCons, lTup, lLst, lCB, lBM, lSl, lPart, lNext, lFor, lIt, lRng1, lRng2, lAsg, lPar, lSetI, lSetA, lAugS, lLc, lZip, lNeg, lCall, lChain, List.getElem?_cons_zero, List.getElem?_cons_succ, List.set_cons_zero, List.set_cons_succ, truE, wipeE, intP, intE, eqE, intOf, addE, lPar]
    simp [mvI, mvJ] at ew e
    simp [stepCost] at e
    simp
    exact hk _ _ ⟨i, j + 1, acc + (cost c (r.getD j 0)).2, some (.str [112]), by simp, rfl, by simpa using ew, by rw [e]; simp; omega⟩
theorem endS_count : ∀ (s : List Nat) (i j : Nat), StepC s → endS s i j = (i + (s.length - s.count 112), j + (s.length - s.count 100))
  | [], i, j, _ => rfl
  | c :: s, i, j, h => by
    have hc := h c List.mem_cons_self
    have h1 : s.count 112 ≤ s.length := List.count_le_length
    have h2 : s.count 100 ≤ s.length := List.count_le_length
    rw [endS, endS_count s _ _ (fun x hx => h x (List.mem_cons_of_mem _ hx))]
    rcases hc with rfl | rfl | rfl
    · simp [mvI, mvJ, List.count_cons]; omega
    · simp [mvI, mvJ, List.count_cons]; omega
    · simp [mvI, mvJ, List.count_cons]; omega
def sp__law_spot (ad : Ad) : LSp := fun evs h Q => ∃ s : List Nat, evs = [.str s] ∧ StepC s ∧ s.length ≤ 1000 ∧ Q (ptE (endS s 0 0).1 (endS s 0 0).2) h
abbrev N__law_spot : List Str := ["_law_script_here"]
def t__law_spot (ad : Ad) : LS :=
    lRet (lTup (lCons (lOp subE (lCB lenE (lCons (lVar 0) (lNil))) (lBM "str" countSE (lVar 0) (lCons (lC (.str [112])) (lNil)))) (lCons (lOp subE (lCB lenE (lCons (lVar 0) (lNil))) (lBM "str" countSE (lVar 0) (lCons (lC (.str [100])) (lNil)))) (lNil))))
theorem len__law_spot (ad : Ad) (evs : List EV) (h : EH) (Q : EK) (q : sp__law_spot ad evs h Q) : evs.length = ["_law_script_here"].length := by
  obtain ⟨_, rfl, _⟩ := q; rfl
theorem pure__law_spot (ad : Ad) (evs : List EV) (h : EH) (Q : EK) (q : sp__law_spot ad evs h Q) : t__law_spot ad (endsOf Q) (startE N__law_spot evs) h := by
  obtain ⟨s, rfl, hs, hl, q⟩ := q
  show t__law_spot ad (endsOf Q) [some (.str s)] h
  rw [endS_count s 0 0 hs] at q
  have h1 : s.count 112 ≤ s.length := List.count_le_length
  have h2 : s.count 100 ≤ s.length := List.count_le_length
  simp only [t__law_spot, lSeq, lSet, lRet, lRetN, lDrop, lIfS, lOp, lVar, lC, lB, lT, lAnd, lOr, lNot, lIf, lAndV, lOrV, lNotV, lNil, lCons, lTup, lLst, lCB, lBM, lSl, lPart, lNext, lFor, lIt, lRng1, lRng2, lAsg, lPar, lSetI, lSetA, lAugS, lLc, lZip, lNeg, lCall, lChain, List.getElem?_cons_zero, List.getElem?_cons_succ, List.set_cons_zero, List.set_cons_succ, truE, wipeE, intP, intE, lenE]
  refine ⟨by rw [sizeL]; omega, ⟨rfl, ?_⟩⟩
  simp only [countSE, subE, intP]
  refine ⟨by rw [sizeL]; omega, ⟨rfl, ?_⟩⟩
  try simp only [countSE, subE, intP]
  refine ⟨by simp [sizeL], ?_⟩
  rw [show ((s.length : Int) - (s.count 112 : Nat)) = ((0 + (s.length - s.count 112) : Nat) : Int) by omega, show ((s.length : Int) - (s.count 100 : Nat)) = ((0 + (s.length - s.count 100) : Nat) : Int) by omega]
  exact q
def sp__law_stops (ad : Ad) : LSp := fun evs h Q => ∃ (s : List Nat) (l r : List Int), evs = [.str s, tx l, tx r] ∧ StepC s ∧ s.length ≤ 1000 ∧ Q (optN (stopS l r s 0 0 0)) h
abbrev N__law_stops : List Str := ["_law_script_here", "_law_left", "_law_right", "_law_i", "_law_j", "_law_k", "_law_step"]
def t__law_stops (ad : Ad) : LS :=
    lSeq (lAsg (lTup (lCons (lC (.int 0)) (lCons (lC (.int 0)) (lNil)))) (.tp [.nm 3, .nm 4])) <|
    lSeq (lFor (lEnum (lCons (lVar 0) (lNil))) (.tp [.nm 5, .nm 6])
      (lSeq (lIfS (lOr (lAnd (lB (lOp (eqE true) (lVar 6) (lC (.str [112])))) (lB (lOp geE (lVar 3) (lCB lenE (lCons (lVar 1) (lNil)))))) (lOr (lAnd (lB (lOp (eqE true) (lVar 6) (lC (.str [100])))) (lB (lOp geE (lVar 4) (lCB lenE (lCons (lVar 2) (lNil)))))) (lAnd (lB (lOp (eqE false) (lVar 6) (lC (.str [107])))) (lB (lOp (eqE true) (lOp ixA (lVar 1) (lVar 3)) (lOp ixA (lVar 2) (lVar 4)))))))
      (lRet (lVar 5))
      (lNext)) <|
    lPar 3 4 (lCons (lOp addE (lVar 3) (lCB intOf (lCons (lOp (eqE true) (lVar 6) (lC (.str [112]))) (lNil)))) (lCons (lOp addE (lVar 4) (lCB intOf (lCons (lOp (eqE true) (lVar 6) (lC (.str [100]))) (lNil)))) (lNil))))) <|
    lRet (lC .non)
theorem len__law_stops (ad : Ad) (evs : List EV) (h : EH) (Q : EK) (q : sp__law_stops ad evs h Q) : evs.length = ["_law_script_here", "_law_left", "_law_right"].length := by
  obtain ⟨_, _, _, rfl, _⟩ := q; rfl
theorem pure__law_stops (ad : Ad) (evs : List EV) (h : EH) (Q : EK) (q : sp__law_stops ad evs h Q) : t__law_stops ad (endsOf Q) (startE N__law_stops evs) h := by
  obtain ⟨s, l, r, rfl, hs, hl, q⟩ := q
  show t__law_stops ad (endsOf Q) [some (.str s), some (tx l), some (tx r), none, none, none, none] h
  unfold t__law_stops
  rw [lSeq, lAsg]
  simp only [lSet, lRet, lRetN, lDrop, lOp, lVar, lC, lB, lT, lAnd, lOr, lNot, lIf, lAndV, lOrV, lNotV, lNil, lCons, lTup, lLst, lCB, lBM, lSl, lPart, lNext, lIt, lRng1, lRng2, lAsg, lPar, lSetI, lSetA, lAugS, lLc, lZip, lNeg, lCall, lChain, List.getElem?_cons_zero, List.getElem?_cons_succ, List.set_cons_zero, List.set_cons_succ, wipeE, intP, intE, lBind, Pat.bind, Pat.binds]
  refine ⟨by simp [sizeL], ?_⟩
  rw [lSeq, lFor]
  simp only [lSet, lRet, lRetN, lDrop, lOp, lVar, lC, lB, lT, lAnd, lOr, lNot, lIf, lAndV, lOrV, lNotV, lNil, lCons, lTup, lLst, lCB, lBM, lSl, lPart, lNext, lIt, lRng1, lRng2, lAsg, lPar, lSetI, lSetA, lAugS, lLc, lZip, lNeg, lCall, lChain, List.getElem?_cons_zero, List.getElem?_cons_succ, List.set_cons_zero, List.set_cons_succ, wipeE, intP, intE, lEnum, srcE, notTupE]
  refine ⟨trivial, ?_⟩
  refine loop_num (fun c : Nat => EV.str [c]) s (fun a b env h' => ∃ (i j : Nat) (x5 x6 : Option EV), env = [some (.str s), some (tx l), some (tx r), some (.int i), some (.int j), x5, x6] ∧ h' = h ∧ stopS l r s 0 0 0 = stopS l r b i j a.length) ?_ ?_ _ _ ⟨0, 0, none, none, rfl, rfl, rfl⟩
  · rintro env h' ⟨i, j, x5, x6, rfl, rfl, e⟩
    refine ⟨trivial, ?_⟩
    simp only [lSet, lRet, lRetN, lDrop, lOp, lVar, lC, lB, lT, lAnd, lOr, lNot, lIf, lAndV, lOrV, lNotV, lNil, lCons, lTup, lLst, lCB, lBM, lSl, lPart, lNext, lIt, lRng1, lRng2, lAsg, lPar, lSetI, lSetA, lAugS, lLc, lZip, lNeg, lCall, lChain, List.getElem?_cons_zero, List.getElem?_cons_succ, List.set_cons_zero, List.set_cons_succ, wipeE, intP, intE]
    rw [e] at q
    exact q
  rintro a d b env h' kk es ⟨i, j, x5, x6, rfl, rfl, e⟩ hk
  refine ⟨trivial, ?_⟩
  simp only [lBind, Pat.bind, Pat.binds, List.set_cons_zero, List.set_cons_succ]
  have hst : isStep d := hs d (by rw [es]; simp)
  rw [stopS] at e
  rw [lSeq, lIfS]
  have cond : ∀ (P : Bool → EH → Prop), P (!canDo l r d i j) h' → (lOr (lAnd (lB (lOp (eqE true) (lVar 6) (lC (.str [112])))) (lB (lOp geE (lVar 3) (lCB lenE (lCons (lVar 1) (lNil)))))) (lOr (lAnd (lB (lOp (eqE true) (lVar 6) (lC (.str [100])))) (lB (lOp geE (lVar 4) (lCB lenE (lCons (lVar 2) (lNil)))))) (lAnd (lB (lOp (eqE false) (lVar 6) (lC (.str [107])))) (lB (lOp (eqE true) (lOp ixA (lVar 1) (lVar 3)) (lOp ixA (lVar 2) (lVar 4))))))) [some (.str s), some (tx l), some (tx r), some (.int i), some (.int j), some (.int (a.length : Nat)), some (.str [d])] h' P := by
    intro P hP
    by_cases hi : i < l.length <;> by_cases hj : j < r.length <;> rcases hst with rfl | rfl | rfl <;> simp [lSeq, lSet, lRet, lRetN, lDrop, lIfS, lOp, lVar, lC, lB, lT, lAnd, lOr, lNot, lIf, lAndV, lOrV, lNotV, lNil, lCons, lTup, lLst, lCB, lBM, lSl, lPart, lNext, lFor, lIt, lRng1, lRng2, lAsg, lPar, lSetI, lSetA, lAugS, lLc, lZip, lNeg, lCall, lChain, List.getElem?_cons_zero, List.getElem?_cons_succ, List.set_cons_zero, List.set_cons_succ, truE, wipeE, intP, intE, lBind, Pat.bind, Pat.binds, eqE, geE, gtE, leE, ltE, intP, intE, addE, subE, lenE, ixA, ixE, isN, absE, intOf, isTy, attrE, atI_n, atI_0, atI_1, atI_2, atI_3, lYes, canDo, hi, hj, Nat.not_le.mpr, Nat.not_lt.mp, Int.ofNat_lt, Int.ofNat_le] at hP ⊢ <;> exact hP
  refine cond _ ?_
  cases hd : canDo l r d i j with
  | false =>
    rw [if_neg (by rw [hd]; decide)] at e
    rw [e] at q
    simp only [Bool.not_false, if_true, lSet, lRet, lRetN, lDrop, lOp, lVar, lC, lB, lT, lAnd, lOr, lNot, lIf, lAndV, lOrV, lNotV, lNil, lCons, lTup, lLst, lCB, lBM, lSl, lPart, lNext, lIt, lRng1, lRng2, lAsg, lPar, lSetI, lSetA, lAugS, lLc, lZip, lNeg, lCall, lChain, List.getElem?_cons_zero, List.getElem?_cons_succ, List.set_cons_zero, List.set_cons_succ, wipeE, intP, intE]
    exact q
  | true =>
    rw [if_pos hd] at e
    simp only [Bool.not_true, Bool.false_eq_true, if_false, lSet, lRet, lRetN, lDrop, lOp, lVar, lC, lB, lT, lAnd, lOr, lNot, lIf, lAndV, lOrV, lNotV, lNil, lCons, lTup, lLst, lCB, lBM, lSl, lPart, lNext, lIt, lRng1, lRng2, lAsg, lPar, lSetI, lSetA, lAugS, lLc, lZip, lNeg, lCall, lChain, List.getElem?_cons_zero, List.getElem?_cons_succ, List.set_cons_zero, List.set_cons_succ, wipeE, intP, intE, lPar]
    rcases hst with rfl | rfl | rfl
    · simp [lSeq, lSet, lRet, lRetN, lDrop, lIfS, lOp, lVar, lC, lB, lT, lAnd, lOr, lNot, lIf, lAndV, lOrV, lNotV, lNil, lCons, lTup, lLst, lCB, lBM, lSl, lPart, lNext, lFor, lIt, lRng1, lRng2, lAsg, lPar, lSetI, lSetA, lAugS, lLc, lZip, lNeg, lCall, lChain, List.getElem?_cons_zero, List.getElem?_cons_succ, List.set_cons_zero, List.set_cons_succ, truE, wipeE, intP, intE, lBind, Pat.bind, Pat.binds, eqE, geE, gtE, leE, ltE, intP, intE, addE, subE, lenE, ixA, ixE, isN, absE, intOf, isTy, attrE, atI_n, atI_0, atI_1, atI_2, atI_3, lYes] at e ⊢
      exact hk _ _ ⟨i + 1, j + 1, some (.int (a.length : Nat)), some (.str [107]), by simp, rfl, by simpa [mvI, mvJ] using e⟩
    · simp [lSeq, lSet, lRet, lRetN, lDrop, lIfS, lOp, lVar, lC, lB, lT, lAnd, lOr, lNot, lIf, lAndV, lOrV, lNotV, lNil, lCons, lTup, lLst, lCB, lBM, lSl, lPart, lNext, lFor, lIt, lRng1, lRng2, lAsg, lPar, lSetI, lSetA, lAugS, lLc, lZip, lNeg, lCall, lChain, List.getElem?_cons_zero, List.getElem?_cons_succ, List.set_cons_zero, List.set_cons_succ, truE, wipeE, intP, intE, lBind, Pat.bind, Pat.binds, eqE, geE, gtE, leE, ltE, intP, intE, addE, subE, lenE, ixA, ixE, isN, absE, intOf, isTy, attrE, atI_n, atI_0, atI_1, atI_2, atI_3, lYes] at e ⊢
      exact hk _ _ ⟨i + 1, j, some (.int (a.length : Nat)), some (.str [100]), by simp, rfl, by simpa [mvI, mvJ] using e⟩
    · simp [lSeq, lSet, lRet, lRetN, lDrop, lIfS, lOp, lVar, lC, lB, lT, lAnd, lOr, lNot, lIf, lAndV, lOrV, lNotV, lNil, lCons, lTup, lLst, lCB, lBM, lSl, lPart, lNext, lFor, lIt, lRng1, lRng2, lAsg, lPar, lSetI, lSetA, lAugS, lLc, lZip, lNeg, lCall, lChain, List.getElem?_cons_zero, List.getElem?_cons_succ, List.set_cons_zero, List.set_cons_succ, truE, wipeE, intP, intE, lBind, Pat.bind, Pat.binds, eqE, geE, gtE, leE, ltE, intP, intE, addE, subE, lenE, ixA, ixE, isN, absE, intOf, isTy, attrE, atI_n, atI_0, atI_1, atI_2, atI_3, lYes] at e ⊢
      exact hk _ _ ⟨i, j + 1, some (.int (a.length : Nat)), some (.str [112]), by simp, rfl, by simpa [mvI, mvJ] using e⟩
end Y

namespace Y
open PySem PySem.Spec PyProof.Rows L2

theorem maxL_snoc (x : Int) : ∀ l : List Int, l ≠ [] → maxL (l ++ [x]) = max (maxL l) x
  | [], h => absurd rfl h
  | [a], _ => rfl
  | a :: b :: l, _ => by
    show max a (maxL ((b :: l) ++ [x])) = max (max a (maxL (b :: l))) x
    rw [maxL_snoc x (b :: l) (by simp)]
    omega
theorem wide_snoc (s : List Nat) (c : Nat) : wide (s ++ [c]) = max (wide s) ((((endS (s ++ [c]) 0 0).1 : Int) - (endS (s ++ [c]) 0 0).2).natAbs : Int) := by
  unfold wide offs
  rw [pts_snoc, List.map_append, List.map_cons, List.map_nil, maxL_snoc _ _ (by simp [pts_ne]), endS_snoc]
theorem wide_bd : ∀ (s : List Nat) (i j : Nat) (q : Nat × Nat), q ∈ pts i j s → ((q.1 : Int) - q.2).natAbs ≤ ((i : Int) - j).natAbs + s.length
  | [], i, j, q, h => by
    have : q = (i, j) := by simpa [pts] using h
    subst this
    simp
  | c :: s, i, j, q, h => by
    rw [pts] at h
    rcases List.mem_cons.mp h with rfl | h
    · simp
    · have := wide_bd s _ _ q h
      have hm : (((mvI i c : Nat) : Int) - (mvJ j c : Nat)).natAbs ≤ ((i : Int) - j).natAbs + 1 := by
        unfold mvI mvJ
        split <;> split <;> omega
      simp only [List.length_cons]
      omega
theorem wide_len (s : List Nat) : wide s ≤ s.length := by
  unfold wide
  rw [maxL_le _ _ (by simp [offs, pts_ne])]
  intro y hy
  obtain ⟨q, hq, rfl⟩ := List.mem_map.mp hy
  have := wide_bd s 0 0 q hq
  simp at this
  omega
theorem kept_lagK {p : Prom} {s : List Nat} (hl : s.length ≤ 1000) : p.kept s = !decide (lagK p < wide s) := by
  have := wide_len s
  cases p with
  | lag g =>
    show decide (wide s ≤ g) = !decide (g < wide s)
    by_cases h : wide s ≤ g
    · rw [decide_eq_true h, decide_eq_false (show ¬ g < wide s by omega)]; rfl
    · rw [decide_eq_false h, decide_eq_true (show g < wide s by omega)]; rfl
  | none =>
    show true = !decide ((1000000 : Int) < wide s)
    rw [decide_eq_false (show ¬ (1000000 : Int) < wide s by omega)]; rfl
  | total g =>
    show true = !decide ((1000000 : Int) < wide s)
    rw [decide_eq_false (show ¬ (1000000 : Int) < wide s by omega)]; rfl
def sp__law_widest (ad : Ad) : LSp := fun evs h Q => ∃ s : List Nat, evs = [.str s] ∧ StepC s ∧ Q (.int (wide s)) h
abbrev N__law_widest : List Str := ["_law_script_here", "_law_found", "_law_here", "_law_step"]
def t__law_widest (ad : Ad) : LS :=
    lSeq (lAsg (lTup (lCons (lC (.int 0)) (lCons (lC (.int 0)) (lNil)))) (.tp [.nm 1, .nm 2])) <|
    lSeq (lFor (lIt (lVar 0)) (.nm 3)
      (lSeq (lSet (lOp subE (lOp addE (lVar 2) (lCB intOf (lCons (lOp (eqE false) (lVar 3) (lC (.str [100]))) (lNil)))) (lCB intOf (lCons (lOp (eqE false) (lVar 3) (lC (.str [112]))) (lNil)))) 2) <|
    lSet (lCB maxE (lCons (lVar 1) (lCons (lCB absE (lCons (lVar 2) (lNil))) (lNil)))) 1)) <|
    lRet (lVar 1)
theorem len__law_widest (ad : Ad) (evs : List EV) (h : EH) (Q : EK) (q : sp__law_widest ad evs h Q) : evs.length = ["_law_script_here"].length := by
  obtain ⟨_, rfl, _⟩ := q; rfl
theorem pure__law_widest (ad : Ad) (evs : List EV) (h : EH) (Q : EK) (q : sp__law_widest ad evs h Q) : t__law_widest ad (endsOf Q) (startE N__law_widest evs) h := by
  obtain ⟨s, rfl, hs, q⟩ := q
  show t__law_widest ad (endsOf Q) [some (.str s), none, none, none] h
  unfold t__law_widest
  rw [lSeq, lAsg]
  simp only [lSet, lRet, lRetN, lDrop, lOp, lVar, lC, lB, lT, lAnd, lOr, lNot, lIf, lAndV, lOrV, lNotV, lNil, lCons, lTup, lLst, lCB, lBM, lSl, lPart, lNext, lIt, lRng1, lRng2, lAsg, lPar, lSetI, lSetA, lAugS, lLc, lZip, lNeg, lCall, lChain, List.getElem?_cons_zero, List.getElem?_cons_succ, List.set_cons_zero, List.set_cons_succ, wipeE, intP, intE, lBind, Pat.bind, Pat.binds]
  refine ⟨by simp [sizeL], ?_⟩
  rw [lSeq, lFor]
  simp only [lSet, lRet, lRetN, lDrop, lOp, lVar, lC, lB, lT, lAnd, lOr, lNot, lIf, lAndV, lOrV, lNotV, lNil, lCons, lTup, lLst, lCB, lBM, lSl, lPart, lNext, lIt, lRng1, lRng2, lAsg, lPar, lSetI, lSetA, lAugS, lLc, lZip, lNeg, lCall, lChain, List.getElem?_cons_zero, List.getElem?_cons_succ, List.set_cons_zero, List.set_cons_succ, wipeE, intP, intE, srcE]
  refine loop_on (fun c : Nat => EV.str [c]) s (fun a b env h' => ∃ x3 : Option EV, env = [some (.str s), some (.int (wide a)), some (.int (((endS a 0 0).1 : Int) - (endS a 0 0).2)), x3] ∧ h' = h) ?_ ?_ _ _ ⟨none, rfl, rfl⟩
  · rintro env h' ⟨x3, rfl, rfl⟩
    refine ⟨trivial, ?_⟩
    simp only [lSet, lRet, lRetN, lDrop, lOp, lVar, lC, lB, lT, lAnd, lOr, lNot, lIf, lAndV, lOrV, lNotV, lNil, lCons, lTup, lLst, lCB, lBM, lSl, lPart, lNext, lIt, lRng1, lRng2, lAsg, lPar, lSetI, lSetA, lAugS, lLc, lZip, lNeg, lCall, lChain, List.getElem?_cons_zero, List.getElem?_cons_succ, List.set_cons_zero, List.set_cons_succ, wipeE, intP, intE]
    exact q
  rintro a d b env h' kk es ⟨x3, rfl, rfl⟩ hk
  refine ⟨trivial, bind_nm ?_⟩
  simp only [List.set_cons_zero, List.set_cons_succ]
  have hst : isStep d := hs d (by rw [es]; simp)
  have e1 : ∀ x y : Int, (if y > x then y else x) = max x y := fun x y => by
    by_cases h : x < y
    · rw [if_pos h]; omega
    · rw [if_neg h]; omega
  have fin : ∀ v : Int, v = ((endS (a ++ [d]) 0 0).1 : Int) - (endS (a ++ [d]) 0 0).2 → kk [some (.str s), some (.int (if ((v.natAbs : Nat) : Int) > wide a then ((v.natAbs : Nat) : Int) else wide a)), some (.int v), some (.str [d])] h' := by
    rintro v rfl
    rw [e1, ← wide_snoc]
    exact hk _ _ ⟨_, rfl, rfl⟩
  rw [lSeq, lSet]
  rcases hst with rfl | rfl | rfl
  · simp only [lSeq, lSet, lRet, lRetN, lDrop, lIfS, lOp, lVar, lC, lB, lT, lAnd, lOr, lNot, lIf, lAndV, lOrV, lNotV, lNil, lCons, lTup, lLst, lCB, lBM, lSl, lPart, lNext, lFor, lIt, lRng1, lRng2, lAsg, lPar, lSetI, lSetA, lAugS, lLc, lZip, lNeg, lCall, lChain, List.getElem?_cons_zero, List.getElem?_cons_succ, List.set_cons_zero, List.set_cons_succ, truE, wipeE, intP, intE, eqE, show decide (([107] : List Nat) = [100]) = false by decide, show decide (([107] : List Nat) = [112]) = false by decide, Bool.xor_false, intOf, addE, subE, absE, maxE, b2i]
    refine fin _ ?_
    rw [endS_snoc]
    simp [mvI, mvJ]
    omega
  · simp only [lSeq, lSet, lRet, lRetN, lDrop, lIfS, lOp, lVar, lC, lB, lT, lAnd, lOr, lNot, lIf, lAndV, lOrV, lNotV, lNil, lCons, lTup, lLst, lCB, lBM, lSl, lPart, lNext, lFor, lIt, lRng1, lRng2, lAsg, lPar, lSetI, lSetA, lAugS, lLc, lZip, lNeg, lCall, lChain, List.getElem?_cons_zero, List.getElem?_cons_succ, List.set_cons_zero, List.set_cons_succ, truE, wipeE, intP, intE, eqE, show decide (([100] : List Nat) = [112]) = false by decide, decide_true, Bool.xor_false, Bool.xor_true, intOf, addE, subE, absE, maxE, b2i]
    refine fin _ ?_
    rw [endS_snoc]
    simp [mvI, mvJ]
    omega
  · simp only [lSeq, lSet, lRet, lRetN, lDrop, lIfS, lOp, lVar, lC, lB, lT, lAnd, lOr, lNot, lIf, lAndV, lOrV, lNotV, lNil, lCons, lTup, lLst, lCB, lBM, lSl, lPart, lNext, lFor, lIt, lRng1, lRng2, lAsg, lPar, lSetI, lSetA, lAugS, lLc, lZip, lNeg, lCall, lChain, List.getElem?_cons_zero, List.getElem?_cons_succ, List.set_cons_zero, List.set_cons_succ, truE, wipeE, intP, intE, eqE, show decide (([112] : List Nat) = [100]) = false by decide, decide_true, Bool.xor_false, Bool.xor_true, intOf, addE, subE, absE, maxE, b2i]
    refine fin _ ?_
    rw [endS_snoc]
    simp [mvI, mvJ]
    omega
def sp__law_price_from (ad : Ad) : LSp := fun evs h Q => ∃ (w : Wd) (t : Nat) (L : Int) (s : List Nat), evs = [.str s, .tup [tx w.l, tx w.r], .ref t, .int L] ∧ h[t]? = some (.dic (tabKV w.c)) ∧ w.n ≤ 1000 ∧ w.m ≤ 1000 ∧ LagIs w L ∧ StepC s ∧ s.length ≤ 1000 ∧ stopS w.l w.r s 0 0 0 = none ∧
  ∀ h', Keep no1 h h' → Q (.tup [optE ((w.rest (endS s 0 0).1 (endS s 0 0).2).map fun a => priceS (cost w.c) w.l w.r s 0 0 + a), optE (w.rest 0 0)]) h'
abbrev N__law_price_from : List Str := ["_law_script_here", "_law_texts_here", "_law_table", "_law_lag_here", "_law_rows", "_law_spot_here", "_law_rest"]
def t__law_price_from (ad : Ad) : LS :=
    lSeq (lPar 4 5 (lCons (lCall (sp__law_behind ad) (lCons (lOp ixA (lVar 1) (lC (.int 0))) (lCons (lOp ixA (lVar 1) (lC (.int 1))) (lCons (lVar 2) (lCons (lVar 3) (lNil)))))) (lCons (lCall (sp__law_spot ad) (lCons (lVar 0) (lNil))) (lNil)))) <|
    lSeq (lSet (lOp ixA (lOp ixA (lVar 4) (lOp ixA (lVar 5) (lC (.int 0)))) (lOp ixA (lVar 5) (lC (.int 1)))) 6) <|
    lRet (lTup (lCons (lIf (lB (lOp (isN false) (lVar 6) (lC .non))) (lC .non) (lOp addE (lCall (sp__law_paid_k58 ad) (lCons (lVar 0) (lCons (lOp ixA (lVar 1) (lC (.int 0))) (lCons (lOp ixA (lVar 1) (lC (.int 1))) (lCons (lVar 2) (lNil)))))) (lVar 6))) (lCons (lOp ixA (lOp ixA (lVar 4) (lC (.int 0))) (lC (.int 0))) (lNil))))
theorem len__law_price_from (ad : Ad) (evs : List EV) (h : EH) (Q : EK) (q : sp__law_price_from ad evs h Q) : evs.length = ["_law_script_here", "_law_texts_here", "_law_table", "_law_lag_here"].length := by
  obtain ⟨_, _, _, _, rfl, _⟩ := q; rfl
theorem pure__law_price_from (ad : Ad) (evs : List EV) (h : EH) (Q : EK) (q : sp__law_price_from ad evs h Q) : t__law_price_from ad (endsOf Q) (startE N__law_price_from evs) h := by
  obtain ⟨w, t, L, s, rfl, et, hn, hm, hL, hs, hl, hst, q⟩ := q
  show t__law_price_from ad (endsOf Q) [some (.str s), some (.tup [tx w.l, tx w.r]), some (.ref t), some (.int L), none, none, none] h
  obtain ⟨b1, b2⟩ := stop_end w.l w.r s 0 0 0 hs (Nat.zero_le _) (Nat.zero_le _) hst
  unfold t__law_price_from
  rw [lSeq, lPar]
  simp only [lSet, lRet, lRetN, lDrop, lOp, lVar, lC, lB, lT, lAnd, lOr, lNot, lIf, lAndV, lOrV, lNotV, lNil, lCons, lTup, lLst, lCB, lBM, lSl, lPart, lNext, lIt, lRng1, lRng2, lAsg, lPar, lSetI, lSetA, lAugS, lLc, lZip, lNeg, lCall, lChain, List.getElem?_cons_zero, List.getElem?_cons_succ, List.set_cons_zero, List.set_cons_succ, wipeE, intP, intE]
  refine ia_t (x := tx w.l) rfl (ia_t (x := tx w.r) rfl ⟨w, t, L, rfl, et, hn, hm, hL, fun r h1 k1 z => ?_⟩)
  refine ⟨s, rfl, hs, hl, ?_⟩
  obtain ⟨q1, xs, e, a, _, _, _, er⟩ := z.row b1
  obtain ⟨q0, xs0, e0, a0, _, _, _, er0⟩ := z.row (Nat.zero_le _)
  try dsimp only
  rw [lSeq, lSet]
  simp only [lSet, lRet, lRetN, lDrop, lOp, lVar, lC, lB, lT, lAnd, lOr, lNot, lIf, lAndV, lOrV, lNotV, lNil, lCons, lTup, lLst, lCB, lBM, lSl, lPart, lNext, lIt, lRng1, lRng2, lAsg, lPar, lSetI, lSetA, lAugS, lLc, lZip, lNeg, lCall, lChain, List.getElem?_cons_zero, List.getElem?_cons_succ, List.set_cons_zero, List.set_cons_succ, wipeE, intP, intE]
  refine ia_t at0 (ia_l e ((atI_n _ _).trans a) (ia_t at1 (ia_l er ((atI_n _ _).trans (rowE_at b2)) ?_)))
  have r00 : ∀ P : EK, P (optE (w.rest 0 0)) h1 → ixA (.ref r) (.int 0) h1 fun x h2 => ixA x (.int 0) h2 P := fun P p => ia_l e0 ((atI_n _ _).trans a0) (ia_l er0 ((atI_n _ 0).trans (rowE_at (Nat.zero_le _))) p)
  replace q := q _ k1
  try dsimp only
  try simp only [lSet, lRet, lRetN, lDrop, lOp, lVar, lC, lB, lT, lAnd, lOr, lNot, lIf, lAndV, lOrV, lNotV, lNil, lCons, lTup, lLst, lCB, lBM, lSl, lPart, lNext, lIt, lRng1, lRng2, lAsg, lPar, lSetI, lSetA, lAugS, lLc, lZip, lNeg, lCall, lChain, List.getElem?_cons_zero, List.getElem?_cons_succ, List.set_cons_zero, List.set_cons_succ, wipeE, intP, intE]
  cases hv : w.rest (endS s 0 0).1 (endS s 0 0).2 with
  | none =>
    rw [hv] at q
    simp only [optE, isN, Bool.not_false, if_true]
    exact r00 _ ⟨by simp [sizeL], q⟩
  | some v =>
    rw [hv] at q
    simp only [optE, isN, Bool.false_eq_true, if_false]
    refine ia_t (x := tx w.l) rfl (ia_t (x := tx w.r) rfl ⟨s, w.l, w.r, t, w.c, rfl, hs, k1.at et, hst, ?_⟩)
    simp only [addE]
    exact r00 _ ⟨by simp [sizeL], q⟩
abbrev wNas : List Nat := [78, 111, 116, 65, 83, 99, 114, 105, 112, 116]
abbrev wTold : List Nat := [116, 111, 108, 100]
def dueV (w : Wd) (s : List Nat) : EV := match stopS w.l w.r s 0 0 0 with
  | some k => .tup [.str wNas, .int k]
  | none => .tup [.str wTold, optE (lossO w s)]
def sp__law_loss_due (ad : Ad) : LSp := fun evs h Q => ∃ (w : Wd) (t : Nat) (s : List Nat), evs = [.str s, tx w.l, tx w.r, .ref t, w.p.e] ∧ h[t]? = some (.dic (tabKV w.c)) ∧ w.n ≤ 1000 ∧ w.m ≤ 1000 ∧ StepC s ∧ s.length ≤ 1000 ∧ ∀ h', Keep no1 h h' → Q (dueV w s) h'
abbrev N__law_loss_due : List Str := ["_law_script_here", "_law_left", "_law_right", "_law_table", "_law_promise_here", "_law_bad", "_law_price", "_law_least"]
def t__law_loss_due (ad : Ad) : LS :=
    lSeq (lSet (lCall (sp__law_stops ad) (lCons (lVar 0) (lCons (lVar 1) (lCons (lVar 2) (lNil))))) 5) <|
    lSeq (lIfS (lB (lOp (isN true) (lVar 5) (lC .non)))
      (lRet (lTup (lCons (lC (.str [78, 111, 116, 65, 83, 99, 114, 105, 112, 116])) (lCons (lVar 5) (lNil)))))
      (lNext)) <|
    lSeq (lAsg (lCall (sp__law_price_from ad) (lCons (lVar 0) (lCons (lTup (lCons (lVar 1) (lCons (lVar 2) (lNil)))) (lCons (lVar 3) (lCons (lCall (sp__law_lag_k58 ad) (lCons (lVar 4) (lNil))) (lNil)))))) (.tp [.nm 6, .nm 7])) <|
    lSeq (lIfS (lOr (lB (lOp (isN false) (lVar 6) (lC .non))) (lOr (lB (lOp (isN false) (lVar 7) (lC .non))) (lB (lOp gtE (lCall (sp__law_widest ad) (lCons (lVar 0) (lNil))) (lCall (sp__law_lag_k58 ad) (lCons (lVar 4) (lNil)))))))
      (lRet (lTup (lCons (lC (.str [116, 111, 108, 100])) (lCons (lC .non) (lNil)))))
      (lNext)) <|
    lRet (lTup (lCons (lC (.str [116, 111, 108, 100])) (lCons (lOp subE (lVar 6) (lVar 7)) (lNil))))
theorem len__law_loss_due (ad : Ad) (evs : List EV) (h : EH) (Q : EK) (q : sp__law_loss_due ad evs h Q) : evs.length = ["_law_script_here", "_law_left", "_law_right", "_law_table", "_law_promise_here"].length := by
  obtain ⟨_, _, _, rfl, _⟩ := q; rfl
theorem pure__law_loss_due (ad : Ad) (evs : List EV) (h : EH) (Q : EK) (q : sp__law_loss_due ad evs h Q) : t__law_loss_due ad (endsOf Q) (startE N__law_loss_due evs) h := by
  obtain ⟨w, t, s, rfl, et, hn, hm, hs, hl, q⟩ := q
  show t__law_loss_due ad (endsOf Q) [some (.str s), some (tx w.l), some (tx w.r), some (.ref t), some w.p.e, none, none, none] h
  unfold t__law_loss_due
  rw [lSeq, lSet]
  simp only [lSet, lRet, lRetN, lDrop, lOp, lVar, lC, lB, lT, lAnd, lOr, lNot, lIf, lAndV, lOrV, lNotV, lNil, lCons, lTup, lLst, lCB, lBM, lSl, lPart, lNext, lIt, lRng1, lRng2, lAsg, lPar, lSetI, lSetA, lAugS, lLc, lZip, lNeg, lCall, lChain, List.getElem?_cons_zero, List.getElem?_cons_succ, List.set_cons_zero, List.set_cons_succ, wipeE, intP, intE]
  refine ⟨s, w.l, w.r, rfl, hs, hl, ?_⟩
  try dsimp only
  rw [lSeq, lIfS]
  simp only [lSet, lRet, lRetN, lDrop, lOp, lVar, lC, lB, lT, lAnd, lOr, lNot, lIf, lAndV, lOrV, lNotV, lNil, lCons, lTup, lLst, lCB, lBM, lSl, lPart, lNext, lIt, lRng1, lRng2, lAsg, lPar, lSetI, lSetA, lAugS, lLc, lZip, lNeg, lCall, lChain, List.getElem?_cons_zero, List.getElem?_cons_succ, List.set_cons_zero, List.set_cons_succ, wipeE, intP, intE]
  unfold dueV at q
  cases hst : stopS w.l w.r s 0 0 0 with
  | some k =>
    rw [hst] at q
    simp only [optN, isN, if_true]
    exact ⟨by simp [sizeL], q _ .refl⟩
  | none =>
    rw [hst] at q
    simp only [optN, isN, Bool.not_true, Bool.false_eq_true, if_false]
    try dsimp only
    rw [lSeq, lAsg]
    simp only [lSet, lRet, lRetN, lDrop, lOp, lVar, lC, lB, lT, lAnd, lOr, lNot, lIf, lAndV, lOrV, lNotV, lNil, lCons, lTup, lLst, lCB, lBM, lSl, lPart, lNext, lIt, lRng1, lRng2, lAsg, lPar, lSetI, lSetA, lAugS, lLc, lZip, lNeg, lCall, lChain, List.getElem?_cons_zero, List.getElem?_cons_succ, List.set_cons_zero, List.set_cons_succ, wipeE, intP, intE]
    refine ⟨by simp [sizeL], w.p, rfl, ?_⟩
    refine ⟨w, t, lagK w.p, s, rfl, et, hn, hm, lagK_is w hn hm, hs, hl, hst, fun h1 k1 => ?_⟩
    simp only [lBind, Pat.bind, Pat.binds, List.set_cons_zero, List.set_cons_succ]
    replace q := q _ k1
    simp only at q
    unfold lossO at q
    rw [kept_lagK hl] at q
    rw [lSeq, lIfS]
    simp only [lSet, lRet, lRetN, lDrop, lOp, lVar, lC, lB, lT, lAnd, lOr, lNot, lIf, lAndV, lOrV, lNotV, lNil, lCons, lTup, lLst, lCB, lBM, lSl, lPart, lNext, lIt, lRng1, lRng2, lAsg, lPar, lSetI, lSetA, lAugS, lLc, lZip, lNeg, lCall, lChain, List.getElem?_cons_zero, List.getElem?_cons_succ, List.set_cons_zero, List.set_cons_succ, wipeE, intP, intE]
    cases hv : w.rest (endS s 0 0).1 (endS s 0 0).2 with
    | none =>
      rw [hv] at q
      simp only [Option.map_none, optE, isN, Bool.not_false, if_true]
      refine ⟨by simp [sizeL], ?_⟩
      cases hd : decide (lagK w.p < wide s) <;> rw [hd] at q <;> exact q
    | some v =>
      rw [hv] at q
      simp only [Option.map_some, optE, isN, Bool.false_eq_true, if_false]
      cases hb : w.rest 0 0 with
      | none =>
        rw [hb] at q
        simp only [optE, isN, Bool.not_false, if_true]
        refine ⟨by simp [sizeL], ?_⟩
        cases hd : decide (lagK w.p < wide s) <;> rw [hd] at q <;> exact q
      | some u =>
        rw [hb] at q
        simp only [optE, isN, Bool.false_eq_true, if_false]
        refine ⟨s, rfl, hs, w.p, rfl, ?_⟩
        simp only [gtE, intP]
        cases hd : decide (lagK w.p < wide s) with
        | true =>
          rw [hd] at q
          simp only [if_true]
          exact ⟨by simp [sizeL], q⟩
        | false =>
          rw [hd] at q
          simp only [Bool.false_eq_true, if_false, subE, intP]
          exact ⟨by simp [sizeL], q⟩
theorem priceS_costS {c c' : Tab} (e : ∀ x, cost c x = cost c' x) (l r : List Int) : ∀ (s : List Nat) (i j : Nat), priceS (cost c) l r s i j = priceS (cost c') l r s i j
  | [], _, _ => rfl
  | d :: s, i, j => by
    rw [priceS, priceS, priceS_costS e l r s]
    unfold stepCost
    rw [e, e]
theorem lossO_cost {w : Wd} {c : Tab} (hc : ∀ x, cost c x = cost w.c x) (s : List Nat) : lossO { w with c := c } s = lossO w s := by
  unfold lossO
  rw [sameC_rest hc]
  have := priceS_costS hc w.l w.r s 0 0
  simp only [this]
def sp__law_loss_told (ad : Ad) : LSp := fun evs h Q => ∃ (w : Wd) (p : Nat) (c : Tab) (s : List Nat), evs = [.str s, tx w.l, tx w.r, .ref p, w.p.e] ∧ PrAt ad h p c ∧ (∀ x, cost c x = cost w.c x) ∧ w.n ≤ 1000 ∧ w.m ≤ 1000 ∧ PromNN w.p ∧ StepC s ∧ s.length ≤ 1000 ∧ ∀ h', Keep no1 h h' → Q (dueV w s) h'
abbrev N__law_loss_told : List Str := ["_law_script_here", "_law_left", "_law_right", "_law_prices", "_law_promise_here", "e"]
def t__law_loss_told (ad : Ad) : LS :=
    lTry (fun W =>
      lRet (lTup (lCons (lC (.str [116, 111, 108, 100])) (lCons (lCallX (sp_loss_of_script__X ad) W (lCons (lVar 1) (lCons (lVar 2) (lCons (lVar 3) (lCons (lVar 4) (lCons (lVar 0) (lNil))))))) (lNil))))) [(ad.a_NotAScript, "index", .tup [78, 111, 116, 65, 83, 99, 114, 105, 112, 116], 5)]
theorem len__law_loss_told (ad : Ad) (evs : List EV) (h : EH) (Q : EK) (q : sp__law_loss_told ad evs h Q) : evs.length = ["_law_script_here", "_law_left", "_law_right", "_law_prices", "_law_promise_here"].length := by
  obtain ⟨_, _, _, _, rfl, _⟩ := q; rfl
theorem pure__law_loss_told (ad : Ad) (evs : List EV) (h : EH) (Q : EK) (q : sp__law_loss_told ad evs h Q) : t__law_loss_told ad (endsOf Q) (startE N__law_loss_told evs) h := by
  obtain ⟨w, p, c, s, rfl, pr, hc, hn, hm, nn, hs, hl, q⟩ := q
  show t__law_loss_told ad (endsOf Q) [some (.str s), some (tx w.l), some (tx w.r), some (.ref p), some w.p.e, none] h
  unfold t__law_loss_told
  rw [lTry]
  intro mk' hmk
  have k0 : Keep no1 h (h ++ [mk']) := Keep.app _
  simp only [lSet, lRet, lRetN, lDrop, lOp, lVar, lC, lB, lT, lAnd, lOr, lNot, lIf, lAndV, lOrV, lNotV, lNil, lCons, lTup, lLst, lCB, lBM, lSl, lPart, lNext, lIt, lRng1, lRng2, lAsg, lPar, lSetI, lSetA, lAugS, lLc, lZip, lNeg, lCall, lChain, List.getElem?_cons_zero, List.getElem?_cons_succ, List.set_cons_zero, List.set_cons_succ, wipeE, intP, intE, lCallX]
  unfold dueV at q
  refine ⟨{ w with c := c }, p, s, rfl, pr.keep k0, hn, hm, nn, hs, hl, fun hst h' k => ?_, fun i hst h' k => ?_⟩
  · simp only at hst
    rw [hst] at q
    rw [lossO_cost hc]
    exact ⟨by simp [sizeL], q _ (k0.trans k)⟩
  · simp only at hst
    rw [hst] at q
    exact ⟨k.at new_at, .inl ⟨rfl, _, rfl, q _ (k0.trans k)⟩⟩
end Y

namespace Y
open PySem PySem.Spec PyProof.Rows L2

def sp__law_one__S (ad : Ad) : LSp := fun evs h Q => ∃ (b : Nat) (s : List Nat), evs = [.ref b, .str s] ∧ s ≠ [] ∧ s.length ≤ 1000 ∧ BagAt h b ∧ ∀ c h', c ∈ s → Keep (is1 b) h h' → BagAt h' b → Q (.str [c]) h'
abbrev N__law_one__S : List Str := ["_law_bag_here", "_law_some"]
def t__law_one__S (ad : Ad) : LS :=
    lRet (lOp ixA (lVar 1) (lCall (sp__law_take ad) (lCons (lVar 0) (lCons (lCB lenE (lCons (lVar 1) (lNil))) (lNil)))))
theorem len__law_one__S (ad : Ad) (evs : List EV) (h : EH) (Q : EK) (q : sp__law_one__S ad evs h Q) : evs.length = ["_law_bag_here", "_law_some"].length := by
  obtain ⟨_, _, rfl, _⟩ := q; rfl
theorem pure__law_one__S (ad : Ad) (evs : List EV) (h : EH) (Q : EK) (q : sp__law_one__S ad evs h Q) : t__law_one__S ad (endsOf Q) (startE N__law_one__S evs) h := by
  obtain ⟨b, s, rfl, hne, hl, B, q⟩ := q
  show t__law_one__S ad (endsOf Q) [some (.ref b), some (.str s)] h
  have hp := List.length_pos_iff.mpr hne
  simp only [t__law_one__S, lSeq, lSet, lRet, lRetN, lDrop, lIfS, lOp, lVar, lC, lB, lT, lAnd, lOr, lNot, lIf, lAndV, lOrV, lNotV, lNil, lCons, lTup, lLst, lCB, lBM, lSl, lPart, lNext, lFor, lIt, lRng1, lRng2, lAsg, lPar, lSetI, lSetA, lAugS, lLc, lZip, lNeg, lCall, lChain, List.getElem?_cons_zero, List.getElem?_cons_succ, List.set_cons_zero, List.set_cons_succ, truE, wipeE, intP, intE, lenE]
  refine ⟨by rw [sizeL]; omega, b, _, rfl, by omega, by omega, B, fun d h1 d0 d1 k1 B1 => ?_⟩
  obtain ⟨n, rfl⟩ := Int.eq_ofNat_of_zero_le d0
  have hn : n < s.length := by omega
  exact ia_s (by rw [sizeL]; omega) ((atI_n _ _).trans (List.getElem?_eq_getElem hn)) (q _ _ (List.getElem_mem hn) k1 B1)
def sp__law_script_k58 (ad : Ad) : LSp := fun evs h Q => ∃ (b : Nat) (l r : List Int), evs = [.ref b, tx l, tx r] ∧ BagAt h b ∧ ∀ (s : List Nat) (h' : EH), StepC s → s.length ≤ 30 → Keep (is1 b) h h' → BagAt h' b → Q (.str s) h'
abbrev N__law_script_k58 : List Str := ["_law_bag_here", "_law_left", "_law_right", "_law_found", "_law_way", "_law_at"]
def t__law_script_k58 (ad : Ad) : LS :=
    lSeq (lPar 3 4 (lCons (lCall (sp__law_walk ad) (lCons (lVar 0) (lCons (lVar 1) (lCons (lVar 2) (lCons (lCall (sp__law_take ad) (lCons (lVar 0) (lCons (lC (.int 13)) (lNil)))) (lNil)))))) (lCons (lCall (sp__law_take ad) (lCons (lVar 0) (lCons (lC (.int 5)) (lNil)))) (lNil)))) <|
    lSeq (lSet (lCall (sp__law_take ad) (lCons (lVar 0) (lCons (lOp addE (lCB lenE (lCons (lVar 3) (lNil))) (lC (.int 1))) (lNil)))) 5) <|
    lSeq (lIfS (lB (lOp (eqE false) (lVar 4) (lC (.int 0))))
      (lRet (lOp addE (lOp addE (lSl (lVar 3) (lPart none) (lPart (some (lVar 5)))) (lCall (sp__law_one__S ad) (lCons (lVar 0) (lCons (lC (.str [107, 100, 112])) (lNil))))) (lSl (lVar 3) (lPart (some (lVar 5))) (lPart none))))
      (lNext)) <|
    lSeq (lIfS (lB (lOp (eqE false) (lVar 4) (lC (.int 1))))
      (lRet (lOp addE (lSl (lVar 3) (lPart none) (lPart (some (lVar 5)))) (lSl (lVar 3) (lPart (some (lOp addE (lVar 5) (lC (.int 1))))) (lPart none))))
      (lNext)) <|
    lSeq (lIfS (lB (lOp (eqE false) (lVar 4) (lC (.int 2))))
      (lRet (lOp addE (lOp addE (lSl (lVar 3) (lPart none) (lPart (some (lVar 5)))) (lCall (sp__law_one__S ad) (lCons (lVar 0) (lCons (lC (.str [107, 100, 112])) (lNil))))) (lSl (lVar 3) (lPart (some (lOp addE (lVar 5) (lC (.int 1))))) (lPart none))))
      (lNext)) <|
    lRet (lIf (lB (lOp (eqE false) (lVar 4) (lC (.int 3)))) (lVar 3) (lOp addE (lVar 3) (lCall (sp__law_one ad) (lCons (lVar 0) (lCons (lLst (lCons (lC (.str [100])) (lCons (lC (.str [112])) (lCons (lC (.str [107])) (lCons (lC (.str [100, 100, 100, 100, 100, 100, 100, 100])) (lCons (lC (.str [112, 112, 112, 112, 112, 112, 112, 112])) (lCons (lC (.str [100, 112])) (lNil)))))))) (lNil))))))
theorem len__law_script_k58 (ad : Ad) (evs : List EV) (h : EH) (Q : EK) (q : sp__law_script_k58 ad evs h Q) : evs.length = ["_law_bag_here", "_law_left", "_law_right"].length := by
  obtain ⟨_, _, _, rfl, _⟩ := q; rfl
theorem pure__law_script_k58 (ad : Ad) (evs : List EV) (h : EH) (Q : EK) (q : sp__law_script_k58 ad evs h Q) : t__law_script_k58 ad (endsOf Q) (startE N__law_script_k58 evs) h := by
  obtain ⟨b, l, r, rfl, B, q⟩ := q
  show t__law_script_k58 ad (endsOf Q) [some (.ref b), some (tx l), some (tx r), none, none, none] h
  have sz : sizeLine = 16777216 := by decide
  unfold t__law_script_k58
  rw [lSeq, lPar]
  simp only [lSet, lRet, lRetN, lDrop, lOp, lVar, lC, lB, lT, lAnd, lOr, lNot, lIf, lAndV, lOrV, lNotV, lNil, lCons, lTup, lLst, lCB, lBM, lSl, lPart, lNext, lIt, lRng1, lRng2, lAsg, lPar, lSetI, lSetA, lAugS, lLc, lZip, lNeg, lCall, lChain, List.getElem?_cons_zero, List.getElem?_cons_succ, List.set_cons_zero, List.set_cons_succ, wipeE, intP, intE]
  refine ⟨b, 13, rfl, by decide, by decide, B, fun d h1 d0 d1 k1 B1 => ?_⟩
  obtain ⟨n, rfl⟩ := Int.eq_ofNat_of_zero_le d0
  refine ⟨b, n, l, r, rfl, B1, by omega, fun s h2 k2 B2 sc sl => ?_⟩
  refine ⟨b, 5, rfl, by decide, by decide, B2, fun w h3 w0 w1 k3 B3 => ?_⟩
  try dsimp only
  rw [lSeq, lSet]
  simp only [lSet, lRet, lRetN, lDrop, lOp, lVar, lC, lB, lT, lAnd, lOr, lNot, lIf, lAndV, lOrV, lNotV, lNil, lCons, lTup, lLst, lCB, lBM, lSl, lPart, lNext, lIt, lRng1, lRng2, lAsg, lPar, lSetI, lSetA, lAugS, lLc, lZip, lNeg, lCall, lChain, List.getElem?_cons_zero, List.getElem?_cons_succ, List.set_cons_zero, List.set_cons_succ, wipeE, intP, intE, lenE, addE]
  refine ⟨by omega, b, _, rfl, by omega, by omega, B3, fun a h4 a0 a1 k4 B4 => ?_⟩
  obtain ⟨a, rfl⟩ := Int.eq_ofNat_of_zero_le a0
  have k04 := ((k1.trans k2).trans k3).trans k4
  have hkdp : ∀ c, c ∈ ([107, 100, 112] : List Nat) → isStep c := fun c hc => by
    simp only [List.mem_cons, List.not_mem_nil, or_false] at hc
    rcases hc with rfl | rfl | rfl
    · exact .inl rfl
    · exact .inr (.inl rfl)
    · exact .inr (.inr rfl)
  have scT : StepC (s.take a) := fun y hy => sc y (List.mem_of_mem_take hy)
  have scD : ∀ m, StepC (s.drop m) := fun m y hy => sc y (List.mem_of_mem_drop hy)
  have ap3 : ∀ {x y : List Nat}, StepC x → StepC y → StepC (x ++ y) := fun hx hy c hc => by
    rcases List.mem_append.mp hc with z | z
    · exact hx c z
    · exact hy c z
  have one : ∀ (P : EK), (∀ c h5, isStep c → Keep (is1 b) h h5 → BagAt h5 b → P (.str [c]) h5) → sp__law_one__S ad [.ref b, .str [107, 100, 112]] h4 P := fun P p => ⟨b, [107, 100, 112], rfl, by simp, by simp, B4, fun c h5 hc k5 B5 => p c h5 (hkdp c hc) (k04.trans k5) B5⟩
  have adds : ∀ (x m : List Nat) (P : EK) (g : EH), x.length ≤ 2000 → m.length ≤ 2000 → P (.str (x ++ m)) g → addE (.str x) (.str m) g P := fun x m P g h1 h2 p => ⟨by omega, p⟩
  have lT : (s.take a).length ≤ 12 := by rw [List.length_take]; omega
  have lD : ∀ m, (s.drop m).length ≤ 12 := fun m => by rw [List.length_drop]; omega
  have s1 : ∀ c, isStep c → StepC [c] := fun c hc y hy => by rw [List.mem_singleton.mp hy]; exact hc
  try dsimp only
  rw [lSeq, lIfS]
  simp only [lSet, lRet, lRetN, lDrop, lOp, lVar, lC, lB, lT, lAnd, lOr, lNot, lIf, lAndV, lOrV, lNotV, lNil, lCons, lTup, lLst, lCB, lBM, lSl, lPart, lNext, lIt, lRng1, lRng2, lAsg, lPar, lSetI, lSetA, lAugS, lLc, lZip, lNeg, lCall, lChain, List.getElem?_cons_zero, List.getElem?_cons_succ, List.set_cons_zero, List.set_cons_succ, wipeE, intP, intE]
  refine eq_i ?_
  by_cases e0 : w = 0
  · simp only [e0, decide_true, Bool.false_xor, if_true]
    refine sl_s (by omega) ?_
    rw [cut_to]
    refine one _ fun c h5 hc k5 B5 => adds _ _ _ _ (by omega) (by simp) (sl_s (by omega) ?_)
    rw [cut_from]
    refine adds _ _ _ _ (by simp only [List.length_append, List.length_singleton]; omega) (by have := lD a; omega) ?_
    exact q _ _ (ap3 (ap3 scT (s1 c hc)) (scD a)) (by simp only [List.length_append, List.length_singleton]; have := lD a; omega) k5 B5
  simp only [e0, decide_false, Bool.false_xor, Bool.false_eq_true, if_false]
  try rw [lSeq, lIfS]
  try simp only [lSet, lRet, lRetN, lDrop, lOp, lVar, lC, lB, lT, lAnd, lOr, lNot, lIf, lAndV, lOrV, lNotV, lNil, lCons, lTup, lLst, lCB, lBM, lSl, lPart, lNext, lIt, lRng1, lRng2, lAsg, lPar, lSetI, lSetA, lAugS, lLc, lZip, lNeg, lCall, lChain, List.getElem?_cons_zero, List.getElem?_cons_succ, List.set_cons_zero, List.set_cons_succ, wipeE, intP, intE]
  refine eq_i ?_
  by_cases e1 : w = 1
  · simp only [e1, decide_true, Bool.false_xor, if_true]
    refine sl_s (by omega) ?_
    rw [cut_to]
    try simp only [addE]
    rw [show (a : Int) + 1 = ((a + 1 : Nat) : Int) by omega]
    refine sl_s (by omega) ?_
    rw [cut_from]
    refine adds _ _ _ _ (by omega) (by have := lD (a + 1); omega) ?_
    exact q _ _ (ap3 scT (scD _)) (by simp only [List.length_append]; have := lD (a + 1); omega) k04 B4
  simp only [e1, decide_false, Bool.false_xor, Bool.false_eq_true, if_false]
  try rw [lSeq, lIfS]
  try simp only [lSet, lRet, lRetN, lDrop, lOp, lVar, lC, lB, lT, lAnd, lOr, lNot, lIf, lAndV, lOrV, lNotV, lNil, lCons, lTup, lLst, lCB, lBM, lSl, lPart, lNext, lIt, lRng1, lRng2, lAsg, lPar, lSetI, lSetA, lAugS, lLc, lZip, lNeg, lCall, lChain, List.getElem?_cons_zero, List.getElem?_cons_succ, List.set_cons_zero, List.set_cons_succ, wipeE, intP, intE]
  refine eq_i ?_
  by_cases e2 : w = 2
  · simp only [e2, decide_true, Bool.false_xor, if_true]
    refine sl_s (by omega) ?_
    rw [cut_to]
    refine one _ fun c h5 hc k5 B5 => adds _ _ _ _ (by omega) (by simp) ?_
    try simp only [addE]
    rw [show (a : Int) + 1 = ((a + 1 : Nat) : Int) by omega]
    refine sl_s (by omega) ?_
    rw [cut_from]
    refine adds _ _ _ _ (by simp only [List.length_append, List.length_singleton]; omega) (by have := lD (a + 1); omega) ?_
    exact q _ _ (ap3 (ap3 scT (s1 c hc)) (scD _)) (by simp only [List.length_append, List.length_singleton]; have := lD (a + 1); omega) k5 B5
  simp only [e2, decide_false, Bool.false_xor, Bool.false_eq_true, if_false]
  try simp only [lSet, lRet, lRetN, lDrop, lOp, lVar, lC, lB, lT, lAnd, lOr, lNot, lIf, lAndV, lOrV, lNotV, lNil, lCons, lTup, lLst, lCB, lBM, lSl, lPart, lNext, lIt, lRng1, lRng2, lAsg, lPar, lSetI, lSetA, lAugS, lLc, lZip, lNeg, lCall, lChain, List.getElem?_cons_zero, List.getElem?_cons_succ, List.set_cons_zero, List.set_cons_succ, wipeE, intP, intE]
  refine eq_i ?_
  by_cases e3 : w = 3
  · simp only [e3, decide_true, Bool.false_xor, if_true]
    exact q s _ sc (by omega) k04 B4
  simp only [e3, decide_false, Bool.false_xor, Bool.false_eq_true, if_false]
  have hb4 := B4.lt
  refine ⟨by simp [sizeL], b, h4.length, _, rfl, new_at, by simp, by simp [sizeL], by omega, B4.keep (Keep.app _), fun x h5 hx k5 B5 => ?_⟩
  obtain ⟨m, hm, lm, rfl⟩ : ∃ m : List Nat, StepC m ∧ m.length ≤ 8 ∧ x = .str m := by
    have hd : ∀ n, StepC (List.replicate n 100) := fun n y hy => by rw [List.eq_of_mem_replicate hy]; exact .inr (.inl rfl)
    have hp : ∀ n, StepC (List.replicate n 112) := fun n y hy => by rw [List.eq_of_mem_replicate hy]; exact .inr (.inr rfl)
    simp only [List.mem_cons, List.not_mem_nil, or_false] at hx
    rcases hx with rfl | rfl | rfl | rfl | rfl | rfl
    · exact ⟨_, s1 100 (.inr (.inl rfl)), by simp, rfl⟩
    · exact ⟨_, s1 112 (.inr (.inr rfl)), by simp, rfl⟩
    · exact ⟨_, s1 107 (.inl rfl), by simp, rfl⟩
    · exact ⟨_, hd 8, by simp, rfl⟩
    · exact ⟨_, hp 8, by simp, rfl⟩
    · exact ⟨[100, 112], ap3 (s1 100 (.inr (.inl rfl))) (s1 112 (.inr (.inr rfl))), by simp, rfl⟩
  refine adds _ _ _ _ (by omega) (by omega) ?_
  exact q _ _ (ap3 sc hm) (by rw [List.length_append]; omega) ((k04.trans (Keep.app _)).trans k5) B5
end Y

namespace Y
open PySem PySem.Spec PyProof.Rows L2

theorem stop_snoc (l r : List Int) (c : Nat) : ∀ (s : List Nat) (i j k : Nat), stopS l r s i j k = none → canDo l r c (endS s i j).1 (endS s i j).2 = true → stopS l r (s ++ [c]) i j k = none
  | [], i, j, k, _, h => by
    have h' : canDo l r c i j = true := h
    rw [List.nil_append, stopS]
    rw [if_pos h']
    rfl
  | d :: s, i, j, k, h1, h2 => by
    rw [stopS] at h1
    split at h1
    · rename_i hd
      rw [List.cons_append, stopS, if_pos hd]
      exact stop_snoc l r c s _ _ _ h1 h2
    · cases h1
theorem price_snoc (f : Int → Int × Int) (l r : List Int) (c : Nat) : ∀ (s : List Nat) (i j : Nat), priceS f l r (s ++ [c]) i j = priceS f l r s i j + stepCost f l r c (endS s i j).1 (endS s i j).2
  | [], i, j => by simp [priceS, endS]
  | d :: s, i, j => by
    rw [List.cons_append, priceS, priceS, price_snoc f l r c s, endS]
    omega
theorem eq_ov {o : Option Int} {v : Int} {h : EH} {P : EK} (p : P (.bl (decide (o = some v))) h) : eqE false (optE o) (.int v) h P := by
  cases o with
  | none =>
    unfold eqE
    exact ⟨.none, .int v, .non, .int v, by simpa [PyData.eqv] using p⟩
  | some u => exact eq_i (by simpa using p)
def sp__law_leading (ad : Ad) : LSp := fun evs h Q => ∃ (w : Wd) (t : Nat), evs = [tx w.l, tx w.r, .ref t, .int 1000000, ptE 0 0, ptE w.n w.m] ∧ w.p = .none ∧ h[t]? = some (.dic (tabKV w.c)) ∧ w.n ≤ 1000 ∧ w.m ≤ 1000 ∧
  ∀ (s : List Nat) (h' : EH), Keep no1 h h' → StepC s → s.length ≤ w.n + w.m → stopS w.l w.r s 0 0 0 = none → endS s 0 0 = (w.n, w.m) → w.rest 0 0 = some (priceS (cost w.c) w.l w.r s 0 0) → Q (.tup [.str s, .int (priceS (cost w.c) w.l w.r s 0 0)]) h'
abbrev N__law_leading : List Str := ["_law_left", "_law_right", "_law_table", "_law_lag_here", "_law_spot_here", "_law_aim", "_law_rows", "_law_i", "_law_j", "_law_found", "_law_price", "_law_turn", "_law_here"]
def t__law_leading (ad : Ad) : LS :=
    lSeq (lAsg (lTup (lCons (lCall (sp__law_behind ad) (lCons (lSl (lVar 0) (lPart none) (lPart (some (lOp ixA (lVar 5) (lC (.int 0)))))) (lCons (lSl (lVar 1) (lPart none) (lPart (some (lOp ixA (lVar 5) (lC (.int 1)))))) (lCons (lVar 2) (lCons (lVar 3) (lNil)))))) (lCons (lVar 4) (lCons (lC (.str [])) (lNil))))) (.tp [.nm 6, .tp [.nm 7, .nm 8], .nm 9])) <|
    lSeq (lSet (lOp ixA (lOp ixA (lVar 6) (lVar 7)) (lVar 8)) 10) <|
    lSeq (lIfS (lB (lOp (isN false) (lVar 10) (lC .non)))
      (lRet (lC .non))
      (lNext)) <|
    lSeq (lFor (lRng1 (lCons (lOp subE (lOp addE (lOp subE (lOp ixA (lVar 5) (lC (.int 0))) (lVar 7)) (lOp ixA (lVar 5) (lC (.int 1)))) (lVar 8)) (lNil))) (.nm 11)
      (lSeq (lSet (lOp ixA (lOp ixA (lVar 6) (lVar 7)) (lVar 8)) 12) <|
    lIfS (lAnd (lB (lOp ltE (lVar 7) (lOp ixA (lVar 5) (lC (.int 0))))) (lAnd (lB (lOp ltE (lVar 8) (lOp ixA (lVar 5) (lC (.int 1))))) (lAnd (lB (lOp (eqE false) (lOp ixA (lVar 0) (lVar 7)) (lOp ixA (lVar 1) (lVar 8)))) (lB (lOp (eqE false) (lOp ixA (lOp ixA (lVar 6) (lOp addE (lVar 7) (lC (.int 1)))) (lOp addE (lVar 8) (lC (.int 1)))) (lVar 12))))))
      (lPar3 9 7 8 (lCons (lOp addE (lVar 9) (lC (.str [107]))) (lCons (lOp addE (lVar 7) (lC (.int 1))) (lCons (lOp addE (lVar 8) (lC (.int 1))) (lNil)))))
      (lIfS (lAnd (lB (lOp ltE (lVar 7) (lOp ixA (lVar 5) (lC (.int 0))))) (lAnd (lB (lOp (isN true) (lOp ixA (lOp ixA (lVar 6) (lOp addE (lVar 7) (lC (.int 1)))) (lVar 8)) (lC .non))) (lB (lOp (eqE false) (lOp addE (lOp ixA (lOp ixA (lVar 6) (lOp addE (lVar 7) (lC (.int 1)))) (lVar 8)) (lOp ixA (lCall (sp__law_costs ad) (lCons (lVar 2) (lCons (lOp ixA (lVar 0) (lVar 7)) (lNil)))) (lC (.int 0)))) (lVar 12)))))
      (lPar 9 7 (lCons (lOp addE (lVar 9) (lC (.str [100]))) (lCons (lOp addE (lVar 7) (lC (.int 1))) (lNil))))
      (lIfS (lB (lOp ltE (lVar 8) (lOp ixA (lVar 5) (lC (.int 1)))))
      (lPar 9 8 (lCons (lOp addE (lVar 9) (lC (.str [112]))) (lCons (lOp addE (lVar 8) (lC (.int 1))) (lNil))))
      (lNext))))) <|
    lRet (lTup (lCons (lVar 9) (lCons (lVar 10) (lNil))))
theorem len__law_leading (ad : Ad) (evs : List EV) (h : EH) (Q : EK) (q : sp__law_leading ad evs h Q) : evs.length = ["_law_left", "_law_right", "_law_table", "_law_lag_here", "_law_spot_here", "_law_aim"].length := by
  obtain ⟨_, _, rfl, _⟩ := q; rfl
theorem pure__law_leading (ad : Ad) (evs : List EV) (h : EH) (Q : EK) (q : sp__law_leading ad evs h Q) : t__law_leading ad (endsOf Q) (startE N__law_leading evs) h := by
  obtain ⟨w, t, rfl, hp, et, hn, hm, q⟩ := q
  show t__law_leading ad (endsOf Q) [some (tx w.l), some (tx w.r), some (.ref t), some (.int 1000000), some (ptE 0 0), some (ptE w.n w.m), none, none, none, none, none, none, none] h
  have sz : sizeLine = 16777216 := by decide
  have wn : w.n = w.l.length := rfl
  have wm : w.m = w.r.length := rfl
  have ok : ∀ i j, w.p.ok i j = true := fun i j => by rw [hp]; rfl
  have reach : ∀ i j, i ≤ w.n → j ≤ w.m → ∃ v, w.rest i j = some v := fun i j hi hj => Option.ne_none_iff_exists'.mp (Wd.rest_reach (by rw [hp]; trivial) (ok _ _) _ i j hi hj (Nat.le_refl _) (ok _ _))
  have hL : LagIs w 1000000 := by
    have := lagK_is w hn hm
    rw [hp] at this
    exact this
  unfold t__law_leading
  rw [lSeq, lAsg]
  simp only [lSet, lRet, lRetN, lDrop, lOp, lVar, lC, lB, lT, lAnd, lOr, lNot, lIf, lAndV, lOrV, lNotV, lNil, lCons, lTup, lLst, lCB, lBM, lSl, lPart, lNext, lIt, lRng1, lRng2, lAsg, lPar, lSetI, lSetA, lAugS, lLc, lZip, lNeg, lCall, lChain, List.getElem?_cons_zero, List.getElem?_cons_succ, List.set_cons_zero, List.set_cons_succ, wipeE, intP, intE]
  refine ia_t at0 ?_
  simp only [slE]
  rw [wn, cut_to, List.take_of_length_le (by simp)]
  refine ia_t at1 ?_
  simp only [slE]
  rw [wm, cut_to, List.take_of_length_le (by simp)]
  refine ⟨w, t, 1000000, rfl, et, hn, hm, hL, fun r h1 k1 z => ⟨by simp [sizeL], ?_⟩⟩
  simp only [lBind, Pat.bind, Pat.binds, ptE, List.set_cons_zero, List.set_cons_succ]
  have cell : ∀ (x y : Nat) (P : EK), x ≤ w.n → y ≤ w.m → P (optE (w.rest x y)) h1 → ixA (.ref r) (.int x) h1 fun v h2 => ixA v (.int y) h2 P := fun x y P hx hy p => z.get hx hy p
  obtain ⟨v0, hv0⟩ := reach 0 0 (Nat.zero_le _) (Nat.zero_le _)
  rw [lSeq, lSet]
  simp only [lSet, lRet, lRetN, lDrop, lOp, lVar, lC, lB, lT, lAnd, lOr, lNot, lIf, lAndV, lOrV, lNotV, lNil, lCons, lTup, lLst, lCB, lBM, lSl, lPart, lNext, lIt, lRng1, lRng2, lAsg, lPar, lSetI, lSetA, lAugS, lLc, lZip, lNeg, lCall, lChain, List.getElem?_cons_zero, List.getElem?_cons_succ, List.set_cons_zero, List.set_cons_succ, wipeE, intP, intE]
  refine cell 0 0 _ (Nat.zero_le _) (Nat.zero_le _) ?_
  rw [hv0]
  try dsimp only
  rw [lSeq, lIfS]
  simp only [lSet, lRet, lRetN, lDrop, lOp, lVar, lC, lB, lT, lAnd, lOr, lNot, lIf, lAndV, lOrV, lNotV, lNil, lCons, lTup, lLst, lCB, lBM, lSl, lPart, lNext, lIt, lRng1, lRng2, lAsg, lPar, lSetI, lSetA, lAugS, lLc, lZip, lNeg, lCall, lChain, List.getElem?_cons_zero, List.getElem?_cons_succ, List.set_cons_zero, List.set_cons_succ, wipeE, intP, intE, optE, isN, Bool.false_eq_true, if_false]
  rw [lSeq, lFor]
  simp only [lSet, lRet, lRetN, lDrop, lOp, lVar, lC, lB, lT, lAnd, lOr, lNot, lIf, lAndV, lOrV, lNotV, lNil, lCons, lTup, lLst, lCB, lBM, lSl, lPart, lNext, lIt, lRng1, lRng2, lAsg, lPar, lSetI, lSetA, lAugS, lLc, lZip, lNeg, lCall, lChain, List.getElem?_cons_zero, List.getElem?_cons_succ, List.set_cons_zero, List.set_cons_succ, wipeE, intP, intE]
  refine ia_t at0 ?_
  simp only [subE, intP]
  refine ia_t at1 ?_
  simp only [addE, subE, intP]
  rw [show (((w.l.length : Int) - ((0 : Nat) : Int)) + (w.r.length : Int) - ((0 : Nat) : Int)).toNat = w.l.length + w.r.length by omega]
  refine ⟨by omega, ?_⟩
  refine loopN (w.l.length + w.r.length) (fun k env h' => ∃ (i j : Nat) (s : List Nat) (v : Int) (x11 x12 : Option EV), env = [some (tx w.l), some (tx w.r), some (.ref t), some (.int 1000000), some (ptE 0 0), some (ptE w.l.length w.r.length), some (.ref r), some (.int i), some (.int j), some (.str s), some (.int v0), x11, x12] ∧ h' = h1 ∧ i ≤ w.n ∧ j ≤ w.m ∧ (w.n - i) + (w.m - j) + k ≤ w.n + w.m ∧ StepC s ∧ s.length ≤ k ∧ endS s 0 0 = (i, j) ∧ stopS w.l w.r s 0 0 0 = none ∧ w.rest i j = some v ∧ v0 = priceS (cost w.c) w.l w.r s 0 0 + v) ?_ ?_ _ _ ⟨0, 0, [], v0, none, none, rfl, rfl, Nat.zero_le _, Nat.zero_le _, by omega, (fun c hc => by cases hc), Nat.le_refl _, rfl, rfl, hv0, by simp [priceS]⟩
  · rintro env h' ⟨i, j, s, v, x11, x12, rfl, rfl, hi, hj, hk, sc, sl, es, st, hv, ev⟩
    refine ⟨trivial, ?_⟩
    have hi' : i = w.n := by omega
    have hj' : j = w.m := by omega
    subst hi' hj'
    have e0 : w.rest w.n w.m = some 0 := w.g.rest_end (ok _ _)
    rw [e0] at hv
    cases hv
    rw [Int.add_zero] at ev
    simp only [lSet, lRet, lRetN, lDrop, lOp, lVar, lC, lB, lT, lAnd, lOr, lNot, lIf, lAndV, lOrV, lNotV, lNil, lCons, lTup, lLst, lCB, lBM, lSl, lPart, lNext, lIt, lRng1, lRng2, lAsg, lPar, lSetI, lSetA, lAugS, lLc, lZip, lNeg, lCall, lChain, List.getElem?_cons_zero, List.getElem?_cons_succ, List.set_cons_zero, List.set_cons_succ, wipeE, intP, intE]
    refine ⟨by simp [sizeL], ?_⟩
    rw [ev]
    exact q s _ k1 sc (by omega) st es (by rw [hv0, ev])
  rintro k env h' kk hk0 ⟨i, j, s, v, x11, x12, rfl, rfl, hi, hj, hk, sc, sl, es, st, hv, ev⟩ hkk
  refine ⟨trivial, bind_nm ?_⟩
  simp only [List.set_cons_zero, List.set_cons_succ]
  have c1 : ∀ a : Nat, ((a : Int) + 1) = ((a + 1 : Nat) : Int) := fun a => by omega
  rw [lSeq, lSet]
  simp only [lSet, lRet, lRetN, lDrop, lOp, lVar, lC, lB, lT, lAnd, lOr, lNot, lIf, lAndV, lOrV, lNotV, lNil, lCons, lTup, lLst, lCB, lBM, lSl, lPart, lNext, lIt, lRng1, lRng2, lAsg, lPar, lSetI, lSetA, lAugS, lLc, lZip, lNeg, lCall, lChain, List.getElem?_cons_zero, List.getElem?_cons_succ, List.set_cons_zero, List.set_cons_succ, wipeE, intP, intE]
  refine cell i j _ hi hj ?_
  rw [hv]
  try dsimp only
  simp only [optE]
  have la : i < w.l.length → atI (w.l.map EV.int) (i : Int) = some (.int (w.l.getD i 0)) := fun ha => tx_at ha
  have ra : j < w.r.length → atI (w.r.map EV.int) (j : Int) = some (.int (w.r.getD j 0)) := fun ha => tx_at ha
  have next : ∀ (c : Nat) (u : Int) (i' j' : Nat), isStep c → canDo w.l w.r c i j = true → mvI i c = i' → mvJ j c = j' → w.rest i' j' = some u → v = u + stepCost (cost w.c) w.l w.r c i j → i' ≤ w.n → j' ≤ w.m → kk [some (tx w.l), some (tx w.r), some (.ref t), some (.int 1000000), some (ptE 0 0), some (ptE w.l.length w.r.length), some (.ref r), some (.int i'), some (.int j'), some (.str (s ++ [c])), some (.int v0), some (.int (k : Nat)), some (.int v)] h' := by
    rintro c u i' j' hc cd rfl rfl hu e1 hi' hj'
    refine hkk _ _ ⟨_, _, s ++ [c], u, _, _, rfl, rfl, hi', hj', ?_, ?_, by simp; omega, by rw [endS_snoc, es], stop_snoc _ _ _ _ _ _ _ st (by rw [es]; exact cd), hu, ?_⟩
    · rcases hc with rfl | rfl | rfl <;> simp [mvI, mvJ, canDo] at cd hi' hj' ⊢ <;> omega
    · intro y hy
      rcases List.mem_append.mp hy with z | z
      · exact sc y z
      · rw [List.mem_singleton.mp z]; exact hc
    · rw [price_snoc, es, ev, e1]
      simp only
      omega
  have addS : ∀ (c : Nat) (P : EK) (g : EH), P (.str (s ++ [c])) g → addE (.str s) (.str [c]) g P := fun c P g p => ⟨by simp; omega, p⟩
  -- keep
  rw [lIfS]
  have cond1 : ∀ (P : Bool → EH → Prop), P (decide (i < w.n) && (decide (j < w.m) && (decide (w.l.getD i 0 = w.r.getD j 0) && decide (w.rest (i + 1) (j + 1) = some v)))) h' → (lAnd (lB (lOp ltE (lVar 7) (lOp ixA (lVar 5) (lC (.int 0))))) (lAnd (lB (lOp ltE (lVar 8) (lOp ixA (lVar 5) (lC (.int 1))))) (lAnd (lB (lOp (eqE false) (lOp ixA (lVar 0) (lVar 7)) (lOp ixA (lVar 1) (lVar 8)))) (lB (lOp (eqE false) (lOp ixA (lOp ixA (lVar 6) (lOp addE (lVar 7) (lC (.int 1)))) (lOp addE (lVar 8) (lC (.int 1)))) (lVar 12)))))) [some (tx w.l), some (tx w.r), some (.ref t), some (.int 1000000), some (ptE 0 0), some (ptE w.l.length w.r.length), some (.ref r), some (.int i), some (.int j), some (.str s), some (.int v0), some (.int (k : Nat)), some (.int v)] h' P := by
    intro P hP
    simp only [lSet, lRet, lRetN, lDrop, lOp, lVar, lC, lB, lT, lAnd, lOr, lNot, lIf, lAndV, lOrV, lNotV, lNil, lCons, lTup, lLst, lCB, lBM, lSl, lPart, lNext, lIt, lRng1, lRng2, lAsg, lPar, lSetI, lSetA, lAugS, lLc, lZip, lNeg, lCall, lChain, List.getElem?_cons_zero, List.getElem?_cons_succ, List.set_cons_zero, List.set_cons_succ, wipeE, intP, intE]
    refine ia_t at0 ?_
    simp only [ltE, intP]
    by_cases hi0 : i < w.n
    case neg =>
      rw [decide_eq_false (show ¬((i : Int) < (w.l.length : Int)) by omega)]
      simp only [Bool.false_eq_true, if_false]
      simpa [hi0] using hP
    rw [decide_eq_true (show ((i : Int) < (w.l.length : Int)) by omega)]
    simp only [if_true]
    refine ia_t at1 ?_
    simp only [ltE, intP]
    by_cases hj0 : j < w.m
    case neg =>
      rw [decide_eq_false (show ¬((j : Int) < (w.r.length : Int)) by omega)]
      simp only [Bool.false_eq_true, if_false]
      simpa [hj0] using hP
    rw [decide_eq_true (show ((j : Int) < (w.r.length : Int)) by omega)]
    simp only [if_true]
    refine ia_t (la hi0) (ia_t (ra hj0) (eq_i ?_))
    by_cases hs : w.l.getD i 0 = w.r.getD j 0
    case neg =>
      simp only [hs, decide_false, Bool.false_xor, Bool.false_eq_true, if_false]
      simp only [hs, decide_false, Bool.false_and, Bool.and_false] at hP
      exact hP
    simp only [hs, decide_true, Bool.false_xor, if_true, addE]
    rw [c1, c1]
    refine cell (i + 1) (j + 1) _ (by omega) (by omega) (eq_ov ?_)
    simp only [hi0, hj0, hs, decide_true, Bool.true_and] at hP
    exact hP
  refine cond1 _ ?_
  by_cases hb1 : (i < w.n ∧ j < w.m ∧ w.l.getD i 0 = w.r.getD j 0 ∧ w.rest (i + 1) (j + 1) = some v)
  · simp only [hb1.1, hb1.2.1, hb1.2.2.1, hb1.2.2.2, decide_true, Bool.and_self, if_true]
    rw [lPar3]
    simp only [lSet, lRet, lRetN, lDrop, lOp, lVar, lC, lB, lT, lAnd, lOr, lNot, lIf, lAndV, lOrV, lNotV, lNil, lCons, lTup, lLst, lCB, lBM, lSl, lPart, lNext, lIt, lRng1, lRng2, lAsg, lPar, lSetI, lSetA, lAugS, lLc, lZip, lNeg, lCall, lChain, List.getElem?_cons_zero, List.getElem?_cons_succ, List.set_cons_zero, List.set_cons_succ, wipeE, intP, intE]
    refine addS 107 _ _ ?_
    simp only [addE]
    rw [c1, c1]
    exact next 107 v (i + 1) (j + 1) (.inl rfl) (by unfold canDo; rw [if_neg (by decide), if_neg (by decide)]; simp only [Bool.and_eq_true, decide_eq_true_eq]; exact ⟨⟨hb1.1, hb1.2.1⟩, hb1.2.2.1⟩) rfl rfl hb1.2.2.2 (by simp [stepCost]) (by omega) (by omega)
  have hf1 : (decide (i < w.n) && (decide (j < w.m) && (decide (w.l.getD i 0 = w.r.getD j 0) && decide (w.rest (i + 1) (j + 1) = some v)))) = false := by
    rw [Bool.eq_false_iff]
    simp only [ne_eq, Bool.and_eq_true, decide_eq_true_eq]
    exact hb1
  simp only [hf1, Bool.false_eq_true, if_false]
  -- drop
  rw [lIfS]
  have cond2 : ∀ (P : Bool → EH → Prop), P (decide (i < w.n) && decide (oadd (w.rest (i + 1) j) (w.g.drop i) = some v)) h' → (lAnd (lB (lOp ltE (lVar 7) (lOp ixA (lVar 5) (lC (.int 0))))) (lAnd (lB (lOp (isN true) (lOp ixA (lOp ixA (lVar 6) (lOp addE (lVar 7) (lC (.int 1)))) (lVar 8)) (lC .non))) (lB (lOp (eqE false) (lOp addE (lOp ixA (lOp ixA (lVar 6) (lOp addE (lVar 7) (lC (.int 1)))) (lVar 8)) (lOp ixA (lCall (sp__law_costs ad) (lCons (lVar 2) (lCons (lOp ixA (lVar 0) (lVar 7)) (lNil)))) (lC (.int 0)))) (lVar 12))))) [some (tx w.l), some (tx w.r), some (.ref t), some (.int 1000000), some (ptE 0 0), some (ptE w.l.length w.r.length), some (.ref r), some (.int i), some (.int j), some (.str s), some (.int v0), some (.int (k : Nat)), some (.int v)] h' P := by
    intro P hP
    simp only [lSet, lRet, lRetN, lDrop, lOp, lVar, lC, lB, lT, lAnd, lOr, lNot, lIf, lAndV, lOrV, lNotV, lNil, lCons, lTup, lLst, lCB, lBM, lSl, lPart, lNext, lIt, lRng1, lRng2, lAsg, lPar, lSetI, lSetA, lAugS, lLc, lZip, lNeg, lCall, lChain, List.getElem?_cons_zero, List.getElem?_cons_succ, List.set_cons_zero, List.set_cons_succ, wipeE, intP, intE]
    refine ia_t at0 ?_
    simp only [ltE, intP]
    by_cases hi0 : i < w.n
    case neg =>
      rw [decide_eq_false (show ¬((i : Int) < (w.l.length : Int)) by omega)]
      simp only [Bool.false_eq_true, if_false]
      simpa [hi0] using hP
    rw [decide_eq_true (show ((i : Int) < (w.l.length : Int)) by omega)]
    simp only [if_true, addE]
    rw [c1]
    refine cell (i + 1) j _ (by omega) hj ?_
    obtain ⟨u, hu⟩ := reach (i + 1) j (by omega) hj
    rw [hu]
    simp only [optE, isN, if_true]
    refine cell (i + 1) j _ (by omega) hj ?_
    rw [hu]
    refine ia_t (la hi0) ⟨t, w.c, _, rfl, k1.at et, ia_t at0 ?_⟩
    simp only [optE, addE]
    refine eq_i ?_
    rw [hu] at hP
    have ed : (cost w.c (w.l.getD i 0)).1 = w.g.drop i := rfl
    rw [ed]
    simpa [hi0, oadd] using hP
  refine cond2 _ ?_
  by_cases hb2 : (i < w.n ∧ oadd (w.rest (i + 1) j) (w.g.drop i) = some v)
  · simp only [hb2.1, hb2.2, decide_true, Bool.and_self, if_true]
    rw [lPar]
    simp only [lSet, lRet, lRetN, lDrop, lOp, lVar, lC, lB, lT, lAnd, lOr, lNot, lIf, lAndV, lOrV, lNotV, lNil, lCons, lTup, lLst, lCB, lBM, lSl, lPart, lNext, lIt, lRng1, lRng2, lAsg, lPar, lSetI, lSetA, lAugS, lLc, lZip, lNeg, lCall, lChain, List.getElem?_cons_zero, List.getElem?_cons_succ, List.set_cons_zero, List.set_cons_succ, wipeE, intP, intE]
    refine addS 100 _ _ ?_
    simp only [addE]
    rw [c1]
    obtain ⟨u, hu⟩ := reach (i + 1) j (by omega) hj
    have e2 : u + w.g.drop i = v := by
      have := hb2.2
      rw [hu] at this
      exact Option.some.inj this
    exact next 100 u (i + 1) j (.inr (.inl rfl)) (by unfold canDo; rw [if_neg (by decide), if_pos rfl]; exact decide_eq_true hb2.1) rfl rfl hu (by rw [← e2]; rfl) (by omega) hj
  have hf2 : (decide (i < w.n) && decide (oadd (w.rest (i + 1) j) (w.g.drop i) = some v)) = false := by
    rw [Bool.eq_false_iff]
    simp only [ne_eq, Bool.and_eq_true, decide_eq_true_eq]
    exact hb2
  simp only [hf2, Bool.false_eq_true, if_false]
  -- put
  rw [lIfS]
  simp only [lSet, lRet, lRetN, lDrop, lOp, lVar, lC, lB, lT, lAnd, lOr, lNot, lIf, lAndV, lOrV, lNotV, lNil, lCons, lTup, lLst, lCB, lBM, lSl, lPart, lNext, lIt, lRng1, lRng2, lAsg, lPar, lSetI, lSetA, lAugS, lLc, lZip, lNeg, lCall, lChain, List.getElem?_cons_zero, List.getElem?_cons_succ, List.set_cons_zero, List.set_cons_succ, wipeE, intP, intE]
  refine ia_t at1 ?_
  simp only [ltE, intP]
  by_cases hj0 : j < w.m
  case neg =>
    rw [decide_eq_false (show ¬((j : Int) < (w.r.length : Int)) by omega)]
    simp only [Bool.false_eq_true, if_false]
    have hend : i = w.n := by
      by_cases hi0 : i = w.n
      · exact hi0
      · exfalso
        obtain ⟨c, u, hc, hu, e⟩ := Wd.rest_tight hi hj hv (fun z => hi0 z.1)
        unfold Wd.stp at hc
        obtain ⟨hc1, hc2⟩ := List.mem_filter.mp hc
        simp only [Bool.and_eq_true] at hc2
        simp only [List.mem_cons, List.not_mem_nil, or_false] at hc1
        rcases hc1 with rfl | rfl | rfl
        · simp [canDo] at hc2; omega
        · apply hb2
          refine ⟨by omega, ?_⟩
          have hu2 : w.rest (i + 1) j = some u := hu
          rw [hu2, e]; rfl
        · simp [canDo] at hc2; omega
    exact hkk _ _ ⟨i, j, s, v, _, _, rfl, rfl, hi, hj, by omega, sc, by omega, es, st, hv, ev⟩
  rw [decide_eq_true (show ((j : Int) < (w.r.length : Int)) by omega)]
  simp only [if_true]
  try rw [lPar]
  try simp only [lSet, lRet, lRetN, lDrop, lOp, lVar, lC, lB, lT, lAnd, lOr, lNot, lIf, lAndV, lOrV, lNotV, lNil, lCons, lTup, lLst, lCB, lBM, lSl, lPart, lNext, lIt, lRng1, lRng2, lAsg, lPar, lSetI, lSetA, lAugS, lLc, lZip, lNeg, lCall, lChain, List.getElem?_cons_zero, List.getElem?_cons_succ, List.set_cons_zero, List.set_cons_succ, wipeE, intP, intE]
  refine addS 112 _ _ ?_
  simp only [addE]
  rw [c1]
  obtain ⟨c, u, hc, hu, e⟩ := Wd.rest_tight hi hj hv (fun z => by omega)
  unfold Wd.stp at hc
  obtain ⟨hc1, hc2⟩ := List.mem_filter.mp hc
  simp only [Bool.and_eq_true] at hc2
  simp only [List.mem_cons, List.not_mem_nil, or_false] at hc1
  rcases hc1 with rfl | rfl | rfl
  · exfalso
    apply hb1
    have hcd := hc2.1
    unfold canDo at hcd
    rw [if_neg (by decide), if_neg (by decide)] at hcd
    simp only [Bool.and_eq_true, decide_eq_true_eq] at hcd
    refine ⟨hcd.1.1, hcd.1.2, hcd.2, ?_⟩
    have hu2 : w.rest (i + 1) (j + 1) = some u := hu
    have e0 : w.cs i j 107 = 0 := rfl
    rw [hu2, e, e0, Int.add_zero]
  · exfalso
    apply hb2
    have hcd := hc2.1
    unfold canDo at hcd
    rw [if_neg (by decide), if_pos rfl] at hcd
    refine ⟨of_decide_eq_true hcd, ?_⟩
    have hu2 : w.rest (i + 1) j = some u := hu
    rw [hu2, e]; rfl
  · exact next 112 u i (j + 1) (.inr (.inr rfl)) hc2.1 rfl rfl hu e hi (by omega)
end Y

namespace Y
open PySem PySem.Spec PyProof.Rows L2

theorem priceS_rgS {c : Tab} (rg : TabRg c) (l r : List Int) : ∀ (s : List Nat) (i j : Nat), 0 ≤ priceS (cost c) l r s i j ∧ priceS (cost c) l r s i j ≤ 9 * s.length
  | [], i, j => by simp [priceS]
  | d :: s, i, j => by
    have ih := priceS_rgS rg l r s (mvI i d) (mvJ j d)
    rw [priceS]
    have h1 := cost_rg rg (l.getD i 0)
    have h2 := cost_rg rg (r.getD j 0)
    have : 0 ≤ stepCost (cost c) l r d i j ∧ stepCost (cost c) l r d i j ≤ 9 := by
      unfold stepCost
      split
      · omega
      · split <;> omega
    simp only [List.length_cons]
    omega
theorem rest_bd {w : Wd} (rg : TabRg w.c) {i j : Nat} {v : Int} (hi : i ≤ w.n) (hj : j ≤ w.m) (h : w.rest i j = some v) : 0 ≤ v ∧ v ≤ 9 * ((w.n : Int) + w.m) := by
  have := w.g.rest_le ⟨fun i => (cost_rg rg _).1, fun j => (cost_rg rg _).2⟩ w.n w.m i j v hi hj h
  omega
theorem opt_ds {h : EH} {o : Option Int} (ho : ∀ v, o = some v → v.natAbs < 10 ^ 9) : ∃ d, DS h 1 100 (optE o) d := by
  cases o with
  | none => exact ⟨_, DS.non⟩
  | some v => exact ⟨_, DS.int (by have := ho v rfl; omega) (by decide)⟩
theorem due_ds {h : EH} {w : Wd} {s : List Nat} (rg : TabRg w.c) (hn : w.n ≤ 100) (hm : w.m ≤ 100) (hs : StepC s) (hl : s.length ≤ 100) : ∃ d, DS h 2 200 (dueV w s) d := by
  unfold dueV
  cases hst : stopS w.l w.r s 0 0 0 with
  | some k =>
    have := stop_lt _ _ _ _ _ _ _ hst
    exact ⟨_, (pair_ds (n := 1) (by decide) (DS.int (k := 41) (by omega) (by omega))).more (by decide)⟩
  | none =>
    obtain ⟨b1, b2⟩ := stop_end w.l w.r s 0 0 0 hs (Nat.zero_le _) (Nat.zero_le _) hst
    obtain ⟨d, hd⟩ := opt_ds (h := h) (o := lossO w s) fun v hv => by
      unfold lossO at hv
      split at hv
      · rename_i a b _ ha hb
        cases hv
        have h1 := rest_bd rg b1 b2 ha
        have h2 := rest_bd rg (Nat.zero_le _) (Nat.zero_le _) hb
        have h3 := priceS_rgS rg w.l w.r s 0 0
        omega
      · cases hv
    exact ⟨_, (pair_ds (n := 1) (by decide) hd).more (by decide)⟩
theorem PrAt.offS {ad : Ad} {h : EH} {R r : Nat} {xs : List EV} {u : EO} {c : Tab} (p : PrAt ad h r c) (eR : h[R]? = some (.lst xs)) : PrAt ad (h.set R u) r c := by
  obtain ⟨d, e1, e2⟩ := p
  have off : ∀ {r : Nat} {o : EO}, h[r]? = some o → (∀ ys, o ≠ .lst ys) → (h.set R u)[r]? = some o := fun {r o} e n => set_off e fun z => by
    subst z
    rw [eR] at e
    cases e
    exact n _ rfl
  exact ⟨d, off e1 (fun _ z => by cases z), off e2 (fun _ z => by cases z)⟩
def KV (ad : Ad) (h : EH) (v : EV) : Prop := ∃ (w : Wd) (p : Nat) (c : Tab) (s : List Nat), v = .tup [.str s, tx w.l, tx w.r, .ref p, w.p.e, dueV w s] ∧ PrAt ad h p c ∧ (∀ x, cost c x = cost w.c x) ∧ w.n ≤ 6 ∧ w.m ≤ 6 ∧ PromOk w.p ∧ StepC s ∧ s.length ≤ 30 ∧ TabRg w.c
theorem KV.keep {ad : Ad} {h h' : EH} {v : EV} {b : Nat} (x : KV ad h v) (B : BagAt h b) (k : Keep (is1 b) h h') : KV ad h' v := by
  obtain ⟨w, p, c, s, e, pr, r⟩ := x
  exact ⟨w, p, c, s, e, pr.keepD B k, r⟩
theorem KV.off {ad : Ad} {h : EH} {R : Nat} {xs : List EV} {u : EO} {v : EV} (x : KV ad h v) (eR : h[R]? = some (.lst xs)) : KV ad (h.set R u) v := by
  obtain ⟨w, p, c, s, e, pr, r⟩ := x
  exact ⟨w, p, c, s, e, pr.offS eR, r⟩
structure Kp (ad : Ad) (h : EH) (b K0 : Nat) (m : Nat) : Prop where
  B : BagAt h b
  nb : b < K0
  ex : ∃ vs, h[K0]? = some (.lst vs) ∧ vs.length ≤ m ∧ ∀ v ∈ vs, KV ad h v
theorem Kp.keep {ad : Ad} {h h' : EH} {b K0 m : Nat} (x : Kp ad h b K0 m) (k : Keep (is1 b) h h') (B' : BagAt h' b) : Kp ad h' b K0 m := by
  obtain ⟨vs, e, l, kv⟩ := x.ex
  have := x.nb
  exact ⟨B', x.nb, vs, k.other e (by omega), l, fun v hv => (kv v hv).keep x.B k⟩
theorem Kp.more {ad : Ad} {h : EH} {b K0 m m' : Nat} (x : Kp ad h b K0 m) (hm : m ≤ m') : Kp ad h b K0 m' := by
  obtain ⟨vs, e, l, kv⟩ := x.ex
  exact ⟨x.B, x.nb, vs, e, by omega, kv⟩
def sp_loss_of_script (ad : Ad) : LSp := gOf (sp_loss_of_script__X ad)
theorem rest_tot (l r : List Int) (c : Tab) (g : Int) : (⟨l, r, c, .total g⟩ : Wd).rest = (⟨l, r, c, .none⟩ : Wd).rest := rfl
theorem told_ok {ad : Ad} {h : EH} {w : Wd} {p : Nat} {c : Tab} {s : List Nat} {P : EK} (pr : PrAt ad h p c) (hc : ∀ x, cost c x = cost w.c x) (hn : w.n ≤ 6) (hm : w.m ≤ 6) (pk : PromOk w.p) (sc : StepC s) (sl : s.length ≤ 30) (rg : TabRg w.c)
    (q : ∀ h', Keep no1 h h' → P (.bl true) h') : sp__law_loss_told ad [.str s, tx w.l, tx w.r, .ref p, w.p.e] h fun v h1 => sp__law_alike ad [v, dueV w s] h1 P := by
  refine ⟨w, p, c, s, rfl, pr, hc, by omega, by omega, pk.nn, sc, by omega, fun h1 k1 => ?_⟩
  obtain ⟨d, hd⟩ := due_ds (h := h1) rg (by omega) (by omega) sc (by omega)
  exact alike_ok hd hd (by decide) (by decide) (q _ k1)
end Y

namespace Y
open PySem PySem.Spec PyProof.Rows L2

abbrev N_law_k58 : List Str := ["_law_script_here", "_law_bag_here", "_law_kept", "_law_turn", "_law_letters", "_law_table", "_law_left", "_law_right", "_law_prices", "_law_promises", "_law_promise_here", "_law_rows", "_law_k", "_law_i", "_law_j", "_law_one_here", "_law_due"]
def t_law_k58_4 (ad : Ad) : LS :=
    lRet (lC (.bl true))
def t_law_k58_3b_0 (ad : Ad) : LS :=
    lIfS (lNot (lT (lCall (sp__law_alike ad) (lCons (lCall (sp__law_loss_told ad) (lCons (lVar 15) (lCons (lVar 6) (lCons (lVar 7) (lCons (lVar 8) (lCons (lVar 10) (lNil))))))) (lCons (lVar 16) (lNil))))))
      (lRet (lC (.bl false)))
      (lNext)
def t_law_k58_3 (ad : Ad) : LS :=
    lSeq (lFor (lIt (lCall (sp__law_mixed ad) (lCons (lVar 1) (lCons (lVar 2) (lNil))))) (.tp [.nm 15, .nm 6, .nm 7, .nm 8, .nm 10, .nm 16])
      (t_law_k58_3b_0 ad)) <| t_law_k58_4 ad
def t_law_k58_2b_5 (ad : Ad) : LS :=
    lIfS (lNot (lT (lCall (sp__law_alike ad) (lCons (lCall (sp_loss_of_script ad) (lCons (lVar 6) (lCons (lVar 7) (lCons (lVar 8) (lCons (lTup (lCons (lC (.str [116, 111, 116, 97, 108])) (lCons (lC (.int 0)) (lNil)))) (lCons (lVar 15) (lNil))))))) (lCons (lC (.int 0)) (lNil))))))
      (lRet (lC (.bl false)))
      (lNext)
def t_law_k58_2b_4 (ad : Ad) : LS :=
    lSeq (lSet (lOp ixA (lCall (sp__law_leading ad) (lCons (lVar 6) (lCons (lVar 7) (lCons (lVar 5) (lCons (lOp powE (lC (.int 10)) (lC (.int 6))) (lCons (lTup (lCons (lC (.int 0)) (lCons (lC (.int 0)) (lNil)))) (lCons (lTup (lCons (lCB lenE (lCons (lVar 6) (lNil))) (lCons (lCB lenE (lCons (lVar 7) (lNil))) (lNil)))) (lNil)))))))) (lC (.int 0))) 15) <| t_law_k58_2b_5 ad
def t_law_k58_2b_3b_2b_3 (ad : Ad) : LS :=
    lDrop (lBM "list" appendE (lVar 2) (lCons (lTup (lCons (lVar 15) (lCons (lVar 6) (lCons (lVar 7) (lCons (lVar 8) (lCons (lVar 10) (lCons (lVar 16) (lNil)))))))) (lNil)))
def t_law_k58_2b_3b_2b_2 (ad : Ad) : LS :=
    lSeq (lIfS (lNot (lT (lCall (sp__law_alike ad) (lCons (lCall (sp__law_loss_told ad) (lCons (lVar 15) (lCons (lVar 6) (lCons (lVar 7) (lCons (lVar 8) (lCons (lVar 10) (lNil))))))) (lCons (lVar 16) (lNil))))))
      (lRet (lC (.bl false)))
      (lNext)) <| t_law_k58_2b_3b_2b_3 ad
def t_law_k58_2b_3b_2b_1 (ad : Ad) : LS :=
    lSeq (lSet (lCall (sp__law_loss_due ad) (lCons (lVar 15) (lCons (lVar 6) (lCons (lVar 7) (lCons (lVar 5) (lCons (lVar 10) (lNil))))))) 16) <| t_law_k58_2b_3b_2b_2 ad
def t_law_k58_2b_3b_2b_0 (ad : Ad) : LS :=
    lSeq (lSet (lCall (sp__law_script_k58 ad) (lCons (lVar 1) (lCons (lVar 6) (lCons (lVar 7) (lNil))))) 15) <| t_law_k58_2b_3b_2b_1 ad
def t_law_k58_2b_3b_2 (ad : Ad) : LS :=
    lFor (lRng1 (lCons (lC (.int 5)) (lNil))) (.nm 12)
      (t_law_k58_2b_3b_2b_0 ad)
def t_law_k58_2b_3b_1b_1 (ad : Ad) : LS :=
    lIfS (lNot (lT (lCall (sp__law_alike ad) (lCons (lCall (sp_rest_least ad) (lCons (lVar 6) (lCons (lVar 7) (lCons (lVar 8) (lCons (lVar 10) (lCons (lTup (lCons (lVar 13) (lCons (lVar 14) (lNil)))) (lNil))))))) (lCons (lOp ixA (lOp ixA (lVar 11) (lVar 13)) (lVar 14)) (lNil))))))
      (lRet (lC (.bl false)))
      (lNext)
def t_law_k58_2b_3b_1b_0 (ad : Ad) : LS :=
    lSeq (lPar 13 14 (lCons (lCall (sp__law_take ad) (lCons (lVar 1) (lCons (lOp addE (lCB lenE (lCons (lVar 6) (lNil))) (lC (.int 1))) (lNil)))) (lCons (lCall (sp__law_take ad) (lCons (lVar 1) (lCons (lOp addE (lCB lenE (lCons (lVar 7) (lNil))) (lC (.int 1))) (lNil)))) (lNil)))) <| t_law_k58_2b_3b_1b_1 ad
def t_law_k58_2b_3b_1 (ad : Ad) : LS :=
    lSeq (lFor (lRng1 (lCons (lC (.int 8)) (lNil))) (.nm 12)
      (t_law_k58_2b_3b_1b_0 ad)) <| t_law_k58_2b_3b_2 ad
def t_law_k58_2b_3b_0 (ad : Ad) : LS :=
    lSeq (lSet (lCall (sp__law_behind ad) (lCons (lVar 6) (lCons (lVar 7) (lCons (lVar 5) (lCons (lCall (sp__law_lag_k58 ad) (lCons (lVar 10) (lNil))) (lNil)))))) 11) <| t_law_k58_2b_3b_1 ad
def t_law_k58_2b_3 (ad : Ad) : LS :=
    lSeq (lFor (lIt (lVar 9)) (.nm 10)
      (t_law_k58_2b_3b_0 ad)) <| t_law_k58_2b_4 ad
def t_law_k58_2b_2 (ad : Ad) : LS :=
    lSeq (lPar 8 9 (lCons (lMake ad.a_Prices (sp_Prices___init__ ad) (lCons (lCB dcopyE (lCons (lVar 5) (lNil))) (lNil))) (lCons (lLst (lCons (lCall (sp__law_promise ad) (lCons (lVar 1) (lNil))) (lCons (lCall (sp__law_one ad) (lCons (lVar 1) (lCons (lLst (lCons (lTup (lCons (lC (.str [110, 111, 110, 101])) (lNil))) (lCons (lTup (lCons (lC (.str [108, 97, 103])) (lCons (lC (.int 1)) (lNil)))) (lCons (lTup (lCons (lC (.str [108, 97, 103])) (lCons (lC (.int 2)) (lNil)))) (lNil))))) (lNil)))) (lNil)))) (lNil)))) <| t_law_k58_2b_3 ad
def t_law_k58_2b_1 (ad : Ad) : LS :=
    lSeq (lAsg (lTup (lCons (lCall (sp__law_price_table ad) (lCons (lVar 1) (lCons (lVar 4) (lNil)))) (lCons (lCall (sp__law_texts ad) (lCons (lVar 1) (lCons (lVar 4) (lCons (lCall (sp__law_one ad) (lCons (lVar 1) (lCons (lLst (lCons (lC (.int 5)) (lCons (lC (.int 6)) (lCons (lC (.int 3)) (lNil))))) (lNil)))) (lNil))))) (lNil)))) (.tp [.nm 5, .tp [.nm 6, .nm 7]])) <| t_law_k58_2b_2 ad
def t_law_k58_2b_0 (ad : Ad) : LS :=
    lSeq (lSet (lCall (sp__law_alphabet ad) (lCons (lVar 1) (lNil))) 4) <| t_law_k58_2b_1 ad
def t_law_k58_2 (ad : Ad) : LS :=
    lSeq (lFor (lRng1 (lCons (lC (.int 2)) (lNil))) (.nm 3)
      (t_law_k58_2b_0 ad)) <| t_law_k58_3 ad
def t_law_k58_1 (ad : Ad) : LS :=
    lSeq (lSet (lLst (lNil)) 2) <| t_law_k58_2 ad
def t_law_k58_0 (ad : Ad) : LS :=
    lSeq (lSet (lCall (sp__law_bag ad) (lCons (lVar 0) (lNil))) 1) <| t_law_k58_1 ad
def t_law_k58 (ad : Ad) : LS :=
    lSeq (lSet (lCall (sp__law_bag ad) (lCons (lVar 0) (lNil))) 1) <|
    lSeq (lSet (lLst (lNil)) 2) <|
    lSeq (lFor (lRng1 (lCons (lC (.int 2)) (lNil))) (.nm 3)
      (lSeq (lSet (lCall (sp__law_alphabet ad) (lCons (lVar 1) (lNil))) 4) <|
    lSeq (lAsg (lTup (lCons (lCall (sp__law_price_table ad) (lCons (lVar 1) (lCons (lVar 4) (lNil)))) (lCons (lCall (sp__law_texts ad) (lCons (lVar 1) (lCons (lVar 4) (lCons (lCall (sp__law_one ad) (lCons (lVar 1) (lCons (lLst (lCons (lC (.int 5)) (lCons (lC (.int 6)) (lCons (lC (.int 3)) (lNil))))) (lNil)))) (lNil))))) (lNil)))) (.tp [.nm 5, .tp [.nm 6, .nm 7]])) <|
    lSeq (lPar 8 9 (lCons (lMake ad.a_Prices (sp_Prices___init__ ad) (lCons (lCB dcopyE (lCons (lVar 5) (lNil))) (lNil))) (lCons (lLst (lCons (lCall (sp__law_promise ad) (lCons (lVar 1) (lNil))) (lCons (lCall (sp__law_one ad) (lCons (lVar 1) (lCons (lLst (lCons (lTup (lCons (lC (.str [110, 111, 110, 101])) (lNil))) (lCons (lTup (lCons (lC (.str [108, 97, 103])) (lCons (lC (.int 1)) (lNil)))) (lCons (lTup (lCons (lC (.str [108, 97, 103])) (lCons (lC (.int 2)) (lNil)))) (lNil))))) (lNil)))) (lNil)))) (lNil)))) <|
    lSeq (lFor (lIt (lVar 9)) (.nm 10)
      (lSeq (lSet (lCall (sp__law_behind ad) (lCons (lVar 6) (lCons (lVar 7) (lCons (lVar 5) (lCons (lCall (sp__law_lag_k58 ad) (lCons (lVar 10) (lNil))) (lNil)))))) 11) <|
    lSeq (lFor (lRng1 (lCons (lC (.int 8)) (lNil))) (.nm 12)
      (lSeq (lPar 13 14 (lCons (lCall (sp__law_take ad) (lCons (lVar 1) (lCons (lOp addE (lCB lenE (lCons (lVar 6) (lNil))) (lC (.int 1))) (lNil)))) (lCons (lCall (sp__law_take ad) (lCons (lVar 1) (lCons (lOp addE (lCB lenE (lCons (lVar 7) (lNil))) (lC (.int 1))) (lNil)))) (lNil)))) <|
    lIfS (lNot (lT (lCall (sp__law_alike ad) (lCons (lCall (sp_rest_least ad) (lCons (lVar 6) (lCons (lVar 7) (lCons (lVar 8) (lCons (lVar 10) (lCons (lTup (lCons (lVar 13) (lCons (lVar 14) (lNil)))) (lNil))))))) (lCons (lOp ixA (lOp ixA (lVar 11) (lVar 13)) (lVar 14)) (lNil))))))
      (lRet (lC (.bl false)))
      (lNext))) <|
    lFor (lRng1 (lCons (lC (.int 5)) (lNil))) (.nm 12)
      (lSeq (lSet (lCall (sp__law_script_k58 ad) (lCons (lVar 1) (lCons (lVar 6) (lCons (lVar 7) (lNil))))) 15) <|
    lSeq (lSet (lCall (sp__law_loss_due ad) (lCons (lVar 15) (lCons (lVar 6) (lCons (lVar 7) (lCons (lVar 5) (lCons (lVar 10) (lNil))))))) 16) <|
    lSeq (lIfS (lNot (lT (lCall (sp__law_alike ad) (lCons (lCall (sp__law_loss_told ad) (lCons (lVar 15) (lCons (lVar 6) (lCons (lVar 7) (lCons (lVar 8) (lCons (lVar 10) (lNil))))))) (lCons (lVar 16) (lNil))))))
      (lRet (lC (.bl false)))
      (lNext)) <|
    lDrop (lBM "list" appendE (lVar 2) (lCons (lTup (lCons (lVar 15) (lCons (lVar 6) (lCons (lVar 7) (lCons (lVar 8) (lCons (lVar 10) (lCons (lVar 16) (lNil)))))))) (lNil)))))) <|
    lSeq (lSet (lOp ixA (lCall (sp__law_leading ad) (lCons (lVar 6) (lCons (lVar 7) (lCons (lVar 5) (lCons (lOp powE (lC (.int 10)) (lC (.int 6))) (lCons (lTup (lCons (lC (.int 0)) (lCons (lC (.int 0)) (lNil)))) (lCons (lTup (lCons (lCB lenE (lCons (lVar 6) (lNil))) (lCons (lCB lenE (lCons (lVar 7) (lNil))) (lNil)))) (lNil)))))))) (lC (.int 0))) 15) <|
    lIfS (lNot (lT (lCall (sp__law_alike ad) (lCons (lCall (sp_loss_of_script ad) (lCons (lVar 6) (lCons (lVar 7) (lCons (lVar 8) (lCons (lTup (lCons (lC (.str [116, 111, 116, 97, 108])) (lCons (lC (.int 0)) (lNil)))) (lCons (lVar 15) (lNil))))))) (lCons (lC (.int 0)) (lNil))))))
      (lRet (lC (.bl false)))
      (lNext))) <|
    lSeq (lFor (lIt (lCall (sp__law_mixed ad) (lCons (lVar 1) (lCons (lVar 2) (lNil))))) (.tp [.nm 15, .nm 6, .nm 7, .nm 8, .nm 10, .nm 16])
      (lIfS (lNot (lT (lCall (sp__law_alike ad) (lCons (lCall (sp__law_loss_told ad) (lCons (lVar 15) (lCons (lVar 6) (lCons (lVar 7) (lCons (lVar 8) (lCons (lVar 10) (lNil))))))) (lCons (lVar 16) (lNil))))))
      (lRet (lC (.bl false)))
      (lNext))) <|
    lRet (lC (.bl true))
theorem pure_law_k58 (ad : Ad) (evs : List EV) (h : EH) (Q : EK) (q : spTop 63 evs h Q) : t_law_k58 ad (endsOf Q) (startE N_law_k58 evs) h := by
  obtain ⟨ns0, rfl, rfl, hl0, q⟩ := q
  show t_law_k58_0 ad (endsOf Q) [some (.ref 0), none, none, none, none, none, none, none, none, none, none, none, none, none, none, none, none] _
  have sz : sizeLine = 16777216 := by decide
  unfold t_law_k58_0
  try dsimp only
  rw [lSeq, lSet]
  refine ⟨ns0, rfl, rfl, hl0, fun b h1 B1 => ?_⟩
  unfold t_law_k58_1
  try dsimp only
  rw [lSeq, lSet]
  simp only [lSet, lRet, lRetN, lDrop, lOp, lVar, lC, lB, lT, lAnd, lOr, lNot, lIf, lAndV, lOrV, lNotV, lNil, lCons, lTup, lLst, lCB, lBM, lSl, lPart, lNext, lIt, lRng1, lRng2, lAsg, lPar, lSetI, lSetA, lAugS, lLc, lZip, lNeg, lCall, lChain, List.getElem?_cons_zero, List.getElem?_cons_succ, List.set_cons_zero, List.set_cons_succ, wipeE, intP, intE, List.length_nil]
  refine ⟨by simp [sizeL], ?_⟩
  have kp0 : Kp ad (h1 ++ [EO.lst []]) b h1.length 0 := ⟨B1.keep (Keep.app _), B1.lt, [], new_at, Nat.le_refl _, fun v hv => by cases hv⟩
  generalize h1 ++ [EO.lst []] = h2 at kp0 ⊢
  generalize h1.length = K0 at kp0 ⊢
  clear B1 h1
  unfold t_law_k58_2
  try dsimp only
  rw [lSeq, lFor]
  simp only [lSet, lRet, lRetN, lDrop, lOp, lVar, lC, lB, lT, lAnd, lOr, lNot, lIf, lAndV, lOrV, lNotV, lNil, lCons, lTup, lLst, lCB, lBM, lSl, lPart, lNext, lIt, lRng1, lRng2, lAsg, lPar, lSetI, lSetA, lAugS, lLc, lZip, lNeg, lCall, lChain, List.getElem?_cons_zero, List.getElem?_cons_succ, List.set_cons_zero, List.set_cons_succ, wipeE, intP, intE]
  refine ⟨⟨by decide, by decide⟩, ?_⟩
  refine loopN 2 (fun i env h' => ∃ x3 x4 x5 x6 x7 x8 x9 x10 x11 x12 x13 x14 x15 x16 : Option EV, env = [some (.ref 0), some (.ref b), some (.ref K0), x3, x4, x5, x6, x7, x8, x9, x10, x11, x12, x13, x14, x15, x16] ∧ Kp ad h' b K0 (10 * i)) ?_ ?_ _ _ ⟨_, _, _, _, _, _, _, _, _, _, _, _, _, _, rfl, kp0⟩
  · -- asked again
    rintro env h3 ⟨x3, x4, x5, x6, x7, x8, x9, x10, x11, x12, x13, x14, x15, x16, rfl, kp⟩
    refine ⟨trivial, ?_⟩
    obtain ⟨vs, eK, lK, kv⟩ := kp.ex
    have nb := kp.nb
    try dsimp only
    unfold t_law_k58_3
    rw [lSeq, lFor]
    simp only [lSet, lRet, lRetN, lDrop, lOp, lVar, lC, lB, lT, lAnd, lOr, lNot, lIf, lAndV, lOrV, lNotV, lNil, lCons, lTup, lLst, lCB, lBM, lSl, lPart, lNext, lIt, lRng1, lRng2, lAsg, lPar, lSetI, lSetA, lAugS, lLc, lZip, lNeg, lCall, lChain, List.getElem?_cons_zero, List.getElem?_cons_succ, List.set_cons_zero, List.set_cons_succ, wipeE, intP, intE]
    refine ⟨b, K0, vs, rfl, eK, by omega, by omega, kp.B, fun rM ys h4 pm k4 l4 e4 B4 => ?_⟩
    have hys : ∀ y ∈ ys, KV ad h4 y := fun y hy => (kv y (pm.mem_iff.mp hy)).keep kp.B k4
    simp only [srcE, e4]
    refine loop_ind (fun left env h' => ∃ y6 y7 y8 y10 y15 y16 : Option EV, env = [some (.ref 0), some (.ref b), some (.ref K0), x3, x4, x5, y6, y7, y8, x9, y10, x11, x12, x13, x14, y15, y16] ∧ Keep no1 h4 h' ∧ ∀ y ∈ left, KV ad h4 y) ?_ ?_ _ _ _ ⟨_, _, _, _, _, _, rfl, .refl, hys⟩
    · rintro env h' ⟨y6, y7, y8, y10, y15, y16, rfl, k, _⟩
      refine ⟨k.at e4, ?_⟩
      simp only [t_law_k58_4, lSet, lRet, lRetN, lDrop, lOp, lVar, lC, lB, lT, lAnd, lOr, lNot, lIf, lAndV, lOrV, lNotV, lNil, lCons, lTup, lLst, lCB, lBM, lSl, lPart, lNext, lIt, lRng1, lRng2, lAsg, lPar, lSetI, lSetA, lAugS, lLc, lZip, lNeg, lCall, lChain, List.getElem?_cons_zero, List.getElem?_cons_succ, List.set_cons_zero, List.set_cons_succ, wipeE, intP, intE]
      exact q _
    · rintro y left env h' kk ⟨y6, y7, y8, y10, y15, y16, rfl, k, hl⟩ hk
      refine ⟨k.at e4, ?_⟩
      obtain ⟨w, p, c, s, rfl, pr, hc, hn, hm, pk, sc, sl, rg⟩ := hl y List.mem_cons_self
      simp only [lBind, Pat.bind, Pat.binds, List.set_cons_zero, List.set_cons_succ]
      unfold t_law_k58_3b_0
      rw [lIfS]
      simp only [lSet, lRet, lRetN, lDrop, lOp, lVar, lC, lB, lT, lAnd, lOr, lNot, lIf, lAndV, lOrV, lNotV, lNil, lCons, lTup, lLst, lCB, lBM, lSl, lPart, lNext, lIt, lRng1, lRng2, lAsg, lPar, lSetI, lSetA, lAugS, lLc, lZip, lNeg, lCall, lChain, List.getElem?_cons_zero, List.getElem?_cons_succ, List.set_cons_zero, List.set_cons_succ, wipeE, intP, intE, lT]
      refine told_ok (pr.keep k) hc hn hm pk sc sl rg fun h5 k5 => ?_
      simp only [truE, Bool.not_true, Bool.false_eq_true, if_false]
      exact hk _ _ ⟨_, _, _, _, _, _, rfl, k.trans k5, fun z hz => hl z (List.mem_cons_of_mem _ hz)⟩
  rintro i env h3 kk hi ⟨_, _, _, _, _, _, _, x10, x11, x12, x13, x14, x15, x16, rfl, kp⟩ hk
  refine ⟨trivial, bind_nm ?_⟩
  simp only [List.set_cons_zero, List.set_cons_succ]
  have nbK := kp.nb
  unfold t_law_k58_2b_0
  rw [lSeq, lSet]
  simp only [lSet, lRet, lRetN, lDrop, lOp, lVar, lC, lB, lT, lAnd, lOr, lNot, lIf, lAndV, lOrV, lNotV, lNil, lCons, lTup, lLst, lCB, lBM, lSl, lPart, lNext, lIt, lRng1, lRng2, lAsg, lPar, lSetI, lSetA, lAugS, lLc, lZip, lNeg, lCall, lChain, List.getElem?_cons_zero, List.getElem?_cons_succ, List.set_cons_zero, List.set_cons_succ, wipeE, intP, intE]
  refine ⟨b, rfl, kp.B, fun L ns h4 nd n0 n4 nr k4 l4 e4 B4 => ?_⟩
  have hK3 : K0 < h3.length := by obtain ⟨vs, eK, _⟩ := kp.ex; exact lt_of_at eK
  replace kp := kp.keep k4 B4
  have nLb : L ≠ b := by have := kp.nb; omega
  have ne0 : ns ≠ [] := by
    rintro rfl
    simp at n0
  unfold t_law_k58_2b_1
  try dsimp only
  rw [lSeq, lAsg]
  simp only [lSet, lRet, lRetN, lDrop, lOp, lVar, lC, lB, lT, lAnd, lOr, lNot, lIf, lAndV, lOrV, lNotV, lNil, lCons, lTup, lLst, lCB, lBM, lSl, lPart, lNext, lIt, lRng1, lRng2, lAsg, lPar, lSetI, lSetA, lAugS, lLc, lZip, lNeg, lCall, lChain, List.getElem?_cons_zero, List.getElem?_cons_succ, List.set_cons_zero, List.set_cons_succ, wipeE, intP, intE]
  refine ⟨b, L, ns, rfl, e4, nd, nr, by omega, nLb, B4, fun t c h5 ok cm cl k5 l5 e5 B5 => ?_⟩
  replace kp := kp.keep k5 B5
  have eL5 := k5.other e4 nLb
  have hb5 := B5.lt
  refine ⟨by simp [sizeL], b, h5.length, _, rfl, new_at, by simp, by simp [sizeL], by omega, B5.keep (Keep.app _), fun x h6 hx k6 B6 => ?_⟩
  obtain ⟨most, rfl, m0, m1⟩ : ∃ m : Nat, x = .int m ∧ 0 < m ∧ m ≤ 6 := by
    simp only [List.mem_cons, List.not_mem_nil, or_false] at hx
    rcases hx with rfl | rfl | rfl
    · exact ⟨5, rfl, by decide, by decide⟩
    · exact ⟨6, rfl, by decide, by decide⟩
    · exact ⟨3, rfl, by decide, by decide⟩
  have k56 : Keep (is1 b) h5 h6 := (Keep.app _).trans k6
  replace kp := kp.keep k56 B6
  have eL6 := k56.other eL5 nLb
  have et6 := k56.tab B5 e5
  refine ⟨b, L, most, ns, rfl, eL6, ne0, by omega, nLb, m0, by omega, B6, fun xs ys h7 xl yl xm ym k7 B7 => ⟨by simp [sizeL], ?_⟩⟩
  simp only [lBind, Pat.bind, Pat.binds, List.set_cons_zero, List.set_cons_succ]
  replace kp := kp.keep k7 B7
  have et7 := k7.tab B6 et6
  clear eL6 eL5 e4 e5 et6 hx hb5 xm ym
  unfold t_law_k58_2b_2
  try dsimp only
  rw [lSeq, lPar]
  simp only [lCons, lNil]
  refine make_prices (i := 5) rfl et7 ok (by omega) fun p h8 k8 l8 pr8 => ?_
  have B8 := B7.keep k8
  replace kp := kp.keep k8.all B8
  have et8 := k8.at et7
  simp only [lSet, lRet, lRetN, lDrop, lOp, lVar, lC, lB, lT, lAnd, lOr, lNot, lIf, lAndV, lOrV, lNotV, lNil, lCons, lTup, lLst, lCB, lBM, lSl, lPart, lNext, lIt, lRng1, lRng2, lAsg, lPar, lSetI, lSetA, lAugS, lLc, lZip, lNeg, lCall, lChain, List.getElem?_cons_zero, List.getElem?_cons_succ, List.set_cons_zero, List.set_cons_succ, wipeE, intP, intE]
  refine ⟨b, rfl, B8, fun g1 h9 pk1 k9 B9 => ?_⟩
  replace kp := kp.keep k9 B9
  have et9 := k9.tab B8 et8
  have pr9 := pr8.keepD B8 k9
  have hb9 := B9.lt
  refine ⟨by simp [sizeL], by simp [sizeL], by simp [sizeL], by simp [sizeL], b, h9.length, _, rfl, new_at, by simp, by simp [sizeL], by omega, B9.keep (Keep.app _), fun x hA hx kA BA => ⟨by simp [sizeL], ?_⟩⟩
  obtain ⟨g2, rfl, pk2⟩ : ∃ g : Prom, x = g.e ∧ PromOk g := by
    simp only [List.mem_cons, List.not_mem_nil, or_false] at hx
    rcases hx with rfl | rfl | rfl
    · exact ⟨.none, rfl, trivial⟩
    · exact ⟨.lag 1, rfl, by decide, by decide⟩
    · exact ⟨.lag 2, rfl, by decide, by decide⟩
  have k9A : Keep (is1 b) h9 hA := (Keep.app _).trans kA
  replace kp := kp.keep k9A BA
  have etA := k9A.tab B9 et9
  have prA := pr9.keepD B9 k9A
  have kB : Keep no1 hA (hA ++ [EO.lst [g1.e, g2.e]]) := Keep.app _
  have eR : (hA ++ [EO.lst [g1.e, g2.e]])[hA.length]? = some (.lst ([g1, g2].map Prom.e)) := new_at
  have nR : hA.length ≠ b := by have := BA.lt; omega
  have nRK : hA.length ≠ K0 := by obtain ⟨vs, eK, _⟩ := kp.ex; have := lt_of_at eK; omega
  replace kp := kp.keep kB.all (BA.keep kB)
  have etB := kB.at etA
  have prB := prA.keep kB
  generalize hA ++ [EO.lst [g1.e, g2.e]] = hB at kB eR kp etB prB ⊢
  generalize hA.length = R9 at eR nR nRK ⊢
  clear etA prA kB k9A BA hx kA hb9 pr9 et9 B9 k9 et8 pr8 B8 k8 et7 B7 k7 B6 k6 k56 B5 k5 B4 k4 l4 l5 l8 hK3
  have hc : ∀ x, cost (prTab c) x = cost c x := prTab_cost ok.nd
  have rg : TabRg c := ok.rg
  have tK : t ≠ K0 := by
    rintro rfl
    obtain ⟨vs, eK, _⟩ := kp.ex
    rw [etB] at eK
    cases eK
  unfold t_law_k58_2b_3
  try dsimp only
  rw [lSeq, lFor]
  simp only [lSet, lRet, lRetN, lDrop, lOp, lVar, lC, lB, lT, lAnd, lOr, lNot, lIf, lAndV, lOrV, lNotV, lNil, lCons, lTup, lLst, lCB, lBM, lSl, lPart, lNext, lIt, lRng1, lRng2, lAsg, lPar, lSetI, lSetA, lAugS, lLc, lZip, lNeg, lCall, lChain, List.getElem?_cons_zero, List.getElem?_cons_succ, List.set_cons_zero, List.set_cons_succ, wipeE, intP, intE, srcE, eR]
  refine loop_on Prom.e [g1, g2] (fun a _ env h' => ∃ y10 y11 y12 y13 y14 y15 y16 : Option EV, env = [some (.ref 0), some (.ref b), some (.ref K0), some (.int (i : Nat)), some (.ref L), some (.ref t), some (tx xs), some (tx ys), some (.ref p), some (.ref R9), y10, y11, y12, y13, y14, y15, y16] ∧ h'[R9]? = some (.lst ([g1, g2].map Prom.e)) ∧ h'[t]? = some (.dic (tabKV c)) ∧ PrAt ad h' p (prTab c) ∧ Kp ad h' b K0 (10 * i + 5 * a.length)) ?_ ?_ _ _ ⟨_, _, _, _, _, _, _, rfl, eR, etB, prB, kp⟩
  · -- the cheapest script
    rintro env hC ⟨y10, y11, y12, y13, y14, y15, y16, rfl, eRC, etC, prC, kpC⟩
    refine ⟨eRC, ?_⟩
    try dsimp only
    unfold t_law_k58_2b_4
    rw [lSeq, lSet]
    simp only [lSet, lRet, lRetN, lDrop, lOp, lVar, lC, lB, lT, lAnd, lOr, lNot, lIf, lAndV, lOrV, lNotV, lNil, lCons, lTup, lLst, lCB, lBM, lSl, lPart, lNext, lIt, lRng1, lRng2, lAsg, lPar, lSetI, lSetA, lAugS, lLc, lZip, lNeg, lCall, lChain, List.getElem?_cons_zero, List.getElem?_cons_succ, List.set_cons_zero, List.set_cons_succ, wipeE, intP, intE, lenE, tx, List.length_map]
    refine ⟨by unfold CPow; decide, ?_⟩
    rw [show (10 : Int) ^ Int.toNat 6 = 1000000 by decide]
    refine ⟨by simp [sizeL], by simp [sizeL], ?_⟩
    refine ⟨⟨xs, ys, c, .none⟩, t, rfl, rfl, etC, by show xs.length ≤ 1000; omega, by show ys.length ≤ 1000; omega, fun s hD kD sc sl st es er => ?_⟩
    refine ia_t (x := .str s) rfl ?_
    have sl2 : s.length ≤ 12 := by
      have : s.length ≤ xs.length + ys.length := sl
      omega
    unfold t_law_k58_2b_5
    try dsimp only
    rw [lIfS]
    simp only [lSet, lRet, lRetN, lDrop, lOp, lVar, lC, lB, lT, lAnd, lOr, lNot, lIf, lAndV, lOrV, lNotV, lNil, lCons, lTup, lLst, lCB, lBM, lSl, lPart, lNext, lIt, lRng1, lRng2, lAsg, lPar, lSetI, lSetA, lAugS, lLc, lZip, lNeg, lCall, lChain, List.getElem?_cons_zero, List.getElem?_cons_succ, List.set_cons_zero, List.set_cons_succ, wipeE, intP, intE, lT]
    refine ⟨by simp [sizeL], ?_⟩
    have lo : lossO ⟨xs, ys, prTab c, .total 0⟩ s = some 0 := by
      have e1 := lossO_cost (w := ⟨xs, ys, c, .total 0⟩) hc s
      have e2 : lossO ⟨xs, ys, c, .total 0⟩ s = some 0 := by
        unfold lossO
        rw [es, rest_tot, er]
        have e0 : (⟨xs, ys, c, .none⟩ : Wd).rest (⟨xs, ys, c, .none⟩ : Wd).n (⟨xs, ys, c, .none⟩ : Wd).m = some 0 := GridOf.rest_end _ rfl
        rw [e0]
        simp only [Prom.kept]
        congr 1
        omega
      rw [← e2]
      exact e1
    refine ⟨⟨xs, ys, prTab c, .total 0⟩, p, s, rfl, prC.keep kD, by show xs.length ≤ 1000; omega, by show ys.length ≤ 1000; omega, trivial, sc, by omega, fun _ hE kE => ?_, fun k e => absurd (st.symm.trans e) (by simp)⟩
    rw [lo]
    refine alike_ok (n := 5) (k := 41) (DS.int (by decide) (by omega)) (DS.int (by decide) (by omega)) (by decide) (by decide) ?_
    simp only [truE, Bool.not_true, Bool.false_eq_true, if_false]
    have kCE := kD.trans kE
    exact hk _ _ ⟨_, _, _, _, _, _, _, _, _, _, _, _, _, _, rfl, (kpC.keep kCE.all (kpC.B.keep kCE)).more (by simp; omega)⟩
  rintro a g b' env hC kk2 eg ⟨y10, y11, y12, y13, y14, y15, y16, rfl, eRC, etC, prC, kpC⟩ hk2
  refine ⟨eRC, bind_nm ?_⟩
  simp only [List.set_cons_zero, List.set_cons_succ]
  have la2 : a.length ≤ 1 := by
    have := congrArg List.length eg
    simp at this
    omega
  have pk : PromOk g := by
    have : g ∈ [g1, g2] := by rw [eg]; simp
    simp only [List.mem_cons, List.not_mem_nil, or_false] at this
    rcases this with rfl | rfl
    · exact pk1
    · exact pk2
  have hn : (⟨xs, ys, c, g⟩ : Wd).n ≤ 6 := by show xs.length ≤ 6; omega
  have hm : (⟨xs, ys, c, g⟩ : Wd).m ≤ 6 := by show ys.length ≤ 6; omega
  unfold t_law_k58_2b_3b_0
  rw [lSeq, lSet]
  simp only [lSet, lRet, lRetN, lDrop, lOp, lVar, lC, lB, lT, lAnd, lOr, lNot, lIf, lAndV, lOrV, lNotV, lNil, lCons, lTup, lLst, lCB, lBM, lSl, lPart, lNext, lIt, lRng1, lRng2, lAsg, lPar, lSetI, lSetA, lAugS, lLc, lZip, lNeg, lCall, lChain, List.getElem?_cons_zero, List.getElem?_cons_succ, List.set_cons_zero, List.set_cons_succ, wipeE, intP, intE]
  refine ⟨g, rfl, ?_⟩
  refine ⟨⟨xs, ys, c, g⟩, t, lagK g, rfl, etC, by omega, by omega, lagK_is ⟨xs, ys, c, g⟩ (by omega) (by omega), fun r hD kD z => ?_⟩
  have BD := kpC.B.keep kD
  have kpD := kpC.keep kD.all BD
  have eRD := kD.at eRC
  have etD := kD.at etC
  have prD := prC.keep kD
  unfold t_law_k58_2b_3b_1
  try dsimp only
  rw [lSeq, lFor]
  simp only [lSet, lRet, lRetN, lDrop, lOp, lVar, lC, lB, lT, lAnd, lOr, lNot, lIf, lAndV, lOrV, lNotV, lNil, lCons, lTup, lLst, lCB, lBM, lSl, lPart, lNext, lIt, lRng1, lRng2, lAsg, lPar, lSetI, lSetA, lAugS, lLc, lZip, lNeg, lCall, lChain, List.getElem?_cons_zero, List.getElem?_cons_succ, List.set_cons_zero, List.set_cons_succ, wipeE, intP, intE]
  refine ⟨⟨by decide, by decide⟩, ?_⟩
  refine loopN 8 (fun _ env h' => ∃ y12 y13 y14 : Option EV, env = [some (.ref 0), some (.ref b), some (.ref K0), some (.int (i : Nat)), some (.ref L), some (.ref t), some (tx xs), some (tx ys), some (.ref p), some (.ref R9), some g.e, some (.ref r), y12, y13, y14, y15, y16] ∧ Keep (is1 b) hD h' ∧ BagAt h' b) ?_ ?_ _ _ ⟨_, _, _, rfl, .refl, BD⟩
  · -- five scripts
    rintro env hE ⟨y12, y13, y14, rfl, kE, BE⟩
    refine ⟨trivial, ?_⟩
    have kpE := kpD.keep kE BE
    have eRE := kE.other eRD nR
    have etE := kE.tab BD etD
    have prE := prD.keepD BD kE
    try dsimp only
    unfold t_law_k58_2b_3b_2
    rw [lFor]
    simp only [lSet, lRet, lRetN, lDrop, lOp, lVar, lC, lB, lT, lAnd, lOr, lNot, lIf, lAndV, lOrV, lNotV, lNil, lCons, lTup, lLst, lCB, lBM, lSl, lPart, lNext, lIt, lRng1, lRng2, lAsg, lPar, lSetI, lSetA, lAugS, lLc, lZip, lNeg, lCall, lChain, List.getElem?_cons_zero, List.getElem?_cons_succ, List.set_cons_zero, List.set_cons_succ, wipeE, intP, intE]
    refine ⟨⟨by decide, by decide⟩, ?_⟩
    refine loopN 5 (fun k env h' => ∃ z12 z15 z16 : Option EV, env = [some (.ref 0), some (.ref b), some (.ref K0), some (.int (i : Nat)), some (.ref L), some (.ref t), some (tx xs), some (tx ys), some (.ref p), some (.ref R9), some g.e, some (.ref r), z12, y13, y14, z15, z16] ∧ h'[R9]? = some (.lst ([g1, g2].map Prom.e)) ∧ h'[t]? = some (.dic (tabKV c)) ∧ PrAt ad h' p (prTab c) ∧ Kp ad h' b K0 (10 * i + 5 * a.length + k)) ?_ ?_ _ _ ⟨_, _, _, rfl, eRE, etE, prE, kpE⟩
    · rintro env h' ⟨z12, z15, z16, rfl, f1, f2, f3, f4⟩
      refine ⟨trivial, hk2 _ _ ⟨_, _, _, _, _, _, _, rfl, f1, f2, f3, f4.more (by simp; omega)⟩⟩
    · rintro k env hF kk3 hk0 ⟨z12, z15, z16, rfl, f1, f2, f3, f4⟩ hk3
      refine ⟨trivial, bind_nm ?_⟩
      simp only [List.set_cons_zero, List.set_cons_succ]
      unfold t_law_k58_2b_3b_2b_0
      rw [lSeq, lSet]
      simp only [lSet, lRet, lRetN, lDrop, lOp, lVar, lC, lB, lT, lAnd, lOr, lNot, lIf, lAndV, lOrV, lNotV, lNil, lCons, lTup, lLst, lCB, lBM, lSl, lPart, lNext, lIt, lRng1, lRng2, lAsg, lPar, lSetI, lSetA, lAugS, lLc, lZip, lNeg, lCall, lChain, List.getElem?_cons_zero, List.getElem?_cons_succ, List.set_cons_zero, List.set_cons_succ, wipeE, intP, intE]
      refine ⟨b, xs, ys, rfl, f4.B, fun s hG sc sl kG BG => ?_⟩
      have g4 := f4.keep kG BG
      have gt := kG.tab f4.B f2
      have gR := kG.other f1 nR
      have gp := f3.keepD f4.B kG
      unfold t_law_k58_2b_3b_2b_1
      try dsimp only
      rw [lSeq, lSet]
      simp only [lSet, lRet, lRetN, lDrop, lOp, lVar, lC, lB, lT, lAnd, lOr, lNot, lIf, lAndV, lOrV, lNotV, lNil, lCons, lTup, lLst, lCB, lBM, lSl, lPart, lNext, lIt, lRng1, lRng2, lAsg, lPar, lSetI, lSetA, lAugS, lLc, lZip, lNeg, lCall, lChain, List.getElem?_cons_zero, List.getElem?_cons_succ, List.set_cons_zero, List.set_cons_succ, wipeE, intP, intE]
      refine ⟨⟨xs, ys, c, g⟩, t, s, rfl, gt, by omega, by omega, sc, by omega, fun hH kH => ?_⟩
      unfold t_law_k58_2b_3b_2b_2
      try dsimp only
      rw [lSeq, lIfS]
      simp only [lSet, lRet, lRetN, lDrop, lOp, lVar, lC, lB, lT, lAnd, lOr, lNot, lIf, lAndV, lOrV, lNotV, lNil, lCons, lTup, lLst, lCB, lBM, lSl, lPart, lNext, lIt, lRng1, lRng2, lAsg, lPar, lSetI, lSetA, lAugS, lLc, lZip, lNeg, lCall, lChain, List.getElem?_cons_zero, List.getElem?_cons_succ, List.set_cons_zero, List.set_cons_succ, wipeE, intP, intE, lT]
      refine told_ok (w := ⟨xs, ys, c, g⟩) (gp.keep kH) hc hn hm pk sc sl rg fun hI kI => ?_
      simp only [truE, Bool.not_true, Bool.false_eq_true, if_false]
      have kGI := kH.trans kI
      have i4 := g4.keep kGI.all (BG.keep kGI)
      obtain ⟨vs, eK, lK, kv⟩ := i4.ex
      unfold t_law_k58_2b_3b_2b_3
      try dsimp only
      rw [lDrop]
      simp only [lSet, lRet, lRetN, lDrop, lOp, lVar, lC, lB, lT, lAnd, lOr, lNot, lIf, lAndV, lOrV, lNotV, lNil, lCons, lTup, lLst, lCB, lBM, lSl, lPart, lNext, lIt, lRng1, lRng2, lAsg, lPar, lSetI, lSetA, lAugS, lLc, lZip, lNeg, lCall, lChain, List.getElem?_cons_zero, List.getElem?_cons_succ, List.set_cons_zero, List.set_cons_succ, wipeE, intP, intE]
      refine ⟨isTy_l eK, by simp [sizeL], app_f eK (by omega) ?_⟩
      refine hk3 _ _ ⟨_, _, _, rfl, set_off (kGI.at gR) nRK, set_off (kGI.at gt) tK, (gp.keep kGI).offS eK, i4.B.set i4.nb, i4.nb, _, set_at eK, by rw [List.length_append, List.length_singleton]; omega, fun v hv => ?_⟩
      rcases List.mem_append.mp hv with hv | hv
      · exact (kv v hv).off eK
      · rw [List.mem_singleton.mp hv]
        exact ⟨⟨xs, ys, c, g⟩, p, prTab c, s, rfl, (gp.keep kGI).offS eK, hc, hn, hm, pk, sc, sl, rg⟩
  · -- points
    rintro k env hE kk3 hk0 ⟨y12, y13, y14, rfl, kE, BE⟩ hk3
    refine ⟨trivial, bind_nm ?_⟩
    simp only [List.set_cons_zero, List.set_cons_succ]
    unfold t_law_k58_2b_3b_1b_0
    rw [lSeq, lPar]
    simp only [lSet, lRet, lRetN, lDrop, lOp, lVar, lC, lB, lT, lAnd, lOr, lNot, lIf, lAndV, lOrV, lNotV, lNil, lCons, lTup, lLst, lCB, lBM, lSl, lPart, lNext, lIt, lRng1, lRng2, lAsg, lPar, lSetI, lSetA, lAugS, lLc, lZip, lNeg, lCall, lChain, List.getElem?_cons_zero, List.getElem?_cons_succ, List.set_cons_zero, List.set_cons_succ, wipeE, intP, intE, lenE, tx, List.length_map, addE]
    refine ⟨b, _, rfl, by omega, by omega, BE, fun x hF x0 x1 kF BF => ?_⟩
    refine ⟨b, _, rfl, by omega, by omega, BF, fun y hG y0 y1 kG BG => ?_⟩
    obtain ⟨x, rfl⟩ := Int.eq_ofNat_of_zero_le x0
    obtain ⟨y, rfl⟩ := Int.eq_ofNat_of_zero_le y0
    have kDG := (kE.trans kF).trans kG
    have zG := z.keepB BD kDG
    have prG := prD.keepD BD kDG
    unfold t_law_k58_2b_3b_1b_1
    try dsimp only
    rw [lIfS]
    simp only [lSet, lRet, lRetN, lDrop, lOp, lVar, lC, lB, lT, lAnd, lOr, lNot, lIf, lAndV, lOrV, lNotV, lNil, lCons, lTup, lLst, lCB, lBM, lSl, lPart, lNext, lIt, lRng1, lRng2, lAsg, lPar, lSetI, lSetA, lAugS, lLc, lZip, lNeg, lCall, lChain, List.getElem?_cons_zero, List.getElem?_cons_succ, List.set_cons_zero, List.set_cons_succ, wipeE, intP, intE, lT]
    refine ⟨by simp [sizeL], ?_⟩
    have hxn : x ≤ (⟨xs, ys, c, g⟩ : Wd).n := by show x ≤ xs.length; omega
    have hym : y ≤ (⟨xs, ys, c, g⟩ : Wd).m := by show y ≤ ys.length; omega
    refine ⟨{ (⟨xs, ys, c, g⟩ : Wd) with c := prTab c }, p, x, y, rfl, prG, by show xs.length ≤ 1000; omega, by show ys.length ≤ 1000; omega, hxn, hym, fun hH kH => ?_⟩
    rw [sameC_rest (w := (⟨xs, ys, c, g⟩ : Wd)) hc]
    obtain ⟨q1, ws, ex, ax, _, _, _, er⟩ := (zG.keep kH).row hxn
    refine ia_l ex ((atI_n _ _).trans ax) (ia_l er ((atI_n _ _).trans (rowE_at hym)) ?_)
    obtain ⟨d, hd⟩ := opt_ds (h := hH) (o := (⟨xs, ys, c, g⟩ : Wd).rest x y) fun v hv => by
      have := rest_bd (w := (⟨xs, ys, c, g⟩ : Wd)) rg hxn hym hv
      omega
    refine alike_ok hd hd (by decide) (by decide) ?_
    simp only [truE, Bool.not_true, Bool.false_eq_true, if_false]
    exact hk3 _ _ ⟨_, _, _, rfl, kDG.trans kH.all, BG.keep kH⟩
end Y

namespace Y
open PySem PySem.Spec PyProof.Rows L2
def top (i : Nat) : Stmt := PySem.Challenge.pw_saidearly_k58_rests_and_losses_of_script.main.body.getD i (.Pass ⟨0, 0, 0, 0⟩)
abbrev s_moved : Stmt := top 9
abbrev s_points : Stmt := top 10
abbrev s_widest : Stmt := top 11
abbrev s_is_allowed : Stmt := top 12
abbrev s_can_be_done : Stmt := top 13
abbrev s_first_wrong : Stmt := top 14
abbrev s_Prices_drop : Stmt := inClass (top 34) 3
abbrev s_Prices_put : Stmt := inClass (top 34) 4
abbrev s_step_price : Stmt := top 15
abbrev s_is_in_lag : Stmt := top 18
abbrev s_all_points : Stmt := top 19
abbrev s_steps_from : Stmt := top 20
abbrev s_grid : Stmt := top 21
abbrev s_rests : Stmt := top 22
abbrev s_least : Stmt := top 23
abbrev s_is_integer : Stmt := top 26
abbrev s_is_between : Stmt := top 27
abbrev s_is_letter : Stmt := top 28
abbrev s_are_costs : Stmt := top 32
abbrev s_is_price_table : Stmt := top 33
abbrev s_Prices___init__ : Stmt := inClass (top 34) 1
abbrev s_price_so_far : Stmt := top 36
abbrev s_rest_least : Stmt := top 38
abbrev s_loss_of_script__X : Stmt := top 39
abbrev s_loss_of_script : Stmt := top 39
abbrev s__law_bag : Stmt := top 41
abbrev s__law_take : Stmt := top 42
abbrev s__law_one : Stmt := top 43
abbrev s__law_one__S : Stmt := top 43
abbrev s__law_mixed : Stmt := top 44
abbrev s__law_alphabet : Stmt := top 45
abbrev s__law_text : Stmt := top 46
abbrev s__law_full : Stmt := top 47
abbrev s__law_edited : Stmt := top 48
abbrev s__law_texts : Stmt := top 49
abbrev s__law_price_table : Stmt := top 50
abbrev s__law_promise : Stmt := top 51
abbrev s__law_steps : Stmt := top 52
abbrev s__law_walk : Stmt := top 53
abbrev s__law_costs : Stmt := top 54
abbrev s__law_alike : Stmt := top 55
abbrev s__law_lag : Stmt := top 56
abbrev s__law_behind : Stmt := top 57
abbrev s__law_leading : Stmt := top 58
abbrev s__law_paid : Stmt := top 59
abbrev s__law_spot : Stmt := top 60
abbrev s__law_price_from : Stmt := top 61
abbrev s__law_stops : Stmt := top 62
abbrev s__law_widest : Stmt := top 63
abbrev s__law_loss_due : Stmt := top 64
abbrev s__law_loss_told : Stmt := top 65
abbrev s__law_script : Stmt := top 66
abbrev s_law : Stmt := top 67
abbrev M_moved : List Str := ["point", "step"]
abbrev M_points : List Str := ["script", "found", "step"]
abbrev M_widest : List Str := ["script", "i", "j"]
abbrev M_is_allowed : List Str := ["script", "promise"]
abbrev M_can_be_done : List Str := ["step", "point", "left", "right", "i", "j"]
abbrev M_first_wrong : List Str := ["script", "left", "right", "some", "index", "step"]
abbrev M_Prices_drop : List Str := ["self", "letter"]
abbrev M_Prices_put : List Str := ["self", "letter"]
abbrev M_step_price : List Str := ["step", "point", "left", "right", "prices"]
abbrev M_is_in_lag : List Str := ["point", "promise"]
abbrev M_all_points : List Str := ["left", "right", "i", "j"]
abbrev M_steps_from : List Str := ["left", "right", "prices", "promise", "point", "some", "step", "later"]
abbrev M_grid : List Str := ["left", "right", "prices", "promise", "rows", "point", "here", "step", "i", "j", "cost"]
abbrev M_rests : List Str := ["left", "right", "prices", "promise", "rows", "end", "point", "some", "found", "i", "step", "cost", "j", "rest"]
abbrev M_least : List Str := ["left", "right", "prices", "promise"]
abbrev M_is_integer : List Str := ["thing"]
abbrev M_is_between : List Str := ["thing", "low", "high"]
abbrev M_is_letter : List Str := ["thing"]
abbrev M_are_costs : List Str := ["thing", "one"]
abbrev M_is_price_table : List Str := ["thing", "letter", "costs"]
abbrev M_Prices___init__ : List Str := ["self", "table", "letter"]
abbrev M_price_so_far : List Str := ["script", "left", "right", "prices", "step", "point"]
abbrev M_rest_least : List Str := ["left", "right", "prices", "promise", "point"]
abbrev M_loss_of_script__X : List Str := ["left", "right", "prices", "promise", "script", "wrong", "rest", "whole"]
abbrev M_loss_of_script : List Str := ["left", "right", "prices", "promise", "script", "wrong", "rest", "whole"]
abbrev M__law_bag : List Str := ["_law_script_here", "_law_cell"]
abbrev M__law_take : List Str := ["_law_bag_here", "_law_many", "_law_cell", "_law_mixed_here", "_law_drawn", "_law_early", "_law_second"]
abbrev M__law_one : List Str := ["_law_bag_here", "_law_some"]
abbrev M__law_one__S : List Str := ["_law_bag_here", "_law_some"]
abbrev M__law_mixed : List Str := ["_law_bag_here", "_law_things", "_law_found", "_law_thing"]
abbrev M__law_alphabet : List Str := ["_law_bag_here"]
abbrev M__law_text : List Str := ["_law_bag_here", "_law_letters", "_law_most", "_law_k"]
abbrev M__law_full : List Str := ["_law_bag_here", "_law_letters", "_law_size", "_law_k"]
abbrev M__law_edited : List Str := ["_law_bag_here", "_law_text_here", "_law_letters", "_law_most", "_law_found", "_law_letter", "_law_way"]
abbrev M__law_texts : List Str := ["_law_bag_here", "_law_letters", "_law_most", "_law_way", "_law_ring", "_law_base"]
abbrev M__law_price_table : List Str := ["_law_bag_here", "_law_letters", "_law_found", "_law_top", "_law_letter"]
abbrev M__law_promise : List Str := ["_law_bag_here", "_law_way"]
abbrev M__law_steps : List Str := ["_law_left", "_law_right", "_law_i", "_law_j", "_law_found"]
abbrev M__law_walk : List Str := ["_law_bag_here", "_law_left", "_law_right", "_law_most", "_law_i", "_law_j", "_law_found", "_law_turn", "_law_some", "_law_step"]
abbrev M__law_costs : List Str := ["_law_table", "_law_letter"]
abbrev M__law_alike : List Str := ["_law_found", "_law_due"]
abbrev M__law_lag : List Str := ["_law_promise_here"]
abbrev M__law_behind : List Str := ["_law_left", "_law_right", "_law_table", "_law_lag_here", "_law_rows", "_law_a", "_law_b", "_law_i", "_law_j", "_law_some"]
abbrev M__law_leading : List Str := ["_law_left", "_law_right", "_law_table", "_law_lag_here", "_law_spot_here", "_law_aim", "_law_rows", "_law_i", "_law_j", "_law_found", "_law_price", "_law_turn", "_law_here"]
abbrev M__law_paid : List Str := ["_law_script_here", "_law_left", "_law_right", "_law_table", "_law_i", "_law_j", "_law_found", "_law_step"]
abbrev M__law_spot : List Str := ["_law_script_here"]
abbrev M__law_price_from : List Str := ["_law_script_here", "_law_texts_here", "_law_table", "_law_lag_here", "_law_rows", "_law_spot_here", "_law_rest"]
abbrev M__law_stops : List Str := ["_law_script_here", "_law_left", "_law_right", "_law_i", "_law_j", "_law_k", "_law_step"]
abbrev M__law_widest : List Str := ["_law_script_here", "_law_found", "_law_here", "_law_step"]
abbrev M__law_loss_due : List Str := ["_law_script_here", "_law_left", "_law_right", "_law_table", "_law_promise_here", "_law_bad", "_law_price", "_law_least"]
abbrev M__law_loss_told : List Str := ["_law_script_here", "_law_left", "_law_right", "_law_prices", "_law_promise_here", "e"]
abbrev M__law_script : List Str := ["_law_bag_here", "_law_left", "_law_right", "_law_found", "_law_way", "_law_at"]
abbrev M_law : List Str := ["_law_script_here", "_law_bag_here", "_law_kept", "_law_turn", "_law_letters", "_law_table", "_law_left", "_law_right", "_law_prices", "_law_promises", "_law_promise_here", "_law_rows", "_law_k", "_law_i", "_law_j", "_law_one_here", "_law_due"]

abbrev FnP (K : PySem.W.Frag) (x q : Str) (st : Stmt) (f : Addr) (fd : FuncData) : Prop := FunD K x q (defArgs st) (defBody st) (defScope st) [] [] f fd
structure Fs (P : Program) (w : World) (K : PySem.W.Frag) (mg : Str → Option Value) : Type where
  ad : Ad
  f_moved : Addr
  d_moved : FuncData
  F_moved : FnP K "moved" "moved" s_moved f_moved d_moved
  g_moved : mg "moved" = some (.ref f_moved)
  f_points : Addr
  d_points : FuncData
  F_points : FnP K "points" "points" s_points f_points d_points
  g_points : mg "points" = some (.ref f_points)
  f_widest : Addr
  d_widest : FuncData
  F_widest : FnP K "widest" "widest" s_widest f_widest d_widest
  g_widest : mg "widest" = some (.ref f_widest)
  f_is_allowed : Addr
  d_is_allowed : FuncData
  F_is_allowed : FnP K "is_allowed" "is_allowed" s_is_allowed f_is_allowed d_is_allowed
  g_is_allowed : mg "is_allowed" = some (.ref f_is_allowed)
  f_can_be_done : Addr
  d_can_be_done : FuncData
  F_can_be_done : FnP K "can_be_done" "can_be_done" s_can_be_done f_can_be_done d_can_be_done
  g_can_be_done : mg "can_be_done" = some (.ref f_can_be_done)
  f_first_wrong : Addr
  d_first_wrong : FuncData
  F_first_wrong : FnP K "first_wrong" "first_wrong" s_first_wrong f_first_wrong d_first_wrong
  g_first_wrong : mg "first_wrong" = some (.ref f_first_wrong)
  f_Prices_drop : Addr
  d_Prices_drop : FuncData
  F_Prices_drop : FnP K "drop" "Prices.drop" s_Prices_drop f_Prices_drop d_Prices_drop
  m_Prices_drop : Meth K ad.a_Prices "drop" f_Prices_drop
  f_Prices_put : Addr
  d_Prices_put : FuncData
  F_Prices_put : FnP K "put" "Prices.put" s_Prices_put f_Prices_put d_Prices_put
  m_Prices_put : Meth K ad.a_Prices "put" f_Prices_put
  f_step_price : Addr
  d_step_price : FuncData
  F_step_price : FnP K "step_price" "step_price" s_step_price f_step_price d_step_price
  g_step_price : mg "step_price" = some (.ref f_step_price)
  f_is_in_lag : Addr
  d_is_in_lag : FuncData
  F_is_in_lag : FnP K "is_in_lag" "is_in_lag" s_is_in_lag f_is_in_lag d_is_in_lag
  g_is_in_lag : mg "is_in_lag" = some (.ref f_is_in_lag)
  f_all_points : Addr
  d_all_points : FuncData
  F_all_points : FnP K "all_points" "all_points" s_all_points f_all_points d_all_points
  g_all_points : mg "all_points" = some (.ref f_all_points)
  f_steps_from : Addr
  d_steps_from : FuncData
  F_steps_from : FnP K "steps_from" "steps_from" s_steps_from f_steps_from d_steps_from
  g_steps_from : mg "steps_from" = some (.ref f_steps_from)
  f_grid : Addr
  d_grid : FuncData
  F_grid : FnP K "grid" "grid" s_grid f_grid d_grid
  g_grid : mg "grid" = some (.ref f_grid)
  f_rests : Addr
  d_rests : FuncData
  F_rests : FnP K "rests" "rests" s_rests f_rests d_rests
  g_rests : mg "rests" = some (.ref f_rests)
  f_least : Addr
  d_least : FuncData
  F_least : FnP K "least" "least" s_least f_least d_least
  g_least : mg "least" = some (.ref f_least)
  f_is_integer : Addr
  d_is_integer : FuncData
  F_is_integer : FnP K "is_integer" "is_integer" s_is_integer f_is_integer d_is_integer
  g_is_integer : mg "is_integer" = some (.ref f_is_integer)
  f_is_between : Addr
  d_is_between : FuncData
  F_is_between : FnP K "is_between" "is_between" s_is_between f_is_between d_is_between
  g_is_between : mg "is_between" = some (.ref f_is_between)
  f_is_letter : Addr
  d_is_letter : FuncData
  F_is_letter : FnP K "is_letter" "is_letter" s_is_letter f_is_letter d_is_letter
  g_is_letter : mg "is_letter" = some (.ref f_is_letter)
  f_are_costs : Addr
  d_are_costs : FuncData
  F_are_costs : FnP K "are_costs" "are_costs" s_are_costs f_are_costs d_are_costs
  g_are_costs : mg "are_costs" = some (.ref f_are_costs)
  f_is_price_table : Addr
  d_is_price_table : FuncData
  F_is_price_table : FnP K "is_price_table" "is_price_table" s_is_price_table f_is_price_table d_is_price_table
  g_is_price_table : mg "is_price_table" = some (.ref f_is_price_table)
  f_Prices___init__ : Addr
  d_Prices___init__ : FuncData
  F_Prices___init__ : FnP K "__init__" "Prices.__init__" s_Prices___init__ f_Prices___init__ d_Prices___init__
  k_Prices : Mk K ad.a_Prices f_Prices___init__
  i_Prices : IsiOk K ad.a_Prices
  f_price_so_far : Addr
  d_price_so_far : FuncData
  F_price_so_far : FnP K "price_so_far" "price_so_far" s_price_so_far f_price_so_far d_price_so_far
  g_price_so_far : mg "price_so_far" = some (.ref f_price_so_far)
  f_rest_least : Addr
  d_rest_least : FuncData
  F_rest_least : FnP K "rest_least" "rest_least" s_rest_least f_rest_least d_rest_least
  g_rest_least : mg "rest_least" = some (.ref f_rest_least)
  f_loss_of_script__X : Addr
  d_loss_of_script__X : FuncData
  F_loss_of_script__X : FnP K "loss_of_script" "loss_of_script" s_loss_of_script__X f_loss_of_script__X d_loss_of_script__X
  g_loss_of_script__X : mg "loss_of_script" = some (.ref f_loss_of_script__X)
  f_loss_of_script : Addr
  d_loss_of_script : FuncData
  F_loss_of_script : FnP K "loss_of_script" "loss_of_script" s_loss_of_script f_loss_of_script d_loss_of_script
  g_loss_of_script : mg "loss_of_script" = some (.ref f_loss_of_script)
  f__law_bag : Addr
  d__law_bag : FuncData
  F__law_bag : FnP K "_law_bag" "_law_bag" s__law_bag f__law_bag d__law_bag
  g__law_bag : mg "_law_bag" = some (.ref f__law_bag)
  f__law_take : Addr
  d__law_take : FuncData
  F__law_take : FnP K "_law_take" "_law_take" s__law_take f__law_take d__law_take
  g__law_take : mg "_law_take" = some (.ref f__law_take)
  f__law_one : Addr
  d__law_one : FuncData
  F__law_one : FnP K "_law_one" "_law_one" s__law_one f__law_one d__law_one
  g__law_one : mg "_law_one" = some (.ref f__law_one)
  f__law_one__S : Addr
  d__law_one__S : FuncData
  F__law_one__S : FnP K "_law_one" "_law_one" s__law_one__S f__law_one__S d__law_one__S
  g__law_one__S : mg "_law_one" = some (.ref f__law_one__S)
  f__law_mixed : Addr
  d__law_mixed : FuncData
  F__law_mixed : FnP K "_law_mixed" "_law_mixed" s__law_mixed f__law_mixed d__law_mixed
  g__law_mixed : mg "_law_mixed" = some (.ref f__law_mixed)
  f__law_alphabet : Addr
  d__law_alphabet : FuncData
  F__law_alphabet : FnP K "_law_alphabet" "_law_alphabet" s__law_alphabet f__law_alphabet d__law_alphabet
  g__law_alphabet : mg "_law_alphabet" = some (.ref f__law_alphabet)
  f__law_text : Addr
  d__law_text : FuncData
  F__law_text : FnP K "_law_text" "_law_text" s__law_text f__law_text d__law_text
  g__law_text : mg "_law_text" = some (.ref f__law_text)
  f__law_full : Addr
  d__law_full : FuncData
  F__law_full : FnP K "_law_full" "_law_full" s__law_full f__law_full d__law_full
  g__law_full : mg "_law_full" = some (.ref f__law_full)
  f__law_edited : Addr
  d__law_edited : FuncData
  F__law_edited : FnP K "_law_edited" "_law_edited" s__law_edited f__law_edited d__law_edited
  g__law_edited : mg "_law_edited" = some (.ref f__law_edited)
  f__law_texts : Addr
  d__law_texts : FuncData
  F__law_texts : FnP K "_law_texts" "_law_texts" s__law_texts f__law_texts d__law_texts
  g__law_texts : mg "_law_texts" = some (.ref f__law_texts)
  f__law_price_table : Addr
  d__law_price_table : FuncData
  F__law_price_table : FnP K "_law_price_table" "_law_price_table" s__law_price_table f__law_price_table d__law_price_table
  g__law_price_table : mg "_law_price_table" = some (.ref f__law_price_table)
  f__law_promise : Addr
  d__law_promise : FuncData
  F__law_promise : FnP K "_law_promise" "_law_promise" s__law_promise f__law_promise d__law_promise
  g__law_promise : mg "_law_promise" = some (.ref f__law_promise)
  f__law_steps : Addr
  d__law_steps : FuncData
  F__law_steps : FnP K "_law_steps" "_law_steps" s__law_steps f__law_steps d__law_steps
  g__law_steps : mg "_law_steps" = some (.ref f__law_steps)
  f__law_walk : Addr
  d__law_walk : FuncData
  F__law_walk : FnP K "_law_walk" "_law_walk" s__law_walk f__law_walk d__law_walk
  g__law_walk : mg "_law_walk" = some (.ref f__law_walk)
  f__law_costs : Addr
  d__law_costs : FuncData
  F__law_costs : FnP K "_law_costs" "_law_costs" s__law_costs f__law_costs d__law_costs
  g__law_costs : mg "_law_costs" = some (.ref f__law_costs)
  f__law_alike : Addr
  d__law_alike : FuncData
  F__law_alike : FnP K "_law_alike" "_law_alike" s__law_alike f__law_alike d__law_alike
  g__law_alike : mg "_law_alike" = some (.ref f__law_alike)
  f__law_lag : Addr
  d__law_lag : FuncData
  F__law_lag : FnP K "_law_lag" "_law_lag" s__law_lag f__law_lag d__law_lag
  g__law_lag : mg "_law_lag" = some (.ref f__law_lag)
  f__law_behind : Addr
  d__law_behind : FuncData
  F__law_behind : FnP K "_law_behind" "_law_behind" s__law_behind f__law_behind d__law_behind
  g__law_behind : mg "_law_behind" = some (.ref f__law_behind)
  f__law_leading : Addr
  d__law_leading : FuncData
  F__law_leading : FnP K "_law_leading" "_law_leading" s__law_leading f__law_leading d__law_leading
  g__law_leading : mg "_law_leading" = some (.ref f__law_leading)
  f__law_paid : Addr
  d__law_paid : FuncData
  F__law_paid : FnP K "_law_paid" "_law_paid" s__law_paid f__law_paid d__law_paid
  g__law_paid : mg "_law_paid" = some (.ref f__law_paid)
  f__law_spot : Addr
  d__law_spot : FuncData
  F__law_spot : FnP K "_law_spot" "_law_spot" s__law_spot f__law_spot d__law_spot
  g__law_spot : mg "_law_spot" = some (.ref f__law_spot)
  f__law_price_from : Addr
  d__law_price_from : FuncData
  F__law_price_from : FnP K "_law_price_from" "_law_price_from" s__law_price_from f__law_price_from d__law_price_from
  g__law_price_from : mg "_law_price_from" = some (.ref f__law_price_from)
  f__law_stops : Addr
  d__law_stops : FuncData
  F__law_stops : FnP K "_law_stops" "_law_stops" s__law_stops f__law_stops d__law_stops
  g__law_stops : mg "_law_stops" = some (.ref f__law_stops)
  f__law_widest : Addr
  d__law_widest : FuncData
  F__law_widest : FnP K "_law_widest" "_law_widest" s__law_widest f__law_widest d__law_widest
  g__law_widest : mg "_law_widest" = some (.ref f__law_widest)
  f__law_loss_due : Addr
  d__law_loss_due : FuncData
  F__law_loss_due : FnP K "_law_loss_due" "_law_loss_due" s__law_loss_due f__law_loss_due d__law_loss_due
  g__law_loss_due : mg "_law_loss_due" = some (.ref f__law_loss_due)
  f__law_loss_told : Addr
  d__law_loss_told : FuncData
  F__law_loss_told : FnP K "_law_loss_told" "_law_loss_told" s__law_loss_told f__law_loss_told d__law_loss_told
  g__law_loss_told : mg "_law_loss_told" = some (.ref f__law_loss_told)
  f__law_script : Addr
  d__law_script : FuncData
  F__law_script : FnP K "_law_script" "_law_script" s__law_script f__law_script d__law_script
  g__law_script : mg "_law_script" = some (.ref f__law_script)
  f_law : Addr
  d_law : FuncData
  F_law : FnP K "law" "law" s_law f_law d_law
  g_law : mg "law" = some (.ref f_law)
  g_Prices : mg "Prices" = some (.ref ad.a_Prices)
  sc_Prices : SlX.SCls K ad.a_Prices
  s_Prices_its_costs : ∃ p, SlX.Slot1 K ad.a_Prices "its_costs" p 0
  g_NotAScript : mg "NotAScript" = some (.ref ad.a_NotAScript)
  x_NotAScript : ExcC P K ad.a_NotAScript "index" "index"
  e_NotAScript_NotAScript : PySem.W.exmOne K (.ref ad.a_NotAScript) (.ref ad.a_NotAScript) = some true
  n_abs : mg "abs" = none
  n_all : mg "all" = none
  n_bool : mg "bool" = none
  n_dict : mg "dict" = none
  n_enumerate : mg "enumerate" = none
  n_int : mg "int" = none
  n_isinstance : mg "isinstance" = none
  n_len : mg "len" = none
  n_max : mg "max" = none
  n_min : mg "min" = none
  n_range : mg "range" = none
  n_repr : mg "repr" = none
  n_sorted : mg "sorted" = none
  n_sum : mg "sum" = none
  n_tuple : mg "tuple" = none
  n_zip : mg "zip" = none
  c_DROP : ∃ t, mg "DROP" = some (.str (S [100]) t)
  c_GREATEST_LETTER : ∃ t, mg "GREATEST_LETTER" = some (.int 1000000000 t)
  c_GREATEST_PRICE : ∃ t, mg "GREATEST_PRICE" = some (.int 9 t)
  a_IN_ORDER : Addr
  g_IN_ORDER : mg "IN_ORDER" = some (.ref a_IN_ORDER)
  T_IN_ORDER : KTup K a_IN_ORDER [.str [107], .str [100], .str [112]]
  c_KEEP : ∃ t, mg "KEEP" = some (.str (S [107]) t)
  a_PLAIN : Addr
  g_PLAIN : mg "PLAIN" = some (.ref a_PLAIN)
  T_PLAIN : KTup K a_PLAIN [.int 1, .int 1]
  c_PUT : ∃ t, mg "PUT" = some (.str (S [112]) t)
theorem sc_moved : FnScope M_moved ["point", "step"] (defScope s_moved) := ⟨rfl, rfl, rfl, by decide +kernel, rfl, by decide +kernel, by decide +kernel⟩
theorem b_moved {K : PySem.W.Frag} {f : Addr} {fd : FuncData} (F : FnP K "moved" "moved" s_moved f fd) : Binds K fd ["point", "step"] [] := F.bindsN fun _ _ _ _ _ _ us hl => match us, hl with | [_, _], _ => rfl
theorem sc_points : FnScope M_points ["script"] (defScope s_points) := ⟨rfl, rfl, rfl, by decide +kernel, rfl, by decide +kernel, by decide +kernel⟩
theorem b_points {K : PySem.W.Frag} {f : Addr} {fd : FuncData} (F : FnP K "points" "points" s_points f fd) : Binds K fd ["script"] [] := F.bindsN fun _ _ _ _ _ _ us hl => match us, hl with | [_], _ => rfl
theorem sc_widest : FnScope M_widest ["script"] (defScope s_widest) := ⟨rfl, rfl, rfl, by decide +kernel, rfl, by decide +kernel, by decide +kernel⟩
theorem b_widest {K : PySem.W.Frag} {f : Addr} {fd : FuncData} (F : FnP K "widest" "widest" s_widest f fd) : Binds K fd ["script"] [] := F.bindsN fun _ _ _ _ _ _ us hl => match us, hl with | [_], _ => rfl
theorem sc_is_allowed : FnScope M_is_allowed ["script", "promise"] (defScope s_is_allowed) := ⟨rfl, rfl, rfl, by decide +kernel, rfl, by decide +kernel, by decide +kernel⟩
theorem b_is_allowed {K : PySem.W.Frag} {f : Addr} {fd : FuncData} (F : FnP K "is_allowed" "is_allowed" s_is_allowed f fd) : Binds K fd ["script", "promise"] [] := F.bindsN fun _ _ _ _ _ _ us hl => match us, hl with | [_, _], _ => rfl
theorem sc_can_be_done : FnScope M_can_be_done ["step", "point", "left", "right"] (defScope s_can_be_done) := ⟨rfl, rfl, rfl, by decide +kernel, rfl, by decide +kernel, by decide +kernel⟩
theorem b_can_be_done {K : PySem.W.Frag} {f : Addr} {fd : FuncData} (F : FnP K "can_be_done" "can_be_done" s_can_be_done f fd) : Binds K fd ["step", "point", "left", "right"] [] := F.bindsN fun _ _ _ _ _ _ us hl => match us, hl with | [_, _, _, _], _ => rfl
theorem sc_first_wrong : FnScope M_first_wrong ["script", "left", "right"] (defScope s_first_wrong) := ⟨rfl, rfl, rfl, by decide +kernel, rfl, by decide +kernel, by decide +kernel⟩
theorem b_first_wrong {K : PySem.W.Frag} {f : Addr} {fd : FuncData} (F : FnP K "first_wrong" "first_wrong" s_first_wrong f fd) : Binds K fd ["script", "left", "right"] [] := F.bindsN fun _ _ _ _ _ _ us hl => match us, hl with | [_, _, _], _ => rfl
theorem sc_Prices_drop : FnScope M_Prices_drop ["self", "letter"] (defScope s_Prices_drop) := ⟨rfl, rfl, rfl, by decide +kernel, rfl, by decide +kernel, by decide +kernel⟩
theorem b_Prices_drop {K : PySem.W.Frag} {f : Addr} {fd : FuncData} (F : FnP K "drop" "Prices.drop" s_Prices_drop f fd) : Binds K fd ["self", "letter"] [] := F.bindsN fun _ _ _ _ _ _ us hl => match us, hl with | [_, _], _ => rfl
theorem sc_Prices_put : FnScope M_Prices_put ["self", "letter"] (defScope s_Prices_put) := ⟨rfl, rfl, rfl, by decide +kernel, rfl, by decide +kernel, by decide +kernel⟩
theorem b_Prices_put {K : PySem.W.Frag} {f : Addr} {fd : FuncData} (F : FnP K "put" "Prices.put" s_Prices_put f fd) : Binds K fd ["self", "letter"] [] := F.bindsN fun _ _ _ _ _ _ us hl => match us, hl with | [_, _], _ => rfl
theorem sc_step_price : FnScope M_step_price ["step", "point", "left", "right", "prices"] (defScope s_step_price) := ⟨rfl, rfl, rfl, by decide +kernel, rfl, by decide +kernel, by decide +kernel⟩
theorem b_step_price {K : PySem.W.Frag} {f : Addr} {fd : FuncData} (F : FnP K "step_price" "step_price" s_step_price f fd) : Binds K fd ["step", "point", "left", "right", "prices"] [] := F.bindsN fun _ _ _ _ _ _ us hl => match us, hl with | [_, _, _, _, _], _ => rfl
theorem sc_is_in_lag : FnScope M_is_in_lag ["point", "promise"] (defScope s_is_in_lag) := ⟨rfl, rfl, rfl, by decide +kernel, rfl, by decide +kernel, by decide +kernel⟩
theorem b_is_in_lag {K : PySem.W.Frag} {f : Addr} {fd : FuncData} (F : FnP K "is_in_lag" "is_in_lag" s_is_in_lag f fd) : Binds K fd ["point", "promise"] [] := F.bindsN fun _ _ _ _ _ _ us hl => match us, hl with | [_, _], _ => rfl
theorem sc_all_points : FnScope M_all_points ["left", "right"] (defScope s_all_points) := ⟨rfl, rfl, rfl, by decide +kernel, rfl, by decide +kernel, by decide +kernel⟩
theorem b_all_points {K : PySem.W.Frag} {f : Addr} {fd : FuncData} (F : FnP K "all_points" "all_points" s_all_points f fd) : Binds K fd ["left", "right"] [] := F.bindsN fun _ _ _ _ _ _ us hl => match us, hl with | [_, _], _ => rfl
theorem sc_steps_from : FnScope M_steps_from ["left", "right", "prices", "promise", "point"] (defScope s_steps_from) := ⟨rfl, rfl, rfl, by decide +kernel, rfl, by decide +kernel, by decide +kernel⟩
theorem b_steps_from {K : PySem.W.Frag} {f : Addr} {fd : FuncData} (F : FnP K "steps_from" "steps_from" s_steps_from f fd) : Binds K fd ["left", "right", "prices", "promise", "point"] [] := F.bindsN fun _ _ _ _ _ _ us hl => match us, hl with | [_, _, _, _, _], _ => rfl
theorem sc_grid : FnScope M_grid ["left", "right", "prices", "promise"] (defScope s_grid) := ⟨rfl, rfl, rfl, by decide +kernel, rfl, by decide +kernel, by decide +kernel⟩
theorem b_grid {K : PySem.W.Frag} {f : Addr} {fd : FuncData} (F : FnP K "grid" "grid" s_grid f fd) : Binds K fd ["left", "right", "prices", "promise"] [] := F.bindsN fun _ _ _ _ _ _ us hl => match us, hl with | [_, _, _, _], _ => rfl
theorem sc_rests : FnScope M_rests ["left", "right", "prices", "promise"] (defScope s_rests) := ⟨rfl, rfl, rfl, by decide +kernel, rfl, by decide +kernel, by decide +kernel⟩
theorem b_rests {K : PySem.W.Frag} {f : Addr} {fd : FuncData} (F : FnP K "rests" "rests" s_rests f fd) : Binds K fd ["left", "right", "prices", "promise"] [] := F.bindsN fun _ _ _ _ _ _ us hl => match us, hl with | [_, _, _, _], _ => rfl
theorem sc_least : FnScope M_least ["left", "right", "prices", "promise"] (defScope s_least) := ⟨rfl, rfl, rfl, by decide +kernel, rfl, by decide +kernel, by decide +kernel⟩
theorem b_least {K : PySem.W.Frag} {f : Addr} {fd : FuncData} (F : FnP K "least" "least" s_least f fd) : Binds K fd ["left", "right", "prices", "promise"] [] := F.bindsN fun _ _ _ _ _ _ us hl => match us, hl with | [_, _, _, _], _ => rfl
theorem sc_is_integer : FnScope M_is_integer ["thing"] (defScope s_is_integer) := ⟨rfl, rfl, rfl, by decide +kernel, rfl, by decide +kernel, by decide +kernel⟩
theorem b_is_integer {K : PySem.W.Frag} {f : Addr} {fd : FuncData} (F : FnP K "is_integer" "is_integer" s_is_integer f fd) : Binds K fd ["thing"] [] := F.bindsN fun _ _ _ _ _ _ us hl => match us, hl with | [_], _ => rfl
theorem sc_is_between : FnScope M_is_between ["thing", "low", "high"] (defScope s_is_between) := ⟨rfl, rfl, rfl, by decide +kernel, rfl, by decide +kernel, by decide +kernel⟩
theorem b_is_between {K : PySem.W.Frag} {f : Addr} {fd : FuncData} (F : FnP K "is_between" "is_between" s_is_between f fd) : Binds K fd ["thing", "low", "high"] [] := F.bindsN fun _ _ _ _ _ _ us hl => match us, hl with | [_, _, _], _ => rfl
theorem sc_is_letter : FnScope M_is_letter ["thing"] (defScope s_is_letter) := ⟨rfl, rfl, rfl, by decide +kernel, rfl, by decide +kernel, by decide +kernel⟩
theorem b_is_letter {K : PySem.W.Frag} {f : Addr} {fd : FuncData} (F : FnP K "is_letter" "is_letter" s_is_letter f fd) : Binds K fd ["thing"] [] := F.bindsN fun _ _ _ _ _ _ us hl => match us, hl with | [_], _ => rfl
theorem sc_are_costs : FnScope M_are_costs ["thing"] (defScope s_are_costs) := ⟨rfl, rfl, rfl, by decide +kernel, rfl, by decide +kernel, by decide +kernel⟩
theorem b_are_costs {K : PySem.W.Frag} {f : Addr} {fd : FuncData} (F : FnP K "are_costs" "are_costs" s_are_costs f fd) : Binds K fd ["thing"] [] := F.bindsN fun _ _ _ _ _ _ us hl => match us, hl with | [_], _ => rfl
theorem sc_is_price_table : FnScope M_is_price_table ["thing"] (defScope s_is_price_table) := ⟨rfl, rfl, rfl, by decide +kernel, rfl, by decide +kernel, by decide +kernel⟩
theorem b_is_price_table {K : PySem.W.Frag} {f : Addr} {fd : FuncData} (F : FnP K "is_price_table" "is_price_table" s_is_price_table f fd) : Binds K fd ["thing"] [] := F.bindsN fun _ _ _ _ _ _ us hl => match us, hl with | [_], _ => rfl
theorem sc_Prices___init__ : FnScope M_Prices___init__ ["self", "table"] (defScope s_Prices___init__) := ⟨rfl, rfl, rfl, by decide +kernel, rfl, by decide +kernel, by decide +kernel⟩
theorem b_Prices___init__ {K : PySem.W.Frag} {f : Addr} {fd : FuncData} (F : FnP K "__init__" "Prices.__init__" s_Prices___init__ f fd) : Binds K fd ["self", "table"] [] := F.bindsN fun _ _ _ _ _ _ us hl => match us, hl with | [_, _], _ => rfl
theorem sc_price_so_far : FnScope M_price_so_far ["script", "left", "right", "prices"] (defScope s_price_so_far) := ⟨rfl, rfl, rfl, by decide +kernel, rfl, by decide +kernel, by decide +kernel⟩
theorem b_price_so_far {K : PySem.W.Frag} {f : Addr} {fd : FuncData} (F : FnP K "price_so_far" "price_so_far" s_price_so_far f fd) : Binds K fd ["script", "left", "right", "prices"] [] := F.bindsN fun _ _ _ _ _ _ us hl => match us, hl with | [_, _, _, _], _ => rfl
theorem sc_rest_least : FnScope M_rest_least ["left", "right", "prices", "promise", "point"] (defScope s_rest_least) := ⟨rfl, rfl, rfl, by decide +kernel, rfl, by decide +kernel, by decide +kernel⟩
theorem b_rest_least {K : PySem.W.Frag} {f : Addr} {fd : FuncData} (F : FnP K "rest_least" "rest_least" s_rest_least f fd) : Binds K fd ["left", "right", "prices", "promise", "point"] [] := F.bindsN fun _ _ _ _ _ _ us hl => match us, hl with | [_, _, _, _, _], _ => rfl
theorem sc_loss_of_script__X : FnScope M_loss_of_script__X ["left", "right", "prices", "promise", "script"] (defScope s_loss_of_script__X) := ⟨rfl, rfl, rfl, by decide +kernel, rfl, by decide +kernel, by decide +kernel⟩
theorem b_loss_of_script__X {K : PySem.W.Frag} {f : Addr} {fd : FuncData} (F : FnP K "loss_of_script" "loss_of_script" s_loss_of_script__X f fd) : Binds K fd ["left", "right", "prices", "promise", "script"] [] := F.bindsN fun _ _ _ _ _ _ us hl => match us, hl with | [_, _, _, _, _], _ => rfl
theorem sc_loss_of_script : FnScope M_loss_of_script ["left", "right", "prices", "promise", "script"] (defScope s_loss_of_script) := ⟨rfl, rfl, rfl, by decide +kernel, rfl, by decide +kernel, by decide +kernel⟩
theorem b_loss_of_script {K : PySem.W.Frag} {f : Addr} {fd : FuncData} (F : FnP K "loss_of_script" "loss_of_script" s_loss_of_script f fd) : Binds K fd ["left", "right", "prices", "promise", "script"] [] := F.bindsN fun _ _ _ _ _ _ us hl => match us, hl with | [_, _, _, _, _], _ => rfl
theorem sc__law_bag : FnScope M__law_bag ["_law_script_here"] (defScope s__law_bag) := ⟨rfl, rfl, rfl, by decide +kernel, rfl, by decide +kernel, by decide +kernel⟩
theorem b__law_bag {K : PySem.W.Frag} {f : Addr} {fd : FuncData} (F : FnP K "_law_bag" "_law_bag" s__law_bag f fd) : Binds K fd ["_law_script_here"] [] := F.bindsN fun _ _ _ _ _ _ us hl => match us, hl with | [_], _ => rfl
theorem sc__law_take : FnScope M__law_take ["_law_bag_here", "_law_many"] (defScope s__law_take) := ⟨rfl, rfl, rfl, by decide +kernel, rfl, by decide +kernel, by decide +kernel⟩
theorem b__law_take {K : PySem.W.Frag} {f : Addr} {fd : FuncData} (F : FnP K "_law_take" "_law_take" s__law_take f fd) : Binds K fd ["_law_bag_here", "_law_many"] [] := F.bindsN fun _ _ _ _ _ _ us hl => match us, hl with | [_, _], _ => rfl
theorem sc__law_one : FnScope M__law_one ["_law_bag_here", "_law_some"] (defScope s__law_one) := ⟨rfl, rfl, rfl, by decide +kernel, rfl, by decide +kernel, by decide +kernel⟩
theorem b__law_one {K : PySem.W.Frag} {f : Addr} {fd : FuncData} (F : FnP K "_law_one" "_law_one" s__law_one f fd) : Binds K fd ["_law_bag_here", "_law_some"] [] := F.bindsN fun _ _ _ _ _ _ us hl => match us, hl with | [_, _], _ => rfl
theorem sc__law_one__S : FnScope M__law_one__S ["_law_bag_here", "_law_some"] (defScope s__law_one__S) := ⟨rfl, rfl, rfl, by decide +kernel, rfl, by decide +kernel, by decide +kernel⟩
theorem b__law_one__S {K : PySem.W.Frag} {f : Addr} {fd : FuncData} (F : FnP K "_law_one" "_law_one" s__law_one__S f fd) : Binds K fd ["_law_bag_here", "_law_some"] [] := F.bindsN fun _ _ _ _ _ _ us hl => match us, hl with | [_, _], _ => rfl
theorem sc__law_mixed : FnScope M__law_mixed ["_law_bag_here", "_law_things"] (defScope s__law_mixed) := ⟨rfl, rfl, rfl, by decide +kernel, rfl, by decide +kernel, by decide +kernel⟩
theorem b__law_mixed {K : PySem.W.Frag} {f : Addr} {fd : FuncData} (F : FnP K "_law_mixed" "_law_mixed" s__law_mixed f fd) : Binds K fd ["_law_bag_here", "_law_things"] [] := F.bindsN fun _ _ _ _ _ _ us hl => match us, hl with | [_, _], _ => rfl
theorem sc__law_alphabet : FnScope M__law_alphabet ["_law_bag_here"] (defScope s__law_alphabet) := ⟨rfl, rfl, rfl, by decide +kernel, rfl, by decide +kernel, by decide +kernel⟩
theorem b__law_alphabet {K : PySem.W.Frag} {f : Addr} {fd : FuncData} (F : FnP K "_law_alphabet" "_law_alphabet" s__law_alphabet f fd) : Binds K fd ["_law_bag_here"] [] := F.bindsN fun _ _ _ _ _ _ us hl => match us, hl with | [_], _ => rfl
theorem sc__law_text : FnScope M__law_text ["_law_bag_here", "_law_letters", "_law_most"] (defScope s__law_text) := ⟨rfl, rfl, rfl, by decide +kernel, rfl, by decide +kernel, by decide +kernel⟩
theorem b__law_text {K : PySem.W.Frag} {f : Addr} {fd : FuncData} (F : FnP K "_law_text" "_law_text" s__law_text f fd) : Binds K fd ["_law_bag_here", "_law_letters", "_law_most"] [] := F.bindsN fun _ _ _ _ _ _ us hl => match us, hl with | [_, _, _], _ => rfl
theorem sc__law_full : FnScope M__law_full ["_law_bag_here", "_law_letters", "_law_size"] (defScope s__law_full) := ⟨rfl, rfl, rfl, by decide +kernel, rfl, by decide +kernel, by decide +kernel⟩
theorem b__law_full {K : PySem.W.Frag} {f : Addr} {fd : FuncData} (F : FnP K "_law_full" "_law_full" s__law_full f fd) : Binds K fd ["_law_bag_here", "_law_letters", "_law_size"] [] := F.bindsN fun _ _ _ _ _ _ us hl => match us, hl with | [_, _, _], _ => rfl
theorem sc__law_edited : FnScope M__law_edited ["_law_bag_here", "_law_text_here", "_law_letters", "_law_most"] (defScope s__law_edited) := ⟨rfl, rfl, rfl, by decide +kernel, rfl, by decide +kernel, by decide +kernel⟩
theorem b__law_edited {K : PySem.W.Frag} {f : Addr} {fd : FuncData} (F : FnP K "_law_edited" "_law_edited" s__law_edited f fd) : Binds K fd ["_law_bag_here", "_law_text_here", "_law_letters", "_law_most"] [] := F.bindsN fun _ _ _ _ _ _ us hl => match us, hl with | [_, _, _, _], _ => rfl
theorem sc__law_texts : FnScope M__law_texts ["_law_bag_here", "_law_letters", "_law_most"] (defScope s__law_texts) := ⟨rfl, rfl, rfl, by decide +kernel, rfl, by decide +kernel, by decide +kernel⟩
theorem b__law_texts {K : PySem.W.Frag} {f : Addr} {fd : FuncData} (F : FnP K "_law_texts" "_law_texts" s__law_texts f fd) : Binds K fd ["_law_bag_here", "_law_letters", "_law_most"] [] := F.bindsN fun _ _ _ _ _ _ us hl => match us, hl with | [_, _, _], _ => rfl
theorem sc__law_price_table : FnScope M__law_price_table ["_law_bag_here", "_law_letters"] (defScope s__law_price_table) := ⟨rfl, rfl, rfl, by decide +kernel, rfl, by decide +kernel, by decide +kernel⟩
theorem b__law_price_table {K : PySem.W.Frag} {f : Addr} {fd : FuncData} (F : FnP K "_law_price_table" "_law_price_table" s__law_price_table f fd) : Binds K fd ["_law_bag_here", "_law_letters"] [] := F.bindsN fun _ _ _ _ _ _ us hl => match us, hl with | [_, _], _ => rfl
theorem sc__law_promise : FnScope M__law_promise ["_law_bag_here"] (defScope s__law_promise) := ⟨rfl, rfl, rfl, by decide +kernel, rfl, by decide +kernel, by decide +kernel⟩
theorem b__law_promise {K : PySem.W.Frag} {f : Addr} {fd : FuncData} (F : FnP K "_law_promise" "_law_promise" s__law_promise f fd) : Binds K fd ["_law_bag_here"] [] := F.bindsN fun _ _ _ _ _ _ us hl => match us, hl with | [_], _ => rfl
theorem sc__law_steps : FnScope M__law_steps ["_law_left", "_law_right", "_law_i", "_law_j"] (defScope s__law_steps) := ⟨rfl, rfl, rfl, by decide +kernel, rfl, by decide +kernel, by decide +kernel⟩
theorem b__law_steps {K : PySem.W.Frag} {f : Addr} {fd : FuncData} (F : FnP K "_law_steps" "_law_steps" s__law_steps f fd) : Binds K fd ["_law_left", "_law_right", "_law_i", "_law_j"] [] := F.bindsN fun _ _ _ _ _ _ us hl => match us, hl with | [_, _, _, _], _ => rfl
theorem sc__law_walk : FnScope M__law_walk ["_law_bag_here", "_law_left", "_law_right", "_law_most"] (defScope s__law_walk) := ⟨rfl, rfl, rfl, by decide +kernel, rfl, by decide +kernel, by decide +kernel⟩
theorem b__law_walk {K : PySem.W.Frag} {f : Addr} {fd : FuncData} (F : FnP K "_law_walk" "_law_walk" s__law_walk f fd) : Binds K fd ["_law_bag_here", "_law_left", "_law_right", "_law_most"] [] := F.bindsN fun _ _ _ _ _ _ us hl => match us, hl with | [_, _, _, _], _ => rfl
theorem sc__law_costs : FnScope M__law_costs ["_law_table", "_law_letter"] (defScope s__law_costs) := ⟨rfl, rfl, rfl, by decide +kernel, rfl, by decide +kernel, by decide +kernel⟩
theorem b__law_costs {K : PySem.W.Frag} {f : Addr} {fd : FuncData} (F : FnP K "_law_costs" "_law_costs" s__law_costs f fd) : Binds K fd ["_law_table", "_law_letter"] [] := F.bindsN fun _ _ _ _ _ _ us hl => match us, hl with | [_, _], _ => rfl
theorem sc__law_alike : FnScope M__law_alike ["_law_found", "_law_due"] (defScope s__law_alike) := ⟨rfl, rfl, rfl, by decide +kernel, rfl, by decide +kernel, by decide +kernel⟩
theorem b__law_alike {K : PySem.W.Frag} {f : Addr} {fd : FuncData} (F : FnP K "_law_alike" "_law_alike" s__law_alike f fd) : Binds K fd ["_law_found", "_law_due"] [] := F.bindsN fun _ _ _ _ _ _ us hl => match us, hl with | [_, _], _ => rfl
theorem sc__law_lag : FnScope M__law_lag ["_law_promise_here"] (defScope s__law_lag) := ⟨rfl, rfl, rfl, by decide +kernel, rfl, by decide +kernel, by decide +kernel⟩
theorem b__law_lag {K : PySem.W.Frag} {f : Addr} {fd : FuncData} (F : FnP K "_law_lag" "_law_lag" s__law_lag f fd) : Binds K fd ["_law_promise_here"] [] := F.bindsN fun _ _ _ _ _ _ us hl => match us, hl with | [_], _ => rfl
theorem sc__law_behind : FnScope M__law_behind ["_law_left", "_law_right", "_law_table", "_law_lag_here"] (defScope s__law_behind) := ⟨rfl, rfl, rfl, by decide +kernel, rfl, by decide +kernel, by decide +kernel⟩
theorem b__law_behind {K : PySem.W.Frag} {f : Addr} {fd : FuncData} (F : FnP K "_law_behind" "_law_behind" s__law_behind f fd) : Binds K fd ["_law_left", "_law_right", "_law_table", "_law_lag_here"] [] := F.bindsN fun _ _ _ _ _ _ us hl => match us, hl with | [_, _, _, _], _ => rfl
theorem sc__law_leading : FnScope M__law_leading ["_law_left", "_law_right", "_law_table", "_law_lag_here", "_law_spot_here", "_law_aim"] (defScope s__law_leading) := ⟨rfl, rfl, rfl, by decide +kernel, rfl, by decide +kernel, by decide +kernel⟩
theorem b__law_leading {K : PySem.W.Frag} {f : Addr} {fd : FuncData} (F : FnP K "_law_leading" "_law_leading" s__law_leading f fd) : Binds K fd ["_law_left", "_law_right", "_law_table", "_law_lag_here", "_law_spot_here", "_law_aim"] [] := F.bindsN fun _ _ _ _ _ _ us hl => match us, hl with | [_, _, _, _, _, _], _ => rfl
theorem sc__law_paid : FnScope M__law_paid ["_law_script_here", "_law_left", "_law_right", "_law_table"] (defScope s__law_paid) := ⟨rfl, rfl, rfl, by decide +kernel, rfl, by decide +kernel, by decide +kernel⟩
theorem b__law_paid {K : PySem.W.Frag} {f : Addr} {fd : FuncData} (F : FnP K "_law_paid" "_law_paid" s__law_paid f fd) : Binds K fd ["_law_script_here", "_law_left", "_law_right", "_law_table"] [] := F.bindsN fun _ _ _ _ _ _ us hl => match us, hl with | [_, _, _, _], _ => rfl
theorem sc__law_spot : FnScope M__law_spot ["_law_script_here"] (defScope s__law_spot) := ⟨rfl, rfl, rfl, by decide +kernel, rfl, by decide +kernel, by decide +kernel⟩
theorem b__law_spot {K : PySem.W.Frag} {f : Addr} {fd : FuncData} (F : FnP K "_law_spot" "_law_spot" s__law_spot f fd) : Binds K fd ["_law_script_here"] [] := F.bindsN fun _ _ _ _ _ _ us hl => match us, hl with | [_], _ => rfl
theorem sc__law_price_from : FnScope M__law_price_from ["_law_script_here", "_law_texts_here", "_law_table", "_law_lag_here"] (defScope s__law_price_from) := ⟨rfl, rfl, rfl, by decide +kernel, rfl, by decide +kernel, by decide +kernel⟩
theorem b__law_price_from {K : PySem.W.Frag} {f : Addr} {fd : FuncData} (F : FnP K "_law_price_from" "_law_price_from" s__law_price_from f fd) : Binds K fd ["_law_script_here", "_law_texts_here", "_law_table", "_law_lag_here"] [] := F.bindsN fun _ _ _ _ _ _ us hl => match us, hl with | [_, _, _, _], _ => rfl
theorem sc__law_stops : FnScope M__law_stops ["_law_script_here", "_law_left", "_law_right"] (defScope s__law_stops) := ⟨rfl, rfl, rfl, by decide +kernel, rfl, by decide +kernel, by decide +kernel⟩
theorem b__law_stops {K : PySem.W.Frag} {f : Addr} {fd : FuncData} (F : FnP K "_law_stops" "_law_stops" s__law_stops f fd) : Binds K fd ["_law_script_here", "_law_left", "_law_right"] [] := F.bindsN fun _ _ _ _ _ _ us hl => match us, hl with | [_, _, _], _ => rfl
theorem sc__law_widest : FnScope M__law_widest ["_law_script_here"] (defScope s__law_widest) := ⟨rfl, rfl, rfl, by decide +kernel, rfl, by decide +kernel, by decide +kernel⟩
theorem b__law_widest {K : PySem.W.Frag} {f : Addr} {fd : FuncData} (F : FnP K "_law_widest" "_law_widest" s__law_widest f fd) : Binds K fd ["_law_script_here"] [] := F.bindsN fun _ _ _ _ _ _ us hl => match us, hl with | [_], _ => rfl
theorem sc__law_loss_due : FnScope M__law_loss_due ["_law_script_here", "_law_left", "_law_right", "_law_table", "_law_promise_here"] (defScope s__law_loss_due) := ⟨rfl, rfl, rfl, by decide +kernel, rfl, by decide +kernel, by decide +kernel⟩
theorem b__law_loss_due {K : PySem.W.Frag} {f : Addr} {fd : FuncData} (F : FnP K "_law_loss_due" "_law_loss_due" s__law_loss_due f fd) : Binds K fd ["_law_script_here", "_law_left", "_law_right", "_law_table", "_law_promise_here"] [] := F.bindsN fun _ _ _ _ _ _ us hl => match us, hl with | [_, _, _, _, _], _ => rfl
theorem sc__law_loss_told : FnScope M__law_loss_told ["_law_script_here", "_law_left", "_law_right", "_law_prices", "_law_promise_here"] (defScope s__law_loss_told) := ⟨rfl, rfl, rfl, by decide +kernel, rfl, by decide +kernel, by decide +kernel⟩
theorem b__law_loss_told {K : PySem.W.Frag} {f : Addr} {fd : FuncData} (F : FnP K "_law_loss_told" "_law_loss_told" s__law_loss_told f fd) : Binds K fd ["_law_script_here", "_law_left", "_law_right", "_law_prices", "_law_promise_here"] [] := F.bindsN fun _ _ _ _ _ _ us hl => match us, hl with | [_, _, _, _, _], _ => rfl
theorem sc__law_script : FnScope M__law_script ["_law_bag_here", "_law_left", "_law_right"] (defScope s__law_script) := ⟨rfl, rfl, rfl, by decide +kernel, rfl, by decide +kernel, by decide +kernel⟩
theorem b__law_script {K : PySem.W.Frag} {f : Addr} {fd : FuncData} (F : FnP K "_law_script" "_law_script" s__law_script f fd) : Binds K fd ["_law_bag_here", "_law_left", "_law_right"] [] := F.bindsN fun _ _ _ _ _ _ us hl => match us, hl with | [_, _, _], _ => rfl
theorem sc_law : FnScope M_law ["_law_script_here"] (defScope s_law) := ⟨rfl, rfl, rfl, by decide +kernel, rfl, by decide +kernel, by decide +kernel⟩
section
variable {P : Program} {w : World} {K : PySem.W.Frag} {mg : Str → Option Value} {base : Heap}
theorem der_moved (T : Fs P w K mg) {f : Addr} {cdv : Value} {A : Around} {outer : List Env} {s : Shared} {H : Hp} (hr : Room 0 (A.deeper (envOfC "moved" (defScope s_moved) s.heap.objs.size f cdv))) (hG : (A.deeper (envOfC "moved" (defScope s_moved) s.heap.objs.size f cdv)).guards = some []) :
    LSs (cxOf CX0 P w K mg base M_moved "moved" (defScope s_moved) f cdv A outer s H E0).nox (defBody s_moved) (t_moved T.ad) :=
    lss_one (ls_ret (le_tup (la_cons (le_op lo_add (le_ix (lixA (u1 hr)) (le_var 0) (le_int)) (le_callTy lc_int rfl T.n_int boot_int (la_cons (le_cmp (lo_ne hr.units) (le_var 1) (le_gstr [112] rfl T.c_PUT)) (la_nil)))) (la_cons (le_op lo_add (le_ix (lixA (u1 hr)) (le_var 0) (le_int)) (le_callTy lc_int rfl T.n_int boot_int (la_cons (le_cmp (lo_ne hr.units) (le_var 1) (le_gstr [100] rfl T.c_DROP)) (la_nil)))) (la_nil)))))
theorem der_points (T : Fs P w K mg) (O_moved : FnG P w K mg base 1 T.f_moved T.d_moved ["point", "step"] (sp_moved T.ad)) {f : Addr} {cdv : Value} {A : Around} {outer : List Env} {s : Shared} {H : Hp} (hr : Room 1 (A.deeper (envOfC "points" (defScope s_points) s.heap.objs.size f cdv))) (hG : (A.deeper (envOfC "points" (defScope s_points) s.heap.objs.size f cdv)).guards = some []) :
    LSs (cxOf CX0 P w K mg base M_points "points" (defScope s_points) f cdv A outer s H E0).nox (defBody s_points) (t_points T.ad) :=
    lss_cons (ls_set 1 sc_points.nd (le_lst (la_cons (le_tup (la_cons (le_int) (la_cons (le_int) (la_nil)))) (la_nil)))) <|
    lss_cons (ls_for PassesOwn.never rfl (lit_any (le_var 0)) (lg_name 2 sc_points.nd)
      (lss_one (ls_expr (le_bm PySem.F.plainAttrs_list PySem.F.slot_list_append PySem.F.type_list_append mt_append lm_append (le_var 1) (la_cons (le_call O_moved (hr.mono (by decide)) hG rfl T.g_moved T.F_moved.kp (b_moved T.F_moved) (la_cons (le_ix (lixA (u1 hr)) (le_var 1) (le_neg (le_int))) (la_cons (le_var 2) (la_nil)))) (la_nil)))))) <|
    lss_one (ls_ret (le_var 1))
theorem der_widest (T : Fs P w K mg) (O_points : FnG P w K mg base 2 T.f_points T.d_points ["script"] (sp_points T.ad)) {f : Addr} {cdv : Value} {A : Around} {outer : List Env} {s : Shared} {H : Hp} (hr : Room 2 (A.deeper (envOfC "widest" (defScope s_widest) s.heap.objs.size f cdv))) (hG : (A.deeper (envOfC "widest" (defScope s_widest) s.heap.objs.size f cdv)).guards = some []) :
    LSs (cxOf CX0 P w K mg base M_widest "widest" (defScope s_widest) f cdv A outer s H E0).nox (defBody s_widest) (t_widest T.ad) :=
    lss_one (ls_ret (le_callB (lc_max rfl) rfl T.n_max boot_max (la_cons (le_lc [("i", 1), ("j", 2)] rfl sc_widest.nd (lit_any (le_call O_points (hr.mono (by decide)) hG rfl T.g_points T.F_points.kp (b_points T.F_points) (la_cons (le_var 0) (la_nil)))) (blkOk_by (N := M_widest) (sc := defScope s_widest) (by decide +kernel)) (by decide) (fun _ _ _ _ _ => lg_tup rfl (lgs_cons (lg_name 1 sc_widest.nd) (lgs_cons (lg_name 2 sc_widest.nd) (lgs_nil)))) (fun _ _ _ _ _ => lts_nil) (fun _ _ _ _ _ => le_callB lc_abs rfl T.n_abs boot_abs (la_cons (le_op lo_sub (le_var 1) (le_var 2)) (la_nil)))) (la_nil))))
theorem der_is_allowed (T : Fs P w K mg) (O_widest : FnG P w K mg base 3 T.f_widest T.d_widest ["script"] (sp_widest T.ad)) {f : Addr} {cdv : Value} {A : Around} {outer : List Env} {s : Shared} {H : Hp} (hr : Room 3 (A.deeper (envOfC "is_allowed" (defScope s_is_allowed) s.heap.objs.size f cdv))) (hG : (A.deeper (envOfC "is_allowed" (defScope s_is_allowed) s.heap.objs.size f cdv)).guards = some []) :
    LSs (cxOf CX0 P w K mg base M_is_allowed "is_allowed" (defScope s_is_allowed) f cdv A outer s H E0).nox (defBody s_is_allowed) (t_is_allowed T.ad) :=
    lss_one (ls_ret (le_or (le_cmp (lo_ne hr.units) (le_ix (lixA (u1 hr)) (le_var 1) (le_int)) (le_str [108, 97, 103])) (le_one (le_cmp lo_le (le_call O_widest (hr.mono (by decide)) hG rfl T.g_widest T.F_widest.kp (b_widest T.F_widest) (la_cons (le_var 0) (la_nil))) (le_ix (lixA (u1 hr)) (le_var 1) (le_int))))))
theorem der_can_be_done (T : Fs P w K mg) {f : Addr} {cdv : Value} {A : Around} {outer : List Env} {s : Shared} {H : Hp} (hr : Room 0 (A.deeper (envOfC "can_be_done" (defScope s_can_be_done) s.heap.objs.size f cdv))) (hG : (A.deeper (envOfC "can_be_done" (defScope s_can_be_done) s.heap.objs.size f cdv)).guards = some []) :
    LSs (cxOf CX0 P w K mg base M_can_be_done "can_be_done" (defScope s_can_be_done) f cdv A outer s H E0).nox (defBody s_can_be_done) (t_can_be_done T.ad) :=
    lss_cons (ls_asg (le_var 1) (lg_tup rfl (lgs_cons (lg_name 4 sc_can_be_done.nd) (lgs_cons (lg_name 5 sc_can_be_done.nd) (lgs_nil))))) <|
    lss_cons (ls_if (LWe.lt (lw_or (LWe.lt (lw_and (lt_cmp (lo_ne hr.units) (le_var 0) (le_gstr [112] rfl T.c_PUT)) (lw_and1 (lt_cmp lo_ge (le_var 4) (le_callB lc_len rfl T.n_len boot_len (la_cons (le_var 2) (la_nil))))))) (lw_or1 (LWe.lt (lw_and (lt_cmp (lo_ne hr.units) (le_var 0) (le_gstr [100] rfl T.c_DROP)) (lw_and1 (lt_cmp lo_ge (le_var 5) (le_callB lc_len rfl T.n_len boot_len (la_cons (le_var 3) (la_nil))))))))))
      (lss_one (ls_ret (le_bl)))
      (lss_nil)) <|
    lss_one (ls_ret (le_or (le_cmp (lo_ne hr.units) (le_var 0) (le_gstr [107] rfl T.c_KEEP)) (le_one (le_cmp (lo_eq hr.units) (le_ix (lixA (u1 hr)) (le_var 2) (le_var 4)) (le_ix (lixA (u1 hr)) (le_var 3) (le_var 5))))))
theorem der_first_wrong (T : Fs P w K mg) (O_points : FnG P w K mg base 2 T.f_points T.d_points ["script"] (sp_points T.ad)) (O_can_be_done : FnG P w K mg base 1 T.f_can_be_done T.d_can_be_done ["step", "point", "left", "right"] (sp_can_be_done T.ad)) {f : Addr} {cdv : Value} {A : Around} {outer : List Env} {s : Shared} {H : Hp} (hr : Room 2 (A.deeper (envOfC "first_wrong" (defScope s_first_wrong) s.heap.objs.size f cdv))) (hG : (A.deeper (envOfC "first_wrong" (defScope s_first_wrong) s.heap.objs.size f cdv)).guards = some []) :
    LSs (cxOf CX0 P w K mg base M_first_wrong "first_wrong" (defScope s_first_wrong) f cdv A outer s H E0).nox (defBody s_first_wrong) (t_first_wrong T.ad) :=
    lss_cons (ls_set 3 sc_first_wrong.nd (le_call O_points (hr.mono (by decide)) hG rfl T.g_points T.F_points.kp (b_points T.F_points) (la_cons (le_var 0) (la_nil)))) <|
    lss_cons (ls_for PassesOwn.never rfl (lit_enum rfl T.n_enumerate (la_cons (le_var 0) (la_nil))) (lg_tup rfl (lgs_cons (lg_name 4 sc_first_wrong.nd) (lgs_cons (lg_name 5 sc_first_wrong.nd) (lgs_nil))))
      (lss_one (ls_if (lt_not (lt_truth (le_call O_can_be_done (hr.mono (by decide)) hG rfl T.g_can_be_done T.F_can_be_done.kp (b_can_be_done T.F_can_be_done) (la_cons (le_var 5) (la_cons (le_ix (lixA (u1 hr)) (le_var 3) (le_var 4)) (la_cons (le_var 1) (la_cons (le_var 2) (la_nil))))))))
      (lss_one (ls_ret (le_var 4)))
      (lss_nil)))) <|
    lss_one (ls_ret (le_if (lt_cmp (lo_eq hr.units) (le_ix (lixA (u1 hr)) (le_var 3) (le_neg (le_int))) (le_tup (la_cons (le_callB lc_len rfl T.n_len boot_len (la_cons (le_var 1) (la_nil))) (la_cons (le_callB lc_len rfl T.n_len boot_len (la_cons (le_var 2) (la_nil))) (la_nil))))) (le_non) (le_callB lc_len rfl T.n_len boot_len (la_cons (le_var 0) (la_nil)))))
theorem der_Prices_drop (T : Fs P w K mg) {f : Addr} {cdv : Value} {A : Around} {outer : List Env} {s : Shared} {H : Hp} (hr : Room 0 (A.deeper (envOfC "Prices.drop" (defScope s_Prices_drop) s.heap.objs.size f cdv))) (hG : (A.deeper (envOfC "Prices.drop" (defScope s_Prices_drop) s.heap.objs.size f cdv)).guards = some []) :
    LSs (cxOf CX0 P w K mg base M_Prices_drop "Prices.drop" (defScope s_Prices_drop) f cdv A outer s H E0).nox (defBody s_Prices_drop) (t_Prices_drop T.ad) :=
    lss_one (ls_ret (le_ix (lixA (u1 hr)) (le_get2 (u1 hr) (le_attr (slot1 T.sc_Prices T.s_Prices_its_costs) (le_var 0)) (le_var 1) (le_gtup T.T_PLAIN rfl T.g_PLAIN)) (le_int)))
theorem der_Prices_put (T : Fs P w K mg) {f : Addr} {cdv : Value} {A : Around} {outer : List Env} {s : Shared} {H : Hp} (hr : Room 0 (A.deeper (envOfC "Prices.put" (defScope s_Prices_put) s.heap.objs.size f cdv))) (hG : (A.deeper (envOfC "Prices.put" (defScope s_Prices_put) s.heap.objs.size f cdv)).guards = some []) :
    LSs (cxOf CX0 P w K mg base M_Prices_put "Prices.put" (defScope s_Prices_put) f cdv A outer s H E0).nox (defBody s_Prices_put) (t_Prices_put T.ad) :=
    lss_one (ls_ret (le_ix (lixA (u1 hr)) (le_get2 (u1 hr) (le_attr (slot1 T.sc_Prices T.s_Prices_its_costs) (le_var 0)) (le_var 1) (le_gtup T.T_PLAIN rfl T.g_PLAIN)) (le_int)))
theorem der_step_price (T : Fs P w K mg) (O_Prices_drop : FnG P w K mg base 1 T.f_Prices_drop T.d_Prices_drop ["self", "letter"] (sp_Prices_drop T.ad)) (O_Prices_put : FnG P w K mg base 1 T.f_Prices_put T.d_Prices_put ["self", "letter"] (sp_Prices_put T.ad)) {f : Addr} {cdv : Value} {A : Around} {outer : List Env} {s : Shared} {H : Hp} (hr : Room 1 (A.deeper (envOfC "step_price" (defScope s_step_price) s.heap.objs.size f cdv))) (hG : (A.deeper (envOfC "step_price" (defScope s_step_price) s.heap.objs.size f cdv)).guards = some []) :
    LSs (cxOf CX0 P w K mg base M_step_price "step_price" (defScope s_step_price) f cdv A outer s H E0).nox (defBody s_step_price) (t_step_price T.ad) :=
    lss_cons (ls_if (lt_cmp (lo_eq hr.units) (le_var 0) (le_gstr [107] rfl T.c_KEEP))
      (lss_one (ls_ret (le_int)))
      (lss_nil)) <|
    lss_one (ls_ret (le_if (lt_cmp (lo_eq hr.units) (le_var 0) (le_gstr [100] rfl T.c_DROP)) (le_met (met1 T.sc_Prices T.m_Prices_drop O_Prices_drop (hr.mono (by decide)) (b_Prices_drop T.F_Prices_drop)) hG (le_var 4) (la_cons (le_ix (lixA (u1 hr)) (le_var 2) (le_ix (lixA (u1 hr)) (le_var 1) (le_int))) (la_nil))) (le_met (met1 T.sc_Prices T.m_Prices_put O_Prices_put (hr.mono (by decide)) (b_Prices_put T.F_Prices_put)) hG (le_var 4) (la_cons (le_ix (lixA (u1 hr)) (le_var 3) (le_ix (lixA (u1 hr)) (le_var 1) (le_int))) (la_nil)))))
theorem der_is_in_lag (T : Fs P w K mg) {f : Addr} {cdv : Value} {A : Around} {outer : List Env} {s : Shared} {H : Hp} (hr : Room 0 (A.deeper (envOfC "is_in_lag" (defScope s_is_in_lag) s.heap.objs.size f cdv))) (hG : (A.deeper (envOfC "is_in_lag" (defScope s_is_in_lag) s.heap.objs.size f cdv)).guards = some []) :
    LSs (cxOf CX0 P w K mg base M_is_in_lag "is_in_lag" (defScope s_is_in_lag) f cdv A outer s H E0).nox (defBody s_is_in_lag) (t_is_in_lag T.ad) :=
    lss_one (ls_ret (le_or (le_cmp (lo_ne hr.units) (le_ix (lixA (u1 hr)) (le_var 1) (le_int)) (le_str [108, 97, 103])) (le_one (le_cmp lo_le (le_callB lc_abs rfl T.n_abs boot_abs (la_cons (le_op lo_sub (le_ix (lixA (u1 hr)) (le_var 0) (le_int)) (le_ix (lixA (u1 hr)) (le_var 0) (le_int))) (la_nil))) (le_ix (lixA (u1 hr)) (le_var 1) (le_int))))))
theorem der_all_points (T : Fs P w K mg) {f : Addr} {cdv : Value} {A : Around} {outer : List Env} {s : Shared} {H : Hp} (hr : Room 0 (A.deeper (envOfC "all_points" (defScope s_all_points) s.heap.objs.size f cdv))) (hG : (A.deeper (envOfC "all_points" (defScope s_all_points) s.heap.objs.size f cdv)).guards = some []) :
    LSs (cxOf CX0 P w K mg base M_all_points "all_points" (defScope s_all_points) f cdv A outer s H E0).nox (defBody s_all_points) (t_all_points T.ad) :=
    lss_one (ls_ret (le_lc2 [("i", 2), ("j", 3)] [3] rfl sc_all_points.nd (lit_range1 rfl T.n_range (la_cons (le_op lo_add (le_callB lc_len rfl T.n_len boot_len (la_cons (le_var 0) (la_nil))) (le_int)) (la_nil))) (blkOk_by (N := M_all_points) (sc := defScope s_all_points) (by decide +kernel)) (by decide) (by decide) (by decide) (fun _ _ _ _ _ => lg_name 2 sc_all_points.nd) (fun _ _ _ _ _ => lts_nil) (fun _ _ _ _ _ => lit_range1 rfl T.n_range (la_cons (le_op lo_add (le_callB lc_len rfl T.n_len boot_len (la_cons (le_var 1) (la_nil))) (le_int)) (la_nil))) (fun _ _ _ _ _ => lg_name 3 sc_all_points.nd) (fun _ _ _ _ _ => lts_nil) (fun _ _ _ _ _ => le_tup (la_cons (le_var 2) (la_cons (le_var 3) (la_nil))))))
theorem der_steps_from (T : Fs P w K mg) (O_moved : FnG P w K mg base 1 T.f_moved T.d_moved ["point", "step"] (sp_moved T.ad)) (O_can_be_done : FnG P w K mg base 1 T.f_can_be_done T.d_can_be_done ["step", "point", "left", "right"] (sp_can_be_done T.ad)) (O_step_price : FnG P w K mg base 2 T.f_step_price T.d_step_price ["step", "point", "left", "right", "prices"] (sp_step_price T.ad)) (O_is_in_lag : FnG P w K mg base 1 T.f_is_in_lag T.d_is_in_lag ["point", "promise"] (sp_is_in_lag T.ad)) {f : Addr} {cdv : Value} {A : Around} {outer : List Env} {s : Shared} {H : Hp} (hr : Room 2 (A.deeper (envOfC "steps_from" (defScope s_steps_from) s.heap.objs.size f cdv))) (hG : (A.deeper (envOfC "steps_from" (defScope s_steps_from) s.heap.objs.size f cdv)).guards = some []) :
    LSs (cxOf CX0 P w K mg base M_steps_from "steps_from" (defScope s_steps_from) f cdv A outer s H E0).nox (defBody s_steps_from) (t_steps_from T.ad) :=
    lss_cons (ls_setLc 5 [("step", 6)] rfl sc_steps_from.nd (lit_any (le_gtup T.T_IN_ORDER rfl T.g_IN_ORDER)) (blkOk_by (N := M_steps_from) (sc := defScope s_steps_from) (by decide +kernel)) (by decide) (fun _ _ _ _ _ => lg_name 6 sc_steps_from.nd) (fun _ _ _ _ _ => lts_one (lt_truth (le_call O_can_be_done (hr.mono (by decide)) hG rfl T.g_can_be_done T.F_can_be_done.kp (b_can_be_done T.F_can_be_done) (la_cons (le_var 6) (la_cons (le_var 4) (la_cons (le_var 0) (la_cons (le_var 1) (la_nil)))))))) (fun _ _ _ _ _ => le_tup (la_cons (le_var 6) (la_cons (le_call O_moved (hr.mono (by decide)) hG rfl T.g_moved T.F_moved.kp (b_moved T.F_moved) (la_cons (le_var 4) (la_cons (le_var 6) (la_nil)))) (la_nil))))) <|
    lss_one (ls_ret (le_lc [("step", 6), ("later", 7)] rfl sc_steps_from.nd (lit_any (le_var 5)) (blkOk_by (N := M_steps_from) (sc := defScope s_steps_from) (by decide +kernel)) (by decide) (fun _ _ _ _ _ => lg_tup rfl (lgs_cons (lg_name 6 sc_steps_from.nd) (lgs_cons (lg_name 7 sc_steps_from.nd) (lgs_nil)))) (fun _ _ _ _ _ => lts_one (lt_truth (le_call O_is_in_lag (hr.mono (by decide)) hG rfl T.g_is_in_lag T.F_is_in_lag.kp (b_is_in_lag T.F_is_in_lag) (la_cons (le_var 7) (la_cons (le_var 3) (la_nil)))))) (fun _ _ _ _ _ => le_tup (la_cons (le_var 6) (la_cons (le_var 7) (la_cons (le_call O_step_price (hr.mono (by decide)) hG rfl T.g_step_price T.F_step_price.kp (b_step_price T.F_step_price) (la_cons (le_var 6) (la_cons (le_var 4) (la_cons (le_var 0) (la_cons (le_var 1) (la_cons (le_var 2) (la_nil))))))) (la_nil)))))))
theorem der_grid (T : Fs P w K mg) (O_all_points : FnG P w K mg base 1 T.f_all_points T.d_all_points ["left", "right"] (sp_all_points T.ad)) (O_steps_from : FnG P w K mg base 3 T.f_steps_from T.d_steps_from ["left", "right", "prices", "promise", "point"] (sp_steps_from T.ad)) {f : Addr} {cdv : Value} {A : Around} {outer : List Env} {s : Shared} {H : Hp} (hr : Room 3 (A.deeper (envOfC "grid" (defScope s_grid) s.heap.objs.size f cdv))) (hG : (A.deeper (envOfC "grid" (defScope s_grid) s.heap.objs.size f cdv)).guards = some []) :
    LSs (cxOf CX0 P w K mg base M_grid "grid" (defScope s_grid) f cdv A outer s H E0).nox (defBody s_grid) (t_grid T.ad) :=
    lss_cons (ls_setLc 4 [("i", 8)] rfl sc_grid.nd (lit_range1 rfl T.n_range (la_cons (le_op lo_add (le_callB lc_len rfl T.n_len boot_len (la_cons (le_var 0) (la_nil))) (le_int)) (la_nil))) (blkOk_by (N := M_grid) (sc := defScope s_grid) (by decide +kernel)) (by decide) (fun _ _ _ _ _ => lg_name 8 sc_grid.nd) (fun _ _ _ _ _ => lts_nil) (fun _ _ _ _ _ => le_op lo_mul (le_lst (la_cons (le_non) (la_nil))) (le_op lo_add (le_callB lc_len rfl T.n_len boot_len (la_cons (le_var 1) (la_nil))) (le_int)))) <|
    lss_cons (ls_setA (u1 hr) (le_int) (le_ix (lixA (u1 hr)) (le_var 4) (le_int)) (le_int)) <|
    lss_cons (ls_for PassesOwn.never rfl (lit_any (le_call O_all_points (hr.mono (by decide)) hG rfl T.g_all_points T.F_all_points.kp (b_all_points T.F_all_points) (la_cons (le_var 0) (la_cons (le_var 1) (la_nil))))) (lg_name 5 sc_grid.nd)
      (lss_cons (ls_set 6 sc_grid.nd (le_ix (lixA (u1 hr)) (le_ix (lixA (u1 hr)) (le_var 4) (le_ix (lixA (u1 hr)) (le_var 5) (le_int))) (le_ix (lixA (u1 hr)) (le_var 5) (le_int)))) <|
    lss_one (ls_if (lt_cmp lo_notN (le_var 6) (le_non))
      (lss_one (ls_for PassesOwn.never rfl (lit_any (le_call O_steps_from (hr.mono (by decide)) hG rfl T.g_steps_from T.F_steps_from.kp (b_steps_from T.F_steps_from) (la_cons (le_var 0) (la_cons (le_var 1) (la_cons (le_var 2) (la_cons (le_var 3) (la_cons (le_var 5) (la_nil)))))))) (lg_tup rfl (lgs_cons (lg_name 7 sc_grid.nd) (lgs_cons (lg_tup rfl (lgs_cons (lg_name 8 sc_grid.nd) (lgs_cons (lg_name 9 sc_grid.nd) (lgs_nil)))) (lgs_cons (lg_name 10 sc_grid.nd) (lgs_nil)))))
      (lss_one (ls_if (LWe.lt (lw_or (lt_cmp lo_isN (le_ix (lixA (u1 hr)) (le_ix (lixA (u1 hr)) (le_var 4) (le_var 8)) (le_var 9)) (le_non)) (lw_or1 (lt_cmp lo_lt (le_op lo_add (le_var 6) (le_var 10)) (le_ix (lixA (u1 hr)) (le_ix (lixA (u1 hr)) (le_var 4) (le_var 8)) (le_var 9))))))
      (lss_one (ls_setA (u1 hr) (le_op lo_add (le_var 6) (le_var 10)) (le_ix (lixA (u1 hr)) (le_var 4) (le_var 8)) (le_var 9)))
      (lss_nil)))))
      (lss_nil)))) <|
    lss_one (ls_ret (le_var 4))
theorem der_rests (T : Fs P w K mg) (O_is_in_lag : FnG P w K mg base 1 T.f_is_in_lag T.d_is_in_lag ["point", "promise"] (sp_is_in_lag T.ad)) (O_all_points : FnG P w K mg base 1 T.f_all_points T.d_all_points ["left", "right"] (sp_all_points T.ad)) (O_steps_from : FnG P w K mg base 3 T.f_steps_from T.d_steps_from ["left", "right", "prices", "promise", "point"] (sp_steps_from T.ad)) {f : Addr} {cdv : Value} {A : Around} {outer : List Env} {s : Shared} {H : Hp} (hr : Room 3 (A.deeper (envOfC "rests" (defScope s_rests) s.heap.objs.size f cdv))) (hG : (A.deeper (envOfC "rests" (defScope s_rests) s.heap.objs.size f cdv)).guards = some []) :
    LSs (cxOf CX0 P w K mg base M_rests "rests" (defScope s_rests) f cdv A outer s H E0).nox (defBody s_rests) (t_rests T.ad) :=
    lss_cons (ls_set 4 sc_rests.nd (le_lc [("i", 9)] rfl sc_rests.nd (lit_range1 rfl T.n_range (la_cons (le_op lo_add (le_callB lc_len rfl T.n_len boot_len (la_cons (le_var 0) (la_nil))) (le_int)) (la_nil))) (blkOk_by (N := M_rests) (sc := defScope s_rests) (by decide +kernel)) (by decide) (fun _ _ _ _ _ => lg_name 9 sc_rests.nd) (fun _ _ _ _ _ => lts_nil) (fun _ _ _ _ _ => le_op lo_mul (le_lst (la_cons (le_non) (la_nil))) (le_op lo_add (le_callB lc_len rfl T.n_len boot_len (la_cons (le_var 1) (la_nil))) (le_int))))) <|
    lss_cons (ls_set 5 sc_rests.nd (le_tup (la_cons (le_callB lc_len rfl T.n_len boot_len (la_cons (le_var 0) (la_nil))) (la_cons (le_callB lc_len rfl T.n_len boot_len (la_cons (le_var 1) (la_nil))) (la_nil))))) <|
    lss_cons (ls_if (lt_truth (le_call O_is_in_lag (hr.mono (by decide)) hG rfl T.g_is_in_lag T.F_is_in_lag.kp (b_is_in_lag T.F_is_in_lag) (la_cons (le_var 5) (la_cons (le_var 3) (la_nil)))))
      (lss_one (ls_setA (u1 hr) (le_int) (le_ix (lixA (u1 hr)) (le_var 4) (le_neg (le_int))) (le_neg (le_int))))
      (lss_nil)) <|
    lss_cons (ls_for PassesOwn.never rfl (lit_any (le_rev2 (le_call O_all_points (hr.mono (by decide)) hG rfl T.g_all_points T.F_all_points.kp (b_all_points T.F_all_points) (la_cons (le_var 0) (la_cons (le_var 1) (la_nil)))))) (lg_name 6 sc_rests.nd)
      (lss_one (ls_if (lt_truth (le_call O_is_in_lag (hr.mono (by decide)) hG rfl T.g_is_in_lag T.F_is_in_lag.kp (b_is_in_lag T.F_is_in_lag) (la_cons (le_var 6) (la_cons (le_var 3) (la_nil)))))
      (lss_cons (ls_setLc 7 [("step", 10), ("cost", 11), ("i", 9), ("j", 12)] rfl sc_rests.nd (lit_any (le_call O_steps_from (hr.mono (by decide)) hG rfl T.g_steps_from T.F_steps_from.kp (b_steps_from T.F_steps_from) (la_cons (le_var 0) (la_cons (le_var 1) (la_cons (le_var 2) (la_cons (le_var 3) (la_cons (le_var 6) (la_nil)))))))) (blkOk_by (N := M_rests) (sc := defScope s_rests) (by decide +kernel)) (by decide) (fun _ _ _ _ _ => lg_tup rfl (lgs_cons (lg_name 10 sc_rests.nd) (lgs_cons (lg_tup rfl (lgs_cons (lg_name 9 sc_rests.nd) (lgs_cons (lg_name 12 sc_rests.nd) (lgs_nil)))) (lgs_cons (lg_name 11 sc_rests.nd) (lgs_nil))))) (fun _ _ _ _ _ => lts_nil) (fun _ _ _ _ _ => le_tup (la_cons (le_ix (lixA (u1 hr)) (le_ix (lixA (u1 hr)) (le_var 4) (le_var 9)) (le_var 12)) (la_cons (le_var 11) (la_nil))))) <|
    lss_cons (ls_setLc 8 [("rest", 13), ("cost", 11)] rfl sc_rests.nd (lit_any (le_var 7)) (blkOk_by (N := M_rests) (sc := defScope s_rests) (by decide +kernel)) (by decide) (fun _ _ _ _ _ => lg_tup rfl (lgs_cons (lg_name 13 sc_rests.nd) (lgs_cons (lg_name 11 sc_rests.nd) (lgs_nil)))) (fun _ _ _ _ _ => lts_one (lt_cmp lo_notN (le_var 13) (le_non))) (fun _ _ _ _ _ => le_op lo_add (le_var 13) (le_var 11))) <|
    lss_one (ls_setA (u1 hr) (le_if (lt_cmp (lo_ne hr.units) (le_var 8) (le_lst (la_nil))) (le_callB (lc_min rfl) rfl T.n_min boot_min (la_cons (le_var 8) (la_nil))) (le_non)) (le_ix (lixA (u1 hr)) (le_var 4) (le_ix (lixA (u1 hr)) (le_var 6) (le_int))) (le_ix (lixA (u1 hr)) (le_var 6) (le_int))))
      (lss_nil)))) <|
    lss_one (ls_ret (le_var 4))
theorem der_least (T : Fs P w K mg) (O_grid : FnG P w K mg base 4 T.f_grid T.d_grid ["left", "right", "prices", "promise"] (sp_grid T.ad)) {f : Addr} {cdv : Value} {A : Around} {outer : List Env} {s : Shared} {H : Hp} (hr : Room 4 (A.deeper (envOfC "least" (defScope s_least) s.heap.objs.size f cdv))) (hG : (A.deeper (envOfC "least" (defScope s_least) s.heap.objs.size f cdv)).guards = some []) :
    LSs (cxOf CX0 P w K mg base M_least "least" (defScope s_least) f cdv A outer s H E0).nox (defBody s_least) (t_least T.ad) :=
    lss_one (ls_ret (le_ix (lixA (u1 hr)) (le_ix (lixA (u1 hr)) (le_call O_grid (hr.mono (by decide)) hG rfl T.g_grid T.F_grid.kp (b_grid T.F_grid) (la_cons (le_var 0) (la_cons (le_var 1) (la_cons (le_var 2) (la_cons (le_var 3) (la_nil)))))) (le_neg (le_int))) (le_neg (le_int))))
theorem der_is_integer (T : Fs P w K mg) {f : Addr} {cdv : Value} {A : Around} {outer : List Env} {s : Shared} {H : Hp} (hr : Room 0 (A.deeper (envOfC "is_integer" (defScope s_is_integer) s.heap.objs.size f cdv))) (hG : (A.deeper (envOfC "is_integer" (defScope s_is_integer) s.heap.objs.size f cdv)).guards = some []) :
    LSs (cxOf CX0 P w K mg base M_is_integer "is_integer" (defScope s_is_integer) f cdv A outer s H E0).nox (defBody s_is_integer) (t_is_integer T.ad) :=
    lss_one (ls_ret (le_and (le_callB lc_isi rfl T.n_isinstance boot_isinstance (la_cons (le_var 0) (la_cons (le_bty "int" rfl T.n_int boot_int) (la_nil)))) (le_one (le_not (le_callB lc_isi rfl T.n_isinstance boot_isinstance (la_cons (le_var 0) (la_cons (le_bty "bool" rfl T.n_bool boot_bool) (la_nil))))))))
theorem der_is_between (T : Fs P w K mg) (O_is_integer : FnG P w K mg base 1 T.f_is_integer T.d_is_integer ["thing"] (sp_is_integer T.ad)) {f : Addr} {cdv : Value} {A : Around} {outer : List Env} {s : Shared} {H : Hp} (hr : Room 1 (A.deeper (envOfC "is_between" (defScope s_is_between) s.heap.objs.size f cdv))) (hG : (A.deeper (envOfC "is_between" (defScope s_is_between) s.heap.objs.size f cdv)).guards = some []) :
    LSs (cxOf CX0 P w K mg base M_is_between "is_between" (defScope s_is_between) f cdv A outer s H E0).nox (defBody s_is_between) (t_is_between T.ad) :=
    lss_one (ls_ret (le_and (le_call O_is_integer (hr.mono (by decide)) hG rfl T.g_is_integer T.F_is_integer.kp (b_is_integer T.F_is_integer) (la_cons (le_var 0) (la_nil))) (le_one (le_chain lo_le lo_le (le_var 1) (le_var 0) (le_var 2)))))
theorem der_is_letter (T : Fs P w K mg) (O_is_between : FnG P w K mg base 2 T.f_is_between T.d_is_between ["thing", "low", "high"] (sp_is_between T.ad)) {f : Addr} {cdv : Value} {A : Around} {outer : List Env} {s : Shared} {H : Hp} (hr : Room 2 (A.deeper (envOfC "is_letter" (defScope s_is_letter) s.heap.objs.size f cdv))) (hG : (A.deeper (envOfC "is_letter" (defScope s_is_letter) s.heap.objs.size f cdv)).guards = some []) :
    LSs (cxOf CX0 P w K mg base M_is_letter "is_letter" (defScope s_is_letter) f cdv A outer s H E0).nox (defBody s_is_letter) (t_is_letter T.ad) :=
    lss_one (ls_ret (le_call O_is_between (hr.mono (by decide)) hG rfl T.g_is_between T.F_is_between.kp (b_is_between T.F_is_between) (la_cons (le_var 0) (la_cons (le_int) (la_cons (le_gint 1000000000 rfl T.c_GREATEST_LETTER) (la_nil))))))
theorem der_are_costs (T : Fs P w K mg) (O_is_between : FnG P w K mg base 2 T.f_is_between T.d_is_between ["thing", "low", "high"] (sp_is_between T.ad)) {f : Addr} {cdv : Value} {A : Around} {outer : List Env} {s : Shared} {H : Hp} (hr : Room 2 (A.deeper (envOfC "are_costs" (defScope s_are_costs) s.heap.objs.size f cdv))) (hG : (A.deeper (envOfC "are_costs" (defScope s_are_costs) s.heap.objs.size f cdv)).guards = some []) :
    LSs (cxOf CX0 P w K mg base M_are_costs "are_costs" (defScope s_are_costs) f cdv A outer s H E0).nox (defBody s_are_costs) (t_are_costs T.ad) :=
    lss_cons (ls_if (LWe.lt (lw_or (lt_not (lt_truth (le_callB lc_isi rfl T.n_isinstance boot_isinstance (la_cons (le_var 0) (la_cons (le_bty "tuple" rfl T.n_tuple boot_tuple) (la_nil)))))) (lw_or1 (lt_cmp (lo_ne hr.units) (le_callB lc_len rfl T.n_len boot_len (la_cons (le_var 0) (la_nil))) (le_int)))))
      (lss_one (ls_ret (le_bl)))
      (lss_nil)) <|
    lss_one (ls_ret (le_callB (lc_all rfl) rfl T.n_all boot_all (la_cons (le_lc [("one", 1)] rfl sc_are_costs.nd (lit_any (le_var 0)) (blkOk_by (N := M_are_costs) (sc := defScope s_are_costs) (by decide +kernel)) (by decide) (fun _ _ _ _ _ => lg_name 1 sc_are_costs.nd) (fun _ _ _ _ _ => lts_nil) (fun _ _ _ _ _ => le_call O_is_between (hr.mono (by decide)) hG rfl T.g_is_between T.F_is_between.kp (b_is_between T.F_is_between) (la_cons (le_var 1) (la_cons (le_int) (la_cons (le_gint 9 rfl T.c_GREATEST_PRICE) (la_nil)))))) (la_nil))))
theorem der_is_price_table (T : Fs P w K mg) (O_is_letter : FnG P w K mg base 3 T.f_is_letter T.d_is_letter ["thing"] (sp_is_letter T.ad)) (O_are_costs : FnG P w K mg base 3 T.f_are_costs T.d_are_costs ["thing"] (sp_are_costs T.ad)) {f : Addr} {cdv : Value} {A : Around} {outer : List Env} {s : Shared} {H : Hp} (hr : Room 3 (A.deeper (envOfC "is_price_table" (defScope s_is_price_table) s.heap.objs.size f cdv))) (hG : (A.deeper (envOfC "is_price_table" (defScope s_is_price_table) s.heap.objs.size f cdv)).guards = some []) :
    LSs (cxOf CX0 P w K mg base M_is_price_table "is_price_table" (defScope s_is_price_table) f cdv A outer s H E0).nox (defBody s_is_price_table) (t_is_price_table T.ad) :=
    lss_cons (ls_if (lt_not (lt_truth (le_callB lc_isi rfl T.n_isinstance boot_isinstance (la_cons (le_var 0) (la_cons (le_bty "dict" rfl T.n_dict boot_dict) (la_nil))))))
      (lss_one (ls_ret (le_bl)))
      (lss_nil)) <|
    lss_one (ls_ret (le_callB (lc_all rfl) rfl T.n_all boot_all (la_cons (le_lock (le_lc [("letter", 1), ("costs", 2)] rfl sc_is_price_table.nd (lit_items (le_var 0)) (blkOk_by (N := M_is_price_table) (sc := defScope s_is_price_table) (by decide +kernel)) (by decide) (fun _ _ _ _ _ => lg_tup rfl (lgs_cons (lg_name 1 sc_is_price_table.nd) (lgs_cons (lg_name 2 sc_is_price_table.nd) (lgs_nil)))) (fun _ _ _ _ _ => lts_nil) (fun _ _ _ _ _ => le_and (le_call O_is_letter (hr.mono (by decide)) hG rfl T.g_is_letter T.F_is_letter.kp (b_is_letter T.F_is_letter) (la_cons (le_var 1) (la_nil))) (le_one (le_call O_are_costs (hr.mono (by decide)) hG rfl T.g_are_costs T.F_are_costs.kp (b_are_costs T.F_are_costs) (la_cons (le_var 2) (la_nil))))))) (la_nil))))
theorem der_Prices___init__ (T : Fs P w K mg) (O_is_price_table : FnG P w K mg base 4 T.f_is_price_table T.d_is_price_table ["thing"] (sp_is_price_table T.ad)) {f : Addr} {cdv : Value} {A : Around} {outer : List Env} {s : Shared} {H : Hp} (hr : Room 4 (A.deeper (envOfC "Prices.__init__" (defScope s_Prices___init__) s.heap.objs.size f cdv))) (hG : (A.deeper (envOfC "Prices.__init__" (defScope s_Prices___init__) s.heap.objs.size f cdv)).guards = some []) :
    LSs (cxOf CX0 P w K mg base M_Prices___init__ "Prices.__init__" (defScope s_Prices___init__) f cdv A outer s H E0).nox (defBody s_Prices___init__) (t_Prices___init__ T.ad) :=
    lss_cons (ls_if (lt_not (lt_truth (le_call O_is_price_table (hr.mono (by decide)) hG rfl T.g_is_price_table T.F_is_price_table.kp (b_is_price_table T.F_is_price_table) (la_cons (le_var 1) (la_nil)))))
      (lss_one (ls_never))
      (lss_nil)) <|
    lss_one (ls_attr (slot1 T.sc_Prices T.s_Prices_its_costs) (le_var 0) (le_dc [("letter", 2)] rfl sc_Prices___init__.nd (lit_any (le_callB (lc_sorted rfl) rfl T.n_sorted boot_sorted (la_cons (le_var 1) (la_nil)))) (blkOk_by (N := M_Prices___init__) (sc := defScope s_Prices___init__) (by decide +kernel)) (by decide) (fun _ _ _ _ _ => lg_name 2 sc_Prices___init__.nd) (fun _ _ _ _ _ => lts_one (lt_cmp (lo_ne hr.units) (le_ix (lixA (u1 hr)) (le_var 1) (le_var 2)) (le_gtup T.T_PLAIN rfl T.g_PLAIN))) (fun _ _ _ _ _ => le_var 2) (fun _ _ _ _ _ => le_ix (lixA (u1 hr)) (le_var 1) (le_var 2))))
theorem der_price_so_far (T : Fs P w K mg) (O_step_price : FnG P w K mg base 2 T.f_step_price T.d_step_price ["step", "point", "left", "right", "prices"] (sp_step_price T.ad)) (O_points : FnG P w K mg base 2 T.f_points T.d_points ["script"] (sp_points T.ad)) {f : Addr} {cdv : Value} {A : Around} {outer : List Env} {s : Shared} {H : Hp} (hr : Room 2 (A.deeper (envOfC "price_so_far" (defScope s_price_so_far) s.heap.objs.size f cdv))) (hG : (A.deeper (envOfC "price_so_far" (defScope s_price_so_far) s.heap.objs.size f cdv)).guards = some []) :
    LSs (cxOf CX0 P w K mg base M_price_so_far "price_so_far" (defScope s_price_so_far) f cdv A outer s H E0).nox (defBody s_price_so_far) (t_price_so_far T.ad) :=
    lss_one (ls_ret (le_callB (lc_sum rfl) rfl T.n_sum boot_sum (la_cons (le_lc [("step", 4), ("point", 5)] rfl sc_price_so_far.nd (lit_zip rfl T.n_zip (la_cons (le_var 0) (la_cons (le_call O_points (hr.mono (by decide)) hG rfl T.g_points T.F_points.kp (b_points T.F_points) (la_cons (le_var 0) (la_nil))) (la_nil)))) (blkOk_by (N := M_price_so_far) (sc := defScope s_price_so_far) (by decide +kernel)) (by decide) (fun _ _ _ _ _ => lg_tup rfl (lgs_cons (lg_name 4 sc_price_so_far.nd) (lgs_cons (lg_name 5 sc_price_so_far.nd) (lgs_nil)))) (fun _ _ _ _ _ => lts_nil) (fun _ _ _ _ _ => le_call O_step_price (hr.mono (by decide)) hG rfl T.g_step_price T.F_step_price.kp (b_step_price T.F_step_price) (la_cons (le_var 4) (la_cons (le_var 5) (la_cons (le_var 1) (la_cons (le_var 2) (la_cons (le_var 3) (la_nil)))))))) (la_nil))))
theorem der_rest_least (T : Fs P w K mg) (O_rests : FnG P w K mg base 4 T.f_rests T.d_rests ["left", "right", "prices", "promise"] (sp_rests T.ad)) {f : Addr} {cdv : Value} {A : Around} {outer : List Env} {s : Shared} {H : Hp} (hr : Room 4 (A.deeper (envOfC "rest_least" (defScope s_rest_least) s.heap.objs.size f cdv))) (hG : (A.deeper (envOfC "rest_least" (defScope s_rest_least) s.heap.objs.size f cdv)).guards = some []) :
    LSs (cxOf CX0 P w K mg base M_rest_least "rest_least" (defScope s_rest_least) f cdv A outer s H E0).nox (defBody s_rest_least) (t_rest_least T.ad) :=
    lss_one (ls_ret (le_ix (lixA (u1 hr)) (le_ix (lixA (u1 hr)) (le_call O_rests (hr.mono (by decide)) hG rfl T.g_rests T.F_rests.kp (b_rests T.F_rests) (la_cons (le_var 0) (la_cons (le_var 1) (la_cons (le_var 2) (la_cons (le_var 3) (la_nil)))))) (le_ix (lixA (u1 hr)) (le_var 4) (le_int))) (le_ix (lixA (u1 hr)) (le_var 4) (le_int))))
theorem der_loss_of_script__X (T : Fs P w K mg) (O_first_wrong : FnG P w K mg base 3 T.f_first_wrong T.d_first_wrong ["script", "left", "right"] (sp_first_wrong T.ad)) (O_rest_least : FnG P w K mg base 5 T.f_rest_least T.d_rest_least ["left", "right", "prices", "promise", "point"] (sp_rest_least T.ad)) (O_least : FnG P w K mg base 5 T.f_least T.d_least ["left", "right", "prices", "promise"] (sp_least T.ad)) (O_is_allowed : FnG P w K mg base 4 T.f_is_allowed T.d_is_allowed ["script", "promise"] (sp_is_allowed T.ad)) (O_price_so_far : FnG P w K mg base 3 T.f_price_so_far T.d_price_so_far ["script", "left", "right", "prices"] (sp_price_so_far T.ad)) (O_points : FnG P w K mg base 2 T.f_points T.d_points ["script"] (sp_points T.ad)) {f : Addr} {cdv : Value} {A : Around} {outer : List Env} {s : Shared} {H : Hp} {E : XK} {W : EW} (hr : Room 5 (A.deeper (envOfC "loss_of_script" (defScope s_loss_of_script__X) s.heap.objs.size f cdv))) (hG : (A.deeper (envOfC "loss_of_script" (defScope s_loss_of_script__X) s.heap.objs.size f cdv)).guards = some []) (tk : Takes (cxOf (CX P w) P w K mg base M_loss_of_script__X "loss_of_script" (defScope s_loss_of_script__X) f cdv A outer s H E) (upX K W)) :
    LSs (cxOf (CX P w) P w K mg base M_loss_of_script__X "loss_of_script" (defScope s_loss_of_script__X) f cdv A outer s H E) (defBody s_loss_of_script__X) (t_loss_of_script__X T.ad W) :=
    lss_cons (ls_set 5 sc_loss_of_script__X.nd (le_call O_first_wrong (hr.mono (by decide)) hG rfl T.g_first_wrong T.F_first_wrong.kp (b_first_wrong T.F_first_wrong) (la_cons (le_var 4) (la_cons (le_var 0) (la_cons (le_var 1) (la_nil)))))) <|
    lss_cons (ls_if (LWe.lt (lw_and (lt_cmp lo_notN (le_var 5) (le_non)) (lw_and1 (lt_cmp lo_lt (le_var 5) (le_callB lc_len rfl T.n_len boot_len (la_cons (le_var 4) (la_nil)))))))
      (lss_one (ls_raise T.x_NotAScript tk rfl (hr.mono (by decide)) rfl T.g_NotAScript (le_var 5)))
      (lss_nil)) <|
    lss_cons (ls_par 6 7 rfl sc_loss_of_script__X.nd (la_cons (le_call O_rest_least (hr.mono (by decide)) hG rfl T.g_rest_least T.F_rest_least.kp (b_rest_least T.F_rest_least) (la_cons (le_var 0) (la_cons (le_var 1) (la_cons (le_var 2) (la_cons (le_var 3) (la_cons (le_ix (lixA (u1 hr)) (le_call O_points (hr.mono (by decide)) hG rfl T.g_points T.F_points.kp (b_points T.F_points) (la_cons (le_var 4) (la_nil))) (le_neg (le_int))) (la_nil))))))) (la_cons (le_call O_least (hr.mono (by decide)) hG rfl T.g_least T.F_least.kp (b_least T.F_least) (la_cons (le_var 0) (la_cons (le_var 1) (la_cons (le_var 2) (la_cons (le_var 3) (la_nil)))))) (la_nil)))) <|
    lss_cons (ls_if (LWe.lt (lw_or (lt_not (lt_truth (le_call O_is_allowed (hr.mono (by decide)) hG rfl T.g_is_allowed T.F_is_allowed.kp (b_is_allowed T.F_is_allowed) (la_cons (le_var 4) (la_cons (le_var 3) (la_nil)))))) (lw_or (lt_cmp lo_isN (le_var 6) (le_non)) (lw_or1 (lt_cmp lo_isN (le_var 7) (le_non))))))
      (lss_one (ls_ret (le_non)))
      (lss_nil)) <|
    lss_one (ls_ret (le_op lo_sub (le_op lo_add (le_call O_price_so_far (hr.mono (by decide)) hG rfl T.g_price_so_far T.F_price_so_far.kp (b_price_so_far T.F_price_so_far) (la_cons (le_var 4) (la_cons (le_var 0) (la_cons (le_var 1) (la_cons (le_var 2) (la_nil)))))) (le_var 6)) (le_var 7)))
theorem der__law_bag (T : Fs P w K mg) {f : Addr} {cdv : Value} {A : Around} {outer : List Env} {s : Shared} {H : Hp} (hr : Room 0 (A.deeper (envOfC "_law_bag" (defScope s__law_bag) s.heap.objs.size f cdv))) (hG : (A.deeper (envOfC "_law_bag" (defScope s__law_bag) s.heap.objs.size f cdv)).guards = some []) :
    LSs (cxOf CX0 P w K mg base M__law_bag "_law_bag" (defScope s__law_bag) f cdv A outer s H E0).nox (defBody s__law_bag) (t__law_bag T.ad) :=
    lss_one (ls_ret (le_lst (la_cons (le_int) (la_cons (le_int) (la_cons (le_int) (la_cons (le_lc [("_law_cell", 1)] rfl sc__law_bag.nd (lit_any (le_slice (le_var 0) (lpo_none) (lpo_some (le_int)))) (blkOk_by (N := M__law_bag) (sc := defScope s__law_bag) (by decide +kernel)) (by decide) (fun _ _ _ _ _ => lg_name 1 sc__law_bag.nd) (fun _ _ _ _ _ => lts_nil) (fun _ _ _ _ _ => le_callB lc_abs rfl T.n_abs boot_abs (la_cons (le_var 1) (la_nil)))) (la_nil)))))))
theorem der__law_take (T : Fs P w K mg) {f : Addr} {cdv : Value} {A : Around} {outer : List Env} {s : Shared} {H : Hp} (hr : Room 0 (A.deeper (envOfC "_law_take" (defScope s__law_take) s.heap.objs.size f cdv))) (hG : (A.deeper (envOfC "_law_take" (defScope s__law_take) s.heap.objs.size f cdv)).guards = some []) :
    LSs (cxOf CX0 P w K mg base M__law_take "_law_take" (defScope s__law_take) f cdv A outer s H E0).nox (defBody s__law_take) (t__law_take T.ad) :=
    lss_cons (ls_if (lt_cmp (lo_eq hr.units) (le_ix (lixA (u1 hr)) (le_var 0) (le_int)) (le_int))
      (lss_cons (ls_set 2 sc__law_take.nd (le_ix (lixA (u1 hr)) (le_op lo_add (le_slice (le_ix (lixA (u1 hr)) (le_var 0) (le_int)) (lpo_some (le_ix (lixA (u1 hr)) (le_var 0) (le_int))) (lpo_none)) (le_lst (la_cons (le_int) (la_nil)))) (le_int))) <|
    lss_cons (ls_augS ip_add (le_var 0) (le_int) (le_int)) <|
    lss_cons (ls_setA (u1 hr) (le_op lo_mul (le_var 2) (le_callTy lc_int rfl T.n_int boot_int (la_cons (le_cmp lo_ge (le_var 2) (le_op lo_pow (le_int) (le_int))) (la_nil)))) (le_var 0) (le_int)) <|
    lss_cons (ls_set 3 sc__law_take.nd (le_op lo_add (le_op lo_add (le_op lo_mul (le_ix (lixA (u1 hr)) (le_var 0) (le_int)) (le_int)) (le_op lo_mod (le_callTy lc_int rfl T.n_int boot_int (la_cons (le_var 2) (la_nil))) (le_int))) (le_op lo_mul (le_int) (le_ix (lixA (u1 hr)) (le_var 0) (le_int))))) <|
    lss_one (ls_setA (u1 hr) (le_op lo_mod (le_callTy lc_int rfl T.n_int boot_int (la_cons (le_var 3) (la_nil))) (le_int)) (le_var 0) (le_int)))
      (lss_nil)) <|
    lss_cons (ls_if (lt_cmp lo_gt (le_ix (lixA (u1 hr)) (le_var 0) (le_int)) (le_int))
      (lss_cons (ls_set 4 sc__law_take.nd (le_op lo_mod (le_callTy lc_int rfl T.n_int boot_int (la_cons (le_ix (lixA (u1 hr)) (le_var 0) (le_int)) (la_nil))) (le_var 1))) <|
    lss_cons (ls_setA (u1 hr) (le_op lo_fdiv (le_callTy lc_int rfl T.n_int boot_int (la_cons (le_ix (lixA (u1 hr)) (le_var 0) (le_int)) (la_nil))) (le_var 1)) (le_var 0) (le_int)) <|
    lss_one (ls_ret (le_var 4)))
      (lss_nil)) <|
    lss_cons (ls_set 5 sc__law_take.nd (le_op lo_mod (le_callTy lc_int rfl T.n_int boot_int (la_cons (le_op lo_mul (le_op lo_add (le_ix (lixA (u1 hr)) (le_var 0) (le_int)) (le_int)) (le_int)) (la_nil))) (le_int))) <|
    lss_cons (ls_set 6 sc__law_take.nd (le_op lo_mod (le_callTy lc_int rfl T.n_int boot_int (la_cons (le_op lo_mul (le_op lo_mod (le_callTy lc_int rfl T.n_int boot_int (la_cons (le_op lo_mul (le_var 5) (le_var 5)) (la_nil))) (le_int)) (le_int)) (la_nil))) (le_int))) <|
    lss_one (ls_ret (le_op lo_mod (le_callTy lc_int rfl T.n_int boot_int (la_cons (le_op lo_fdiv (le_var 6) (le_int)) (la_nil))) (le_var 1)))
theorem der__law_one (T : Fs P w K mg) (O__law_take : FnG P w K mg base 1 T.f__law_take T.d__law_take ["_law_bag_here", "_law_many"] (sp__law_take T.ad)) {f : Addr} {cdv : Value} {A : Around} {outer : List Env} {s : Shared} {H : Hp} (hr : Room 1 (A.deeper (envOfC "_law_one" (defScope s__law_one) s.heap.objs.size f cdv))) (hG : (A.deeper (envOfC "_law_one" (defScope s__law_one) s.heap.objs.size f cdv)).guards = some []) :
    LSs (cxOf CX0 P w K mg base M__law_one "_law_one" (defScope s__law_one) f cdv A outer s H E0).nox (defBody s__law_one) (t__law_one T.ad) :=
    lss_one (ls_ret (le_ix (lixA (u1 hr)) (le_var 1) (le_call O__law_take (hr.mono (by decide)) hG rfl T.g__law_take T.F__law_take.kp (b__law_take T.F__law_take) (la_cons (le_var 0) (la_cons (le_callB lc_len rfl T.n_len boot_len (la_cons (le_var 1) (la_nil))) (la_nil))))))
theorem der__law_one__S (T : Fs P w K mg) (O__law_take : FnG P w K mg base 1 T.f__law_take T.d__law_take ["_law_bag_here", "_law_many"] (sp__law_take T.ad)) {f : Addr} {cdv : Value} {A : Around} {outer : List Env} {s : Shared} {H : Hp} (hr : Room 1 (A.deeper (envOfC "_law_one" (defScope s__law_one__S) s.heap.objs.size f cdv))) (hG : (A.deeper (envOfC "_law_one" (defScope s__law_one__S) s.heap.objs.size f cdv)).guards = some []) :
    LSs (cxOf CX0 P w K mg base M__law_one__S "_law_one" (defScope s__law_one__S) f cdv A outer s H E0).nox (defBody s__law_one__S) (t__law_one__S T.ad) :=
    lss_one (ls_ret (le_ix (lixA (u1 hr)) (le_var 1) (le_call O__law_take (hr.mono (by decide)) hG rfl T.g__law_take T.F__law_take.kp (b__law_take T.F__law_take) (la_cons (le_var 0) (la_cons (le_callB lc_len rfl T.n_len boot_len (la_cons (le_var 1) (la_nil))) (la_nil))))))
theorem der__law_mixed (T : Fs P w K mg) (O__law_take : FnG P w K mg base 1 T.f__law_take T.d__law_take ["_law_bag_here", "_law_many"] (sp__law_take T.ad)) {f : Addr} {cdv : Value} {A : Around} {outer : List Env} {s : Shared} {H : Hp} (hr : Room 1 (A.deeper (envOfC "_law_mixed" (defScope s__law_mixed) s.heap.objs.size f cdv))) (hG : (A.deeper (envOfC "_law_mixed" (defScope s__law_mixed) s.heap.objs.size f cdv)).guards = some []) :
    LSs (cxOf CX0 P w K mg base M__law_mixed "_law_mixed" (defScope s__law_mixed) f cdv A outer s H E0).nox (defBody s__law_mixed) (t__law_mixed T.ad) :=
    lss_cons (ls_set 2 sc__law_mixed.nd (le_lst (la_nil))) <|
    lss_cons (ls_for PassesOwn.never rfl (lit_any (le_var 1)) (lg_name 3 sc__law_mixed.nd)
      (lss_one (ls_expr (le_bm PySem.F.plainAttrs_list PySem.F.slot_list_insert PySem.F.type_list_insert mt_insert lm_insert (le_var 2) (la_cons (le_call O__law_take (hr.mono (by decide)) hG rfl T.g__law_take T.F__law_take.kp (b__law_take T.F__law_take) (la_cons (le_var 0) (la_cons (le_op lo_add (le_callB lc_len rfl T.n_len boot_len (la_cons (le_var 2) (la_nil))) (le_int)) (la_nil)))) (la_cons (le_var 3) (la_nil))))))) <|
    lss_one (ls_ret (le_var 2))
theorem der__law_alphabet (T : Fs P w K mg) (O__law_mixed : FnG P w K mg base 2 T.f__law_mixed T.d__law_mixed ["_law_bag_here", "_law_things"] (sp__law_mixed T.ad)) (O__law_one : FnG P w K mg base 2 T.f__law_one T.d__law_one ["_law_bag_here", "_law_some"] (sp__law_one T.ad)) {f : Addr} {cdv : Value} {A : Around} {outer : List Env} {s : Shared} {H : Hp} (hr : Room 2 (A.deeper (envOfC "_law_alphabet" (defScope s__law_alphabet) s.heap.objs.size f cdv))) (hG : (A.deeper (envOfC "_law_alphabet" (defScope s__law_alphabet) s.heap.objs.size f cdv)).guards = some []) :
    LSs (cxOf CX0 P w K mg base M__law_alphabet "_law_alphabet" (defScope s__law_alphabet) f cdv A outer s H E0).nox (defBody s__law_alphabet) (t__law_alphabet T.ad) :=
    lss_one (ls_ret (le_slice (le_call O__law_mixed (hr.mono (by decide)) hG rfl T.g__law_mixed T.F__law_mixed.kp (b__law_mixed T.F__law_mixed) (la_cons (le_var 0) (la_cons (le_lst (la_cons (le_int) (la_cons (le_int) (la_cons (le_int) (la_cons (le_int) (la_cons (le_int) (la_cons (le_int) (la_cons (le_op lo_pow (le_int) (le_int)) (la_nil))))))))) (la_nil)))) (lpo_none) (lpo_some (le_call O__law_one (hr.mono (by decide)) hG rfl T.g__law_one T.F__law_one.kp (b__law_one T.F__law_one) (la_cons (le_var 0) (la_cons (le_lst (la_cons (le_int) (la_cons (le_int) (la_cons (le_int) (la_cons (le_int) (la_cons (le_int) (la_nil))))))) (la_nil)))))))
theorem der__law_text (T : Fs P w K mg) (O__law_one : FnG P w K mg base 2 T.f__law_one T.d__law_one ["_law_bag_here", "_law_some"] (sp__law_one T.ad)) (O__law_take : FnG P w K mg base 1 T.f__law_take T.d__law_take ["_law_bag_here", "_law_many"] (sp__law_take T.ad)) {f : Addr} {cdv : Value} {A : Around} {outer : List Env} {s : Shared} {H : Hp} (hr : Room 2 (A.deeper (envOfC "_law_text" (defScope s__law_text) s.heap.objs.size f cdv))) (hG : (A.deeper (envOfC "_law_text" (defScope s__law_text) s.heap.objs.size f cdv)).guards = some []) :
    LSs (cxOf CX0 P w K mg base M__law_text "_law_text" (defScope s__law_text) f cdv A outer s H E0).nox (defBody s__law_text) (t__law_text T.ad) :=
    lss_one (ls_ret (le_callTy lc_tuple rfl T.n_tuple boot_tuple (la_cons (le_lc [("_law_k", 3)] rfl sc__law_text.nd (lit_range1 rfl T.n_range (la_cons (le_call O__law_take (hr.mono (by decide)) hG rfl T.g__law_take T.F__law_take.kp (b__law_take T.F__law_take) (la_cons (le_var 0) (la_cons (le_op lo_add (le_var 2) (le_int)) (la_nil)))) (la_nil))) (blkOk_by (N := M__law_text) (sc := defScope s__law_text) (by decide +kernel)) (by decide) (fun _ _ _ _ _ => lg_name 3 sc__law_text.nd) (fun _ _ _ _ _ => lts_nil) (fun _ _ _ _ _ => le_call O__law_one (hr.mono (by decide)) hG rfl T.g__law_one T.F__law_one.kp (b__law_one T.F__law_one) (la_cons (le_var 0) (la_cons (le_var 1) (la_nil))))) (la_nil))))
theorem der__law_full (T : Fs P w K mg) (O__law_one : FnG P w K mg base 2 T.f__law_one T.d__law_one ["_law_bag_here", "_law_some"] (sp__law_one T.ad)) {f : Addr} {cdv : Value} {A : Around} {outer : List Env} {s : Shared} {H : Hp} (hr : Room 2 (A.deeper (envOfC "_law_full" (defScope s__law_full) s.heap.objs.size f cdv))) (hG : (A.deeper (envOfC "_law_full" (defScope s__law_full) s.heap.objs.size f cdv)).guards = some []) :
    LSs (cxOf CX0 P w K mg base M__law_full "_law_full" (defScope s__law_full) f cdv A outer s H E0).nox (defBody s__law_full) (t__law_full T.ad) :=
    lss_one (ls_ret (le_callTy lc_tuple rfl T.n_tuple boot_tuple (la_cons (le_lc [("_law_k", 3)] rfl sc__law_full.nd (lit_range1 rfl T.n_range (la_cons (le_var 2) (la_nil))) (blkOk_by (N := M__law_full) (sc := defScope s__law_full) (by decide +kernel)) (by decide) (fun _ _ _ _ _ => lg_name 3 sc__law_full.nd) (fun _ _ _ _ _ => lts_nil) (fun _ _ _ _ _ => le_call O__law_one (hr.mono (by decide)) hG rfl T.g__law_one T.F__law_one.kp (b__law_one T.F__law_one) (la_cons (le_var 0) (la_cons (le_var 1) (la_nil))))) (la_nil))))
theorem der__law_edited (T : Fs P w K mg) (O__law_take : FnG P w K mg base 1 T.f__law_take T.d__law_take ["_law_bag_here", "_law_many"] (sp__law_take T.ad)) (O__law_one : FnG P w K mg base 2 T.f__law_one T.d__law_one ["_law_bag_here", "_law_some"] (sp__law_one T.ad)) {f : Addr} {cdv : Value} {A : Around} {outer : List Env} {s : Shared} {H : Hp} (hr : Room 2 (A.deeper (envOfC "_law_edited" (defScope s__law_edited) s.heap.objs.size f cdv))) (hG : (A.deeper (envOfC "_law_edited" (defScope s__law_edited) s.heap.objs.size f cdv)).guards = some []) :
    LSs (cxOf CX0 P w K mg base M__law_edited "_law_edited" (defScope s__law_edited) f cdv A outer s H E0).nox (defBody s__law_edited) (t__law_edited T.ad) :=
    lss_cons (ls_set 4 sc__law_edited.nd (le_lst (la_nil))) <|
    lss_cons (ls_for PassesOwn.never rfl (lit_any (le_var 1)) (lg_name 5 sc__law_edited.nd)
      (lss_cons (ls_set 6 sc__law_edited.nd (le_call O__law_take (hr.mono (by decide)) hG rfl T.g__law_take T.F__law_take.kp (b__law_take T.F__law_take) (la_cons (le_var 0) (la_cons (le_int) (la_nil))))) <|
    lss_one (ls_if (lt_cmp (lo_eq hr.units) (le_var 6) (le_int))
      (lss_one (ls_expr (le_bm PySem.F.plainAttrs_list PySem.F.slot_list_extend PySem.F.type_list_extend mt_extend lm_extend (le_var 4) (la_cons (le_lst (la_cons (le_call O__law_one (hr.mono (by decide)) hG rfl T.g__law_one T.F__law_one.kp (b__law_one T.F__law_one) (la_cons (le_var 0) (la_cons (le_var 2) (la_nil)))) (la_cons (le_var 5) (la_nil)))) (la_nil)))))
      (lss_one (ls_if (lt_cmp (lo_eq hr.units) (le_var 6) (le_int))
      (lss_one (ls_expr (le_bm PySem.F.plainAttrs_list PySem.F.slot_list_extend PySem.F.type_list_extend mt_extend lm_extend (le_var 4) (la_cons (le_lst (la_cons (le_var 5) (la_cons (le_var 5) (la_nil)))) (la_nil)))))
      (lss_one (ls_if (lt_cmp (lo_eq hr.units) (le_var 6) (le_int))
      (lss_one (ls_expr (le_bm PySem.F.plainAttrs_list PySem.F.slot_list_append PySem.F.type_list_append mt_append lm_append (le_var 4) (la_cons (le_call O__law_one (hr.mono (by decide)) hG rfl T.g__law_one T.F__law_one.kp (b__law_one T.F__law_one) (la_cons (le_var 0) (la_cons (le_var 2) (la_nil)))) (la_nil)))))
      (lss_one (ls_if (lt_cmp lo_gt (le_var 6) (le_int))
      (lss_one (ls_expr (le_bm PySem.F.plainAttrs_list PySem.F.slot_list_append PySem.F.type_list_append mt_append lm_append (le_var 4) (la_cons (le_var 5) (la_nil)))))
      (lss_nil)))))))))) <|
    lss_cons (ls_if (lt_cmp (lo_eq hr.units) (le_call O__law_take (hr.mono (by decide)) hG rfl T.g__law_take T.F__law_take.kp (b__law_take T.F__law_take) (la_cons (le_var 0) (la_cons (le_int) (la_nil)))) (le_int))
      (lss_one (ls_expr (le_bm PySem.F.plainAttrs_list PySem.F.slot_list_append PySem.F.type_list_append mt_append lm_append (le_var 4) (la_cons (le_call O__law_one (hr.mono (by decide)) hG rfl T.g__law_one T.F__law_one.kp (b__law_one T.F__law_one) (la_cons (le_var 0) (la_cons (le_var 2) (la_nil)))) (la_nil)))))
      (lss_nil)) <|
    lss_one (ls_ret (le_callTy lc_tuple rfl T.n_tuple boot_tuple (la_cons (le_slice (le_var 4) (lpo_none) (lpo_some (le_var 3))) (la_nil))))
theorem der__law_texts (T : Fs P w K mg) (O__law_take : FnG P w K mg base 1 T.f__law_take T.d__law_take ["_law_bag_here", "_law_many"] (sp__law_take T.ad)) (O__law_full : FnG P w K mg base 3 T.f__law_full T.d__law_full ["_law_bag_here", "_law_letters", "_law_size"] (sp__law_full T.ad)) (O__law_edited : FnG P w K mg base 3 T.f__law_edited T.d__law_edited ["_law_bag_here", "_law_text_here", "_law_letters", "_law_most"] (sp__law_edited T.ad)) (O__law_text : FnG P w K mg base 3 T.f__law_text T.d__law_text ["_law_bag_here", "_law_letters", "_law_most"] (sp__law_text T.ad)) {f : Addr} {cdv : Value} {A : Around} {outer : List Env} {s : Shared} {H : Hp} (hr : Room 3 (A.deeper (envOfC "_law_texts" (defScope s__law_texts) s.heap.objs.size f cdv))) (hG : (A.deeper (envOfC "_law_texts" (defScope s__law_texts) s.heap.objs.size f cdv)).guards = some []) :
    LSs (cxOf CX0 P w K mg base M__law_texts "_law_texts" (defScope s__law_texts) f cdv A outer s H E0).nox (defBody s__law_texts) (t__law_texts T.ad) :=
    lss_cons (ls_set 3 sc__law_texts.nd (le_call O__law_take (hr.mono (by decide)) hG rfl T.g__law_take T.F__law_take.kp (b__law_take T.F__law_take) (la_cons (le_var 0) (la_cons (le_int) (la_nil))))) <|
    lss_cons (ls_if (lt_cmp (lo_eq hr.units) (le_var 3) (le_int))
      (lss_one (ls_ret (le_tup (la_cons (le_call O__law_text (hr.mono (by decide)) hG rfl T.g__law_text T.F__law_text.kp (b__law_text T.F__law_text) (la_cons (le_var 0) (la_cons (le_var 1) (la_cons (le_var 2) (la_nil))))) (la_cons (le_call O__law_text (hr.mono (by decide)) hG rfl T.g__law_text T.F__law_text.kp (b__law_text T.F__law_text) (la_cons (le_var 0) (la_cons (le_var 1) (la_cons (le_var 2) (la_nil))))) (la_nil))))))
      (lss_nil)) <|
    lss_cons (ls_if (lt_cmp (lo_eq hr.units) (le_var 3) (le_int))
      (lss_cons (ls_set 4 sc__law_texts.nd (le_op lo_mul (le_call O__law_full (hr.mono (by decide)) hG rfl T.g__law_full T.F__law_full.kp (b__law_full T.F__law_full) (la_cons (le_var 0) (la_cons (le_var 1) (la_cons (le_op lo_add (le_int) (le_call O__law_take (hr.mono (by decide)) hG rfl T.g__law_take T.F__law_take.kp (b__law_take T.F__law_take) (la_cons (le_var 0) (la_cons (le_int) (la_nil))))) (la_nil))))) (le_op lo_add (le_var 2) (le_int)))) <|
    lss_one (ls_ret (le_tup (la_cons (le_slice (le_var 4) (lpo_none) (lpo_some (le_call O__law_take (hr.mono (by decide)) hG rfl T.g__law_take T.F__law_take.kp (b__law_take T.F__law_take) (la_cons (le_var 0) (la_cons (le_op lo_add (le_var 2) (le_int)) (la_nil)))))) (la_cons (le_slice (le_slice (le_var 4) (lpo_some (le_int)) (lpo_none)) (lpo_none) (lpo_some (le_call O__law_take (hr.mono (by decide)) hG rfl T.g__law_take T.F__law_take.kp (b__law_take T.F__law_take) (la_cons (le_var 0) (la_cons (le_op lo_add (le_var 2) (le_int)) (la_nil)))))) (la_nil))))))
      (lss_nil)) <|
    lss_cons (ls_set 5 sc__law_texts.nd (le_call O__law_full (hr.mono (by decide)) hG rfl T.g__law_full T.F__law_full.kp (b__law_full T.F__law_full) (la_cons (le_var 0) (la_cons (le_var 1) (la_cons (le_op lo_add (le_int) (le_call O__law_take (hr.mono (by decide)) hG rfl T.g__law_take T.F__law_take.kp (b__law_take T.F__law_take) (la_cons (le_var 0) (la_cons (le_var 2) (la_nil))))) (la_nil)))))) <|
    lss_one (ls_ret (le_tup (la_cons (le_call O__law_edited (hr.mono (by decide)) hG rfl T.g__law_edited T.F__law_edited.kp (b__law_edited T.F__law_edited) (la_cons (le_var 0) (la_cons (le_var 5) (la_cons (le_var 1) (la_cons (le_var 2) (la_nil)))))) (la_cons (le_call O__law_edited (hr.mono (by decide)) hG rfl T.g__law_edited T.F__law_edited.kp (b__law_edited T.F__law_edited) (la_cons (le_var 0) (la_cons (le_var 5) (la_cons (le_var 1) (la_cons (le_var 2) (la_nil)))))) (la_nil)))))
theorem der__law_price_table (T : Fs P w K mg) (O__law_one : FnG P w K mg base 2 T.f__law_one T.d__law_one ["_law_bag_here", "_law_some"] (sp__law_one T.ad)) (O__law_take : FnG P w K mg base 1 T.f__law_take T.d__law_take ["_law_bag_here", "_law_many"] (sp__law_take T.ad)) {f : Addr} {cdv : Value} {A : Around} {outer : List Env} {s : Shared} {H : Hp} (hr : Room 2 (A.deeper (envOfC "_law_price_table" (defScope s__law_price_table) s.heap.objs.size f cdv))) (hG : (A.deeper (envOfC "_law_price_table" (defScope s__law_price_table) s.heap.objs.size f cdv)).guards = some []) :
    LSs (cxOf CX0 P w K mg base M__law_price_table "_law_price_table" (defScope s__law_price_table) f cdv A outer s H E0).nox (defBody s__law_price_table) (t__law_price_table T.ad) :=
    lss_cons (ls_par 2 3 rfl sc__law_price_table.nd (la_cons (le_dnew) (la_cons (le_call O__law_one (hr.mono (by decide)) hG rfl T.g__law_one T.F__law_one.kp (b__law_one T.F__law_one) (la_cons (le_var 0) (la_cons (le_lst (la_cons (le_int) (la_cons (le_int) (la_cons (le_int) (la_cons (le_int) (la_nil)))))) (la_nil)))) (la_nil)))) <|
    lss_cons (ls_for PassesOwn.never rfl (lit_any (le_var 1)) (lg_name 4 sc__law_price_table.nd)
      (lss_one (ls_if (lt_cmp lo_gt (le_call O__law_take (hr.mono (by decide)) hG rfl T.g__law_take T.F__law_take.kp (b__law_take T.F__law_take) (la_cons (le_var 0) (la_cons (le_int) (la_nil)))) (le_int))
      (lss_one (ls_setA (u1 hr) (le_tup (la_cons (le_op lo_add (le_int) (le_call O__law_take (hr.mono (by decide)) hG rfl T.g__law_take T.F__law_take.kp (b__law_take T.F__law_take) (la_cons (le_var 0) (la_cons (le_var 3) (la_nil))))) (la_cons (le_op lo_add (le_int) (le_call O__law_take (hr.mono (by decide)) hG rfl T.g__law_take T.F__law_take.kp (b__law_take T.F__law_take) (la_cons (le_var 0) (la_cons (le_var 3) (la_nil))))) (la_nil)))) (le_var 2) (le_var 4)))
      (lss_nil)))) <|
    lss_one (ls_ret (le_var 2))
theorem der__law_promise (T : Fs P w K mg) (O__law_take : FnG P w K mg base 1 T.f__law_take T.d__law_take ["_law_bag_here", "_law_many"] (sp__law_take T.ad)) (O__law_one : FnG P w K mg base 2 T.f__law_one T.d__law_one ["_law_bag_here", "_law_some"] (sp__law_one T.ad)) {f : Addr} {cdv : Value} {A : Around} {outer : List Env} {s : Shared} {H : Hp} (hr : Room 2 (A.deeper (envOfC "_law_promise" (defScope s__law_promise) s.heap.objs.size f cdv))) (hG : (A.deeper (envOfC "_law_promise" (defScope s__law_promise) s.heap.objs.size f cdv)).guards = some []) :
    LSs (cxOf CX0 P w K mg base M__law_promise "_law_promise" (defScope s__law_promise) f cdv A outer s H E0).nox (defBody s__law_promise) (t__law_promise T.ad) :=
    lss_cons (ls_set 1 sc__law_promise.nd (le_call O__law_take (hr.mono (by decide)) hG rfl T.g__law_take T.F__law_take.kp (b__law_take T.F__law_take) (la_cons (le_var 0) (la_cons (le_int) (la_nil))))) <|
    lss_cons (ls_if (lt_cmp (lo_eq hr.units) (le_var 1) (le_int))
      (lss_one (ls_ret (le_tup (la_cons (le_str [110, 111, 110, 101]) (la_nil)))))
      (lss_nil)) <|
    lss_cons (ls_if (lt_cmp (lo_eq hr.units) (le_var 1) (le_int))
      (lss_one (ls_ret (le_tup (la_cons (le_str [108, 97, 103]) (la_cons (le_op lo_add (le_int) (le_call O__law_take (hr.mono (by decide)) hG rfl T.g__law_take T.F__law_take.kp (b__law_take T.F__law_take) (la_cons (le_var 0) (la_cons (le_int) (la_nil))))) (la_nil))))))
      (lss_nil)) <|
    lss_one (ls_ret (le_tup (la_cons (le_str [116, 111, 116, 97, 108]) (la_cons (le_call O__law_one (hr.mono (by decide)) hG rfl T.g__law_one T.F__law_one.kp (b__law_one T.F__law_one) (la_cons (le_var 0) (la_cons (le_lst (la_cons (le_int) (la_cons (le_int) (la_cons (le_int) (la_cons (le_int) (la_cons (le_int) (la_cons (le_int) (la_cons (le_int) (la_cons (le_int) (la_cons (le_int) (la_nil))))))))))) (la_nil)))) (la_nil)))))
theorem der__law_steps (T : Fs P w K mg) {f : Addr} {cdv : Value} {A : Around} {outer : List Env} {s : Shared} {H : Hp} (hr : Room 0 (A.deeper (envOfC "_law_steps" (defScope s__law_steps) s.heap.objs.size f cdv))) (hG : (A.deeper (envOfC "_law_steps" (defScope s__law_steps) s.heap.objs.size f cdv)).guards = some []) :
    LSs (cxOf CX0 P w K mg base M__law_steps "_law_steps" (defScope s__law_steps) f cdv A outer s H E0).nox (defBody s__law_steps) (t__law_steps T.ad) :=
    lss_cons (ls_set 4 sc__law_steps.nd (le_lst (la_nil))) <|
    lss_cons (ls_if (LWe.lt (lw_and (lt_cmp lo_lt (le_var 2) (le_callB lc_len rfl T.n_len boot_len (la_cons (le_var 0) (la_nil)))) (lw_and (lt_cmp lo_lt (le_var 3) (le_callB lc_len rfl T.n_len boot_len (la_cons (le_var 1) (la_nil)))) (lw_and1 (lt_cmp (lo_eq hr.units) (le_ix (lixA (u1 hr)) (le_var 0) (le_var 2)) (le_ix (lixA (u1 hr)) (le_var 1) (le_var 3)))))))
      (lss_one (ls_expr (le_bm PySem.F.plainAttrs_list PySem.F.slot_list_append PySem.F.type_list_append mt_append lm_append (le_var 4) (la_cons (le_str [107]) (la_nil)))))
      (lss_nil)) <|
    lss_cons (ls_if (lt_cmp lo_lt (le_var 2) (le_callB lc_len rfl T.n_len boot_len (la_cons (le_var 0) (la_nil))))
      (lss_one (ls_expr (le_bm PySem.F.plainAttrs_list PySem.F.slot_list_append PySem.F.type_list_append mt_append lm_append (le_var 4) (la_cons (le_str [100]) (la_nil)))))
      (lss_nil)) <|
    lss_cons (ls_if (lt_cmp lo_lt (le_var 3) (le_callB lc_len rfl T.n_len boot_len (la_cons (le_var 1) (la_nil))))
      (lss_one (ls_expr (le_bm PySem.F.plainAttrs_list PySem.F.slot_list_append PySem.F.type_list_append mt_append lm_append (le_var 4) (la_cons (le_str [112]) (la_nil)))))
      (lss_nil)) <|
    lss_one (ls_ret (le_var 4))
theorem der__law_walk (T : Fs P w K mg) (O__law_steps : FnG P w K mg base 1 T.f__law_steps T.d__law_steps ["_law_left", "_law_right", "_law_i", "_law_j"] (sp__law_steps T.ad)) (O__law_one : FnG P w K mg base 2 T.f__law_one T.d__law_one ["_law_bag_here", "_law_some"] (sp__law_one T.ad)) (O__law_take : FnG P w K mg base 1 T.f__law_take T.d__law_take ["_law_bag_here", "_law_many"] (sp__law_take T.ad)) {f : Addr} {cdv : Value} {A : Around} {outer : List Env} {s : Shared} {H : Hp} (hr : Room 2 (A.deeper (envOfC "_law_walk" (defScope s__law_walk) s.heap.objs.size f cdv))) (hG : (A.deeper (envOfC "_law_walk" (defScope s__law_walk) s.heap.objs.size f cdv)).guards = some []) :
    LSs (cxOf CX0 P w K mg base M__law_walk "_law_walk" (defScope s__law_walk) f cdv A outer s H E0).nox (defBody s__law_walk) (t__law_walk T.ad) :=
    lss_cons (ls_asg (le_tup (la_cons (le_int) (la_cons (le_int) (la_cons (le_str []) (la_nil))))) (lg_tup rfl (lgs_cons (lg_name 4 sc__law_walk.nd) (lgs_cons (lg_name 5 sc__law_walk.nd) (lgs_cons (lg_name 6 sc__law_walk.nd) (lgs_nil)))))) <|
    lss_cons (ls_for PassesOwn.never rfl (lit_range1 rfl T.n_range (la_cons (le_var 3) (la_nil))) (lg_name 7 sc__law_walk.nd)
      (lss_cons (ls_set 8 sc__law_walk.nd (le_call O__law_steps (hr.mono (by decide)) hG rfl T.g__law_steps T.F__law_steps.kp (b__law_steps T.F__law_steps) (la_cons (le_var 1) (la_cons (le_var 2) (la_cons (le_var 4) (la_cons (le_var 5) (la_nil))))))) <|
    lss_one (ls_if (lt_cmp (lo_ne hr.units) (le_var 8) (le_lst (la_nil)))
      (lss_cons (ls_set 9 sc__law_walk.nd (le_if (lt_cmp (lo_eq hr.units) (le_call O__law_take (hr.mono (by decide)) hG rfl T.g__law_take T.F__law_take.kp (b__law_take T.F__law_take) (la_cons (le_var 0) (la_cons (le_int) (la_nil)))) (le_int)) (le_ix (lixA (u1 hr)) (le_var 8) (le_int)) (le_call O__law_one (hr.mono (by decide)) hG rfl T.g__law_one T.F__law_one.kp (b__law_one T.F__law_one) (la_cons (le_var 0) (la_cons (le_var 8) (la_nil)))))) <|
    lss_one (ls_par3 6 4 5 rfl sc__law_walk.nd (la_cons (le_op lo_add (le_var 6) (le_var 9)) (la_cons (le_op lo_add (le_var 4) (le_callTy lc_int rfl T.n_int boot_int (la_cons (le_cmp (lo_ne hr.units) (le_var 9) (le_str [112])) (la_nil)))) (la_cons (le_op lo_add (le_var 5) (le_callTy lc_int rfl T.n_int boot_int (la_cons (le_cmp (lo_ne hr.units) (le_var 9) (le_str [100])) (la_nil)))) (la_nil))))))
      (lss_nil)))) <|
    lss_one (ls_ret (le_var 6))
theorem der__law_costs (T : Fs P w K mg) {f : Addr} {cdv : Value} {A : Around} {outer : List Env} {s : Shared} {H : Hp} (hr : Room 0 (A.deeper (envOfC "_law_costs" (defScope s__law_costs) s.heap.objs.size f cdv))) (hG : (A.deeper (envOfC "_law_costs" (defScope s__law_costs) s.heap.objs.size f cdv)).guards = some []) :
    LSs (cxOf CX0 P w K mg base M__law_costs "_law_costs" (defScope s__law_costs) f cdv A outer s H E0).nox (defBody s__law_costs) (t__law_costs T.ad) :=
    lss_one (ls_ret (le_get2 (u1 hr) (le_var 0) (le_var 1) (le_tup (la_cons (le_int) (la_cons (le_int) (la_nil))))))
theorem der__law_alike (T : Fs P w K mg) {f : Addr} {cdv : Value} {A : Around} {outer : List Env} {s : Shared} {H : Hp} (hr : Room 0 (A.deeper (envOfC "_law_alike" (defScope s__law_alike) s.heap.objs.size f cdv))) (hG : (A.deeper (envOfC "_law_alike" (defScope s__law_alike) s.heap.objs.size f cdv)).guards = some []) :
    LSs (cxOf CX0 P w K mg base M__law_alike "_law_alike" (defScope s__law_alike) f cdv A outer s H E0).nox (defBody s__law_alike) (t__law_alike T.ad) :=
    lss_one (ls_ret (le_and (le_cmp (lo_eq hr.units) (le_var 0) (le_var 1)) (le_one (le_cmp (lo_eq hr.units) (le_callB (lc_repr hG hr.units) rfl T.n_repr boot_repr (la_cons (le_var 0) (la_nil))) (le_callB (lc_repr hG hr.units) rfl T.n_repr boot_repr (la_cons (le_var 1) (la_nil)))))))
theorem der__law_lag (T : Fs P w K mg) {f : Addr} {cdv : Value} {A : Around} {outer : List Env} {s : Shared} {H : Hp} (hr : Room 0 (A.deeper (envOfC "_law_lag" (defScope s__law_lag) s.heap.objs.size f cdv))) (hG : (A.deeper (envOfC "_law_lag" (defScope s__law_lag) s.heap.objs.size f cdv)).guards = some []) :
    LSs (cxOf CX0 P w K mg base M__law_lag "_law_lag" (defScope s__law_lag) f cdv A outer s H E0).nox (defBody s__law_lag) (t__law_lag_k58 T.ad) :=
    lss_one (ls_ret (le_if (lt_cmp (lo_eq hr.units) (le_ix (lixA (u1 hr)) (le_var 0) (le_int)) (le_str [108, 97, 103])) (le_ix (lixA (u1 hr)) (le_var 0) (le_int)) (le_op lo_pow (le_int) (le_int))))
theorem der__law_behind (T : Fs P w K mg) (O__law_costs : FnG P w K mg base 1 T.f__law_costs T.d__law_costs ["_law_table", "_law_letter"] (sp__law_costs T.ad)) {f : Addr} {cdv : Value} {A : Around} {outer : List Env} {s : Shared} {H : Hp} (hr : Room 1 (A.deeper (envOfC "_law_behind" (defScope s__law_behind) s.heap.objs.size f cdv))) (hG : (A.deeper (envOfC "_law_behind" (defScope s__law_behind) s.heap.objs.size f cdv)).guards = some []) :
    LSs (cxOf CX0 P w K mg base M__law_behind "_law_behind" (defScope s__law_behind) f cdv A outer s H E0).nox (defBody s__law_behind) (t__law_behind T.ad) :=
    lss_cons (ls_setLc 4 [("_law_i", 7)] rfl sc__law_behind.nd (lit_range1 rfl T.n_range (la_cons (le_op lo_add (le_callB lc_len rfl T.n_len boot_len (la_cons (le_var 0) (la_nil))) (le_int)) (la_nil))) (blkOk_by (N := M__law_behind) (sc := defScope s__law_behind) (by decide +kernel)) (by decide) (fun _ _ _ _ _ => lg_name 7 sc__law_behind.nd) (fun _ _ _ _ _ => lts_nil) (fun _ _ _ _ _ => le_op lo_mul (le_lst (la_cons (le_non) (la_nil))) (le_op lo_add (le_callB lc_len rfl T.n_len boot_len (la_cons (le_var 1) (la_nil))) (le_int)))) <|
    lss_cons (ls_for PassesOwn.never rfl (lit_range1 rfl T.n_range (la_cons (le_op lo_add (le_callB lc_len rfl T.n_len boot_len (la_cons (le_var 0) (la_nil))) (le_int)) (la_nil))) (lg_name 5 sc__law_behind.nd)
      (lss_one (ls_for PassesOwn.never rfl (lit_range1 rfl T.n_range (la_cons (le_op lo_add (le_callB lc_len rfl T.n_len boot_len (la_cons (le_var 1) (la_nil))) (le_int)) (la_nil))) (lg_name 6 sc__law_behind.nd)
      (lss_cons (ls_par 7 8 rfl sc__law_behind.nd (la_cons (le_op lo_sub (le_callB lc_len rfl T.n_len boot_len (la_cons (le_var 0) (la_nil))) (le_var 5)) (la_cons (le_op lo_sub (le_callB lc_len rfl T.n_len boot_len (la_cons (le_var 1) (la_nil))) (le_var 6)) (la_nil)))) <|
    lss_cons (ls_set 9 sc__law_behind.nd (le_op lo_mul (le_lst (la_cons (le_int) (la_nil))) (le_callTy lc_int rfl T.n_int boot_int (la_cons (le_and (le_cmp (lo_eq hr.units) (le_var 5) (le_int)) (le_one (le_cmp (lo_eq hr.units) (le_var 6) (le_int)))) (la_nil))))) <|
    lss_cons (ls_if (LWe.lt (lw_and (lt_cmp lo_gt (le_var 5) (le_int)) (lw_and (lt_cmp lo_gt (le_var 6) (le_int)) (lw_and (lt_cmp (lo_eq hr.units) (le_ix (lixA (u1 hr)) (le_var 0) (le_var 7)) (le_ix (lixA (u1 hr)) (le_var 1) (le_var 8))) (lw_and1 (lt_cmp lo_notN (le_ix (lixA (u1 hr)) (le_ix (lixA (u1 hr)) (le_var 4) (le_op lo_add (le_var 7) (le_int))) (le_op lo_add (le_var 8) (le_int))) (le_non)))))))
      (lss_one (ls_expr (le_bm PySem.F.plainAttrs_list PySem.F.slot_list_append PySem.F.type_list_append mt_append lm_append (le_var 9) (la_cons (le_ix (lixA (u1 hr)) (le_ix (lixA (u1 hr)) (le_var 4) (le_op lo_add (le_var 7) (le_int))) (le_op lo_add (le_var 8) (le_int))) (la_nil)))))
      (lss_nil)) <|
    lss_cons (ls_if (LWe.lt (lw_and (lt_cmp lo_gt (le_var 5) (le_int)) (lw_and1 (lt_cmp lo_notN (le_ix (lixA (u1 hr)) (le_ix (lixA (u1 hr)) (le_var 4) (le_op lo_add (le_var 7) (le_int))) (le_var 8)) (le_non)))))
      (lss_one (ls_expr (le_bm PySem.F.plainAttrs_list PySem.F.slot_list_append PySem.F.type_list_append mt_append lm_append (le_var 9) (la_cons (le_op lo_add (le_ix (lixA (u1 hr)) (le_ix (lixA (u1 hr)) (le_var 4) (le_op lo_add (le_var 7) (le_int))) (le_var 8)) (le_ix (lixA (u1 hr)) (le_call O__law_costs (hr.mono (by decide)) hG rfl T.g__law_costs T.F__law_costs.kp (b__law_costs T.F__law_costs) (la_cons (le_var 2) (la_cons (le_ix (lixA (u1 hr)) (le_var 0) (le_var 7)) (la_nil)))) (le_int))) (la_nil)))))
      (lss_nil)) <|
    lss_cons (ls_if (LWe.lt (lw_and (lt_cmp lo_gt (le_var 6) (le_int)) (lw_and1 (lt_cmp lo_notN (le_ix (lixA (u1 hr)) (le_ix (lixA (u1 hr)) (le_var 4) (le_var 7)) (le_op lo_add (le_var 8) (le_int))) (le_non)))))
      (lss_one (ls_expr (le_bm PySem.F.plainAttrs_list PySem.F.slot_list_append PySem.F.type_list_append mt_append lm_append (le_var 9) (la_cons (le_op lo_add (le_ix (lixA (u1 hr)) (le_ix (lixA (u1 hr)) (le_var 4) (le_var 7)) (le_op lo_add (le_var 8) (le_int))) (le_ix (lixA (u1 hr)) (le_call O__law_costs (hr.mono (by decide)) hG rfl T.g__law_costs T.F__law_costs.kp (b__law_costs T.F__law_costs) (la_cons (le_var 2) (la_cons (le_ix (lixA (u1 hr)) (le_var 1) (le_var 8)) (la_nil)))) (le_int))) (la_nil)))))
      (lss_nil)) <|
    lss_one (ls_if (LWe.lt (lw_and (lt_cmp (lo_ne hr.units) (le_var 9) (le_lst (la_nil))) (lw_and1 (lt_cmp lo_le (le_callB lc_abs rfl T.n_abs boot_abs (la_cons (le_op lo_sub (le_var 7) (le_var 8)) (la_nil))) (le_var 3)))))
      (lss_one (ls_setA (u1 hr) (le_callB (lc_min rfl) rfl T.n_min boot_min (la_cons (le_var 9) (la_nil))) (le_ix (lixA (u1 hr)) (le_var 4) (le_var 7)) (le_var 8)))
      (lss_nil)))))) <|
    lss_one (ls_ret (le_var 4))
theorem der__law_leading (T : Fs P w K mg) (O__law_behind : FnG P w K mg base 2 T.f__law_behind T.d__law_behind ["_law_left", "_law_right", "_law_table", "_law_lag_here"] (sp__law_behind T.ad)) (O__law_costs : FnG P w K mg base 1 T.f__law_costs T.d__law_costs ["_law_table", "_law_letter"] (sp__law_costs T.ad)) {f : Addr} {cdv : Value} {A : Around} {outer : List Env} {s : Shared} {H : Hp} (hr : Room 2 (A.deeper (envOfC "_law_leading" (defScope s__law_leading) s.heap.objs.size f cdv))) (hG : (A.deeper (envOfC "_law_leading" (defScope s__law_leading) s.heap.objs.size f cdv)).guards = some []) :
    LSs (cxOf CX0 P w K mg base M__law_leading "_law_leading" (defScope s__law_leading) f cdv A outer s H E0).nox (defBody s__law_leading) (t__law_leading T.ad) :=
    lss_cons (ls_asg (le_tup (la_cons (le_call O__law_behind (hr.mono (by decide)) hG rfl T.g__law_behind T.F__law_behind.kp (b__law_behind T.F__law_behind) (la_cons (le_slice (le_var 0) (lpo_none) (lpo_some (le_ix (lixA (u1 hr)) (le_var 5) (le_int)))) (la_cons (le_slice (le_var 1) (lpo_none) (lpo_some (le_ix (lixA (u1 hr)) (le_var 5) (le_int)))) (la_cons (le_var 2) (la_cons (le_var 3) (la_nil)))))) (la_cons (le_var 4) (la_cons (le_str []) (la_nil))))) (lg_tup rfl (lgs_cons (lg_name 6 sc__law_leading.nd) (lgs_cons (lg_tup rfl (lgs_cons (lg_name 7 sc__law_leading.nd) (lgs_cons (lg_name 8 sc__law_leading.nd) (lgs_nil)))) (lgs_cons (lg_name 9 sc__law_leading.nd) (lgs_nil)))))) <|
    lss_cons (ls_set 10 sc__law_leading.nd (le_ix (lixA (u1 hr)) (le_ix (lixA (u1 hr)) (le_var 6) (le_var 7)) (le_var 8))) <|
    lss_cons (ls_if (lt_cmp lo_isN (le_var 10) (le_non))
      (lss_one (ls_ret (le_non)))
      (lss_nil)) <|
    lss_cons (ls_for PassesOwn.never rfl (lit_range1 rfl T.n_range (la_cons (le_op lo_sub (le_op lo_add (le_op lo_sub (le_ix (lixA (u1 hr)) (le_var 5) (le_int)) (le_var 7)) (le_ix (lixA (u1 hr)) (le_var 5) (le_int))) (le_var 8)) (la_nil))) (lg_name 11 sc__law_leading.nd)
      (lss_cons (ls_set 12 sc__law_leading.nd (le_ix (lixA (u1 hr)) (le_ix (lixA (u1 hr)) (le_var 6) (le_var 7)) (le_var 8))) <|
    lss_one (ls_if (LWe.lt (lw_and (lt_cmp lo_lt (le_var 7) (le_ix (lixA (u1 hr)) (le_var 5) (le_int))) (lw_and (lt_cmp lo_lt (le_var 8) (le_ix (lixA (u1 hr)) (le_var 5) (le_int))) (lw_and (lt_cmp (lo_eq hr.units) (le_ix (lixA (u1 hr)) (le_var 0) (le_var 7)) (le_ix (lixA (u1 hr)) (le_var 1) (le_var 8))) (lw_and1 (lt_cmp (lo_eq hr.units) (le_ix (lixA (u1 hr)) (le_ix (lixA (u1 hr)) (le_var 6) (le_op lo_add (le_var 7) (le_int))) (le_op lo_add (le_var 8) (le_int))) (le_var 12)))))))
      (lss_one (ls_par3 9 7 8 rfl sc__law_leading.nd (la_cons (le_op lo_add (le_var 9) (le_str [107])) (la_cons (le_op lo_add (le_var 7) (le_int)) (la_cons (le_op lo_add (le_var 8) (le_int)) (la_nil))))))
      (lss_one (ls_if (LWe.lt (lw_and (lt_cmp lo_lt (le_var 7) (le_ix (lixA (u1 hr)) (le_var 5) (le_int))) (lw_and (lt_cmp lo_notN (le_ix (lixA (u1 hr)) (le_ix (lixA (u1 hr)) (le_var 6) (le_op lo_add (le_var 7) (le_int))) (le_var 8)) (le_non)) (lw_and1 (lt_cmp (lo_eq hr.units) (le_op lo_add (le_ix (lixA (u1 hr)) (le_ix (lixA (u1 hr)) (le_var 6) (le_op lo_add (le_var 7) (le_int))) (le_var 8)) (le_ix (lixA (u1 hr)) (le_call O__law_costs (hr.mono (by decide)) hG rfl T.g__law_costs T.F__law_costs.kp (b__law_costs T.F__law_costs) (la_cons (le_var 2) (la_cons (le_ix (lixA (u1 hr)) (le_var 0) (le_var 7)) (la_nil)))) (le_int))) (le_var 12))))))
      (lss_one (ls_par 9 7 rfl sc__law_leading.nd (la_cons (le_op lo_add (le_var 9) (le_str [100])) (la_cons (le_op lo_add (le_var 7) (le_int)) (la_nil)))))
      (lss_one (ls_if (lt_cmp lo_lt (le_var 8) (le_ix (lixA (u1 hr)) (le_var 5) (le_int)))
      (lss_one (ls_par 9 8 rfl sc__law_leading.nd (la_cons (le_op lo_add (le_var 9) (le_str [112])) (la_cons (le_op lo_add (le_var 8) (le_int)) (la_nil)))))
      (lss_nil)))))))) <|
    lss_one (ls_ret (le_tup (la_cons (le_var 9) (la_cons (le_var 10) (la_nil)))))
theorem der__law_paid (T : Fs P w K mg) (O__law_costs : FnG P w K mg base 1 T.f__law_costs T.d__law_costs ["_law_table", "_law_letter"] (sp__law_costs T.ad)) {f : Addr} {cdv : Value} {A : Around} {outer : List Env} {s : Shared} {H : Hp} (hr : Room 1 (A.deeper (envOfC "_law_paid" (defScope s__law_paid) s.heap.objs.size f cdv))) (hG : (A.deeper (envOfC "_law_paid" (defScope s__law_paid) s.heap.objs.size f cdv)).guards = some []) :
    LSs (cxOf CX0 P w K mg base M__law_paid "_law_paid" (defScope s__law_paid) f cdv A outer s H E0).nox (defBody s__law_paid) (t__law_paid_k58 T.ad) :=
    lss_cons (ls_asg (le_tup (la_cons (le_int) (la_cons (le_int) (la_cons (le_int) (la_nil))))) (lg_tup rfl (lgs_cons (lg_name 4 sc__law_paid.nd) (lgs_cons (lg_name 5 sc__law_paid.nd) (lgs_cons (lg_name 6 sc__law_paid.nd) (lgs_nil)))))) <|
    lss_cons (ls_for PassesOwn.never rfl (lit_any (le_var 0)) (lg_name 7 sc__law_paid.nd)
      (lss_cons (ls_if (lt_cmp (lo_eq hr.units) (le_var 7) (le_str [100]))
      (lss_one (ls_aug 6 ip_add sc__law_paid.nd (le_ix (lixA (u1 hr)) (le_call O__law_costs (hr.mono (by decide)) hG rfl T.g__law_costs T.F__law_costs.kp (b__law_costs T.F__law_costs) (la_cons (le_var 3) (la_cons (le_ix (lixA (u1 hr)) (le_var 1) (le_var 4)) (la_nil)))) (le_int))))
      (lss_nil)) <|
    lss_cons (ls_if (lt_cmp (lo_eq hr.units) (le_var 7) (le_str [112]))
      (lss_one (ls_aug 6 ip_add sc__law_paid.nd (le_ix (lixA (u1 hr)) (le_call O__law_costs (hr.mono (by decide)) hG rfl T.g__law_costs T.F__law_costs.kp (b__law_costs T.F__law_costs) (la_cons (le_var 3) (la_cons (le_ix (lixA (u1 hr)) (le_var 2) (le_var 5)) (la_nil)))) (le_int))))
      (lss_nil)) <|
    lss_one (ls_par 4 5 rfl sc__law_paid.nd (la_cons (le_op lo_add (le_var 4) (le_callTy lc_int rfl T.n_int boot_int (la_cons (le_cmp (lo_ne hr.units) (le_var 7) (le_str [112])) (la_nil)))) (la_cons (le_op lo_add (le_var 5) (le_callTy lc_int rfl T.n_int boot_int (la_cons (le_cmp (lo_ne hr.units) (le_var 7) (le_str [100])) (la_nil)))) (la_nil)))))) <|
    lss_one (ls_ret (le_var 6))
theorem der__law_spot (T : Fs P w K mg) {f : Addr} {cdv : Value} {A : Around} {outer : List Env} {s : Shared} {H : Hp} (hr : Room 0 (A.deeper (envOfC "_law_spot" (defScope s__law_spot) s.heap.objs.size f cdv))) (hG : (A.deeper (envOfC "_law_spot" (defScope s__law_spot) s.heap.objs.size f cdv)).guards = some []) :
    LSs (cxOf CX0 P w K mg base M__law_spot "_law_spot" (defScope s__law_spot) f cdv A outer s H E0).nox (defBody s__law_spot) (t__law_spot T.ad) :=
    lss_one (ls_ret (le_tup (la_cons (le_op lo_sub (le_callB lc_len rfl T.n_len boot_len (la_cons (le_var 0) (la_nil))) (le_bm PySem.F.plainAttrs_str PySem.F.slot_str_count PySem.F.type_str_count mt_count lm_countS (le_var 0) (la_cons (le_str [112]) (la_nil)))) (la_cons (le_op lo_sub (le_callB lc_len rfl T.n_len boot_len (la_cons (le_var 0) (la_nil))) (le_bm PySem.F.plainAttrs_str PySem.F.slot_str_count PySem.F.type_str_count mt_count lm_countS (le_var 0) (la_cons (le_str [100]) (la_nil)))) (la_nil)))))
theorem der__law_price_from (T : Fs P w K mg) (O__law_behind : FnG P w K mg base 2 T.f__law_behind T.d__law_behind ["_law_left", "_law_right", "_law_table", "_law_lag_here"] (sp__law_behind T.ad)) (O__law_spot : FnG P w K mg base 1 T.f__law_spot T.d__law_spot ["_law_script_here"] (sp__law_spot T.ad)) (O__law_paid : FnG P w K mg base 2 T.f__law_paid T.d__law_paid ["_law_script_here", "_law_left", "_law_right", "_law_table"] (sp__law_paid_k58 T.ad)) {f : Addr} {cdv : Value} {A : Around} {outer : List Env} {s : Shared} {H : Hp} (hr : Room 2 (A.deeper (envOfC "_law_price_from" (defScope s__law_price_from) s.heap.objs.size f cdv))) (hG : (A.deeper (envOfC "_law_price_from" (defScope s__law_price_from) s.heap.objs.size f cdv)).guards = some []) :
    LSs (cxOf CX0 P w K mg base M__law_price_from "_law_price_from" (defScope s__law_price_from) f cdv A outer s H E0).nox (defBody s__law_price_from) (t__law_price_from T.ad) :=
    lss_cons (ls_par 4 5 rfl sc__law_price_from.nd (la_cons (le_call O__law_behind (hr.mono (by decide)) hG rfl T.g__law_behind T.F__law_behind.kp (b__law_behind T.F__law_behind) (la_cons (le_ix (lixA (u1 hr)) (le_var 1) (le_int)) (la_cons (le_ix (lixA (u1 hr)) (le_var 1) (le_int)) (la_cons (le_var 2) (la_cons (le_var 3) (la_nil)))))) (la_cons (le_call O__law_spot (hr.mono (by decide)) hG rfl T.g__law_spot T.F__law_spot.kp (b__law_spot T.F__law_spot) (la_cons (le_var 0) (la_nil))) (la_nil)))) <|
    lss_cons (ls_set 6 sc__law_price_from.nd (le_ix (lixA (u1 hr)) (le_ix (lixA (u1 hr)) (le_var 4) (le_ix (lixA (u1 hr)) (le_var 5) (le_int))) (le_ix (lixA (u1 hr)) (le_var 5) (le_int)))) <|
    lss_one (ls_ret (le_tup (la_cons (le_if (lt_cmp lo_isN (le_var 6) (le_non)) (le_non) (le_op lo_add (le_call O__law_paid (hr.mono (by decide)) hG rfl T.g__law_paid T.F__law_paid.kp (b__law_paid T.F__law_paid) (la_cons (le_var 0) (la_cons (le_ix (lixA (u1 hr)) (le_var 1) (le_int)) (la_cons (le_ix (lixA (u1 hr)) (le_var 1) (le_int)) (la_cons (le_var 2) (la_nil)))))) (le_var 6))) (la_cons (le_ix (lixA (u1 hr)) (le_ix (lixA (u1 hr)) (le_var 4) (le_int)) (le_int)) (la_nil)))))
theorem der__law_stops (T : Fs P w K mg) {f : Addr} {cdv : Value} {A : Around} {outer : List Env} {s : Shared} {H : Hp} (hr : Room 0 (A.deeper (envOfC "_law_stops" (defScope s__law_stops) s.heap.objs.size f cdv))) (hG : (A.deeper (envOfC "_law_stops" (defScope s__law_stops) s.heap.objs.size f cdv)).guards = some []) :
    LSs (cxOf CX0 P w K mg base M__law_stops "_law_stops" (defScope s__law_stops) f cdv A outer s H E0).nox (defBody s__law_stops) (t__law_stops T.ad) :=
    lss_cons (ls_asg (le_tup (la_cons (le_int) (la_cons (le_int) (la_nil)))) (lg_tup rfl (lgs_cons (lg_name 3 sc__law_stops.nd) (lgs_cons (lg_name 4 sc__law_stops.nd) (lgs_nil))))) <|
    lss_cons (ls_for PassesOwn.never rfl (lit_enum rfl T.n_enumerate (la_cons (le_var 0) (la_nil))) (lg_tup rfl (lgs_cons (lg_name 5 sc__law_stops.nd) (lgs_cons (lg_name 6 sc__law_stops.nd) (lgs_nil))))
      (lss_cons (ls_if (LWe.lt (lw_or (LWe.lt (lw_and (lt_cmp (lo_ne hr.units) (le_var 6) (le_str [112])) (lw_and1 (lt_cmp lo_ge (le_var 3) (le_callB lc_len rfl T.n_len boot_len (la_cons (le_var 1) (la_nil))))))) (lw_or (LWe.lt (lw_and (lt_cmp (lo_ne hr.units) (le_var 6) (le_str [100])) (lw_and1 (lt_cmp lo_ge (le_var 4) (le_callB lc_len rfl T.n_len boot_len (la_cons (le_var 2) (la_nil))))))) (lw_or1 (LWe.lt (lw_and (lt_cmp (lo_eq hr.units) (le_var 6) (le_str [107])) (lw_and1 (lt_cmp (lo_ne hr.units) (le_ix (lixA (u1 hr)) (le_var 1) (le_var 3)) (le_ix (lixA (u1 hr)) (le_var 2) (le_var 4))))))))))
      (lss_one (ls_ret (le_var 5)))
      (lss_nil)) <|
    lss_one (ls_par 3 4 rfl sc__law_stops.nd (la_cons (le_op lo_add (le_var 3) (le_callTy lc_int rfl T.n_int boot_int (la_cons (le_cmp (lo_ne hr.units) (le_var 6) (le_str [112])) (la_nil)))) (la_cons (le_op lo_add (le_var 4) (le_callTy lc_int rfl T.n_int boot_int (la_cons (le_cmp (lo_ne hr.units) (le_var 6) (le_str [100])) (la_nil)))) (la_nil)))))) <|
    lss_one (ls_ret (le_non))
theorem der__law_widest (T : Fs P w K mg) {f : Addr} {cdv : Value} {A : Around} {outer : List Env} {s : Shared} {H : Hp} (hr : Room 0 (A.deeper (envOfC "_law_widest" (defScope s__law_widest) s.heap.objs.size f cdv))) (hG : (A.deeper (envOfC "_law_widest" (defScope s__law_widest) s.heap.objs.size f cdv)).guards = some []) :
    LSs (cxOf CX0 P w K mg base M__law_widest "_law_widest" (defScope s__law_widest) f cdv A outer s H E0).nox (defBody s__law_widest) (t__law_widest T.ad) :=
    lss_cons (ls_asg (le_tup (la_cons (le_int) (la_cons (le_int) (la_nil)))) (lg_tup rfl (lgs_cons (lg_name 1 sc__law_widest.nd) (lgs_cons (lg_name 2 sc__law_widest.nd) (lgs_nil))))) <|
    lss_cons (ls_for PassesOwn.never rfl (lit_any (le_var 0)) (lg_name 3 sc__law_widest.nd)
      (lss_cons (ls_set 2 sc__law_widest.nd (le_op lo_sub (le_op lo_add (le_var 2) (le_callTy lc_int rfl T.n_int boot_int (la_cons (le_cmp (lo_eq hr.units) (le_var 3) (le_str [100])) (la_nil)))) (le_callTy lc_int rfl T.n_int boot_int (la_cons (le_cmp (lo_eq hr.units) (le_var 3) (le_str [112])) (la_nil))))) <|
    lss_one (ls_set 1 sc__law_widest.nd (le_callB (lc_max rfl) rfl T.n_max boot_max (la_cons (le_var 1) (la_cons (le_callB lc_abs rfl T.n_abs boot_abs (la_cons (le_var 2) (la_nil))) (la_nil))))))) <|
    lss_one (ls_ret (le_var 1))
theorem der__law_loss_due (T : Fs P w K mg) (O__law_stops : FnG P w K mg base 1 T.f__law_stops T.d__law_stops ["_law_script_here", "_law_left", "_law_right"] (sp__law_stops T.ad)) (O__law_price_from : FnG P w K mg base 3 T.f__law_price_from T.d__law_price_from ["_law_script_here", "_law_texts_here", "_law_table", "_law_lag_here"] (sp__law_price_from T.ad)) (O__law_lag : FnG P w K mg base 1 T.f__law_lag T.d__law_lag ["_law_promise_here"] (sp__law_lag_k58 T.ad)) (O__law_widest : FnG P w K mg base 1 T.f__law_widest T.d__law_widest ["_law_script_here"] (sp__law_widest T.ad)) {f : Addr} {cdv : Value} {A : Around} {outer : List Env} {s : Shared} {H : Hp} (hr : Room 3 (A.deeper (envOfC "_law_loss_due" (defScope s__law_loss_due) s.heap.objs.size f cdv))) (hG : (A.deeper (envOfC "_law_loss_due" (defScope s__law_loss_due) s.heap.objs.size f cdv)).guards = some []) :
    LSs (cxOf CX0 P w K mg base M__law_loss_due "_law_loss_due" (defScope s__law_loss_due) f cdv A outer s H E0).nox (defBody s__law_loss_due) (t__law_loss_due T.ad) :=
    lss_cons (ls_set 5 sc__law_loss_due.nd (le_call O__law_stops (hr.mono (by decide)) hG rfl T.g__law_stops T.F__law_stops.kp (b__law_stops T.F__law_stops) (la_cons (le_var 0) (la_cons (le_var 1) (la_cons (le_var 2) (la_nil)))))) <|
    lss_cons (ls_if (lt_cmp lo_notN (le_var 5) (le_non))
      (lss_one (ls_ret (le_tup (la_cons (le_str [78, 111, 116, 65, 83, 99, 114, 105, 112, 116]) (la_cons (le_var 5) (la_nil))))))
      (lss_nil)) <|
    lss_cons (ls_asg (le_call O__law_price_from (hr.mono (by decide)) hG rfl T.g__law_price_from T.F__law_price_from.kp (b__law_price_from T.F__law_price_from) (la_cons (le_var 0) (la_cons (le_tup (la_cons (le_var 1) (la_cons (le_var 2) (la_nil)))) (la_cons (le_var 3) (la_cons (le_call O__law_lag (hr.mono (by decide)) hG rfl T.g__law_lag T.F__law_lag.kp (b__law_lag T.F__law_lag) (la_cons (le_var 4) (la_nil))) (la_nil)))))) (lg_tup rfl (lgs_cons (lg_name 6 sc__law_loss_due.nd) (lgs_cons (lg_name 7 sc__law_loss_due.nd) (lgs_nil))))) <|
    lss_cons (ls_if (LWe.lt (lw_or (lt_cmp lo_isN (le_var 6) (le_non)) (lw_or (lt_cmp lo_isN (le_var 7) (le_non)) (lw_or1 (lt_cmp lo_gt (le_call O__law_widest (hr.mono (by decide)) hG rfl T.g__law_widest T.F__law_widest.kp (b__law_widest T.F__law_widest) (la_cons (le_var 0) (la_nil))) (le_call O__law_lag (hr.mono (by decide)) hG rfl T.g__law_lag T.F__law_lag.kp (b__law_lag T.F__law_lag) (la_cons (le_var 4) (la_nil))))))))
      (lss_one (ls_ret (le_tup (la_cons (le_str [116, 111, 108, 100]) (la_cons (le_non) (la_nil))))))
      (lss_nil)) <|
    lss_one (ls_ret (le_tup (la_cons (le_str [116, 111, 108, 100]) (la_cons (le_op lo_sub (le_var 6) (le_var 7)) (la_nil)))))
theorem der__law_loss_told (T : Fs P w K mg) (O_loss_of_script__X : FnX P w K mg base 6 T.f_loss_of_script__X T.d_loss_of_script__X ["left", "right", "prices", "promise", "script"] (sp_loss_of_script__X T.ad)) {f : Addr} {cdv : Value} {A : Around} {outer : List Env} {s : Shared} {H : Hp} (hr : Room 6 (A.deeper (envOfC "_law_loss_told" (defScope s__law_loss_told) s.heap.objs.size f cdv))) (hG : (A.deeper (envOfC "_law_loss_told" (defScope s__law_loss_told) s.heap.objs.size f cdv)).guards = some []) :
    LSs (cxOf CX0 P w K mg base M__law_loss_told "_law_loss_told" (defScope s__law_loss_told) f cdv A outer s H E0).nox (defBody s__law_loss_told) (t__law_loss_told T.ad) :=
    lss_one (ls_try rfl rfl sc__law_loss_told.nd (fun W pn xe tk po =>
      lss_one (ls_ret (le_tup (la_cons (le_str [116, 111, 108, 100]) (la_cons (le_callX O_loss_of_script__X tk (hr.mono (by decide)) hG rfl T.g_loss_of_script__X T.F_loss_of_script__X.kp (b_loss_of_script__X T.F_loss_of_script__X) (la_cons (le_var 1) (la_cons (le_var 2) (la_cons (le_var 3) (la_cons (le_var 4) (la_cons (le_var 0) (la_nil))))))) (la_nil)))))) (.cons (i := 5) ⟨rfl, by decide, .inl T.g_NotAScript⟩ rfl rfl (fun _ _ _ _ _ hz hf => suite_tup T.x_NotAScript (by decide +kernel) rfl rfl (by decide) (by decide) hz hf rfl rfl rfl) (.nil)) ⟨T.e_NotAScript_NotAScript, trivial, trivial⟩)
theorem der__law_script (T : Fs P w K mg) (O__law_one__S : FnG P w K mg base 2 T.f__law_one__S T.d__law_one__S ["_law_bag_here", "_law_some"] (sp__law_one__S T.ad)) (O__law_take : FnG P w K mg base 1 T.f__law_take T.d__law_take ["_law_bag_here", "_law_many"] (sp__law_take T.ad)) (O__law_walk : FnG P w K mg base 3 T.f__law_walk T.d__law_walk ["_law_bag_here", "_law_left", "_law_right", "_law_most"] (sp__law_walk T.ad)) (O__law_one : FnG P w K mg base 2 T.f__law_one T.d__law_one ["_law_bag_here", "_law_some"] (sp__law_one T.ad)) {f : Addr} {cdv : Value} {A : Around} {outer : List Env} {s : Shared} {H : Hp} (hr : Room 3 (A.deeper (envOfC "_law_script" (defScope s__law_script) s.heap.objs.size f cdv))) (hG : (A.deeper (envOfC "_law_script" (defScope s__law_script) s.heap.objs.size f cdv)).guards = some []) :
    LSs (cxOf CX0 P w K mg base M__law_script "_law_script" (defScope s__law_script) f cdv A outer s H E0).nox (defBody s__law_script) (t__law_script_k58 T.ad) :=
    lss_cons (ls_par 3 4 rfl sc__law_script.nd (la_cons (le_call O__law_walk (hr.mono (by decide)) hG rfl T.g__law_walk T.F__law_walk.kp (b__law_walk T.F__law_walk) (la_cons (le_var 0) (la_cons (le_var 1) (la_cons (le_var 2) (la_cons (le_call O__law_take (hr.mono (by decide)) hG rfl T.g__law_take T.F__law_take.kp (b__law_take T.F__law_take) (la_cons (le_var 0) (la_cons (le_int) (la_nil)))) (la_nil)))))) (la_cons (le_call O__law_take (hr.mono (by decide)) hG rfl T.g__law_take T.F__law_take.kp (b__law_take T.F__law_take) (la_cons (le_var 0) (la_cons (le_int) (la_nil)))) (la_nil)))) <|
    lss_cons (ls_set 5 sc__law_script.nd (le_call O__law_take (hr.mono (by decide)) hG rfl T.g__law_take T.F__law_take.kp (b__law_take T.F__law_take) (la_cons (le_var 0) (la_cons (le_op lo_add (le_callB lc_len rfl T.n_len boot_len (la_cons (le_var 3) (la_nil))) (le_int)) (la_nil))))) <|
    lss_cons (ls_if (lt_cmp (lo_eq hr.units) (le_var 4) (le_int))
      (lss_one (ls_ret (le_op lo_add (le_op lo_add (le_slice (le_var 3) (lpo_none) (lpo_some (le_var 5))) (le_call O__law_one__S (hr.mono (by decide)) hG rfl T.g__law_one__S T.F__law_one__S.kp (b__law_one__S T.F__law_one__S) (la_cons (le_var 0) (la_cons (le_str [107, 100, 112]) (la_nil))))) (le_slice (le_var 3) (lpo_some (le_var 5)) (lpo_none)))))
      (lss_nil)) <|
    lss_cons (ls_if (lt_cmp (lo_eq hr.units) (le_var 4) (le_int))
      (lss_one (ls_ret (le_op lo_add (le_slice (le_var 3) (lpo_none) (lpo_some (le_var 5))) (le_slice (le_var 3) (lpo_some (le_op lo_add (le_var 5) (le_int))) (lpo_none)))))
      (lss_nil)) <|
    lss_cons (ls_if (lt_cmp (lo_eq hr.units) (le_var 4) (le_int))
      (lss_one (ls_ret (le_op lo_add (le_op lo_add (le_slice (le_var 3) (lpo_none) (lpo_some (le_var 5))) (le_call O__law_one__S (hr.mono (by decide)) hG rfl T.g__law_one__S T.F__law_one__S.kp (b__law_one__S T.F__law_one__S) (la_cons (le_var 0) (la_cons (le_str [107, 100, 112]) (la_nil))))) (le_slice (le_var 3) (lpo_some (le_op lo_add (le_var 5) (le_int))) (lpo_none)))))
      (lss_nil)) <|
    lss_one (ls_ret (le_if (lt_cmp (lo_eq hr.units) (le_var 4) (le_int)) (le_var 3) (le_op lo_add (le_var 3) (le_call O__law_one (hr.mono (by decide)) hG rfl T.g__law_one T.F__law_one.kp (b__law_one T.F__law_one) (la_cons (le_var 0) (la_cons (le_lst (la_cons (le_str [100]) (la_cons (le_str [112]) (la_cons (le_str [107]) (la_cons (le_str [100, 100, 100, 100, 100, 100, 100, 100]) (la_cons (le_str [112, 112, 112, 112, 112, 112, 112, 112]) (la_cons (le_str [100, 112]) (la_nil)))))))) (la_nil)))))))
theorem der_law (T : Fs P w K mg) (O__law_bag : FnG P w K mg base 1 T.f__law_bag T.d__law_bag ["_law_script_here"] (sp__law_bag T.ad)) (O__law_mixed : FnG P w K mg base 2 T.f__law_mixed T.d__law_mixed ["_law_bag_here", "_law_things"] (sp__law_mixed T.ad)) (O__law_alphabet : FnG P w K mg base 3 T.f__law_alphabet T.d__law_alphabet ["_law_bag_here"] (sp__law_alphabet T.ad)) (O__law_price_table : FnG P w K mg base 3 T.f__law_price_table T.d__law_price_table ["_law_bag_here", "_law_letters"] (sp__law_price_table T.ad)) (O__law_texts : FnG P w K mg base 4 T.f__law_texts T.d__law_texts ["_law_bag_here", "_law_letters", "_law_most"] (sp__law_texts T.ad)) (O_Prices___init__ : FnG P w K mg base 5 T.f_Prices___init__ T.d_Prices___init__ ["self", "table"] (sp_Prices___init__ T.ad)) (O__law_behind : FnG P w K mg base 2 T.f__law_behind T.d__law_behind ["_law_left", "_law_right", "_law_table", "_law_lag_here"] (sp__law_behind T.ad)) (O__law_leading : FnG P w K mg base 3 T.f__law_leading T.d__law_leading ["_law_left", "_law_right", "_law_table", "_law_lag_here", "_law_spot_here", "_law_aim"] (sp__law_leading T.ad)) (O__law_alike : FnG P w K mg base 1 T.f__law_alike T.d__law_alike ["_law_found", "_law_due"] (sp__law_alike T.ad)) (O__law_one : FnG P w K mg base 2 T.f__law_one T.d__law_one ["_law_bag_here", "_law_some"] (sp__law_one T.ad)) (O__law_promise : FnG P w K mg base 3 T.f__law_promise T.d__law_promise ["_law_bag_here"] (sp__law_promise T.ad)) (O__law_lag : FnG P w K mg base 1 T.f__law_lag T.d__law_lag ["_law_promise_here"] (sp__law_lag_k58 T.ad)) (O__law_script : FnG P w K mg base 4 T.f__law_script T.d__law_script ["_law_bag_here", "_law_left", "_law_right"] (sp__law_script_k58 T.ad)) (O__law_loss_due : FnG P w K mg base 4 T.f__law_loss_due T.d__law_loss_due ["_law_script_here", "_law_left", "_law_right", "_law_table", "_law_promise_here"] (sp__law_loss_due T.ad)) (O_loss_of_script : FnG P w K mg base 6 T.f_loss_of_script T.d_loss_of_script ["left", "right", "prices", "promise", "script"] (sp_loss_of_script T.ad)) (O__law_loss_told : FnG P w K mg base 7 T.f__law_loss_told T.d__law_loss_told ["_law_script_here", "_law_left", "_law_right", "_law_prices", "_law_promise_here"] (sp__law_loss_told T.ad)) (O__law_take : FnG P w K mg base 1 T.f__law_take T.d__law_take ["_law_bag_here", "_law_many"] (sp__law_take T.ad)) (O_rest_least : FnG P w K mg base 5 T.f_rest_least T.d_rest_least ["left", "right", "prices", "promise", "point"] (sp_rest_least T.ad)) {f : Addr} {cdv : Value} {A : Around} {outer : List Env} {s : Shared} {H : Hp} (hr : Room 7 (A.deeper (envOfC "law" (defScope s_law) s.heap.objs.size f cdv))) (hG : (A.deeper (envOfC "law" (defScope s_law) s.heap.objs.size f cdv)).guards = some []) :
    LSs (cxOf CX0 P w K mg base M_law "law" (defScope s_law) f cdv A outer s H E0).nox (defBody s_law) (t_law_k58 T.ad) :=
    lss_cons (ls_set 1 sc_law.nd (le_call O__law_bag (hr.mono (by decide)) hG rfl T.g__law_bag T.F__law_bag.kp (b__law_bag T.F__law_bag) (la_cons (le_var 0) (la_nil)))) <|
    lss_cons (ls_set 2 sc_law.nd (le_lst (la_nil))) <|
    lss_cons (ls_for PassesOwn.never rfl (lit_range1 rfl T.n_range (la_cons (le_int) (la_nil))) (lg_name 3 sc_law.nd)
      (lss_cons (ls_set 4 sc_law.nd (le_call O__law_alphabet (hr.mono (by decide)) hG rfl T.g__law_alphabet T.F__law_alphabet.kp (b__law_alphabet T.F__law_alphabet) (la_cons (le_var 1) (la_nil)))) <|
    lss_cons (ls_asg (le_tup (la_cons (le_call O__law_price_table (hr.mono (by decide)) hG rfl T.g__law_price_table T.F__law_price_table.kp (b__law_price_table T.F__law_price_table) (la_cons (le_var 1) (la_cons (le_var 4) (la_nil)))) (la_cons (le_call O__law_texts (hr.mono (by decide)) hG rfl T.g__law_texts T.F__law_texts.kp (b__law_texts T.F__law_texts) (la_cons (le_var 1) (la_cons (le_var 4) (la_cons (le_call O__law_one (hr.mono (by decide)) hG rfl T.g__law_one T.F__law_one.kp (b__law_one T.F__law_one) (la_cons (le_var 1) (la_cons (le_lst (la_cons (le_int) (la_cons (le_int) (la_cons (le_int) (la_nil))))) (la_nil)))) (la_nil))))) (la_nil)))) (lg_tup rfl (lgs_cons (lg_name 5 sc_law.nd) (lgs_cons (lg_tup rfl (lgs_cons (lg_name 6 sc_law.nd) (lgs_cons (lg_name 7 sc_law.nd) (lgs_nil)))) (lgs_nil))))) <|
    lss_cons (ls_par 8 9 rfl sc_law.nd (la_cons (le_make T.i_Prices T.k_Prices O_Prices___init__ (hr.mono (by decide)) hG rfl T.g_Prices (b_Prices___init__ T.F_Prices___init__) (la_cons (le_callTy lc_dict rfl T.n_dict boot_dict (la_cons (le_var 5) (la_nil))) (la_nil))) (la_cons (le_lst (la_cons (le_call O__law_promise (hr.mono (by decide)) hG rfl T.g__law_promise T.F__law_promise.kp (b__law_promise T.F__law_promise) (la_cons (le_var 1) (la_nil))) (la_cons (le_call O__law_one (hr.mono (by decide)) hG rfl T.g__law_one T.F__law_one.kp (b__law_one T.F__law_one) (la_cons (le_var 1) (la_cons (le_lst (la_cons (le_tup (la_cons (le_str [110, 111, 110, 101]) (la_nil))) (la_cons (le_tup (la_cons (le_str [108, 97, 103]) (la_cons (le_int) (la_nil)))) (la_cons (le_tup (la_cons (le_str [108, 97, 103]) (la_cons (le_int) (la_nil)))) (la_nil))))) (la_nil)))) (la_nil)))) (la_nil)))) <|
    lss_cons (ls_for PassesOwn.never rfl (lit_any (le_var 9)) (lg_name 10 sc_law.nd)
      (lss_cons (ls_set 11 sc_law.nd (le_call O__law_behind (hr.mono (by decide)) hG rfl T.g__law_behind T.F__law_behind.kp (b__law_behind T.F__law_behind) (la_cons (le_var 6) (la_cons (le_var 7) (la_cons (le_var 5) (la_cons (le_call O__law_lag (hr.mono (by decide)) hG rfl T.g__law_lag T.F__law_lag.kp (b__law_lag T.F__law_lag) (la_cons (le_var 10) (la_nil))) (la_nil))))))) <|
    lss_cons (ls_for PassesOwn.never rfl (lit_range1 rfl T.n_range (la_cons (le_int) (la_nil))) (lg_name 12 sc_law.nd)
      (lss_cons (ls_par 13 14 rfl sc_law.nd (la_cons (le_call O__law_take (hr.mono (by decide)) hG rfl T.g__law_take T.F__law_take.kp (b__law_take T.F__law_take) (la_cons (le_var 1) (la_cons (le_op lo_add (le_callB lc_len rfl T.n_len boot_len (la_cons (le_var 6) (la_nil))) (le_int)) (la_nil)))) (la_cons (le_call O__law_take (hr.mono (by decide)) hG rfl T.g__law_take T.F__law_take.kp (b__law_take T.F__law_take) (la_cons (le_var 1) (la_cons (le_op lo_add (le_callB lc_len rfl T.n_len boot_len (la_cons (le_var 7) (la_nil))) (le_int)) (la_nil)))) (la_nil)))) <|
    lss_one (ls_if (lt_not (lt_truth (le_call O__law_alike (hr.mono (by decide)) hG rfl T.g__law_alike T.F__law_alike.kp (b__law_alike T.F__law_alike) (la_cons (le_call O_rest_least (hr.mono (by decide)) hG rfl T.g_rest_least T.F_rest_least.kp (b_rest_least T.F_rest_least) (la_cons (le_var 6) (la_cons (le_var 7) (la_cons (le_var 8) (la_cons (le_var 10) (la_cons (le_tup (la_cons (le_var 13) (la_cons (le_var 14) (la_nil)))) (la_nil))))))) (la_cons (le_ix (lixA (u1 hr)) (le_ix (lixA (u1 hr)) (le_var 11) (le_var 13)) (le_var 14)) (la_nil))))))
      (lss_one (ls_ret (le_bl)))
      (lss_nil)))) <|
    lss_one (ls_for PassesOwn.never rfl (lit_range1 rfl T.n_range (la_cons (le_int) (la_nil))) (lg_name 12 sc_law.nd)
      (lss_cons (ls_set 15 sc_law.nd (le_call O__law_script (hr.mono (by decide)) hG rfl T.g__law_script T.F__law_script.kp (b__law_script T.F__law_script) (la_cons (le_var 1) (la_cons (le_var 6) (la_cons (le_var 7) (la_nil)))))) <|
    lss_cons (ls_set 16 sc_law.nd (le_call O__law_loss_due (hr.mono (by decide)) hG rfl T.g__law_loss_due T.F__law_loss_due.kp (b__law_loss_due T.F__law_loss_due) (la_cons (le_var 15) (la_cons (le_var 6) (la_cons (le_var 7) (la_cons (le_var 5) (la_cons (le_var 10) (la_nil)))))))) <|
    lss_cons (ls_if (lt_not (lt_truth (le_call O__law_alike (hr.mono (by decide)) hG rfl T.g__law_alike T.F__law_alike.kp (b__law_alike T.F__law_alike) (la_cons (le_call O__law_loss_told (hr.mono (by decide)) hG rfl T.g__law_loss_told T.F__law_loss_told.kp (b__law_loss_told T.F__law_loss_told) (la_cons (le_var 15) (la_cons (le_var 6) (la_cons (le_var 7) (la_cons (le_var 8) (la_cons (le_var 10) (la_nil))))))) (la_cons (le_var 16) (la_nil))))))
      (lss_one (ls_ret (le_bl)))
      (lss_nil)) <|
    lss_one (ls_expr (le_bm PySem.F.plainAttrs_list PySem.F.slot_list_append PySem.F.type_list_append mt_append lm_append (le_var 2) (la_cons (le_tup (la_cons (le_var 15) (la_cons (le_var 6) (la_cons (le_var 7) (la_cons (le_var 8) (la_cons (le_var 10) (la_cons (le_var 16) (la_nil)))))))) (la_nil)))))))) <|
    lss_cons (ls_set 15 sc_law.nd (le_ix (lixA (u1 hr)) (le_call O__law_leading (hr.mono (by decide)) hG rfl T.g__law_leading T.F__law_leading.kp (b__law_leading T.F__law_leading) (la_cons (le_var 6) (la_cons (le_var 7) (la_cons (le_var 5) (la_cons (le_op lo_pow (le_int) (le_int)) (la_cons (le_tup (la_cons (le_int) (la_cons (le_int) (la_nil)))) (la_cons (le_tup (la_cons (le_callB lc_len rfl T.n_len boot_len (la_cons (le_var 6) (la_nil))) (la_cons (le_callB lc_len rfl T.n_len boot_len (la_cons (le_var 7) (la_nil))) (la_nil)))) (la_nil)))))))) (le_int))) <|
    lss_one (ls_if (lt_not (lt_truth (le_call O__law_alike (hr.mono (by decide)) hG rfl T.g__law_alike T.F__law_alike.kp (b__law_alike T.F__law_alike) (la_cons (le_call O_loss_of_script (hr.mono (by decide)) hG rfl T.g_loss_of_script T.F_loss_of_script.kp (b_loss_of_script T.F_loss_of_script) (la_cons (le_var 6) (la_cons (le_var 7) (la_cons (le_var 8) (la_cons (le_tup (la_cons (le_str [116, 111, 116, 97, 108]) (la_cons (le_int) (la_nil)))) (la_cons (le_var 15) (la_nil))))))) (la_cons (le_int) (la_nil))))))
      (lss_one (ls_ret (le_bl)))
      (lss_nil)))) <|
    lss_cons (ls_for PassesOwn.never rfl (lit_any (le_call O__law_mixed (hr.mono (by decide)) hG rfl T.g__law_mixed T.F__law_mixed.kp (b__law_mixed T.F__law_mixed) (la_cons (le_var 1) (la_cons (le_var 2) (la_nil))))) (lg_tup rfl (lgs_cons (lg_name 15 sc_law.nd) (lgs_cons (lg_name 6 sc_law.nd) (lgs_cons (lg_name 7 sc_law.nd) (lgs_cons (lg_name 8 sc_law.nd) (lgs_cons (lg_name 10 sc_law.nd) (lgs_cons (lg_name 16 sc_law.nd) (lgs_nil))))))))
      (lss_one (ls_if (lt_not (lt_truth (le_call O__law_alike (hr.mono (by decide)) hG rfl T.g__law_alike T.F__law_alike.kp (b__law_alike T.F__law_alike) (la_cons (le_call O__law_loss_told (hr.mono (by decide)) hG rfl T.g__law_loss_told T.F__law_loss_told.kp (b__law_loss_told T.F__law_loss_told) (la_cons (le_var 15) (la_cons (le_var 6) (la_cons (le_var 7) (la_cons (le_var 8) (la_cons (le_var 10) (la_nil))))))) (la_cons (le_var 16) (la_nil))))))
      (lss_one (ls_ret (le_bl)))
      (lss_nil)))) <|
    lss_one (ls_ret (le_bl))
end
section
variable {P : Program} {w : World} {K : PySem.W.Frag} {mg : Str → Option Value} {base : Heap}
theorem ok_moved (T : Fs P w K mg) : FnG P w K mg base 1 T.f_moved T.d_moved ["point", "step"] (sp_moved T.ad) :=
  fnG_of T.F_moved sc_moved (len_moved T.ad) fun cdv A outer s H hr hG => ⟨_, der_moved T hr hG, pure_moved T.ad⟩
theorem ok_points (T : Fs P w K mg) : FnG P w K mg base 2 T.f_points T.d_points ["script"] (sp_points T.ad) :=
  fnG_of T.F_points sc_points (len_points T.ad) fun cdv A outer s H hr hG => ⟨_, der_points T (ok_moved T) hr hG, pure_points T.ad⟩
theorem ok_widest (T : Fs P w K mg) : FnG P w K mg base 3 T.f_widest T.d_widest ["script"] (sp_widest T.ad) :=
  fnG_of T.F_widest sc_widest (len_widest T.ad) fun cdv A outer s H hr hG => ⟨_, der_widest T (ok_points T) hr hG, pure_widest T.ad⟩
theorem ok_is_allowed (T : Fs P w K mg) : FnG P w K mg base 4 T.f_is_allowed T.d_is_allowed ["script", "promise"] (sp_is_allowed T.ad) :=
  fnG_of T.F_is_allowed sc_is_allowed (len_is_allowed T.ad) fun cdv A outer s H hr hG => ⟨_, der_is_allowed T (ok_widest T) hr hG, pure_is_allowed T.ad⟩
theorem ok_can_be_done (T : Fs P w K mg) : FnG P w K mg base 1 T.f_can_be_done T.d_can_be_done ["step", "point", "left", "right"] (sp_can_be_done T.ad) :=
  fnG_of T.F_can_be_done sc_can_be_done (len_can_be_done T.ad) fun cdv A outer s H hr hG => ⟨_, der_can_be_done T hr hG, pure_can_be_done T.ad⟩
theorem ok_first_wrong (T : Fs P w K mg) : FnG P w K mg base 3 T.f_first_wrong T.d_first_wrong ["script", "left", "right"] (sp_first_wrong T.ad) :=
  fnG_of T.F_first_wrong sc_first_wrong (len_first_wrong T.ad) fun cdv A outer s H hr hG => ⟨_, der_first_wrong T (ok_points T) (ok_can_be_done T) hr hG, pure_first_wrong T.ad⟩
theorem ok_Prices_drop (T : Fs P w K mg) : FnG P w K mg base 1 T.f_Prices_drop T.d_Prices_drop ["self", "letter"] (sp_Prices_drop T.ad) :=
  fnG_of T.F_Prices_drop sc_Prices_drop (len_Prices_drop T.ad) fun cdv A outer s H hr hG => ⟨_, der_Prices_drop T hr hG, pure_Prices_drop T.ad⟩
theorem ok_Prices_put (T : Fs P w K mg) : FnG P w K mg base 1 T.f_Prices_put T.d_Prices_put ["self", "letter"] (sp_Prices_put T.ad) :=
  fnG_of T.F_Prices_put sc_Prices_put (len_Prices_put T.ad) fun cdv A outer s H hr hG => ⟨_, der_Prices_put T hr hG, pure_Prices_put T.ad⟩
theorem ok_step_price (T : Fs P w K mg) : FnG P w K mg base 2 T.f_step_price T.d_step_price ["step", "point", "left", "right", "prices"] (sp_step_price T.ad) :=
  fnG_of T.F_step_price sc_step_price (len_step_price T.ad) fun cdv A outer s H hr hG => ⟨_, der_step_price T (ok_Prices_drop T) (ok_Prices_put T) hr hG, pure_step_price T.ad⟩
theorem ok_is_in_lag (T : Fs P w K mg) : FnG P w K mg base 1 T.f_is_in_lag T.d_is_in_lag ["point", "promise"] (sp_is_in_lag T.ad) :=
  fnG_of T.F_is_in_lag sc_is_in_lag (len_is_in_lag T.ad) fun cdv A outer s H hr hG => ⟨_, der_is_in_lag T hr hG, pure_is_in_lag T.ad⟩
theorem ok_all_points (T : Fs P w K mg) : FnG P w K mg base 1 T.f_all_points T.d_all_points ["left", "right"] (sp_all_points T.ad) :=
  fnG_of T.F_all_points sc_all_points (len_all_points T.ad) fun cdv A outer s H hr hG => ⟨_, der_all_points T hr hG, pure_all_points T.ad⟩
theorem ok_steps_from (T : Fs P w K mg) : FnG P w K mg base 3 T.f_steps_from T.d_steps_from ["left", "right", "prices", "promise", "point"] (sp_steps_from T.ad) :=
  fnG_of T.F_steps_from sc_steps_from (len_steps_from T.ad) fun cdv A outer s H hr hG => ⟨_, der_steps_from T (ok_moved T) (ok_can_be_done T) (ok_step_price T) (ok_is_in_lag T) hr hG, pure_steps_from T.ad⟩
theorem ok_grid (T : Fs P w K mg) : FnG P w K mg base 4 T.f_grid T.d_grid ["left", "right", "prices", "promise"] (sp_grid T.ad) :=
  fnG_of T.F_grid sc_grid (len_grid T.ad) fun cdv A outer s H hr hG => ⟨_, der_grid T (ok_all_points T) (ok_steps_from T) hr hG, pure_grid T.ad⟩
theorem ok_rests (T : Fs P w K mg) : FnG P w K mg base 4 T.f_rests T.d_rests ["left", "right", "prices", "promise"] (sp_rests T.ad) :=
  fnG_of T.F_rests sc_rests (len_rests T.ad) fun cdv A outer s H hr hG => ⟨_, der_rests T (ok_is_in_lag T) (ok_all_points T) (ok_steps_from T) hr hG, pure_rests T.ad⟩
theorem ok_least (T : Fs P w K mg) : FnG P w K mg base 5 T.f_least T.d_least ["left", "right", "prices", "promise"] (sp_least T.ad) :=
  fnG_of T.F_least sc_least (len_least T.ad) fun cdv A outer s H hr hG => ⟨_, der_least T (ok_grid T) hr hG, pure_least T.ad⟩
theorem ok_is_integer (T : Fs P w K mg) : FnG P w K mg base 1 T.f_is_integer T.d_is_integer ["thing"] (sp_is_integer T.ad) :=
  fnG_of T.F_is_integer sc_is_integer (len_is_integer T.ad) fun cdv A outer s H hr hG => ⟨_, der_is_integer T hr hG, pure_is_integer T.ad⟩
theorem ok_is_between (T : Fs P w K mg) : FnG P w K mg base 2 T.f_is_between T.d_is_between ["thing", "low", "high"] (sp_is_between T.ad) :=
  fnG_of T.F_is_between sc_is_between (len_is_between T.ad) fun cdv A outer s H hr hG => ⟨_, der_is_between T (ok_is_integer T) hr hG, pure_is_between T.ad⟩
theorem ok_is_letter (T : Fs P w K mg) : FnG P w K mg base 3 T.f_is_letter T.d_is_letter ["thing"] (sp_is_letter T.ad) :=
  fnG_of T.F_is_letter sc_is_letter (len_is_letter T.ad) fun cdv A outer s H hr hG => ⟨_, der_is_letter T (ok_is_between T) hr hG, pure_is_letter T.ad⟩
theorem ok_are_costs (T : Fs P w K mg) : FnG P w K mg base 3 T.f_are_costs T.d_are_costs ["thing"] (sp_are_costs T.ad) :=
  fnG_of T.F_are_costs sc_are_costs (len_are_costs T.ad) fun cdv A outer s H hr hG => ⟨_, der_are_costs T (ok_is_between T) hr hG, pure_are_costs T.ad⟩
theorem ok_is_price_table (T : Fs P w K mg) : FnG P w K mg base 4 T.f_is_price_table T.d_is_price_table ["thing"] (sp_is_price_table T.ad) :=
  fnG_of T.F_is_price_table sc_is_price_table (len_is_price_table T.ad) fun cdv A outer s H hr hG => ⟨_, der_is_price_table T (ok_is_letter T) (ok_are_costs T) hr hG, pure_is_price_table T.ad⟩
theorem ok_Prices___init__ (T : Fs P w K mg) : FnG P w K mg base 5 T.f_Prices___init__ T.d_Prices___init__ ["self", "table"] (sp_Prices___init__ T.ad) :=
  fnG_of T.F_Prices___init__ sc_Prices___init__ (len_Prices___init__ T.ad) fun cdv A outer s H hr hG => ⟨_, der_Prices___init__ T (ok_is_price_table T) hr hG, pure_Prices___init__ T.ad⟩
theorem ok_price_so_far (T : Fs P w K mg) : FnG P w K mg base 3 T.f_price_so_far T.d_price_so_far ["script", "left", "right", "prices"] (sp_price_so_far T.ad) :=
  fnG_of T.F_price_so_far sc_price_so_far (len_price_so_far T.ad) fun cdv A outer s H hr hG => ⟨_, der_price_so_far T (ok_step_price T) (ok_points T) hr hG, pure_price_so_far T.ad⟩
theorem ok_rest_least (T : Fs P w K mg) : FnG P w K mg base 5 T.f_rest_least T.d_rest_least ["left", "right", "prices", "promise", "point"] (sp_rest_least T.ad) :=
  fnG_of T.F_rest_least sc_rest_least (len_rest_least T.ad) fun cdv A outer s H hr hG => ⟨_, der_rest_least T (ok_rests T) hr hG, pure_rest_least T.ad⟩
theorem ok_loss_of_script__X (T : Fs P w K mg) : FnX P w K mg base 6 T.f_loss_of_script__X T.d_loss_of_script__X ["left", "right", "prices", "promise", "script"] (sp_loss_of_script__X T.ad) :=
  fnX_of T.F_loss_of_script__X sc_loss_of_script__X (len_loss_of_script__X T.ad) (fun cdv A outer s H E W hr hG tk => der_loss_of_script__X T (ok_first_wrong T) (ok_rest_least T) (ok_least T) (ok_is_allowed T) (ok_price_so_far T) (ok_points T) hr hG tk) (pure_loss_of_script__X T.ad)
theorem ok_loss_of_script (T : Fs P w K mg) : FnG P w K mg base 6 T.f_loss_of_script T.d_loss_of_script ["left", "right", "prices", "promise", "script"] (sp_loss_of_script T.ad) :=
  (fnX_of T.F_loss_of_script sc_loss_of_script (len_loss_of_script__X T.ad) (fun cdv A outer s H E W hr hG tk => der_loss_of_script__X T (ok_first_wrong T) (ok_rest_least T) (ok_least T) (ok_is_allowed T) (ok_price_so_far T) (ok_points T) hr hG tk) (pure_loss_of_script__X T.ad)).g
theorem ok__law_bag (T : Fs P w K mg) : FnG P w K mg base 1 T.f__law_bag T.d__law_bag ["_law_script_here"] (sp__law_bag T.ad) :=
  fnG_of T.F__law_bag sc__law_bag (len__law_bag T.ad) fun cdv A outer s H hr hG => ⟨_, der__law_bag T hr hG, pure__law_bag T.ad⟩
theorem ok__law_take (T : Fs P w K mg) : FnG P w K mg base 1 T.f__law_take T.d__law_take ["_law_bag_here", "_law_many"] (sp__law_take T.ad) :=
  fnG_of T.F__law_take sc__law_take (len__law_take T.ad) fun cdv A outer s H hr hG => ⟨_, der__law_take T hr hG, pure__law_take T.ad⟩
theorem ok__law_one (T : Fs P w K mg) : FnG P w K mg base 2 T.f__law_one T.d__law_one ["_law_bag_here", "_law_some"] (sp__law_one T.ad) :=
  fnG_of T.F__law_one sc__law_one (len__law_one T.ad) fun cdv A outer s H hr hG => ⟨_, der__law_one T (ok__law_take T) hr hG, pure__law_one T.ad⟩
theorem ok__law_one__S (T : Fs P w K mg) : FnG P w K mg base 2 T.f__law_one__S T.d__law_one__S ["_law_bag_here", "_law_some"] (sp__law_one__S T.ad) :=
  fnG_of T.F__law_one__S sc__law_one__S (len__law_one__S T.ad) fun cdv A outer s H hr hG => ⟨_, der__law_one__S T (ok__law_take T) hr hG, pure__law_one__S T.ad⟩
theorem ok__law_mixed (T : Fs P w K mg) : FnG P w K mg base 2 T.f__law_mixed T.d__law_mixed ["_law_bag_here", "_law_things"] (sp__law_mixed T.ad) :=
  fnG_of T.F__law_mixed sc__law_mixed (len__law_mixed T.ad) fun cdv A outer s H hr hG => ⟨_, der__law_mixed T (ok__law_take T) hr hG, pure__law_mixed T.ad⟩
theorem ok__law_alphabet (T : Fs P w K mg) : FnG P w K mg base 3 T.f__law_alphabet T.d__law_alphabet ["_law_bag_here"] (sp__law_alphabet T.ad) :=
  fnG_of T.F__law_alphabet sc__law_alphabet (len__law_alphabet T.ad) fun cdv A outer s H hr hG => ⟨_, der__law_alphabet T (ok__law_mixed T) (ok__law_one T) hr hG, pure__law_alphabet T.ad⟩
theorem ok__law_text (T : Fs P w K mg) : FnG P w K mg base 3 T.f__law_text T.d__law_text ["_law_bag_here", "_law_letters", "_law_most"] (sp__law_text T.ad) :=
  fnG_of T.F__law_text sc__law_text (len__law_text T.ad) fun cdv A outer s H hr hG => ⟨_, der__law_text T (ok__law_one T) (ok__law_take T) hr hG, pure__law_text T.ad⟩
theorem ok__law_full (T : Fs P w K mg) : FnG P w K mg base 3 T.f__law_full T.d__law_full ["_law_bag_here", "_law_letters", "_law_size"] (sp__law_full T.ad) :=
  fnG_of T.F__law_full sc__law_full (len__law_full T.ad) fun cdv A outer s H hr hG => ⟨_, der__law_full T (ok__law_one T) hr hG, pure__law_full T.ad⟩
theorem ok__law_edited (T : Fs P w K mg) : FnG P w K mg base 3 T.f__law_edited T.d__law_edited ["_law_bag_here", "_law_text_here", "_law_letters", "_law_most"] (sp__law_edited T.ad) :=
  fnG_of T.F__law_edited sc__law_edited (len__law_edited T.ad) fun cdv A outer s H hr hG => ⟨_, der__law_edited T (ok__law_take T) (ok__law_one T) hr hG, pure__law_edited T.ad⟩
theorem ok__law_texts (T : Fs P w K mg) : FnG P w K mg base 4 T.f__law_texts T.d__law_texts ["_law_bag_here", "_law_letters", "_law_most"] (sp__law_texts T.ad) :=
  fnG_of T.F__law_texts sc__law_texts (len__law_texts T.ad) fun cdv A outer s H hr hG => ⟨_, der__law_texts T (ok__law_take T) (ok__law_full T) (ok__law_edited T) (ok__law_text T) hr hG, pure__law_texts T.ad⟩
theorem ok__law_price_table (T : Fs P w K mg) : FnG P w K mg base 3 T.f__law_price_table T.d__law_price_table ["_law_bag_here", "_law_letters"] (sp__law_price_table T.ad) :=
  fnG_of T.F__law_price_table sc__law_price_table (len__law_price_table T.ad) fun cdv A outer s H hr hG => ⟨_, der__law_price_table T (ok__law_one T) (ok__law_take T) hr hG, pure__law_price_table T.ad⟩
theorem ok__law_promise (T : Fs P w K mg) : FnG P w K mg base 3 T.f__law_promise T.d__law_promise ["_law_bag_here"] (sp__law_promise T.ad) :=
  fnG_of T.F__law_promise sc__law_promise (len__law_promise T.ad) fun cdv A outer s H hr hG => ⟨_, der__law_promise T (ok__law_take T) (ok__law_one T) hr hG, pure__law_promise T.ad⟩
theorem ok__law_steps (T : Fs P w K mg) : FnG P w K mg base 1 T.f__law_steps T.d__law_steps ["_law_left", "_law_right", "_law_i", "_law_j"] (sp__law_steps T.ad) :=
  fnG_of T.F__law_steps sc__law_steps (len__law_steps T.ad) fun cdv A outer s H hr hG => ⟨_, der__law_steps T hr hG, pure__law_steps T.ad⟩
theorem ok__law_walk (T : Fs P w K mg) : FnG P w K mg base 3 T.f__law_walk T.d__law_walk ["_law_bag_here", "_law_left", "_law_right", "_law_most"] (sp__law_walk T.ad) :=
  fnG_of T.F__law_walk sc__law_walk (len__law_walk T.ad) fun cdv A outer s H hr hG => ⟨_, der__law_walk T (ok__law_steps T) (ok__law_one T) (ok__law_take T) hr hG, pure__law_walk T.ad⟩
theorem ok__law_costs (T : Fs P w K mg) : FnG P w K mg base 1 T.f__law_costs T.d__law_costs ["_law_table", "_law_letter"] (sp__law_costs T.ad) :=
  fnG_of T.F__law_costs sc__law_costs (len__law_costs T.ad) fun cdv A outer s H hr hG => ⟨_, der__law_costs T hr hG, pure__law_costs T.ad⟩
theorem ok__law_alike (T : Fs P w K mg) : FnG P w K mg base 1 T.f__law_alike T.d__law_alike ["_law_found", "_law_due"] (sp__law_alike T.ad) :=
  fnG_of T.F__law_alike sc__law_alike (len__law_alike T.ad) fun cdv A outer s H hr hG => ⟨_, der__law_alike T hr hG, pure__law_alike T.ad⟩
theorem ok__law_lag (T : Fs P w K mg) : FnG P w K mg base 1 T.f__law_lag T.d__law_lag ["_law_promise_here"] (sp__law_lag_k58 T.ad) :=
  fnG_of T.F__law_lag sc__law_lag (len__law_lag_k58 T.ad) fun cdv A outer s H hr hG => ⟨_, der__law_lag T hr hG, pure__law_lag_k58 T.ad⟩
theorem ok__law_behind (T : Fs P w K mg) : FnG P w K mg base 2 T.f__law_behind T.d__law_behind ["_law_left", "_law_right", "_law_table", "_law_lag_here"] (sp__law_behind T.ad) :=
  fnG_of T.F__law_behind sc__law_behind (len__law_behind T.ad) fun cdv A outer s H hr hG => ⟨_, der__law_behind T (ok__law_costs T) hr hG, pure__law_behind T.ad⟩
theorem ok__law_leading (T : Fs P w K mg) : FnG P w K mg base 3 T.f__law_leading T.d__law_leading ["_law_left", "_law_right", "_law_table", "_law_lag_here", "_law_spot_here", "_law_aim"] (sp__law_leading T.ad) :=
  fnG_of T.F__law_leading sc__law_leading (len__law_leading T.ad) fun cdv A outer s H hr hG => ⟨_, der__law_leading T (ok__law_behind T) (ok__law_costs T) hr hG, pure__law_leading T.ad⟩
theorem ok__law_paid (T : Fs P w K mg) : FnG P w K mg base 2 T.f__law_paid T.d__law_paid ["_law_script_here", "_law_left", "_law_right", "_law_table"] (sp__law_paid_k58 T.ad) :=
  fnG_of T.F__law_paid sc__law_paid (len__law_paid_k58 T.ad) fun cdv A outer s H hr hG => ⟨_, der__law_paid T (ok__law_costs T) hr hG, pure__law_paid_k58 T.ad⟩
theorem ok__law_spot (T : Fs P w K mg) : FnG P w K mg base 1 T.f__law_spot T.d__law_spot ["_law_script_here"] (sp__law_spot T.ad) :=
  fnG_of T.F__law_spot sc__law_spot (len__law_spot T.ad) fun cdv A outer s H hr hG => ⟨_, der__law_spot T hr hG, pure__law_spot T.ad⟩
theorem ok__law_price_from (T : Fs P w K mg) : FnG P w K mg base 3 T.f__law_price_from T.d__law_price_from ["_law_script_here", "_law_texts_here", "_law_table", "_law_lag_here"] (sp__law_price_from T.ad) :=
  fnG_of T.F__law_price_from sc__law_price_from (len__law_price_from T.ad) fun cdv A outer s H hr hG => ⟨_, der__law_price_from T (ok__law_behind T) (ok__law_spot T) (ok__law_paid T) hr hG, pure__law_price_from T.ad⟩
theorem ok__law_stops (T : Fs P w K mg) : FnG P w K mg base 1 T.f__law_stops T.d__law_stops ["_law_script_here", "_law_left", "_law_right"] (sp__law_stops T.ad) :=
  fnG_of T.F__law_stops sc__law_stops (len__law_stops T.ad) fun cdv A outer s H hr hG => ⟨_, der__law_stops T hr hG, pure__law_stops T.ad⟩
theorem ok__law_widest (T : Fs P w K mg) : FnG P w K mg base 1 T.f__law_widest T.d__law_widest ["_law_script_here"] (sp__law_widest T.ad) :=
  fnG_of T.F__law_widest sc__law_widest (len__law_widest T.ad) fun cdv A outer s H hr hG => ⟨_, der__law_widest T hr hG, pure__law_widest T.ad⟩
theorem ok__law_loss_due (T : Fs P w K mg) : FnG P w K mg base 4 T.f__law_loss_due T.d__law_loss_due ["_law_script_here", "_law_left", "_law_right", "_law_table", "_law_promise_here"] (sp__law_loss_due T.ad) :=
  fnG_of T.F__law_loss_due sc__law_loss_due (len__law_loss_due T.ad) fun cdv A outer s H hr hG => ⟨_, der__law_loss_due T (ok__law_stops T) (ok__law_price_from T) (ok__law_lag T) (ok__law_widest T) hr hG, pure__law_loss_due T.ad⟩
theorem ok__law_loss_told (T : Fs P w K mg) : FnG P w K mg base 7 T.f__law_loss_told T.d__law_loss_told ["_law_script_here", "_law_left", "_law_right", "_law_prices", "_law_promise_here"] (sp__law_loss_told T.ad) :=
  fnG_of T.F__law_loss_told sc__law_loss_told (len__law_loss_told T.ad) fun cdv A outer s H hr hG => ⟨_, der__law_loss_told T (ok_loss_of_script__X T) hr hG, pure__law_loss_told T.ad⟩
theorem ok__law_script (T : Fs P w K mg) : FnG P w K mg base 4 T.f__law_script T.d__law_script ["_law_bag_here", "_law_left", "_law_right"] (sp__law_script_k58 T.ad) :=
  fnG_of T.F__law_script sc__law_script (len__law_script_k58 T.ad) fun cdv A outer s H hr hG => ⟨_, der__law_script T (ok__law_one__S T) (ok__law_take T) (ok__law_walk T) (ok__law_one T) hr hG, pure__law_script_k58 T.ad⟩
theorem ok_law (T : Fs P w K mg) : FnG P w K mg base 8 T.f_law T.d_law ["_law_script_here"] (spTop 63) :=
  fnG_of T.F_law sc_law (fun evs h Q ⟨ns, e, _⟩ => by rw [e]; rfl) fun cdv A outer s H hr hG => ⟨_, der_law T (ok__law_bag T) (ok__law_mixed T) (ok__law_alphabet T) (ok__law_price_table T) (ok__law_texts T) (ok_Prices___init__ T) (ok__law_behind T) (ok__law_leading T) (ok__law_alike T) (ok__law_one T) (ok__law_promise T) (ok__law_lag T) (ok__law_script T) (ok__law_loss_due T) (ok_loss_of_script T) (ok__law_loss_told T) (ok__law_take T) (ok_rest_least T) hr hG, pure_law_k58 T.ad⟩
end
def dD_moved : He.DefD := ⟨("moved", none), "moved", "moved", defArgs s_moved, defBody s_moved, defScope s_moved, [], []⟩
def dD_points : He.DefD := ⟨("points", none), "points", "points", defArgs s_points, defBody s_points, defScope s_points, [], []⟩
def dD_widest : He.DefD := ⟨("widest", none), "widest", "widest", defArgs s_widest, defBody s_widest, defScope s_widest, [], []⟩
def dD_is_allowed : He.DefD := ⟨("is_allowed", none), "is_allowed", "is_allowed", defArgs s_is_allowed, defBody s_is_allowed, defScope s_is_allowed, [], []⟩
def dD_can_be_done : He.DefD := ⟨("can_be_done", none), "can_be_done", "can_be_done", defArgs s_can_be_done, defBody s_can_be_done, defScope s_can_be_done, [], []⟩
def dD_first_wrong : He.DefD := ⟨("first_wrong", none), "first_wrong", "first_wrong", defArgs s_first_wrong, defBody s_first_wrong, defScope s_first_wrong, [], []⟩
def dD_Prices_drop : He.DefD := ⟨("Prices", some "drop"), "drop", "Prices.drop", defArgs s_Prices_drop, defBody s_Prices_drop, defScope s_Prices_drop, [], []⟩
def dD_Prices_put : He.DefD := ⟨("Prices", some "put"), "put", "Prices.put", defArgs s_Prices_put, defBody s_Prices_put, defScope s_Prices_put, [], []⟩
def dD_step_price : He.DefD := ⟨("step_price", none), "step_price", "step_price", defArgs s_step_price, defBody s_step_price, defScope s_step_price, [], []⟩
def dD_is_in_lag : He.DefD := ⟨("is_in_lag", none), "is_in_lag", "is_in_lag", defArgs s_is_in_lag, defBody s_is_in_lag, defScope s_is_in_lag, [], []⟩
def dD_all_points : He.DefD := ⟨("all_points", none), "all_points", "all_points", defArgs s_all_points, defBody s_all_points, defScope s_all_points, [], []⟩
def dD_steps_from : He.DefD := ⟨("steps_from", none), "steps_from", "steps_from", defArgs s_steps_from, defBody s_steps_from, defScope s_steps_from, [], []⟩
def dD_grid : He.DefD := ⟨("grid", none), "grid", "grid", defArgs s_grid, defBody s_grid, defScope s_grid, [], []⟩
def dD_rests : He.DefD := ⟨("rests", none), "rests", "rests", defArgs s_rests, defBody s_rests, defScope s_rests, [], []⟩
def dD_least : He.DefD := ⟨("least", none), "least", "least", defArgs s_least, defBody s_least, defScope s_least, [], []⟩
def dD_is_integer : He.DefD := ⟨("is_integer", none), "is_integer", "is_integer", defArgs s_is_integer, defBody s_is_integer, defScope s_is_integer, [], []⟩
def dD_is_between : He.DefD := ⟨("is_between", none), "is_between", "is_between", defArgs s_is_between, defBody s_is_between, defScope s_is_between, [], []⟩
def dD_is_letter : He.DefD := ⟨("is_letter", none), "is_letter", "is_letter", defArgs s_is_letter, defBody s_is_letter, defScope s_is_letter, [], []⟩
def dD_are_costs : He.DefD := ⟨("are_costs", none), "are_costs", "are_costs", defArgs s_are_costs, defBody s_are_costs, defScope s_are_costs, [], []⟩
def dD_is_price_table : He.DefD := ⟨("is_price_table", none), "is_price_table", "is_price_table", defArgs s_is_price_table, defBody s_is_price_table, defScope s_is_price_table, [], []⟩
def dD_Prices___init__ : He.DefD := ⟨("Prices", some "__init__"), "__init__", "Prices.__init__", defArgs s_Prices___init__, defBody s_Prices___init__, defScope s_Prices___init__, [], []⟩
def dD_price_so_far : He.DefD := ⟨("price_so_far", none), "price_so_far", "price_so_far", defArgs s_price_so_far, defBody s_price_so_far, defScope s_price_so_far, [], []⟩
def dD_rest_least : He.DefD := ⟨("rest_least", none), "rest_least", "rest_least", defArgs s_rest_least, defBody s_rest_least, defScope s_rest_least, [], []⟩
def dD_loss_of_script__X : He.DefD := ⟨("loss_of_script", none), "loss_of_script", "loss_of_script", defArgs s_loss_of_script__X, defBody s_loss_of_script__X, defScope s_loss_of_script__X, [], []⟩
def dD_loss_of_script : He.DefD := ⟨("loss_of_script", none), "loss_of_script", "loss_of_script", defArgs s_loss_of_script, defBody s_loss_of_script, defScope s_loss_of_script, [], []⟩
def dD__law_bag : He.DefD := ⟨("_law_bag", none), "_law_bag", "_law_bag", defArgs s__law_bag, defBody s__law_bag, defScope s__law_bag, [], []⟩
def dD__law_take : He.DefD := ⟨("_law_take", none), "_law_take", "_law_take", defArgs s__law_take, defBody s__law_take, defScope s__law_take, [], []⟩
def dD__law_one : He.DefD := ⟨("_law_one", none), "_law_one", "_law_one", defArgs s__law_one, defBody s__law_one, defScope s__law_one, [], []⟩
def dD__law_one__S : He.DefD := ⟨("_law_one", none), "_law_one", "_law_one", defArgs s__law_one__S, defBody s__law_one__S, defScope s__law_one__S, [], []⟩
def dD__law_mixed : He.DefD := ⟨("_law_mixed", none), "_law_mixed", "_law_mixed", defArgs s__law_mixed, defBody s__law_mixed, defScope s__law_mixed, [], []⟩
def dD__law_alphabet : He.DefD := ⟨("_law_alphabet", none), "_law_alphabet", "_law_alphabet", defArgs s__law_alphabet, defBody s__law_alphabet, defScope s__law_alphabet, [], []⟩
def dD__law_text : He.DefD := ⟨("_law_text", none), "_law_text", "_law_text", defArgs s__law_text, defBody s__law_text, defScope s__law_text, [], []⟩
def dD__law_full : He.DefD := ⟨("_law_full", none), "_law_full", "_law_full", defArgs s__law_full, defBody s__law_full, defScope s__law_full, [], []⟩
def dD__law_edited : He.DefD := ⟨("_law_edited", none), "_law_edited", "_law_edited", defArgs s__law_edited, defBody s__law_edited, defScope s__law_edited, [], []⟩
def dD__law_texts : He.DefD := ⟨("_law_texts", none), "_law_texts", "_law_texts", defArgs s__law_texts, defBody s__law_texts, defScope s__law_texts, [], []⟩
def dD__law_price_table : He.DefD := ⟨("_law_price_table", none), "_law_price_table", "_law_price_table", defArgs s__law_price_table, defBody s__law_price_table, defScope s__law_price_table, [], []⟩
def dD__law_promise : He.DefD := ⟨("_law_promise", none), "_law_promise", "_law_promise", defArgs s__law_promise, defBody s__law_promise, defScope s__law_promise, [], []⟩
def dD__law_steps : He.DefD := ⟨("_law_steps", none), "_law_steps", "_law_steps", defArgs s__law_steps, defBody s__law_steps, defScope s__law_steps, [], []⟩
def dD__law_walk : He.DefD := ⟨("_law_walk", none), "_law_walk", "_law_walk", defArgs s__law_walk, defBody s__law_walk, defScope s__law_walk, [], []⟩
def dD__law_costs : He.DefD := ⟨("_law_costs", none), "_law_costs", "_law_costs", defArgs s__law_costs, defBody s__law_costs, defScope s__law_costs, [], []⟩
def dD__law_alike : He.DefD := ⟨("_law_alike", none), "_law_alike", "_law_alike", defArgs s__law_alike, defBody s__law_alike, defScope s__law_alike, [], []⟩
def dD__law_lag : He.DefD := ⟨("_law_lag", none), "_law_lag", "_law_lag", defArgs s__law_lag, defBody s__law_lag, defScope s__law_lag, [], []⟩
def dD__law_behind : He.DefD := ⟨("_law_behind", none), "_law_behind", "_law_behind", defArgs s__law_behind, defBody s__law_behind, defScope s__law_behind, [], []⟩
def dD__law_leading : He.DefD := ⟨("_law_leading", none), "_law_leading", "_law_leading", defArgs s__law_leading, defBody s__law_leading, defScope s__law_leading, [], []⟩
def dD__law_paid : He.DefD := ⟨("_law_paid", none), "_law_paid", "_law_paid", defArgs s__law_paid, defBody s__law_paid, defScope s__law_paid, [], []⟩
def dD__law_spot : He.DefD := ⟨("_law_spot", none), "_law_spot", "_law_spot", defArgs s__law_spot, defBody s__law_spot, defScope s__law_spot, [], []⟩
def dD__law_price_from : He.DefD := ⟨("_law_price_from", none), "_law_price_from", "_law_price_from", defArgs s__law_price_from, defBody s__law_price_from, defScope s__law_price_from, [], []⟩
def dD__law_stops : He.DefD := ⟨("_law_stops", none), "_law_stops", "_law_stops", defArgs s__law_stops, defBody s__law_stops, defScope s__law_stops, [], []⟩
def dD__law_widest : He.DefD := ⟨("_law_widest", none), "_law_widest", "_law_widest", defArgs s__law_widest, defBody s__law_widest, defScope s__law_widest, [], []⟩
def dD__law_loss_due : He.DefD := ⟨("_law_loss_due", none), "_law_loss_due", "_law_loss_due", defArgs s__law_loss_due, defBody s__law_loss_due, defScope s__law_loss_due, [], []⟩
def dD__law_loss_told : He.DefD := ⟨("_law_loss_told", none), "_law_loss_told", "_law_loss_told", defArgs s__law_loss_told, defBody s__law_loss_told, defScope s__law_loss_told, [], []⟩
def dD__law_script : He.DefD := ⟨("_law_script", none), "_law_script", "_law_script", defArgs s__law_script, defBody s__law_script, defScope s__law_script, [], []⟩
def dD_law : He.DefD := ⟨("law", none), "law", "law", defArgs s_law, defBody s_law, defScope s_law, [], []⟩
def fn : List He.DefD := [dD_moved, dD_points, dD_widest, dD_is_allowed, dD_can_be_done, dD_first_wrong, dD_Prices_drop, dD_Prices_put, dD_step_price, dD_is_in_lag, dD_all_points, dD_steps_from, dD_grid, dD_rests, dD_least, dD_is_integer, dD_is_between, dD_is_letter, dD_are_costs, dD_is_price_table, dD_Prices___init__, dD_price_so_far, dD_rest_least, dD_loss_of_script__X, dD_loss_of_script, dD__law_bag, dD__law_take, dD__law_one, dD__law_one__S, dD__law_mixed, dD__law_alphabet, dD__law_text, dD__law_full, dD__law_edited, dD__law_texts, dD__law_price_table, dD__law_promise, dD__law_steps, dD__law_walk, dD__law_costs, dD__law_alike, dD__law_lag, dD__law_behind, dD__law_leading, dD__law_paid, dD__law_spot, dD__law_price_from, dD__law_stops, dD__law_widest, dD__law_loss_due, dD__law_loss_told, dD__law_script, dD_law]
def fa : List He.Fa := [.glo "moved", .glo "points", .glo "widest", .glo "is_allowed", .glo "can_be_done", .glo "first_wrong", .meth "Prices" "drop", .meth "Prices" "put", .glo "step_price", .glo "is_in_lag", .glo "all_points", .glo "steps_from", .glo "grid", .glo "rests", .glo "least", .glo "is_integer", .glo "is_between", .glo "is_letter", .glo "are_costs", .glo "is_price_table", .mkr "Prices", .glo "price_so_far", .glo "rest_least", .glo "loss_of_script", .glo "loss_of_script", .glo "_law_bag", .glo "_law_take", .glo "_law_one", .glo "_law_one", .glo "_law_mixed", .glo "_law_alphabet", .glo "_law_text", .glo "_law_full", .glo "_law_edited", .glo "_law_texts", .glo "_law_price_table", .glo "_law_promise", .glo "_law_steps", .glo "_law_walk", .glo "_law_costs", .glo "_law_alike", .glo "_law_lag", .glo "_law_behind", .glo "_law_leading", .glo "_law_paid", .glo "_law_spot", .glo "_law_price_from", .glo "_law_stops", .glo "_law_widest", .glo "_law_loss_due", .glo "_law_loss_told", .glo "_law_script", .glo "law", .glo "Prices", .glo "NotAScript", .free "abs", .free "all", .free "bool", .free "dict", .free "enumerate", .free "int", .free "isinstance", .free "len", .free "max", .free "min", .free "range", .free "repr", .free "sorted", .free "sum", .free "tuple", .free "zip", .str "DROP" "d", .int "GREATEST_LETTER" 1000000000, .int "GREATEST_PRICE" 9, .glo "IN_ORDER", .str "KEEP" "k", .glo "PLAIN", .str "PUT" "p"]
def ts : List He.Tab := []
def exB : PySem.W.Frag → Bool := fun K => sclsB K (He.ga K "Prices") && slotB K (He.ga K "Prices") "its_costs" 0 && isiOkB K (He.ga K "Prices") && excB PySem.Challenge.rw_saidearly_k58_rests_and_losses_of_script.prog K (He.ga K "NotAScript") "index" "index" && exmB K (He.ga K "NotAScript") (He.ga K "NotAScript") true && tupB K (He.ga K "IN_ORDER") [.str [107], .str [100], .str [112]] && tupB K (He.ga K "PLAIN") [.int 1, .int 1]
abbrev hk : PySem.W.Hook := hookY 5 fa fn ts exB
section
variable {w : World} {K : PySem.W.Frag} {h : Heap} {mg : Str → Option Value}
theorem fs_of (X : K.In h) (G : h.Ns mainGlobals mg) (c : He.SaysX fa fn ts [] exB w h K) : ∃ T : Fs PySem.Challenge.rw_saidearly_k58_rests_and_losses_of_script.prog w K mg, T.f_law = He.ga K "law" := by
  have cd := c.t.d
  have more := c.more
  obtain ⟨dd_moved, F_moved⟩ := cd.def_ 0 (d := dD_moved) rfl
  obtain ⟨dd_points, F_points⟩ := cd.def_ 1 (d := dD_points) rfl
  obtain ⟨dd_widest, F_widest⟩ := cd.def_ 2 (d := dD_widest) rfl
  obtain ⟨dd_is_allowed, F_is_allowed⟩ := cd.def_ 3 (d := dD_is_allowed) rfl
  obtain ⟨dd_can_be_done, F_can_be_done⟩ := cd.def_ 4 (d := dD_can_be_done) rfl
  obtain ⟨dd_first_wrong, F_first_wrong⟩ := cd.def_ 5 (d := dD_first_wrong) rfl
  obtain ⟨dd_Prices_drop, F_Prices_drop⟩ := cd.def_ 6 (d := dD_Prices_drop) rfl
  obtain ⟨dd_Prices_put, F_Prices_put⟩ := cd.def_ 7 (d := dD_Prices_put) rfl
  obtain ⟨dd_step_price, F_step_price⟩ := cd.def_ 8 (d := dD_step_price) rfl
  obtain ⟨dd_is_in_lag, F_is_in_lag⟩ := cd.def_ 9 (d := dD_is_in_lag) rfl
  obtain ⟨dd_all_points, F_all_points⟩ := cd.def_ 10 (d := dD_all_points) rfl
  obtain ⟨dd_steps_from, F_steps_from⟩ := cd.def_ 11 (d := dD_steps_from) rfl
  obtain ⟨dd_grid, F_grid⟩ := cd.def_ 12 (d := dD_grid) rfl
  obtain ⟨dd_rests, F_rests⟩ := cd.def_ 13 (d := dD_rests) rfl
  obtain ⟨dd_least, F_least⟩ := cd.def_ 14 (d := dD_least) rfl
  obtain ⟨dd_is_integer, F_is_integer⟩ := cd.def_ 15 (d := dD_is_integer) rfl
  obtain ⟨dd_is_between, F_is_between⟩ := cd.def_ 16 (d := dD_is_between) rfl
  obtain ⟨dd_is_letter, F_is_letter⟩ := cd.def_ 17 (d := dD_is_letter) rfl
  obtain ⟨dd_are_costs, F_are_costs⟩ := cd.def_ 18 (d := dD_are_costs) rfl
  obtain ⟨dd_is_price_table, F_is_price_table⟩ := cd.def_ 19 (d := dD_is_price_table) rfl
  obtain ⟨dd_Prices___init__, F_Prices___init__⟩ := cd.def_ 20 (d := dD_Prices___init__) rfl
  obtain ⟨dd_price_so_far, F_price_so_far⟩ := cd.def_ 21 (d := dD_price_so_far) rfl
  obtain ⟨dd_rest_least, F_rest_least⟩ := cd.def_ 22 (d := dD_rest_least) rfl
  obtain ⟨dd_loss_of_script__X, F_loss_of_script__X⟩ := cd.def_ 23 (d := dD_loss_of_script__X) rfl
  obtain ⟨dd_loss_of_script, F_loss_of_script⟩ := cd.def_ 24 (d := dD_loss_of_script) rfl
  obtain ⟨dd__law_bag, F__law_bag⟩ := cd.def_ 25 (d := dD__law_bag) rfl
  obtain ⟨dd__law_take, F__law_take⟩ := cd.def_ 26 (d := dD__law_take) rfl
  obtain ⟨dd__law_one, F__law_one⟩ := cd.def_ 27 (d := dD__law_one) rfl
  obtain ⟨dd__law_one__S, F__law_one__S⟩ := cd.def_ 28 (d := dD__law_one__S) rfl
  obtain ⟨dd__law_mixed, F__law_mixed⟩ := cd.def_ 29 (d := dD__law_mixed) rfl
  obtain ⟨dd__law_alphabet, F__law_alphabet⟩ := cd.def_ 30 (d := dD__law_alphabet) rfl
  obtain ⟨dd__law_text, F__law_text⟩ := cd.def_ 31 (d := dD__law_text) rfl
  obtain ⟨dd__law_full, F__law_full⟩ := cd.def_ 32 (d := dD__law_full) rfl
  obtain ⟨dd__law_edited, F__law_edited⟩ := cd.def_ 33 (d := dD__law_edited) rfl
  obtain ⟨dd__law_texts, F__law_texts⟩ := cd.def_ 34 (d := dD__law_texts) rfl
  obtain ⟨dd__law_price_table, F__law_price_table⟩ := cd.def_ 35 (d := dD__law_price_table) rfl
  obtain ⟨dd__law_promise, F__law_promise⟩ := cd.def_ 36 (d := dD__law_promise) rfl
  obtain ⟨dd__law_steps, F__law_steps⟩ := cd.def_ 37 (d := dD__law_steps) rfl
  obtain ⟨dd__law_walk, F__law_walk⟩ := cd.def_ 38 (d := dD__law_walk) rfl
  obtain ⟨dd__law_costs, F__law_costs⟩ := cd.def_ 39 (d := dD__law_costs) rfl
  obtain ⟨dd__law_alike, F__law_alike⟩ := cd.def_ 40 (d := dD__law_alike) rfl
  obtain ⟨dd__law_lag, F__law_lag⟩ := cd.def_ 41 (d := dD__law_lag) rfl
  obtain ⟨dd__law_behind, F__law_behind⟩ := cd.def_ 42 (d := dD__law_behind) rfl
  obtain ⟨dd__law_leading, F__law_leading⟩ := cd.def_ 43 (d := dD__law_leading) rfl
  obtain ⟨dd__law_paid, F__law_paid⟩ := cd.def_ 44 (d := dD__law_paid) rfl
  obtain ⟨dd__law_spot, F__law_spot⟩ := cd.def_ 45 (d := dD__law_spot) rfl
  obtain ⟨dd__law_price_from, F__law_price_from⟩ := cd.def_ 46 (d := dD__law_price_from) rfl
  obtain ⟨dd__law_stops, F__law_stops⟩ := cd.def_ 47 (d := dD__law_stops) rfl
  obtain ⟨dd__law_widest, F__law_widest⟩ := cd.def_ 48 (d := dD__law_widest) rfl
  obtain ⟨dd__law_loss_due, F__law_loss_due⟩ := cd.def_ 49 (d := dD__law_loss_due) rfl
  obtain ⟨dd__law_loss_told, F__law_loss_told⟩ := cd.def_ 50 (d := dD__law_loss_told) rfl
  obtain ⟨dd__law_script, F__law_script⟩ := cd.def_ 51 (d := dD__law_script) rfl
  obtain ⟨dd_law, F_law⟩ := cd.def_ 52 (d := dD_law) rfl
  have c_DROP : ∃ t, mg "DROP" = some (.str (S [100]) t) := by
    have q := He.str_ok X G (cd.fact 71 (f := .str "DROP" "d") rfl)
    have e : ("d" : Str) = S [100] := by decide +kernel
    rw [e] at q
    exact q
  have c_KEEP : ∃ t, mg "KEEP" = some (.str (S [107]) t) := by
    have q := He.str_ok X G (cd.fact 75 (f := .str "KEEP" "k") rfl)
    have e : ("k" : Str) = S [107] := by decide +kernel
    rw [e] at q
    exact q
  have c_PUT : ∃ t, mg "PUT" = some (.str (S [112]) t) := by
    have q := He.str_ok X G (cd.fact 77 (f := .str "PUT" "p") rfl)
    have e : ("p" : Str) = S [112] := by decide +kernel
    rw [e] at q
    exact q
  exact ⟨⟨⟨He.ga K "Book", He.ga K "Comparer", He.ga K "Watch", He.ga K "GainTable", He.ga K "GameTable", He.ga K "Lane", He.ga K "Machine", He.ga K "Nearest", He.ga K "Prices", He.ga K "Rulebook", He.ga K "Sender", He.ga K "Speaker", He.ga K "Standing", He.ga K "Writer", He.ga K "Tails", He.ga K "Teasing", He.ga K "VersusTable", He.ga K "WaitTable", He.ga K "TURNED", He.ga K "WORD_OF", He.ga K "WORDS", He.ga K "STEP_OF", He.ga K "AlreadyEnded", He.ga K "BadArrow", He.ga K "BadLine", He.ga K "BadRule", He.ga K "BeyondEnd", He.ga K "Broken", He.ga K "Contradiction", He.ga K "DoesNotFit", He.ga K "Ended", He.ga K "EndsShort", He.ga K "Finished", He.ga K "KeepNotShown", He.ga K "NeedsNoPromise", He.ga K "NoDeed", He.ga K "NoElder", He.ga K "NoRule", He.ga K "NoSaying", He.ga K "NoStand", He.ga K "NoSuchLetter", He.ga K "NoTick", He.ga K "NoWait", He.ga K "NotARing", He.ga K "NotAScript", He.ga K "NotAWalk", He.ga K "NotClaimed", He.ga K "NotComparable", He.ga K "NotHeights", He.ga K "NotLet", He.ga K "NotOnRim", He.ga K "NotSent", He.ga K "NotWhole", He.ga K "Nothing", He.ga K "Stopped", He.ga K "TooMany", He.ga K "UnderLag", He.ga K "UnderTotal", He.ga K "Unsettled", He.ga K "Wrong"⟩, He.fAd K ("moved", none), dd_moved, F_moved, He.glo_ok X G (cd.fact 0 (f := .glo "moved") rfl), He.fAd K ("points", none), dd_points, F_points, He.glo_ok X G (cd.fact 1 (f := .glo "points") rfl), He.fAd K ("widest", none), dd_widest, F_widest, He.glo_ok X G (cd.fact 2 (f := .glo "widest") rfl), He.fAd K ("is_allowed", none), dd_is_allowed, F_is_allowed, He.glo_ok X G (cd.fact 3 (f := .glo "is_allowed") rfl), He.fAd K ("can_be_done", none), dd_can_be_done, F_can_be_done, He.glo_ok X G (cd.fact 4 (f := .glo "can_be_done") rfl), He.fAd K ("first_wrong", none), dd_first_wrong, F_first_wrong, He.glo_ok X G (cd.fact 5 (f := .glo "first_wrong") rfl), He.fAd K ("Prices", some "drop"), dd_Prices_drop, F_Prices_drop, He.meth_ok (cd.fact 6 (f := .meth "Prices" "drop") rfl), He.fAd K ("Prices", some "put"), dd_Prices_put, F_Prices_put, He.meth_ok (cd.fact 7 (f := .meth "Prices" "put") rfl), He.fAd K ("step_price", none), dd_step_price, F_step_price, He.glo_ok X G (cd.fact 8 (f := .glo "step_price") rfl), He.fAd K ("is_in_lag", none), dd_is_in_lag, F_is_in_lag, He.glo_ok X G (cd.fact 9 (f := .glo "is_in_lag") rfl), He.fAd K ("all_points", none), dd_all_points, F_all_points, He.glo_ok X G (cd.fact 10 (f := .glo "all_points") rfl), He.fAd K ("steps_from", none), dd_steps_from, F_steps_from, He.glo_ok X G (cd.fact 11 (f := .glo "steps_from") rfl), He.fAd K ("grid", none), dd_grid, F_grid, He.glo_ok X G (cd.fact 12 (f := .glo "grid") rfl), He.fAd K ("rests", none), dd_rests, F_rests, He.glo_ok X G (cd.fact 13 (f := .glo "rests") rfl), He.fAd K ("least", none), dd_least, F_least, He.glo_ok X G (cd.fact 14 (f := .glo "least") rfl), He.fAd K ("is_integer", none), dd_is_integer, F_is_integer, He.glo_ok X G (cd.fact 15 (f := .glo "is_integer") rfl), He.fAd K ("is_between", none), dd_is_between, F_is_between, He.glo_ok X G (cd.fact 16 (f := .glo "is_between") rfl), He.fAd K ("is_letter", none), dd_is_letter, F_is_letter, He.glo_ok X G (cd.fact 17 (f := .glo "is_letter") rfl), He.fAd K ("are_costs", none), dd_are_costs, F_are_costs, He.glo_ok X G (cd.fact 18 (f := .glo "are_costs") rfl), He.fAd K ("is_price_table", none), dd_is_price_table, F_is_price_table, He.glo_ok X G (cd.fact 19 (f := .glo "is_price_table") rfl), He.fAd K ("Prices", some "__init__"), dd_Prices___init__, F_Prices___init__, He.mkr_ok (cd.fact 20 (f := .mkr "Prices") rfl), isiOkB_ok (He.ba (He.ba (He.ba (He.ba (He.ba more).1).1).1).1).2, He.fAd K ("price_so_far", none), dd_price_so_far, F_price_so_far, He.glo_ok X G (cd.fact 21 (f := .glo "price_so_far") rfl), He.fAd K ("rest_least", none), dd_rest_least, F_rest_least, He.glo_ok X G (cd.fact 22 (f := .glo "rest_least") rfl), He.fAd K ("loss_of_script", none), dd_loss_of_script__X, F_loss_of_script__X, He.glo_ok X G (cd.fact 23 (f := .glo "loss_of_script") rfl), He.fAd K ("loss_of_script", none), dd_loss_of_script, F_loss_of_script, He.glo_ok X G (cd.fact 24 (f := .glo "loss_of_script") rfl), He.fAd K ("_law_bag", none), dd__law_bag, F__law_bag, He.glo_ok X G (cd.fact 25 (f := .glo "_law_bag") rfl), He.fAd K ("_law_take", none), dd__law_take, F__law_take, He.glo_ok X G (cd.fact 26 (f := .glo "_law_take") rfl), He.fAd K ("_law_one", none), dd__law_one, F__law_one, He.glo_ok X G (cd.fact 27 (f := .glo "_law_one") rfl), He.fAd K ("_law_one", none), dd__law_one__S, F__law_one__S, He.glo_ok X G (cd.fact 28 (f := .glo "_law_one") rfl), He.fAd K ("_law_mixed", none), dd__law_mixed, F__law_mixed, He.glo_ok X G (cd.fact 29 (f := .glo "_law_mixed") rfl), He.fAd K ("_law_alphabet", none), dd__law_alphabet, F__law_alphabet, He.glo_ok X G (cd.fact 30 (f := .glo "_law_alphabet") rfl), He.fAd K ("_law_text", none), dd__law_text, F__law_text, He.glo_ok X G (cd.fact 31 (f := .glo "_law_text") rfl), He.fAd K ("_law_full", none), dd__law_full, F__law_full, He.glo_ok X G (cd.fact 32 (f := .glo "_law_full") rfl), He.fAd K ("_law_edited", none), dd__law_edited, F__law_edited, He.glo_ok X G (cd.fact 33 (f := .glo "_law_edited") rfl), He.fAd K ("_law_texts", none), dd__law_texts, F__law_texts, He.glo_ok X G (cd.fact 34 (f := .glo "_law_texts") rfl), He.fAd K ("_law_price_table", none), dd__law_price_table, F__law_price_table, He.glo_ok X G (cd.fact 35 (f := .glo "_law_price_table") rfl), He.fAd K ("_law_promise", none), dd__law_promise, F__law_promise, He.glo_ok X G (cd.fact 36 (f := .glo "_law_promise") rfl), He.fAd K ("_law_steps", none), dd__law_steps, F__law_steps, He.glo_ok X G (cd.fact 37 (f := .glo "_law_steps") rfl), He.fAd K ("_law_walk", none), dd__law_walk, F__law_walk, He.glo_ok X G (cd.fact 38 (f := .glo "_law_walk") rfl), He.fAd K ("_law_costs", none), dd__law_costs, F__law_costs, He.glo_ok X G (cd.fact 39 (f := .glo "_law_costs") rfl), He.fAd K ("_law_alike", none), dd__law_alike, F__law_alike, He.glo_ok X G (cd.fact 40 (f := .glo "_law_alike") rfl), He.fAd K ("_law_lag", none), dd__law_lag, F__law_lag, He.glo_ok X G (cd.fact 41 (f := .glo "_law_lag") rfl), He.fAd K ("_law_behind", none), dd__law_behind, F__law_behind, He.glo_ok X G (cd.fact 42 (f := .glo "_law_behind") rfl), He.fAd K ("_law_leading", none), dd__law_leading, F__law_leading, He.glo_ok X G (cd.fact 43 (f := .glo "_law_leading") rfl), He.fAd K ("_law_paid", none), dd__law_paid, F__law_paid, He.glo_ok X G (cd.fact 44 (f := .glo "_law_paid") rfl), He.fAd K ("_law_spot", none), dd__law_spot, F__law_spot, He.glo_ok X G (cd.fact 45 (f := .glo "_law_spot") rfl), He.fAd K ("_law_price_from", none), dd__law_price_from, F__law_price_from, He.glo_ok X G (cd.fact 46 (f := .glo "_law_price_from") rfl), He.fAd K ("_law_stops", none), dd__law_stops, F__law_stops, He.glo_ok X G (cd.fact 47 (f := .glo "_law_stops") rfl), He.fAd K ("_law_widest", none), dd__law_widest, F__law_widest, He.glo_ok X G (cd.fact 48 (f := .glo "_law_widest") rfl), He.fAd K ("_law_loss_due", none), dd__law_loss_due, F__law_loss_due, He.glo_ok X G (cd.fact 49 (f := .glo "_law_loss_due") rfl), He.fAd K ("_law_loss_told", none), dd__law_loss_told, F__law_loss_told, He.glo_ok X G (cd.fact 50 (f := .glo "_law_loss_told") rfl), He.fAd K ("_law_script", none), dd__law_script, F__law_script, He.glo_ok X G (cd.fact 51 (f := .glo "_law_script") rfl), He.fAd K ("law", none), dd_law, F_law, He.glo_ok X G (cd.fact 52 (f := .glo "law") rfl), He.glo_ok X G (cd.fact 53 (f := .glo "Prices") rfl), sclsB_ok (He.ba (He.ba (He.ba (He.ba (He.ba (He.ba more).1).1).1).1).1).1, slotB_ok (He.ba (He.ba (He.ba (He.ba (He.ba (He.ba more).1).1).1).1).1).2, He.glo_ok X G (cd.fact 54 (f := .glo "NotAScript") rfl), excB_ok (He.ba (He.ba (He.ba (He.ba more).1).1).1).2, exmB_ok (He.ba (He.ba (He.ba more).1).1).2, He.free_ok X G (cd.fact 55 (f := .free "abs") rfl), He.free_ok X G (cd.fact 56 (f := .free "all") rfl), He.free_ok X G (cd.fact 57 (f := .free "bool") rfl), He.free_ok X G (cd.fact 58 (f := .free "dict") rfl), He.free_ok X G (cd.fact 59 (f := .free "enumerate") rfl), He.free_ok X G (cd.fact 60 (f := .free "int") rfl), He.free_ok X G (cd.fact 61 (f := .free "isinstance") rfl), He.free_ok X G (cd.fact 62 (f := .free "len") rfl), He.free_ok X G (cd.fact 63 (f := .free "max") rfl), He.free_ok X G (cd.fact 64 (f := .free "min") rfl), He.free_ok X G (cd.fact 65 (f := .free "range") rfl), He.free_ok X G (cd.fact 66 (f := .free "repr") rfl), He.free_ok X G (cd.fact 67 (f := .free "sorted") rfl), He.free_ok X G (cd.fact 68 (f := .free "sum") rfl), He.free_ok X G (cd.fact 69 (f := .free "tuple") rfl), He.free_ok X G (cd.fact 70 (f := .free "zip") rfl), c_DROP, He.int_ok X G (cd.fact 72 (f := .int "GREATEST_LETTER" 1000000000) rfl), He.int_ok X G (cd.fact 73 (f := .int "GREATEST_PRICE" 9) rfl), He.ga K "IN_ORDER", He.glo_ok X G (cd.fact 74 (f := .glo "IN_ORDER") rfl), tupB_ok (He.ba (He.ba more).1).2, c_KEEP, He.ga K "PLAIN", He.glo_ok X G (cd.fact 76 (f := .glo "PLAIN") rfl), tupB_ok (He.ba more).2, c_PUT⟩, rfl⟩
end
end Y
open PySem PySem.W PySem.Calls PyProof.Rows
theorem PySem.Challenge.cw_saidearly_k58_rests_and_losses_of_script_holds : PySem.Challenge.rw_saidearly_k58_rests_and_losses_of_script.Holds := by
  w_on; o_law
  o_head (Y.hk)
  case hw => w_witness2
  case hc =>
    refine Y.walkG (l := PySem.Challenge.rw_saidearly_k58_rests_and_losses_of_script) (n := 63) (k := 8) (x := "_law_script_here") rfl (by decide) (by kernel_rfl) ⟨rfl, by decide, by decide⟩ ?F
    intro w mg fa h Y G hmg0
    obtain ⟨K, KX, c⟩ := Y
    have hmg : mg ("law" : PySem.Str) = some (.ref fa) := by
      have e : (HandSHeadRun.topDef (OpenLaw.row PySem.Challenge.rw_saidearly_k58_rests_and_losses_of_script).prog 67).name = ("law" : PySem.Str) := by kernel_rfl
      rw [← e]
      exact hmg0
    obtain ⟨T, eT⟩ := Y.fs_of KX G c
    have e := T.g_law.symm.trans hmg
    have e2 : T.f_law = fa := by injection e with e; injection e
    subst e2
    have b := L2.FunD.bindsA (ps := ["_law_script_here"]) T.F_law fun _ _ _ _ _ _ us hl => match us, hl with | [_], _ => rfl
    exact ⟨K, T.d_law, KX, fun s u => b s [u] rfl, fun base _ _ => Y.ok_law T⟩

