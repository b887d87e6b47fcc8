import PyProof.Rows.All
import Wide.All
import OpenK.AllK
import Wide.FinOn
import HandS.Base
import HandS.Call
import HandS.List
import HandS.Comp
import HandS.Dict
import HandS.Iter
import HandS.Text
import HandS.More
import HandS.Exc
import HandS.Wide
import HandS.TupAny
import KE.DataEq
import HandS.Words
import HandS.Defaults
import HandS.Ends
import HandS.HeadEnd
import HandS.TupMul
import HandS.WordsDict
import HandS.RaiseMore
import KE.GoesNew
import KE.GoesEnum
import PyProof.ReprLen
import HandS.Head0
import HandS.Head1
import HandS.Head2
import HandS.HeadHook1
import HandS.HeadHook2
import HandS.HeadHook3
import HandS.HeadHook4
import KE.KStateDown
import PySem.Challenge.RW_saidearly_k16_points_kept_widest_turned
set_option Elab.async false
set_option linter.all false
set_option maxRecDepth 100000
set_option maxHeartbeats 0
namespace Y
open PySem PySem.Spec PyProof.Rows L2

/-- values as trees; what may change stands in a heap of its own, told by its number -/
inductive EV where
  | non | bl (b : Bool) | int (i : Int) | str (s : List Nat) | tup (xs : List EV) | ref (r : Nat) | adr (a : Addr) | ty (n : String)
inductive EO where
  | lst (xs : List EV) | frz (xs : List EV) | dic (kvs : List (EV × EV)) | ins (C : Addr) (fs : List (Str × EV)) | gone
abbrev En := List (Option EV)
abbrev EH := List EO
abbrev EK := EV → EH → Prop
abbrev LT := En → EH → EK → Prop
abbrev S (l : List Nat) : Str := ⟨l.toArray⟩

/-- no tuple stands there, no locked list -/
def NoTup (u : HO) : Prop := (∀ xs, u ≠ .tup xs) ∧ (∀ q xs, u ≠ .frz q (.tup xs)) ∧ ∀ q xs, u ≠ .frz q (.lst xs)
/-- a list that is read alone: locked, or written by the top -/
def FrzL (K : PySem.W.Frag) (H : Hp) (a : Addr) (xs : List V) : Prop := (∃ o, H a = some (.frz o (.lst xs))) ∨
  ∃ (o : Obj) (its : Array Value) (n : Nat), K.lookup a = some o ∧ o.cls = .type "list" ∧ o.dict = none ∧ o.data = .seq its n ∧ its.size ≤ sizeLine ∧ Vals xs its.toList
theorem FrzL.sql {K : PySem.W.Frag} {H : Hp} {a : Addr} {xs : List V} (h : FrzL K H a xs) : SqL K H a xs := by
  rcases h with ⟨o, h⟩ | h
  · exact .inl (.inr ⟨o, h⟩)
  · exact .inr h
def isF : EO → Bool
  | .frz _ => true
  | _ => false
section rel
variable (K : PySem.W.Frag) (m : Nat → Addr) (n : Nat) (H : Hp)
mutual
def RelE : EV → V → Prop
  | .non, v => v = .non
  | .bl b, v => v = .bl b
  | .int i, v => v = .int i
  | .str s, v => v = .str (S s)
  | .tup xs, v => ∃ a vs, v = .ref a ∧ SqT K H a vs ∧ RelEs xs vs
  | .ref r, v => r < n ∧ v = .ref (m r)
  | .adr a, v => v = .ref a
  | .ty t, v => v = .ty t
def RelEs : List EV → List V → Prop
  | [], vs => vs = []
  | x :: xs, vs => ∃ v r, vs = v :: r ∧ RelE x v ∧ RelEs xs r
end
def RelKV : List (EV × EV) → List (L2.Key × V) → Prop
  | [], l => l = []
  | (k, x) :: r, l => ∃ k' v l', l = (k', v) :: l' ∧ RelE K m n H k (kV k') ∧ RelE K m n H x v ∧ RelKV r l'
def RelFs : List (Str × EV) → List (Str × V) → Prop
  | [], l => l = []
  | (f, x) :: r, l => ∃ v l', l = (f, v) :: l' ∧ RelE K m n H x v ∧ RelFs r l'
def RelO : EO → Addr → Prop
  | .lst xs, a => ∃ vs, H a = some (.lst vs) ∧ RelEs K m n H xs vs
  | .frz xs, a => ∃ vs, FrzL K H a vs ∧ RelEs K m n H xs vs
  | .dic kvs, a => ∃ l, H a = some (.dK l) ∧ RelKV K m n H kvs l
  | .ins C fs, a => ∃ dx l, H a = some (.ins C dx l) ∧ RelFs K m n H fs l
  | .gone, a => ∃ o, H a = some o ∧ NoTup o
end rel
structure RelH (K : PySem.W.Frag) (m : Nat → Addr) (h : EH) (H : Hp) : Prop where
  obj : ∀ r o, h[r]? = some o → RelO K m h.length H o (m r)
  inj : ∀ r q o u, h[r]? = some o → h[q]? = some u → isF o = false → isF u = false → m r = m q → r = q
def RelN (K : PySem.W.Frag) (m : Nat → Addr) (n : Nat) (H : Hp) (env : En) (σ : L2.St) : Prop :=
  env.length = σ.length ∧ ∀ (i : Nat) (v : EV), env[i]? = some (some v) → ∃ x, σ[i]? = some (some x) ∧ RelE K m n H v x
structure Ex (K : PySem.W.Frag) (m : Nat → Addr) (n : Nat) (H : Hp) (m' : Nat → Addr) (n' : Nat) (H' : Hp) : Prop where
  le : n ≤ n'
  eq : ∀ r, r < n → m' r = m r
  tup : ∀ a xs, SqT K H a xs → SqT K H' a xs

section
variable {K : PySem.W.Frag} {m m' m2 : Nat → Addr} {n n' n2 : Nat} {H H' H2 : Hp}
theorem Ex.refl : Ex K m n H m n H := ⟨Nat.le_refl _, fun _ _ => rfl, fun _ _ h => h⟩
theorem Ex.trans (a : Ex K m n H m' n' H') (b : Ex K m' n' H' m2 n2 H2) : Ex K m n H m2 n2 H2 :=
  ⟨Nat.le_trans a.le b.le, fun r h => (b.eq r (Nat.lt_of_lt_of_le h a.le)).trans (a.eq r h), fun x xs h => b.tup x xs (a.tup x xs h)⟩
mutual
theorem RelE.ex (E : Ex K m n H m' n' H') : ∀ (e : EV) (v : V), RelE K m n H e v → RelE K m' n' H' e v
  | .non, v, h => by rw [RelE] at h ⊢; exact h
  | .bl _, v, h => by rw [RelE] at h ⊢; exact h
  | .int _, v, h => by rw [RelE] at h ⊢; exact h
  | .str _, v, h => by rw [RelE] at h ⊢; exact h
  | .adr _, v, h => by rw [RelE] at h ⊢; exact h
  | .ty _, v, h => by rw [RelE] at h ⊢; exact h
  | .ref r, v, h => by
    rw [RelE] at h ⊢
    exact ⟨Nat.lt_of_lt_of_le h.1 E.le, by rw [E.eq r h.1]; exact h.2⟩
  | .tup xs, v, h => by
    rw [RelE] at h ⊢
    obtain ⟨a, vs, e, q, r⟩ := h
    exact ⟨a, vs, e, E.tup a vs q, RelEs.ex E xs vs r⟩
theorem RelEs.ex (E : Ex K m n H m' n' H') : ∀ (es : List EV) (vs : List V), RelEs K m n H es vs → RelEs K m' n' H' es vs
  | [], vs, h => by rw [RelEs] at h ⊢; exact h
  | x :: xs, vs, h => by
    rw [RelEs] at h ⊢
    obtain ⟨v, r, e, q, t⟩ := h
    exact ⟨v, r, e, RelE.ex E x v q, RelEs.ex E xs r t⟩
end
theorem RelKV.ex (E : Ex K m n H m' n' H') : ∀ (l : List (EV × EV)) (l' : List (L2.Key × V)), RelKV K m n H l l' → RelKV K m' n' H' l l'
  | [], l', h => h
  | (k, x) :: r, l', h => by
    obtain ⟨k', v, l2, e, a, b, c⟩ := h
    exact ⟨k', v, l2, e, RelE.ex E _ _ a, RelE.ex E _ _ b, RelKV.ex E r l2 c⟩
theorem RelFs.ex (E : Ex K m n H m' n' H') : ∀ (l : List (Str × EV)) (l' : List (Str × V)), RelFs K m n H l l' → RelFs K m' n' H' l l'
  | [], l', h => h
  | (k, x) :: r, l', h => by
    obtain ⟨v, l2, e, b, c⟩ := h
    exact ⟨v, l2, e, RelE.ex E _ _ b, RelFs.ex E r l2 c⟩
theorem RelN.ex (E : Ex K m n H m' n' H') {env : En} {σ : L2.St} (R : RelN K m n H env σ) : RelN K m' n' H' env σ :=
  ⟨R.1, fun i v h => let ⟨x, a, b⟩ := R.2 i v h; ⟨x, a, RelE.ex E _ _ b⟩⟩
theorem RelO.ex (E : Ex K m n H m' n' H') {o : EO} {a : Addr} (he : H' a = H a) (R : RelO K m n H o a) : RelO K m' n' H' o a := by
  cases o with
  | lst xs => obtain ⟨vs, e, r⟩ := R; exact ⟨vs, he.trans e, RelEs.ex E _ _ r⟩
  | frz xs =>
    obtain ⟨vs, e, r⟩ := R
    refine ⟨vs, ?_, RelEs.ex E _ _ r⟩
    rcases e with ⟨o, e⟩ | e
    · exact .inl ⟨o, he.trans e⟩
    · exact .inr e
  | dic xs => obtain ⟨vs, e, r⟩ := R; exact ⟨vs, he.trans e, RelKV.ex E _ _ r⟩
  | ins C fs => obtain ⟨dx, vs, e, r⟩ := R; exact ⟨dx, vs, he.trans e, RelFs.ex E _ _ r⟩
  | gone => obtain ⟨o, e, r⟩ := R; exact ⟨o, he.trans e, r⟩
/-- what stands at an object's address is there, and is no tuple -/
theorem RelO.there {o : EO} {a : Addr} (R : RelO K m n H o a) (hf : isF o = false) : ∃ u, H a = some u ∧ NoTup u := by
  cases o with
  | lst xs => obtain ⟨vs, e, r⟩ := R; exact ⟨_, e, fun _ z => (nomatch z), fun _ _ z => (nomatch z), fun _ _ z => nomatch z⟩
  | frz xs => cases hf
  | dic xs => obtain ⟨vs, e, r⟩ := R; exact ⟨_, e, fun _ z => (nomatch z), fun _ _ z => (nomatch z), fun _ _ z => nomatch z⟩
  | ins C fs => obtain ⟨dx, vs, e, r⟩ := R; exact ⟨_, e, fun _ z => (nomatch z), fun _ _ z => (nomatch z), fun _ _ z => nomatch z⟩
  | gone => obtain ⟨o, e, r⟩ := R; exact ⟨o, e, r⟩
/-- kept, whatever comes to stand at p: p was free, or held what can be changed -/
theorem RelO.off (E : Ex K m n H m' n' H') {o : EO} {a p : Addr} (R : RelO K m n H o a) (hp : ∀ u, H p = some u → NoTup u) (h : isF o = false → a ≠ p) (he : a ≠ p → H' a = H a) : RelO K m' n' H' o a := by
  by_cases z : a = p
  · subst z
    cases o with
    | frz xs =>
      obtain ⟨vs, e, r⟩ := R
      refine ⟨vs, ?_, RelEs.ex E _ _ r⟩
      rcases e with ⟨o, e⟩ | e
      · exact absurd rfl ((hp _ e).2.2 o vs)
      · exact .inr e
    | _ => exact absurd rfl (h rfl)
  · exact R.ex E (he z)
theorem RelEs.length : ∀ {es : List EV} {vs : List V}, RelEs K m n H es vs → es.length = vs.length
  | [], vs, h => by rw [RelEs] at h; subst h; rfl
  | x :: xs, vs, h => by
    rw [RelEs] at h
    obtain ⟨v, r, e, _, t⟩ := h
    subst e
    simp [RelEs.length t]
theorem RelEs.at : ∀ {es : List EV} {vs : List V} {i : Nat} {x : EV}, RelEs K m n H es vs → es[i]? = some x → ∃ v, vs[i]? = some v ∧ RelE K m n H x v
  | [], vs, i, x, h, e => by simp at e
  | y :: ys, vs, 0, x, h, e => by
    rw [RelEs] at h
    obtain ⟨v, r, rfl, q, t⟩ := h
    simp at e; subst e
    exact ⟨v, rfl, q⟩
  | y :: ys, vs, i + 1, x, h, e => by
    rw [RelEs] at h
    obtain ⟨v, r, rfl, q, t⟩ := h
    obtain ⟨u, a, b⟩ := RelEs.at (i := i) (x := x) t (by simpa using e)
    exact ⟨u, by simpa using a, b⟩
theorem RelEs.app : ∀ {es fs : List EV} {vs us : List V}, RelEs K m n H es vs → RelEs K m n H fs us → RelEs K m n H (es ++ fs) (vs ++ us)
  | [], fs, vs, us, h, g => by rw [RelEs] at h; subst h; exact g
  | y :: ys, fs, vs, us, h, g => by
    rw [RelEs] at h
    obtain ⟨v, r, rfl, q, t⟩ := h
    rw [List.cons_append, List.cons_append, RelEs]
    exact ⟨v, r ++ us, rfl, q, RelEs.app t g⟩
theorem RelEs.nil : RelEs K m n H [] [] := by rw [RelEs]
theorem RelEs.cons {x : EV} {v : V} {xs : List EV} {vs : List V} (a : RelE K m n H x v) (b : RelEs K m n H xs vs) : RelEs K m n H (x :: xs) (v :: vs) := by
  rw [RelEs]; exact ⟨v, vs, rfl, a, b⟩
theorem RelEs.one {x : EV} {v : V} (a : RelE K m n H x v) : RelEs K m n H [x] [v] := .cons a .nil
theorem RelEs.take : ∀ {es : List EV} {vs : List V} (k : Nat), RelEs K m n H es vs → RelEs K m n H (es.take k) (vs.take k)
  | _, _, 0, _ => by simpa using RelEs.nil
  | [], vs, k + 1, h => by rw [RelEs] at h; subst h; simpa using RelEs.nil
  | y :: ys, vs, k + 1, h => by
    rw [RelEs] at h
    obtain ⟨v, r, rfl, q, t⟩ := h
    rw [List.take_succ_cons, List.take_succ_cons]
    exact .cons q (RelEs.take k t)
theorem RelEs.drop : ∀ {es : List EV} {vs : List V} (k : Nat), RelEs K m n H es vs → RelEs K m n H (es.drop k) (vs.drop k)
  | _, _, 0, h => by simpa using h
  | [], vs, k + 1, h => by rw [RelEs] at h; subst h; simpa using RelEs.nil
  | y :: ys, vs, k + 1, h => by
    rw [RelEs] at h
    obtain ⟨v, r, rfl, q, t⟩ := h
    rw [List.drop_succ_cons, List.drop_succ_cons]
    exact RelEs.drop k t
theorem RelEs.set {x : EV} {v : V} (a : RelE K m n H x v) : ∀ {es : List EV} {vs : List V} (k : Nat), RelEs K m n H es vs → RelEs K m n H (es.set k x) (vs.set k v)
  | [], vs, k, h => by rw [RelEs] at h; subst h; simpa using RelEs.nil
  | y :: ys, vs, 0, h => by
    rw [RelEs] at h
    obtain ⟨w, r, rfl, q, t⟩ := h
    exact .cons a t
  | y :: ys, vs, k + 1, h => by
    rw [RelEs] at h
    obtain ⟨w, r, rfl, q, t⟩ := h
    exact .cons q (RelEs.set a k t)
theorem RelEs.reverse : ∀ {es : List EV} {vs : List V}, RelEs K m n H es vs → RelEs K m n H es.reverse vs.reverse
  | [], vs, h => by rw [RelEs] at h; subst h; simpa using RelEs.nil
  | y :: ys, vs, h => by
    rw [RelEs] at h
    obtain ⟨w, r, rfl, q, t⟩ := h
    rw [List.reverse_cons, List.reverse_cons]
    exact RelEs.app (RelEs.reverse t) (.one q)

theorem sqT_upd {a p : Addr} {xs : List V} {o : HO} (h : SqT K H a xs) (hp : ∀ u, H p = some u → NoTup u) : SqT K (upd H p o) a xs := by
  rcases h with h | h
  · refine .inl ?_
    have ne : a ≠ p := by
      rintro rfl
      rcases h with h | ⟨q, h⟩
      · exact (hp _ h).1 _ rfl
      · exact (hp _ h).2.1 _ _ rfl
    rcases h with h | ⟨q, h⟩
    · exact .inl (by rw [upd_ne ne]; exact h)
    · exact .inr ⟨q, by rw [upd_ne ne]; exact h⟩
  · exact .inr h
theorem free_no {p : Addr} (hp : H p = none) : ∀ u, H p = some u → NoTup u := fun u e => by rw [hp] at e; cases e
/-- a tuple comes to stand -/
theorem Ex.tup1 {p : Addr} {o : HO} (hp : H p = none) : Ex K m n H m n (upd H p o) :=
  ⟨Nat.le_refl _, fun _ _ => rfl, fun a xs h => sqT_upd h (free_no hp)⟩
theorem RelH.tup {h : EH} {p : Addr} {o : HO} (R : RelH K m h H) (hp : H p = none) : RelH K m h (upd H p o) := by
  refine ⟨fun r e hr => ?_, R.inj⟩
  have q := R.obj r e hr
  refine q.off (Ex.tup1 hp) (free_no hp) (fun hf => ?_) fun z => upd_ne z
  obtain ⟨u, hu, _⟩ := q.there hf
  exact ne_of_none hu hp
/-- a new object -/
def mput (m : Nat → Addr) (n : Nat) (p : Addr) : Nat → Addr := fun r => if r = n then p else m r
theorem mput_lt {p : Addr} {r : Nat} (h : r < n) : mput m n p r = m r := if_neg (Nat.ne_of_lt h)
theorem mput_at {p : Addr} : mput m n p n = p := if_pos rfl
theorem Ex.new {h : EH} {p : Addr} {o : HO} {e : EO} (hp : H p = none) : Ex K m h.length H (mput m h.length p) (h ++ [e]).length (upd H p o) :=
  ⟨by simp, fun r hr => mput_lt hr, fun a xs q => sqT_upd q (free_no hp)⟩
theorem app_cases {h : EH} {e u : EO} {r : Nat} (hr : (h ++ [e])[r]? = some u) : (r < h.length ∧ h[r]? = some u) ∨ (r = h.length ∧ u = e) := by
  by_cases q : r < h.length
  · rw [List.getElem?_append_left q] at hr
    exact .inl ⟨q, hr⟩
  · rw [List.getElem?_append_right (by omega)] at hr
    have : r - h.length = 0 := by
      have := (List.getElem?_eq_some_iff.mp hr).1
      simp at this; omega
    rw [this] at hr
    simp at hr
    exact .inr ⟨by omega, hr.symm⟩
theorem RelH.new {h : EH} {p : Addr} {o : HO} {e : EO} (R : RelH K m h H) (hp : H p = none)
    (new : RelO K (mput m h.length p) (h ++ [e]).length (upd H p o) e p) : RelH K (mput m h.length p) (h ++ [e]) (upd H p o) := by
  have there : ∀ r u, h[r]? = some u → isF u = false → m r ≠ p := fun r u hr hf => by
    obtain ⟨w, hw, _⟩ := (R.obj r u hr).there hf
    exact ne_of_none hw hp
  refine ⟨fun r u hr => ?_, fun r q u v hr hq fu fv z => ?_⟩
  · rcases app_cases hr with ⟨q, hr⟩ | ⟨rfl, rfl⟩
    · rw [mput_lt q]
      exact (R.obj r u hr).off (Ex.new hp) (free_no hp) (there r u hr) fun z => upd_ne z
    · rw [mput_at]; exact new
  · rcases app_cases hr with ⟨a, hr'⟩ | ⟨a, a'⟩ <;> rcases app_cases hq with ⟨b, hq'⟩ | ⟨b, b'⟩
    · rw [mput_lt a, mput_lt b] at z; exact R.inj r q u v hr' hq' fu fv z
    · rw [b, mput_lt a, mput_at] at z; exact absurd z (there r u hr' fu)
    · rw [a, mput_lt b, mput_at] at z; exact absurd z.symm (there q v hq' fv)
    · rw [a, b]
/-- an object is changed -/
theorem RelH.tops {h : EH} {r : Nat} {e : EO} (R : RelH K m h H) (hr : h[r]? = some e) (hf : isF e = false := by rfl) : ∀ u, H (m r) = some u → NoTup u := fun u z => by
  obtain ⟨w, hw, nt⟩ := (R.obj r e hr).there hf
  rw [hw] at z; cases z; exact nt
theorem Ex.write {h : EH} {r : Nat} {o : HO} {e e' : EO} (R : RelH K m h H) (hr : h[r]? = some e) (hf : isF e = false := by rfl) : Ex K m h.length H m (h.set r e').length (upd H (m r) o) :=
  ⟨by simp, fun _ _ => rfl, fun a xs q => sqT_upd q (R.tops hr hf)⟩
theorem RelH.write {h : EH} {r : Nat} {o : HO} {e e' : EO} (R : RelH K m h H) (hr : h[r]? = some e)
    (new : RelO K m (h.set r e').length (upd H (m r) o) e' (m r)) (hf : isF e = false := by rfl) : RelH K m (h.set r e') (upd H (m r) o) := by
  have hlt := (List.getElem?_eq_some_iff.mp hr).1
  have set_cases : ∀ {q : Nat} {u : EO}, (h.set r e')[q]? = some u → (q = r ∧ u = e') ∨ (q ≠ r ∧ h[q]? = some u) := fun {q u} hq => by
    by_cases z : r = q
    · subst z
      rw [List.getElem?_set_self hlt] at hq
      cases hq
      exact .inl ⟨rfl, rfl⟩
    · rw [List.getElem?_set_ne z] at hq
      exact .inr ⟨fun y => z y.symm, hq⟩
  refine ⟨fun q u hq => ?_, fun q p u v hq hp fu fv z => ?_⟩
  · rcases set_cases hq with ⟨rfl, rfl⟩ | ⟨z, hq⟩
    · exact new
    · exact (R.obj q u hq).off (Ex.write R hr hf) (R.tops hr hf) (fun fu y => z (R.inj q r u e hq hr fu hf y)) fun y => upd_ne y
  · rcases set_cases hq with ⟨a, a'⟩ | ⟨a, hq'⟩ <;> rcases set_cases hp with ⟨b, b'⟩ | ⟨b, hp'⟩
    · rw [a, b]
    · rw [a] at z; exact absurd (R.inj p r v e hp' hr fv hf z.symm) b
    · rw [b] at z; exact absurd (R.inj q r u e hq' hr fu hf z) a
    · exact R.inj q p u v hq' hp' fu fv z

/-! ### readings of trees, and what they are on the abstract heap -/
def Kon (K : PySem.W.Frag) (m : Nat → Addr) (n : Nat) (H : Hp) (P : EK) (Q : VK) : Prop :=
  ∀ v h', P v h' → ∀ (m' : Nat → Addr) (H' : Hp) (x : V), Ex K m n H m' h'.length H' → RelH K m' h' H' → RelE K m' h'.length H' v x → Q x H'
theorem Kon.ex {P : EK} {Q : VK} (E : Ex K m n H m' n' H') (k : Kon K m n H P Q) : Kon K m' n' H' P Q := fun v h' p m2 H2 x E2 R r => k v h' p m2 H2 x (E.trans E2) R r
/-- where a reading starts -/
structure At (K : PySem.W.Frag) (env : En) (h : EH) (m : Nat → Addr) (σ : L2.St) (H : Hp) : Prop where
  hp : RelH K m h H
  nm : RelN K m h.length H env σ
theorem At.ex {env : En} {h h' : EH} {σ : L2.St} (a : At K env h m σ H) (E : Ex K m h.length H m' h'.length H') (R : RelH K m' h' H') : At K env h' m' σ H' := ⟨R, a.nm.ex E⟩
def up (K : PySem.W.Frag) (t : LT) : TE := fun σ H Q => ∃ m env h P, At K env h m σ H ∧ t env h P ∧ Kon K m h.length H P Q
structure LE (X : Cx) (e : Expr) (t : LT) : Prop where
  pe : PE X e (up X.K t)
abbrev LTt := En → EH → (Bool → EH → Prop) → Prop
def upT (K : PySem.W.Frag) (t : LTt) : TT := fun σ H Q => ∃ m env h P, At K env h m σ H ∧ t env h P ∧
  ∀ b h', P b h' → ∀ (m' : Nat → Addr) (H' : Hp), Ex K m h.length H m' h'.length H' → RelH K m' h' H' → Q b H'
structure LTe (X : Cx) (e : Expr) (t : LTt) : Prop where
  pt : PT X e (upT X.K t)
structure LWe (X : Cx) (e : Expr) (t : LTt) : Prop where
  pw : PW X e (upT X.K t)
abbrev LA := En → EH → (List EV → EH → Prop) → Prop
def KonA (K : PySem.W.Frag) (m : Nat → Addr) (n : Nat) (H : Hp) (P : List EV → EH → Prop) (Q : List V → Hp → Prop) : Prop :=
  ∀ vs h', P vs h' → ∀ (m' : Nat → Addr) (H' : Hp) (xs : List V), Ex K m n H m' h'.length H' → RelH K m' h' H' → RelEs K m' h'.length H' vs xs → Q xs H'
def upA (K : PySem.W.Frag) (t : LA) : TA := fun σ H Q => ∃ m env h P, At K env h m σ H ∧ t env h P ∧ KonA K m h.length H P Q
structure LAs (X : Cx) (es : List Expr) (t : LA) : Prop where
  pa : PA X es (upA X.K t)
structure LEnds where
  nx : En → EH → Prop
  rt : EK
  bk : En → EH → Prop := fun _ _ => False
  ct : En → EH → Prop := fun _ _ => False
abbrev LS := LEnds → En → EH → Prop
def KonS (K : PySem.W.Frag) (m : Nat → Addr) (n : Nat) (H : Hp) (P : En → EH → Prop) (Q : L2.St → Hp → Prop) : Prop :=
  ∀ env' h', P env' h' → ∀ (m' : Nat → Addr) (H' : Hp) (σ' : L2.St), Ex K m n H m' h'.length H' → At K env' h' m' σ' H' → Q σ' H'
theorem KonS.ex {P : En → EH → Prop} {Q : L2.St → Hp → Prop} (E : Ex K m n H m' n' H') (k : KonS K m n H P Q) : KonS K m' n' H' P Q := fun v h' p m2 H2 x E2 R => k v h' p m2 H2 x (E.trans E2) R
structure KonE (K : PySem.W.Frag) (m : Nat → Addr) (n : Nat) (H : Hp) (P : LEnds) (Q : Ends) : Prop where
  nx : KonS K m n H P.nx Q.nx
  rt : Kon K m n H P.rt Q.rt
  bk : KonS K m n H P.bk Q.bk
  ct : KonS K m n H P.ct Q.ct
theorem KonE.ex {P : LEnds} {Q : Ends} (E : Ex K m n H m' n' H') (k : KonE K m n H P Q) : KonE K m' n' H' P Q := ⟨k.nx.ex E, k.rt.ex E, k.bk.ex E, k.ct.ex E⟩
def upS (K : PySem.W.Frag) (t : LS) : TS := fun D σ H => ∃ m env h P, At K env h m σ H ∧ t P env h ∧ KonE K m h.length H P D
structure LSt (X : Cx) (st : Stmt) (t : LS) : Prop where
  ps : PS X st (upS X.K t)
structure LSs (X : Cx) (st : List Stmt) (t : LS) : Prop where
  pss : PSs X st (upS X.K t)
/-- weaken a reading -/
theorem PE.imp {X : Cx} {e : Expr} {t t' : TE} (h : PE X e t) (i : ∀ σ H Q, t' σ H Q → t σ H Q) : PE X e t' := ⟨fun pins s σ H Q I q => h.run pins s σ H Q I (i σ H Q q)⟩
theorem PT.imp {X : Cx} {e : Expr} {t t' : TT} (h : PT X e t) (i : ∀ σ H Q, t' σ H Q → t σ H Q) : PT X e t' := ⟨fun pins s σ H Q I q => h.run pins s σ H Q I (i σ H Q q)⟩
theorem PW.imp {X : Cx} {e : Expr} {t t' : TT} (h : PW X e t) (i : ∀ σ H Q, t' σ H Q → t σ H Q) : PW X e t' := ⟨fun wh pins s σ H Q I q => h.run wh pins s σ H Q I (i σ H Q q)⟩
theorem PA.imp {X : Cx} {e : List Expr} {t t' : TA} (h : PA X e t) (i : ∀ σ H Q, t' σ H Q → t σ H Q) : PA X e t' := ⟨fun p pins s σ H Q I q => h.run p pins s σ H Q I (i σ H Q q)⟩
theorem PS.imp {X : Cx} {e : Stmt} {t t' : TS} (h : PS X e t) (i : ∀ D σ H, t' D σ H → t D σ H) : PS X e t' := ⟨fun pins s σ H D I q => h.run pins s σ H D I (i D σ H q)⟩
theorem PSs.imp {X : Cx} {e : List Stmt} {t t' : TS} (h : PSs X e t) (i : ∀ D σ H, t' D σ H → t D σ H) : PSs X e t' := ⟨fun pins s σ H D I q => h.run pins s σ H D I (i D σ H q)⟩
theorem PI.imp {X : Cx} {tg e : Expr} {t t' : TI} (h : PI X tg e t) (i : ∀ σ H Q, t' σ H Q → t σ H Q) : PI X tg e t' := ⟨fun pins s σ H Q I q => h.run pins s σ H Q I (i σ H Q q)⟩

/-! ### names, constants -/
def lVar (i : Nat) : LT := fun env h P => match env[i]? with
  | some (some v) => P v h
  | _ => False
def lC (v : EV) : LT := fun _ h P => P v h
section
variable {X : Cx}
theorem le_var (i : Nat) {x : Str} {pos : Pos} (hN : X.N[i]? = some x := by rfl) (hv : Vis X.env.scope x := by first | exact Or.inl rfl | exact Or.inr (Or.inl rfl) | exact Or.inr (Or.inr rfl))
    (hd : (x == ("__debug__" : Str)) = false := by decide) (hcd : (x == ("__classdict__" : Str)) = false := by decide) : LE X (.Name x pos) (lVar i) :=
  ⟨PE.imp (pe_var hN hv hd hcd) fun σ H Q ⟨m, env, h, P, a, t, k⟩ => by
    unfold lVar at t
    split at t
    · rename_i v e
      obtain ⟨x, ex, rx⟩ := a.nm.2 i v e
      exact ⟨x, ex, k v h t m H x .refl a.hp rx⟩
    · exact t.elim⟩
theorem le_c {e : Expr} {v : V} (x : EV) (h : PE X e (tC v)) (r : ∀ m n H, RelE X.K m n H x v) : LE X e (lC x) :=
  ⟨PE.imp h fun σ H Q ⟨m, env, h, P, a, t, k⟩ => k x h t m H v .refl a.hp (r _ _ _)⟩
theorem le_int {i j pos} : LE X (.Constant (.int i) j pos) (lC (.int i)) := le_c _ pe_int fun _ _ _ => by rw [RelE]
theorem le_bl {i j pos} : LE X (.Constant (.bool i) j pos) (lC (.bl i)) := le_c _ pe_bl fun _ _ _ => by rw [RelE]
theorem le_non {j pos} : LE X (.Constant .none j pos) (lC .non) := le_c _ pe_non fun _ _ _ => by rw [RelE]
theorem le_str (l : List Nat) {x j pos} (h : x = S l := by decide +kernel) : LE X (.Constant (.str x) j pos) (lC (.str l)) := le_c _ pe_str fun _ _ _ => by rw [RelE, h]
/-- a module's int, str -/
theorem le_gint (i : Int) {x : Str} {pos : Pos} (hg : Gl X x) (hm : ∃ t, X.mg x = some (.int i t)) (hd : (x == ("__debug__" : Str)) = false := by decide) : LE X (.Name x pos) (lC (.int i)) := by
  obtain ⟨t, e⟩ := hm
  exact le_c _ (pe_glob (v := .int i) hg e ⟨t, rfl⟩ hd) fun _ _ _ => by rw [RelE]
theorem le_gstr (l : List Nat) {x : Str} {pos : Pos} (hg : Gl X x) (hm : ∃ t, X.mg x = some (.str (S l) t)) (hd : (x == ("__debug__" : Str)) = false := by decide) : LE X (.Name x pos) (lC (.str l)) := by
  obtain ⟨t, e⟩ := hm
  exact le_c _ (pe_glob (v := .str (S l)) hg e ⟨t, rfl⟩ hd) fun _ _ _ => by rw [RelE]
theorem le_gref (a : Addr) {x : Str} {pos : Pos} (hg : Gl X x) (hm : X.mg x = some (.ref a)) (hd : (x == ("__debug__" : Str)) = false := by decide) : LE X (.Name x pos) (lC (.adr a)) :=
  le_c _ (pe_glob (v := .ref a) hg hm rfl hd) fun _ _ _ => by rw [RelE]
end
end
end Y

namespace Y
open PySem PySem.Spec PyProof.Rows L2

/-! ### data: what == and repr see; n bounds how deep it nests -/
mutual
inductive Dat (h : EH) : Nat → EV → PyData → Prop
  | non {n : Nat} : Dat h n .non .none
  | bl {n : Nat} (b : Bool) : Dat h n (.bl b) (.bool b)
  | int {n : Nat} (i : Int) : Dat h n (.int i) (.int i)
  | str {n : Nat} (s : List Nat) : Dat h n (.str s) (.str (S s))
  | tup {n : Nat} {xs : List EV} {ds : List PyData} : Dats h n xs ds → Dat h (n + 1) (.tup xs) (.tuple ds)
  | lst {n : Nat} {r : Nat} {xs : List EV} {ds : List PyData} : h[r]? = some (.lst xs) → Dats h n xs ds → Dat h (n + 1) (.ref r) (.list ds)
inductive Dats (h : EH) : Nat → List EV → List PyData → Prop
  | nil {n : Nat} : Dats h n [] []
  | cons {n : Nat} {x : EV} {xs : List EV} {d : PyData} {ds : List PyData} : Dat h n x d → Dats h n xs ds → Dats h n (x :: xs) (d :: ds)
end
section
variable {K : PySem.W.Frag} {m : Nat → Addr} {H : Hp} {h : EH}
mutual
theorem Dat.dp (R : RelH K m h H) : ∀ (d : PyData) (n : Nat) (v : EV) (x : V), Dat h n v d → RelE K m h.length H v x → Dp K H x d
  | .none, _, _, _, a, r => by cases a; rw [RelE] at r; subst r; exact .non
  | .bool b, _, _, _, a, r => by cases a; rw [RelE] at r; subst r; exact .bl b
  | .int b, _, _, _, a, r => by cases a; rw [RelE] at r; subst r; exact .int b
  | .str b, _, _, _, a, r => by cases a; rw [RelE] at r; subst r; exact .str _
  | .tuple ds, _, _, _, a, r => by
    cases a with
    | tup as =>
      rw [RelE] at r
      obtain ⟨p, vs, e, q, t⟩ := r
      subst e
      exact .tup q (Dats.dp R ds _ _ _ as t)
  | .list ds, _, _, _, a, r => by
    cases a with
    | lst hr as =>
      rw [RelE] at r
      obtain ⟨hl, e⟩ := r
      subst e
      obtain ⟨vs, hv, t⟩ := R.obj _ _ hr
      exact .lst (SqL.of hv) (Dats.dp R ds _ _ _ as t)
  | .dict _, _, _, _, a, _ => by cases a
theorem Dats.dp (R : RelH K m h H) : ∀ (ds : List PyData) (n : Nat) (vs : List EV) (xs : List V), Dats h n vs ds → RelEs K m h.length H vs xs → DpAll K H xs ds
  | [], _, _, _, a, r => by cases a; rw [RelEs] at r; subst r; exact .nil
  | d :: ds, _, _, _, a, r => by
    cases a with
    | cons a1 a2 =>
      rw [RelEs] at r
      obtain ⟨v, l, e, r1, r2⟩ := r
      subst e
      exact .cons (Dat.dp R d _ _ _ a1 r1) (Dats.dp R ds _ _ _ a2 r2)
end
mutual
theorem Dat.dep : ∀ (d : PyData) (n : Nat) (v : EV), Dat h n v d → d.depth ≤ n ∧ d.plain = true
  | .none, _, _, a => by simp [PyData.depth, PyData.plain]
  | .bool b, _, _, a => by simp [PyData.depth, PyData.plain]
  | .int b, _, _, a => by simp [PyData.depth, PyData.plain]
  | .str b, _, _, a => by simp [PyData.depth, PyData.plain]
  | .tuple ds, _, _, a => by
    cases a with
    | tup as =>
      have := Dats.dep ds _ _ as
      simp only [PyData.depth, PyData.plain]
      exact ⟨by omega, this.2⟩
  | .list ds, _, _, a => by
    cases a with
    | lst hr as =>
      have := Dats.dep ds _ _ as
      simp only [PyData.depth, PyData.plain]
      exact ⟨by omega, this.2⟩
  | .dict _, _, _, a => by cases a
theorem Dats.dep : ∀ (ds : List PyData) (n : Nat) (vs : List EV), Dats h n vs ds → PyData.depthAll ds ≤ n ∧ PyData.plainAll ds = true
  | [], _, _, a => by simp [PyData.depthAll, PyData.plainAll]
  | d :: ds, _, _, a => by
    cases a with
    | cons a1 a2 =>
      have h1 := Dat.dep d _ _ a1
      have h2 := Dats.dep ds _ _ a2
      simp only [PyData.depthAll, PyData.plainAll, h1.2, h2.2]
      exact ⟨by omega, rfl⟩
end
end

/-! ### operators -/
abbrev LO := EV → EV → EH → EK → Prop
def LOp (K : PySem.W.Frag) (r : R2) (o : LO) : Prop :=
  ∀ (m : Nat → Addr) (h : EH) (H : Hp) (v w : EV) (x y : V) (P : EK) (Q : VK), RelH K m h H → RelE K m h.length H v x → RelE K m h.length H w y → o v w h P → Kon K m h.length H P Q → r x y H Q
def LOpR (X : Cx) (f : Value → Value → Sem Value) (o : LO) : Prop := ∃ r, OpR X f r ∧ LOp X.K r o
def lOp (o : LO) (ta tb : LT) : LT := fun env h P => ta env h fun x h1 => tb env h1 fun y h2 => o x y h2 P
/-- .. as a test -/
def lB (t : LT) : LTt := fun env h P => t env h fun v h1 => match v with
  | .bl b => P b h1
  | _ => False
theorem Kon.same {K : PySem.W.Frag} {m : Nat → Addr} {H : Hp} {h : EH} {P : EK} {Q : VK} (k : Kon K m h.length H P Q) (R : RelH K m h H) {v : EV} {x : V} (p : P v h) (r : RelE K m h.length H v x) : Q x H := k v h p m H x .refl R r
theorem Kon.tup {K : PySem.W.Frag} {m : Nat → Addr} {H : Hp} {h : EH} {P : EK} {Q : VK} (k : Kon K m h.length H P Q) (R : RelH K m h H) {vs : List EV} {xs : List V} (p : P (.tup vs) h) (r : RelEs K m h.length H vs xs) {a : Addr} (ha : H a = none) : Q (.ref a) (upd H a (.tup xs)) :=
  k _ h p m _ _ (Ex.tup1 ha) (R.tup ha) (by rw [RelE]; exact ⟨a, xs, rfl, SqT.of upd_same, RelEs.ex (Ex.tup1 ha) _ _ r⟩)
theorem Kon.lst {K : PySem.W.Frag} {m : Nat → Addr} {H : Hp} {h : EH} {P : EK} {Q : VK} (k : Kon K m h.length H P Q) (R : RelH K m h H) {vs : List EV} {xs : List V} (p : P (.ref h.length) (h ++ [.lst vs])) (r : RelEs K m h.length H vs xs) {a : Addr} (ha : H a = none) : Q (.ref a) (upd H a (.lst xs)) := by
  have E : Ex K m h.length H (mput m h.length a) (h ++ [EO.lst vs]).length (upd H a (.lst xs)) := Ex.new ha
  refine k _ _ p _ _ _ E (R.new ha ⟨xs, upd_same, RelEs.ex E _ _ r⟩) ?_
  rw [RelE]
  exact ⟨by simp, by rw [mput_at]⟩
section
variable {X : Cx} {a b : Expr} {ta tb : LT} {pos : Pos} {o : LO}
theorem up_bin {K : PySem.W.Frag} {r : R2} (s : LOp K r o) (σ : L2.St) (H : Hp) (Q : VK) (q : up K (lOp o ta tb) σ H Q) : tOp r (up K ta) (up K tb) σ H Q := by
  obtain ⟨m, env, h, P, at_, t, k⟩ := q
  refine ⟨m, env, h, _, at_, t, fun x h1 p1 m1 H1 u E1 R1 r1 => ⟨m1, env, h1, _, at_.ex E1 R1, p1, fun y h2 p2 m2 H2 w E2 R2 r2 => ?_⟩⟩
  exact s _ _ _ _ _ _ _ P Q R2 (RelE.ex E2 _ _ r1) r2 p2 (k.ex (E1.trans E2))
theorem le_op {op : Operator} (ho : LOpR X (binaryOp op) o) (ha : LE X a ta) (hb : LE X b tb) : LE X (.BinOp a op b pos) (lOp o ta tb) := by
  obtain ⟨r, hr, s⟩ := ho
  exact ⟨PE.imp (pe_op hr ha.pe hb.pe) (up_bin s)⟩
theorem le_cmp {op : CmpOp} (ho : LOpR X (compareOp op) o) (ha : LE X a ta) (hb : LE X b tb) (hm : behindInMarks op b = false := by first | exact nomark _ | with_unfolding_all rfl) : LE X (.Compare a [op] [b] pos) (lOp o ta tb) := by
  obtain ⟨r, hr, s⟩ := ho
  exact ⟨PE.imp (pe_cmpR hr ha.pe hb.pe hm) (up_bin s)⟩
theorem up_test {K : PySem.W.Frag} {t : LT} {tt : TE} (i : ∀ σ H Q, up K t σ H Q → tt σ H Q) (σ : L2.St) (H : Hp) (Q : Bool → Hp → Prop) (q : upT K (lB t) σ H Q) : tTest tt σ H Q := by
  obtain ⟨m, env, h, P, at_, t1, k⟩ := q
  refine i σ H _ ⟨m, env, h, _, at_, t1, fun v h1 p1 m1 H1 x E1 R1 r1 => ?_⟩
  cases v with
  | bl b =>
    rw [RelE] at r1
    exact ⟨b, r1, k b h1 p1 m1 H1 E1 R1⟩
  | _ => exact p1.elim
theorem lt_cmp {op : CmpOp} (ho : LOpR X (compareOp op) o) (ha : LE X a ta) (hb : LE X b tb) (hm : behindInMarks op b = false := by first | exact nomark _ | with_unfolding_all rfl) : LTe X (.Compare a [op] [b] pos) (lB (lOp o ta tb)) := by
  obtain ⟨r, hr, s⟩ := ho
  exact ⟨PT.imp (pt_cmpR hr ha.pe hb.pe hm) (up_test (up_bin s))⟩
/-- a < b < c -/
def lChain (o o' : LO) (ta tb tc : LT) : LT := fun env h P => ta env h fun x h1 => tb env h1 fun y h2 => o x y h2 fun z h3 => match z with
  | .bl k => if k = true then tc env h3 fun w h4 => o' y w h4 P else P (.bl false) h3
  | _ => False
theorem up_chain {K : PySem.W.Frag} {r r' : R2} {o o' : LO} {tc : LT} (s : LOp K r o) (s' : LOp K r' o') (σ : L2.St) (H : Hp) (Q : VK) (q : up K (lChain o o' ta tb tc) σ H Q) : tChain r r' (up K ta) (up K tb) (up K tc) σ H Q := by
  obtain ⟨m, env, h, P, at_, t, k⟩ := q
  refine ⟨m, env, h, _, at_, t, fun x h1 p1 m1 H1 u E1 R1 r1 => ⟨m1, env, h1, _, at_.ex E1 R1, p1, fun y h2 p2 m2 H2 w E2 R2 r2 => ?_⟩⟩
  refine s _ _ _ _ _ _ _ _ _ R2 (RelE.ex E2 _ _ r1) r2 p2 fun z h3 p3 m3 H3 zz E3 R3 r3 => ?_
  cases z with
  | bl c =>
    rw [RelE] at r3
    refine ⟨c, r3, ?_⟩
    cases c with
    | false => exact k _ _ p3 m3 H3 _ ((E1.trans E2).trans E3) R3 (by rw [RelE])
    | true => exact ⟨m3, env, h3, _, (at_.ex (E1.trans E2) R2).ex E3 R3, p3, fun w' h4 p4 m4 H4 ww E4 R4 r4 => s' _ _ _ _ _ _ _ P Q R4 (RelE.ex (E3.trans E4) _ _ r2) r4 p4 (k.ex (((E1.trans E2).trans E3).trans E4))⟩
  | _ => exact p3.elim
theorem le_chain {c : Expr} {tc : LT} {op op' : CmpOp} {o o' : LO} (ho : LOpR X (compareOp op) o) (ho' : LOpR X (compareOp op') o') (ha : LE X a ta) (hb : LE X b tb) (hc : LE X c tc)
    (hm : lastMarks [op, op'] [b, c] = false := by with_unfolding_all rfl) : LE X (.Compare a [op, op'] [b, c] pos) (lChain o o' ta tb tc) := by
  obtain ⟨r, hr, s⟩ := ho
  obtain ⟨r', hr', s'⟩ := ho'
  exact ⟨PE.imp (pe_chain hr hr' ha.pe hb.pe hc.pe hm) (up_chain s s')⟩
theorem lt_chain {c : Expr} {tc : LT} {op op' : CmpOp} {o o' : LO} (ho : LOpR X (compareOp op) o) (ho' : LOpR X (compareOp op') o') (ha : LE X a ta) (hb : LE X b tb) (hc : LE X c tc)
    (hm : lastMarks [op, op'] [b, c] = false := by with_unfolding_all rfl) : LTe X (.Compare a [op, op'] [b, c] pos) (lB (lChain o o' ta tb tc)) := by
  obtain ⟨r, hr, s⟩ := ho
  obtain ⟨r', hr', s'⟩ := ho'
  exact ⟨PT.imp (pt_chain hr hr' ha.pe hb.pe hc.pe hm) (up_test (up_chain s s'))⟩
end

/-- + -/
def addE : LO := fun v w h P => match v, w with
  | .int i, .int j => P (.int (i + j)) h
  | .int i, .bl b => P (.int (i + b2i b)) h
  | .str a, .str b => a.length + b.length ≤ sizeLine ∧ P (.str (a ++ b)) h
  | .tup a, .tup b => a.length + b.length ≤ sizeLine ∧ P (.tup (a ++ b)) h
  | .ref l, .ref r => match h[l]?, h[r]? with
    | some (.lst a), some (.lst b) => a.length + b.length ≤ sizeLine ∧ P (.ref h.length) (h ++ [.lst (a ++ b)])
    | _, _ => False
  | _, _ => False
theorem S_len (a : List Nat) : (S a).length = a.length := by
  show (S a).cps.size = _
  simp
theorem S_app (a b : List Nat) : S a ++ S b = S (a ++ b) := by
  show (⟨(a.toArray ++ b.toArray)⟩ : Str) = _
  simp
theorem lo_add {X : Cx} : LOpR X (binaryOp .Add) addE := by
  refine ⟨_, OpR.or op_add (OpR.or op_add_ib (OpR.or op_add_str (OpR.or op_catA op_cat))), ?_⟩
  intro m h H v w x y P Q R rx ry q k
  unfold addE at q
  split at q
  · rw [RelE] at rx ry
    exact .inl ⟨_, _, rx, ry, k.same R q (by rw [RelE])⟩
  · rw [RelE] at rx
    rw [RelE] at ry
    exact .inr (.inl ⟨_, _, rx, ry, k.same R q (by rw [RelE])⟩)
  · rw [RelE] at rx ry
    exact .inr (.inr (.inl ⟨_, _, rx, ry, by rw [S_len, S_len]; exact q.1, by rw [S_app]; exact k.same R q.2 (by rw [RelE])⟩))
  · rename_i a b
    rw [RelE] at rx ry
    obtain ⟨p, xs, rfl, hx, r1⟩ := rx
    obtain ⟨p', ys, rfl, hy, r2⟩ := ry
    refine .inr (.inr (.inr (.inl ⟨p, p', xs, ys, rfl, rfl, hx, hy, by rw [← r1.length, ← r2.length]; exact q.1, fun e => ?_, fun _ e => ?_, fun _ _ z hz => ?_⟩)))
    · subst e
      have : a = [] := by cases a with
        | nil => rfl
        | cons _ _ => have := r1.length; simp at this
      subst this
      exact k.same R q.2 (by rw [RelE]; exact ⟨p', ys, rfl, hy, r2⟩)
    · subst e
      have : b = [] := by cases b with
        | nil => rfl
        | cons _ _ => have := r2.length; simp at this
      subst this
      refine k.same R q.2 ?_
      rw [List.append_nil, RelE]
      exact ⟨p, xs, rfl, hx, r1⟩
    · exact k.tup R q.2 (r1.app r2) hz
  · rw [RelE] at rx ry
    obtain ⟨_, rfl⟩ := rx
    obtain ⟨_, rfl⟩ := ry
    split at q
    · rename_i e1 e2
      obtain ⟨xs, a1, r1⟩ := R.obj _ _ e1
      obtain ⟨ys, a2, r2⟩ := R.obj _ _ e2
      refine .inr (.inr (.inr (.inr ⟨_, _, xs, ys, rfl, rfl, a1, a2, by rw [← r1.length, ← r2.length]; exact q.1, fun z hz => ?_⟩)))
      exact k.lst R q.2 (r1.app r2) hz
    · exact q.elim
  · exact q.elim
/-- two ints -/
def intE (C : Int → Int → Prop) (f : Int → Int → Int) : LO := fun v w h P => match v, w with
  | .int i, .int j => C i j ∧ P (.int (f i j)) h
  | _, _ => False
def intP (f : Int → Int → EV) : LO := fun v w h P => match v, w with
  | .int i, .int j => P (f i j) h
  | _, _ => False
theorem lo_int {X : Cx} {op : Operator} {C : Int → Int → Prop} {f : Int → Int → Int} (hr : OpR X (binaryOp op) (rI C fun i j => .int (f i j))) : LOpR X (binaryOp op) (intE C f) := by
  refine ⟨_, hr, ?_⟩
  intro m h H v w x y P Q R rx ry q k
  unfold intE at q
  split at q
  · rw [RelE] at rx ry
    exact ⟨_, _, rx, ry, q.1, k.same R q.2 (by rw [RelE])⟩
  · exact q.elim
theorem lo_intP {X : Cx} {fn : Value → Value → Sem Value} {f : Int → Int → EV} {g : Int → Int → V} (hr : OpR X fn (rI0 g)) (e : ∀ K m n H i j, RelE K m n H (f i j) (g i j)) : LOpR X fn (intP f) := by
  refine ⟨_, hr, ?_⟩
  intro m h H v w x y P Q R rx ry q k
  unfold intP at q
  split at q
  · rw [RelE] at rx ry
    exact ⟨_, _, rx, ry, k.same R q (e _ _ _ _ _ _)⟩
  · exact q.elim
abbrev subE : LO := intP fun i j => .int (i - j)
abbrev mulI : LO := intE CMulW fun i j => i * j
abbrev fdivE : LO := intE CDivW fun i j => i / j
abbrev modE : LO := intE (fun _ j => 0 < j) fun i j => i % j
abbrev powE : LO := intE CPow fun i j => i ^ j.toNat
theorem lo_sub {X : Cx} : LOpR X (binaryOp .Sub) subE := lo_intP op_sub fun _ _ _ _ _ _ => by rw [RelE]
theorem lo_mulI {X : Cx} : LOpR X (binaryOp .Mult) mulI := lo_int op_mulW
theorem lo_fdiv {X : Cx} : LOpR X (binaryOp .FloorDiv) fdivE := lo_int op_fdivW
theorem lo_mod {X : Cx} : LOpR X (binaryOp .Mod) modE := lo_int op_mod
theorem lo_pow {X : Cx} : LOpR X (binaryOp .Pow) powE := lo_int op_pow
abbrev ltE : LO := intP fun i j => .bl (decide (i < j))
abbrev leE : LO := intP fun i j => .bl (decide (i ≤ j))
abbrev gtE : LO := intP fun i j => .bl (decide (j < i))
abbrev geE : LO := intP fun i j => .bl (decide (j ≤ i))
theorem lo_lt {X : Cx} : LOpR X (compareOp .Lt) ltE := lo_intP op_lt fun _ _ _ _ _ _ => by rw [RelE]
theorem lo_le {X : Cx} : LOpR X (compareOp .LtE) leE := lo_intP op_le fun _ _ _ _ _ _ => by rw [RelE]
theorem lo_gt {X : Cx} : LOpR X (compareOp .Gt) gtE := lo_intP op_gt fun _ _ _ _ _ _ => by rw [RelE]
theorem lo_ge {X : Cx} : LOpR X (compareOp .GtE) geE := lo_intP op_ge fun _ _ _ _ _ _ => by rw [RelE]
/-- ==, of scalars at once, of data by what it reads as -/
def eqE (neg : Bool) : LO := fun v w h P => match v, w with
  | .int i, .int j => P (.bl (neg ^^ decide (i = j))) h
  | .str a, .str b => P (.bl (neg ^^ decide (a = b))) h
  | .bl a, .bl b => P (.bl (neg ^^ decide (a = b))) h
  | v, w => ∃ d e, Dat h 60 v d ∧ Dat h 60 w e ∧ P (.bl (neg ^^ PyData.eqv d e)) h
theorem S_inj {a b : List Nat} : S a = S b ↔ a = b := by
  constructor
  · intro e
    have : a.toArray = b.toArray := congrArg Str.cps e
    simpa using this
  · rintro rfl; rfl
theorem beqD {α : Type} [BEq α] [LawfulBEq α] [DecidableEq α] (a b : α) : (a == b) = decide (a = b) := by
  rw [Bool.eq_iff_iff, beq_iff_eq, decide_eq_true_eq]
theorem eq_sim {K : PySem.W.Frag} {m : Nat → Addr} {h : EH} {H : Hp} {v w : EV} {x y : V} {P : EK} {Q : VK} {neg : Bool} (R : RelH K m h H) (rx : RelE K m h.length H v x) (ry : RelE K m h.length H w y) (q : eqE neg v w h P) (k : Kon K m h.length H P Q) :
    ∃ d e, Dp K H x d ∧ Dp K H y e ∧ d.depth ≤ 60 ∧ d.plain = true ∧ e.plain = true ∧ Q (.bl (neg ^^ PyData.eqv d e)) H := by
  unfold eqE at q
  split at q
  · rename_i i j
    rw [RelE] at rx ry; subst rx ry
    refine ⟨_, _, .int i, .int j, by simp [PyData.depth], rfl, rfl, ?_⟩
    rw [show PyData.eqv (.int i) (.int j) = decide (i = j) by simp only [PyData.eqv]; exact beqD i j]
    exact k.same R q (by rw [RelE])
  · rename_i i j
    rw [RelE] at rx ry; subst rx ry
    refine ⟨_, _, .str _, .str _, by simp [PyData.depth], rfl, rfl, ?_⟩
    rw [show PyData.eqv (.str (S i)) (.str (S j)) = decide (i = j) by simp only [PyData.eqv]; rw [beqD]; exact decide_eq_decide.mpr S_inj]
    exact k.same R q (by rw [RelE])
  · rename_i i j
    rw [RelE] at rx ry; subst rx ry
    refine ⟨_, _, .bl _, .bl _, by simp [PyData.depth], rfl, rfl, ?_⟩
    rw [show PyData.eqv (.bool i) (.bool j) = decide (i = j) by simp only [PyData.eqv]; exact beqD i j]
    exact k.same R q (by rw [RelE])
  · obtain ⟨d, e, d1, e1, p⟩ := q
    exact ⟨d, e, Dat.dp R _ _ _ _ d1 rx, Dat.dp R _ _ _ _ e1 ry, (Dat.dep _ _ _ d1).1, (Dat.dep _ _ _ d1).2, (Dat.dep _ _ _ e1).2, k.same R p (by rw [RelE])⟩
def rEqP (neg : Bool) (K : PySem.W.Frag) : R2 := fun x y H Q => ∃ d e, Dp K H x d ∧ Dp K H y e ∧ d.depth ≤ 60 ∧ d.plain = true ∧ e.plain = true ∧ Q (.bl (neg ^^ PyData.eqv d e)) H
theorem lo_eq {X : Cx} (hu : X.A.units + 64 < cLine) : LOpR X (compareOp .Eq) (eqE false) := by
  refine ⟨rEqP false X.K, ?_, fun m h H v w x y P Q R rx ry q k => eq_sim R rx ry q k⟩
  intro pins s σ H x y v u Q I rx ry h
  obtain ⟨d, e, hd, he, dd, pd, pe, q⟩ := h
  obtain ⟨as, r1⟩ := Dp.reads I d x v hd rx
  obtain ⟨bs, r2⟩ := Dp.reads I e y u he ry
  exact PySem.SeqAt.eq_plain r1 r2 pd pe (by omega) ⟨.bl _, H, I, rfl, by simpa using q⟩
theorem lo_ne {X : Cx} (hu : X.A.units + 64 < cLine) : LOpR X (compareOp .NotEq) (eqE true) := by
  refine ⟨rEqP true X.K, ?_, fun m h H v w x y P Q R rx ry q k => eq_sim R rx ry q k⟩
  intro pins s σ H x y v u Q I rx ry h
  obtain ⟨d, e, hd, he, dd, pd, pe, q⟩ := h
  obtain ⟨as, r1⟩ := Dp.reads I d x v hd rx
  obtain ⟨bs, r2⟩ := Dp.reads I e y u he ry
  exact PySem.SeqAt.ne_plain r1 r2 pd pe (by omega) ⟨.bl _, H, I, rfl, by simpa using q⟩
/-- is None -/
def isN (neg : Bool) : LO := fun v w h P => match w with
  | .non => match v with
    | .non => P (.bl (!neg)) h
    | _ => P (.bl neg) h
  | _ => False
theorem lo_isN {X : Cx} : LOpR X (compareOp .Is) (isN false) := by
  refine ⟨_, op_isN, ?_⟩
  intro m h H v w x y P Q R rx ry q k
  unfold isN at q
  split at q
  · rw [RelE] at ry
    refine ⟨ry, ?_⟩
    split at q
    · rw [RelE] at rx; subst rx
      exact k.same R q (by rw [RelE]; rfl)
    · have : x ≠ .non := by
        rintro rfl
        rename_i hv
        cases v <;> simp [RelE] at rx
        exact hv rfl
      rw [decide_eq_false this]
      exact k.same R q (by rw [RelE])
  · exact q.elim
theorem lo_notN {X : Cx} : LOpR X (compareOp .IsNot) (isN true) := by
  refine ⟨_, op_notN, ?_⟩
  intro m h H v w x y P Q R rx ry q k
  unfold isN at q
  split at q
  · rw [RelE] at ry
    refine ⟨ry, ?_⟩
    split at q
    · rw [RelE] at rx; subst rx
      exact k.same R q (by rw [RelE]; rfl)
    · have : x ≠ .non := by
        rintro rfl
        rename_i hv
        cases v <;> simp [RelE] at rx
        exact hv rfl
      rw [decide_eq_false this]
      exact k.same R q (by rw [RelE]; rfl)
  · exact q.elim
end Y

namespace Y
open PySem PySem.Spec PyProof.Rows L2

/-! ### tests -/
def truE (v : EV) (h : EH) (P : Bool → Prop) : Prop := match v with
  | .bl b => P b
  | .non => P false
  | .int i => P (i != 0)
  | .str s => s.length ≤ sizeLine ∧ P (!s.isEmpty)
  | .tup xs => P (!xs.isEmpty)
  | .ref r => match h[r]? with
    | some (.lst xs) => P (!xs.isEmpty)
    | some (.dic xs) => P (!xs.isEmpty)
    | _ => False
  | _ => False
def lT (t : LT) : LTt := fun env h P => t env h fun v h1 => truE v h1 fun b => P b h1
def lAnd (t u : LTt) : LTt := fun env h P => t env h fun c h1 => if c = true then u env h1 P else P false h1
def lOr (t u : LTt) : LTt := fun env h P => t env h fun c h1 => if c = true then P true h1 else u env h1 P
def lNot (t : LTt) : LTt := fun env h P => t env h fun c h1 => P (!c) h1
def lIf (t : LTt) (ta tb : LT) : LT := fun env h P => t env h fun c h1 => if c = true then ta env h1 P else tb env h1 P
/-- and, or, not as values, of truths -/
def lAndV (ta tb : LT) : LT := fun env h P => ta env h fun v h1 => match v with
  | .bl c => if c = true then tb env h1 P else P (.bl false) h1
  | _ => False
def lOrV (ta tb : LT) : LT := fun env h P => ta env h fun v h1 => match v with
  | .bl c => if c = true then P (.bl true) h1 else tb env h1 P
  | _ => False
def lNotV (ta : LT) : LT := fun env h P => ta env h fun v h1 => match v with
  | .bl c => P (.bl (!c)) h1
  | _ => False
section
variable {K : PySem.W.Frag} {m : Nat → Addr} {H : Hp} {h : EH}
theorem RelEs.isEmpty {n : Nat} {es : List EV} {vs : List V} (r : RelEs K m n H es vs) : vs.isEmpty = es.isEmpty := by
  cases es with
  | nil => rw [RelEs] at r; subst r; rfl
  | cons a l => rw [RelEs] at r; obtain ⟨v, t, rfl, _, _⟩ := r; rfl
theorem RelKV.isEmpty {n : Nat} {es : List (EV × EV)} {vs : List (L2.Key × V)} (r : RelKV K m n H es vs) : vs.isEmpty = es.isEmpty := by
  cases es with
  | nil => rw [RelKV] at r; subst r; rfl
  | cons a l => rw [RelKV] at r; obtain ⟨v, t, u, rfl, _, _⟩ := r; rfl
theorem tru_sim {v : EV} {x : V} {P : Bool → Prop} (R : RelH K m h H) (r : RelE K m h.length H v x) (q : truE v h P) : ∃ k, TruV K x H k ∧ P k := by
  unfold truE at q
  split at q
  · rw [RelE] at r; subst r; exact ⟨_, rfl, q⟩
  · rw [RelE] at r; subst r; exact ⟨_, rfl, q⟩
  · rw [RelE] at r; subst r; exact ⟨_, rfl, q⟩
  · rename_i s
    rw [RelE] at r; subst r
    refine ⟨_, ⟨by rw [S_len]; exact q.1, rfl⟩, ?_⟩
    rw [S_len]
    have e : (((s.length : Nat) : Int) != 0) = !s.isEmpty := by
      cases s <;> simp
      omega
    rw [e]; exact q.2
  · rw [RelE] at r
    obtain ⟨a, vs, rfl, hs, r⟩ := r
    exact ⟨_, .inr (.inl ⟨vs, hs, rfl⟩), by rw [r.isEmpty]; exact q⟩
  · rw [RelE] at r
    obtain ⟨_, rfl⟩ := r
    split at q
    · rename_i e
      obtain ⟨vs, a, r⟩ := R.obj _ _ e
      exact ⟨_, .inl ⟨vs, SqL.of a, rfl⟩, by rw [r.isEmpty]; exact q⟩
    · rename_i e
      obtain ⟨vs, a, r⟩ := R.obj _ _ e
      exact ⟨_, .inr (.inr ⟨vs, a, rfl⟩), by rw [r.isEmpty]; exact q⟩
    · exact q.elim
  · exact q.elim
end
section
variable {X : Cx} {a b c e : Expr} {es : List Expr} {ta tb : LT} {t u : LTt} {pos : Pos} {rest : List Expr}
theorem lt_truth (ha : LE X a ta) (he : ∀ whole, isTrue a X.env whole = (do let v ← whole; standAt a.pos; holding [v] (truthy v)) := by intro _; rfl) : LTe X a (lT ta) := by
  refine ⟨PT.imp (pt_truth ha.pe he) fun σ H Q ⟨m, env, h, P, at_, t1, k⟩ => ⟨m, env, h, _, at_, t1, fun v h1 p1 m1 H1 x E1 R1 r1 => ?_⟩⟩
  obtain ⟨c, tc, pc⟩ := tru_sim R1 r1 p1
  exact ⟨c, tc, k c h1 pc m1 H1 E1 R1⟩
theorem LWe.lt (w : LWe X e t) : LTe X e t := ⟨w.pw.pt⟩
theorem lw_and1 (ha : LTe X a t) : LWe X (.BoolOp .And [a] pos) t := ⟨pw_and1 ha.pt⟩
theorem lw_or1 (ha : LTe X a t) : LWe X (.BoolOp .Or [a] pos) t := ⟨pw_or1 ha.pt⟩
theorem lw_and (ha : LTe X a t) (hb : LWe X (.BoolOp .And (b :: rest) pos) u) : LWe X (.BoolOp .And (a :: b :: rest) pos) (lAnd t u) := by
  refine ⟨PW.imp (pw_and ha.pt hb.pw) fun σ H Q ⟨m, env, h, P, at_, t1, k⟩ => ⟨m, env, h, _, at_, t1, fun c h1 p1 m1 H1 E1 R1 => ?_⟩⟩
  cases c with
  | true =>
    rw [if_pos rfl] at p1 ⊢
    exact ⟨m1, env, h1, P, at_.ex E1 R1, p1, fun c2 h2 p2 m2 H2 E2 R2 => k c2 h2 p2 m2 H2 (E1.trans E2) R2⟩
  | false =>
    rw [if_neg Bool.false_ne_true] at p1 ⊢
    exact k _ _ p1 m1 H1 E1 R1
theorem lw_or (ha : LTe X a t) (hb : LWe X (.BoolOp .Or (b :: rest) pos) u) : LWe X (.BoolOp .Or (a :: b :: rest) pos) (lOr t u) := by
  refine ⟨PW.imp (pw_or ha.pt hb.pw) fun σ H Q ⟨m, env, h, P, at_, t1, k⟩ => ⟨m, env, h, _, at_, t1, fun c h1 p1 m1 H1 E1 R1 => ?_⟩⟩
  cases c with
  | false =>
    rw [if_neg Bool.false_ne_true] at p1 ⊢
    exact ⟨m1, env, h1, P, at_.ex E1 R1, p1, fun c2 h2 p2 m2 H2 E2 R2 => k c2 h2 p2 m2 H2 (E1.trans E2) R2⟩
  | true =>
    rw [if_pos rfl] at p1 ⊢
    exact k _ _ p1 m1 H1 E1 R1
theorem lt_not (ha : LTe X a t) : LTe X (.UnaryOp .Not a pos) (lNot t) :=
  ⟨PT.imp (pt_not ha.pt) fun σ H Q ⟨m, env, h, P, at_, t1, k⟩ => ⟨m, env, h, _, at_, t1, fun c h1 p1 m1 H1 E1 R1 => k _ _ p1 m1 H1 E1 R1⟩⟩
theorem le_if (hc : LTe X c t) (ha : LE X a ta) (hb : LE X b tb) : LE X (.IfExp c a b pos) (lIf t ta tb) := by
  refine ⟨PE.imp (pe_ifExp hc.pt ha.pe hb.pe) fun σ H Q ⟨m, env, h, P, at_, t1, k⟩ => ⟨m, env, h, _, at_, t1, fun c h1 p1 m1 H1 E1 R1 => ?_⟩⟩
  cases c with
  | true =>
    rw [if_pos rfl] at p1 ⊢
    exact ⟨m1, env, h1, P, at_.ex E1 R1, p1, k.ex E1⟩
  | false =>
    rw [if_neg Bool.false_ne_true] at p1 ⊢
    exact ⟨m1, env, h1, P, at_.ex E1 R1, p1, k.ex E1⟩
theorem le_one {op} (ha : LE X a ta) : LE X (.BoolOp op [a] pos) ta := ⟨pe_one ha.pe⟩
theorem le_and (ha : LE X a ta) (hb : LE X (.BoolOp .And (b :: rest) pos) tb) : LE X (.BoolOp .And (a :: b :: rest) pos) (lAndV ta tb) := by
  refine ⟨PE.imp (pe_and ha.pe hb.pe) fun σ H Q ⟨m, env, h, P, at_, t1, k⟩ => ⟨m, env, h, _, at_, t1, fun v h1 p1 m1 H1 x E1 R1 r1 => ?_⟩⟩
  cases v with
  | bl c =>
    rw [RelE] at r1
    refine ⟨c, r1, ?_⟩
    cases c with
    | true =>
      exact ⟨m1, env, h1, P, at_.ex E1 R1, p1, k.ex E1⟩
    | false => exact k _ _ p1 m1 H1 _ E1 R1 (by rw [RelE])
  | _ => exact p1.elim
theorem le_or (ha : LE X a ta) (hb : LE X (.BoolOp .Or (b :: rest) pos) tb) : LE X (.BoolOp .Or (a :: b :: rest) pos) (lOrV ta tb) := by
  refine ⟨PE.imp (pe_or ha.pe hb.pe) fun σ H Q ⟨m, env, h, P, at_, t1, k⟩ => ⟨m, env, h, _, at_, t1, fun v h1 p1 m1 H1 x E1 R1 r1 => ?_⟩⟩
  cases v with
  | bl c =>
    rw [RelE] at r1
    refine ⟨c, r1, ?_⟩
    cases c with
    | false =>
      exact ⟨m1, env, h1, P, at_.ex E1 R1, p1, k.ex E1⟩
    | true => exact k _ _ p1 m1 H1 _ E1 R1 (by rw [RelE])
  | _ => exact p1.elim
theorem le_not (ha : LE X a ta) : LE X (.UnaryOp .Not a pos) (lNotV ta) := by
  refine ⟨PE.imp (pe_not ha.pe) fun σ H Q ⟨m, env, h, P, at_, t1, k⟩ => ⟨m, env, h, _, at_, t1, fun v h1 p1 m1 H1 x E1 R1 r1 => ?_⟩⟩
  cases v with
  | bl c =>
    rw [RelE] at r1
    exact ⟨c, r1, k _ _ p1 m1 H1 _ E1 R1 (by rw [RelE])⟩
  | _ => exact p1.elim
end
/-! ### argument lists, displays -/
def lNil : LA := fun _ h P => P [] h
def lCons (ta : LT) (tr : LA) : LA := fun env h P => ta env h fun x h1 => tr env h1 fun xs h2 => P (x :: xs) h2
def lTup (t : LA) : LT := fun env h P => t env h fun xs h1 => xs.length ≤ sizeLine ∧ P (.tup xs) h1
def lLst (t : LA) : LT := fun env h P => t env h fun xs h1 => xs.length ≤ sizeLine ∧ P (.ref h1.length) (h1 ++ [.lst xs])
section
variable {X : Cx} {a b c e : Expr} {es : List Expr} {ta tb : LT} {t : LA} {pos : Pos}
theorem la_nil : LAs X [] lNil := ⟨PA.imp pa_nil fun σ H Q ⟨m, env, h, P, at_, t1, k⟩ => k _ _ t1 m H [] .refl at_.hp .nil⟩
theorem la_cons (ha : LE X e ta) (hr : LAs X es t) (hs : starEach (e :: es) X.env = (false, eval e X.env) :: starEach es X.env := by rfl) : LAs X (e :: es) (lCons ta t) :=
  ⟨PA.imp (pa_cons ha.pe hr.pa hs) fun σ H Q ⟨m, env, h, P, at_, t1, k⟩ => ⟨m, env, h, _, at_, t1, fun x h1 p1 m1 H1 v E1 R1 r1 =>
    ⟨m1, env, h1, _, at_.ex E1 R1, p1, fun xs h2 p2 m2 H2 vs E2 R2 r2 => k _ _ p2 m2 H2 _ (E1.trans E2) R2 (.cons (RelE.ex E2 _ _ r1) r2)⟩⟩⟩
theorem le_tup {k1} (ht : LAs X es t) : LE X (.Tuple es k1 pos) (lTup t) :=
  ⟨PE.imp (pe_tup ht.pa) fun σ H Q ⟨m, env, h, P, at_, t1, k⟩ => ⟨m, env, h, _, at_, t1, fun xs h1 p1 m1 H1 vs E1 R1 r1 =>
    ⟨by rw [← r1.length]; exact p1.1, fun p hp => (k.ex E1).tup R1 p1.2 r1 hp⟩⟩⟩
theorem le_lst (ht : LAs X es t) : LE X (.List es pos) (lLst t) :=
  ⟨PE.imp (pe_lst ht.pa) fun σ H Q ⟨m, env, h, P, at_, t1, k⟩ => ⟨m, env, h, _, at_, t1, fun xs h1 p1 m1 H1 vs E1 R1 r1 =>
    ⟨by rw [← r1.length]; exact p1.1, fun p hp => (k.ex E1).lst R1 p1.2 r1 hp⟩⟩⟩
end
/-! ### built-in functions -/
abbrev LC := List EV → EH → EK → Prop
def LCl (K : PySem.W.Frag) (r : List V → Hp → VK → Prop) (c : LC) : Prop :=
  ∀ (m : Nat → Addr) (h : EH) (H : Hp) (vs : List EV) (xs : List V) (P : EK) (Q : VK), RelH K m h H → RelEs K m h.length H vs xs → c vs h P → Kon K m h.length H P Q → r xs H Q
def LCallR (X : Cx) (f : Value) (c : LC) : Prop := ∃ r, CallR X f r ∧ LCl X.K r c
def lCB (c : LC) (t : LA) : LT := fun env h P => t env h fun vs h1 => c vs h1 P
theorem CallR.or {X : Cx} {f : Value} {r r' : List V → Hp → VK → Prop} (a : CallR X f r) (b : CallR X f r') : CallR X f (fun xs H Q => r xs H Q ∨ r' xs H Q) := by
  intro pins s σ H xs us Q I rv q
  rcases q with q | q
  · exact a pins s σ H xs us Q I rv q
  · exact b pins s σ H xs us Q I rv q
theorem RelEs.one_inv {K : PySem.W.Frag} {m : Nat → Addr} {n : Nat} {H : Hp} {x : EV} {vs : List V} (r : RelEs K m n H [x] vs) : ∃ v, vs = [v] ∧ RelE K m n H x v := by
  rw [RelEs] at r
  obtain ⟨v, l, rfl, a, b⟩ := r
  rw [RelEs] at b
  subst b
  exact ⟨v, rfl, a⟩
theorem RelEs.two_inv {K : PySem.W.Frag} {m : Nat → Addr} {n : Nat} {H : Hp} {x y : EV} {vs : List V} (r : RelEs K m n H [x, y] vs) : ∃ v w, vs = [v, w] ∧ RelE K m n H x v ∧ RelE K m n H y w := by
  rw [RelEs] at r
  obtain ⟨v, l, rfl, a, b⟩ := r
  obtain ⟨w, rfl, c⟩ := b.one_inv
  exact ⟨v, w, rfl, a, c⟩
section
variable {X : Cx} {e : Expr} {es : List Expr} {c : LC} {t : LA} {pos p : Pos} {x : Str} {id T : String}
theorem up_cb {K : PySem.W.Frag} {r : List V → Hp → VK → Prop} (s : LCl K r c) (σ : L2.St) (H : Hp) (Q : VK) (q : up K (lCB c t) σ H Q) : tCB r (upA K t) σ H Q := by
  obtain ⟨m, env, h, P, at_, t1, k⟩ := q
  exact ⟨m, env, h, _, at_, t1, fun vs h1 p1 m1 H1 xs E1 R1 r1 => s _ _ _ _ _ _ _ R1 r1 p1 (k.ex E1)⟩
theorem le_callB (hc : LCallR X (.builtin id) c) (hg : Gl X x) (hm : X.mg x = none) (hv : bootBuiltins x = some (.builtin id)) (ha : LAs X (e :: es) t) (hn : x ≠ "__name__" := by decide) (hdb : (x == ("__debug__" : Str)) = false := by decide)
    (he : starEach (e :: es) X.env = (false, eval e X.env) :: starEach es X.env := by rfl) (hpl : (backTo pos (starEach es X.env)).any (·.1) = false := by rfl) : LE X (.Call (.Name x p) (e :: es) [] pos) (lCB c t) := by
  obtain ⟨r, hr, s⟩ := hc
  exact ⟨PE.imp (pe_callB hr hg hm hv ha.pa hn hdb he hpl) (up_cb s)⟩
theorem le_callTy (hc : LCallR X (.type T) c) (hg : Gl X x) (hm : X.mg x = none) (hv : bootBuiltins x = some (.type T)) (ha : LAs X (e :: es) t) (hn : x ≠ "__name__" := by decide) (hdb : (x == ("__debug__" : Str)) = false := by decide)
    (he : starEach (e :: es) X.env = (false, eval e X.env) :: starEach es X.env := by rfl) (hpl : (backTo pos (starEach es X.env)).any (·.1) = false := by rfl) : LE X (.Call (.Name x p) (e :: es) [] pos) (lCB c t) := by
  obtain ⟨r, hr, s⟩ := hc
  exact ⟨PE.imp (pe_callTy hr hg hm hv ha.pa hn hdb he hpl) (up_cb s)⟩
end
/-! ### methods of built-in types -/
abbrev LM := EV → List EV → EH → EK → Prop
def LMl (K : PySem.W.Frag) (T : String) (r : V → List V → Hp → VK → Prop) (c : LM) : Prop :=
  ∀ (m : Nat → Addr) (h : EH) (H : Hp) (v : EV) (x : V) (vs : List EV) (xs : List V) (P : EK) (Q : VK), RelH K m h H → RelE K m h.length H v x → RelEs K m h.length H vs xs → c v vs h P → Kon K m h.length H P Q → r x xs H Q
/-- the receiver's type, seen ahead of the arguments -/
def isTy (T : String) (v : EV) (h : EH) : Prop := match v with
  | .str _ => T = "str"
  | .ref r => match h[r]? with
    | some (.lst _) => T = "list"
    | some (.dic _) => T = "dict"
    | _ => False
  | _ => False
def lBM (T : String) (c : LM) (to : LT) (t : LA) : LT := fun env h P => to env h fun x h1 => isTy T x h1 ∧ t env h1 fun vs h2 => c x vs h2 P
theorem isTy_sim {K : PySem.W.Frag} {m : Nat → Addr} {H : Hp} {h : EH} {T : String} {v : EV} {x : V} (R : RelH K m h H) (r : RelE K m h.length H v x) (q : isTy T v h) : tyV K T x H := by
  unfold isTy at q
  split at q
  · rw [RelE] at r; subst r; exact q
  · rw [RelE] at r
    obtain ⟨_, rfl⟩ := r
    split at q
    · rename_i e
      obtain ⟨vs, a, _⟩ := R.obj _ _ e
      exact .inl ⟨q, vs, SqL.of a⟩
    · rename_i e
      obtain ⟨vs, a, _⟩ := R.obj _ _ e
      exact .inr (.inr (.inl ⟨q, .inl ⟨vs, a⟩⟩))
    · exact q.elim
  · exact q.elim
section
variable {X : Cx} {o e : Expr} {es : List Expr} {to : LT} {t : LA} {name : Str} {apos cpos : Pos} {T id : String} {r : V → List V → Hp → VK → Prop} {c : LM}
theorem le_bm (pa : PlainAttrs T) (slot : Slot T name id) (hty : typeOf (.builtin id) = pure (.type "method_descriptor")) (hm : MtR X id r) (s : LMl X.K T r c) (ho : LE X o to) (ha : LAs X (e :: es) t)
    (hbase : attributeBase o name X.env (eval o X.env) = eval o X.env := by rfl)
    (hfew : ((backTo cpos (starEach (e :: es) X.env)).all (fun x => !x.1) && (backToKw cpos (keywordEach [] X.env)).all (fun x => x.1.isSome)
      && decide ((e :: es).length + ([] : List Keyword).length + (if ([] : List Keyword).isEmpty then 0 else 1) < 30)) = true := by rfl)
    (hline : (apos.endLine == cpos.line) = true := by rfl) (hs : starEach (e :: es) X.env = (false, eval e X.env) :: starEach es X.env := by rfl) (hplain : (backTo cpos (starEach es X.env)).any (·.1) = false := by rfl) :
    LE X (.Call (.Attribute o name apos) (e :: es) [] cpos) (lBM T c to t) :=
  ⟨PE.imp (pe_bm pa slot hty hm ho.pe ha.pa hbase hfew hline hs hplain) fun σ H Q ⟨m, env, h, P, at_, t1, k⟩ => ⟨m, env, h, _, at_, t1, fun x h1 p1 m1 H1 v E1 R1 r1 =>
    ⟨isTy_sim R1 r1 p1.1, m1, env, h1, _, at_.ex E1 R1, p1.2, fun vs h2 p2 m2 H2 xs E2 R2 r2 => s _ _ _ _ _ _ _ _ _ R2 (RelE.ex E2 _ _ r1) r2 p2 (k.ex (E1.trans E2))⟩⟩⟩
theorem le_bm0 (pa : PlainAttrs T) (slot : Slot T name id) (hty : typeOf (.builtin id) = pure (.type "method_descriptor")) (hm : MtR X id r) (s : LMl X.K T r c) (ho : LE X o to)
    (hbase : attributeBase o name X.env (eval o X.env) = eval o X.env := by rfl) (hline : (apos.endLine == cpos.line) = true := by rfl) : LE X (.Call (.Attribute o name apos) [] [] cpos) (lBM T c to lNil) :=
  ⟨PE.imp (pe_bm0 pa slot hty hm ho.pe hbase hline) fun σ H Q ⟨m, env, h, P, at_, t1, k⟩ => ⟨m, env, h, _, at_, t1, fun x h1 p1 m1 H1 v E1 R1 r1 =>
    ⟨isTy_sim R1 r1 p1.1, s _ _ _ _ _ _ _ _ _ R1 r1 .nil p1.2 (k.ex E1)⟩⟩⟩
end
/-! ### subscripts, slices -/
def LIxR (X : Cx) (o : LO) : Prop := ∃ r, IxR X r ∧ LOp X.K r o
theorem le_ix {X : Cx} {a b : Expr} {ta tb : LT} {o : LO} {pos : Pos} (hr : LIxR X o) (ha : LE X a ta) (hb : LE X b tb) (hs : PlainIx b := by exact fun _ _ => rfl) : LE X (.Subscript a b pos) (lOp o ta tb) := by
  obtain ⟨r, h, s⟩ := hr
  exact ⟨PE.imp (pe_ix h ha.pe hb.pe hs) (up_bin s)⟩
/-- a[i] of a list, a tuple, a text -/
def ixE : LO := fun v w h P => match w with
  | .int i => match v with
    | .tup xs => match atI xs i with
      | some x => P x h
      | none => False
    | .str s => s.length ≤ sizeLine ∧ match atI s i with
      | some x => P (.str [x]) h
      | none => False
    | .ref r => match h[r]? with
      | some (.lst xs) => match atI xs i with
        | some x => P x h
        | none => False
      | some (.frz xs) => match atI xs i with
        | some x => P x h
        | none => False
      | _ => False
    | _ => False
  | _ => False
theorem RelEs.atI {K : PySem.W.Frag} {m : Nat → Addr} {n : Nat} {H : Hp} {es : List EV} {vs : List V} {i : Int} {x : EV} (r : RelEs K m n H es vs) (e : atI es i = some x) : ∃ v, L2.atI vs i = some v ∧ RelE K m n H x v := by
  unfold L2.atI at e ⊢
  rw [← r.length]
  cases q : ixN es.length i with
  | none => rw [q] at e; cases e
  | some j =>
    rw [q] at e
    exact r.at e
theorem lix {X : Cx} : LIxR X ixE := by
  refine ⟨_, ix_seq, ?_⟩
  intro m h H v w x y P Q R rx ry q k
  unfold ixE at q
  split at q
  · rw [RelE] at ry
    subst ry
    split at q
    · rw [RelE] at rx
      obtain ⟨a, vs, rfl, hs, r⟩ := rx
      split at q
      · rename_i e
        obtain ⟨u, a1, r1⟩ := r.atI e
        exact .inr (.inl ⟨_, _, _, u, rfl, rfl, hs, a1, k.same R q r1⟩)
      · exact q.elim
    · rw [RelE] at rx
      subst rx
      obtain ⟨q1, q⟩ := q
      split at q
      · rename_i e
        exact .inr (.inr ⟨_, _, _, rfl, rfl, by rw [S_len]; exact q1, by simpa using e, k.same R q (by rw [RelE])⟩)
      · exact q.elim
    · rw [RelE] at rx
      obtain ⟨_, rfl⟩ := rx
      split at q
      · rename_i e
        obtain ⟨vs, a, r⟩ := R.obj _ _ e
        split at q
        · rename_i e
          obtain ⟨u, a1, r1⟩ := r.atI e
          exact .inl ⟨_, _, _, u, rfl, rfl, SqL.of a, a1, k.same R q r1⟩
        · exact q.elim
      · rename_i e
        obtain ⟨vs, a, r⟩ := R.obj _ _ e
        split at q
        · rename_i e
          obtain ⟨u, a1, r1⟩ := r.atI e
          exact .inl ⟨_, _, _, u, rfl, rfl, a.sql, a1, k.same R q r1⟩
        · exact q.elim
      · exact q.elim
    · exact q.elim
  · exact q.elim
abbrev LO_ := En → EH → (Option Int → EH → Prop) → Prop
def lPart : Option LT → LO_
  | none => fun _ h P => P none h
  | some t => fun env h P => t env h fun v h1 => match v with
    | .int i => P (some i) h1
    | _ => False
def upO (K : PySem.W.Frag) (t : LO_) : L2.St → Hp → (Option Int → Hp → Prop) → Prop := fun σ H Q => ∃ m env h P, At K env h m σ H ∧ t env h P ∧
  ∀ b h', P b h' → ∀ (m' : Nat → Addr) (H' : Hp), Ex K m h.length H m' h'.length H' → RelH K m' h' H' → Q b H'
def LPo (X : Cx) (e : Option Expr) (t : LO_) : Prop := ∃ u, PO X e u ∧ ∀ σ H Q, upO X.K t σ H Q → u σ H Q
theorem lpo_none {X : Cx} : LPo X none (lPart none) := ⟨_, po_none, fun σ H Q ⟨m, env, h, P, at_, t1, k⟩ => k _ _ t1 m H .refl at_.hp⟩
theorem lpo_some {X : Cx} {e : Expr} {t : LT} (he : LE X e t) : LPo X (some e) (lPart (some t)) := by
  refine ⟨_, po_some he.pe, fun σ H Q ⟨m, env, h, P, at_, t1, k⟩ => ⟨m, env, h, _, at_, t1, fun v h1 p1 m1 H1 x E1 R1 r1 => ?_⟩⟩
  cases v with
  | int i =>
    rw [RelE] at r1
    exact ⟨i, r1, k _ _ p1 m1 H1 E1 R1⟩
  | _ => exact p1.elim
def cut {α : Type} (xs : List α) (lo hi : Option Int) : List α := (xs.drop (HT.sIx xs.length 0 lo)).take (HT.sIx xs.length xs.length hi - HT.sIx xs.length 0 lo)
abbrev LSlc := EV → Option Int → Option Int → EH → EK → Prop
def slE : LSlc := fun v lo hi h P => match v with
  | .tup xs => P (.tup (cut xs lo hi)) h
  | .str s => s.length ≤ sizeLine ∧ P (.str (cut s lo hi)) h
  | .ref r => match h[r]? with
    | some (.lst xs) => P (.ref h.length) (h ++ [.lst (cut xs lo hi)])
    | some (.frz xs) => P (.ref h.length) (h ++ [.lst (cut xs lo hi)])
    | _ => False
  | _ => False
def lSl (to : LT) (tl th : LO_) : LT := fun env h P => to env h fun x h1 => tl env h1 fun l h2 => th env h2 fun u h3 => slE x l u h3 P
theorem RelEs.cut {K : PySem.W.Frag} {m : Nat → Addr} {n : Nat} {H : Hp} {es : List EV} {vs : List V} {lo hi : Option Int} (r : RelEs K m n H es vs) : RelEs K m n H (cut es lo hi) (cutV vs lo hi) := by
  unfold Y.cut cutV
  rw [← r.length]
  exact RelEs.take _ (RelEs.drop _ r)
theorem cut_S (s : List Nat) (lo hi : Option Int) : cutS (S s) lo hi = S (cut s lo hi) := by
  unfold cutS Y.cut
  rw [S_len]
theorem cut_all {α : Type} {xs : List α} {lo hi : Option Int} (h : HT.sIx xs.length 0 lo = 0 ∧ HT.sIx xs.length xs.length hi = xs.length) : cut xs lo hi = xs := by
  unfold cut
  rw [h.1, h.2]
  simp
theorem le_slice {X : Cx} {e : Expr} {lo hi : Option Expr} {to : LT} {tl th : LO_} {p2 pos : Pos} (he : LE X e to) (hl : LPo X lo tl) (hu : LPo X hi th) : LE X (.Subscript e (.Slice lo hi none p2) pos) (lSl to tl th) := by
  obtain ⟨u1, h1, s1⟩ := hl
  obtain ⟨u2, h2, s2⟩ := hu
  refine ⟨PE.imp (pe_slice (SlR.or sl_list (SlR.or sl_tupA sl_str)) he.pe h1 h2) fun σ H Q ⟨m, env, h, P, at_, t1, k⟩ => ⟨m, env, h, _, at_, t1, fun v h1 p1 m1 H1 x E1 R1 r1 => s1 _ _ _ ⟨m1, env, h1, _, at_.ex E1 R1, p1, fun l h2 p2 m2 H2 E2 R2 =>
    s2 _ _ _ ⟨m2, env, h2, _, (at_.ex E1 R1).ex E2 R2, p2, fun u h3 p3 m3 H3 E3 R3 => ?_⟩⟩⟩⟩
  have r3 := RelE.ex (E2.trans E3) _ _ r1
  have k3 := k.ex ((E1.trans E2).trans E3)
  unfold slE at p3
  split at p3
  · rename_i xs
    rw [RelE] at r3
    obtain ⟨a, vs, rfl, hs, r⟩ := r3
    refine .inr (.inl ⟨a, vs, rfl, hs, fun w => ?_, fun _ p hp => k3.tup R3 p3 r.cut hp⟩)
    rw [← r.length] at w
    rw [cut_all w] at p3
    exact k3.same R3 p3 (by rw [RelE]; exact ⟨a, vs, rfl, hs, r⟩)
  · rw [RelE] at r3
    subst r3
    exact .inr (.inr ⟨_, rfl, by rw [S_len]; exact p3.1, by rw [cut_S]; exact k3.same R3 p3.2 (by rw [RelE])⟩)
  · rw [RelE] at r3
    obtain ⟨_, rfl⟩ := r3
    split at p3
    · rename_i e
      obtain ⟨vs, a, r⟩ := R3.obj _ _ e
      exact .inl ⟨_, _, rfl, SqL.of a, fun p hp => k3.lst R3 p3 r.cut hp⟩
    · rename_i e
      obtain ⟨vs, a, r⟩ := R3.obj _ _ e
      exact .inl ⟨_, _, rfl, a.sql, fun p hp => k3.lst R3 p3 r.cut hp⟩
    · exact p3.elim
  · exact p3.elim
end Y

namespace Y
open PySem PySem.Spec PyProof.Rows L2

/-! ### statements -/
def lNext : LS := fun D env h => D.nx env h
def lSeq (t u : LS) : LS := fun D env h => t { D with nx := u D } env h
def lDrop (t : LT) : LS := fun D env h => t env h fun _ h1 => D.nx env h1
def lRet (t : LT) : LS := fun D env h => t env h D.rt
def lRetN : LS := fun D _ h => D.rt .non h
def lIfS (c : LTt) (t u : LS) : LS := fun D env h => c env h fun b h1 => if b = true then t D env h1 else u D env h1
section
variable {X : Cx} {st : Stmt} {rest a b : List Stmt} {t u : LS} {e c : Expr} {te : LT} {tc : LTt} {pos : Pos}
theorem lss_nil : LSs X [] lNext := ⟨PSs.imp pss_nil fun D σ H ⟨m, env, h, P, at_, t1, k⟩ => k.nx _ _ t1 m H σ .refl at_⟩
theorem lss_cons (h1 : LSt X st t) (h2 : LSs X rest u) : LSs X (st :: rest) (lSeq t u) := by
  refine ⟨PSs.imp (pss_cons h1.ps h2.pss) fun D σ H ⟨m, env, h, P, at_, t1, k⟩ => ⟨m, env, h, { P with nx := u P }, at_, t1, ⟨?_, k.rt, k.bk, k.ct⟩⟩⟩
  intro env' h' p m' H' σ' E a
  exact ⟨m', env', h', P, a, p, k.ex E⟩
theorem lss_one (h1 : LSt X st t) : LSs X [st] t := ⟨pss_one h1.ps⟩
theorem ls_pass : LSt X (.Pass pos) lNext := ⟨PS.imp ps_pass fun D σ H ⟨m, env, h, P, at_, t1, k⟩ => k.nx _ _ t1 m H σ .refl at_⟩
theorem ls_break : LSt X (.Break pos) (fun D env h => D.bk env h) := ⟨PS.imp ps_break fun D σ H ⟨m, env, h, P, at_, t1, k⟩ => k.bk _ _ t1 m H σ .refl at_⟩
theorem ls_continue : LSt X (.Continue pos) (fun D env h => D.ct env h) := ⟨PS.imp ps_continue fun D σ H ⟨m, env, h, P, at_, t1, k⟩ => k.ct _ _ t1 m H σ .refl at_⟩
theorem ls_expr (he : LE X e te) (hs : swapsWith e none pos.line X.env = pure false := by rfl) : LSt X (.Expr e pos) (lDrop te) :=
  ⟨PS.imp (ps_expr he.pe hs) fun D σ H ⟨m, env, h, P, at_, t1, k⟩ => ⟨m, env, h, _, at_, t1, fun v h1 p1 m1 H1 x E1 R1 r1 => k.nx _ _ p1 m1 H1 σ E1 (at_.ex E1 R1)⟩⟩
theorem ls_ret (he : LE X e te) : LSt X (.Return (some e) pos) (lRet te) :=
  ⟨PS.imp (ps_ret he.pe) fun D σ H ⟨m, env, h, P, at_, t1, k⟩ => ⟨m, env, h, _, at_, t1, k.rt⟩⟩
theorem ls_retN : LSt X (.Return none pos) lRetN :=
  ⟨PS.imp ps_retN fun D σ H ⟨m, env, h, P, at_, t1, k⟩ => k.rt _ _ t1 m H .non .refl at_.hp (by rw [RelE])⟩
theorem ls_if (hc : LTe X c tc) (ha : LSs X a t) (hb : LSs X b u) : LSt X (.If c a b pos) (lIfS tc t u) := by
  refine ⟨PS.imp (ps_if hc.pt ha.pss hb.pss) fun D σ H ⟨m, env, h, P, at_, t1, k⟩ => ⟨m, env, h, _, at_, t1, fun c h1 p1 m1 H1 E1 R1 => ?_⟩⟩
  cases c with
  | true =>
    rw [if_pos rfl] at p1 ⊢
    exact ⟨m1, env, h1, P, at_.ex E1 R1, p1, k.ex E1⟩
  | false =>
    rw [if_neg Bool.false_ne_true] at p1 ⊢
    exact ⟨m1, env, h1, P, at_.ex E1 R1, p1, k.ex E1⟩
/-- code that is not come to -/
def lNever : LS := fun _ _ _ => False
theorem ls_never : LSt X st lNever := ⟨PS.imp ps_never fun D σ H ⟨m, env, h, P, at_, t1, k⟩ => t1⟩
theorem lss_never {sts : List Stmt} : LSs X sts lNever := ⟨PSs.imp pss_never fun D σ H ⟨m, env, h, P, at_, t1, k⟩ => t1⟩
end
/-! ### targets: names, tuples of targets -/
inductive Pat where
  | nm (i : Nat)
  | tp (ps : List Pat)
mutual
def Pat.bind : Pat → EV → En → Option En
  | .nm i, v, env => some (env.set i (some v))
  | .tp ps, .tup vs, env => Pat.binds ps vs env
  | .tp _, _, _ => none
def Pat.binds : List Pat → List EV → En → Option En
  | [], [], env => some env
  | p :: ps, v :: vs, env => match Pat.bind p v env with
    | some e => Pat.binds ps vs e
    | none => none
  | _, _, _ => none
end
mutual
def gP (K : PySem.W.Frag) : Pat → TG
  | .nm i => gName i
  | .tp ps => gTup K ps.length (gPs K ps)
def gPs (K : PySem.W.Frag) : List Pat → TGs
  | [] => gNil
  | p :: ps => gCons (gP K p) (gPs K ps)
end
mutual
def Pat.slots : Pat → List Nat
  | .nm i => [i]
  | .tp ps => Pat.slotsAll ps
def Pat.slotsAll : List Pat → List Nat
  | [] => []
  | p :: ps => Pat.slots p ++ Pat.slotsAll ps
end
section
variable {K : PySem.W.Frag} {m : Nat → Addr} {n : Nat} {H : Hp}
theorem RelN.set {env : En} {σ : L2.St} {v : EV} {x : V} (R : RelN K m n H env σ) (r : RelE K m n H v x) (i : Nat) : RelN K m n H (env.set i (some v)) (σ.set i (some x)) := by
  refine ⟨by simpa using R.1, fun j w hj => ?_⟩
  by_cases e : i = j
  · subst e
    have hl : i < env.length := by
      have := (List.getElem?_eq_some_iff.mp hj).1
      simpa using this
    rw [List.getElem?_set_self hl] at hj
    cases hj
    exact ⟨x, List.getElem?_set_self (by rw [← R.1]; exact hl), r⟩
  · rw [List.getElem?_set_ne e] at hj
    obtain ⟨y, a, b⟩ := R.2 j w hj
    exact ⟨y, by rw [List.getElem?_set_ne e]; exact a, b⟩
mutual
theorem Pat.sim : ∀ (p : Pat) (v : EV) (x : V) (env env' : En) (σ : L2.St), RelN K m n H env σ → RelE K m n H v x → Pat.bind p v env = some env' →
    ∃ σ', (∀ Q, Q σ' H → gP K p x σ H Q) ∧ RelN K m n H env' σ' ∧ (∀ i, i ∉ Pat.slots p → σ'[i]? = σ[i]?) ∧ σ'.length = σ.length
  | .nm i, v, x, env, env', σ, R, r, e => by
    rw [Pat.bind] at e
    cases e
    refine ⟨σ.set i (some x), fun Q q => by rw [gP]; exact q, R.set r i, fun j hj => ?_, by simp⟩
    rw [Pat.slots] at hj
    exact List.getElem?_set_ne (fun z => hj (by simp [z]))
  | .tp ps, .tup vs, x, env, env', σ, R, r, e => by
    rw [Pat.bind] at e
    rw [RelE] at r
    obtain ⟨a, xs, rfl, hs, r⟩ := r
    obtain ⟨σ', f, R', s, l, z⟩ := Pat.sims ps vs xs env env' σ R r e
    refine ⟨σ', fun Q q => ?_, R', fun j hj => s j (by rw [Pat.slots] at hj; exact hj), z⟩
    rw [gP]
    exact ⟨a, xs, rfl, hs, l, f Q q⟩
  | .tp ps, .non, x, env, env', σ, R, r, e => by simp [Pat.bind] at e
  | .tp ps, .bl _, x, env, env', σ, R, r, e => by simp [Pat.bind] at e
  | .tp ps, .int _, x, env, env', σ, R, r, e => by simp [Pat.bind] at e
  | .tp ps, .str _, x, env, env', σ, R, r, e => by simp [Pat.bind] at e
  | .tp ps, .ref _, x, env, env', σ, R, r, e => by simp [Pat.bind] at e
  | .tp ps, .adr _, x, env, env', σ, R, r, e => by simp [Pat.bind] at e
  | .tp ps, .ty _, x, env, env', σ, R, r, e => by simp [Pat.bind] at e
theorem Pat.sims : ∀ (ps : List Pat) (vs : List EV) (xs : List V) (env env' : En) (σ : L2.St), RelN K m n H env σ → RelEs K m n H vs xs → Pat.binds ps vs env = some env' →
    ∃ σ', (∀ Q, Q σ' H → gPs K ps xs σ H Q) ∧ RelN K m n H env' σ' ∧ (∀ i, i ∉ Pat.slotsAll ps → σ'[i]? = σ[i]?) ∧ xs.length = ps.length ∧ σ'.length = σ.length
  | [], [], xs, env, env', σ, R, r, e => by
    rw [Pat.binds] at e
    cases e
    rw [RelEs] at r
    subst r
    exact ⟨σ, fun Q q => by rw [gPs]; exact ⟨rfl, q⟩, R, fun _ _ => rfl, rfl, rfl⟩
  | [], _ :: _, xs, env, env', σ, R, r, e => by simp [Pat.binds] at e
  | _ :: _, [], xs, env, env', σ, R, r, e => by simp [Pat.binds] at e
  | p :: ps, v :: vs, xs, env, env', σ, R, r, e => by
    rw [Pat.binds] at e
    rw [RelEs] at r
    obtain ⟨x, l, rfl, r1, r2⟩ := r
    split at e
    · rename_i env1 e1
      obtain ⟨σ1, f1, R1, s1, z1⟩ := Pat.sim p v x env env1 σ R r1 e1
      obtain ⟨σ2, f2, R2, s2, l2, z2⟩ := Pat.sims ps vs l env1 env' σ1 R1 r2 e
      refine ⟨σ2, fun Q q => ?_, R2, fun j hj => ?_, by simp [l2], z2.trans z1⟩
      · rw [gPs]
        exact ⟨x, l, rfl, f1 _ (f2 Q q)⟩
      · rw [Pat.slotsAll] at hj
        rw [s2 j (fun z => hj (List.mem_append_right _ z)), s1 j (fun z => hj (List.mem_append_left _ z))]
    · cases e
end
end
structure LG (X : Cx) (tg : Expr) (p : Pat) : Prop where
  pg : PG X tg (gP X.K p)
structure LGs (X : Cx) (ts : List Expr) (ps : List Pat) : Prop where
  pgs : PGs X ts (gPs X.K ps)
section
variable {X : Cx} {pos : Pos}
theorem lg_name (i : Nat) {x : Str} (hN : X.N.Nodup) (hi : X.N[i]? = some x := by rfl) (hx : Loc X.env.scope x := by first | exact Or.inl rfl | exact Or.inr rfl) (hf : X.fn x = true ∨ X.env.scope.names.lookup x = some .local := by first | exact .inl rfl | exact .inr rfl) : LG X (.Name x pos) (.nm i) :=
  ⟨by rw [gP]; exact pg_name hN hi hx hf⟩
theorem lgs_nil : LGs X [] [] := ⟨by rw [gPs]; exact pgs_nil⟩
theorem lgs_cons {e : Expr} {es : List Expr} {p : Pat} {ps : List Pat} (h1 : LG X e p) (h2 : LGs X es ps) (hs : (assignEach (e :: es) X.env).map (·.2) = assign e X.env :: (assignEach es X.env).map (·.2) := by rfl) : LGs X (e :: es) (p :: ps) :=
  ⟨by rw [gPs]; exact pgs_cons h1.pg h2.pgs hs⟩
theorem lg_tup {es : List Expr} {k : Nat} {ps : List Pat} (hc : X.calm = true) (h : LGs X es ps) (hn : (assignEach es X.env).length = ps.length := by rfl) (hst : (assignEach es X.env).findIdx? (·.1) = none := by rfl) : LG X (.Tuple es k pos) (.tp ps) :=
  ⟨by rw [gP]; exact pg_tup hc h.pgs hn hst⟩
end
/-- what a store asks -/
def lBind (p : Pat) (v : EV) (env : En) (P : En → Prop) : Prop := match Pat.bind p v env with
  | some e => P e
  | none => False
theorem bind_sim {K : PySem.W.Frag} {m : Nat → Addr} {n : Nat} {H : Hp} {p : Pat} {v : EV} {x : V} {env : En} {σ : L2.St} {P : En → Prop} (R : RelN K m n H env σ) (r : RelE K m n H v x) (q : lBind p v env P) :
    ∃ env' σ', P env' ∧ (∀ Q, Q σ' H → gP K p x σ H Q) ∧ RelN K m n H env' σ' ∧ (∀ i, i ∉ Pat.slots p → σ'[i]? = σ[i]?) ∧ σ'.length = σ.length := by
  unfold lBind at q
  split at q
  · rename_i env' e
    obtain ⟨σ', f, R', s⟩ := Pat.sim p v x env env' σ R r e
    exact ⟨env', σ', q, f, R', s⟩
  · exact q.elim
def lAsg (te : LT) (p : Pat) : LS := fun D env h => te env h fun v h1 => lBind p v env fun env' => D.nx env' h1
def lSet (te : LT) (i : Nat) : LS := fun D env h => te env h fun v h1 => D.nx (env.set i (some v)) h1
section
variable {X : Cx} {pos : Pos}
theorem ls_asg {tg e : Expr} {te : LT} {p : Pat} (he : LE X e te) (hg : LG X tg p) (hs : swapsWithSole [tg] e pos.line X.env = pure false := by rfl) (hw : swappedStores [tg] e X.env = pure none := by rfl)
    (h1 : (assignEach [tg] X.env).map (·.2) = [assign tg X.env] := by rfl) : LSt X (.Assign [tg] e pos) (lAsg te p) :=
  ⟨PS.imp (ps_asg he.pe hg.pg hs hw h1) fun D σ H ⟨m, env, h, P, at_, t1, k⟩ => ⟨m, env, h, _, at_, t1, fun v h1 p1 m1 H1 x E1 R1 r1 => by
    obtain ⟨env', σ', q, f, R', _, _⟩ := bind_sim (at_.nm.ex E1) r1 p1
    exact f _ (k.nx _ _ q m1 H1 σ' E1 ⟨R1, R'⟩)⟩⟩
theorem ls_set (i : Nat) {x : Str} {e : Expr} {te : LT} {pos' : Pos} (hN : X.N.Nodup) (he : LE X e te) (hi : X.N[i]? = some x := by rfl) (hx : Loc X.env.scope x := by first | exact Or.inl rfl | exact Or.inr rfl) (hs : swapsWith e (some (.Name x pos')) pos.line X.env = pure false := by rfl)
    (hf : X.fn x = true ∨ X.env.scope.names.lookup x = some .local := by first | exact .inl rfl | exact .inr rfl) : LSt X (.Assign [.Name x pos'] e pos) (lSet te i) :=
  ⟨PS.imp (ps_set hN hi hx he.pe hs hf) fun D σ H ⟨m, env, h, P, at_, t1, k⟩ => ⟨m, env, h, _, at_, t1, fun v h1 p1 m1 H1 x E1 R1 r1 => k.nx _ _ p1 m1 H1 _ E1 ⟨R1, (at_.nm.ex E1).set r1 i⟩⟩⟩
/-- a, b = x, y -/
def lPar (i j : Nat) (ta : LA) : LS := fun D env h => ta env h fun vs h1 => match vs with
  | [v, w] => D.nx ((env.set i (some v)).set j (some w)) h1
  | _ => False
theorem ls_par (i j : Nat) {x y : Str} {a b : Expr} {ta : LA} {px py pt : Pos} {kt k2 pt2} (hc : X.calm = true) (hN : X.N.Nodup) (ha : LAs X [a, b] ta) (hi : X.N[i]? = some x := by rfl) (hj : X.N[j]? = some y := by rfl) (hij : i ≠ j := by decide)
    (hx : X.env.scope.names.lookup x = some .local := by rfl) (hy : X.env.scope.names.lookup y = some .local := by rfl)
    (hw : swappedStores [.Tuple [.Name x px, .Name y py] kt pt] (.Tuple [a, b] k2 pt2) X.env = pure (some [x, y]) := by rfl)
    (hs : swapsWithSole [.Tuple [.Name x px, .Name y py] kt pt] (.Tuple [a, b] k2 pt2) pos.line X.env = pure false := by rfl) :
    LSt X (.Assign [.Tuple [.Name x px, .Name y py] kt pt] (.Tuple [a, b] k2 pt2) pos) (lPar i j ta) := by
  refine ⟨PS.imp (ps_par hc hN hi hj hij hx hy ha.pa hw hs) fun D σ H ⟨m, env, h, P, at_, t1, k⟩ => ⟨m, env, h, _, at_, t1, fun vs h1 p1 m1 H1 xs E1 R1 r1 => ?_⟩⟩
  split at p1
  · obtain ⟨v, w, rfl, a, b⟩ := r1.two_inv
    exact ⟨v, w, rfl, k.nx _ _ p1 m1 H1 _ E1 ⟨R1, ((at_.nm.ex E1).set a i).set b j⟩⟩
  · exact p1.elim
/-- l[i] = v of a list -/
def setE (o i v : EV) (h : EH) (P : EH → Prop) : Prop := match o, i with
  | .ref r, .int k => match h[r]? with
    | some (.lst xs) => match ixN xs.length k with
      | some j => P (h.set r (.lst (xs.set j v)))
      | none => False
    | _ => False
  | _, _ => False
theorem set_sim {K : PySem.W.Frag} {m : Nat → Addr} {h : EH} {H : Hp} {o i v : EV} {x y z : V} {P : EH → Prop} {Q : Hp → Prop} (R : RelH K m h H) (rx : RelE K m h.length H o x) (ry : RelE K m h.length H i y) (rz : RelE K m h.length H v z) (q : setE o i v h P)
    (k : ∀ h', P h' → ∀ H', Ex K m h.length H m h'.length H' → RelH K m h' H' → Q H') : rSetL x y z H Q := by
  unfold setE at q
  split at q
  · rw [RelE] at rx
    rw [RelE] at ry
    obtain ⟨_, rfl⟩ := rx
    subst ry
    split at q
    · rename_i ls e
      obtain ⟨vs, a, r⟩ := R.obj _ _ e
      split at q
      · rename_i j ej
        refine ⟨_, vs, _, j, rfl, rfl, a, by rw [← r.length]; exact ej, ?_⟩
        have E := Ex.write (o := .lst (vs.set j z)) (e' := EO.lst (List.set ls j v)) R e
        exact k _ q _ E (R.write e ⟨_, upd_same, RelEs.set (RelE.ex E _ _ rz) j (RelEs.ex E _ _ r)⟩)
      · exact q.elim
    · exact q.elim
  · exact q.elim
def lSetI (to ti te : LT) : LS := fun D env h => te env h fun v h1 => to env h1 fun o h2 => ti env h2 fun i h3 => setE o i v h3 fun h4 => D.nx env h4
theorem ls_setI {o i e : Expr} {to ti te : LT} {tpos : Pos} (he : LE X e te) (ho : LE X o to) (hi : LE X i ti) (ha : ∀ v, assign (.Subscript o i tpos) X.env v = (do
      let ov ← holding [v] (eval o X.env)
      let iv ← holding [v, ov] (eval i X.env)
      standAt tpos
      holding [v, ov, iv] (setItem ov iv v)
      release [v, ov, iv] []) := by intro _; rfl) (hs : swapsWithSole [.Subscript o i tpos] e pos.line X.env = pure false := by rfl) (hw : swappedStores [.Subscript o i tpos] e X.env = pure none := by rfl)
    (h1 : (assignEach [.Subscript o i tpos] X.env).map (·.2) = [assign (.Subscript o i tpos) X.env] := by rfl) : LSt X (.Assign [.Subscript o i tpos] e pos) (lSetI to ti te) :=
  ⟨PS.imp (ps_asg he.pe (pg_sub ho.pe hi.pe set_list ha) hs hw h1) fun D σ H ⟨m, env, h, P, at_, t1, k⟩ => ⟨m, env, h, _, at_, t1, fun v h1 p1 m1 H1 x E1 R1 r1 =>
    ⟨m1, env, h1, _, at_.ex E1 R1, p1, fun o h2 p2 m2 H2 y E2 R2 r2 => ⟨m2, env, h2, _, (at_.ex E1 R1).ex E2 R2, p2, fun i h3 p3 m3 H3 z E3 R3 r3 =>
      set_sim R3 (RelE.ex E3 _ _ r2) r3 (RelE.ex (E2.trans E3) _ _ r1) p3 fun h4 p4 H4 E4 R4 => k.nx _ _ p4 m3 H4 σ (((E1.trans E2).trans E3).trans E4) ((((at_.ex E1 R1).ex E2 R2).ex E3 R3).ex E4 R4)⟩⟩⟩⟩
/-- l[i] op= e of ints -/
def getE (v w : EV) (h : EH) (P : EV → Prop) : Prop := match v, w with
  | .ref r, .int i => match h[r]? with
    | some (.lst xs) => 0 ≤ i ∧ match xs[i.toNat]? with
      | some x => P x
      | none => False
    | _ => False
  | _, _ => False
def lAugS (f : Int → Int → Int) (to ti te : LT) : LS := fun D env h => to env h fun o h1 => ti env h1 fun i h2 => getE o i h2 fun x => te env h2 fun y h4 => match x, y with
  | .int a, .int b => setE o i (.int (f a b)) h4 fun h5 => D.nx env h5
  | _, _ => False
def rGetN (K : PySem.W.Frag) : R2 := fun o i H Q => ∃ (p : Addr) (xs : List V) (k : Int) (x : V), o = .ref p ∧ i = .int k ∧ SqL K H p xs ∧ 0 ≤ k ∧ xs[k.toNat]? = some x ∧ Q x H
theorem pget_list : PGet X (rGetN X.K) := by
  intro pins s σ H o i ov iv Q I ro ri q
  obtain ⟨p, xs, k, x, rfl, rfl, hq, h0, hx, q⟩ := q
  cases ro
  obtain ⟨t, rfl⟩ := ri
  obtain ⟨its, rv, pl, hz⟩ := I.list hq
  obtain ⟨u, hu, ru⟩ := rv.get hx
  have hlt := (List.getElem?_eq_some_iff.mp hx).1
  have hs : sizeLine = 16777216 := by decide
  exact wpAny_getItem_list pl.isList h0 (by omega) (by simpa using hu) ⟨x, H, I, ru, q⟩
theorem ls_augS {o i e : Expr} {to ti te : LT} {op : Operator} {f : Int → Int → Int} {tpos : Pos} (hp : PIp X op (ipI f)) (ho : LE X o to) (hi : LE X i ti) (he : LE X e te)
    (ha : ∀ ov iv new, augStore i ov iv new = (do holding [new, ov, iv] (setItem ov iv new); release [new, ov, iv] []; pure .next) := by intros; rfl) : LSt X (.AugAssign (.Subscript o i tpos) op e pos) (lAugS f to ti te) := by
  refine ⟨PS.imp (ps_augS ho.pe hi.pe pget_list he.pe hp set_list ha) fun D σ H ⟨m, env, h, P, at_, t1, k⟩ => ⟨m, env, h, _, at_, t1, fun o h1 p1 m1 H1 x E1 R1 r1 => ⟨m1, env, h1, _, at_.ex E1 R1, p1, fun i h2 p2 m2 H2 y E2 R2 r2 => ?_⟩⟩⟩
  have ro2 := RelE.ex E2 _ _ r1
  unfold getE at p2
  split at p2
  · have ro := ro2
    have ri := r2
    rw [RelE] at ro
    rw [RelE] at ri
    obtain ⟨_, e1⟩ := ro
    split at p2
    · rename_i ls e
      obtain ⟨vs, a, r⟩ := R2.obj _ _ e
      obtain ⟨h0, p2⟩ := p2
      split at p2
      · rename_i w ew
        obtain ⟨u, hu, ru⟩ := r.at ew
        refine ⟨_, vs, _, u, e1, ri, SqL.of a, h0, hu, m2, env, h2, _, (at_.ex E1 R1).ex E2 R2, p2, fun v h3 p3 m3 H3 z E3 R3 r3 => ?_⟩
        have ru3 := RelE.ex E3 _ _ ru
        split at p3
        · rw [RelE] at ru3
          rw [RelE] at r3
          refine ⟨_, _, ru3, r3, ?_⟩
          exact set_sim R3 (RelE.ex E3 _ _ ro2) (RelE.ex E3 _ _ r2) (by rw [RelE]) p3 fun h4 p4 H4 E4 R4 => k.nx _ _ p4 m3 H4 σ (((E1.trans E2).trans E3).trans E4) ((((at_.ex E1 R1).ex E2 R2).ex E3 R3).ex E4 R4)
        · exact p3.elim
      · exact p2.elim
    · exact p2.elim
  · exact p2.elim
end
/-! ### what a loop walks -/
/-- the items, told ahead; the guard: what must hold of the heap at each turn -/
abbrev LI := En → EH → ((EH → Prop) → List EV → EH → Prop) → Prop
/-- the iterator J yields the items xs, as long as g holds of the heap -/
def SimIt (K : PySem.W.Frag) (m : Nat → Addr) (n : Nat) (H : Hp) (J : It) (g : EH → Prop) (xs : List EV) : Prop :=
  ∀ (i : Nat) (h' : EH) (m' : Nat → Addr) (H' : Hp), Ex K m n H m' h'.length H' → RelH K m' h' H' → g h' →
    (∀ x, xs[i]? = some x → J.go i H' ∧ ∀ v H2, J.yld i H' v H2 → Ex K m' h'.length H' m' h'.length H2 ∧ RelH K m' h' H2 ∧ RelE K m' h'.length H2 x v) ∧ (xs.length = i → J.stop i H')
def upI (K : PySem.W.Frag) (t : LI) : TI := fun σ H R => ∃ m env h P, At K env h m σ H ∧ t env h P ∧
  ∀ g xs h', P g xs h' → ∀ (m' : Nat → Addr) (H' : Hp) (J : It), Ex K m h.length H m' h'.length H' → RelH K m' h' H' → SimIt K m' h'.length H' J g xs → R J H'
structure LIt (X : Cx) (tg iter : Expr) (t : LI) : Prop where
  pi : PI X tg iter (upI X.K t)
def lTrue : EH → Prop := fun _ => True
def loopE (g : EH → Prop) (p : Pat) (tb : LS) (D : LEnds) : List EV → En → EH → Prop
  | [], env, h => g h ∧ D.nx env h
  | x :: xs, env, h => g h ∧ lBind p x env fun env2 => tb { D with nx := loopE g p tb D xs, ct := loopE g p tb D xs, bk := D.nx } env2 h
def lFor (ti : LI) (p : Pat) (tb : LS) : LS := fun D env h => ti env h fun g xs h1 => loopE g p tb D xs env h1
def whileE (c : LTt) (tb : LS) (D : LEnds) : Nat → En → EH → Prop
  | 0, _, _ => False
  | n + 1, env, h => c env h fun b h1 => if b = true then tb { D with nx := whileE c tb D n, ct := whileE c tb D n, bk := D.nx } env h1 else D.nx env h1
def lWhile (c : LTt) (tb : LS) : LS := fun D env h => ∃ n, whileE c tb D n env h
section
variable {X : Cx} {pos : Pos}
theorem ls_for {tg iter : Expr} {body : List Stmt} {ti : LI} {p : Pat} {tb : LS} (hp : PassesOwn (model X.prog X.w) X.A X.env X.xe) (hc : X.calm = true) (hi : LIt X tg iter ti) (hg : LG X tg p) (hb : LSs X body tb)
    (hs : ∀ x, foldedSetIterable iter X.env x = pure x := by intro _; rfl) : LSt X (.For tg iter body [] pos) (lFor ti p tb) := by
  refine ⟨PS.imp (ps_for hp hc hi.pi hg.pg hb.pss hs) fun D σ H ⟨m, env, h, P, at_, t1, k⟩ => ⟨m, env, h, _, at_, t1, fun g xs h1 p1 m1 H1 J E1 R1 sim => ?_⟩⟩
  refine ⟨fun i c σ' H' => c = xs.length - i ∧ i ≤ xs.length ∧ ∃ m2 env2 h2, Ex X.K m1 h1.length H1 m2 h2.length H' ∧ At X.K env2 h2 m2 σ' H' ∧ loopE g p tb P (xs.drop i) env2 h2, ⟨xs.length, by simp, Nat.zero_le _, m1, env, h1, .refl, at_.ex E1 R1, by simpa using p1⟩, ?_⟩
  rintro i c σ' H' ⟨rfl, hi, m2, env2, h2, E2, a2, q⟩
  by_cases hlt : i < xs.length
  · have ed : xs.drop i = xs[i] :: xs.drop (i + 1) := List.drop_eq_getElem_cons hlt
    rw [ed, loopE] at q
    obtain ⟨qg, q⟩ := q
    obtain ⟨s1, s2⟩ := sim i h2 m2 H' E2 a2.hp qg
    obtain ⟨go, yl⟩ := s1 xs[i] (List.getElem?_eq_getElem hlt)
    refine .inr ⟨go, fun σ3 H3 => ∃ m3 env3 h3, Ex X.K m1 h1.length H1 m3 h3.length H3 ∧ At X.K env3 h3 m3 σ3 H3 ∧ loopE g p tb P (xs.drop (i + 1)) env3 h3, fun σ3 H3 ⟨m3, env3, h3, E3, a3, q3⟩ => ⟨xs.length - (i + 1), by omega, rfl, hlt, m3, env3, h3, E3, a3, q3⟩, fun v H3 y => ?_⟩
    obtain ⟨E3, R3, r3⟩ := yl v H3 y
    obtain ⟨env4, σ4, q4, f, R4, _, _⟩ := bind_sim (a2.nm.ex E3) r3 q
    refine f _ ⟨m2, env4, h2, _, ⟨R3, R4⟩, q4, ?_⟩
    have E13 := E2.trans E3
    have k13 := k.ex (E1.trans E13)
    exact ⟨fun e5 h5 p5 m5 H5 σ5 E5 a5 => ⟨m5, e5, h5, E13.trans E5, a5, p5⟩, k13.rt, k13.nx, fun e5 h5 p5 m5 H5 σ5 E5 a5 => ⟨m5, e5, h5, E13.trans E5, a5, p5⟩⟩
  · have e : i = xs.length := by omega
    subst e
    rw [List.drop_length, loopE] at q
    obtain ⟨_, s2⟩ := sim xs.length h2 m2 H' E2 a2.hp q.1
    exact .inl ⟨s2 rfl, k.nx _ _ q.2 m2 H' σ' (E1.trans E2) a2⟩
theorem ls_while {c : Expr} {body : List Stmt} {tc : LTt} {tb : LS} (hp : PassesOwn (model X.prog X.w) X.A X.env X.xe) (hc : LTe X c tc) (hb : LSs X body tb) : LSt X (.While c body [] pos) (lWhile tc tb) := by
  refine ⟨PS.imp (ps_while hp hc.pt hb.pss) fun D σ H ⟨m, env, h, P, at_, t1, k⟩ => ?_⟩
  obtain ⟨n, t1⟩ := t1
  refine ⟨fun c σ' H' => ∃ m2 env2 h2, Ex X.K m h.length H m2 h2.length H' ∧ At X.K env2 h2 m2 σ' H' ∧ whileE tc tb P c env2 h2, ⟨n, m, env, h, .refl, at_, t1⟩, ?_⟩
  rintro c σ' H' ⟨m2, env2, h2, E2, a2, q⟩
  cases c with
  | zero => exact q.elim
  | succ c =>
    rw [whileE] at q
    refine ⟨m2, env2, h2, _, a2, q, fun b h3 p3 m3 H3 E3 R3 => ?_⟩
    cases b with
    | true =>
      rw [if_pos rfl] at p3 ⊢
      have E13 := E2.trans E3
      have k13 := k.ex E13
      refine ⟨fun σ4 H4 => ∃ m4 env4 h4, Ex X.K m h.length H m4 h4.length H4 ∧ At X.K env4 h4 m4 σ4 H4 ∧ whileE tc tb P c env4 h4, fun σ4 H4 q4 => ⟨c, Nat.lt_succ_self c, q4⟩, m3, env2, h3, _, a2.ex E3 R3, p3, ?_⟩
      exact ⟨fun e5 h5 p5 m5 H5 σ5 E5 a5 => ⟨m5, e5, h5, E13.trans E5, a5, p5⟩, k13.rt, k13.nx, fun e5 h5 p5 m5 H5 σ5 E5 a5 => ⟨m5, e5, h5, E13.trans E5, a5, p5⟩⟩
    | false =>
      rw [if_neg Bool.false_ne_true] at p3 ⊢
      exact k.nx _ _ p3 m3 H3 σ' (E2.trans E3) (a2.ex E3 R3)
/-! ### sources -/
/-- a list (as it stands at each turn), a tuple, a text -/
def lIt (t : LT) : LI := fun env h P => t env h fun v h1 => match v with
  | .ref r => match h1[r]? with
    | some (.lst xs) => P (fun h' => h'[r]? = some (.lst xs)) xs h1
    | some (.frz xs) => P (fun h' => h'[r]? = some (.frz xs)) xs h1
    | _ => False
  | .tup xs => P lTrue xs h1
  | .str s => P lTrue (s.map fun c => .str [c]) h1
  | _ => False
def iAny (K : PySem.W.Frag) (te : TE) : TI := fun σ H R => te σ H fun x H1 => (∃ a, x = .ref a ∧ (∃ xs, SqL K H1 a xs) ∧ R (Itl K a) H1) ∨ (∃ a, x = .ref a ∧ (∃ xs, SqT K H1 a xs) ∧ R (Itt K a) H1) ∨ ∃ z, x = .str z ∧ R (Its z) H1
theorem pi_any {tg e : Expr} {te : TE} (he : PE X e te) : PI X tg e (iAny X.K te) := by
  refine ⟨fun pins s σ H R I h => thn (he.run pins s σ H _ I h) fun v s1 ⟨x, H1, I1, r1, q⟩ => ?_⟩
  rcases q with ⟨a, rfl, ⟨xs, hq⟩, q⟩ | ⟨a, rfl, ⟨xs, hq⟩, q⟩ | ⟨z, rfl, q⟩
  · cases r1
    obtain ⟨its, rv, p, hz⟩ := I1.list hq
    exact wpAny_pyIter_list p.isList (pi_one (tk := s1.toks) I1 _ (turn_list a _) ⟨_, Heap.get?_push_size _ rfl, rfl, rfl⟩ q)
  · cases r1
    obtain ⟨its, rv, p, hz⟩ := I1.tuple hq
    exact wpAny_pyIter_tuple (show s1.heap.IsTuple a its.toArray from p) (pi_one (tk := s1.toks) I1 _ (turn_tuple a _) ⟨_, Heap.get?_push_size _ rfl, rfl, rfl⟩ q)
  · obtain ⟨t, rfl⟩ := r1
    cases ha : z.cps.all (· < 128)
    · exact wpAny_pyIter_wide ha (pi_one (tk := s1.toks) I1 _ (turn_str _ z t "str_iterator" (.inr rfl)) ⟨_, Heap.get?_push_size _ rfl, rfl, rfl⟩ q)
    · exact wpAny_pyIter_ascii ha (pi_one (tk := s1.toks) I1 _ (turn_str _ z t "str_ascii_iterator" (.inl rfl)) ⟨_, Heap.get?_push_size _ rfl, rfl, rfl⟩ q)
theorem SimIt.lst {K : PySem.W.Frag} {m : Nat → Addr} {n r : Nat} {H : Hp} {xs : List EV} {g : EH → Prop} (hr : r < n)
    (hh : ∀ h' m' H', Ex K m n H m' h'.length H' → RelH K m' h' H' → g h' → ∃ us, SqL K H' (m' r) us ∧ RelEs K m' h'.length H' xs us) : SimIt K m n H (Itl K (m r)) g xs := by
  intro i h' m' H' E' R' gh
  obtain ⟨us, s1, r1⟩ := hh h' m' H' E' R' gh
  rw [E'.eq r hr] at s1
  refine ⟨fun x hx => ?_, fun hi => ⟨us, s1, by rw [← r1.length]; exact Nat.le_of_eq hi⟩⟩
  obtain ⟨u, hu, ru⟩ := r1.at hx
  refine ⟨⟨us, u, s1, hu⟩, fun v H2 ⟨e, y⟩ => ?_⟩
  subst e
  have := y us s1
  rw [hu] at this
  cases this
  exact ⟨.refl, R', ru⟩
theorem lit_any {tg e : Expr} {t : LT} (he : LE X e t) : LIt X tg e (lIt t) := by
  refine ⟨PI.imp (pi_any he.pe) fun σ H R ⟨m, env, h, P, at_, t1, k⟩ => ⟨m, env, h, _, at_, t1, fun v h1 p1 m1 H1 x E1 R1 r1 => ?_⟩⟩
  split at p1
  · rename_i r
    rw [RelE] at r1
    obtain ⟨hr, rfl⟩ := r1
    split at p1
    · rename_i xs e
      obtain ⟨vs, a, r2⟩ := R1.obj _ _ e
      refine .inl ⟨_, rfl, ⟨vs, SqL.of a⟩, k _ xs h1 p1 m1 H1 _ E1 R1 (SimIt.lst hr fun h' m' H' E' R' gh => ?_)⟩
      obtain ⟨us, a', r'⟩ := R'.obj _ _ gh
      exact ⟨us, SqL.of a', r'⟩
    · rename_i xs e
      obtain ⟨vs, a, r2⟩ := R1.obj _ _ e
      refine .inl ⟨_, rfl, ⟨vs, a.sql⟩, k _ xs h1 p1 m1 H1 _ E1 R1 (SimIt.lst hr fun h' m' H' E' R' gh => ?_)⟩
      obtain ⟨us, a', r'⟩ := R'.obj _ _ gh
      exact ⟨us, a'.sql, r'⟩
    · exact p1.elim
  · rename_i xs
    rw [RelE] at r1
    obtain ⟨a, vs, rfl, hs, r2⟩ := r1
    refine .inr (.inl ⟨_, rfl, ⟨vs, hs⟩, k _ xs h1 p1 m1 H1 _ E1 R1 fun i h' m' H' E' R' _ => ?_⟩)
    have hs' := E'.tup _ _ hs
    have r' := RelEs.ex E' _ _ r2
    refine ⟨fun x hx => ?_, fun hi => ⟨vs, hs', by rw [← r'.length]; exact Nat.le_of_eq hi⟩⟩
    obtain ⟨u, hu, ru⟩ := r'.at hx
    refine ⟨⟨vs, u, hs', hu⟩, fun v H2 ⟨e, y⟩ => ?_⟩
    subst e
    have := y vs hs'
    rw [hu] at this
    cases this
    exact ⟨.refl, R', ru⟩
  · rename_i s
    rw [RelE] at r1
    subst r1
    refine .inr (.inr ⟨_, rfl, k _ _ h1 p1 m1 H1 _ E1 R1 fun i h' m' H' E' R' _ => ?_⟩)
    refine ⟨fun x hx => ?_, fun hi => ?_⟩
    · rw [List.getElem?_map] at hx
      obtain ⟨c, hc, rfl⟩ := Option.map_eq_some_iff.mp hx
      have hl := (List.getElem?_eq_some_iff.mp hc).1
      refine ⟨by show i < s.toArray.size; simpa using hl, fun v H2 ⟨e, c', hc', y⟩ => ?_⟩
      subst e y
      have e2 : s[i]? = some c' := by simpa using hc'
      rw [hc] at e2
      cases e2
      exact ⟨.refl, R', by rw [RelE]⟩
    · show s.toArray.size ≤ i
      simpa using Nat.le_of_eq hi
  · exact p1.elim
/-- range -/
def rangeL (lo : Int) (n : Nat) : List EV := (List.range n).map fun (i : Nat) => EV.int (lo + i)
def lRng1 (ta : LA) : LI := fun env h P => ta env h fun vs h1 => match vs with
  | [.int j] => (-(2 ^ 62) ≤ j ∧ j < 2 ^ 62) ∧ P lTrue (rangeL 0 j.toNat) h1
  | _ => False
def lRng2 (ta : LA) : LI := fun env h P => ta env h fun vs h1 => match vs with
  | [.int i, .int j] => (-(2 ^ 62) ≤ i ∧ i < 2 ^ 62 ∧ -(2 ^ 62) ≤ j ∧ j < 2 ^ 62) ∧ P lTrue (rangeL i (j - i).toNat) h1
  | _ => False
theorem SimIt.rng {K : PySem.W.Frag} {m : Nat → Addr} {n : Nat} {H : Hp} {lo : Int} {k : Nat} {g : EH → Prop} : SimIt K m n H (Itr lo k) g (rangeL lo k) := by
  intro i h' m' H' E' R' gh
  unfold rangeL
  refine ⟨fun x hx => ?_, fun hi => by show k ≤ i; simpa using Nat.le_of_eq hi⟩
  rw [List.getElem?_map] at hx
  obtain ⟨j, hj, rfl⟩ := Option.map_eq_some_iff.mp hx
  obtain ⟨hl, e⟩ := List.getElem?_eq_some_iff.mp hj
  rw [List.length_range] at hl
  rw [List.getElem_range] at e
  subst e
  refine ⟨hl, fun v H2 ⟨e1, e2⟩ => ?_⟩
  subst e1 e2
  exact ⟨.refl, R', by rw [RelE]⟩
theorem lit_range1 {tg a : Expr} {ta : LA} {p pos : Pos} (hg : Gl X "range") (hm : X.mg "range" = none) (ha : LAs X [a] ta) (hs : starEach [a] X.env = [(false, eval a X.env)] := by rfl) : LIt X tg (.Call (.Name "range" p) [a] [] pos) (lRng1 ta) := by
  refine ⟨PI.imp (pi_range1 hg hm ha.pa hs) fun σ H R ⟨m, env, h, P, at_, t1, k⟩ => ⟨m, env, h, _, at_, t1, fun vs h1 p1 m1 H1 xs E1 R1 r1 => ?_⟩⟩
  split at p1
  · obtain ⟨v, rfl, r2⟩ := r1.one_inv
    rw [RelE] at r2
    subst r2
    exact ⟨_, rfl, p1.1.1, p1.1.2, k _ _ h1 p1.2 m1 H1 _ E1 R1 SimIt.rng⟩
  · exact p1.elim
theorem lit_range2 {tg a b : Expr} {ta : LA} {p pos : Pos} (hg : Gl X "range") (hm : X.mg "range" = none) (ha : LAs X [a, b] ta) (hs : starEach [a, b] X.env = [(false, eval a X.env), (false, eval b X.env)] := by rfl) (hs2 : starEach [b] X.env = [(false, eval b X.env)] := by rfl) :
    LIt X tg (.Call (.Name "range" p) [a, b] [] pos) (lRng2 ta) := by
  refine ⟨PI.imp (pi_range2 hg hm ha.pa hs hs2) fun σ H R ⟨m, env, h, P, at_, t1, k⟩ => ⟨m, env, h, _, at_, t1, fun vs h1 p1 m1 H1 xs E1 R1 r1 => ?_⟩⟩
  split at p1
  · obtain ⟨v, w, rfl, r2, r3⟩ := r1.two_inv
    rw [RelE] at r2
    rw [RelE] at r3
    subst r2 r3
    exact ⟨_, _, rfl, p1.1, k _ _ h1 p1.2 m1 H1 _ E1 R1 SimIt.rng⟩
  · exact p1.elim
/-! ### comprehensions -/
def wipeE (env : En) : List Nat → En
  | [] => env
  | v :: vs => (wipeE env vs).set v none
theorem RelN.wipe {K : PySem.W.Frag} {m : Nat → Addr} {n : Nat} {H : Hp} {env : En} {σ : L2.St} (R : RelN K m n H env σ) : ∀ vs, RelN K m n H (wipeE env vs) (wipe σ vs)
  | [] => R
  | v :: vs => by
    have r := RelN.wipe R vs
    unfold wipeE L2.wipe
    refine ⟨by simpa using r.1, fun j w hj => ?_⟩
    by_cases e : v = j
    · subst e
      have hl : v < (wipeE env vs).length := by
        have := (List.getElem?_eq_some_iff.mp hj).1
        simpa using this
      rw [List.getElem?_set_self hl] at hj
      cases hj
    · rw [List.getElem?_set_ne e] at hj ⊢
      exact r.2 j w hj
theorem wipe_at (σ : L2.St) : ∀ (vs : List Nat) (i : Nat), (wipe σ vs)[i]? = if i ∈ vs then (σ[i]?).map (fun _ => none) else σ[i]?
  | [], i => by simp [L2.wipe]
  | v :: vs, i => by
    unfold L2.wipe
    rw [List.getElem?_set, wipe_at σ vs i, wipe_length]
    by_cases e : v = i
    · subst e
      by_cases hl : v < σ.length
      · simp [hl]
      · simp [hl]
    · have : ¬ i = v := fun z => e z.symm
      simp [e, this]
/-- stores into the block's own slots alone -/
theorem wipe_back {σ σ' : L2.St} {vs ss : List Nat} (h : ∀ i, i ∉ ss → σ'[i]? = (wipe σ vs)[i]?) (hs : ∀ i ∈ ss, i ∈ vs) (hl : σ'.length = σ.length) : wipe σ' vs = wipe σ vs := by
  refine List.ext_getElem? fun i => ?_
  rw [wipe_at, wipe_at]
  by_cases hv : i ∈ vs
  · rw [if_pos hv, if_pos hv]
    by_cases hi : i < σ.length
    · rw [List.getElem?_eq_getElem hi, List.getElem?_eq_getElem (by omega)]; rfl
    · rw [List.getElem?_eq_none (by omega), List.getElem?_eq_none (by omega)]
  · rw [if_neg hv, if_neg hv, h i fun z => hv (hs i z), wipe_at, if_neg hv]
structure LTs (X : Cx) (ifs : List Expr) (t : LTt) : Prop where
  pts : PTs X ifs (upT X.K t)
def lYes : LTt := fun _ h P => P true h
theorem PTs.imp {e : List Expr} {t t' : TT} (h : PTs X e t) (i : ∀ σ H Q, t' σ H Q → t σ H Q) : PTs X e t' := ⟨fun pins s σ H Q I q => h.run pins s σ H Q I (i σ H Q q)⟩
theorem lts_nil : LTs X [] lYes := ⟨PTs.imp pts_nil fun σ H Q ⟨m, env, h, P, at_, t1, k⟩ => k _ _ t1 m H .refl at_.hp⟩
theorem lts_one {c : Expr} {t : LTt} (h : LTe X c t) : LTs X [c] t := ⟨pts_one h.pt⟩
/-- the loop of a list comprehension: the list made stands at d -/
def lcE (g : EH → Prop) (p : Pat) (tt : LTt) (te : LT) (d : Nat) (env : En) (P : EK) : List EV → EH → Prop
  | [], h => g h ∧ P (.ref d) h
  | x :: xs, h => g h ∧ lBind p x env fun env2 => tt env2 h fun b h3 => if b = true then te env2 h3 fun y h4 => match h4[d]? with
      | some (.lst acc) => acc.length < sizeLine ∧ lcE g p tt te d env P xs (h4.set d (.lst (acc ++ [y])))
      | _ => False
    else lcE g p tt te d env P xs h3
def lLc (ti : LI) (p : Pat) (tt : LTt) (te : LT) (vs : List Nat) : LT := fun env h P => ti env h fun g xs h1 => lcE g p tt te h1.length (wipeE env vs) P xs (h1 ++ [.lst []])
theorem le_lc {elt tg iter : Expr} {ifs : List Expr} {scope : Scope} (own : List (Str × Nat)) {ti : LI} {p : Pat} {tt : LTt} {te : LT} (hc : X.calm = true) (hN : X.N.Nodup) (hi : LIt X tg iter ti) (ok : BlkOk X.N X.env.scope scope own)
    (hp : ∀ i ∈ Pat.slots p, i ∈ own.map (·.2))
    (hg : ∀ (s : Shared) (H : Hp) (C : Addr) (cl : List (Str × Addr)) (fp : List Addr), LG (X.blk s H scope (compEnvC scope cl C X.env) fp) tg p)
    (ht : ∀ (s : Shared) (H : Hp) (C : Addr) (cl : List (Str × Addr)) (fp : List Addr), LTs (X.blk s H scope (compEnvC scope cl C X.env) fp) ifs tt)
    (he : ∀ (s : Shared) (H : Hp) (C : Addr) (cl : List (Str × Addr)) (fp : List Addr), LE (X.blk s H scope (compEnvC scope cl C X.env) fp) elt te) (hs : ∀ x, foldedSetIterable iter X.env x = pure x := by intro _; rfl) :
    LE X (.ListComp elt [⟨tg, iter, ifs, 0⟩] scope pos) (lLc ti p tt te (own.map (·.2))) := by
  refine ⟨PE.imp (pe_lc (g := gP X.K p) (tt := upT X.K tt) (te := up X.K te) hc hN hi.pi ok (fun s H C cl fp => (hg s H C cl fp).pg) (fun s H C cl fp => (ht s H C cl fp).pts) (fun s H C cl fp => (he s H C cl fp).pe) hs) fun σ H Q ⟨m, env, h, P, at_, t1, k⟩ => ⟨m, env, h, _, at_, t1, fun g xs h1 p1 m1 H1 J E1 R1 sim D hD => ?_⟩⟩
  have E2 : Ex X.K m1 h1.length H1 (mput m1 h1.length D) (h1 ++ [EO.lst []]).length (upd H1 D (.lst [])) := Ex.new hD
  have R2 : RelH X.K (mput m1 h1.length D) (h1 ++ [EO.lst []]) (upd H1 D (.lst [])) := R1.new hD ⟨[], upd_same, .nil⟩
  refine ⟨fun i c H' => c = xs.length - i ∧ i ≤ xs.length ∧ ∃ m2 h2, Ex X.K m1 h1.length H1 m2 h2.length H' ∧ RelH X.K m2 h2 H' ∧ m2 h1.length = D ∧ h1.length < h2.length ∧ lcE g p tt te h1.length (wipeE env (own.map (·.2))) P (xs.drop i) h2,
    ⟨xs.length, by simp, Nat.zero_le _, _, _, E2, R2, mput_at, by simp, by simpa using p1⟩, ?_⟩
  rintro i c H' ⟨rfl, hi, m2, h2, E3, R3, eD, lD, q⟩
  by_cases hlt : i < xs.length
  · have ed : xs.drop i = xs[i] :: xs.drop (i + 1) := List.drop_eq_getElem_cons hlt
    rw [ed, lcE] at q
    obtain ⟨qg, q⟩ := q
    obtain ⟨s1, s2⟩ := sim i h2 m2 H' E3 R3 qg
    obtain ⟨go, yl⟩ := s1 xs[i] (List.getElem?_eq_getElem hlt)
    refine .inr ⟨go, fun H4 => ∃ m4 h4, Ex X.K m1 h1.length H1 m4 h4.length H4 ∧ RelH X.K m4 h4 H4 ∧ m4 h1.length = D ∧ h1.length < h4.length ∧ lcE g p tt te h1.length (wipeE env (own.map (·.2))) P (xs.drop (i + 1)) h4,
      fun H4 q4 => ⟨xs.length - (i + 1), by omega, rfl, hlt, q4⟩, fun v H4 y => ?_⟩
    obtain ⟨E4, R4, r4⟩ := yl v H4 y
    have E14 := (E1.trans E3).trans E4
    obtain ⟨env5, σ5, q5, f, N5, keep, len⟩ := bind_sim ((at_.nm.ex E14).wipe (own.map (·.2))) r4 q
    refine f _ ⟨wipe_back (ss := Pat.slots p) keep hp (by rw [len, wipe_length]), m2, env5, h2, _, ⟨R4, N5⟩, q5, fun b h6 p6 m6 H6 E6 R6 => ?_⟩
    have E16 := (E3.trans E4).trans E6
    have lt2 := E6.le
    have eD6 : m6 h1.length = D := (E6.eq _ lD).trans eD
    cases b with
    | false =>
      dsimp only
      rw [if_neg Bool.false_ne_true] at p6 ⊢
      exact ⟨m6, h6, E16, R6, eD6, by omega, p6⟩
    | true =>
      dsimp only
      rw [if_pos rfl] at p6 ⊢
      refine ⟨m6, env5, h6, _, ⟨R6, N5.ex E6⟩, p6, fun w h7 p7 m7 H7 y7 E7 R7 r7 => ?_⟩
      have lt7 := E7.le
      have eD7 : m7 h1.length = D := (E7.eq _ (by omega)).trans eD6
      split at p7
      · rename_i acc e7
        obtain ⟨vs, a, r⟩ := R7.obj _ _ e7
        rw [eD7] at a
        refine ⟨vs, a, by rw [← r.length]; exact p7.1, ?_⟩
        have E8 := Ex.write (o := .lst (vs ++ [y7])) (e' := EO.lst (acc ++ [w])) R7 e7
        have R8 := R7.write (o := .lst (vs ++ [y7])) (e' := EO.lst (acc ++ [w])) e7 ⟨_, upd_same, (RelEs.ex E8 _ _ r).app (.one (RelE.ex E8 _ _ r7))⟩
        rw [eD7] at E8 R8
        exact ⟨m7, _, (E16.trans E7).trans E8, R8, eD7, by simp; omega, p7.2⟩
      · exact p7.elim
  · have e : i = xs.length := by omega
    subst e
    rw [List.drop_length, lcE] at q
    obtain ⟨_, s2⟩ := sim xs.length h2 m2 H' E3 R3 q.1
    refine .inl ⟨s2 rfl, k _ _ q.2 m2 H' _ (E1.trans E3) R3 (by rw [RelE]; exact ⟨lD, by rw [eD]⟩)⟩
end
end Y

namespace Y
open PySem PySem.Spec PyProof.Rows L2

/-! ### defs: promises over trees. Nothing is being shown around (guards), so repr may be asked -/
abbrev LSp := List EV → EH → EK → Prop
def upSp (K : PySem.W.Frag) (sp : LSp) : List V → Hp → VK → Prop := fun vs H Q => ∃ m h evs P, RelH K m h H ∧ RelEs K m h.length H evs vs ∧ sp evs h P ∧ Kon K m h.length H P Q
structure FnG (P : Program) (w : World) (K : PySem.W.Frag) (mg : Str → Option Value) (base : Heap) (k : Nat) (f : Addr) (fd : FuncData) (ps : List Str) (sp : LSp) : Prop where
  len : ∀ evs h Q, sp evs h Q → evs.length = ps.length
  run : ∀ (A : Around) (outer : List Env) (s : Shared) (H : Hp) (args : Args) (us : List Value) (vs : List V) (Q : VK), Room k A → A.guards = some [] → Env0 P w K mg base A outer s H →
    BindsTo s fd args (ps.zip us) → Vals vs us → upSp K sp vs H Q → codeAny (model P w) A (.call (.ref f) args) (CR CX0 outer P w H s Q E0) s
def lCall (sp : LSp) (t : LA) : LT := fun env h P => t env h fun vs h1 => sp vs h1 P
section
variable {X : Cx} {k : Nat} {f : Addr} {fd : FuncData} {ps : List Str} {sp : LSp} {x : Str} {p pos : Pos} {e : Expr} {es : List Expr} {t : LA}
theorem upSp.len {K : PySem.W.Frag} {vs : List V} {H : Hp} {Q : VK} {n : Nat} (l : ∀ evs h Q, sp evs h Q → evs.length = n) (q : upSp K sp vs H Q) : vs.length = n := by
  obtain ⟨m, h, evs, P, R, r, s, _⟩ := q
  rw [← r.length]
  exact l _ _ _ s
theorem runG {pins : List (Addr × Obj)} {σ : L2.St} {H : Hp} {s : Shared} {Q : VK} {us : List Value} {vs : List V} (F : FnG X.prog X.w X.K X.mg X.base k f fd ps sp) (hr : Room k X.A) (hG : X.A.guards = some [])
    (hb : Binds X.K fd ps []) (I : Inv X pins σ H s) (r : Vals vs us) (q : upSp X.K sp vs H Q) : wpAny (model X.prog X.w) X.A (call (.ref f) us) (EP X pins σ Q) X.xe s := by
  have hl : us.length = ps.length := r.length.symm.trans (upSp.len F.len q)
  have b := hb s us I.kIn (by simpa using hl)
  rw [List.append_nil] at b
  refine wpAny_call (codeAny_mono (F.run X.A X.stack s H _ us vs Q hr hG I.env0 b r q) fun o s' ho => ?_)
  match o, ho with
  | .error _, ho => exact ho.elim
  | .ok (.ret u), ho => exact I.after ho
  | .ok .next, ho => exact ho.elim
  | .ok .brk, ho => exact ho.elim
  | .ok .cont, ho => exact ho.elim
theorem up_call {K : PySem.W.Frag} (σ : L2.St) (H : Hp) (Q : VK) (q : up K (lCall sp t) σ H Q) : upA K t σ H fun vs H1 => upSp K sp vs H1 Q := by
  obtain ⟨m, env, h, P, at_, t1, k⟩ := q
  exact ⟨m, env, h, _, at_, t1, fun vs h1 p1 m1 H1 xs E1 R1 r1 => ⟨m1, h1, vs, P, R1, r1, p1, k.ex E1⟩⟩
/-- f(e, ..) -/
theorem le_call (F : FnG X.prog X.w X.K X.mg X.base k f fd ps sp) (hr : Room k X.A) (hG : X.A.guards = some []) (hg : Gl X x) (hm : X.mg x = some (.ref f)) (hk : PySem.W.keepIn X.K (.ref f) = true) (hb : Binds X.K fd ps [])
    (ha : LAs X (e :: es) t) (hdb : (x == ("__debug__" : Str)) = false := by decide) (he : starEach (e :: es) X.env = (false, eval e X.env) :: starEach es X.env := by rfl) (hpl : (backTo pos (starEach es X.env)).any (·.1) = false := by rfl) :
    LE X (.Call (.Name x p) (e :: es) [] pos) (lCall sp t) :=
  ⟨⟨fun pins s σ H Q I q => wpAny_Call_Name_kw (ld_glob I hg hm (PySem.W.callWith_K (h₀ := X.base) I.ok.mod.kin hk (thn (ha.pa.run pos pins s σ H _ I (up_call σ H Q q)) fun us s1 ⟨vs, H1, I1, r, q1⟩ =>
    ⟨I1.kIn, runG F hr hG hb I1 r q1⟩) he hpl) hdb)⟩⟩
theorem le_call0 (F : FnG X.prog X.w X.K X.mg X.base k f fd ps sp) (hr : Room k X.A) (hG : X.A.guards = some []) (hg : Gl X x) (hm : X.mg x = some (.ref f)) (hk : PySem.W.keepIn X.K (.ref f) = true) (hb : Binds X.K fd ps [])
    (hdb : (x == ("__debug__" : Str)) = false := by decide) : LE X (.Call (.Name x p) [] [] pos) (lCall sp lNil) :=
  ⟨⟨fun pins s σ H Q I ⟨m, env, h, P, at_, t1, k⟩ => wpAny_Call_Name_kw (ld_glob I hg hm (PySem.W.callWith_K0 I.kIn hk (runG (us := []) (vs := []) F hr hG hb I .nil ⟨m, h, [], P, at_.hp, .nil, t1, k⟩)) hdb)⟩⟩
end
/-- the values at the entry -/
def startE (N : List Str) (vs : List EV) : En := vs.map some ++ List.replicate (N.length - vs.length) none
theorem start_rel {K : PySem.W.Frag} {m : Nat → Addr} {n : Nat} {H : Hp} (N : List Str) {evs : List EV} {vs : List V} (r : RelEs K m n H evs vs) : RelN K m n H (startE N evs) (start N vs) := by
  have l := r.length
  unfold startE L2.start
  refine ⟨by simp [l], fun i v h => ?_⟩
  by_cases hi : i < evs.length
  · rw [List.getElem?_append_left (by simpa using hi), List.getElem?_map] at h
    obtain ⟨w, hw, e⟩ := Option.map_eq_some_iff.mp h
    cases e
    obtain ⟨x, hx, rx⟩ := r.at hw
    exact ⟨x, by rw [List.getElem?_append_left (by simp; omega), List.getElem?_map, hx]; rfl, rx⟩
  · rw [List.getElem?_append_right (by simpa using hi), List.getElem?_replicate] at h
    split at h <;> cases h
abbrev endsOf (Q : EK) : LEnds := { nx := fun _ h => Q .non h, rt := Q }
/-- a def, by its body -/
theorem fnG_of {P : Program} {w : World} {K : PySem.W.Frag} {mg : Str → Option Value} {base : Heap} {k : Nat} {f : Addr} {fd : FuncData} {name qual : Str} {params : Arguments} {body : List Stmt} {scope : Scope} {N ps : List Str} {sp : LSp}
    (F : FunD K name qual params body scope [] [] f fd) (Sc : FnScope N ps scope) (len : ∀ evs h Q, sp evs h Q → evs.length = ps.length)
    (hbody : ∀ (cdv : Value) (A : Around) (outer : List Env) (s : Shared) (H : Hp), Room k (A.deeper (envOfC qual scope s.heap.objs.size f cdv)) → (A.deeper (envOfC qual scope s.heap.objs.size f cdv)).guards = some [] →
      ∃ t, LSs (cxOf CX0 P w K mg base N qual scope f cdv A outer s H E0).nox body t ∧ ∀ evs h Q, sp evs h Q → t (endsOf Q) (startE N evs) h) :
    FnG P w K mg base (k + 1) f fd ps sp := by
  obtain ⟨oc, od, dV, kV, doc, pm, an, cdv, ct, osl, rfl, lk, hcd, _, _⟩ := F.ex
  refine ⟨len, fun A outer s H args us vs Q hr hG e0 hb r q => ?_⟩
  have hl : vs.length = ps.length := upSp.len len q
  have keepB : ∀ b o, base.get? b = some o → s.heap.get? b = some o := fun b o e => (e0.bs b o e).1
  have inK := e0.mod.kin.keeps keepB
  obtain ⟨t, ht, hq⟩ := hbody cdv A outer s H (hr.deeper _) hG
  refine codeAny_call_function hr.depth (inK _ _ lk) rfl Sc.co Sc.gen rfl (PySem.W.codeRec_of inK hcd) (hb _ _ _ _ ?_)
  refine wpAny_newFunctionEnv_cells Sc.kind (fun y hy => ?_) fun env he s1 x => ?_
  · rcases Sc.par y.1 (List.of_mem_zip hy).1 with z | z
    · exact .inl z
    · exact .inr ⟨z, PySem.W.cellsFrom_some _ _ _ (.inl z)⟩
  · subst he
    refine ⟨(e0.mod.nolimit.keeps keepB).keeps x.toInCall.keep, codeAny_func ?_⟩
    obtain ⟨m, h, evs, Pk, R, re, sq, kq⟩ := q
    have I := inv_start (CX := CX0) (P := P) (w := w) (K := K) (mg := mg) (base := base) (E := E0) Sc hr.hd e0 hl r x
    have run := ht.pss.nox.run [] s1 (start N vs) H { nx := fun _ H' => Q .non H', rt := Q } I ⟨m, startE N evs, h, endsOf Pk, ⟨R, start_rel N re⟩, hq evs h Pk sq, ⟨fun env' h' p m' H' σ' E' a' => kq _ _ p m' H' _ E' a'.hp (by rw [RelE]), kq, fun _ _ z => z.elim, fun _ _ z => z.elim⟩⟩
    refine wpAny_mono run (fun fl s' hs => ?_) fun e s' hs => hs
    match fl, hs with
    | .ret u, ⟨v, σ', H', J, rv, z⟩ => exact ⟨v, H', J.os, J.bare, J.base, J.hok, rv, z⟩
    | .next, ⟨σ', H', J, z⟩ => exact ⟨.non, H', J.os, J.bare, J.base, J.hok, rfl, z⟩
    | .brk, ⟨_, _, _, z⟩ => exact z.elim
    | .cont, ⟨_, _, _, z⟩ => exact z.elim
/-! ### the law's own call -/
/-- what the law's def promises: a list of at most n ints comes in, True goes out -/
def spTop (n : Nat) : LSp := fun evs h Q => ∃ ns : List Int, evs = [.ref 0] ∧ h = [.frz (ns.map EV.int)] ∧ ns.length ≤ n ∧ ∀ h', Q (.bl true) h'
theorem rel_ints {K : PySem.W.Frag} {m : Nat → Addr} {n : Nat} {H : Hp} : ∀ ns : List Int, RelEs K m n H (ns.map EV.int) (ns.map V.int)
  | [] => .nil
  | i :: l => .cons (by rw [RelE]) (rel_ints l)
theorem up_top {K : PySem.W.Frag} {H : Hp} {a : Addr} {ns : List Int} {n : Nat} (hl : ns.length ≤ n) (hf : FrzL K H a (ns.map V.int)) : upSp K (spTop n) [.ref a] H fun v _ => v = .bl true := by
  refine ⟨fun _ => a, [.frz (ns.map EV.int)], [.ref 0], fun v _ => v = .bl true, ⟨fun r o hr => ?_, fun r q o u hr hq fo => ?_⟩, .one (by rw [RelE]; exact ⟨Nat.one_pos, rfl⟩), ⟨ns, rfl, rfl, hl, fun _ => rfl⟩, fun v h' e m' H' x E R r => ?_⟩
  · cases r with
    | zero =>
      cases hr
      exact ⟨_, hf, rel_ints ns⟩
    | succ r => simp at hr
  · cases r with
    | zero => cases hr; cases fo
    | succ r => simp at hr
  · subst e
    rw [RelE] at r
    exact r
section
variable {P : Program} {w : World} {K : PySem.W.Frag} {mg : Str → Option Value}
/-- the law is called where nothing else runs -/
theorem topCall {mb : Str → Option Value} {k n : Nat} {fa a : Addr} {fd : FuncData} {x : Str} {s₁ : Shared} {vs : List Value} {ns : List Int} (KX : K.In s₁.heap) (hns : s₁.heap.Ns mainGlobals mg) (hb : s₁.heap.Ns builtinsNs mb)
    (hbb : ∀ x : Str, x ≠ "__name__" → mb x = bootBuiltins x) (hlim : s₁.heap.NoLimit) (hg : s₁.gens = #[]) (ha : s₁.heap.get? a = some { cls := .type "list", data := .seq vs.toArray }) (hi : IntsAre vs ns) (hl : ns.length ≤ n) (hn : n ≤ sizeLine) (hr : Room k callerA)
    (F : ∀ base : Heap, K.In base → base.Ns mainGlobals mg → FnG P w K mg base k fa fd [x] (spTop n)) (hbind : ∀ (s : Shared) (u : Value), BindsTo s fd ⟨[u], []⟩ [(x, u)]) :
    codeAny (model P w) callerA (.call (.ref fa) ⟨[.ref a], []⟩) (fun r s' => r = .ok (.ret (.bool true)) ∧ OldK s₁.heap s'.heap ∧ s'.os = s₁.os ∧ AllBare s'.gens) s₁ := by
  -- H: the script, locked, or nothing at all
  have go : ∀ H : Hp, (∀ b u, H b = some u → b = a ∧ u = .frz { cls := .type "list", data := .seq vs.toArray } (.lst (ns.map V.int))) → (∀ u, H a = some u → K.lookup a = none) → FrzL K H a (ns.map V.int) →
      codeAny (model P w) callerA (.call (.ref fa) ⟨[.ref a], []⟩) (fun r s' => r = .ok (.ret (.bool true)) ∧ OldK s₁.heap s'.heap ∧ s'.os = s₁.os ∧ AllBare s'.gens) s₁ := by
    intro H hH hK hf
    have hok : HOk P w H s₁.heap := fun b u e => by
      obtain ⟨rfl, rfl⟩ := hH b u e
      exact ⟨ha, by rw [List.length_map]; omega, vs, _, vals_ints hi, ha⟩
    have off : ∀ {b : Addr} {o : Obj}, s₁.heap.get? b = some o → (b = a → H a = none) → (hidT s₁.heap H).get? b = some o := fun {b o} e z => hidT_get e (by
      cases q : H b with
      | none => rfl
      | some u =>
        have e2 := (hH b u q).1
        rw [e2, z e2] at q
        cases q)
    have ns' : ∀ {b : Addr} {m : Str → Option Value}, s₁.heap.Ns b m → (hidT s₁.heap H).Ns b m := fun {b m} ⟨o, es, ep, e, d, r⟩ => ⟨o, es, ep, off e (fun z => by
      subst z
      rw [ha] at e
      cases e
      cases (show Data.seq vs.toArray _ = Data.dict es ep from d)), d, r⟩
    have inB : K.In (hidT s₁.heap H) := fun b o e => off (KX b o e) fun z => by
      subst z
      cases q : H b with
      | none => rfl
      | some u => rw [hK u q] at e; cases e
    obtain ⟨ml, l1, l2⟩ := hlim
    have md : Mod K mg (hidT s₁.heap H) := ⟨inB, ns' hns, ⟨mb, ns' hb, hbb⟩, ⟨ml, ns' l1, l2⟩⟩
    have e0 : Env0 P w K mg (hidT s₁.heap H) callerA [] s₁ H := ⟨rfl, md, fun b o e => of_hidT e, Nat.le_of_eq (hidT_size _ _), trivial, fun b hb => (nomatch hb), hok, .of_eq hg⟩
    refine codeAny_mono ((F _ inB (ns' hns)).run callerA [] s₁ H ⟨[.ref a], []⟩ [.ref a] [.ref a] (fun v _ => v = .bl true) hr rfl e0 (hbind s₁ (.ref a)) (.cons rfl .nil) (up_top hl hf)) fun r s' h => ?_
    match r, h with
    | .error _, h => exact h.elim
    | .ok .next, h => exact h.elim
    | .ok .brk, h => exact h.elim
    | .ok .cont, h => exact h.elim
    | .ok (.ret u), ⟨v, H', os, bare, un, hok', rv, q⟩ =>
      have q' : v = .bl true := q
      subst q'
      have hu : u = Value.bool true := rv
      subst hu
      refine ⟨rfl, OldK.of_keep fun b o e => ?_, os, bare⟩
      cases z : H b with
      | none => exact un.keep b o e z (fun y => nomatch y) (fun y => nomatch y)
      | some t =>
        obtain ⟨rfl, rfl⟩ := hH b t z
        have z2 := un.frzs b _ _ z
        obtain ⟨e2, _⟩ := hok' b _ z2
        rw [ha] at e
        cases e
        exact e2
  cases hk : K.lookup a with
  | some o =>
    have e := KX a o hk
    rw [ha] at e
    cases e
    exact go (fun _ => none) (fun b u z => nomatch z) (fun u z => nomatch z) (.inr ⟨_, vs.toArray, _, hk, rfl, rfl, rfl, by rw [List.size_toArray, hi.length]; omega, by simpa using vals_ints hi⟩)
  | none =>
    refine go (fun b => if b = a then some (.frz { cls := .type "list", data := .seq vs.toArray } (.lst (ns.map V.int))) else none) (fun b u z => ?_) (fun _ _ => hk) (.inl ⟨_, if_pos rfl⟩)
    by_cases hb : b = a
    · rw [show (if b = a then some (HO.frz { cls := .type "list", data := .seq vs.toArray } (.lst (ns.map V.int))) else none) = _ from if_pos hb] at z
      cases z
      exact ⟨hb, rfl⟩
    · rw [show (if b = a then some (HO.frz { cls := .type "list", data := .seq vs.toArray } (.lst (ns.map V.int))) else none) = _ from if_neg hb] at z
      cases z
end
/-- a law's end, over a head by facts -/
theorem walkG {l : PySem.W.OpenLaw} {n k : Nat} {q : Program} {loose : List Str} {XP : (Str → Option Value) → Heap → Prop} {YP : World → Heap → Prop} {d : DefRec} {x : Str}
    (hn : l.most = some n) (hn2 : n ≤ sizeLine) (hdf : d.params.defaults = []) (hr : Room k callerA)
    (F : ∀ (w : World) (mg : Str → Option Value) (fa : Addr) (h : Heap), YP w h → h.Ns mainGlobals mg → mg d.name = some (.ref fa) →
      ∃ (K : PySem.W.Frag) (fd : FuncData), K.In h ∧ (∀ (s : Shared) (u : Value), BindsTo s fd ⟨[u], []⟩ [(x, u)]) ∧ ∀ base : Heap, K.In base → base.Ns mainGlobals mg → FnG l.prog w K mg base k fa fd [x] (spTop n)) :
    PySem.W.WalkO q loose XP YP l.row.toRowW d [] (fun f vs => PySem.call f vs) := by
  refine Att.attach_call hn hdf fun w s₀ s₁ mg mb fa o pm cd doc a vs ns G Y _ _ _ hmg hobj hints hlen hg => ?_
  obtain ⟨K, fd, KX, hb, hF⟩ := F w mg fa _ Y G.T.g hmg
  exact topCall KX G.T.g G.T.b G.T.builtins G.T.nolimit hg hobj hints hlen hn2 hr hF hb
end Y

namespace Y
open PySem PySem.Spec PyProof.Rows L2

/-! ### built-in functions -/
section
variable {X : Cx}
theorem RelKV.length {K : PySem.W.Frag} {m : Nat → Addr} {n : Nat} {H : Hp} : ∀ {es : List (EV × EV)} {vs : List (L2.Key × V)}, RelKV K m n H es vs → es.length = vs.length
  | [], _, r => by rw [RelKV] at r; subst r; rfl
  | _ :: _, _, r => by
    rw [RelKV] at r
    obtain ⟨k, v, l, rfl, _, _, r⟩ := r
    simp [RelKV.length r]
def lenE : LC := fun vs h P => match vs with
  | [.str s] => s.length ≤ sizeLine ∧ P (.int s.length) h
  | [.tup xs] => P (.int xs.length) h
  | [.ref r] => match h[r]? with
    | some (.lst xs) => P (.int xs.length) h
    | some (.frz xs) => P (.int xs.length) h
    | some (.dic xs) => P (.int xs.length) h
    | _ => False
  | _ => False
theorem lc_len : LCallR X (.builtin "len") lenE := by
  refine ⟨_, CallR.or call_len_str (CallR.or call_len_seq call_lenD), ?_⟩
  intro m h H vs xs P Q R r0 q k
  unfold lenE at q
  split at q
  · obtain ⟨v, rfl, r⟩ := r0.one_inv
    rw [RelE] at r
    subst r
    exact .inl ⟨_, rfl, by rw [S_len]; exact q.1, by rw [S_len]; exact k.same R q.2 (by rw [RelE])⟩
  · obtain ⟨v, rfl, r⟩ := r0.one_inv
    rw [RelE] at r
    obtain ⟨a, vs, rfl, hs, r⟩ := r
    exact .inr (.inl ⟨a, vs, rfl, .inr hs, by rw [← r.length]; exact k.same R q (by rw [RelE])⟩)
  · obtain ⟨v, rfl, r⟩ := r0.one_inv
    rw [RelE] at r
    obtain ⟨_, rfl⟩ := r
    split at q
    · rename_i e
      obtain ⟨vs, a, r⟩ := R.obj _ _ e
      exact .inr (.inl ⟨_, vs, rfl, .inl (SqL.of a), by rw [← r.length]; exact k.same R q (by rw [RelE])⟩)
    · rename_i e
      obtain ⟨vs, a, r⟩ := R.obj _ _ e
      exact .inr (.inl ⟨_, vs, rfl, .inl a.sql, by rw [← r.length]; exact k.same R q (by rw [RelE])⟩)
    · rename_i e
      obtain ⟨vs, a, r⟩ := R.obj _ _ e
      exact .inr (.inr ⟨_, vs, rfl, a, by rw [← r.length]; exact k.same R q (by rw [RelE])⟩)
    · exact q.elim
  · exact q.elim
def absE : LC := fun vs h P => match vs with
  | [.int i] => P (.int i.natAbs) h
  | _ => False
theorem lc_abs : LCallR X (.builtin "abs") absE := by
  refine ⟨_, call_abs, ?_⟩
  intro m h H vs xs P Q R r0 q k
  unfold absE at q
  split at q
  · obtain ⟨v, rfl, r⟩ := r0.one_inv
    rw [RelE] at r
    subst r
    rename_i i
    refine ⟨i, rfl, ?_⟩
    have e : (if i < 0 then -i else i) = (i.natAbs : Int) := by split <;> omega
    rw [e]
    exact k.same R q (by rw [RelE])
  · exact q.elim
def intOf : LC := fun vs h P => match vs with
  | [.int i] => P (.int i) h
  | [.bl b] => P (.int (if b then 1 else 0)) h
  | _ => False
theorem lc_int : LCallR X (.type "int") intOf := by
  refine ⟨_, call_int1, ?_⟩
  intro m h H vs xs P Q R r0 q k
  unfold intOf at q
  split at q
  · obtain ⟨v, rfl, r⟩ := r0.one_inv
    rw [RelE] at r
    subst r
    exact .inl ⟨_, rfl, k.same R q (by rw [RelE])⟩
  · obtain ⟨v, rfl, r⟩ := r0.one_inv
    rw [RelE] at r
    subst r
    exact .inr ⟨_, rfl, k.same R q (by rw [RelE])⟩
  · exact q.elim
theorem RelEs.ints {K : PySem.W.Frag} {m : Nat → Addr} {n : Nat} {H : Hp} : ∀ {ns : List Int} {vs : List V}, RelEs K m n H (ns.map EV.int) vs → vs = ns.map V.int
  | [], _, r => by rw [List.map_nil, RelEs] at r; exact r
  | i :: l, _, r => by
    rw [List.map_cons, RelEs] at r
    obtain ⟨v, t, rfl, a, b⟩ := r
    rw [RelE] at a
    rw [a, RelEs.ints b]; rfl
/-- max, min, sum of a list of ints -/
def maxE : LC := fun vs h P => match vs with
  | [.ref r] => match h[r]? with
    | some (.lst xs) => ∃ ns : List Int, xs = ns.map EV.int ∧ ns ≠ [] ∧ ∀ m, m ∈ ns → (∀ y ∈ ns, y ≤ m) → P (.int m) h
    | _ => False
  | [.int i, .int j] => P (.int (if j > i then j else i)) h
  | _ => False
theorem lc_max (hc : X.calm = true) : LCallR X (.builtin "max") maxE := by
  refine ⟨_, CallR.or (cr_max hc) (call_max2 hc), ?_⟩
  intro m h H vs xs P Q R r0 q k
  unfold maxE at q
  split at q
  · obtain ⟨v, rfl, r⟩ := r0.one_inv
    rw [RelE] at r
    obtain ⟨_, rfl⟩ := r
    split at q
    · rename_i e
      obtain ⟨vs, a, r⟩ := R.obj _ _ e
      obtain ⟨ns, rfl, ne, q⟩ := q
      have := r.ints
      subst this
      exact .inl ⟨_, ns, rfl, SqL.of a, List.length_pos_iff.mpr ne, fun z h1 h2 => k.same R (q z h1 h2) (by rw [RelE])⟩
    · exact q.elim
  · obtain ⟨v, w, rfl, r1, r2⟩ := r0.two_inv
    rw [RelE] at r1
    rw [RelE] at r2
    subst r1 r2
    exact .inr ⟨_, _, rfl, k.same R q (by rw [RelE])⟩
  · exact q.elim
/-- repr of data: the text is told by the data alone -/
def reprE : LC := fun vs h P => match vs with
  | [v] => ∃ d, Dat h 60 v d ∧ d.showable = true ∧ d.shown.length ≤ sizeLine ∧ P (.str d.shown.cps.toList) h
  | _ => False
def rRepr (K : PySem.W.Frag) : List V → Hp → VK → Prop := fun xs H Q => ∃ x d, xs = [x] ∧ Dp K H x d ∧ d.depth ≤ 60 ∧ d.plain = true ∧ d.showable = true ∧ d.shown.length ≤ sizeLine ∧ Q (.str d.shown) H
mutual
theorem plain_noDict : ∀ d : PyData, d.plain = true → d.hasDict = false
  | .none, _ => by simp only [PyData.hasDict]
  | .bool _, _ => by simp only [PyData.hasDict]
  | .int _, _ => by simp only [PyData.hasDict]
  | .str _, _ => by simp only [PyData.hasDict]
  | .list xs, h => by simp only [PyData.hasDict]; exact plain_noDicts xs (by simpa [PyData.plain] using h)
  | .tuple xs, h => by simp only [PyData.hasDict]; exact plain_noDicts xs (by simpa [PyData.plain] using h)
  | .dict _, h => by simp [PyData.plain] at h
theorem plain_noDicts : ∀ ds : List PyData, PyData.plainAll ds = true → PyData.hasDictAll ds = false
  | [], _ => by simp only [PyData.hasDictAll]
  | d :: ds, h => by
    have h' : d.plain = true ∧ PyData.plainAll ds = true := by simpa [PyData.plainAll] using h
    simp only [PyData.hasDictAll, plain_noDict d h'.1, plain_noDicts ds h'.2, Bool.or_self]
end
theorem call_reprD (hG : X.A.guards = some []) (hu : X.A.units + 64 < cLine) : CallR X (.builtin "repr") (rRepr X.K) := by
  intro pins s σ H xs us Q I r q
  obtain ⟨x, d, rfl, hd, dd, pd, sd, zd, q⟩ := q
  obtain ⟨u, rfl, ru⟩ := vals1 r
  cases hd with
  | non =>
    cases ru
    simp only [PyData.shown] at q
    exact PySem.P.repr_of_none ⟨.str _, H, I.tok _, ⟨_, rfl⟩, q⟩
  | bl b =>
    cases ru
    simp only [PyData.shown] at q
    exact PySem.P.repr_of_bool ⟨.str _, H, I.tok _, ⟨_, rfl⟩, q⟩
  | int i =>
    obtain ⟨t, rfl⟩ := ru
    simp only [PyData.shown] at q
    exact PySem.P.repr_of_int (by simpa [PyData.showable] using sd) ⟨.str _, H, I.tok _, ⟨_, rfl⟩, q⟩
  | str z =>
    obtain ⟨t, rfl⟩ := ru
    simp only [PyData.shown] at q zd
    exact PySem.P.repr_of_str ⟨.str _, H, I.tok _, ⟨_, rfl⟩, q⟩ zd
  | lst hs ha =>
    cases ru
    obtain ⟨as, rd⟩ := Dp.reads I _ _ _ (.lst hs ha) rfl
    exact PySem.repr_of_reads' rd sd (fun z => by rw [plain_noDict _ pd] at z; cases z) hG (by omega) (fun _ _ e => e) (fun h' u tk kk => ⟨.str _, H, I.kept kk, ⟨_, rfl⟩, q⟩) zd
  | tup hs ha =>
    cases ru
    obtain ⟨as, rd⟩ := Dp.reads I _ _ _ (.tup hs ha) rfl
    exact PySem.repr_of_reads' rd sd (fun z => by rw [plain_noDict _ pd] at z; cases z) hG (by omega) (fun _ _ e => e) (fun h' u tk kk => ⟨.str _, H, I.kept kk, ⟨_, rfl⟩, q⟩) zd
theorem lc_repr (hG : X.A.guards = some []) (hu : X.A.units + 64 < cLine) : LCallR X (.builtin "repr") reprE := by
  refine ⟨_, call_reprD hG hu, ?_⟩
  intro m h H vs xs P Q R r0 q k
  unfold reprE at q
  split at q
  · obtain ⟨v, rfl, r⟩ := r0.one_inv
    obtain ⟨d, dd, sd, zd, p⟩ := q
    exact ⟨v, d, rfl, Dat.dp R _ _ _ _ dd r, (Dat.dep _ _ _ dd).1, (Dat.dep _ _ _ dd).2, sd, zd, k.same R p (by rw [RelE])⟩
  · exact q.elim
/-- list(x), tuple(x) of a list, a tuple -/
def listOf : LC := fun vs h P => match vs with
  | [.tup xs] => P (.ref h.length) (h ++ [.lst xs])
  | [.ref r] => match h[r]? with
    | some (.lst xs) => P (.ref h.length) (h ++ [.lst xs])
    | some (.frz xs) => P (.ref h.length) (h ++ [.lst xs])
    | _ => False
  | _ => False
theorem lc_list : LCallR X (.type "list") listOf := by
  refine ⟨_, call_list_of, ?_⟩
  intro m h H vs xs P Q R r0 q k
  unfold listOf at q
  split at q
  · obtain ⟨v, rfl, r⟩ := r0.one_inv
    rw [RelE] at r
    obtain ⟨a, vs, rfl, hs, r⟩ := r
    exact ⟨a, vs, rfl, .inr hs, fun l hl => k.lst R q r hl⟩
  · obtain ⟨v, rfl, r⟩ := r0.one_inv
    rw [RelE] at r
    obtain ⟨_, rfl⟩ := r
    split at q
    · rename_i e
      obtain ⟨vs, a, r⟩ := R.obj _ _ e
      exact ⟨_, vs, rfl, .inl (SqL.of a), fun l hl => k.lst R q r hl⟩
    · rename_i e
      obtain ⟨vs, a, r⟩ := R.obj _ _ e
      exact ⟨_, vs, rfl, .inl a.sql, fun l hl => k.lst R q r hl⟩
    · exact q.elim
  · exact q.elim
def tupleOf : LC := fun vs h P => match vs with
  | [.tup xs] => P (.tup xs) h
  | [.ref r] => match h[r]? with
    | some (.lst xs) => P (.tup xs) h
    | some (.frz xs) => P (.tup xs) h
    | _ => False
  | _ => False
theorem lc_tuple : LCallR X (.type "tuple") tupleOf := by
  refine ⟨_, call_tuple_of, ?_⟩
  intro m h H vs xs P Q R r0 q k
  unfold tupleOf at q
  split at q
  · obtain ⟨v, rfl, r⟩ := r0.one_inv
    have r0 := r
    rw [RelE] at r
    obtain ⟨a, vs, rfl, hs, r⟩ := r
    exact ⟨a, vs, rfl, .inr ⟨hs, k.same R q r0⟩⟩
  · obtain ⟨v, rfl, r⟩ := r0.one_inv
    rw [RelE] at r
    obtain ⟨_, rfl⟩ := r
    split at q
    · rename_i e
      obtain ⟨vs, a, r⟩ := R.obj _ _ e
      exact ⟨_, vs, rfl, .inl ⟨SqL.of a, fun l hl => k.tup R q r hl⟩⟩
    · rename_i e
      obtain ⟨vs, a, r⟩ := R.obj _ _ e
      exact ⟨_, vs, rfl, .inl ⟨a.sql, fun l hl => k.tup R q r hl⟩⟩
    · exact q.elim
  · exact q.elim
end
/-! ### methods of lists -/
def onList (v : EV) (h : EH) (f : Nat → List EV → Prop) : Prop := match v with
  | .ref r => match h[r]? with
    | some (.lst xs) => f r xs
    | _ => False
  | _ => False
section
variable {X : Cx}
theorem onList_sim {K : PySem.W.Frag} {m : Nat → Addr} {h : EH} {H : Hp} {v : EV} {x : V} {f : Nat → List EV → Prop} (R : RelH K m h H) (r : RelE K m h.length H v x) (q : onList v h f) : ∃ i xs vs, h[i]? = some (.lst xs) ∧ x = .ref (m i) ∧ H (m i) = some (.lst vs) ∧ RelEs K m h.length H xs vs ∧ f i xs := by
  unfold onList at q
  split at q
  · rw [RelE] at r
    obtain ⟨_, rfl⟩ := r
    split at q
    · rename_i e
      obtain ⟨vs, a, r⟩ := R.obj _ _ e
      exact ⟨_, _, vs, e, rfl, a, r, q⟩
    · exact q.elim
  · exact q.elim
theorem Kon.upd {K : PySem.W.Frag} {m : Nat → Addr} {H : Hp} {h : EH} {P : EK} {Q : VK} (k : Kon K m h.length H P Q) (R : RelH K m h H) {i : Nat} {xs ys : List EV} {us : List V} {v : EV} {x : V} (e : h[i]? = some (.lst xs)) (p : P v (h.set i (.lst ys))) (r : RelE K m h.length H v x) (ru : RelEs K m h.length H ys us) : Q x (upd H (m i) (.lst us)) := by
  have E : Ex K m h.length H m (h.set i (.lst ys)).length (L2.upd H (m i) (.lst us)) := Ex.write R e
  exact k _ _ p m _ _ E (R.write e ⟨us, upd_same, RelEs.ex E _ _ ru⟩) (RelE.ex E _ _ r)
def appendE : LM := fun v vs h P => match vs with
  | [y] => onList v h fun r xs => xs.length < sizeLine ∧ P .non (h.set r (.lst (xs ++ [y])))
  | _ => False
theorem lm_append {K : PySem.W.Frag} : LMl K "list" rAppend appendE := by
  intro m h H v x vs xs P Q R rx rv q k
  unfold appendE at q
  split at q
  · obtain ⟨y, rfl, ry⟩ := rv.one_inv
    obtain ⟨i, es, us, e, rfl, a, r, q⟩ := onList_sim R rx q
    exact ⟨_, us, y, rfl, rfl, a, by rw [← r.length]; exact q.1, k.upd R e q.2 (by rw [RelE]) (r.app (.one ry))⟩
  · exact q.elim
def insertE : LM := fun v vs h P => match vs with
  | [.int i, y] => onList v h fun r xs => xs.length < sizeLine ∧ 0 ≤ i ∧ i < 2 ^ 63 ∧ P .non (h.set r (.lst (xs.take i.toNat ++ [y] ++ xs.drop i.toNat)))
  | _ => False
theorem lm_insert {K : PySem.W.Frag} : LMl K "list" (fun x vs H Q => ∃ (l : Addr) (xs : List V) (i : Int) (y : V), x = .ref l ∧ vs = [.int i, y] ∧ H l = some (.lst xs) ∧ xs.length < sizeLine ∧ 0 ≤ i ∧ i < 2 ^ 63 ∧
    Q .non (upd H l (.lst (xs.take i.toNat ++ [y] ++ xs.drop i.toNat)))) insertE := by
  intro m h H v x vs xs P Q R rx rv q k
  unfold insertE at q
  split at q
  · obtain ⟨z, y, rfl, rz, ry⟩ := rv.two_inv
    rw [RelE] at rz
    subst rz
    obtain ⟨i, es, us, e, rfl, a, r, q⟩ := onList_sim R rx q
    exact ⟨_, us, _, y, rfl, rfl, a, by rw [← r.length]; exact q.1, q.2.1, q.2.2.1, k.upd R e q.2.2.2 (by rw [RelE]) (((r.take _).app (.one ry)).app (r.drop _))⟩
  · exact q.elim
def extendE : LM := fun v vs h P => match vs with
  | [.ref b] => onList v h fun r xs => onList (.ref b) h fun _ ys => xs.length + ys.length ≤ sizeLine ∧ P .non (h.set r (.lst (xs ++ ys)))
  | _ => False
theorem lm_extend {K : PySem.W.Frag} : LMl K "list" rExtend extendE := by
  intro m h H v x vs xs P Q R rx rv q k
  unfold extendE at q
  split at q
  · obtain ⟨y, rfl, ry⟩ := rv.one_inv
    obtain ⟨i, es, us, e, rfl, a, r, q⟩ := onList_sim R rx q
    obtain ⟨j, fs, ws, e2, rfl, a2, r2, q⟩ := onList_sim R ry q
    exact ⟨_, _, us, ws, rfl, rfl, a, a2, by rw [← r.length, ← r2.length]; exact q.1, k.upd R e q.2 (by rw [RelE]) (r.app r2)⟩
  · exact q.elim
/-! ### methods of texts -/
def strsOf (xs : List EV) : Option (List (List Nat)) := xs.mapM fun
  | .str s => some s
  | _ => none
/-- sep.join(parts) -/
def joinE : LM := fun v vs h P => match v, vs with
  | .str a, [.ref r] => match h[r]? with
    | some (.lst xs) => ∃ ys : List (List Nat), xs = ys.map EV.str ∧ (ys.map (·.length)).sum + ys.length * a.length ≤ 16777216 ∧ P (.str (TL.joinL a ys)) h
    | _ => False
  | _, _ => False
theorem RelEs.strs {K : PySem.W.Frag} {m : Nat → Addr} {n : Nat} {H : Hp} : ∀ {ns : List (List Nat)} {vs : List V}, RelEs K m n H (ns.map EV.str) vs → vs = (ns.map S).map V.str
  | [], _, r => by rw [List.map_nil, RelEs] at r; exact r
  | i :: l, _, r => by
    rw [List.map_cons, RelEs] at r
    obtain ⟨v, t, rfl, a, b⟩ := r
    rw [RelE] at a
    rw [a, RelEs.strs b]; rfl
theorem join_S (a : List Nat) (ys : List (List Nat)) : Txt.join (S a) (ys.map S) = S (TL.joinL a ys) := by
  refine TL.ext_tl ?_
  rw [TL.join_eq, TL.tl_join, List.map_map]
  have : (TL.tl ∘ S) = fun z => z := rfl
  rw [this, List.map_id']
theorem join_nil : ∀ ys : List (List Nat), TL.joinL [] ys = ys.flatten
  | [] => rfl
  | [p] => by simp [TL.joinL]
  | p :: q :: r => by
    rw [TL.joinL, join_nil (q :: r)]
    simp
theorem lm_join {K : PySem.W.Frag} : LMl K "str" (fun x xs H Q => ∃ a p, ∃ ys : List Str, x = .str a ∧ xs = [.ref p] ∧ (SqL K H p (ys.map V.str) ∨ SqT K H p (ys.map V.str)) ∧ (ys.map (·.length)).sum + ys.length * a.length ≤ 16777216 ∧ Q (.str (Txt.join a ys)) H) joinE := by
  intro m h H v x vs xs P Q R rx rv q k
  unfold joinE at q
  split at q
  · obtain ⟨y, rfl, ry⟩ := rv.one_inv
    rw [RelE] at rx
    rw [RelE] at ry
    obtain ⟨_, rfl⟩ := ry
    subst rx
    split at q
    · rename_i e
      obtain ⟨us, a, r⟩ := R.obj _ _ e
      obtain ⟨ys, rfl, z, p⟩ := q
      have := r.strs
      subst this
      refine ⟨_, _, ys.map S, rfl, rfl, .inl (SqL.of a), ?_, by rw [join_S]; exact k.same R p (by rw [RelE])⟩
      rw [S_len, List.length_map, List.map_map]
      have : ((fun x : Str => x.length) ∘ S) = fun z : List Nat => z.length := by funext z; exact S_len z
      rw [this]
      exact z
    · exact q.elim
  · exact q.elim
/-! ### * -/
def repN {α : Type} (k : Int) (xs : List α) : List α := (List.replicate k.toNat xs).flatten
def mulE : LO := fun v w h P => match v, w with
  | .int i, .int j => PySem.IntMulOk i j ∧ P (.int (i * j)) h
  | .str s, .int k => (0 < k ∧ k < 2 ^ 24 ∧ s.length * k.toNat ≤ 1000000) ∧ P (.str (repN k s)) h
  | .tup xs, .int k => (xs ≠ [] ∧ 2 ≤ k ∧ k ≤ 1000 ∧ xs.length ≤ 1000) ∧ P (.tup (repN k xs)) h
  | .ref r, .int k => match h[r]? with
    | some (.lst xs) => (-(2 ^ 63) ≤ k ∧ k < 2 ^ 63 ∧ xs.length * k.toNat ≤ sizeLine) ∧ P (.ref h.length) (h ++ [.lst (repN k xs)])
    | _ => False
  | _, _ => False
theorem foldl_rep (x : Array Nat) : ∀ (k : Nat) (a : Array Nat), (List.replicate k x).foldl (· ++ ·) a = a ++ (List.replicate k x.toList).flatten.toArray
  | 0, a => by simp
  | k + 1, a => by
    rw [List.replicate_succ, List.foldl_cons, foldl_rep x k, List.replicate_succ, List.flatten_cons]
    apply Array.ext'
    simp
def rMulS : R2 := fun x y H Q => ∃ (s : List Nat) (k : Int), x = .str (S s) ∧ y = .int k ∧ (0 < k ∧ k < 2 ^ 24 ∧ s.length * k.toNat ≤ 1000000) ∧ Q (.str (S (repN k s))) H
theorem op_mulS : OpR X (binaryOp .Mult) rMulS := by
  intro pins s σ H x y v u Q I rx ry q
  obtain ⟨l, k, rfl, rfl, ⟨h0, h1, hz⟩, q⟩ := q
  obtain ⟨t, rfl⟩ := rx
  obtain ⟨t', rfl⟩ := ry
  have e : (S l).length = l.length := S_len l
  have fin : ∀ tk, EP X pins σ Q (.str (S (repN k l)) tk) { s with toks := tk + 1 } := fun tk => ⟨.str _, H, I.tok _, ⟨_, rfl⟩, q⟩
  refine PySem.P.mul_str ?_ (fun _ _ z => ?_) (fun _ _ => ?_) ?_
  · have a : ¬ k < -(2 ^ 63 : Int) := by omega
    have b : ¬ k ≥ 2 ^ 63 := by omega
    rw [decide_eq_false a, decide_eq_false b]; rfl
  · rw [e] at z
    have h2 : (l.length : Int) * k ≤ 1000000 := by
      have : ((l.length * k.toNat : Nat) : Int) ≤ 1000000 := by omega
      rw [Int.natCast_mul, Int.toNat_of_nonneg (by omega)] at this
      exact this
    have h3 : (l.length : Int) ≤ 1000000 := by
      have : (l.length : Int) * 1 ≤ (l.length : Int) * k := Int.mul_le_mul_of_nonneg_left (by omega) (by omega)
      omega
    have h4 : (2 ^ 63 - 1 : Int) / k ≥ (2 ^ 63 - 1 : Int) / 2 ^ 24 := by
      rw [ge_iff_le, Int.le_ediv_iff_mul_le (by omega)]
      have : (2 ^ 63 - 1 : Int) / 2 ^ 24 * k ≤ (2 ^ 63 - 1 : Int) / 2 ^ 24 * 2 ^ 24 := Int.mul_le_mul_of_nonneg_left (by omega) (by decide)
      have h5 : (2 ^ 63 - 1 : Int) / 2 ^ 24 * 2 ^ 24 ≤ 2 ^ 63 - 1 := by decide
      omega
    have h6 : (2 ^ 63 - 1 : Int) / 2 ^ 24 = 549755813887 := by decide
    omega
  · rw [e]
    unfold Builtin.Str.tooLong
    have : sizeLine = 16777216 := by decide
    rw [decide_eq_false]
    omega
  · rw [if_neg (by omega)]
    by_cases hk : (k == 1 || (S l).length == 0) = true
    · rw [if_pos hk]
      have e2 : repN k l = l := by
        rw [e, Bool.or_eq_true, beq_iff_eq, beq_iff_eq] at hk
        rcases hk with rfl | hk
        · simp [repN]
        · have : l = [] := List.length_eq_zero_iff.mp hk
          subst this
          simp [repN]
      rw [e2] at q
      exact ⟨.str _, H, I, ⟨_, rfl⟩, q⟩
    · rw [if_neg hk]
      have e2 : (⟨(List.replicate k.toNat (S l).cps).foldl (· ++ ·) #[]⟩ : Str) = S (repN k l) := by
        rw [foldl_rep]
        simp [repN]
      rw [e2]
      exact ⟨by
        have e3 : (S (repN k l)).length = l.length * k.toNat := by
          rw [S_len, repN, List.length_flatten, List.map_replicate, List.sum_replicate_nat]
          exact Nat.mul_comm _ _
        rw [e3]
        have : sizeLine = 16777216 := by decide
        omega, fin _⟩
theorem op_mulO : OpR X (binaryOp .Mult) (rI PySem.IntMulOk fun i j => .int (i * j)) := opI fun _ _ _ _ _ _ _ hc q => mul_int q hc
theorem lo_mul : LOpR X (binaryOp .Mult) mulE := by
  refine ⟨_, OpR.or op_mulO (OpR.or op_mulS (OpR.or op_repT op_rep)), ?_⟩
  intro m h H v w x y P Q R rx ry q k
  unfold mulE at q
  split at q
  · rw [RelE] at rx
    rw [RelE] at ry
    exact .inl ⟨_, _, rx, ry, q.1, k.same R q.2 (by rw [RelE])⟩
  · rw [RelE] at rx
    rw [RelE] at ry
    exact .inr (.inl ⟨_, _, rx, ry, q.1, k.same R q.2 (by rw [RelE])⟩)
  · rw [RelE] at rx
    rw [RelE] at ry
    obtain ⟨a, us, rfl, hs, r⟩ := rx
    subst ry
    refine .inr (.inr (.inl ⟨a, _, us, rfl, rfl, hs, ?_, q.1.2.1, q.1.2.2.1, by rw [← r.length]; exact q.1.2.2.2, fun p hp => k.tup R q.2 ?_ hp⟩))
    · rintro rfl
      have := r.length
      exact q.1.1 (List.length_eq_zero_iff.mp this)
    · unfold repN
      generalize Int.toNat _ = n
      induction n with
      | zero => exact .nil
      | succ n ih => rw [List.replicate_succ, List.replicate_succ, List.flatten_cons, List.flatten_cons]; exact r.app ih
  · rw [RelE] at rx
    rw [RelE] at ry
    obtain ⟨_, rfl⟩ := rx
    subst ry
    split at q
    · rename_i e
      obtain ⟨us, a, r⟩ := R.obj _ _ e
      refine .inr (.inr (.inr ⟨_, _, us, rfl, rfl, a, q.1.1, q.1.2.1, by rw [← r.length]; exact q.1.2.2, fun p hp => k.lst R q.2 ?_ hp⟩))
      unfold repN
      generalize Int.toNat _ = n
      induction n with
      | zero => exact .nil
      | succ n ih => rw [List.replicate_succ, List.replicate_succ, List.flatten_cons, List.flatten_cons]; exact r.app ih
    · exact q.elim
  · exact q.elim
/-! ### a dict of the top, text keys -/
/-- the dict at a tells the texts of tb, by text keys -/
def KTab (K : PySem.W.Frag) (w : World) (a : Addr) (tb : List (List Nat × List Nat)) : Prop := ∀ p ∈ tb, KDct K w a (S p.1) (.str (S p.2))
def kdE (tb : List (List Nat × List Nat)) (a : Addr) : LO := fun v w h P => match v, w with
  | .adr b, .str s => b = a ∧ match tb.lookup s with
    | some z => P (.str z) h
    | none => False
  | _, _ => False
theorem lookup_mem {α β : Type} [BEq α] [LawfulBEq α] {l : List (α × β)} {a : α} {b : β} (h : l.lookup a = some b) : (a, b) ∈ l := by
  induction l with
  | nil => cases h
  | cons p l ih =>
    obtain ⟨x, y⟩ := p
    rw [List.lookup_cons] at h
    cases e : a == x with
    | true =>
      rw [e] at h
      cases h
      rw [beq_iff_eq.mp e]
      exact List.mem_cons_self
    | false =>
      rw [e] at h
      exact List.mem_cons_of_mem _ (ih h)
theorem lix_kd {a : Addr} {tb : List (List Nat × List Nat)} (T : KTab X.K X.w a tb) : LIxR X (kdE tb a) := by
  refine ⟨_, ix_kdict, ?_⟩
  intro m h H v w x y P Q R rx ry q k
  unfold kdE at q
  split at q
  · rw [RelE] at rx
    rw [RelE] at ry
    subst rx ry
    obtain ⟨rfl, q⟩ := q
    split at q
    · rename_i e
      exact ⟨_, _, _, rfl, rfl, T _ (lookup_mem e), k.same R q (by rw [RelE])⟩
    · exact q.elim
  · exact q.elim
end
end Y

namespace Y
open PySem PySem.Spec PyProof.Rows L2

/-! ### zip and enumerate of what can be walked by place: a list, a tuple, a text -/
inductive Sc where
  | lst (a : Addr) | tup (a : Addr) | txt (x : Str)
def Sc.val : Sc → V
  | .lst a => .ref a
  | .tup a => .ref a
  | .txt x => .str x
def Sc.is (K : PySem.W.Frag) (H : Hp) : Sc → List V → Prop
  | .lst a, xs => SqL K H a xs
  | .tup a, xs => SqT K H a xs
  | .txt x, xs => xs = x.cps.toList.map fun c => V.str ⟨#[c]⟩
def Sc.cell : Sc → List Addr
  | .lst a => [a]
  | .tup a => [a]
  | .txt _ => []
def Sc.st (it : Addr) (i : Nat) (h : Heap) : Sc → Prop
  | .lst a => h.IsListIter it a i
  | .tup a => h.IsTupleIter it a i
  | .txt x => ∃ t, h.IsStrIter it (strIterType x) x t i
theorem Sc.st_obj {it : Addr} {i : Nat} {h : Heap} : ∀ {sc : Sc}, sc.st it i h → ∃ o, h.get? it = some o ∧ ∀ v, o.data ≠ .cell v
  | .lst _, ⟨o, e, _, d⟩ => ⟨o, e, fun v q => by rw [d] at q; cases q⟩
  | .tup _, ⟨o, e, _, d⟩ => ⟨o, e, fun v q => by rw [d] at q; cases q⟩
  | .txt _, ⟨t, o, e, _, d⟩ => ⟨o, e, fun v q => by rw [d] at q; cases q⟩
theorem Sc.st_at {it : Addr} {i : Nat} {h h' : Heap} (k : ∀ o, h.get? it = some o → h'.get? it = some o) : ∀ {sc : Sc}, sc.st it i h → sc.st it i h'
  | .lst _, ⟨o, e, r⟩ => ⟨o, k o e, r⟩
  | .tup _, ⟨o, e, r⟩ => ⟨o, k o e, r⟩
  | .txt _, ⟨t, o, e, r⟩ => ⟨t, o, k o e, r⟩
section
variable {X : Cx} {pins : List (Addr × Obj)} {s : Shared} {σ : L2.St} {H : Hp}
theorem Vals.back {xs : List V} {us : List Value} {i : Nat} {u : Value} (r : Vals xs us) (e : us[i]? = some u) : ∃ x, xs[i]? = some x ∧ RelV x u := by
  have hl := (List.getElem?_eq_some_iff.mp e).1
  have l := r.length
  have h2 : xs[i]? = some xs[i] := List.getElem?_eq_getElem (by omega)
  obtain ⟨w, hw, rw'⟩ := r.get h2
  rw [e] at hw
  cases hw
  exact ⟨_, h2, rw'⟩
theorem Sc.draws {sc : Sc} {xs : List V} {it : Addr} {i : Nat} (I : Inv X pins σ H s) (hc : X.calm = true) (hq : sc.is X.K H xs) (hn : it ∉ sc.cell) (st : sc.st it i s.heap) :
    ∃ P St, Draws X.prog X.w X.A.in1 it (it :: sc.cell) xs.length P St ∧ St i s.heap ∧ (∀ j u, P j u → ∃ v, xs[j]? = some v ∧ RelV v u) ∧ ∀ j h, St j h → sc.st it j h := by
  have hh : X.A.in1.handled = none := I.ok.hd hc
  match sc, hq, hn, st with
  | .lst a, hq, hn, st =>
    obtain ⟨its, rv, p, hz⟩ := I.list hq
    rw [show xs.length = its.toArray.size by simpa using rv.length]
    exact ⟨_, _, Draws.list hh it a (fun z => hn (by simp [Sc.cell, z])) its.toArray, ⟨st, p.isList⟩, fun j u e => Vals.back rv (by simpa using e), fun j h e => e.1⟩
  | .tup a, hq, hn, st =>
    obtain ⟨its, rv, p, hz⟩ := I.tuple hq
    rw [show xs.length = its.toArray.size by simpa using rv.length]
    exact ⟨_, _, Draws.tuple hh it a (fun z => hn (by simp [Sc.cell, z])) its.toArray, ⟨st, p⟩, fun j u e => Vals.back rv (by simpa using e), fun j h e => e.1⟩
  | .txt x, hq, hn, ⟨t, st⟩ =>
    have hq' : xs = x.cps.toList.map fun c => V.str ⟨#[c]⟩ := hq
    subst hq'
    rw [show (x.cps.toList.map fun c => V.str ⟨#[c]⟩).length = x.cps.size by simp]
    exact ⟨_, _, Draws.text hh it x t, st, fun j u ⟨c, t', e, eu⟩ => ⟨_, by rw [List.getElem?_map, Array.getElem?_toList, e]; rfl, show RelV (.str ⟨#[c]⟩) u from ⟨t', eu⟩⟩, fun j h e => ⟨t, e⟩⟩
theorem Sc.begins {sc : Sc} {xs : List V} {u : Value} (I : Inv X pins σ H s) (hq : sc.is X.K H xs) (r : RelV sc.val u) :
    ∃ o H1, Begins u o H1 ∧ H1 s.heap ∧ (∀ (h : Heap) it, h.get? it = some o → sc.st it 0 h) ∧ ∀ b ∈ sc.cell, b < s.heap.objs.size := by
  match sc, hq, r with
  | .lst a, hq, r =>
    obtain ⟨its, rv, p, hz⟩ := I.list hq
    cases r
    exact ⟨_, _, begins_list a its.toArray, p.isList, fun h it e => ⟨_, e, rfl, rfl⟩, fun b hb => by
      have e : b = a := by simpa [Sc.cell] using hb
      rw [e]; exact p.lt⟩
  | .tup a, hq, r =>
    obtain ⟨its, rv, p, hz⟩ := I.tuple hq
    cases r
    have p' : s.heap.IsTuple a its.toArray := p
    exact ⟨_, _, begins_tuple a its.toArray, p', fun h it e => ⟨_, e, rfl, rfl⟩, fun b hb => by
      have e : b = a := by simpa [Sc.cell] using hb
      rw [e]
      obtain ⟨o, e, _⟩ := p'
      exact Heap.lt_size e⟩
  | .txt x, hq, r =>
    obtain ⟨t, rfl⟩ := r
    exact ⟨_, _, begins_text x t, trivial, fun h it e => ⟨t, _, e, rfl, rfl⟩, fun b hb => by simp [Sc.cell] at hb⟩
theorem Sc.is_inj {sc : Sc} {xs ys : List V} (I : Inv X pins σ H s) (h : sc.is X.K H xs) (h' : sc.is X.K H ys) : xs = ys := by
  match sc, h, h' with
  | .lst a, h, h' => exact I.list_inj h h'
  | .tup a, h, h' => exact I.tuple_inj h h'
  | .txt a, h, h' => exact Eq.trans h (Eq.symm h')
end
/-- pairs of two sources -/
def ItZ (K : PySem.W.Frag) (a b : Sc) : It :=
  ⟨fun i H => ∃ (xs ys : List V) (x y : V), a.is K H xs ∧ b.is K H ys ∧ xs[i]? = some x ∧ ys[i]? = some y,
    fun i H v H' => ∃ T x y, v = .ref T ∧ H T = none ∧ H' = upd H T (.tup [x, y]) ∧ (∀ xs, a.is K H xs → xs[i]? = some x) ∧ ∀ ys, b.is K H ys → ys[i]? = some y,
    fun i H => ∃ xs ys : List V, a.is K H xs ∧ b.is K H ys ∧ i ≤ xs.length ∧ i ≤ ys.length ∧ (i = xs.length ∨ i = ys.length)⟩
/-- numbered items of a source -/
def ItN (K : PySem.W.Frag) (a : Sc) (k : Int) : It :=
  ⟨fun i H => ∃ (xs : List V) (x : V), a.is K H xs ∧ xs[i]? = some x,
    fun i H v H' => ∃ T x, v = .ref T ∧ H T = none ∧ H' = upd H T (.tup [.int (k + (i : Nat)), x]) ∧ ∀ xs, a.is K H xs → xs[i]? = some x,
    fun i H => ∃ xs : List V, a.is K H xs ∧ i = xs.length⟩
section
variable {P : Program} {w : World} {K : PySem.W.Frag} {elts : List Expr} {kk : Nat} {tpos : Pos}
theorem turnZ {a b : Sc} {z TI TO i1 i2 : Addr} (D : ZipSep2 z TI TO i1 i2 (i1 :: a.cell) (i2 :: b.cell)) (na : i1 ∉ a.cell) (nb : i2 ∉ b.cell) :
    Turn P w K (.Tuple elts kk tpos) (ItZ K a b) [z, TI, TO, i1, i2] z (fun i h => IsZip h z TI TO .none ∧ IsTupOf2 h TI (.ref i1) (.ref i2) ∧ (∃ x y, IsTupOf2 h TO x y) ∧ a.st i1 i h ∧ b.st i2 i h) where
  mem := by simp
  obj := fun i h st c hc => by
    obtain ⟨hz, hTI, ⟨x, y, hTO⟩, s1, s2⟩ := st
    have e' : c = z ∨ c = TI ∨ c = TO ∨ c = i1 ∨ c = i2 := by simpa using hc
    rcases e' with q | q | q | q | q
    · rw [q]; exact ⟨_, hz, fun v q => nomatch q⟩
    · rw [q]; exact ⟨_, hTI, fun v q => nomatch q⟩
    · rw [q]; exact ⟨_, hTO, fun v q => nomatch q⟩
    · rw [q]; exact Sc.st_obj s1
    · rw [q]; exact Sc.st_obj s2
  keep := fun i h h' st k => by
    obtain ⟨hz, hTI, ⟨x, y, hTO⟩, s1, s2⟩ := st
    exact ⟨k z (by simp) _ hz, k TI (by simp) _ hTI, ⟨x, y, k TO (by simp) _ hTO⟩, Sc.st_at (fun o q => k i1 (by simp) o q) s1, Sc.st_at (fun o q => k i2 (by simp) o q) s2⟩
  item := by
    intro X hP hw hK hc i pins s σ H E I hf st hg
    subst hP hw hK
    obtain ⟨hz, hTI, ⟨x0, y0, hTO⟩, s1, s2⟩ := st
    obtain ⟨xs, ys, x, y, hqx, hqy, hx, hy⟩ := hg
    obtain ⟨P1, St1, D1, t1, p1, b1⟩ := Sc.draws I hc hqx na s1
    obtain ⟨P2, St2, D2, t2, p2, b2⟩ := Sc.draws I hc hqy nb s2
    have lx := (List.getElem?_eq_some_iff.mp hx).1
    have ly := (List.getElem?_eq_some_iff.mp hy).1
    have hzl : z < s.heap.objs.size := Heap.lt_size hz
    refine wpAny_pyNext_zipD2_item D D1 D2 hz hTI hTO t1 t2 lx ly fun u1 u2 h' tk hu1 hu2 z' TO' t1' t2' hT hsz hk => ?_
    obtain ⟨x', hx', ru⟩ := p1 _ _ hu1
    obtain ⟨y', hy', ru2⟩ := p2 _ _ hu2
    rw [hx] at hx'
    rw [hy] at hy'
    cases hx'
    cases hy'
    refine ⟨_, rfl, wpAny_letOwnedTupleGo_zip (s := { s with heap := h', toks := tk }) z' fun h'' z'' sb => ?_⟩
    have hT2 : h''.get? s.heap.objs.size = some { cls := .type "tuple", data := .seq #[u1, u2] } := (sb.2 _ (Nat.ne_of_gt hzl)).trans hT
    have new : ObjOk X.prog X.w (upd H s.heap.objs.size (.tup [x, y])) h'' s.heap.objs.size (.tup [x, y]) :=
      ⟨by show 2 ≤ sizeLine; decide, [u1, u2], .cons ru (.cons ru2 .nil), ⟨_, hT2, rfl, _, rfl⟩⟩
    have I1 : Inv X pins σ (upd H s.heap.objs.size (.tup [x, y])) { s with heap := h'', toks := tk } :=
      I.turnedNew (t' := tk) (ch := [z, TI, TO, i1, i2]) (fun c o hb q => (sb.2 c (fun q' => hb (by simp [q']))).trans (hk c o (fun q' => hb (by simp [q'])) (fun q' => hb (by simp [q'])) (fun q' => hb (by simp [q'])) (fun q' => hb (by simp [q'])) q)) hf (Nat.le_refl _) new
    refine ⟨.ref s.heap.objs.size, _, I1, rfl, ⟨_, x, y, rfl, I.hok.fresh (Nat.le_refl _), rfl, fun l hl => by rw [Sc.is_inj I hl hqx]; exact hx, fun l hl => by rw [Sc.is_inj I hl hqy]; exact hy⟩, ⟨z'', ?_, ⟨u1, u2, ?_⟩, ?_, ?_⟩, fun c hcm => ?_⟩
    · exact (sb.2 _ D.TIz).trans (hk _ _ D.TIz D.TITO D.TIi1 D.TIi2 hTI)
    · exact (sb.2 _ D.TOz).trans TO'
    · exact Sc.st_at (fun o q => (sb.2 _ D.zi1.symm).trans q) (b1 _ _ t1')
    · exact Sc.st_at (fun o q => (sb.2 _ D.zi2.symm).trans q) (b2 _ _ t2')
    · have hlt : c < s.heap.objs.size := by
        have e' : c = z ∨ c = TI ∨ c = TO ∨ c = i1 ∨ c = i2 := by simpa using hcm
        rcases e' with q | q | q | q | q
        · rw [q]; exact hzl
        · rw [q]; exact Heap.lt_size hTI
        · rw [q]; exact Heap.lt_size hTO
        · rw [q]; obtain ⟨_, e1, _⟩ := Sc.st_obj s1; exact Heap.lt_size e1
        · rw [q]; obtain ⟨_, e2, _⟩ := Sc.st_obj s2; exact Heap.lt_size e2
      rw [upd_ne (Nat.ne_of_lt hlt)]
      exact (hf c hcm).1
  done := by
    intro X hP hw hK hc i pins s σ H E I hf st hg
    subst hP hw hK
    obtain ⟨hz, hTI, ⟨x0, y0, hTO⟩, s1, s2⟩ := st
    obtain ⟨xs, ys, hqx, hqy, hl1, hl2, hend⟩ := hg
    obtain ⟨P1, St1, D1, t1, p1, b1⟩ := Sc.draws I hc hqx na s1
    obtain ⟨P2, St2, D2, t2, p2, b2⟩ := Sc.draws I hc hqy nb s2
    exact wpAny_pyNext_zipD2_end D D1 D2 hz hTI hTO t1 t2 hl1 hl2 hend fun h' tk hk => ⟨rfl, I.turnedL (t' := tk) (ch := [z, TI, TO, i1, i2]) (fun c o hb q =>
      hk c o (fun q' => hb (by simp [q'])) (fun q' => hb (by simp [q'])) (fun q' => hb (by simp [q'])) (fun q' => hb (by simp [q'])) q) hf⟩
  self := fun A i s Q E st h => wpAny_pyIter_zip st.1 h
theorem turnN {a : Sc} {k : Int} {e it : Addr} (hne : e ≠ it) (hef : e ∉ it :: a.cell) (na : it ∉ a.cell) :
    Turn P w K (.Tuple elts kk tpos) (ItN K a k) [e, it] e (fun i h => (∃ old, IsEnum h e it (k + ((i : Nat) : Int)) old) ∧ a.st it i h) where
  mem := by simp
  obj := fun i h st b hb => by
    obtain ⟨⟨old, he⟩, s1⟩ := st
    have e' : b = e ∨ b = it := by simpa using hb
    rcases e' with z | z
    · rw [z]; exact ⟨_, he, fun v q => nomatch q⟩
    · rw [z]; exact Sc.st_obj s1
  keep := fun i h h' st k => let ⟨⟨old, he⟩, hi⟩ := st; ⟨⟨old, k e (by simp) _ he⟩, Sc.st_at (fun o q => k it (by simp) o q) hi⟩
  item := by
    intro X hP hw hK hc i pins s σ H E I hf st hg
    subst hP hw hK
    obtain ⟨⟨old, he⟩, s1⟩ := st
    obtain ⟨xs, x, hq, hx⟩ := hg
    obtain ⟨P1, St1, D1, t1, p1, b1⟩ := Sc.draws I hc hq na s1
    have lx := (List.getElem?_eq_some_iff.mp hx).1
    have hel : e < s.heap.objs.size := Heap.lt_size he
    refine wpAny_pyNext_enum_itemC D1 he t1 lx hne hef fun u h' tk hu ho t1' hT hsz hk => ?_
    obtain ⟨x', hx', ru⟩ := p1 _ _ hu
    rw [hx] at hx'
    cases hx'
    refine ⟨_, rfl, wpAny_letOwnedTupleGo_enum (s := { s with heap := h', toks := tk + 1 }) ho fun h'' he' sb => ?_⟩
    have hT2 : h''.get? s.heap.objs.size = some { cls := .type "tuple", data := .seq #[.int (k + (i : Nat)) tk, u] } := (sb.2 _ (Nat.ne_of_gt hel)).trans hT
    have new : ObjOk X.prog X.w (upd H s.heap.objs.size (.tup [.int (k + (i : Nat)), x])) h'' s.heap.objs.size (.tup [.int (k + (i : Nat)), x]) :=
      ⟨by show 2 ≤ sizeLine; decide, [.int (k + (i : Nat)) tk, u], .cons ⟨_, rfl⟩ (.cons ru .nil), ⟨_, hT2, rfl, _, rfl⟩⟩
    have I1 : Inv X pins σ (upd H s.heap.objs.size (.tup [.int (k + (i : Nat)), x])) { s with heap := h'', toks := tk + 1 } :=
      I.turnedNew (ch := [e, it]) (fun b ob hb q => (sb.2 b (fun z => hb (by simp [z]))).trans (hk b ob (fun z => hb (by simp [z])) (fun z => hb (by simp [z])) q)) hf (Nat.le_refl _) new
    refine ⟨.ref s.heap.objs.size, _, I1, rfl, ⟨_, x, rfl, I.hok.fresh (Nat.le_refl _), rfl, fun ys hy => by rw [Sc.is_inj I hy hq]; exact hx⟩, ⟨⟨u, ?_⟩, Sc.st_at (fun o q => (sb.2 it (Ne.symm hne)).trans q) (b1 _ _ t1')⟩, fun b hb => ?_⟩
    · have e1 : k + ((i + 1 : Nat) : Int) = k + (i : Int) + 1 := by omega
      rw [e1]; exact he'
    · have hb' : b < s.heap.objs.size := by
        have e' : b = e ∨ b = it := by simpa using hb
        rcases e' with z | z
        · rw [z]; exact hel
        · rw [z]; obtain ⟨_, e1, _⟩ := Sc.st_obj s1; exact Heap.lt_size e1
      rw [upd_ne (Nat.ne_of_lt hb')]
      exact (hf b hb).1
  done := by
    intro X hP hw hK hc i pins s σ H E I hf st hg
    subst hP hw hK
    obtain ⟨⟨old, he⟩, s1⟩ := st
    obtain ⟨xs, hq, hx⟩ := hg
    obtain ⟨P1, St1, D1, t1, p1, b1⟩ := Sc.draws I hc hq na s1
    subst hx
    obtain ⟨f0, f1, f2, f3, f4, f5⟩ := hf it (by simp)
    exact wpAny_pyNext_enum_endD D1 he t1 fun h' eb => ⟨rfl, I.turned (t' := s.toks) (fun b o hb q => eb b o hb q) f0 f1 f3 f4 f5⟩
  self := fun A i s Q E st h => let ⟨⟨_, he⟩, _⟩ := st; wpAny_pyIter_enum he h
end
def iZ (K : PySem.W.Frag) (ta : TA) : TI := fun σ H R => ta σ H fun vs H1 => ∃ (a b : Sc) (xs ys : List V), vs = [a.val, b.val] ∧ a.is K H1 xs ∧ b.is K H1 ys ∧ R (ItZ K a b) H1
def iN (K : PySem.W.Frag) (k : Int) (ta : TA) : TI := fun σ H R => ta σ H fun vs H1 => ∃ (a : Sc) (xs : List V), vs = [a.val] ∧ a.is K H1 xs ∧ R (ItN K a k) H1
section
variable {X : Cx} {e e2 : Expr} {ta : TA} {p pos tpos : Pos} {elts : List Expr} {kk : Nat}
theorem piZ (hg : Gl X "zip") (hm : X.mg "zip" = none) (ha : PA X [e, e2] ta)
    (hs : starEach [e, e2] X.env = (false, eval e X.env) :: starEach [e2] X.env := by rfl) (hpl : (backTo pos (starEach [e2] X.env)).any (·.1) = false := by rfl) :
    PI X (.Tuple elts kk tpos) (.Call (.Name "zip" p) [e, e2] [] pos) (iZ X.K ta) := by
  refine ⟨fun pins s σ H R I h => ?_⟩
  refine Call_ (ld_blt I hg hm PyProof.Rows.boot_zip (PyProof.Rows.callWith_type1 (thn (ha.run pos pins s σ H _ I h) fun us s1 ⟨vs, H1, I1, r1, q1⟩ => ?_) hs hpl))
  obtain ⟨a, b, xs, ys, ex, hqx, hqy, q⟩ := q1
  subst ex
  cases r1 with
  | cons r rr =>
    cases rr with
    | cons r' rr =>
      cases rr
      obtain ⟨o1, H1', B1, w1, z1, c1⟩ := Sc.begins I1 hqx r
      obtain ⟨o2, H2', B2, w2, z2, c2⟩ := Sc.begins I1 hqy r'
      refine zip_begins2 B1 B2 w1 w2 fun h' hz hTI hTO h1 h2 hsz hk => wpAny_pyIter_zip hz ?_
      have I2 : Inv X pins σ H1 { s1 with heap := h' } := I1.kept (t' := s1.toks) hk
      refine ⟨s1.heap.objs.size + 4, [s1.heap.objs.size + 4, s1.heap.objs.size + 2, s1.heap.objs.size + 3, s1.heap.objs.size, s1.heap.objs.size + 1], _, _, H1, rfl, I2,
        turnZ (zip_sep2 c1 c2) (fun z => Nat.lt_irrefl _ (c1 _ z)) (fun z => absurd (c2 _ z) (Nat.not_lt.mpr (Nat.le_add_right _ _))), ⟨hz, hTI, ⟨_, _, hTO⟩, z1 _ _ h1, z2 _ _ h2⟩, fun c hcm => ?_, q⟩
      have e' : c = s1.heap.objs.size + 4 ∨ c = s1.heap.objs.size + 2 ∨ c = s1.heap.objs.size + 3 ∨ c = s1.heap.objs.size ∨ c = s1.heap.objs.size + 1 := by simpa using hcm
      have hle : s1.heap.objs.size ≤ c := by
        rcases e' with z | z | z | z | z
        · rw [z]; exact Nat.le_add_right _ _
        · rw [z]; exact Nat.le_add_right _ _
        · rw [z]; exact Nat.le_add_right _ _
        · rw [z]; exact Nat.le_refl _
        · rw [z]; exact Nat.le_add_right _ _
      exact I1.fpOk hle (I1.hok.fresh hle)
end
/-- a source by place, told over trees -/
def srcE (v : EV) (h : EH) (P : (EH → Prop) → List EV → Prop) : Prop := match v with
  | .ref r => match h[r]? with
    | some (.lst xs) => P (fun h' => h'[r]? = some (.lst xs)) xs
    | some (.frz xs) => P (fun h' => h'[r]? = some (.frz xs)) xs
    | _ => False
  | .tup xs => P lTrue xs
  | .str s => P lTrue (s.map fun c => .str [c])
  | _ => False
theorem src_sim {K : PySem.W.Frag} {m : Nat → Addr} {h : EH} {H : Hp} {v : EV} {x : V} {P : (EH → Prop) → List EV → Prop} (R : RelH K m h H) (r : RelE K m h.length H v x) (q : srcE v h P) :
    ∃ (sc : Sc) (g : EH → Prop) (xs : List EV), P g xs ∧ x = sc.val ∧ g h ∧
      ∀ m' h' H', Ex K m h.length H m' h'.length H' → RelH K m' h' H' → g h' → ∃ us, sc.is K H' us ∧ RelEs K m' h'.length H' xs us := by
  unfold srcE at q
  split at q
  · rename_i r0
    rw [RelE] at r
    obtain ⟨hr, rfl⟩ := r
    split at q
    · rename_i xs e
      refine ⟨.lst (m r0), _, xs, q, rfl, e, fun m' h' H' E' R' gh => ?_⟩
      obtain ⟨us, a', r'⟩ := R'.obj _ _ gh
      exact ⟨us, by rw [← E'.eq _ hr]; exact SqL.of a', r'⟩
    · rename_i xs e
      refine ⟨.lst (m r0), _, xs, q, rfl, e, fun m' h' H' E' R' gh => ?_⟩
      obtain ⟨us, a', r'⟩ := R'.obj _ _ gh
      exact ⟨us, by rw [← E'.eq _ hr]; exact a'.sql, r'⟩
    · exact q.elim
  · rename_i xs
    rw [RelE] at r
    obtain ⟨a, vs, rfl, hs, r2⟩ := r
    exact ⟨.tup a, _, xs, q, rfl, trivial, fun m' h' H' E' R' gh => ⟨vs, E'.tup _ _ hs, RelEs.ex E' _ _ r2⟩⟩
  · rename_i cs
    rw [RelE] at r
    subst r
    refine ⟨.txt (S cs), _, _, q, rfl, trivial, fun m' h' H' E' R' gh => ⟨_, rfl, ?_⟩⟩
    show RelEs K m' h'.length H' (cs.map fun c => EV.str [c]) (cs.toArray.toList.map fun c => V.str ⟨#[c]⟩)
    rw [List.toList_toArray]
    clear q
    induction cs with
    | nil => exact .nil
    | cons c cs ih => exact .cons (by rw [RelE]) ih
  · exact q.elim
def lZip (ta : LA) : LI := fun env h P => ta env h fun vs h1 => match vs with
  | [x, y] => srcE x h1 fun g xs => srcE y h1 fun g2 ys => P (fun h' => g h' ∧ g2 h') (List.zipWith (fun a b => EV.tup [a, b]) xs ys) h1
  | _ => False
theorem rel_pair {K : PySem.W.Frag} {m : Nat → Addr} {h : EH} {H : Hp} {a b : EV} {x y : V} {T : Addr} (R : RelH K m h H) (hT : H T = none) (r1 : RelE K m h.length H a x) (r2 : RelE K m h.length H b y) :
    Ex K m h.length H m h.length (upd H T (.tup [x, y])) ∧ RelH K m h (upd H T (.tup [x, y])) ∧ RelE K m h.length (upd H T (.tup [x, y])) (.tup [a, b]) (.ref T) := by
  have E : Ex K m h.length H m h.length (upd H T (.tup [x, y])) := Ex.tup1 hT
  refine ⟨E, R.tup hT, ?_⟩
  rw [RelE]
  exact ⟨T, [x, y], rfl, SqT.of upd_same, .cons (RelE.ex E _ _ r1) (.one (RelE.ex E _ _ r2))⟩
theorem zw_at {α β γ : Type} {f : α → β → γ} {xs : List α} {ys : List β} {i : Nat} {z : γ} (e : (List.zipWith f xs ys)[i]? = some z) : ∃ a b, xs[i]? = some a ∧ ys[i]? = some b ∧ z = f a b := by
  rw [List.getElem?_zipWith] at e
  split at e
  · rename_i a b ha hb
    cases e
    exact ⟨a, b, ha, hb, rfl⟩
  · cases e
section
variable {X : Cx} {e e2 : Expr} {ta : LA} {p pos tpos : Pos} {elts : List Expr} {kk : Nat}
theorem lit_zip (hg : Gl X "zip") (hm : X.mg "zip" = none) (ha : LAs X [e, e2] ta)
    (hs : starEach [e, e2] X.env = (false, eval e X.env) :: starEach [e2] X.env := by rfl) (hpl : (backTo pos (starEach [e2] X.env)).any (·.1) = false := by rfl) :
    LIt X (.Tuple elts kk tpos) (.Call (.Name "zip" p) [e, e2] [] pos) (lZip ta) := by
  refine ⟨PI.imp (piZ hg hm ha.pa hs hpl) fun σ H R ⟨m, env, h, P, at_, t1, k⟩ => ⟨m, env, h, _, at_, t1, fun vs h1 p1 m1 H1 xs E1 R1 r1 => ?_⟩⟩
  split at p1
  · rename_i x y
    obtain ⟨v, w, rfl, r2, r3⟩ := r1.two_inv
    obtain ⟨sc, g, ls, q, rfl, gh, sim⟩ := src_sim R1 r2 p1
    obtain ⟨sc2, g2, ls2, q2, rfl, gh2, sim2⟩ := src_sim R1 r3 q
    obtain ⟨us, u1, _⟩ := sim m1 h1 H1 .refl R1 gh
    obtain ⟨ws, w1, _⟩ := sim2 m1 h1 H1 .refl R1 gh2
    refine ⟨sc, sc2, us, ws, rfl, u1, w1, k _ _ h1 q2 m1 H1 _ E1 R1 fun i h' m' H' E' R' ⟨gA, gB⟩ => ?_⟩
    obtain ⟨us, u1, ru⟩ := sim m' h' H' E' R' gA
    obtain ⟨ws, w1, rw'⟩ := sim2 m' h' H' E' R' gB
    refine ⟨fun z hz => ?_, fun hi => ?_⟩
    · obtain ⟨a, b, ha, hb, rfl⟩ := zw_at hz
      obtain ⟨x, hx, rx⟩ := ru.at ha
      obtain ⟨y, hy, ry⟩ := rw'.at hb
      refine ⟨⟨us, ws, x, y, u1, w1, hx, hy⟩, fun v H2 ⟨T, x', y', ev, hT, eH, ux, uy⟩ => ?_⟩
      have hx' := ux us u1
      have hy' := uy ws w1
      rw [hx] at hx'
      rw [hy] at hy'
      cases hx'
      cases hy'
      subst ev eH
      exact rel_pair R' hT rx ry
    · rw [List.length_zipWith, ru.length, rw'.length] at hi
      exact ⟨us, ws, u1, w1, by omega, by omega, by omega⟩
  · exact p1.elim
end
end Y

namespace Y
open PySem PySem.Spec PyProof.Rows L2

/-! ### -e -/
def lNeg (ta : LT) : LT := fun env h P => ta env h fun v h1 => match v with
  | .int i => P (.int (-i)) h1
  | _ => False
theorem le_neg {X : Cx} {a : Expr} {ta : LT} {pos : Pos} (ha : LE X a ta) : LE X (.UnaryOp .USub a pos) (lNeg ta) := by
  refine ⟨PE.imp (pe_un un_neg ha.pe) fun σ H Q ⟨m, env, h, P, at_, t1, k⟩ => ⟨m, env, h, _, at_, t1, fun v h1 p1 m1 H1 x E1 R1 r1 => ?_⟩⟩
  cases v with
  | int i =>
    rw [RelE] at r1
    exact ⟨i, r1, k _ _ p1 m1 H1 _ E1 R1 (by rw [RelE])⟩
  | _ => exact p1.elim
/-! ### loops, told by what holds at each turn -/
theorem loop_ind {g : EH → Prop} {p : Pat} {tb : LS} {D : LEnds} (I : List EV → En → EH → Prop)
    (stop : ∀ env h, I [] env h → g h ∧ D.nx env h)
    (turn : ∀ x xs env h (k : En → EH → Prop), I (x :: xs) env h → (∀ env' h', I xs env' h' → k env' h') → g h ∧ lBind p x env fun env2 => tb { D with nx := k, ct := k, bk := D.nx } env2 h) :
    ∀ xs env h, I xs env h → loopE g p tb D xs env h
  | [], env, h, i => by rw [loopE]; exact stop env h i
  | x :: xs, env, h, i => by rw [loopE]; exact turn x xs env h _ i fun env' h' i' => loop_ind I stop turn xs env' h' i'
/-- a comprehension: what holds of the items left, what is made, the heap -/
theorem lc_ind {g : EH → Prop} {p : Pat} {tt : LTt} {te : LT} {d : Nat} {env : En} {P : EK} (I : List EV → List EV → EH → Prop)
    (stop : ∀ acc h, I [] acc h → h[d]? = some (.lst acc) → g h ∧ P (.ref d) h)
    (turn : ∀ x xs acc h (ky : EK) (kn : EH → Prop), I (x :: xs) acc h → h[d]? = some (.lst acc) →
      (∀ y h', h'[d]? = some (.lst acc) → acc.length < sizeLine → I xs (acc ++ [y]) (h'.set d (.lst (acc ++ [y]))) → ky y h') → (∀ h', h'[d]? = some (.lst acc) → I xs acc h' → kn h') →
      g h ∧ lBind p x env fun env2 => tt env2 h fun b h3 => if b = true then te env2 h3 ky else kn h3) :
    ∀ xs acc h, h[d]? = some (.lst acc) → I xs acc h → lcE g p tt te d env P xs h
  | [], acc, h, e, i => by rw [lcE]; exact stop acc h i e
  | x :: xs, acc, h, e, i => by
    rw [lcE]
    refine turn x xs acc h _ _ i e (fun y h' e' hl i' => ?_) fun h' e' i' => lc_ind I stop turn xs acc h' e' i'
    rw [e']
    refine ⟨hl, lc_ind I stop turn xs _ _ ?_ i'⟩
    exact List.getElem?_set_self (List.getElem?_eq_some_iff.mp e').1
theorem new_at {h : EH} {o : EO} : (h ++ [o])[h.length]? = some o := by simp
theorem new_set {h : EH} {o u : EO} : (h ++ [o]).set h.length u = h ++ [u] := by simp
/-- .. whose items make no object -/
theorem lc_plain {g : EH → Prop} {p : Pat} {tt : LTt} {te : LT} {env : En} {P : EK} {h : EH} (f : EV → Option EV) (xs : List EV) (hl : xs.length ≤ sizeLine) (hg : ∀ acc, g (h ++ [.lst acc]))
    (step : ∀ x ∈ xs, ∀ acc (ky : EK) (kn : EH → Prop), (∀ y, f x = some y → ky y (h ++ [.lst acc])) → (f x = none → kn (h ++ [.lst acc])) →
      lBind p x env fun env2 => tt env2 (h ++ [.lst acc]) fun b h3 => if b = true then te env2 h3 ky else kn h3)
    (fin : P (.ref h.length) (h ++ [.lst (xs.filterMap f)])) : lcE g p tt te h.length env P xs (h ++ [.lst []]) := by
  have key : ∀ ys acc, (∀ x ∈ ys, x ∈ xs) → acc.length + ys.length ≤ xs.length → acc ++ ys.filterMap f = xs.filterMap f → lcE g p tt te h.length env P ys (h ++ [.lst acc]) := by
    intro ys
    induction ys with
    | nil =>
      intro acc _ _ e
      rw [lcE]
      rw [List.filterMap_nil, List.append_nil] at e
      exact ⟨hg _, by rw [e]; exact fin⟩
    | cons x ys ih =>
      intro acc hm hz e
      rw [lcE]
      refine ⟨hg _, step x (hm x (by simp)) acc _ _ (fun y hy => ?_) fun hy => ?_⟩
      · rw [new_at]
        simp only [List.length_cons] at hz
        refine ⟨by omega, ?_⟩
        rw [new_set]
        refine ih _ (fun z hz' => hm z (List.mem_cons_of_mem _ hz')) (by simp; omega) ?_
        rw [List.filterMap_cons, hy] at e
        simpa using e
      · simp only [List.length_cons] at hz
        refine ih _ (fun z hz' => hm z (List.mem_cons_of_mem _ hz')) (by omega) ?_
        rw [List.filterMap_cons, hy] at e
        exact e
  exact key xs [] (fun _ h => h) (by simp) (by simp)
/-- .. with no test -/
theorem lc_map {g : EH → Prop} {p : Pat} {te : LT} {env : En} {P : EK} {h : EH} (f : EV → EV) (xs : List EV) (hl : xs.length ≤ sizeLine) (hg : ∀ acc, g (h ++ [.lst acc]))
    (step : ∀ x ∈ xs, ∀ acc (ky : EK), ky (f x) (h ++ [.lst acc]) → lBind p x env fun env2 => te env2 (h ++ [.lst acc]) ky)
    (fin : P (.ref h.length) (h ++ [.lst (xs.map f)])) : lcE g p lYes te h.length env P xs (h ++ [.lst []]) := by
  refine lc_plain (fun x => some (f x)) xs hl hg (fun x hx acc ky kn hy _ => ?_) (by rw [List.filterMap_eq_map']; exact fin)
  have q := step x hx acc ky (hy _ rfl)
  unfold lBind at q ⊢
  split at q
  · rename_i e
    exact q
  · exact q
/-! ### what is kept -/
/-- all objects but those of b stay -/
def Keep (b : Nat → Prop) (h h' : EH) : Prop := h.length ≤ h'.length ∧ ∀ r o, h[r]? = some o → ¬ b r → h'[r]? = some o
theorem Keep.refl {b : Nat → Prop} {h : EH} : Keep b h h := ⟨Nat.le_refl _, fun _ _ e _ => e⟩
theorem Keep.trans {b : Nat → Prop} {h h' h2 : EH} (x : Keep b h h') (y : Keep b h' h2) : Keep b h h2 := ⟨Nat.le_trans x.1 y.1, fun r o e n => y.2 r o (x.2 r o e n) n⟩
theorem Keep.app {b : Nat → Prop} {h : EH} (g : EH) : Keep b h (h ++ g) := ⟨by simp, fun r o e _ => by rw [List.getElem?_append_left (List.getElem?_eq_some_iff.mp e).1]; exact e⟩
theorem Keep.set {b : Nat → Prop} {h : EH} {r : Nat} {o : EO} (hb : b r) : Keep b h (h.set r o) := ⟨by simp, fun q u e n => by
  rw [List.getElem?_set_ne (fun z => n (by rw [← z]; exact hb))]; exact e⟩
/-- what came later may change -/
theorem Keep.fresh {b : Nat → Prop} {h h' : EH} {r : Nat} {o : EO} (x : Keep b h h') (hr : h.length ≤ r) : Keep b h (h'.set r o) := ⟨by simpa using x.1, fun q u e n => by
  have hq := (List.getElem?_eq_some_iff.mp e).1
  rw [List.getElem?_set_ne (by omega)]; exact x.2 q u e n⟩
theorem Keep.weak {b c : Nat → Prop} {h h' : EH} (x : Keep b h h') (w : ∀ r, b r → c r) : Keep c h h' := ⟨x.1, fun r o e n => x.2 r o e fun z => n (w r z)⟩
def no1 : Nat → Prop := fun _ => False
theorem Keep.all {c : Nat → Prop} {h h' : EH} (x : Keep no1 h h') : Keep c h h' := x.weak fun _ z => z.elim
theorem Keep.at {h h' : EH} {r : Nat} {o : EO} (x : Keep no1 h h') (e : h[r]? = some o) : h'[r]? = some o := x.2 r o e fun z => z
theorem lt_of_at {h : EH} {r : Nat} {o : EO} (e : h[r]? = some o) : r < h.length := (List.getElem?_eq_some_iff.mp e).1
theorem app_at {h : EH} {r : Nat} {o : EO} (e : h[r]? = some o) (g : EH) : (h ++ g)[r]? = some o := by rw [List.getElem?_append_left (lt_of_at e)]; exact e
/-! ### data -/
def DS (h : EH) (n k : Nat) (v : EV) (d : PyData) : Prop := Dat h n v d ∧ d.showable = true ∧ d.leavesShort 13 = true ∧ d.weight ≤ k
def DSs (h : EH) (n k : Nat) (vs : List EV) (ds : List PyData) : Prop := Dats h n vs ds ∧ PyData.showableAll ds = true ∧ PyData.leavesShortAll 13 ds = true ∧ PyData.weightAll ds ≤ k
section
variable {h : EH} {n k j : Nat}
theorem DS.non : DS h n k .non .none := ⟨.non, by simp [PyData.showable], by simp [PyData.leavesShort], by simp [PyData.weight]⟩
theorem DS.bl {b : Bool} : DS h n k (.bl b) (.bool b) := ⟨.bl b, by simp [PyData.showable], by simp [PyData.leavesShort], by simp [PyData.weight]⟩
theorem log_le {a k : Nat} (h : a < 2 ^ k) (h0 : 0 < k) : a.log2 < k := by
  by_cases z : a = 0
  · subst z; simpa using h0
  · exact (Nat.log2_lt z).mpr h
theorem DS.int {i : Int} (hi : i.natAbs < 10 ^ 12) (hk : 41 ≤ k) : DS h n k (.int i) (.int i) := by
  have l : i.natAbs.log2 < 40 := log_le (Nat.lt_trans hi (by decide)) (by decide)
  refine ⟨.int i, ?_, ?_, ?_⟩
  · rw [PyData.showable.eq_4]
    exact decide_eq_true (by omega)
  · simp only [PyData.leavesShort]
    exact decide_eq_true (PyData.shown_int_le hi)
  · simp only [PyData.weight]
    split <;> omega
theorem DS.str {s : List Nat} (hs : ∀ c ∈ s, c < 16 ^ 8) (hk : s.length ≤ k) : DS h n k (.str s) (.str (S s)) := by
  refine ⟨.str s, by rw [PyData.showable.eq_3], ?_, ?_⟩
  · simp only [PyData.leavesShort, List.all_eq_true, decide_eq_true_eq]
    exact fun c hc => hs c (by simpa using hc)
  · simp only [PyData.weight]
    simpa using hk
theorem DSs.nil : DSs h n k [] [] := ⟨.nil, by simp [PyData.showableAll], by simp [PyData.leavesShortAll], by simp [PyData.weightAll]⟩
theorem DSs.cons {x : EV} {xs : List EV} {d : PyData} {ds : List PyData} {a b : Nat} (hx : DS h n a x d) (hs : DSs h n b xs ds) : DSs h n (a + 1 + b) (x :: xs) (d :: ds) := by
  refine ⟨.cons hx.1 hs.1, ?_, ?_, ?_⟩
  · simp only [PyData.showableAll, hx.2.1, hs.2.1, Bool.and_self]
  · simp only [PyData.leavesShortAll, hx.2.2.1, hs.2.2.1, Bool.and_self]
  · simp only [PyData.weightAll]
    have := hx.2.2.2
    have := hs.2.2.2
    omega
theorem DS.tup {xs : List EV} {ds : List PyData} (hs : DSs h n k xs ds) : DS h (n + 1) k (.tup xs) (.tuple ds) := by
  refine ⟨.tup hs.1, ?_, ?_, ?_⟩
  · simpa only [PyData.showable] using hs.2.1
  · simpa only [PyData.leavesShort] using hs.2.2.1
  · simpa only [PyData.weight] using hs.2.2.2
theorem DS.lst {r : Nat} {xs : List EV} {ds : List PyData} (e : h[r]? = some (.lst xs)) (hs : DSs h n k xs ds) : DS h (n + 1) k (.ref r) (.list ds) := by
  refine ⟨.lst e hs.1, ?_, ?_, ?_⟩
  · simpa only [PyData.showable] using hs.2.1
  · simpa only [PyData.leavesShort] using hs.2.2.1
  · simpa only [PyData.weight] using hs.2.2.2
theorem DS.more {v : EV} {d : PyData} (x : DS h n k v d) (hk : k ≤ j) : DS h n j v d := ⟨x.1, x.2.1, x.2.2.1, Nat.le_trans x.2.2.2 hk⟩
theorem DSs.more {v : List EV} {d : List PyData} (x : DSs h n k v d) (hk : k ≤ j) : DSs h n j v d := ⟨x.1, x.2.1, x.2.2.1, Nat.le_trans x.2.2.2 hk⟩
theorem DS.fits {v : EV} {d : PyData} (x : DS h n k v d) (hk : k ≤ 2 ^ 20) : d.showable = true ∧ d.shown.length ≤ sizeLine := ⟨x.2.1, PyData.shown_fits (by decide) (by decide) x.2.2.1 (Nat.le_trans x.2.2.2 hk)⟩
end
/-! ### values with no objects in them -/
mutual
def pd : EV → PyData
  | .int i => .int i
  | .bl b => .bool b
  | .str s => .str (S s)
  | .tup xs => .tuple (pds xs)
  | _ => .none
def pds : List EV → List PyData
  | [] => []
  | x :: xs => pd x :: pds xs
end
mutual
/-- small, no objects; nested at most n deep -/
def Sml : Nat → EV → Prop
  | _, .int i => i.natAbs < 10 ^ 12
  | _, .bl _ => True
  | _, .non => True
  | _, .str s => ∀ c ∈ s, c < 16 ^ 8
  | n + 1, .tup xs => Smls n xs
  | _, _ => False
def Smls : Nat → List EV → Prop
  | _, [] => True
  | n, x :: xs => Sml n x ∧ Smls n xs
end
mutual
def wE : EV → Nat
  | .int _ => 41
  | .str s => s.length
  | .tup xs => wEs xs
  | _ => 0
def wEs : List EV → Nat
  | [] => 0
  | x :: xs => wE x + 1 + wEs xs
end
mutual
theorem Sml.ds {h : EH} : ∀ (n : Nat) (v : EV), Sml n v → DS h n (wE v) v (pd v)
  | n, .int i, s => by rw [Sml] at s; rw [pd, wE]; exact .int s (Nat.le_refl _)
  | n, .bl b, s => by rw [pd]; exact .bl
  | n, .non, s => by simp only [pd, wE]; exact .non
  | n, .str l, s => by rw [Sml] at s; rw [pd, wE]; exact .str s (Nat.le_refl _)
  | n + 1, .tup xs, s => by rw [Sml] at s; rw [pd, wE]; exact .tup (Smls.ds n xs s)
  | 0, .tup xs, s => by simp [Sml] at s
  | _, .ref _, s => by simp [Sml] at s
  | _, .adr _, s => by simp [Sml] at s
  | _, .ty _, s => by simp [Sml] at s
theorem Smls.ds {h : EH} : ∀ (n : Nat) (vs : List EV), Smls n vs → DSs h n (wEs vs) vs (pds vs)
  | n, [], s => by rw [pds, wEs]; exact .nil
  | n, x :: xs, s => by rw [Smls] at s; rw [pds, wEs]; exact .cons (Sml.ds n x s.1) (Smls.ds n xs s.2)
end
theorem Smls.all {n : Nat} : ∀ {vs : List EV}, (∀ v ∈ vs, Sml n v) → Smls n vs
  | [], _ => by rw [Smls]; trivial
  | x :: xs, s => by rw [Smls]; exact ⟨s x (by simp), Smls.all fun v hv => s v (List.mem_cons_of_mem _ hv)⟩
theorem wEs_le {c : Nat} : ∀ {vs : List EV}, (∀ v ∈ vs, wE v ≤ c) → wEs vs ≤ vs.length * (c + 1)
  | [], _ => by rw [wEs]; omega
  | x :: xs, s => by
    rw [wEs, List.length_cons, Nat.add_mul]
    have := s x (by simp)
    have := wEs_le (vs := xs) fun v hv => s v (List.mem_cons_of_mem _ hv)
    omega
/-- the same data answer == -/
theorem eqE_same {h : EH} {v w : EV} {d : PyData} {P : EK} (a : Dat h 60 v d) (b : Dat h 60 w d) (p : P (.bl true) h) : eqE false v w h P := by
  have fin : ∃ d e, Dat h 60 v d ∧ Dat h 60 w e ∧ P (.bl (false ^^ PyData.eqv d e)) h := ⟨d, d, a, b, by
    rw [PySem.SeqAt.eqv_refl_plain d (Dat.dep d 60 v a).2]; exact p⟩
  cases a <;> cases b <;> first | exact fin | (unfold eqE; simpa using p)
end Y

namespace Y
open PySem PySem.Spec PyProof.Rows L2

/-! ### one step at a time -/
theorem sizeL : sizeLine = 16777216 := by decide
theorem at0 {α : Type} {x : α} {xs : List α} : atI (x :: xs) 0 = some x := by
  have := L2.atI_nat (xs := x :: xs) (j := 0) (v := x) rfl
  simpa using this
theorem at1 {α : Type} {x y : α} {xs : List α} : atI (x :: y :: xs) 1 = some y := by
  have := L2.atI_nat (xs := x :: y :: xs) (j := 1) (v := y) rfl
  simpa using this
theorem at2 {α : Type} {x y z : α} {xs : List α} : atI (x :: y :: z :: xs) 2 = some z := by
  have := L2.atI_nat (xs := x :: y :: z :: xs) (j := 2) (v := z) rfl
  simpa using this
theorem at3 {α : Type} {x y z u : α} {xs : List α} : atI (x :: y :: z :: u :: xs) 3 = some u := by
  have := L2.atI_nat (xs := x :: y :: z :: u :: xs) (j := 3) (v := u) rfl
  simpa using this
theorem atm1 {α : Type} (xs : List α) (v : α) : atI (xs ++ [v]) (-1) = some v := L2.atI_last xs v
theorem set_at {h : EH} {b : Nat} {o u : EO} (e : h[b]? = some u) : (h.set b o)[b]? = some o := List.getElem?_set_self (lt_of_at e)
theorem set_off {h : EH} {b c : Nat} {o u : EO} (e : h[c]? = some u) (n : c ≠ b) : (h.set b o)[c]? = some u := by rw [List.getElem?_set_ne (fun z => n z.symm)]; exact e
section
variable {h : EH} {P : EK} {r l b c : Nat} {xs ys : List EV} {i j : Int} {v w x : EV}
theorem ix_l (e : h[r]? = some (.lst xs)) (a : atI xs i = some x) (p : P x h) : ixE (.ref r) (.int i) h P := by
  unfold ixE; simp only [e, a]; exact p
theorem ix_t (a : atI xs i = some x) (p : P x h) : ixE (.tup xs) (.int i) h P := by
  unfold ixE; simp only [a]; exact p
theorem ix_s {s : List Nat} {y : Nat} (hl : s.length ≤ sizeLine) (a : atI s i = some y) (p : P (.str [y]) h) : ixE (.str s) (.int i) h P := by
  unfold ixE; simp only [a]; exact ⟨hl, p⟩
theorem sl_l {lo hi : Option Int} (e : h[r]? = some (.lst xs)) (p : P (.ref h.length) (h ++ [.lst (cut xs lo hi)])) : slE (.ref r) lo hi h P := by
  unfold slE; simp only [e]; exact p
theorem sl_s {s : List Nat} {lo hi : Option Int} (hl : s.length ≤ sizeLine) (p : P (.str (cut s lo hi)) h) : slE (.str s) lo hi h P := ⟨hl, p⟩
theorem add_l (e : h[l]? = some (.lst xs)) (e2 : h[r]? = some (.lst ys)) (hl : xs.length + ys.length ≤ sizeLine) (p : P (.ref h.length) (h ++ [.lst (xs ++ ys)])) : addE (.ref l) (.ref r) h P := by
  unfold addE; simp only [e, e2]; exact ⟨hl, p⟩
theorem add_s {s t : List Nat} (hl : s.length + t.length ≤ sizeLine) (p : P (.str (s ++ t)) h) : addE (.str s) (.str t) h P := ⟨hl, p⟩
theorem set_l {k : Nat} {p : EH → Prop} (e : h[b]? = some (.lst xs)) (a : ixN xs.length i = some k) (q : p (h.set b (.lst (xs.set k v)))) : setE (.ref b) (.int i) v h p := by
  unfold setE; simp only [e, a]; exact q
theorem get_l {p : EV → Prop} (e : h[b]? = some (.lst xs)) (h0 : 0 ≤ i) (a : xs[i.toNat]? = some x) (q : p x) : getE (.ref b) (.int i) h p := by
  unfold getE; simp only [e, a]; exact ⟨h0, q⟩
theorem mul_i (c : IntMulOk i j) (p : P (.int (i * j)) h) : mulE (.int i) (.int j) h P := ⟨c, p⟩
theorem mul_s {s : List Nat} (c : 0 < j ∧ j < 2 ^ 24 ∧ s.length * j.toNat ≤ 1000000) (p : P (.str (repN j s)) h) : mulE (.str s) (.int j) h P := ⟨c, p⟩
theorem mod_i (c : 0 < j) (p : P (.int (i % j)) h) : modE (.int i) (.int j) h P := ⟨c, p⟩
theorem div_i (c : 0 < j) (c2 : j < 2 ^ 64) (p : P (.int (i / j)) h) : fdivE (.int i) (.int j) h P := ⟨⟨c, by
  have := log_le (a := j.natAbs) (k := 64) (by omega) (by decide)
  omega⟩, p⟩
theorem pow_i (c : CPow i j) (p : P (.int (i ^ j.toNat)) h) : powE (.int i) (.int j) h P := ⟨c, p⟩
theorem int_i (p : P (.int i) h) : intOf [.int i] h P := p
theorem int_b {q : Bool} (p : P (.int (if q then 1 else 0)) h) : intOf [.bl q] h P := p
theorem lt_i (p : P (.bl (decide (i < j))) h) : ltE (.int i) (.int j) h P := p
theorem le_i (p : P (.bl (decide (i ≤ j))) h) : leE (.int i) (.int j) h P := p
theorem gt_i (p : P (.bl (decide (j < i))) h) : gtE (.int i) (.int j) h P := p
theorem ge_i (p : P (.bl (decide (j ≤ i))) h) : geE (.int i) (.int j) h P := p
theorem sub_i (p : P (.int (i - j)) h) : subE (.int i) (.int j) h P := p
theorem add_i (p : P (.int (i + j)) h) : addE (.int i) (.int j) h P := p
theorem eq_i {n : Bool} (p : P (.bl (n ^^ decide (i = j))) h) : eqE n (.int i) (.int j) h P := p
theorem eq_s {n : Bool} {s t : List Nat} (p : P (.bl (n ^^ decide (s = t))) h) : eqE n (.str s) (.str t) h P := p
theorem mulOk_r (hj : j.natAbs < 2 ^ 64) : IntMulOk i j := (show CMul i j from .inr (by omega)).ok
theorem mulOk_l (hi : i.natAbs < 2 ^ 64) : IntMulOk i j := (show CMul i j from .inl (by omega)).ok
theorem app_e (e : h[r]? = some (.lst xs)) (ys : List EV) (hl : xs.length < sizeLine) (p : P .non (h.set r (.lst (xs ++ [v])))) : appendE (.ref r) [v] h P := by
  unfold appendE onList; simp only [e]; exact ⟨hl, p⟩
theorem ins_e (e : h[r]? = some (.lst xs)) (hl : xs.length < sizeLine) (h0 : 0 ≤ i) (h1 : i < 2 ^ 63) (p : P .non (h.set r (.lst (xs.take i.toNat ++ [v] ++ xs.drop i.toNat)))) : insertE (.ref r) [.int i, v] h P := by
  unfold insertE onList; simp only [e]; exact ⟨hl, h0, h1, p⟩
theorem len_l (e : h[r]? = some (.lst xs)) (p : P (.int xs.length) h) : lenE [.ref r] h P := by
  unfold lenE; simp only [e]; exact p
end
theorem cut_to {α : Type} (xs : List α) (k : Nat) : cut xs none (some (k : Int)) = xs.take k := by
  unfold cut
  rw [HT.sIx_none, HT.sIx_nat]
  simp only [List.drop_zero, Nat.sub_zero]
  by_cases q : k ≤ xs.length
  · rw [Nat.min_eq_left q]
  · rw [Nat.min_eq_right (by omega), List.take_of_length_le (Nat.le_refl _), List.take_of_length_le (by omega)]
theorem cut_from {α : Type} (xs : List α) (k : Nat) : cut xs (some (k : Int)) none = xs.drop k := by
  unfold cut
  rw [HT.sIx_none, HT.sIx_nat]
  by_cases q : k ≤ xs.length
  · rw [Nat.min_eq_left q, List.take_of_length_le (by simp)]
  · rw [Nat.min_eq_right (by omega), List.take_of_length_le (by simp), List.drop_of_length_le (Nat.le_refl _), List.drop_of_length_le (by omega)]
mutual
/-- nested at most n deep, so at most j -/
theorem Dat.deep' {h : EH} : ∀ (d : PyData) (n j : Nat) (v : EV), n ≤ j → Dat h n v d → Dat h j v d
  | .none, n, j, v, l, a => by cases a; exact .non
  | .bool _, n, j, v, l, a => by cases a; exact .bl _
  | .int _, n, j, v, l, a => by cases a; exact .int _
  | .str _, n, j, v, l, a => by cases a; exact .str _
  | .dict _, n, j, v, l, a => by cases a
  | .tuple ds, n, j, v, l, a => by
    cases a with
    | tup r =>
      cases j with
      | zero => omega
      | succ j => exact .tup (Dats.deep' ds _ j _ (by omega) r)
  | .list ds, n, j, v, l, a => by
    cases a with
    | lst e r =>
      cases j with
      | zero => omega
      | succ j => exact .lst e (Dats.deep' ds _ j _ (by omega) r)
theorem Dats.deep' {h : EH} : ∀ (ds : List PyData) (n j : Nat) (vs : List EV), n ≤ j → Dats h n vs ds → Dats h j vs ds
  | [], n, j, vs, l, a => by cases a; exact .nil
  | d :: ds, n, j, vs, l, a => by
    cases a with
    | cons a b => exact .cons (Dat.deep' d n j _ l a) (Dats.deep' ds n j _ l b)
end
theorem Dat.deep {h : EH} {d : PyData} {n j : Nat} {v : EV} (a : Dat h n v d) (l : n ≤ j) : Dat h j v d := Dat.deep' d n j v l a
theorem bind_nm {i : Nat} {v : EV} {env : En} {P : En → Prop} (p : P (env.set i (some v))) : lBind (.nm i) v env P := p
theorem tru_b {b : Bool} {h : EH} {P : Bool → Prop} (p : P b) : truE (.bl b) h P := p
end Y

namespace Y
open PySem PySem.Spec PyProof.Rows L2

/-! ### the bag -/
def BagAt (h : EH) (b : Nat) : Prop := ∃ (c : Nat) (x y z : Int) (ns : List Int), h[b]? = some (.lst [.int x, .int y, .int z, .ref c]) ∧ h[c]? = some (.lst (ns.map EV.int)) ∧ c < b ∧ 0 ≤ x ∧ 0 ≤ y ∧ 0 ≤ z ∧ ns.length ≤ 63 ∧ ∀ n ∈ ns, 0 ≤ n
def is1 (b : Nat) : Nat → Prop := fun r => r = b
def sp__law_bag : LSp := fun evs h Q => ∃ ns : List Int, evs = [.ref 0] ∧ h = [.frz (ns.map EV.int)] ∧ ns.length ≤ 63 ∧ ∀ b h', BagAt h' b → Q (.ref b) h'
def sp__law_take : LSp := fun evs h Q => ∃ (b : Nat) (many : Int), evs = [.ref b, .int many] ∧ 0 < many ∧ many < 2 ^ 60 ∧ BagAt h b ∧ ∀ d h', 0 ≤ d → d < many → Keep (is1 b) h h' → BagAt h' b → Q (.int d) h'
def sp__law_one : LSp := fun evs h Q => ∃ (b l : Nat) (xs : List EV), evs = [.ref b, .ref l] ∧ h[l]? = some (.lst xs) ∧ xs ≠ [] ∧ xs.length ≤ sizeLine ∧ l ≠ b ∧ BagAt h b ∧ ∀ x h', x ∈ xs → Keep (is1 b) h h' → BagAt h' b → Q x h'
def sp__law_mixed : LSp := fun evs h Q => ∃ (b l : Nat) (xs : List EV), evs = [.ref b, .ref l] ∧ h[l]? = some (.lst xs) ∧ xs.length ≤ 1000000 ∧ l ≠ b ∧ BagAt h b ∧ ∀ r ys h', ys.Perm xs → Keep (is1 b) h h' → h.length ≤ r → h'[r]? = some (.lst ys) → BagAt h' b → Q (.ref r) h'
def sp__law_alike : LSp := fun evs h Q => ∃ (v w : EV) (d : PyData) (n k : Nat), evs = [v, w] ∧ DS h n k v d ∧ DS h n k w d ∧ n ≤ 60 ∧ k ≤ 2 ^ 20 ∧ Q (.bl true) h
/-! ### scripts, points -/
def oneI (b : Bool) : Int := if b then 1 else 0
def mv (p : Int × Int) (s : List Nat) : Int × Int := (p.1 + oneI (!decide (s = [112])), p.2 + oneI (!decide (s = [100])))
def pE (p : Int × Int) : EV := .tup [.int p.1, .int p.2]
def pts (p : Int × Int) : List Nat → List (Int × Int)
  | [] => [p]
  | c :: cs => p :: pts (mv p [c]) cs
def keptL (s : List Nat) : List (Int × Int) := (List.zip (pts (0, 0) s) s).filterMap fun q => if q.2 = 107 then some q.1 else none
def offs (s : List Nat) : List Int := (pts (0, 0) s).map fun p => ((p.1 - p.2).natAbs : Int)
def maxL : List Int → Int
  | [] => 0
  | [a] => a
  | a :: b :: l => max a (maxL (b :: l))
def wide (s : List Nat) : Int := maxL (offs s)
def turnC (c : Nat) : Nat := if c = 100 then 112 else if c = 112 then 100 else 107
def StepC (s : List Nat) : Prop := ∀ c ∈ s, c = 107 ∨ c = 100 ∨ c = 112
def spPts : LSp := fun evs h Q => ∃ s : List Nat, evs = [.str s] ∧ s.length ≤ 1000 ∧ ∀ r h', Keep no1 h h' → h.length ≤ r → h'[r]? = some (.lst ((pts (0, 0) s).map pE)) → Q (.ref r) h'
def spKept : LSp := fun evs h Q => ∃ s : List Nat, evs = [.str s] ∧ s.length ≤ 1000 ∧ ∀ r h', Keep no1 h h' → h.length ≤ r → h'[r]? = some (.lst ((keptL s).map pE)) → Q (.ref r) h'
def spTurn : LSp := fun evs h Q => ∃ s : List Nat, evs = [.str s] ∧ s.length ≤ 1000 ∧ StepC s ∧ ∀ h', Keep no1 h h' → Q (.str (s.map turnC)) h'
def sp_moved : LSp := fun evs h Q => ∃ (p : Int × Int) (s : List Nat), evs = [pE p, .str s] ∧ Q (pE (mv p s)) h
def sp_points : LSp := spPts
def sp_kept : LSp := spKept
def sp_widest : LSp := fun evs h Q => ∃ s : List Nat, evs = [.str s] ∧ s.length ≤ 1000 ∧ ∀ h', Keep no1 h h' → Q (.int (wide s)) h'
/-- a promise, and whether a script keeps it -/
inductive Prom where
  | none | total (g : Int) | lag (g : Int)
def Prom.e : Prom → EV
  | .none => .tup [.str [110, 111, 110, 101]]
  | .total g => .tup [.str [116, 111, 116, 97, 108], .int g]
  | .lag g => .tup [.str [108, 97, 103], .int g]
def Prom.kept (s : List Nat) : Prom → Bool
  | .lag g => decide (wide s ≤ g)
  | _ => true
def sp_is_allowed : LSp := fun evs h Q => ∃ (s : List Nat) (p : Prom), evs = [.str s, p.e] ∧ s.length ≤ 1000 ∧ ∀ h', Keep no1 h h' → Q (.bl (p.kept s)) h'
def sp_turned : LSp := spTurn
def sp__law_points : LSp := spPts
def sp__law_kept : LSp := spKept
def sp__law_swapped : LSp := spTurn
def sp__law_right : LSp := fun evs h Q => ∃ (b : Nat) (s : List Nat), evs = [.ref b, .str s] ∧ s.length ≤ 1000 ∧ StepC s ∧ BagAt h b ∧ ∀ h', Keep (is1 b) h h' → BagAt h' b → Q (.bl true) h'
def top (i : Nat) : Stmt := PySem.Challenge.pw_saidearly_k16_points_kept_widest_turned.main.body.getD i (.Pass ⟨0, 0, 0, 0⟩)
abbrev s_moved : Stmt := top 5
abbrev s_points : Stmt := top 6
abbrev s_kept : Stmt := top 7
abbrev s_widest : Stmt := top 8
abbrev s_is_allowed : Stmt := top 9
abbrev s_turned : Stmt := top 10
abbrev s__law_bag : Stmt := top 12
abbrev s__law_take : Stmt := top 13
abbrev s__law_one : Stmt := top 14
abbrev s__law_mixed : Stmt := top 15
abbrev s__law_alike : Stmt := top 16
abbrev s__law_points : Stmt := top 17
abbrev s__law_kept : Stmt := top 18
abbrev s__law_swapped : Stmt := top 19
abbrev s__law_right : Stmt := top 20
abbrev s_law : Stmt := top 21
abbrev N_moved : List Str := ["point", "step"]
abbrev N_points : List Str := ["script", "found", "step"]
abbrev N_kept : List Str := ["script", "point", "step"]
abbrev N_widest : List Str := ["script", "i", "j"]
abbrev N_is_allowed : List Str := ["script", "promise"]
abbrev N_turned : List Str := ["script", "step"]
abbrev N__law_bag : List Str := ["_law_script", "_law_cell"]
abbrev N__law_take : List Str := ["_law_bag_here", "_law_many", "_law_cell", "_law_mixed_here", "_law_drawn", "_law_early", "_law_second"]
abbrev N__law_one : List Str := ["_law_bag_here", "_law_some"]
abbrev N__law_mixed : List Str := ["_law_bag_here", "_law_things", "_law_found", "_law_thing"]
abbrev N__law_alike : List Str := ["_law_found", "_law_due"]
abbrev N__law_points : List Str := ["_law_steps", "_law_found", "_law_step", "_law_i", "_law_j"]
abbrev N__law_kept : List Str := ["_law_steps", "_law_spots", "_law_at"]
abbrev N__law_swapped : List Str := ["_law_steps", "_law_found", "_law_step"]
abbrev N__law_right : List Str := ["_law_bag_here", "_law_steps", "_law_spots", "_law_pairs", "_law_again", "_law_found", "_law_wide", "_law_promises", "_law_promise", "_law_back", "_law_i", "_law_j", "_law_g"]
abbrev N_law : List Str := ["_law_script", "_law_bag_here", "_law_turn", "_law_menu", "_law_steps", "_law_k"]
def t_moved : LS :=
    lRet (lTup (lCons (lOp addE (lOp ixE (lVar 0) (lC (.int 0))) (lCB intOf (lCons (lOp (eqE true) (lVar 1) (lC (.str [112]))) (lNil)))) (lCons (lOp addE (lOp ixE (lVar 0) (lC (.int 1))) (lCB intOf (lCons (lOp (eqE true) (lVar 1) (lC (.str [100]))) (lNil)))) (lNil))))
def t_points : LS :=
    lSeq (lSet (lLst (lCons (lTup (lCons (lC (.int 0)) (lCons (lC (.int 0)) (lNil)))) (lNil))) 1) <|
    lSeq (lFor (lIt (lVar 0)) (.nm 2)
      (lDrop (lBM "list" appendE (lVar 1) (lCons (lCall sp_moved (lCons (lOp ixE (lVar 1) (lNeg (lC (.int 1)))) (lCons (lVar 2) (lNil)))) (lNil))))) <|
    lRet (lVar 1)
def t_kept : LS :=
    lRet (lLc (lZip (lCons (lCall sp_points (lCons (lVar 0) (lNil))) (lCons (lVar 0) (lNil)))) (.tp [.nm 1, .nm 2]) (lB (lOp (eqE false) (lVar 2) (lC (.str [107])))) (lVar 1) [1, 2])
def t_widest : LS :=
    lRet (lCB maxE (lCons (lLc (lIt (lCall sp_points (lCons (lVar 0) (lNil)))) (.tp [.nm 1, .nm 2]) (lYes) (lCB absE (lCons (lOp subE (lVar 1) (lVar 2)) (lNil))) [1, 2]) (lNil)))
def t_is_allowed : LS :=
    lRet (lOrV (lOp (eqE true) (lOp ixE (lVar 1) (lC (.int 0))) (lC (.str [108, 97, 103]))) (lOp leE (lCall sp_widest (lCons (lVar 0) (lNil))) (lOp ixE (lVar 1) (lC (.int 1)))))
def t_turned (a_TURNED : Addr) : LS :=
    lRet (lBM "str" joinE (lC (.str [])) (lCons (lLc (lIt (lVar 0)) (.nm 1) (lYes) (lOp (kdE [([107], [107]), ([100], [112]), ([112], [100])] a_TURNED) (lC (.adr a_TURNED)) (lVar 1)) [1]) (lNil)))
def t__law_bag : LS :=
    lRet (lLst (lCons (lC (.int 0)) (lCons (lC (.int 1234567891)) (lCons (lC (.int 0)) (lCons (lLc (lIt (lSl (lVar 0) (lPart none) (lPart (some (lC (.int 63)))))) (.nm 1) (lYes) (lCB absE (lCons (lVar 1) (lNil))) [1]) (lNil))))))
def t__law_take : LS :=
    lSeq (lIfS (lB (lOp (eqE false) (lOp ixE (lVar 0) (lC (.int 0))) (lC (.int 0))))
      (lSeq (lSet (lOp ixE (lOp addE (lSl (lOp ixE (lVar 0) (lC (.int 3))) (lPart (some (lOp ixE (lVar 0) (lC (.int 2))))) (lPart none)) (lLst (lCons (lC (.int 0)) (lNil)))) (lC (.int 0))) 2) <|
    lSeq (lAugS (fun i j => i + j) (lVar 0) (lC (.int 2)) (lC (.int 1))) <|
    lSeq (lSetI (lVar 0) (lC (.int 0)) (lOp mulE (lVar 2) (lCB intOf (lCons (lOp geE (lVar 2) (lOp powE (lC (.int 10)) (lC (.int 18)))) (lNil))))) <|
    lSeq (lSet (lOp addE (lOp addE (lOp mulE (lOp ixE (lVar 0) (lC (.int 1))) (lC (.int 48271))) (lOp modE (lCB intOf (lCons (lVar 2) (lNil))) (lC (.int 2147483647)))) (lOp mulE (lC (.int 7919)) (lOp ixE (lVar 0) (lC (.int 2))))) 3) <|
    lSetI (lVar 0) (lC (.int 1)) (lOp modE (lCB intOf (lCons (lVar 3) (lNil))) (lC (.int 2147483647))))
      (lNext)) <|
    lSeq (lIfS (lB (lOp gtE (lOp ixE (lVar 0) (lC (.int 0))) (lC (.int 0))))
      (lSeq (lSet (lOp modE (lCB intOf (lCons (lOp ixE (lVar 0) (lC (.int 0))) (lNil))) (lVar 1)) 4) <|
    lSeq (lSetI (lVar 0) (lC (.int 0)) (lOp fdivE (lCB intOf (lCons (lOp ixE (lVar 0) (lC (.int 0))) (lNil))) (lVar 1))) <|
    lRet (lVar 4))
      (lNext)) <|
    lSeq (lSet (lOp modE (lCB intOf (lCons (lOp mulE (lOp addE (lOp ixE (lVar 0) (lC (.int 1))) (lC (.int 1))) (lC (.int 39373))) (lNil))) (lC (.int 1000000007))) 5) <|
    lSeq (lSet (lOp modE (lCB intOf (lCons (lOp mulE (lOp modE (lCB intOf (lCons (lOp mulE (lVar 5) (lVar 5)) (lNil))) (lC (.int 998244353))) (lC (.int 30011))) (lNil))) (lC (.int 998244353))) 6) <|
    lRet (lOp modE (lCB intOf (lCons (lOp fdivE (lVar 6) (lC (.int 7))) (lNil))) (lVar 1))
def t__law_one : LS :=
    lRet (lOp ixE (lVar 1) (lCall sp__law_take (lCons (lVar 0) (lCons (lCB lenE (lCons (lVar 1) (lNil))) (lNil)))))
def t__law_mixed : LS :=
    lSeq (lSet (lLst (lNil)) 2) <|
    lSeq (lFor (lIt (lVar 1)) (.nm 3)
      (lDrop (lBM "list" insertE (lVar 2) (lCons (lCall sp__law_take (lCons (lVar 0) (lCons (lOp addE (lCB lenE (lCons (lVar 2) (lNil))) (lC (.int 1))) (lNil)))) (lCons (lVar 3) (lNil)))))) <|
    lRet (lVar 2)
def t__law_alike : LS :=
    lRet (lAndV (lOp (eqE false) (lVar 0) (lVar 1)) (lOp (eqE false) (lCB reprE (lCons (lVar 0) (lNil))) (lCB reprE (lCons (lVar 1) (lNil)))))
def t__law_points : LS :=
    lSeq (lSet (lLst (lCons (lTup (lCons (lC (.int 0)) (lCons (lC (.int 0)) (lNil)))) (lNil))) 1) <|
    lSeq (lFor (lIt (lVar 0)) (.nm 2)
      (lSeq (lAsg (lOp ixE (lVar 1) (lNeg (lC (.int 1)))) (.tp [.nm 3, .nm 4])) <|
    lDrop (lBM "list" appendE (lVar 1) (lCons (lTup (lCons (lOp addE (lVar 3) (lCB intOf (lCons (lOp (eqE true) (lVar 2) (lC (.str [112]))) (lNil)))) (lCons (lOp addE (lVar 4) (lCB intOf (lCons (lOp (eqE true) (lVar 2) (lC (.str [100]))) (lNil)))) (lNil)))) (lNil))))) <|
    lRet (lVar 1)
def t__law_kept : LS :=
    lSeq (lSet (lCall sp__law_points (lCons (lVar 0) (lNil))) 1) <|
    lRet (lLc (lRng1 (lCons (lCB lenE (lCons (lVar 0) (lNil))) (lNil))) (.nm 2) (lB (lOp (eqE false) (lOp ixE (lVar 0) (lVar 2)) (lC (.str [107])))) (lOp ixE (lVar 1) (lVar 2)) [2])
def t__law_swapped : LS :=
    lSeq (lSet (lC (.str [])) 1) <|
    lSeq (lFor (lIt (lVar 0)) (.nm 2)
      (lIfS (lB (lOp (eqE false) (lVar 2) (lC (.str [100]))))
      (lSet (lOp addE (lVar 1) (lC (.str [112]))) 1)
      (lSet (lOp addE (lVar 1) (lIf (lB (lOp (eqE false) (lVar 2) (lC (.str [112])))) (lC (.str [100])) (lC (.str [107])))) 1))) <|
    lRet (lVar 1)
def t__law_right : LS :=
    lSeq (lPar 2 3 (lCons (lCall sp__law_points (lCons (lVar 1) (lNil))) (lCons (lCall sp__law_kept (lCons (lVar 1) (lNil))) (lNil)))) <|
    lSeq (lFor (lRng1 (lCons (lC (.int 3)) (lNil))) (.nm 4)
      (lSeq (lSet (lLst (lCons (lCall sp_points (lCons (lVar 1) (lNil))) (lCons (lCall sp_kept (lCons (lVar 1) (lNil))) (lNil)))) 5) <|
    lSeq (lIfS (lNot (lT (lCall sp__law_alike (lCons (lVar 5) (lCons (lLst (lCons (lVar 2) (lCons (lVar 3) (lNil)))) (lNil))))))
      (lRet (lC (.bl false)))
      (lNext)) <|
    lSeq (lDrop (lBM "list" appendE (lOp ixE (lVar 5) (lC (.int 0))) (lCons (lTup (lCons (lC (.int 1)) (lCons (lC (.int 1)) (lNil)))) (lNil)))) <|
    lDrop (lBM "list" insertE (lOp ixE (lVar 5) (lC (.int 1))) (lCons (lC (.int 0)) (lCons (lTup (lCons (lC (.int 0)) (lCons (lC (.int 9)) (lNil)))) (lNil)))))) <|
    lSeq (lSet (lCB maxE (lCons (lLc (lIt (lVar 2)) (.tp [.nm 10, .nm 11]) (lYes) (lCB absE (lCons (lOp subE (lVar 10) (lVar 11)) (lNil))) [10, 11]) (lNil))) 6) <|
    lSeq (lIfS (lNot (lT (lCall sp__law_alike (lCons (lCall sp_widest (lCons (lVar 1) (lNil))) (lCons (lVar 6) (lNil))))))
      (lRet (lC (.bl false)))
      (lNext)) <|
    lSeq (lSet (lOp addE (lLst (lCons (lTup (lCons (lC (.str [110, 111, 110, 101])) (lNil))) (lCons (lTup (lCons (lC (.str [116, 111, 116, 97, 108])) (lCons (lC (.int 0)) (lNil)))) (lCons (lTup (lCons (lC (.str [116, 111, 116, 97, 108])) (lCons (lCall sp__law_take (lCons (lVar 0) (lCons (lC (.int 61)) (lNil)))) (lNil)))) (lNil))))) (lLc (lIt (lTup (lCons (lC (.int 1)) (lCons (lC (.int 2)) (lCons (lC (.int 3)) (lCons (lC (.int 4)) (lNil))))))) (.nm 12) (lYes) (lTup (lCons (lC (.str [108, 97, 103])) (lCons (lVar 12) (lNil)))) [12])) 7) <|
    lSeq (lFor (lIt (lCall sp__law_mixed (lCons (lVar 0) (lCons (lVar 7) (lNil))))) (.nm 8)
      (lIfS (lNot (lT (lCall sp__law_alike (lCons (lCall sp_is_allowed (lCons (lVar 1) (lCons (lVar 8) (lNil)))) (lCons (lOrV (lOp (eqE true) (lOp ixE (lVar 8) (lC (.int 0))) (lC (.str [108, 97, 103]))) (lOp leE (lVar 6) (lOp ixE (lVar 8) (lC (.int 1))))) (lNil))))))
      (lRet (lC (.bl false)))
      (lNext))) <|
    lSeq (lSet (lCall sp_turned (lCons (lVar 1) (lNil))) 9) <|
    lSeq (lIfS (lNot (lT (lCall sp__law_alike (lCons (lLst (lCons (lVar 9) (lCons (lCall sp_turned (lCons (lVar 9) (lNil))) (lCons (lCall sp_widest (lCons (lVar 9) (lNil))) (lNil))))) (lCons (lLst (lCons (lCall sp__law_swapped (lCons (lVar 1) (lNil))) (lCons (lVar 1) (lCons (lVar 6) (lNil))))) (lNil))))))
      (lRet (lC (.bl false)))
      (lNext)) <|
    lRet (lCall sp__law_alike (lCons (lLst (lCons (lCall sp_points (lCons (lVar 9) (lNil))) (lCons (lCall sp_kept (lCons (lVar 9) (lNil))) (lNil)))) (lCons (lLst (lCons (lLc (lIt (lVar 2)) (.tp [.nm 10, .nm 11]) (lYes) (lTup (lCons (lVar 11) (lCons (lVar 10) (lNil)))) [10, 11]) (lCons (lLc (lIt (lVar 3)) (.tp [.nm 10, .nm 11]) (lYes) (lTup (lCons (lVar 11) (lCons (lVar 10) (lNil)))) [10, 11]) (lNil)))) (lNil))))
def t_law : LS :=
    lSeq (lSet (lCall sp__law_bag (lCons (lVar 0) (lNil))) 1) <|
    lSeq (lFor (lRng1 (lCons (lC (.int 4)) (lNil))) (.nm 2)
      (lSeq (lSet (lCall sp__law_one (lCons (lVar 1) (lCons (lLst (lCons (lLst (lCons (lC (.str [107])) (lCons (lC (.str [100])) (lCons (lC (.str [112])) (lNil))))) (lCons (lLst (lCons (lC (.str [100])) (lCons (lC (.str [112])) (lNil)))) (lCons (lLst (lCons (lC (.str [107])) (lCons (lC (.str [107])) (lCons (lC (.str [100])) (lCons (lC (.str [112])) (lNil)))))) (lCons (lLst (lCons (lC (.str [107])) (lCons (lC (.str [100])) (lNil)))) (lCons (lLst (lCons (lC (.str [112])) (lCons (lC (.str [107])) (lNil)))) (lCons (lLst (lCons (lC (.str [100])) (lNil))) (lNil)))))))) (lNil)))) 3) <|
    lSeq (lSet (lBM "str" joinE (lC (.str [])) (lCons (lLc (lRng1 (lCons (lCall sp__law_one (lCons (lVar 1) (lCons (lLst (lCons (lC (.int 9)) (lCons (lC (.int 0)) (lCons (lC (.int 1)) (lCons (lC (.int 2)) (lCons (lC (.int 5)) (lCons (lC (.int 24)) (lNil)))))))) (lNil)))) (lNil))) (.nm 5) (lYes) (lCall sp__law_one (lCons (lVar 1) (lCons (lVar 3) (lNil)))) [5]) (lNil))) 4) <|
    lSeq (lIfS (lNot (lT (lCall sp__law_right (lCons (lVar 1) (lCons (lVar 4) (lNil))))))
      (lRet (lC (.bl false)))
      (lNext)) <|
    lIfS (lAnd (lB (lOp (eqE false) (lVar 2) (lC (.int 3)))) (lNot (lT (lCall sp__law_right (lCons (lVar 1) (lCons (lSl (lOp addE (lOp mulE (lVar 4) (lC (.int 12))) (lOp mulE (lC (.str [107, 100, 112])) (lC (.int 40)))) (lPart none) (lPart (some (lC (.int 120))))) (lNil)))))))
      (lRet (lC (.bl false)))
      (lNext))) <|
    lRet (lC (.bl true))
end Y

namespace Y
open PySem PySem.Spec PyProof.Rows L2

theorem pure_moved (evs : List EV) (h : EH) (Q : EK) (q : sp_moved evs h Q) : t_moved (endsOf Q) (startE N_moved evs) h := by
  obtain ⟨⟨i, j⟩, s, rfl, q⟩ := q
  show t_moved (endsOf Q) [some (pE (i, j)), some (.str s)] h
  simp only [t_moved, lSeq, lSet, lRet, lRetN, lDrop, lIfS, lOp, lVar, lC, lB, lT, lAnd, lOr, lNot, lIf, lAndV, lOrV, lNotV, lNil, lCons, lTup, lLst, lCB, lBM, lSl, lPart, lNext, lFor, lIt, lRng1, lRng2, lAsg, lPar, lSetI, lAugS, lLc, lZip, lNeg, lCall, lChain, List.getElem?_cons_zero, List.getElem?_cons_succ, List.set_cons_zero, List.set_cons_succ, truE, wipeE, intP, intE, pE, ixE, at0, at1, eqE, intOf, addE]
  simp only [List.length_cons, List.length_nil]
  rw [sizeL]
  refine ⟨by decide, ?_⟩
  cases e1 : decide (s = [112]) <;> cases e2 : decide (s = [100]) <;> simpa [mv, pE, oneI, e1, e2] using q
theorem len_moved (evs : List EV) (h : EH) (Q : EK) (q : sp_moved evs h Q) : evs.length = ["point", "step"].length := by
  obtain ⟨_, _, rfl, _⟩ := q; rfl
theorem pts_ne (p : Int × Int) : ∀ s, pts p s ≠ []
  | [] => by simp [pts]
  | _ :: _ => by simp [pts]
theorem pts_len (p : Int × Int) : ∀ s, (pts p s).length = s.length + 1
  | [] => rfl
  | c :: cs => by rw [pts, List.length_cons, pts_len, List.length_cons]
/-- the loop of points: found so far, ending in p -/
theorem pure_points (evs : List EV) (h : EH) (Q : EK) (q : sp_points evs h Q) : t_points (endsOf Q) (startE N_points evs) h := by
  obtain ⟨s, rfl, hl, q⟩ := q
  show t_points (endsOf Q) [some (.str s), none, none] h
  simp only [t_points, lSeq, lSet, lRet, lRetN, lDrop, lIfS, lOp, lVar, lC, lB, lT, lAnd, lOr, lNot, lIf, lAndV, lOrV, lNotV, lNil, lCons, lTup, lLst, lCB, lBM, lSl, lPart, lNext, lFor, lIt, lRng1, lRng2, lAsg, lPar, lSetI, lAugS, lLc, lZip, lNeg, lCall, lChain, List.getElem?_cons_zero, List.getElem?_cons_succ, List.set_cons_zero, List.set_cons_succ, truE, wipeE, intP, intE, List.length_cons, List.length_nil]
  rw [sizeL]
  refine ⟨by decide, by decide, ?_⟩
  refine loop_ind (fun xs env h' => ∃ (cs : List Nat) (acc : List (Int × Int)) (p : Int × Int) (x : Option EV), xs = cs.map (fun c => EV.str [c]) ∧ env = [some (.str s), some (.ref h.length), x] ∧ h' = h ++ [.lst ((acc ++ [p]).map pE)] ∧ acc ++ pts p cs = pts (0, 0) s ∧ acc.length + cs.length = s.length) ?_ ?_ _ _ _ ⟨s, [], (0, 0), none, rfl, rfl, rfl, rfl, by simp⟩
  · rintro env h' ⟨cs, acc, p, x, e, rfl, rfl, ep, el⟩
    have e' : cs = [] := by simpa using e.symm
    subst e'
    refine ⟨trivial, ?_⟩
    simp only [lSeq, lSet, lRet, lRetN, lDrop, lIfS, lOp, lVar, lC, lB, lT, lAnd, lOr, lNot, lIf, lAndV, lOrV, lNotV, lNil, lCons, lTup, lLst, lCB, lBM, lSl, lPart, lNext, lFor, lIt, lRng1, lRng2, lAsg, lPar, lSetI, lAugS, lLc, lZip, lNeg, lCall, lChain, List.getElem?_cons_zero, List.getElem?_cons_succ, List.set_cons_zero, List.set_cons_succ, truE, wipeE, intP, intE]
    refine q _ _ (Keep.app _) (Nat.le_refl _) ?_
    rw [new_at, ← ep]; rfl
  · rintro x xs env h' k ⟨cs, acc, p, x0, e, rfl, rfl, ep, el⟩ hk
    obtain ⟨c, cs, rfl⟩ : ∃ c r, cs = c :: r := by
      cases cs with
      | nil => simp at e
      | cons c r => exact ⟨c, r, rfl⟩
    rw [List.map_cons, List.cons.injEq] at e
    obtain ⟨rfl, rfl⟩ := e
    refine ⟨trivial, ?_⟩
    simp only [lBind, Pat.bind, lSeq, lSet, lRet, lRetN, lDrop, lIfS, lOp, lVar, lC, lB, lT, lAnd, lOr, lNot, lIf, lAndV, lOrV, lNotV, lNil, lCons, lTup, lLst, lCB, lBM, lSl, lPart, lNext, lFor, lIt, lRng1, lRng2, lAsg, lPar, lSetI, lAugS, lLc, lZip, lNeg, lCall, lChain, List.getElem?_cons_zero, List.getElem?_cons_succ, List.set_cons_zero, List.set_cons_succ, truE, wipeE, intP, intE, isTy, ixE, new_at, List.map_append, List.map_cons, List.map_nil, atm1]
    refine ⟨trivial, p, [c], rfl, ?_⟩
    simp only [appendE, onList, new_at, new_set]
    rw [List.length_append, List.length_map, List.length_singleton, sizeL]
    simp only [List.length_cons] at el
    refine ⟨by omega, ?_⟩
    refine hk _ _ ⟨cs, acc ++ [p], mv p [c], _, rfl, rfl, ?_, ?_, ?_⟩
    · simp
    · rw [← ep]; simp [pts]
    · simp; omega
theorem len_points (evs : List EV) (h : EH) (Q : EK) (q : sp_points evs h Q) : evs.length = ["script"].length := by
  obtain ⟨_, rfl, _⟩ := q; rfl

theorem zip_pE : ∀ (ps : List (Int × Int)) (s : List Nat), List.zipWith (fun a b => EV.tup [a, b]) (ps.map pE) (s.map fun c => EV.str [c]) = (List.zip ps s).map fun q => EV.tup [pE q.1, .str [q.2]]
  | [], _ => by simp
  | _ :: _, [] => by simp
  | p :: ps, c :: s => by
    rw [List.map_cons, List.map_cons, List.zipWith_cons_cons, zip_pE ps s]; rfl
theorem pure_kept (evs : List EV) (h : EH) (Q : EK) (q : sp_kept evs h Q) : t_kept (endsOf Q) (startE N_kept evs) h := by
  obtain ⟨s, rfl, hl, q⟩ := q
  show t_kept (endsOf Q) [some (.str s), none, none] h
  simp only [t_kept, lSeq, lSet, lRet, lRetN, lDrop, lIfS, lOp, lVar, lC, lB, lT, lAnd, lOr, lNot, lIf, lAndV, lOrV, lNotV, lNil, lCons, lTup, lLst, lCB, lBM, lSl, lPart, lNext, lFor, lIt, lRng1, lRng2, lAsg, lPar, lSetI, lAugS, lLc, lZip, lNeg, lCall, lChain, List.getElem?_cons_zero, List.getElem?_cons_succ, List.set_cons_zero, List.set_cons_succ, truE, wipeE, intP, intE]
  refine ⟨s, rfl, hl, fun r h1 k1 hr e1 => ?_⟩
  simp only [srcE, e1]
  rw [zip_pE]
  refine lc_plain (fun v => match v with
    | .tup [p, .str [c]] => if c = 107 then some p else none
    | _ => none) _ ?_ (fun acc => ⟨app_at e1 _, trivial⟩) (fun x hx acc ky kn hy hn => ?_) ?_
  · rw [List.length_map, List.length_zip, pts_len, sizeL]; omega
  · obtain ⟨⟨p, c⟩, hp, rfl⟩ := List.mem_map.mp hx
    simp only [lBind, Pat.bind, Pat.binds, lSeq, lSet, lRet, lRetN, lDrop, lIfS, lOp, lVar, lC, lB, lT, lAnd, lOr, lNot, lIf, lAndV, lOrV, lNotV, lNil, lCons, lTup, lLst, lCB, lBM, lSl, lPart, lNext, lFor, lIt, lRng1, lRng2, lAsg, lPar, lSetI, lAugS, lLc, lZip, lNeg, lCall, lChain, List.getElem?_cons_zero, List.getElem?_cons_succ, List.set_cons_zero, List.set_cons_succ, truE, wipeE, intP, intE, eqE]
    by_cases hc : c = 107
    · subst hc
      exact hy _ rfl
    · rw [decide_eq_false (by simpa using hc)]
      exact hn (by simp [hc])
  · refine q _ _ (k1.trans (Keep.app _)) (Nat.le_trans k1.1 (Nat.le_refl _)) ?_
    rw [new_at, keptL, List.filterMap_map, List.map_filterMap]
    refine congrArg (fun f => some (EO.lst (List.filterMap f _))) (funext fun x => ?_)
    obtain ⟨p, c⟩ := x
    by_cases hc : c = 107 <;> simp [hc]
theorem len_kept (evs : List EV) (h : EH) (Q : EK) (q : sp_kept evs h Q) : evs.length = ["script"].length := by
  obtain ⟨_, rfl, _⟩ := q; rfl
theorem maxL_of : ∀ (ns : List Int) (m : Int), m ∈ ns → (∀ y ∈ ns, y ≤ m) → m = maxL ns
  | [], m, h, _ => by simp at h
  | [a], m, h, _ => by simpa [maxL] using h
  | a :: b :: l, m, h, g => by
    rw [maxL]
    rcases List.mem_cons.mp h with e | e
    · subst e
      have hl : maxL (b :: l) ≤ m := by
        have key : ∀ l : List Int, l ≠ [] → maxL l ∈ l := by
          intro l
          induction l with
          | nil => intro z; exact absurd rfl z
          | cons x l ih =>
            intro _
            cases l with
            | nil => simp [maxL]
            | cons y l =>
              rw [maxL]
              have := ih (by simp)
              by_cases q : x ≤ maxL (y :: l)
              · rw [Int.max_eq_right q]; exact List.mem_cons_of_mem _ this
              · rw [Int.max_eq_left (by omega)]; exact List.mem_cons_self
        exact g _ (List.mem_cons_of_mem _ (key (b :: l) (by simp)))
      omega
    · have e2 := maxL_of (b :: l) m e fun y hy => g y (List.mem_cons_of_mem _ hy)
      have := g a List.mem_cons_self
      omega
def difE : EV → EV
  | .tup [.int i, .int j] => .int ((i - j).natAbs : Int)
  | _ => .non
theorem offs_map (s : List Nat) : ((pts (0, 0) s).map pE).map difE = (offs s).map EV.int := by
  rw [offs, List.map_map, List.map_map]; rfl
theorem pure_widest (evs : List EV) (h : EH) (Q : EK) (q : sp_widest evs h Q) : t_widest (endsOf Q) (startE N_widest evs) h := by
  obtain ⟨s, rfl, hl, q⟩ := q
  show t_widest (endsOf Q) [some (.str s), none, none] h
  simp only [t_widest, lSeq, lSet, lRet, lRetN, lDrop, lIfS, lOp, lVar, lC, lB, lT, lAnd, lOr, lNot, lIf, lAndV, lOrV, lNotV, lNil, lCons, lTup, lLst, lCB, lBM, lSl, lPart, lNext, lFor, lIt, lRng1, lRng2, lAsg, lPar, lSetI, lAugS, lLc, lZip, lNeg, lCall, lChain, List.getElem?_cons_zero, List.getElem?_cons_succ, List.set_cons_zero, List.set_cons_succ, truE, wipeE, intP, intE]
  refine ⟨s, rfl, hl, fun r h1 k1 hr e1 => ?_⟩
  simp only [e1]
  refine lc_map difE _ ?_ (fun acc => app_at e1 _) (fun x hx acc ky hy => ?_) ?_
  · rw [List.length_map, pts_len, sizeL]; omega
  · obtain ⟨⟨i, j⟩, hp, rfl⟩ := List.mem_map.mp hx
    simp only [pE, lBind, Pat.bind, Pat.binds, lSeq, lSet, lRet, lRetN, lDrop, lIfS, lOp, lVar, lC, lB, lT, lAnd, lOr, lNot, lIf, lAndV, lOrV, lNotV, lNil, lCons, lTup, lLst, lCB, lBM, lSl, lPart, lNext, lFor, lIt, lRng1, lRng2, lAsg, lPar, lSetI, lAugS, lLc, lZip, lNeg, lCall, lChain, List.getElem?_cons_zero, List.getElem?_cons_succ, List.set_cons_zero, List.set_cons_succ, truE, wipeE, intP, intE, absE]
    exact hy
  · rw [offs_map]
    simp only [maxE, new_at]
    refine ⟨offs s, rfl, ?_, fun m hm hg => ?_⟩
    · intro z
      have := congrArg List.length z
      simp [offs, pts_len] at this
    · rw [maxL_of _ _ hm hg]
      exact q _ (k1.trans (Keep.app _))
theorem len_widest (evs : List EV) (h : EH) (Q : EK) (q : sp_widest evs h Q) : evs.length = ["script"].length := by
  obtain ⟨_, rfl, _⟩ := q; rfl
theorem pure_is_allowed (evs : List EV) (h : EH) (Q : EK) (q : sp_is_allowed evs h Q) : t_is_allowed (endsOf Q) (startE N_is_allowed evs) h := by
  obtain ⟨s, p, rfl, hl, q⟩ := q
  show t_is_allowed (endsOf Q) [some (.str s), some p.e] h
  cases p with
  | none =>
    simp only [t_is_allowed, lSeq, lSet, lRet, lRetN, lDrop, lIfS, lOp, lVar, lC, lB, lT, lAnd, lOr, lNot, lIf, lAndV, lOrV, lNotV, lNil, lCons, lTup, lLst, lCB, lBM, lSl, lPart, lNext, lFor, lIt, lRng1, lRng2, lAsg, lPar, lSetI, lAugS, lLc, lZip, lNeg, lCall, lChain, List.getElem?_cons_zero, List.getElem?_cons_succ, List.set_cons_zero, List.set_cons_succ, truE, wipeE, intP, intE, Prom.e, ixE, at0, eqE]
    exact q _ .refl
  | total g =>
    simp only [t_is_allowed, lSeq, lSet, lRet, lRetN, lDrop, lIfS, lOp, lVar, lC, lB, lT, lAnd, lOr, lNot, lIf, lAndV, lOrV, lNotV, lNil, lCons, lTup, lLst, lCB, lBM, lSl, lPart, lNext, lFor, lIt, lRng1, lRng2, lAsg, lPar, lSetI, lAugS, lLc, lZip, lNeg, lCall, lChain, List.getElem?_cons_zero, List.getElem?_cons_succ, List.set_cons_zero, List.set_cons_succ, truE, wipeE, intP, intE, Prom.e, ixE, at0, eqE]
    exact q _ .refl
  | lag g =>
    simp only [t_is_allowed, lSeq, lSet, lRet, lRetN, lDrop, lIfS, lOp, lVar, lC, lB, lT, lAnd, lOr, lNot, lIf, lAndV, lOrV, lNotV, lNil, lCons, lTup, lLst, lCB, lBM, lSl, lPart, lNext, lFor, lIt, lRng1, lRng2, lAsg, lPar, lSetI, lAugS, lLc, lZip, lNeg, lCall, lChain, List.getElem?_cons_zero, List.getElem?_cons_succ, List.set_cons_zero, List.set_cons_succ, truE, wipeE, intP, intE, Prom.e, ixE, at0, eqE]
    refine ⟨s, rfl, hl, fun h1 k1 => ?_⟩
    simp only [ixE, at1, leE, lSeq, lSet, lRet, lRetN, lDrop, lIfS, lOp, lVar, lC, lB, lT, lAnd, lOr, lNot, lIf, lAndV, lOrV, lNotV, lNil, lCons, lTup, lLst, lCB, lBM, lSl, lPart, lNext, lFor, lIt, lRng1, lRng2, lAsg, lPar, lSetI, lAugS, lLc, lZip, lNeg, lCall, lChain, List.getElem?_cons_zero, List.getElem?_cons_succ, List.set_cons_zero, List.set_cons_succ, truE, wipeE, intP, intE]
    exact q _ k1
theorem len_is_allowed (evs : List EV) (h : EH) (Q : EK) (q : sp_is_allowed evs h Q) : evs.length = ["script", "promise"].length := by
  obtain ⟨_, _, rfl, _⟩ := q; rfl
theorem flat_one (s : List Nat) (f : Nat → Nat) : (s.map fun c => [f c]).flatten = s.map f := by
  induction s with
  | nil => rfl
  | cons c s ih => simp [ih]
theorem sum_one (s : List Nat) (f : Nat → Nat) : ((s.map fun c => [f c]).map (·.length)).sum = s.length := by
  induction s with
  | nil => rfl
  | cons c s ih => simp only [List.map_cons, List.sum_cons, List.length_cons, List.length_nil] at ih ⊢; omega
theorem pure_turned (a : Addr) (evs : List EV) (h : EH) (Q : EK) (q : sp_turned evs h Q) : t_turned a (endsOf Q) (startE N_turned evs) h := by
  obtain ⟨s, rfl, hl, hs, q⟩ := q
  show t_turned a (endsOf Q) [some (.str s), none] h
  simp only [t_turned, lSeq, lSet, lRet, lRetN, lDrop, lIfS, lOp, lVar, lC, lB, lT, lAnd, lOr, lNot, lIf, lAndV, lOrV, lNotV, lNil, lCons, lTup, lLst, lCB, lBM, lSl, lPart, lNext, lFor, lIt, lRng1, lRng2, lAsg, lPar, lSetI, lAugS, lLc, lZip, lNeg, lCall, lChain, List.getElem?_cons_zero, List.getElem?_cons_succ, List.set_cons_zero, List.set_cons_succ, truE, wipeE, intP, intE, isTy]
  refine ⟨trivial, ?_⟩
  refine lc_map (fun v => match v with
    | .str [c] => EV.str [turnC c]
    | _ => .non) _ ?_ (fun acc => trivial) (fun x hx acc ky hy => ?_) ?_
  · rw [List.length_map, sizeL]; omega
  · obtain ⟨c, hc, rfl⟩ := List.mem_map.mp hx
    simp only [lBind, Pat.bind, lSeq, lSet, lRet, lRetN, lDrop, lIfS, lOp, lVar, lC, lB, lT, lAnd, lOr, lNot, lIf, lAndV, lOrV, lNotV, lNil, lCons, lTup, lLst, lCB, lBM, lSl, lPart, lNext, lFor, lIt, lRng1, lRng2, lAsg, lPar, lSetI, lAugS, lLc, lZip, lNeg, lCall, lChain, List.getElem?_cons_zero, List.getElem?_cons_succ, List.set_cons_zero, List.set_cons_succ, truE, wipeE, intP, intE, kdE]
    refine ⟨trivial, ?_⟩
    rcases hs c hc with rfl | rfl | rfl <;> exact hy
  · simp only [joinE, new_at, List.map_map]
    refine ⟨s.map fun c => [turnC c], ?_, ?_, ?_⟩
    · rw [List.map_map]; rfl
    · rw [sum_one]
      simp
      omega
    · rw [join_nil, flat_one]
      exact q _ (Keep.app _)
theorem len_turned (evs : List EV) (h : EH) (Q : EK) (q : sp_turned evs h Q) : evs.length = ["script"].length := by
  obtain ⟨_, rfl, _⟩ := q; rfl
end Y

namespace Y
open PySem PySem.Spec PyProof.Rows L2

/-! ### the bag's defs -/
theorem pure__law_bag (evs : List EV) (h : EH) (Q : EK) (q : sp__law_bag evs h Q) : t__law_bag (endsOf Q) (startE N__law_bag evs) h := by
  obtain ⟨ns, rfl, rfl, hl, q⟩ := q
  show t__law_bag (endsOf Q) [some (.ref 0), none] [.frz (ns.map EV.int)]
  simp only [t__law_bag, lSeq, lSet, lRet, lRetN, lDrop, lIfS, lOp, lVar, lC, lB, lT, lAnd, lOr, lNot, lIf, lAndV, lOrV, lNotV, lNil, lCons, lTup, lLst, lCB, lBM, lSl, lPart, lNext, lFor, lIt, lRng1, lRng2, lAsg, lPar, lSetI, lAugS, lLc, lZip, lNeg, lCall, lChain, List.getElem?_cons_zero, List.getElem?_cons_succ, List.set_cons_zero, List.set_cons_succ, truE, wipeE, intP, intE, slE]
  have ec : cut (ns.map EV.int) none (some 63) = ns.map EV.int := by
    rw [show (63 : Int) = ((63 : Nat) : Int) from rfl, cut_to, List.take_of_length_le (by simpa using hl)]
  rw [ec]
  simp only [List.length_cons, List.length_nil, List.getElem?_append_right, Nat.le_refl, Nat.sub_self, List.getElem?_cons_zero, Nat.zero_add]
  refine lc_map (fun v => match v with
    | .int i => EV.int (i.natAbs : Int)
    | _ => .non) _ ?_ (fun acc => by simp) (fun x hx acc ky hy => ?_) ?_
  · rw [List.length_map, sizeL]; omega
  · obtain ⟨c, hc, rfl⟩ := List.mem_map.mp hx
    simp only [lBind, Pat.bind, lSeq, lSet, lRet, lRetN, lDrop, lIfS, lOp, lVar, lC, lB, lT, lAnd, lOr, lNot, lIf, lAndV, lOrV, lNotV, lNil, lCons, lTup, lLst, lCB, lBM, lSl, lPart, lNext, lFor, lIt, lRng1, lRng2, lAsg, lPar, lSetI, lAugS, lLc, lZip, lNeg, lCall, lChain, List.getElem?_cons_zero, List.getElem?_cons_succ, List.set_cons_zero, List.set_cons_succ, truE, wipeE, intP, intE, absE]
    exact hy
  · rw [sizeL]
    refine ⟨by decide, ?_⟩
    refine q _ _ ⟨2, 0, 1234567891, 0, ns.map fun i => (i.natAbs : Int), ?_, ?_, ?_, by decide, by decide, by decide, ?_, ?_⟩
    · simp
    · simp
    · simp
    · simpa using hl
    · intro n hn
      obtain ⟨i, _, rfl⟩ := List.mem_map.mp hn
      omega
theorem len__law_bag (evs : List EV) (h : EH) (Q : EK) (q : sp__law_bag evs h Q) : evs.length = ["_law_script"].length := by
  obtain ⟨_, rfl, _⟩ := q; rfl
theorem take_end {b : Nat} {many : Int} {x y z : Int} {c : Nat} {ns : List Int} {Q : EK} {h h0 : EH} (hm : 0 < many) (hm2 : many < 2 ^ 60) (k0 : Keep (is1 b) h0 h)
    (e1 : h[b]? = some (.lst [.int x, .int y, .int z, .ref c])) (e2 : h[c]? = some (.lst (ns.map EV.int))) (hcb : c < b) (hx : 0 ≤ x) (hy : 0 ≤ y) (hz : 0 ≤ z) (hnl : ns.length ≤ 63) (hn : ∀ n ∈ ns, 0 ≤ n)
    (q : ∀ d h', 0 ≤ d → d < many → Keep (is1 b) h0 h' → BagAt h' b → Q (.int d) h') {env : En} (he : env.length = 7) (h0 : env[0]? = some (some (.ref b))) (h1 : env[1]? = some (some (.int many))) :
    (lSeq (lIfS (lB (lOp gtE (lOp ixE (lVar 0) (lC (.int 0))) (lC (.int 0))))
      (lSeq (lSet (lOp modE (lCB intOf (lCons (lOp ixE (lVar 0) (lC (.int 0))) (lNil))) (lVar 1)) 4) <|
    lSeq (lSetI (lVar 0) (lC (.int 0)) (lOp fdivE (lCB intOf (lCons (lOp ixE (lVar 0) (lC (.int 0))) (lNil))) (lVar 1))) <|
    lRet (lVar 4))
      (lNext)) <|
    lSeq (lSet (lOp modE (lCB intOf (lCons (lOp mulE (lOp addE (lOp ixE (lVar 0) (lC (.int 1))) (lC (.int 1))) (lC (.int 39373))) (lNil))) (lC (.int 1000000007))) 5) <|
    lSeq (lSet (lOp modE (lCB intOf (lCons (lOp mulE (lOp modE (lCB intOf (lCons (lOp mulE (lVar 5) (lVar 5)) (lNil))) (lC (.int 998244353))) (lC (.int 30011))) (lNil))) (lC (.int 998244353))) 6) <|
    lRet (lOp modE (lCB intOf (lCons (lOp fdivE (lVar 6) (lC (.int 7))) (lNil))) (lVar 1))) (endsOf Q) env h := by
  obtain ⟨g0, g1, g2, g3, g4, g5, g6, rfl⟩ : ∃ a b c d e f g, env = [a, b, c, d, e, f, g] := by
    match env, he with
    | [a, b, c, d, e, f, g], _ => exact ⟨a, b, c, d, e, f, g, rfl⟩
  simp only [List.getElem?_cons_zero, List.getElem?_cons_succ, Option.some.injEq] at h0 h1
  subst h0 h1
  simp only [lSeq, lSet, lRet, lRetN, lDrop, lIfS, lOp, lVar, lC, lB, lT, lAnd, lOr, lNot, lIf, lAndV, lOrV, lNotV, lNil, lCons, lTup, lLst, lCB, lBM, lSl, lPart, lNext, lFor, lIt, lRng1, lRng2, lAsg, lPar, lSetI, lAugS, lLc, lZip, lNeg, lCall, lChain, List.getElem?_cons_zero, List.getElem?_cons_succ, List.set_cons_zero, List.set_cons_succ, truE, wipeE, intP, intE]
  refine ix_l e1 at0 ?_
  show if decide (0 < x) = true then _ else _
  split
  · refine ix_l e1 at0 ?_
    refine int_i ?_
    refine mod_i hm ?_
    refine ix_l e1 at0 ?_
    refine int_i ?_
    refine div_i hm (by omega) ?_
    refine set_l e1 (k := 0) rfl ?_
    refine q _ _ (Int.emod_nonneg _ (by omega)) (Int.emod_lt_of_pos _ hm) (k0.trans (Keep.set rfl)) ?_
    exact ⟨c, x / many, y, z, ns, set_at e1, set_off e2 (Nat.ne_of_lt hcb), hcb, Int.ediv_nonneg hx (by omega), hy, hz, hnl, hn⟩
  · refine ix_l e1 at1 ?_
    refine add_i ?_
    refine mul_i (mulOk_r (by decide)) ?_
    refine int_i ?_
    refine mod_i (by decide) ?_
    generalize hE : (y + 1) * 39373 % 1000000007 = E
    have b1 : 0 ≤ E := by rw [← hE]; exact Int.emod_nonneg _ (by decide)
    have b2 : E < 1000000007 := by rw [← hE]; exact Int.emod_lt_of_pos _ (by decide)
    refine mul_i (mulOk_r (by omega)) ?_
    refine int_i ?_
    refine mod_i (by decide) ?_
    refine mul_i (mulOk_r (by decide)) ?_
    refine int_i ?_
    refine mod_i (by decide) ?_
    refine div_i (by decide) (by decide) ?_
    refine int_i ?_
    refine mod_i hm ?_
    exact q _ _ (Int.emod_nonneg _ (by omega)) (Int.emod_lt_of_pos _ hm) k0 ⟨c, x, y, z, ns, e1, e2, hcb, hx, hy, hz, hnl, hn⟩
theorem pure__law_take (evs : List EV) (h : EH) (Q : EK) (q : sp__law_take evs h Q) : t__law_take (endsOf Q) (startE N__law_take evs) h := by
  obtain ⟨b, many, rfl, hm, hm2, ⟨c, x, y, z, ns, e1, e2, hcb, hx, hy, hz, hnl, hn⟩, q⟩ := q
  show t__law_take (endsOf Q) [some (.ref b), some (.int many), none, none, none, none, none] h
  unfold t__law_take
  rw [lSeq, lIfS]
  simp only [lB, lOp, lVar, lC, List.getElem?_cons_zero, List.getElem?_cons_succ]
  refine ix_l e1 at0 ?_
  refine eq_i ?_
  dsimp only
  split
  · simp only [lSeq, lSet, lAugS, lSetI, lOp, lVar, lC, lSl, lPart, lLst, lCons, lNil, lCB, List.getElem?_cons_zero, List.getElem?_cons_succ, List.set_cons_zero, List.set_cons_succ]
    refine ix_l e1 at3 ?_
    refine ix_l e1 at2 ?_
    refine sl_l e2 ?_
    refine ⟨by rw [sizeL]; decide, ?_⟩
    obtain ⟨zn, rfl⟩ := Int.eq_ofNat_of_zero_le hz
    rw [cut_from]
    have g1 : (h ++ [EO.lst ((ns.map EV.int).drop zn)] ++ [.lst [.int 0]])[h.length]? = some (.lst ((ns.map EV.int).drop zn)) := by simp
    have g2 : (h ++ [EO.lst ((ns.map EV.int).drop zn)] ++ [.lst [.int 0]])[(h ++ [EO.lst ((ns.map EV.int).drop zn)]).length]? = some (.lst [.int 0]) := new_at
    refine add_l g1 g2 ?_ ?_
    · simp only [List.length_drop, List.length_map, List.length_singleton]
      rw [sizeL]; omega
    obtain ⟨v, vs, hv0, hv⟩ : ∃ (v : Int) (vs : List EV), 0 ≤ v ∧ (ns.map EV.int).drop zn ++ [.int 0] = .int v :: vs := by
      cases hd : ns.drop zn with
      | nil => exact ⟨0, [], by decide, by rw [← List.map_drop, hd]; rfl⟩
      | cons n r => exact ⟨n, r.map EV.int ++ [.int 0], hn n (List.mem_of_mem_drop (i := zn) (by rw [hd]; exact List.mem_cons_self)), by rw [← List.map_drop, hd]; rfl⟩
    rw [hv]
    refine ix_l new_at at0 ?_
    generalize hg : h ++ [EO.lst ((ns.map EV.int).drop zn)] ++ [.lst [.int 0]] ++ [.lst (.int v :: vs)] = hA
    have kA : Keep (is1 b) h hA := by
      rw [← hg, List.append_assoc, List.append_assoc]; exact Keep.app _
    have a1 : hA[b]? = some (.lst [.int x, .int y, .int zn, .ref c]) := by
      rw [← hg]; exact app_at (app_at (app_at e1 _) _) _
    have a2 : hA[c]? = some (.lst (ns.map EV.int)) := kA.2 _ _ e2 (Nat.ne_of_lt hcb)
    clear hg g1 g2
    refine get_l a1 (by decide) rfl ?_
    dsimp only
    refine set_l a1 (k := 2) rfl ?_
    simp only [List.set_cons_zero, List.set_cons_succ]
    have b1 := set_at (o := EO.lst ([.int x, .int y, .int (zn + 1), .ref c] : List EV)) a1
    have b2 := set_off (o := EO.lst ([.int x, .int y, .int (zn + 1), .ref c] : List EV)) a2 (Nat.ne_of_lt hcb)
    have kB := kA.trans (Keep.set (o := EO.lst ([.int x, .int y, .int (zn + 1), .ref c] : List EV)) (show is1 b b from rfl))
    generalize hA.set b (.lst ([.int x, .int y, .int (zn + 1), .ref c] : List EV)) = hB at b1 b2 kB ⊢
    refine pow_i (by unfold CPow; decide) ?_
    refine ge_i ?_
    refine int_b ?_
    refine mul_i (mulOk_r (by split <;> decide)) ?_
    have hx' : 0 ≤ v * (if decide ((10 : Int) ^ Int.toNat 18 ≤ v) = true then 1 else 0) := by
      split <;> omega
    generalize v * (if decide ((10 : Int) ^ Int.toNat 18 ≤ v) = true then (1 : Int) else 0) = x' at hx' ⊢
    refine set_l b1 (k := 0) rfl ?_
    simp only [List.set_cons_zero, List.set_cons_succ]
    have c1 := set_at (o := EO.lst ([.int x', .int y, .int (zn + 1), .ref c] : List EV)) b1
    have c2 := set_off (o := EO.lst ([.int x', .int y, .int (zn + 1), .ref c] : List EV)) b2 (Nat.ne_of_lt hcb)
    have kC := kB.trans (Keep.set (o := EO.lst ([.int x', .int y, .int (zn + 1), .ref c] : List EV)) (show is1 b b from rfl))
    generalize hB.set b (.lst ([.int x', .int y, .int (zn + 1), .ref c] : List EV)) = hC at c1 c2 kC ⊢
    refine ix_l c1 at1 ?_
    refine mul_i (mulOk_r (by decide)) ?_
    refine int_i ?_
    refine mod_i (by decide) ?_
    refine add_i ?_
    refine ix_l c1 at2 ?_
    refine mul_i (mulOk_l (by decide)) ?_
    refine add_i ?_
    refine int_i ?_
    refine mod_i (by decide) ?_
    have hy' : 0 ≤ (y * 48271 + v % 2147483647 + 7919 * ((zn : Int) + 1)) % 2147483647 := Int.emod_nonneg _ (by decide)
    generalize (y * 48271 + v % 2147483647 + 7919 * ((zn : Int) + 1)) % 2147483647 = y' at hy' ⊢
    refine set_l c1 (k := 1) rfl ?_
    simp only [List.set_cons_zero, List.set_cons_succ]
    have d1 := set_at (o := EO.lst ([.int x', .int y', .int (zn + 1), .ref c] : List EV)) c1
    have d2 := set_off (o := EO.lst ([.int x', .int y', .int (zn + 1), .ref c] : List EV)) c2 (Nat.ne_of_lt hcb)
    have kD := kC.trans (Keep.set (o := EO.lst ([.int x', .int y', .int (zn + 1), .ref c] : List EV)) (show is1 b b from rfl))
    exact take_end (env := [some (.ref b), some (.int many), some (.int v), some _, none, none, none]) hm hm2 kD d1 d2 hcb hx' hy' (by omega) hnl hn q rfl rfl rfl
  · exact take_end (env := [some (.ref b), some (.int many), none, none, none, none, none]) hm hm2 .refl e1 e2 hcb hx hy hz hnl hn q rfl rfl rfl
theorem len__law_take (evs : List EV) (h : EH) (Q : EK) (q : sp__law_take evs h Q) : evs.length = ["_law_bag_here", "_law_many"].length := by
  obtain ⟨_, _, rfl, _⟩ := q; rfl
theorem Keep.other {b l : Nat} {h h' : EH} {o : EO} (k : Keep (is1 b) h h') (e : h[l]? = some o) (n : l ≠ b) : h'[l]? = some o := k.2 _ _ e n
theorem pure__law_one (evs : List EV) (h : EH) (Q : EK) (q : sp__law_one evs h Q) : t__law_one (endsOf Q) (startE N__law_one evs) h := by
  obtain ⟨b, l, xs, rfl, e, hne, hl, hlb, B, q⟩ := q
  show t__law_one (endsOf Q) [some (.ref b), some (.ref l)] h
  simp only [t__law_one, lSeq, lSet, lRet, lRetN, lDrop, lIfS, lOp, lVar, lC, lB, lT, lAnd, lOr, lNot, lIf, lAndV, lOrV, lNotV, lNil, lCons, lTup, lLst, lCB, lBM, lSl, lPart, lNext, lFor, lIt, lRng1, lRng2, lAsg, lPar, lSetI, lAugS, lLc, lZip, lNeg, lCall, lChain, List.getElem?_cons_zero, List.getElem?_cons_succ, List.set_cons_zero, List.set_cons_succ, truE, wipeE, intP, intE]
  refine len_l e ?_
  have hp : 0 < xs.length := List.length_pos_iff.mpr hne
  refine ⟨b, xs.length, rfl, by omega, by rw [sizeL] at hl; omega, B, fun d h1 d0 d1 k1 B1 => ?_⟩
  obtain ⟨n, rfl⟩ := Int.eq_ofNat_of_zero_le d0
  have hn : n < xs.length := by omega
  refine ix_l (k1.other e hlb) (L2.atI_nat (List.getElem?_eq_getElem hn)) ?_
  exact q _ _ (List.getElem_mem hn) k1 B1
theorem len__law_one (evs : List EV) (h : EH) (Q : EK) (q : sp__law_one evs h Q) : evs.length = ["_law_bag_here", "_law_some"].length := by
  obtain ⟨_, _, _, rfl, _⟩ := q; rfl
theorem BagAt.keep {h h' : EH} {b : Nat} (B : BagAt h b) (k : Keep no1 h h') : BagAt h' b := by
  obtain ⟨c, x, y, z, ns, e1, e2, r⟩ := B
  exact ⟨c, x, y, z, ns, k.at e1, k.at e2, r⟩
theorem BagAt.lt {h : EH} {b : Nat} (B : BagAt h b) : b < h.length := by
  obtain ⟨c, x, y, z, ns, e1, _⟩ := B
  exact lt_of_at e1
/-- what came later changes -/
theorem BagAt.set {h : EH} {b r : Nat} {o : EO} (B : BagAt h b) (n : b < r) : BagAt (h.set r o) b := by
  obtain ⟨c, x, y, z, ns, e1, e2, l, r'⟩ := B
  exact ⟨c, x, y, z, ns, set_off e1 (Nat.ne_of_lt n), set_off e2 (Nat.ne_of_lt (Nat.lt_trans l n)), l, r'⟩
theorem pure__law_mixed (evs : List EV) (h : EH) (Q : EK) (q : sp__law_mixed evs h Q) : t__law_mixed (endsOf Q) (startE N__law_mixed evs) h := by
  obtain ⟨b, l, xs, rfl, e, hl, hlb, B, q⟩ := q
  show t__law_mixed (endsOf Q) [some (.ref b), some (.ref l), none, none] h
  simp only [t__law_mixed, lSeq, lSet, lRet, lRetN, lDrop, lIfS, lOp, lVar, lC, lB, lT, lAnd, lOr, lNot, lIf, lAndV, lOrV, lNotV, lNil, lCons, lTup, lLst, lCB, lBM, lSl, lPart, lNext, lFor, lIt, lRng1, lRng2, lAsg, lPar, lSetI, lAugS, lLc, lZip, lNeg, lCall, lChain, List.getElem?_cons_zero, List.getElem?_cons_succ, List.set_cons_zero, List.set_cons_succ, truE, wipeE, intP, intE, List.length_nil]
  refine ⟨by rw [sizeL]; decide, ?_⟩
  have hlt := lt_of_at e
  have hbt := B.lt
  rw [app_at e]
  refine loop_ind (fun left env h' => ∃ (done acc : List EV) (x : Option EV), xs = done ++ left ∧ acc.Perm done ∧ env = [some (.ref b), some (.ref l), some (.ref h.length), x] ∧ Keep (is1 b) h h' ∧ h'[h.length]? = some (.lst acc) ∧ BagAt h' b) ?_ ?_ _ _ _ ⟨[], [], none, rfl, .refl _, rfl, Keep.app _, new_at, B.keep (Keep.app _)⟩
  · rintro env h' ⟨done, acc, x, rfl, p, rfl, k, e', B'⟩
    refine ⟨k.other e hlb, ?_⟩
    simp only [lSeq, lSet, lRet, lRetN, lDrop, lIfS, lOp, lVar, lC, lB, lT, lAnd, lOr, lNot, lIf, lAndV, lOrV, lNotV, lNil, lCons, lTup, lLst, lCB, lBM, lSl, lPart, lNext, lFor, lIt, lRng1, lRng2, lAsg, lPar, lSetI, lAugS, lLc, lZip, lNeg, lCall, lChain, List.getElem?_cons_zero, List.getElem?_cons_succ, List.set_cons_zero, List.set_cons_succ, truE, wipeE, intP, intE]
    exact q _ _ _ (by simpa using p) k (Nat.le_refl _) e' B'
  · rintro x left env h' kk ⟨done, acc, x0, rfl, p, rfl, k, e', B'⟩ hk
    refine ⟨k.other e hlb, ?_⟩
    simp only [lBind, Pat.bind, lSeq, lSet, lRet, lRetN, lDrop, lIfS, lOp, lVar, lC, lB, lT, lAnd, lOr, lNot, lIf, lAndV, lOrV, lNotV, lNil, lCons, lTup, lLst, lCB, lBM, lSl, lPart, lNext, lFor, lIt, lRng1, lRng2, lAsg, lPar, lSetI, lAugS, lLc, lZip, lNeg, lCall, lChain, List.getElem?_cons_zero, List.getElem?_cons_succ, List.set_cons_zero, List.set_cons_succ, truE, wipeE, intP, intE, isTy, e']
    refine ⟨trivial, ?_⟩
    refine len_l e' ?_
    refine add_i ?_
    have hz : acc.length = done.length := p.length_eq
    simp only [List.length_append, List.length_cons] at hl
    refine ⟨b, acc.length + 1, rfl, by omega, by omega, B', fun d h1 d0 d1 k1 B1 => ?_⟩
    have hne : h.length ≠ b := by omega
    have e1 := k1.other e' hne
    refine ins_e e1 (by rw [sizeL]; omega) d0 (by omega) ?_
    refine hk _ _ ⟨done ++ [x], _, some x, by simp, ?_, rfl, ?_, set_at e1, ?_⟩
    · have p1 : (List.take d.toNat acc ++ [x] ++ List.drop d.toNat acc).Perm (x :: acc) := by
        have e3 : List.take d.toNat acc ++ [x] ++ List.drop d.toNat acc = List.take d.toNat acc ++ x :: List.drop d.toNat acc := by simp
        rw [e3]
        exact List.perm_middle.trans (by rw [List.take_append_drop])
      refine p1.trans ((p.cons x).trans ?_)
      exact (List.perm_append_singleton x done).symm
    · exact (k.trans k1).fresh (Nat.le_refl _)
    · exact B1.set hbt
theorem len__law_mixed (evs : List EV) (h : EH) (Q : EK) (q : sp__law_mixed evs h Q) : evs.length = ["_law_bag_here", "_law_things"].length := by
  obtain ⟨_, _, _, rfl, _⟩ := q; rfl
theorem pure__law_alike (evs : List EV) (h : EH) (Q : EK) (q : sp__law_alike evs h Q) : t__law_alike (endsOf Q) (startE N__law_alike evs) h := by
  obtain ⟨v, w, d, n, k, rfl, a, b, hn, hk, q⟩ := q
  show t__law_alike (endsOf Q) [some v, some w] h
  simp only [t__law_alike, lSeq, lSet, lRet, lRetN, lDrop, lIfS, lOp, lVar, lC, lB, lT, lAnd, lOr, lNot, lIf, lAndV, lOrV, lNotV, lNil, lCons, lTup, lLst, lCB, lBM, lSl, lPart, lNext, lFor, lIt, lRng1, lRng2, lAsg, lPar, lSetI, lAugS, lLc, lZip, lNeg, lCall, lChain, List.getElem?_cons_zero, List.getElem?_cons_succ, List.set_cons_zero, List.set_cons_succ, truE, wipeE, intP, intE]
  have a' := Dat.deep a.1 hn
  have b' := Dat.deep b.1 hn
  refine eqE_same a' b' ?_
  simp only [if_true]
  refine ⟨d, a', (a.fits hk).1, (a.fits hk).2, ?_⟩
  refine ⟨d, b', (b.fits hk).1, (b.fits hk).2, ?_⟩
  refine eq_s ?_
  simpa using q
theorem len__law_alike (evs : List EV) (h : EH) (Q : EK) (q : sp__law_alike evs h Q) : evs.length = ["_law_found", "_law_due"].length := by
  obtain ⟨_, _, _, _, _, rfl, _⟩ := q; rfl
end Y

namespace Y
open PySem PySem.Spec PyProof.Rows L2

/-! ### the law's own walk over a script -/
theorem pure__law_points (evs : List EV) (h : EH) (Q : EK) (q : sp__law_points evs h Q) : t__law_points (endsOf Q) (startE N__law_points evs) h := by
  obtain ⟨s, rfl, hl, q⟩ := q
  show t__law_points (endsOf Q) [some (.str s), none, none, none, none] h
  simp only [t__law_points, lSeq, lSet, lRet, lRetN, lDrop, lIfS, lOp, lVar, lC, lB, lT, lAnd, lOr, lNot, lIf, lAndV, lOrV, lNotV, lNil, lCons, lTup, lLst, lCB, lBM, lSl, lPart, lNext, lFor, lIt, lRng1, lRng2, lAsg, lPar, lSetI, lAugS, lLc, lZip, lNeg, lCall, lChain, List.getElem?_cons_zero, List.getElem?_cons_succ, List.set_cons_zero, List.set_cons_succ, truE, wipeE, intP, intE, List.length_cons, List.length_nil]
  rw [sizeL]
  refine ⟨by decide, by decide, ?_⟩
  refine loop_ind (fun xs env h' => ∃ (cs : List Nat) (acc : List (Int × Int)) (p : Int × Int) (x y z : Option EV), xs = cs.map (fun c => EV.str [c]) ∧ env = [some (.str s), some (.ref h.length), x, y, z] ∧ h' = h ++ [.lst ((acc ++ [p]).map pE)] ∧ acc ++ pts p cs = pts (0, 0) s ∧ acc.length + cs.length = s.length) ?_ ?_ _ _ _ ⟨s, [], (0, 0), none, none, none, rfl, rfl, rfl, rfl, by simp⟩
  · rintro env h' ⟨cs, acc, p, x, y, z, e, rfl, rfl, ep, el⟩
    have e' : cs = [] := by simpa using e.symm
    subst e'
    refine ⟨trivial, ?_⟩
    simp only [lSeq, lSet, lRet, lRetN, lDrop, lIfS, lOp, lVar, lC, lB, lT, lAnd, lOr, lNot, lIf, lAndV, lOrV, lNotV, lNil, lCons, lTup, lLst, lCB, lBM, lSl, lPart, lNext, lFor, lIt, lRng1, lRng2, lAsg, lPar, lSetI, lAugS, lLc, lZip, lNeg, lCall, lChain, List.getElem?_cons_zero, List.getElem?_cons_succ, List.set_cons_zero, List.set_cons_succ, truE, wipeE, intP, intE]
    refine q _ _ (Keep.app _) (Nat.le_refl _) ?_
    rw [new_at, ← ep]; rfl
  · rintro x xs env h' k ⟨cs, acc, p, x0, y0, z0, e, rfl, rfl, ep, el⟩ hk
    obtain ⟨c, cs, rfl⟩ : ∃ c r, cs = c :: r := by
      cases cs with
      | nil => simp at e
      | cons c r => exact ⟨c, r, rfl⟩
    rw [List.map_cons, List.cons.injEq] at e
    obtain ⟨rfl, rfl⟩ := e
    refine ⟨trivial, ?_⟩
    refine bind_nm ?_
    simp only [lSeq, lSet, lRet, lRetN, lDrop, lIfS, lOp, lVar, lC, lB, lT, lAnd, lOr, lNot, lIf, lAndV, lOrV, lNotV, lNil, lCons, lTup, lLst, lCB, lBM, lSl, lPart, lNext, lFor, lIt, lRng1, lRng2, lAsg, lPar, lSetI, lAugS, lLc, lZip, lNeg, lCall, lChain, List.getElem?_cons_zero, List.getElem?_cons_succ, List.set_cons_zero, List.set_cons_succ, truE, wipeE, intP, intE, List.map_append, List.map_cons, List.map_nil]
    refine ix_l new_at (atm1 _ _) ?_
    simp only [pE, lBind, Pat.bind, Pat.binds, lSeq, lSet, lRet, lRetN, lDrop, lIfS, lOp, lVar, lC, lB, lT, lAnd, lOr, lNot, lIf, lAndV, lOrV, lNotV, lNil, lCons, lTup, lLst, lCB, lBM, lSl, lPart, lNext, lFor, lIt, lRng1, lRng2, lAsg, lPar, lSetI, lAugS, lLc, lZip, lNeg, lCall, lChain, List.getElem?_cons_zero, List.getElem?_cons_succ, List.set_cons_zero, List.set_cons_succ, truE, wipeE, intP, intE, isTy, new_at, eqE, intOf, addE, List.length_cons, List.length_nil]
    rw [sizeL]
    refine ⟨trivial, by decide, ?_⟩
    refine app_e new_at [] ?_ ?_
    · rw [List.length_append, List.length_map, List.length_singleton, sizeL]
      simp only [List.length_cons] at el
      omega
    · rw [new_set]
      refine hk _ _ ⟨cs, acc ++ [p], mv p [c], _, _, _, rfl, rfl, ?_, ?_, ?_⟩
      · simp only [List.map_append, List.map_cons, List.map_nil]
        cases e1 : decide ([c] = [112]) <;> cases e2 : decide ([c] = [100]) <;> simp only [mv, pE, oneI, e1, e2] <;> rfl
      · rw [← ep]; simp [pts]
      · simp only [List.length_cons] at el
        simp; omega
theorem len__law_points (evs : List EV) (h : EH) (Q : EK) (q : sp__law_points evs h Q) : evs.length = ["_law_steps"].length := by
  obtain ⟨_, rfl, _⟩ := q; rfl
theorem range_kept (s : List Nat) (ps : List (Int × Int)) (hl : s.length < ps.length) : (List.zip ps s).filterMap (fun q => if q.2 = 107 then some q.1 else none) = (List.range s.length).filterMap fun i => if s[i]? = some 107 then ps[i]? else none := by
  induction s generalizing ps with
  | nil => simp
  | cons c s ih =>
    cases ps with
    | nil => simp at hl
    | cons p ps =>
      rw [List.zip_cons_cons, List.filterMap_cons, List.length_cons, List.range_succ_eq_map, List.filterMap_cons, List.filterMap_map]
      simp only [List.length_cons] at hl
      rw [ih ps (by omega)]
      by_cases hc : c = 107
      · subst hc
        simp only [if_true, List.getElem?_cons_zero]
        rfl
      · have hc' : ¬ (some c = some 107) := fun z => hc (Option.some.inj z)
        simp only [List.getElem?_cons_zero, if_neg hc, if_neg hc']
        rfl
theorem pure__law_kept (evs : List EV) (h : EH) (Q : EK) (q : sp__law_kept evs h Q) : t__law_kept (endsOf Q) (startE N__law_kept evs) h := by
  obtain ⟨s, rfl, hl, q⟩ := q
  show t__law_kept (endsOf Q) [some (.str s), none, none] h
  simp only [t__law_kept, lSeq, lSet, lRet, lRetN, lDrop, lIfS, lOp, lVar, lC, lB, lT, lAnd, lOr, lNot, lIf, lAndV, lOrV, lNotV, lNil, lCons, lTup, lLst, lCB, lBM, lSl, lPart, lNext, lFor, lIt, lRng1, lRng2, lAsg, lPar, lSetI, lAugS, lLc, lZip, lNeg, lCall, lChain, List.getElem?_cons_zero, List.getElem?_cons_succ, List.set_cons_zero, List.set_cons_succ, truE, wipeE, intP, intE]
  refine ⟨s, rfl, hl, fun r h1 k1 hr e1 => ?_⟩
  simp only [lenE]
  refine ⟨by rw [sizeL]; omega, ⟨by omega, by omega⟩, ?_⟩
  refine lc_plain (fun v => match v with
    | .int i => if s[i.toNat]? = some 107 then ((pts (0, 0) s)[i.toNat]?).map pE else none
    | _ => none) _ ?_ (fun acc => trivial) (fun x hx acc ky kn hy hn => ?_) ?_
  · unfold rangeL
    rw [List.length_map, List.length_range, sizeL]
    omega
  · unfold rangeL at hx
    obtain ⟨i, hi, rfl⟩ := List.mem_map.mp hx
    have hi' : i < s.length := by simpa using hi
    simp only [lBind, Pat.bind, lSeq, lSet, lRet, lRetN, lDrop, lIfS, lOp, lVar, lC, lB, lT, lAnd, lOr, lNot, lIf, lAndV, lOrV, lNotV, lNil, lCons, lTup, lLst, lCB, lBM, lSl, lPart, lNext, lFor, lIt, lRng1, lRng2, lAsg, lPar, lSetI, lAugS, lLc, lZip, lNeg, lCall, lChain, List.getElem?_cons_zero, List.getElem?_cons_succ, List.set_cons_zero, List.set_cons_succ, truE, wipeE, intP, intE, Int.zero_add]
    refine ix_s (by rw [sizeL]; omega) (L2.atI_nat (List.getElem?_eq_getElem hi')) ?_
    refine eq_s ?_
    by_cases hc : s[i] = 107
    · rw [decide_eq_true (by rw [hc])]
      have hp : i < (pts (0, 0) s).length := by rw [pts_len]; omega
      refine ix_l (xs := (pts (0, 0) s).map pE) (x := pE (pts (0, 0) s)[i]) (app_at e1 _) (L2.atI_nat (by rw [List.getElem?_map, List.getElem?_eq_getElem hp]; rfl)) ?_
      refine hy _ ?_
      simp only [Int.zero_add, Int.toNat_natCast, List.getElem?_eq_getElem hi', List.getElem?_eq_getElem hp, hc, if_true, Option.map_some]
    · rw [decide_eq_false (by simpa using hc)]
      refine hn ?_
      simp only [Int.zero_add, Int.toNat_natCast, List.getElem?_eq_getElem hi', Option.some.injEq, hc, if_false]
  · refine q _ _ (k1.trans (Keep.app _)) k1.1 ?_
    rw [new_at, keptL, range_kept s _ (by rw [pts_len]; omega), List.map_filterMap]
    unfold rangeL
    rw [List.filterMap_map]
    simp only [Int.toNat_natCast]
    refine congrArg (fun f => some (EO.lst (List.filterMap f _))) (funext fun i => ?_)
    simp only [Function.comp, Int.zero_add, Int.toNat_natCast]
    split <;> rfl
theorem len__law_kept (evs : List EV) (h : EH) (Q : EK) (q : sp__law_kept evs h Q) : evs.length = ["_law_steps"].length := by
  obtain ⟨_, rfl, _⟩ := q; rfl
theorem pure__law_swapped (evs : List EV) (h : EH) (Q : EK) (q : sp__law_swapped evs h Q) : t__law_swapped (endsOf Q) (startE N__law_swapped evs) h := by
  obtain ⟨s, rfl, hl, hs, q⟩ := q
  show t__law_swapped (endsOf Q) [some (.str s), none, none] h
  simp only [t__law_swapped, lSeq, lSet, lRet, lRetN, lDrop, lIfS, lOp, lVar, lC, lB, lT, lAnd, lOr, lNot, lIf, lAndV, lOrV, lNotV, lNil, lCons, lTup, lLst, lCB, lBM, lSl, lPart, lNext, lFor, lIt, lRng1, lRng2, lAsg, lPar, lSetI, lAugS, lLc, lZip, lNeg, lCall, lChain, List.getElem?_cons_zero, List.getElem?_cons_succ, List.set_cons_zero, List.set_cons_succ, truE, wipeE, intP, intE]
  refine loop_ind (fun xs env h' => ∃ (done cs : List Nat) (x : Option EV), s = done ++ cs ∧ xs = cs.map (fun c => EV.str [c]) ∧ env = [some (.str s), some (.str (done.map turnC)), x] ∧ h' = h) ?_ ?_ _ _ _ ⟨[], s, none, rfl, rfl, rfl, rfl⟩
  · rintro env h' ⟨done, cs, x, e1, e, rfl, rfl⟩
    have e' : cs = [] := by simpa using e.symm
    subst e'
    refine ⟨trivial, ?_⟩
    simp only [lSeq, lSet, lRet, lRetN, lDrop, lIfS, lOp, lVar, lC, lB, lT, lAnd, lOr, lNot, lIf, lAndV, lOrV, lNotV, lNil, lCons, lTup, lLst, lCB, lBM, lSl, lPart, lNext, lFor, lIt, lRng1, lRng2, lAsg, lPar, lSetI, lAugS, lLc, lZip, lNeg, lCall, lChain, List.getElem?_cons_zero, List.getElem?_cons_succ, List.set_cons_zero, List.set_cons_succ, truE, wipeE, intP, intE]
    rw [List.append_nil] at e1
    rw [← e1]
    exact q _ .refl
  · rintro x xs env h' k ⟨done, cs, x0, e1, e, rfl, rfl⟩ hk
    obtain ⟨c, cs, rfl⟩ : ∃ c r, cs = c :: r := by
      cases cs with
      | nil => simp at e
      | cons c r => exact ⟨c, r, rfl⟩
    rw [List.map_cons, List.cons.injEq] at e
    obtain ⟨rfl, rfl⟩ := e
    refine ⟨trivial, ?_⟩
    have hz : (done.map turnC).length + 1 ≤ sizeLine := by
      rw [List.length_map, sizeL]
      have := congrArg List.length e1
      simp at this
      omega
    have fin : ∀ y : List Nat, y = [turnC c] → k [some (.str s), some (.str (done.map turnC ++ y)), some (.str [c])] h' := by
      rintro _ rfl
      exact hk _ _ ⟨done ++ [c], cs, some (.str [c]), by rw [e1]; simp, rfl, by simp, rfl⟩
    simp only [lBind, Pat.bind, lSeq, lSet, lRet, lRetN, lDrop, lIfS, lOp, lVar, lC, lB, lT, lAnd, lOr, lNot, lIf, lAndV, lOrV, lNotV, lNil, lCons, lTup, lLst, lCB, lBM, lSl, lPart, lNext, lFor, lIt, lRng1, lRng2, lAsg, lPar, lSetI, lAugS, lLc, lZip, lNeg, lCall, lChain, List.getElem?_cons_zero, List.getElem?_cons_succ, List.set_cons_zero, List.set_cons_succ, truE, wipeE, intP, intE]
    refine eq_s ?_
    show if (false ^^ decide ([c] = [100])) = true then _ else _
    rcases hs c (by rw [e1]; simp) with rfl | rfl | rfl
    · rw [if_neg (by decide)]
      refine eq_s ?_
      show if (false ^^ decide ([107] = [112])) = true then _ else _
      rw [if_neg (by decide)]
      refine add_s (t := [107]) hz ?_
      exact fin _ rfl
    · rw [if_pos (by decide)]
      refine add_s (t := [112]) hz ?_
      exact fin _ rfl
    · rw [if_neg (by decide)]
      refine eq_s ?_
      show if (false ^^ decide ([112] = [112])) = true then _ else _
      rw [if_pos (by decide)]
      refine add_s (t := [100]) hz ?_
      exact fin _ rfl
theorem len__law_swapped (evs : List EV) (h : EH) (Q : EK) (q : sp__law_swapped evs h Q) : evs.length = ["_law_steps"].length := by
  obtain ⟨_, rfl, _⟩ := q; rfl
end Y

namespace Y
open PySem PySem.Spec PyProof.Rows L2

/-! ### what the law asks of points -/
def swp (p : Int × Int) : Int × Int := (p.2, p.1)
theorem turn_turn (s : List Nat) (hs : StepC s) : (s.map turnC).map turnC = s := by
  rw [List.map_map]
  conv => rhs; rw [← List.map_id s]
  refine List.map_congr_left fun c hc => ?_
  rcases hs c hc with rfl | rfl | rfl <;> rfl
theorem turn_step (s : List Nat) (hs : StepC s) : StepC (s.map turnC) := by
  intro c hc
  obtain ⟨d, hd, rfl⟩ := List.mem_map.mp hc
  rcases hs d hd with rfl | rfl | rfl <;> decide
theorem mv_turn (p : Int × Int) (c : Nat) (h : c = 107 ∨ c = 100 ∨ c = 112) : mv (swp p) [turnC c] = swp (mv p [c]) := by
  rcases h with rfl | rfl | rfl <;> rfl
theorem pts_turn (p : Int × Int) : ∀ s, StepC s → pts (swp p) (s.map turnC) = (pts p s).map swp
  | [], _ => rfl
  | c :: s, hs => by
    rw [List.map_cons, pts, pts, List.map_cons, mv_turn p c (hs c (by simp)), pts_turn _ s fun d hd => hs d (List.mem_cons_of_mem _ hd)]
theorem offs_turn (s : List Nat) (hs : StepC s) : offs (s.map turnC) = offs s := by
  unfold offs
  rw [show ((0, 0) : Int × Int) = swp (0, 0) from rfl, pts_turn _ s hs, List.map_map]
  refine List.map_congr_left fun p _ => ?_
  simp only [Function.comp, swp]
  omega
theorem wide_turn (s : List Nat) (hs : StepC s) : wide (s.map turnC) = wide s := by
  unfold wide; rw [offs_turn s hs]
theorem kept_turn (s : List Nat) (hs : StepC s) : keptL (s.map turnC) = (keptL s).map swp := by
  unfold keptL
  rw [show ((0, 0) : Int × Int) = swp (0, 0) from rfl, pts_turn _ s hs]
  have key : ∀ (ps : List (Int × Int)) (s : List Nat), StepC s → (List.zip (ps.map swp) (s.map turnC)).filterMap (fun q => if q.2 = 107 then some q.1 else none) = ((List.zip ps s).filterMap fun q => if q.2 = 107 then some q.1 else none).map swp := by
    intro ps
    induction ps with
    | nil => intro s _; simp
    | cons p ps ih =>
      intro s hs
      cases s with
      | nil => simp
      | cons c s =>
        rw [List.map_cons, List.map_cons, List.zip_cons_cons, List.zip_cons_cons, List.filterMap_cons, List.filterMap_cons, ih s fun d hd => hs d (List.mem_cons_of_mem _ hd)]
        rcases hs c (by simp) with rfl | rfl | rfl <;> rfl
  exact key _ s hs
def near (k : Nat) (p : Int × Int) : Prop := p.1.natAbs ≤ k ∧ p.2.natAbs ≤ k
theorem near_mv {k : Nat} {p : Int × Int} {s : List Nat} (h : near k p) : near (k + 1) (mv p s) := by
  obtain ⟨h1, h2⟩ := h
  have q : ∀ b : Bool, oneI b = 0 ∨ oneI b = 1 := fun b => by cases b <;> simp [oneI]
  have a := q (!decide (s = [112]))
  have b := q (!decide (s = [100]))
  constructor
  · show (p.1 + _).natAbs ≤ _
    omega
  · show (p.2 + _).natAbs ≤ _
    omega
theorem pts_near : ∀ (s : List Nat) (k : Nat) (p : Int × Int), near k p → ∀ q ∈ pts p s, near (k + s.length) q
  | [], k, p, h, q, hq => by
    have e : q = p := by simpa [pts] using hq
    rw [e]; exact h
  | c :: s, k, p, h, q, hq => by
    rw [pts] at hq
    rcases List.mem_cons.mp hq with e | hq
    · rw [e]
      exact ⟨by have := h.1; simp only [List.length_cons]; omega, by have := h.2; simp only [List.length_cons]; omega⟩
    · have := pts_near s (k + 1) _ (near_mv h) q hq
      rw [List.length_cons, show k + (s.length + 1) = k + 1 + s.length by omega]
      exact this
theorem pts_small {s : List Nat} (hl : s.length ≤ 1000) : ∀ q ∈ pts (0, 0) s, near 1000 q := fun q hq => by
  have := pts_near s 0 (0, 0) ⟨by decide, by decide⟩ q hq
  exact ⟨by have := this.1; omega, by have := this.2; omega⟩
theorem kept_sub {s : List Nat} {q : Int × Int} (h : q ∈ keptL s) : q ∈ pts (0, 0) s := by
  unfold keptL at h
  obtain ⟨⟨p, c⟩, hp, e⟩ := List.mem_filterMap.mp h
  split at e
  · cases e
    exact (List.of_mem_zip hp).1
  · cases e
theorem kept_len (s : List Nat) : (keptL s).length ≤ s.length := by
  unfold keptL
  refine Nat.le_trans (List.length_filterMap_le _ _) ?_
  rw [List.length_zip]
  omega
theorem sml_pE {q : Int × Int} (h : near 1000 q) : Sml 1 (pE q) := by
  unfold pE
  simp only [Sml, Smls]
  exact ⟨by have := h.1; omega, by have := h.2; omega, trivial⟩
theorem w_pE (q : Int × Int) : wE (pE q) = 84 := rfl
/-- a list of points is data -/
theorem ds_pts {h : EH} {r : Nat} {ps : List (Int × Int)} (e : h[r]? = some (.lst (ps.map pE))) (hn : ∀ q ∈ ps, near 1000 q) (hl : ps.length ≤ 1001) : DS h 2 85085 (.ref r) (.list (pds (ps.map pE))) := by
  refine .lst e ?_
  refine (Smls.ds 1 _ (Smls.all fun v hv => ?_)).more ?_
  · obtain ⟨q, hq, rfl⟩ := List.mem_map.mp hv
    exact sml_pE (hn q hq)
  · refine Nat.le_trans (wEs_le (c := 84) fun v hv => ?_) ?_
    · obtain ⟨q, hq, rfl⟩ := List.mem_map.mp hv
      exact Nat.le_refl _
    · rw [List.length_map]
      omega
theorem maxL_mem : ∀ ns : List Int, ns ≠ [] → maxL ns ∈ ns
  | [], h => absurd rfl h
  | [a], _ => by simp [maxL]
  | a :: b :: l, _ => by
    rw [maxL]
    have := maxL_mem (b :: l) (by simp)
    by_cases q : a ≤ maxL (b :: l)
    · rw [Int.max_eq_right q]; exact List.mem_cons_of_mem _ this
    · rw [Int.max_eq_left (by omega)]; exact List.mem_cons_self
theorem wide_small {s : List Nat} (hl : s.length ≤ 1000) : (wide s).natAbs < 10 ^ 12 := by
  have hne : offs s ≠ [] := by
    intro z
    have := congrArg List.length z
    simp [offs, pts_len] at this
  have := maxL_mem _ hne
  unfold offs at this
  obtain ⟨p, hp, e⟩ := List.mem_map.mp this
  have n := pts_small hl p hp
  unfold wide offs
  rw [← e]
  have := n.1
  have := n.2
  omega
theorem ds_str {h : EH} {s : List Nat} (hs : StepC s) (hl : s.length ≤ 1000) : DS h 2 1000 (.str s) (.str (S s)) :=
  .str (fun c hc => by rcases hs c hc with rfl | rfl | rfl <;> decide) hl
end Y

namespace Y
open PySem PySem.Spec PyProof.Rows L2

def lagE : EV → EV := fun v => .tup [.str [108, 97, 103], v]
def swpE : EV → EV
  | .tup [i, j] => .tup [j, i]
  | v => v
theorem swp_map (ps : List (Int × Int)) : (ps.map pE).map swpE = (ps.map swp).map pE := by
  rw [List.map_map, List.map_map]; rfl
theorem pure__law_right (evs : List EV) (h : EH) (Q : EK) (q : sp__law_right evs h Q) : t__law_right (endsOf Q) (startE N__law_right evs) h := by
  obtain ⟨b, s, rfl, hl, hs, B, q⟩ := q
  show t__law_right (endsOf Q) [some (.ref b), some (.str s), none, none, none, none, none, none, none, none, none, none, none] h
  simp only [t__law_right, lSeq, lSet, lRet, lRetN, lDrop, lIfS, lOp, lVar, lC, lB, lT, lAnd, lOr, lNot, lIf, lAndV, lOrV, lNotV, lNil, lCons, lTup, lLst, lCB, lBM, lSl, lPart, lNext, lFor, lIt, lRng1, lRng2, lAsg, lPar, lSetI, lAugS, lLc, lZip, lNeg, lCall, lChain, List.getElem?_cons_zero, List.getElem?_cons_succ, List.set_cons_zero, List.set_cons_succ, wipeE, intP, intE]
  have hb := B.lt
  refine ⟨s, rfl, hl, fun r1 h1 k1 g1 e1 => ?_⟩
  refine ⟨s, rfl, hl, fun r2 h2 k2 g2 e2 => ?_⟩
  have e1 := k2.at e1
  have k12 := k1.trans k2
  have k12l := k1.1
  have B2 := B.keep k12
  clear k1 k2
  simp only [lSeq, lSet, lRet, lRetN, lDrop, lIfS, lOp, lVar, lC, lB, lT, lAnd, lOr, lNot, lIf, lAndV, lOrV, lNotV, lNil, lCons, lTup, lLst, lCB, lBM, lSl, lPart, lNext, lFor, lIt, lRng1, lRng2, lAsg, lPar, lSetI, lAugS, lLc, lZip, lNeg, lCall, lChain, List.getElem?_cons_zero, List.getElem?_cons_succ, List.set_cons_zero, List.set_cons_succ, wipeE, intP, intE]
  refine ⟨by decide, ?_⟩
  have n1 := pts_small hl
  have n2 : ∀ q ∈ keptL s, near 1000 q := fun q hq => n1 q (kept_sub hq)
  have l1 : (pts (0, 0) s).length ≤ 1001 := by rw [pts_len]; omega
  have l2 : (keptL s).length ≤ 1001 := Nat.le_trans (kept_len s) (by omega)
  refine loop_ind (fun xs env h' => ∃ x y : Option EV, env = [some (.ref b), some (.str s), some (.ref r1), some (.ref r2), x, y, none, none, none, none, none, none, none] ∧ Keep no1 h2 h') ?_ ?_ _ _ _ ⟨none, none, rfl, .refl⟩
  rotate_left
  · rintro x xs env h' kk ⟨x0, y0, rfl, k⟩ hk
    refine ⟨trivial, bind_nm ?_⟩
    simp only [lSeq, lSet, lRet, lRetN, lDrop, lIfS, lOp, lVar, lC, lB, lT, lAnd, lOr, lNot, lIf, lAndV, lOrV, lNotV, lNil, lCons, lTup, lLst, lCB, lBM, lSl, lPart, lNext, lFor, lIt, lRng1, lRng2, lAsg, lPar, lSetI, lAugS, lLc, lZip, lNeg, lCall, lChain, List.getElem?_cons_zero, List.getElem?_cons_succ, List.set_cons_zero, List.set_cons_succ, wipeE, intP, intE]
    refine ⟨s, rfl, hl, fun ra h3 k3 g3 e3 => ?_⟩
    refine ⟨s, rfl, hl, fun rb h4 k4 g4 e4 => ?_⟩
    have la := lt_of_at e3
    have e3 := k4.at e3
    simp only [List.length_cons, List.length_nil]
    rw [sizeL]
    refine ⟨by decide, by decide, ?_⟩
    have kA := (k.trans k3).trans k4
    have w1 := app_at (app_at (kA.at e1) [.lst [.ref ra, .ref rb]]) [.lst [.ref r1, .ref r2]]
    have w2 := app_at (app_at (kA.at e2) [.lst [.ref ra, .ref rb]]) [.lst [.ref r1, .ref r2]]
    have w3 := app_at (app_at e3 [.lst [.ref ra, .ref rb]]) [.lst [.ref r1, .ref r2]]
    have w4 := app_at (app_at e4 [.lst [.ref ra, .ref rb]]) [.lst [.ref r1, .ref r2]]
    have w5 : (h4 ++ [EO.lst [.ref ra, .ref rb]] ++ [EO.lst [.ref r1, .ref r2]])[h4.length]? = some (.lst [.ref ra, .ref rb]) := app_at new_at _
    have w6 : (h4 ++ [EO.lst [.ref ra, .ref rb]] ++ [EO.lst [.ref r1, .ref r2]])[(h4 ++ [EO.lst [.ref ra, .ref rb]]).length]? = some (.lst [.ref r1, .ref r2]) := new_at
    have kB : Keep no1 h2 (h4 ++ [EO.lst [.ref ra, .ref rb]] ++ [EO.lst [.ref r1, .ref r2]]) := by
      rw [List.append_assoc]; exact kA.trans (Keep.app _)
    have ge3 : h2.length ≤ ra := Nat.le_trans k.1 g3
    have ge4 : h2.length ≤ rb := Nat.le_trans (k.trans k3).1 g4
    have nab : ra ≠ rb := by omega
    generalize h4 ++ [EO.lst [.ref ra, .ref rb]] ++ [EO.lst [.ref r1, .ref r2]] = h5 at w1 w2 w3 w4 w5 w6 kB ⊢
    refine ⟨_, _, _, 3, 180000, rfl, (DS.lst w5 ((DSs.cons (ds_pts w3 n1 l1) (DSs.cons (ds_pts w4 n2 l2) (DSs.nil (k := 0)))).more (by decide))), (DS.lst w6 ((DSs.cons (ds_pts w1 n1 l1) (DSs.cons (ds_pts w2 n2 l2) (DSs.nil (k := 0)))).more (by decide))), by decide, by decide, ?_⟩
    refine tru_b ?_
    rw [if_neg (by decide)]
    refine ix_l w5 at0 ?_
    simp only [isTy, w3]
    refine ⟨trivial, by decide, ?_⟩
    refine app_e w3 [] (by rw [List.length_map, sizeL]; omega) ?_
    have x5 := set_off (o := EO.lst ((pts (0, 0) s).map pE ++ [EV.tup [EV.int 1, EV.int 1]])) w5 (show h4.length ≠ ra by have := lt_of_at e3; omega)
    have x4 := set_off (o := EO.lst ((pts (0, 0) s).map pE ++ [EV.tup [EV.int 1, EV.int 1]])) w4 (Ne.symm nab)
    have kC := kB.fresh (o := EO.lst ((pts (0, 0) s).map pE ++ [EV.tup [EV.int 1, EV.int 1]])) ge3
    generalize h5.set ra (EO.lst ((pts (0, 0) s).map pE ++ [EV.tup [EV.int 1, EV.int 1]])) = h6 at x5 x4 kC ⊢
    refine ix_l x5 at1 ?_
    simp only [x4]
    refine ⟨trivial, by decide, ?_⟩
    refine ins_e x4 (by rw [List.length_map, sizeL]; omega) (by decide) (by decide) ?_
    exact hk _ _ ⟨_, _, rfl, kC.fresh ge4⟩
  · rintro env h' ⟨x0, y0, rfl, k⟩
    refine ⟨trivial, ?_⟩
    have a1 := k.at e1
    have a2 := k.at e2
    have B3 := B2.keep k
    have kh := k12.trans k
    clear e1 e2 k12 B2 k
    simp only [lSeq, lSet, lRet, lRetN, lDrop, lIfS, lOp, lVar, lC, lB, lT, lAnd, lOr, lNot, lIf, lAndV, lOrV, lNotV, lNil, lCons, lTup, lLst, lCB, lBM, lSl, lPart, lNext, lFor, lIt, lRng1, lRng2, lAsg, lPar, lSetI, lAugS, lLc, lZip, lNeg, lCall, lChain, List.getElem?_cons_zero, List.getElem?_cons_succ, List.set_cons_zero, List.set_cons_succ, wipeE, intP, intE, a1]
    refine lc_map difE _ ?_ (fun acc => app_at a1 _) (fun x hx acc ky hy => ?_) ?_
    · rw [List.length_map, sizeL]; omega
    · obtain ⟨⟨i, j⟩, hp, rfl⟩ := List.mem_map.mp hx
      simp only [pE, lBind, Pat.bind, Pat.binds, lSeq, lSet, lRet, lRetN, lDrop, lIfS, lOp, lVar, lC, lB, lT, lAnd, lOr, lNot, lIf, lAndV, lOrV, lNotV, lNil, lCons, lTup, lLst, lCB, lBM, lSl, lPart, lNext, lFor, lIt, lRng1, lRng2, lAsg, lPar, lSetI, lAugS, lLc, lZip, lNeg, lCall, lChain, List.getElem?_cons_zero, List.getElem?_cons_succ, List.set_cons_zero, List.set_cons_succ, truE, wipeE, intP, intE, absE]
      exact hy
    rw [offs_map]
    simp only [maxE, new_at]
    refine ⟨offs s, rfl, ?_, fun m hm hg => ?_⟩
    · intro z
      have := congrArg List.length z
      simp [offs, pts_len] at this
    rw [show m = wide s from maxL_of _ _ hm hg]
    clear hm hg m
    refine ⟨s, rfl, hl, fun h3 k3 => ?_⟩
    have k4 : Keep no1 h' h3 := (Keep.app _).trans k3
    have a1 := k4.at a1
    have a2 := k4.at a2
    have B4 := B3.keep k4
    have kh := kh.trans k4
    clear k3 k4 B3
    have wS := wide_small hl
    refine ⟨_, _, _, 0, 41, rfl, .int wS (by decide), .int wS (by decide), by decide, by decide, ?_⟩
    refine tru_b ?_
    rw [if_neg (by decide)]
    simp only [List.length_cons, List.length_nil]
    rw [sizeL]
    refine ⟨by decide, by decide, b, 61, rfl, by decide, by decide, B4, fun d h4 d0 d1 k4 B5 => ?_⟩
    refine ⟨by decide, by decide, by decide, ?_⟩
    have hr1 : r1 ≠ b := by omega
    have hr2 : r2 ≠ b := by have := k12l; omega
    have a1 := k4.other a1 hr1
    have a2 := k4.other a2 hr2
    have kh := kh.all.trans k4
    have eM : [EV.tup [EV.str [110, 111, 110, 101]], EV.tup [EV.str [116, 111, 116, 97, 108], EV.int 0], EV.tup [EV.str [116, 111, 116, 97, 108], EV.int d]] = ([.none, .total 0, .total d] : List Prom).map Prom.e := rfl
    rw [eM]
    have eP : ([1, 2, 3, 4] : List Int).map EV.int = [EV.int 1, EV.int 2, EV.int 3, EV.int 4] := rfl
    rw [← eP]
    refine lc_map lagE _ (by rw [sizeL]; decide) (fun acc => trivial) (fun x hx acc ky hy => ?_) ?_
    · obtain ⟨i, hi, rfl⟩ := List.mem_map.mp hx
      simp only [lBind, Pat.bind, lSeq, lSet, lRet, lRetN, lDrop, lIfS, lOp, lVar, lC, lB, lT, lAnd, lOr, lNot, lIf, lAndV, lOrV, lNotV, lNil, lCons, lTup, lLst, lCB, lBM, lSl, lPart, lNext, lFor, lIt, lRng1, lRng2, lAsg, lPar, lSetI, lAugS, lLc, lZip, lNeg, lCall, lChain, List.getElem?_cons_zero, List.getElem?_cons_succ, List.set_cons_zero, List.set_cons_succ, truE, wipeE, intP, intE, List.length_cons, List.length_nil]
      rw [sizeL]
      exact ⟨by decide, hy⟩
    rw [show (([1, 2, 3, 4] : List Int).map EV.int).map lagE = ([.lag 1, .lag 2, .lag 3, .lag 4] : List Prom).map Prom.e from rfl]
    refine add_l (xs := ([.none, .total 0, .total d] : List Prom).map Prom.e) (ys := ([.lag 1, .lag 2, .lag 3, .lag 4] : List Prom).map Prom.e) (app_at new_at _) new_at (by simp [sizeL]) ?_
    rw [← List.map_append]
    have kn : Keep no1 h4 (h4 ++ [EO.lst (([.none, .total 0, .total d] : List Prom).map Prom.e)] ++ [EO.lst (([.lag 1, .lag 2, .lag 3, .lag 4] : List Prom).map Prom.e)] ++ [EO.lst (([.none, .total 0, .total d] ++ [.lag 1, .lag 2, .lag 3, .lag 4] : List Prom).map Prom.e)]) := by
      rw [List.append_assoc, List.append_assoc]; exact Keep.app _
    refine ⟨b, _, _, rfl, new_at, by simp, ?_, B5.keep kn, fun rm ys h5 pm k5 g5 a5 B6 => ?_⟩
    · have := B5.lt
      simp only [List.length_append, List.length_singleton]
      omega
    have k5' := kn.all.trans k5
    have a1 := k5'.other a1 hr1
    have a2 := k5'.other a2 hr2
    have kh := kh.trans k5'
    have hrm : rm ≠ b := by
      have := B5.lt
      have := kn.1
      omega
    have hys : ∀ y ∈ ys, ∃ p : Prom, y = p.e := fun y hy => by
      obtain ⟨p, _, rfl⟩ := List.mem_map.mp (pm.mem_iff.mp hy)
      exact ⟨p, rfl⟩
    clear kn k5 k5' pm
    simp only [a5]
    refine loop_ind (fun xs env h' => ∃ x : Option EV, env = [some (.ref b), some (.str s), some (.ref r1), some (.ref r2), x0, y0, some (.int (wide s)), some _, x, none, none, none, none] ∧ (∀ y ∈ xs, ∃ p : Prom, y = p.e) ∧ Keep no1 h5 h') ?_ ?_ _ _ _ ⟨none, rfl, hys, .refl⟩
    rotate_left
    · rintro x xs env h' kk ⟨x1, rfl, hx, k⟩ hk
      refine ⟨k.at a5, bind_nm ?_⟩
      obtain ⟨p, rfl⟩ := hx x (by simp)
      simp only [lSeq, lSet, lRet, lRetN, lDrop, lIfS, lOp, lVar, lC, lB, lT, lAnd, lOr, lNot, lIf, lAndV, lOrV, lNotV, lNil, lCons, lTup, lLst, lCB, lBM, lSl, lPart, lNext, lFor, lIt, lRng1, lRng2, lAsg, lPar, lSetI, lAugS, lLc, lZip, lNeg, lCall, lChain, List.getElem?_cons_zero, List.getElem?_cons_succ, List.set_cons_zero, List.set_cons_succ, wipeE, intP, intE]
      refine ⟨s, p, rfl, hl, fun h6 k6 => ?_⟩
      have hk' := hk _ _ ⟨some p.e, rfl, fun y hy => hx y (List.mem_cons_of_mem _ hy), k.trans k6⟩
      cases p with
      | none =>
        refine ix_t at0 ?_
        refine eq_s ?_
        refine ⟨_, _, _, 0, 0, rfl, .bl, .bl, by decide, by decide, ?_⟩
        refine tru_b ?_
        rw [if_neg (by decide)]
        exact hk'
      | total g =>
        refine ix_t at0 ?_
        refine eq_s ?_
        refine ⟨_, _, _, 0, 0, rfl, .bl, .bl, by decide, by decide, ?_⟩
        refine tru_b ?_
        rw [if_neg (by decide)]
        exact hk'
      | lag g =>
        refine ix_t at0 ?_
        refine eq_s ?_
        show if (true ^^ decide ([108, 97, 103] = [108, 97, 103])) = true then _ else _
        rw [if_neg (by decide)]
        refine ix_t at1 ?_
        refine le_i ?_
        refine ⟨_, _, _, 0, 0, rfl, .bl, .bl, by decide, by decide, ?_⟩
        refine tru_b ?_
        rw [if_neg (by decide)]
        exact hk'
    · rintro env h' ⟨x1, rfl, _, k⟩
      refine ⟨k.at a5, ?_⟩
      have a1 := k.at a1
      have a2 := k.at a2
      have B7 := B6.keep k
      have kh := kh.trans k.all
      simp only [lSeq, lSet, lRet, lRetN, lDrop, lIfS, lOp, lVar, lC, lB, lT, lAnd, lOr, lNot, lIf, lAndV, lOrV, lNotV, lNil, lCons, lTup, lLst, lCB, lBM, lSl, lPart, lNext, lFor, lIt, lRng1, lRng2, lAsg, lPar, lSetI, lAugS, lLc, lZip, lNeg, lCall, lChain, List.getElem?_cons_zero, List.getElem?_cons_succ, List.set_cons_zero, List.set_cons_succ, wipeE, intP, intE]
      have hs' := turn_step s hs
      have hl' : (s.map turnC).length ≤ 1000 := by rw [List.length_map]; exact hl
      refine ⟨s, rfl, hl, hs, fun h6 k6 => ?_⟩
      refine ⟨s.map turnC, rfl, hl', hs', fun h7 k7 => ?_⟩
      refine ⟨s.map turnC, rfl, hl', fun h8 k8 => ?_⟩
      rw [turn_turn s hs, wide_turn s hs]
      have k8 := (k6.trans k7).trans k8
      refine ⟨by simp [sizeL], ?_⟩
      refine ⟨s, rfl, hl, hs, fun h9 k9 => ?_⟩
      refine ⟨by simp [sizeL], ?_⟩
      have b1 : (h9 ++ [EO.lst [.str (s.map turnC), .str s, .int (wide s)]])[h8.length]? = some (.lst [.str (s.map turnC), .str s, .int (wide s)]) := app_at (k9.at new_at) _
      have b2 : (h9 ++ [EO.lst [.str (s.map turnC), .str s, .int (wide s)]])[h9.length]? = some (.lst [.str (s.map turnC), .str s, .int (wide s)]) := new_at
      have k9 : Keep no1 h' (h9 ++ [EO.lst [.str (s.map turnC), .str s, .int (wide s)]]) := ((k8.trans (Keep.app _)).trans k9).trans (Keep.app _)
      generalize h9 ++ [EO.lst [.str (s.map turnC), .str s, .int (wide s)]] = h10 at b1 b2 k9 ⊢
      have dd : ∀ r, h10[r]? = some (.lst [.str (s.map turnC), .str s, .int (wide s)]) → DS h10 3 5000 (.ref r) (.list [.str (S (s.map turnC)), .str (S s), .int (wide s)]) := fun r e =>
        DS.lst e ((DSs.cons (ds_str hs' hl') (DSs.cons (ds_str hs hl) (DSs.cons (DS.int (k := 41) wS (by decide)) (DSs.nil (k := 0))))).more (by decide))
      refine ⟨_, _, _, 3, 5000, rfl, dd _ b1, dd _ b2, by decide, by decide, ?_⟩
      refine tru_b ?_
      rw [if_neg (by decide)]
      refine ⟨s.map turnC, rfl, hl', fun ra h11 k11 g11 a11 => ?_⟩
      refine ⟨s.map turnC, rfl, hl', fun rb h12 k12 g12 a12 => ?_⟩
      rw [show ((0, 0) : Int × Int) = swp (0, 0) from rfl, pts_turn _ s hs] at a11
      rw [kept_turn s hs] at a12
      have a11 := k12.at a11
      refine ⟨by simp [sizeL], ?_⟩
      have k13 := (k9.trans k11).trans k12
      have c1 := app_at (k13.at a1) [.lst [.ref ra, .ref rb]]
      have c2 := app_at (k13.at a2) [.lst [.ref ra, .ref rb]]
      have c3 := app_at a11 [.lst [.ref ra, .ref rb]]
      have c4 := app_at a12 [.lst [.ref ra, .ref rb]]
      have c5 : (h12 ++ [EO.lst [.ref ra, .ref rb]])[h12.length]? = some (.lst [.ref ra, .ref rb]) := new_at
      have k13 : Keep no1 h' (h12 ++ [EO.lst [.ref ra, .ref rb]]) := k13.trans (Keep.app _)
      generalize h12 ++ [EO.lst [.ref ra, .ref rb]] = h13 at c1 c2 c3 c4 c5 k13 ⊢
      simp only [c1]
      refine lc_map swpE _ (by rw [List.length_map, sizeL]; omega) (fun acc => app_at c1 _) (fun x hx acc ky hy => ?_) ?_
      · obtain ⟨⟨i, j⟩, hp, rfl⟩ := List.mem_map.mp hx
        simp only [pE, lBind, Pat.bind, Pat.binds, lSeq, lSet, lRet, lRetN, lDrop, lIfS, lOp, lVar, lC, lB, lT, lAnd, lOr, lNot, lIf, lAndV, lOrV, lNotV, lNil, lCons, lTup, lLst, lCB, lBM, lSl, lPart, lNext, lFor, lIt, lRng1, lRng2, lAsg, lPar, lSetI, lAugS, lLc, lZip, lNeg, lCall, lChain, List.getElem?_cons_zero, List.getElem?_cons_succ, List.set_cons_zero, List.set_cons_succ, truE, wipeE, intP, intE]
        exact ⟨by simp [sizeL], hy⟩
      rw [swp_map]
      simp only [app_at c2]
      refine lc_map swpE _ (by rw [List.length_map, sizeL]; omega) (fun acc => app_at (app_at c2 _) _) (fun x hx acc ky hy => ?_) ?_
      · obtain ⟨⟨i, j⟩, hp, rfl⟩ := List.mem_map.mp hx
        simp only [pE, lBind, Pat.bind, Pat.binds, lSeq, lSet, lRet, lRetN, lDrop, lIfS, lOp, lVar, lC, lB, lT, lAnd, lOr, lNot, lIf, lAndV, lOrV, lNotV, lNil, lCons, lTup, lLst, lCB, lBM, lSl, lPart, lNext, lFor, lIt, lRng1, lRng2, lAsg, lPar, lSetI, lAugS, lLc, lZip, lNeg, lCall, lChain, List.getElem?_cons_zero, List.getElem?_cons_succ, List.set_cons_zero, List.set_cons_succ, truE, wipeE, intP, intE]
        exact ⟨by simp [sizeL], hy⟩
      rw [swp_map]
      refine ⟨by simp [sizeL], ?_⟩
      have m1 : ∀ q ∈ (pts (0, 0) s).map swp, near 1000 q := fun q hq => by
        obtain ⟨p, hp, rfl⟩ := List.mem_map.mp hq
        exact ⟨(n1 p hp).2, (n1 p hp).1⟩
      have m2 : ∀ q ∈ (keptL s).map swp, near 1000 q := fun q hq => by
        obtain ⟨p, hp, rfl⟩ := List.mem_map.mp hq
        exact ⟨(n2 p hp).2, (n2 p hp).1⟩
      have m3 : ((pts (0, 0) s).map swp).length ≤ 1001 := by rw [List.length_map]; exact l1
      have m4 : ((keptL s).map swp).length ≤ 1001 := by rw [List.length_map]; exact l2
      refine ⟨_, _, _, 3, 180000, rfl, DS.lst (app_at (app_at (app_at c5 _) _) _) ((DSs.cons (ds_pts (app_at (app_at (app_at c3 _) _) _) m1 m3) (DSs.cons (ds_pts (app_at (app_at (app_at c4 _) _) _) m2 m4) (DSs.nil (k := 0)))).more (by decide)),
        DS.lst new_at ((DSs.cons (ds_pts (app_at (app_at new_at _) _) m1 m3) (DSs.cons (ds_pts (app_at new_at _) m2 m4) (DSs.nil (k := 0)))).more (by decide)), by decide, by decide, ?_⟩
      have kf : Keep no1 h' (h13 ++ [EO.lst (((pts (0, 0) s).map swp).map pE)] ++ [EO.lst (((keptL s).map swp).map pE)] ++ [EO.lst [.ref h13.length, .ref (h13 ++ [EO.lst (((pts (0, 0) s).map swp).map pE)]).length]]) := by
        rw [List.append_assoc, List.append_assoc]; exact k13.trans (Keep.app _)
      exact q _ (kh.trans kf.all) (B7.keep kf)
theorem len__law_right (evs : List EV) (h : EH) (Q : EK) (q : sp__law_right evs h Q) : evs.length = ["_law_bag_here", "_law_steps"].length := by
  obtain ⟨_, _, rfl, _⟩ := q; rfl
end Y

namespace Y
open PySem PySem.Spec PyProof.Rows L2

theorem pure_law (evs : List EV) (h : EH) (Q : EK) (q : spTop 63 evs h Q) : t_law (endsOf Q) (startE N_law evs) h := by
  obtain ⟨ns, rfl, rfl, hl, q⟩ := q
  show t_law (endsOf Q) [some (.ref 0), none, none, none, none, none] [.frz (ns.map EV.int)]
  simp only [t_law, lSeq, lSet, lRet, lRetN, lDrop, lIfS, lOp, lVar, lC, lB, lT, lAnd, lOr, lNot, lIf, lAndV, lOrV, lNotV, lNil, lCons, lTup, lLst, lCB, lBM, lSl, lPart, lNext, lFor, lIt, lRng1, lRng2, lAsg, lPar, lSetI, lAugS, lLc, lZip, lNeg, lCall, lChain, List.getElem?_cons_zero, List.getElem?_cons_succ, List.set_cons_zero, List.set_cons_succ, wipeE, intP, intE]
  refine ⟨ns, rfl, rfl, hl, fun b h1 B => ?_⟩
  refine ⟨by decide, ?_⟩
  refine loop_ind (fun xs env h' => ∃ x y z : Option EV, env = [some (.ref 0), some (.ref b), x, y, z, none] ∧ BagAt h' b ∧ ∀ v ∈ xs, ∃ i : Int, v = .int i) ?_ ?_ _ _ _ ⟨none, none, none, rfl, B, ?_⟩
  · rintro env h' ⟨x, y, z, rfl, B', _⟩
    refine ⟨trivial, ?_⟩
    simp only [lSeq, lSet, lRet, lRetN, lDrop, lIfS, lOp, lVar, lC, lB, lT, lAnd, lOr, lNot, lIf, lAndV, lOrV, lNotV, lNil, lCons, lTup, lLst, lCB, lBM, lSl, lPart, lNext, lFor, lIt, lRng1, lRng2, lAsg, lPar, lSetI, lAugS, lLc, lZip, lNeg, lCall, lChain, List.getElem?_cons_zero, List.getElem?_cons_succ, List.set_cons_zero, List.set_cons_succ, truE, wipeE, intP, intE]
    exact q _
  · rintro x xs env h' kk ⟨x0, y0, z0, rfl, B1, hx⟩ hk
    obtain ⟨ti, rfl⟩ := hx x (by simp)
    refine ⟨trivial, bind_nm ?_⟩
    simp only [lSeq, lSet, lRet, lRetN, lDrop, lIfS, lOp, lVar, lC, lB, lT, lAnd, lOr, lNot, lIf, lAndV, lOrV, lNotV, lNil, lCons, lTup, lLst, lCB, lBM, lSl, lPart, lNext, lFor, lIt, lRng1, lRng2, lAsg, lPar, lSetI, lAugS, lLc, lZip, lNeg, lCall, lChain, List.getElem?_cons_zero, List.getElem?_cons_succ, List.set_cons_zero, List.set_cons_succ, wipeE, intP, intE]
    refine ⟨by simp [sizeL], by simp [sizeL], by simp [sizeL], by simp [sizeL], by simp [sizeL], by simp [sizeL], by simp [sizeL], ?_⟩
    have hb := B1.lt
    refine ⟨b, _, _, rfl, new_at, by simp, by simp [sizeL], ?_, B1.keep ?_, fun v h2 hv k2 B2 => ?_⟩
    · simp only [List.length_append, List.length_singleton]; omega
    · simp only [List.append_assoc]; exact Keep.app _
    have menu : ∃ (r : Nat) (cs : List Nat), v = .ref r ∧ r ≠ b ∧ h2[r]? = some (.lst (cs.map fun c => EV.str [c])) ∧ cs ≠ [] ∧ cs.length ≤ 10 ∧ StepC cs := by
      have ok : ∀ (r : Nat) (cs : List Nat) {g : EH}, Keep (is1 b) g h2 → v = .ref r → h'.length ≤ r → g[r]? = some (.lst (cs.map fun c => EV.str [c])) → cs ≠ [] → cs.length ≤ 10 → StepC cs →
          ∃ (r : Nat) (cs : List Nat), v = .ref r ∧ r ≠ b ∧ h2[r]? = some (.lst (cs.map fun c => EV.str [c])) ∧ cs ≠ [] ∧ cs.length ≤ 10 ∧ StepC cs :=
        fun r cs g k ev hr e a b' c => ⟨r, cs, ev, by omega, k.other e (by omega), a, b', c⟩
      simp only [List.mem_cons, List.not_mem_nil, or_false] at hv
      rcases hv with hv | hv | hv | hv | hv | hv
      · refine ok _ [107, 100, 112] k2 hv (by simp) ?_ (by simp) (by simp) (by unfold StepC; decide)
        repeat (first | exact new_at | refine app_at ?_ _)
      · refine ok _ [100, 112] k2 hv (by simp) ?_ (by simp) (by simp) (by unfold StepC; decide)
        repeat (first | exact new_at | refine app_at ?_ _)
      · refine ok _ [107, 107, 100, 112] k2 hv (by simp) ?_ (by simp) (by simp) (by unfold StepC; decide)
        repeat (first | exact new_at | refine app_at ?_ _)
      · refine ok _ [107, 100] k2 hv (by simp) ?_ (by simp) (by simp) (by unfold StepC; decide)
        repeat (first | exact new_at | refine app_at ?_ _)
      · refine ok _ [112, 107] k2 hv (by simp) ?_ (by simp) (by simp) (by unfold StepC; decide)
        repeat (first | exact new_at | refine app_at ?_ _)
      · refine ok _ [100] k2 hv (by simp) ?_ (by simp) (by simp) (by unfold StepC; decide)
        repeat (first | exact new_at | refine app_at ?_ _)
    obtain ⟨r, cs, rfl, hrb, er, cne, cl, cst⟩ := menu
    clear k2 hv B1 hb
    simp only [isTy]
    refine ⟨trivial, by simp [sizeL], ?_⟩
    have hb := B2.lt
    refine ⟨b, _, _, rfl, new_at, by simp, by simp [sizeL], Nat.ne_of_gt hb, B2.keep (Keep.app _), fun x h3 hx3 k3 B3 => ?_⟩
    have er := k3.other (app_at er _) hrb
    obtain ⟨m, rfl, hm⟩ : ∃ m : Nat, x = .int m ∧ m ≤ 24 := by
      simp only [List.mem_cons, List.not_mem_nil, or_false] at hx3
      rcases hx3 with rfl | rfl | rfl | rfl | rfl | rfl
      · exact ⟨9, rfl, by decide⟩
      · exact ⟨0, rfl, by decide⟩
      · exact ⟨1, rfl, by decide⟩
      · exact ⟨2, rfl, by decide⟩
      · exact ⟨5, rfl, by decide⟩
      · exact ⟨24, rfl, by decide⟩
    clear k3 hx3 B2 hb
    simp only []
    refine ⟨⟨by omega, by omega⟩, ?_⟩
    have hb := B3.lt
    have hrl := lt_of_at er
    refine lc_ind (fun left acc h' => ∃ ws : List Nat, acc = ws.map (fun c => EV.str [c]) ∧ StepC ws ∧ ws.length + left.length ≤ 24 ∧ BagAt h' b ∧ h'[r]? = some (.lst (cs.map fun c => EV.str [c])) ∧ ∀ v ∈ left, ∃ i : Int, v = .int i) ?_ ?_ _ [] _ new_at ⟨[], rfl, fun c hc => by simp at hc, by simp [rangeL]; omega, B3.keep (Keep.app _), app_at er _, ?_⟩
    · rintro acc h4 ⟨ws, rfl, wst, wl, B4, er4, _⟩ e4
      refine ⟨trivial, ?_⟩
      simp only [joinE, e4]
      simp only [List.length_nil, Nat.add_zero] at wl
      refine ⟨ws.map fun c => [c], by rw [List.map_map]; rfl, ?_, ?_⟩
      · have := sum_one ws (fun c => c)
        rw [this]
        simp
        omega
      rw [join_nil, flat_one ws (fun c => c), List.map_id']
      refine ⟨b, ws, rfl, by omega, wst, B4, fun h5 k5 B5 => ?_⟩
      refine tru_b ?_
      rw [if_neg (by decide)]
      refine eq_i ?_
      dsimp only
      split
      · refine mul_s ⟨by decide, by decide, ?_⟩ ?_
        · show ws.length * 12 ≤ _
          omega
        refine mul_s ⟨by decide, by decide, by decide⟩ ?_
        have st : ∀ (k : Nat) (l : List Nat), StepC l → StepC (repN (k : Int) l) := fun k l hl c hc => by
          unfold repN at hc
          obtain ⟨y, hy, hcy⟩ := List.mem_flatten.mp hc
          have := List.eq_of_mem_replicate hy
          subst this
          exact hl c hcy
        have ln : ∀ (k : Nat) (l : List Nat), (repN (k : Int) l).length = k * l.length := fun k l => by
          unfold repN
          rw [Int.toNat_natCast, List.length_flatten, List.map_replicate, List.sum_replicate_nat]
        refine add_s ?_ ?_
        · have a : (repN (12 : Int) ws).length = 12 * ws.length := ln 12 ws
          have c : (repN (40 : Int) [107, 100, 112]).length = 40 * 3 := ln 40 [107, 100, 112]
          rw [a, c, sizeL]
          omega
        refine sl_s ?_ ?_
        · have a : (repN (12 : Int) ws).length = 12 * ws.length := ln 12 ws
          have c : (repN (40 : Int) [107, 100, 112]).length = 40 * 3 := ln 40 [107, 100, 112]
          rw [List.length_append, a, c, sizeL]
          omega
        rw [show (120 : Int) = ((120 : Nat) : Int) from rfl, cut_to]
        refine ⟨b, _, rfl, ?_, ?_, B5, fun h6 k6 B6 => ?_⟩
        · rw [List.length_take]; omega
        · intro c hc
          rcases List.mem_append.mp (List.mem_of_mem_take hc) with z | z
          · exact st 12 ws wst c z
          · exact st 40 _ (by unfold StepC; decide) c z
        refine tru_b ?_
        rw [if_neg (by decide)]
        exact hk _ _ ⟨_, _, _, rfl, B6, fun v hv => hx v (List.mem_cons_of_mem _ hv)⟩
      · rw [if_neg (by decide)]
        exact hk _ _ ⟨_, _, _, rfl, B5, fun v hv => hx v (List.mem_cons_of_mem _ hv)⟩
    · rintro x left acc h4 ky kn ⟨ws, rfl, wst, wl, B4, er4, hle⟩ e4 hky _
      obtain ⟨xi, rfl⟩ := hle x (by simp)
      refine ⟨trivial, bind_nm ?_⟩
      simp only [lYes, lSeq, lSet, lRet, lRetN, lDrop, lIfS, lOp, lVar, lC, lB, lT, lAnd, lOr, lNot, lIf, lAndV, lOrV, lNotV, lNil, lCons, lTup, lLst, lCB, lBM, lSl, lPart, lNext, lFor, lIt, lRng1, lRng2, lAsg, lPar, lSetI, lAugS, lLc, lZip, lNeg, lCall, lChain, List.getElem?_cons_zero, List.getElem?_cons_succ, List.set_cons_zero, List.set_cons_succ, wipeE, intP, intE, if_true]
      refine ⟨b, r, _, rfl, er4, by simpa using cne, by rw [List.length_map, sizeL]; omega, hrb, B4, fun y h5 hy k5 B5 => ?_⟩
      obtain ⟨c, hc, rfl⟩ := List.mem_map.mp hy
      have hbl := B4.lt
      simp only [List.length_cons] at wl
      refine hky _ _ (k5.other e4 (by omega)) (by rw [List.length_map, sizeL]; omega) ⟨ws ++ [c], by simp, ?_, by simp; omega, B5.set (by omega), ?_, fun v hv => hle v (List.mem_cons_of_mem _ hv)⟩
      · intro z hz
        rcases List.mem_append.mp hz with z1 | z1
        · exact wst z z1
        · rw [List.mem_singleton.mp z1]; exact cst c hc
      · exact set_off (k5.other er4 hrb) (by omega)
    · intro v hv
      unfold rangeL at hv
      obtain ⟨i, _, rfl⟩ := List.mem_map.mp hv
      exact ⟨_, rfl⟩
  · intro v hv
    unfold rangeL at hv
    obtain ⟨i, _, rfl⟩ := List.mem_map.mp hv
    exact ⟨_, rfl⟩
end Y

namespace Y
open PySem PySem.Spec PyProof.Rows L2
abbrev FnP (K : PySem.W.Frag) (x : Str) (st : Stmt) (f : Addr) (fd : FuncData) : Prop := FunD K x x (defArgs st) (defBody st) (defScope st) [] [] f fd
structure Fs (w : World) (K : PySem.W.Frag) (mg : Str → Option Value) : Type where
  f_moved : Addr
  d_moved : FuncData
  F_moved : FnP K "moved" s_moved f_moved d_moved
  g_moved : mg "moved" = some (.ref f_moved)
  f_points : Addr
  d_points : FuncData
  F_points : FnP K "points" s_points f_points d_points
  g_points : mg "points" = some (.ref f_points)
  f_kept : Addr
  d_kept : FuncData
  F_kept : FnP K "kept" s_kept f_kept d_kept
  g_kept : mg "kept" = some (.ref f_kept)
  f_widest : Addr
  d_widest : FuncData
  F_widest : FnP K "widest" s_widest f_widest d_widest
  g_widest : mg "widest" = some (.ref f_widest)
  f_is_allowed : Addr
  d_is_allowed : FuncData
  F_is_allowed : FnP K "is_allowed" s_is_allowed f_is_allowed d_is_allowed
  g_is_allowed : mg "is_allowed" = some (.ref f_is_allowed)
  f_turned : Addr
  d_turned : FuncData
  F_turned : FnP K "turned" s_turned f_turned d_turned
  g_turned : mg "turned" = some (.ref f_turned)
  f__law_bag : Addr
  d__law_bag : FuncData
  F__law_bag : FnP K "_law_bag" s__law_bag f__law_bag d__law_bag
  g__law_bag : mg "_law_bag" = some (.ref f__law_bag)
  f__law_take : Addr
  d__law_take : FuncData
  F__law_take : FnP K "_law_take" s__law_take f__law_take d__law_take
  g__law_take : mg "_law_take" = some (.ref f__law_take)
  f__law_one : Addr
  d__law_one : FuncData
  F__law_one : FnP K "_law_one" s__law_one f__law_one d__law_one
  g__law_one : mg "_law_one" = some (.ref f__law_one)
  f__law_mixed : Addr
  d__law_mixed : FuncData
  F__law_mixed : FnP K "_law_mixed" s__law_mixed f__law_mixed d__law_mixed
  g__law_mixed : mg "_law_mixed" = some (.ref f__law_mixed)
  f__law_alike : Addr
  d__law_alike : FuncData
  F__law_alike : FnP K "_law_alike" s__law_alike f__law_alike d__law_alike
  g__law_alike : mg "_law_alike" = some (.ref f__law_alike)
  f__law_points : Addr
  d__law_points : FuncData
  F__law_points : FnP K "_law_points" s__law_points f__law_points d__law_points
  g__law_points : mg "_law_points" = some (.ref f__law_points)
  f__law_kept : Addr
  d__law_kept : FuncData
  F__law_kept : FnP K "_law_kept" s__law_kept f__law_kept d__law_kept
  g__law_kept : mg "_law_kept" = some (.ref f__law_kept)
  f__law_swapped : Addr
  d__law_swapped : FuncData
  F__law_swapped : FnP K "_law_swapped" s__law_swapped f__law_swapped d__law_swapped
  g__law_swapped : mg "_law_swapped" = some (.ref f__law_swapped)
  f__law_right : Addr
  d__law_right : FuncData
  F__law_right : FnP K "_law_right" s__law_right f__law_right d__law_right
  g__law_right : mg "_law_right" = some (.ref f__law_right)
  f_law : Addr
  d_law : FuncData
  F_law : FnP K "law" s_law f_law d_law
  g_law : mg "law" = some (.ref f_law)
  n_abs : mg "abs" = none
  n_int : mg "int" = none
  n_len : mg "len" = none
  n_max : mg "max" = none
  n_range : mg "range" = none
  n_repr : mg "repr" = none
  n_zip : mg "zip" = none
  c_DROP : ∃ t, mg "DROP" = some (.str (S [100]) t)
  c_KEEP : ∃ t, mg "KEEP" = some (.str (S [107]) t)
  c_PUT : ∃ t, mg "PUT" = some (.str (S [112]) t)
  a_TURNED : Addr
  g_TURNED : mg "TURNED" = some (.ref a_TURNED)
  T_TURNED : KTab K w a_TURNED [([107], [107]), ([100], [112]), ([112], [100])]
theorem sc_moved : FnScope N_moved ["point", "step"] (defScope s_moved) := ⟨rfl, rfl, rfl, by decide +kernel, rfl, by decide +kernel, by decide +kernel⟩
theorem b_moved {K : PySem.W.Frag} {f : Addr} {fd : FuncData} (F : FnP K "moved" s_moved f fd) : Binds K fd ["point", "step"] [] := F.bindsN fun _ _ _ _ _ _ us hl => match us, hl with | [_, _], _ => rfl
theorem sc_points : FnScope N_points ["script"] (defScope s_points) := ⟨rfl, rfl, rfl, by decide +kernel, rfl, by decide +kernel, by decide +kernel⟩
theorem b_points {K : PySem.W.Frag} {f : Addr} {fd : FuncData} (F : FnP K "points" s_points f fd) : Binds K fd ["script"] [] := F.bindsN fun _ _ _ _ _ _ us hl => match us, hl with | [_], _ => rfl
theorem sc_kept : FnScope N_kept ["script"] (defScope s_kept) := ⟨rfl, rfl, rfl, by decide +kernel, rfl, by decide +kernel, by decide +kernel⟩
theorem b_kept {K : PySem.W.Frag} {f : Addr} {fd : FuncData} (F : FnP K "kept" s_kept f fd) : Binds K fd ["script"] [] := F.bindsN fun _ _ _ _ _ _ us hl => match us, hl with | [_], _ => rfl
theorem sc_widest : FnScope N_widest ["script"] (defScope s_widest) := ⟨rfl, rfl, rfl, by decide +kernel, rfl, by decide +kernel, by decide +kernel⟩
theorem b_widest {K : PySem.W.Frag} {f : Addr} {fd : FuncData} (F : FnP K "widest" s_widest f fd) : Binds K fd ["script"] [] := F.bindsN fun _ _ _ _ _ _ us hl => match us, hl with | [_], _ => rfl
theorem sc_is_allowed : FnScope N_is_allowed ["script", "promise"] (defScope s_is_allowed) := ⟨rfl, rfl, rfl, by decide +kernel, rfl, by decide +kernel, by decide +kernel⟩
theorem b_is_allowed {K : PySem.W.Frag} {f : Addr} {fd : FuncData} (F : FnP K "is_allowed" s_is_allowed f fd) : Binds K fd ["script", "promise"] [] := F.bindsN fun _ _ _ _ _ _ us hl => match us, hl with | [_, _], _ => rfl
theorem sc_turned : FnScope N_turned ["script"] (defScope s_turned) := ⟨rfl, rfl, rfl, by decide +kernel, rfl, by decide +kernel, by decide +kernel⟩
theorem b_turned {K : PySem.W.Frag} {f : Addr} {fd : FuncData} (F : FnP K "turned" s_turned f fd) : Binds K fd ["script"] [] := F.bindsN fun _ _ _ _ _ _ us hl => match us, hl with | [_], _ => rfl
theorem sc__law_bag : FnScope N__law_bag ["_law_script"] (defScope s__law_bag) := ⟨rfl, rfl, rfl, by decide +kernel, rfl, by decide +kernel, by decide +kernel⟩
theorem b__law_bag {K : PySem.W.Frag} {f : Addr} {fd : FuncData} (F : FnP K "_law_bag" s__law_bag f fd) : Binds K fd ["_law_script"] [] := F.bindsN fun _ _ _ _ _ _ us hl => match us, hl with | [_], _ => rfl
theorem sc__law_take : FnScope N__law_take ["_law_bag_here", "_law_many"] (defScope s__law_take) := ⟨rfl, rfl, rfl, by decide +kernel, rfl, by decide +kernel, by decide +kernel⟩
theorem b__law_take {K : PySem.W.Frag} {f : Addr} {fd : FuncData} (F : FnP K "_law_take" s__law_take f fd) : Binds K fd ["_law_bag_here", "_law_many"] [] := F.bindsN fun _ _ _ _ _ _ us hl => match us, hl with | [_, _], _ => rfl
theorem sc__law_one : FnScope N__law_one ["_law_bag_here", "_law_some"] (defScope s__law_one) := ⟨rfl, rfl, rfl, by decide +kernel, rfl, by decide +kernel, by decide +kernel⟩
theorem b__law_one {K : PySem.W.Frag} {f : Addr} {fd : FuncData} (F : FnP K "_law_one" s__law_one f fd) : Binds K fd ["_law_bag_here", "_law_some"] [] := F.bindsN fun _ _ _ _ _ _ us hl => match us, hl with | [_, _], _ => rfl
theorem sc__law_mixed : FnScope N__law_mixed ["_law_bag_here", "_law_things"] (defScope s__law_mixed) := ⟨rfl, rfl, rfl, by decide +kernel, rfl, by decide +kernel, by decide +kernel⟩
theorem b__law_mixed {K : PySem.W.Frag} {f : Addr} {fd : FuncData} (F : FnP K "_law_mixed" s__law_mixed f fd) : Binds K fd ["_law_bag_here", "_law_things"] [] := F.bindsN fun _ _ _ _ _ _ us hl => match us, hl with | [_, _], _ => rfl
theorem sc__law_alike : FnScope N__law_alike ["_law_found", "_law_due"] (defScope s__law_alike) := ⟨rfl, rfl, rfl, by decide +kernel, rfl, by decide +kernel, by decide +kernel⟩
theorem b__law_alike {K : PySem.W.Frag} {f : Addr} {fd : FuncData} (F : FnP K "_law_alike" s__law_alike f fd) : Binds K fd ["_law_found", "_law_due"] [] := F.bindsN fun _ _ _ _ _ _ us hl => match us, hl with | [_, _], _ => rfl
theorem sc__law_points : FnScope N__law_points ["_law_steps"] (defScope s__law_points) := ⟨rfl, rfl, rfl, by decide +kernel, rfl, by decide +kernel, by decide +kernel⟩
theorem b__law_points {K : PySem.W.Frag} {f : Addr} {fd : FuncData} (F : FnP K "_law_points" s__law_points f fd) : Binds K fd ["_law_steps"] [] := F.bindsN fun _ _ _ _ _ _ us hl => match us, hl with | [_], _ => rfl
theorem sc__law_kept : FnScope N__law_kept ["_law_steps"] (defScope s__law_kept) := ⟨rfl, rfl, rfl, by decide +kernel, rfl, by decide +kernel, by decide +kernel⟩
theorem b__law_kept {K : PySem.W.Frag} {f : Addr} {fd : FuncData} (F : FnP K "_law_kept" s__law_kept f fd) : Binds K fd ["_law_steps"] [] := F.bindsN fun _ _ _ _ _ _ us hl => match us, hl with | [_], _ => rfl
theorem sc__law_swapped : FnScope N__law_swapped ["_law_steps"] (defScope s__law_swapped) := ⟨rfl, rfl, rfl, by decide +kernel, rfl, by decide +kernel, by decide +kernel⟩
theorem b__law_swapped {K : PySem.W.Frag} {f : Addr} {fd : FuncData} (F : FnP K "_law_swapped" s__law_swapped f fd) : Binds K fd ["_law_steps"] [] := F.bindsN fun _ _ _ _ _ _ us hl => match us, hl with | [_], _ => rfl
theorem sc__law_right : FnScope N__law_right ["_law_bag_here", "_law_steps"] (defScope s__law_right) := ⟨rfl, rfl, rfl, by decide +kernel, rfl, by decide +kernel, by decide +kernel⟩
theorem b__law_right {K : PySem.W.Frag} {f : Addr} {fd : FuncData} (F : FnP K "_law_right" s__law_right f fd) : Binds K fd ["_law_bag_here", "_law_steps"] [] := F.bindsN fun _ _ _ _ _ _ us hl => match us, hl with | [_, _], _ => rfl
theorem sc_law : FnScope N_law ["_law_script"] (defScope s_law) := ⟨rfl, rfl, rfl, by decide +kernel, rfl, by decide +kernel, by decide +kernel⟩
theorem b_law {K : PySem.W.Frag} {f : Addr} {fd : FuncData} (F : FnP K "law" s_law f fd) : Binds K fd ["_law_script"] [] := F.bindsN fun _ _ _ _ _ _ us hl => match us, hl with | [_], _ => rfl
section
variable {P : Program} {w : World} {K : PySem.W.Frag} {mg : Str → Option Value} {base : Heap}
theorem der_moved (T : Fs w K mg) {f : Addr} {cdv : Value} {A : Around} {outer : List Env} {s : Shared} {H : Hp} (hr : Room 0 (A.deeper (envOfC "moved" (defScope s_moved) s.heap.objs.size f cdv))) (hG : (A.deeper (envOfC "moved" (defScope s_moved) s.heap.objs.size f cdv)).guards = some []) :
    LSs (cxOf CX0 P w K mg base N_moved "moved" (defScope s_moved) f cdv A outer s H E0).nox (defBody s_moved) (t_moved) :=
    lss_one (ls_ret (le_tup (la_cons (le_op lo_add (le_ix lix (le_var 0) (le_int)) (le_callTy lc_int rfl T.n_int boot_int (la_cons (le_cmp (lo_ne hr.units) (le_var 1) (le_gstr [112] rfl T.c_PUT)) (la_nil)))) (la_cons (le_op lo_add (le_ix lix (le_var 0) (le_int)) (le_callTy lc_int rfl T.n_int boot_int (la_cons (le_cmp (lo_ne hr.units) (le_var 1) (le_gstr [100] rfl T.c_DROP)) (la_nil)))) (la_nil)))))
theorem der_points (T : Fs w K mg) (O_moved : FnG P w K mg base 1 T.f_moved T.d_moved ["point", "step"] sp_moved) {f : Addr} {cdv : Value} {A : Around} {outer : List Env} {s : Shared} {H : Hp} (hr : Room 1 (A.deeper (envOfC "points" (defScope s_points) s.heap.objs.size f cdv))) (hG : (A.deeper (envOfC "points" (defScope s_points) s.heap.objs.size f cdv)).guards = some []) :
    LSs (cxOf CX0 P w K mg base N_points "points" (defScope s_points) f cdv A outer s H E0).nox (defBody s_points) (t_points) :=
    lss_cons (ls_set 1 sc_points.nd (le_lst (la_cons (le_tup (la_cons (le_int) (la_cons (le_int) (la_nil)))) (la_nil)))) <|
    lss_cons (ls_for PassesOwn.never rfl (lit_any (le_var 0)) (lg_name 2 sc_points.nd)
      (lss_one (ls_expr (le_bm PySem.F.plainAttrs_list PySem.F.slot_list_append PySem.F.type_list_append mt_append lm_append (le_var 1) (la_cons (le_call O_moved (hr.mono (by decide)) hG rfl T.g_moved T.F_moved.kp (b_moved T.F_moved) (la_cons (le_ix lix (le_var 1) (le_neg (le_int))) (la_cons (le_var 2) (la_nil)))) (la_nil)))))) <|
    lss_one (ls_ret (le_var 1))
theorem der_kept (T : Fs w K mg) (O_points : FnG P w K mg base 2 T.f_points T.d_points ["script"] sp_points) {f : Addr} {cdv : Value} {A : Around} {outer : List Env} {s : Shared} {H : Hp} (hr : Room 2 (A.deeper (envOfC "kept" (defScope s_kept) s.heap.objs.size f cdv))) (hG : (A.deeper (envOfC "kept" (defScope s_kept) s.heap.objs.size f cdv)).guards = some []) :
    LSs (cxOf CX0 P w K mg base N_kept "kept" (defScope s_kept) f cdv A outer s H E0).nox (defBody s_kept) (t_kept) :=
    lss_one (ls_ret (le_lc [("point", 1), ("step", 2)] rfl sc_kept.nd (lit_zip rfl T.n_zip (la_cons (le_call O_points (hr.mono (by decide)) hG rfl T.g_points T.F_points.kp (b_points T.F_points) (la_cons (le_var 0) (la_nil))) (la_cons (le_var 0) (la_nil)))) (blkOk_by (N := N_kept) (sc := defScope s_kept) (by decide +kernel)) (by decide) (fun _ _ _ _ _ => lg_tup rfl (lgs_cons (lg_name 1 sc_kept.nd) (lgs_cons (lg_name 2 sc_kept.nd) (lgs_nil)))) (fun _ _ _ _ _ => lts_one (lt_cmp (lo_eq hr.units) (le_var 2) (le_gstr [107] rfl T.c_KEEP))) (fun _ _ _ _ _ => le_var 1)))
theorem der_widest (T : Fs w K mg) (O_points : FnG P w K mg base 2 T.f_points T.d_points ["script"] sp_points) {f : Addr} {cdv : Value} {A : Around} {outer : List Env} {s : Shared} {H : Hp} (hr : Room 2 (A.deeper (envOfC "widest" (defScope s_widest) s.heap.objs.size f cdv))) (hG : (A.deeper (envOfC "widest" (defScope s_widest) s.heap.objs.size f cdv)).guards = some []) :
    LSs (cxOf CX0 P w K mg base N_widest "widest" (defScope s_widest) f cdv A outer s H E0).nox (defBody s_widest) (t_widest) :=
    lss_one (ls_ret (le_callB (lc_max rfl) rfl T.n_max boot_max (la_cons (le_lc [("i", 1), ("j", 2)] rfl sc_widest.nd (lit_any (le_call O_points (hr.mono (by decide)) hG rfl T.g_points T.F_points.kp (b_points T.F_points) (la_cons (le_var 0) (la_nil)))) (blkOk_by (N := N_widest) (sc := defScope s_widest) (by decide +kernel)) (by decide) (fun _ _ _ _ _ => lg_tup rfl (lgs_cons (lg_name 1 sc_widest.nd) (lgs_cons (lg_name 2 sc_widest.nd) (lgs_nil)))) (fun _ _ _ _ _ => lts_nil) (fun _ _ _ _ _ => le_callB lc_abs rfl T.n_abs boot_abs (la_cons (le_op lo_sub (le_var 1) (le_var 2)) (la_nil)))) (la_nil))))
theorem der_is_allowed (T : Fs w K mg) (O_widest : FnG P w K mg base 3 T.f_widest T.d_widest ["script"] sp_widest) {f : Addr} {cdv : Value} {A : Around} {outer : List Env} {s : Shared} {H : Hp} (hr : Room 3 (A.deeper (envOfC "is_allowed" (defScope s_is_allowed) s.heap.objs.size f cdv))) (hG : (A.deeper (envOfC "is_allowed" (defScope s_is_allowed) s.heap.objs.size f cdv)).guards = some []) :
    LSs (cxOf CX0 P w K mg base N_is_allowed "is_allowed" (defScope s_is_allowed) f cdv A outer s H E0).nox (defBody s_is_allowed) (t_is_allowed) :=
    lss_one (ls_ret (le_or (le_cmp (lo_ne hr.units) (le_ix lix (le_var 1) (le_int)) (le_str [108, 97, 103])) (le_one (le_cmp lo_le (le_call O_widest (hr.mono (by decide)) hG rfl T.g_widest T.F_widest.kp (b_widest T.F_widest) (la_cons (le_var 0) (la_nil))) (le_ix lix (le_var 1) (le_int))))))
theorem der_turned (T : Fs w K mg) {f : Addr} {cdv : Value} {A : Around} {outer : List Env} {s : Shared} {H : Hp} (hr : Room 0 (A.deeper (envOfC "turned" (defScope s_turned) s.heap.objs.size f cdv))) (hG : (A.deeper (envOfC "turned" (defScope s_turned) s.heap.objs.size f cdv)).guards = some []) :
    LSs (cxOf CX0 P w K mg base N_turned "turned" (defScope s_turned) f cdv A outer s H E0).nox (defBody s_turned) (t_turned T.a_TURNED) :=
    lss_one (ls_ret (le_bm PySem.F.plainAttrs_str PySem.F.slot_str_join PySem.F.type_str_join mt_join lm_join (le_str []) (la_cons (le_lc [("step", 1)] rfl sc_turned.nd (lit_any (le_var 0)) (blkOk_by (N := N_turned) (sc := defScope s_turned) (by decide +kernel)) (by decide) (fun _ _ _ _ _ => lg_name 1 sc_turned.nd) (fun _ _ _ _ _ => lts_nil) (fun _ _ _ _ _ => le_ix (lix_kd T.T_TURNED) (le_gref T.a_TURNED rfl T.g_TURNED) (le_var 1))) (la_nil))))
theorem der__law_bag (T : Fs w K mg) {f : Addr} {cdv : Value} {A : Around} {outer : List Env} {s : Shared} {H : Hp} (hr : Room 0 (A.deeper (envOfC "_law_bag" (defScope s__law_bag) s.heap.objs.size f cdv))) (hG : (A.deeper (envOfC "_law_bag" (defScope s__law_bag) s.heap.objs.size f cdv)).guards = some []) :
    LSs (cxOf CX0 P w K mg base N__law_bag "_law_bag" (defScope s__law_bag) f cdv A outer s H E0).nox (defBody s__law_bag) (t__law_bag) :=
    lss_one (ls_ret (le_lst (la_cons (le_int) (la_cons (le_int) (la_cons (le_int) (la_cons (le_lc [("_law_cell", 1)] rfl sc__law_bag.nd (lit_any (le_slice (le_var 0) (lpo_none) (lpo_some (le_int)))) (blkOk_by (N := N__law_bag) (sc := defScope s__law_bag) (by decide +kernel)) (by decide) (fun _ _ _ _ _ => lg_name 1 sc__law_bag.nd) (fun _ _ _ _ _ => lts_nil) (fun _ _ _ _ _ => le_callB lc_abs rfl T.n_abs boot_abs (la_cons (le_var 1) (la_nil)))) (la_nil)))))))
theorem der__law_take (T : Fs w K mg) {f : Addr} {cdv : Value} {A : Around} {outer : List Env} {s : Shared} {H : Hp} (hr : Room 0 (A.deeper (envOfC "_law_take" (defScope s__law_take) s.heap.objs.size f cdv))) (hG : (A.deeper (envOfC "_law_take" (defScope s__law_take) s.heap.objs.size f cdv)).guards = some []) :
    LSs (cxOf CX0 P w K mg base N__law_take "_law_take" (defScope s__law_take) f cdv A outer s H E0).nox (defBody s__law_take) (t__law_take) :=
    lss_cons (ls_if (lt_cmp (lo_eq hr.units) (le_ix lix (le_var 0) (le_int)) (le_int))
      (lss_cons (ls_set 2 sc__law_take.nd (le_ix lix (le_op lo_add (le_slice (le_ix lix (le_var 0) (le_int)) (lpo_some (le_ix lix (le_var 0) (le_int))) (lpo_none)) (le_lst (la_cons (le_int) (la_nil)))) (le_int))) <|
    lss_cons (ls_augS ip_add (le_var 0) (le_int) (le_int)) <|
    lss_cons (ls_setI (le_op lo_mul (le_var 2) (le_callTy lc_int rfl T.n_int boot_int (la_cons (le_cmp lo_ge (le_var 2) (le_op lo_pow (le_int) (le_int))) (la_nil)))) (le_var 0) (le_int)) <|
    lss_cons (ls_set 3 sc__law_take.nd (le_op lo_add (le_op lo_add (le_op lo_mul (le_ix lix (le_var 0) (le_int)) (le_int)) (le_op lo_mod (le_callTy lc_int rfl T.n_int boot_int (la_cons (le_var 2) (la_nil))) (le_int))) (le_op lo_mul (le_int) (le_ix lix (le_var 0) (le_int))))) <|
    lss_one (ls_setI (le_op lo_mod (le_callTy lc_int rfl T.n_int boot_int (la_cons (le_var 3) (la_nil))) (le_int)) (le_var 0) (le_int)))
      (lss_nil)) <|
    lss_cons (ls_if (lt_cmp lo_gt (le_ix lix (le_var 0) (le_int)) (le_int))
      (lss_cons (ls_set 4 sc__law_take.nd (le_op lo_mod (le_callTy lc_int rfl T.n_int boot_int (la_cons (le_ix lix (le_var 0) (le_int)) (la_nil))) (le_var 1))) <|
    lss_cons (ls_setI (le_op lo_fdiv (le_callTy lc_int rfl T.n_int boot_int (la_cons (le_ix lix (le_var 0) (le_int)) (la_nil))) (le_var 1)) (le_var 0) (le_int)) <|
    lss_one (ls_ret (le_var 4)))
      (lss_nil)) <|
    lss_cons (ls_set 5 sc__law_take.nd (le_op lo_mod (le_callTy lc_int rfl T.n_int boot_int (la_cons (le_op lo_mul (le_op lo_add (le_ix lix (le_var 0) (le_int)) (le_int)) (le_int)) (la_nil))) (le_int))) <|
    lss_cons (ls_set 6 sc__law_take.nd (le_op lo_mod (le_callTy lc_int rfl T.n_int boot_int (la_cons (le_op lo_mul (le_op lo_mod (le_callTy lc_int rfl T.n_int boot_int (la_cons (le_op lo_mul (le_var 5) (le_var 5)) (la_nil))) (le_int)) (le_int)) (la_nil))) (le_int))) <|
    lss_one (ls_ret (le_op lo_mod (le_callTy lc_int rfl T.n_int boot_int (la_cons (le_op lo_fdiv (le_var 6) (le_int)) (la_nil))) (le_var 1)))
theorem der__law_one (T : Fs w K mg) (O__law_take : FnG P w K mg base 1 T.f__law_take T.d__law_take ["_law_bag_here", "_law_many"] sp__law_take) {f : Addr} {cdv : Value} {A : Around} {outer : List Env} {s : Shared} {H : Hp} (hr : Room 1 (A.deeper (envOfC "_law_one" (defScope s__law_one) s.heap.objs.size f cdv))) (hG : (A.deeper (envOfC "_law_one" (defScope s__law_one) s.heap.objs.size f cdv)).guards = some []) :
    LSs (cxOf CX0 P w K mg base N__law_one "_law_one" (defScope s__law_one) f cdv A outer s H E0).nox (defBody s__law_one) (t__law_one) :=
    lss_one (ls_ret (le_ix lix (le_var 1) (le_call O__law_take (hr.mono (by decide)) hG rfl T.g__law_take T.F__law_take.kp (b__law_take T.F__law_take) (la_cons (le_var 0) (la_cons (le_callB lc_len rfl T.n_len boot_len (la_cons (le_var 1) (la_nil))) (la_nil))))))
theorem der__law_mixed (T : Fs w K mg) (O__law_take : FnG P w K mg base 1 T.f__law_take T.d__law_take ["_law_bag_here", "_law_many"] sp__law_take) {f : Addr} {cdv : Value} {A : Around} {outer : List Env} {s : Shared} {H : Hp} (hr : Room 1 (A.deeper (envOfC "_law_mixed" (defScope s__law_mixed) s.heap.objs.size f cdv))) (hG : (A.deeper (envOfC "_law_mixed" (defScope s__law_mixed) s.heap.objs.size f cdv)).guards = some []) :
    LSs (cxOf CX0 P w K mg base N__law_mixed "_law_mixed" (defScope s__law_mixed) f cdv A outer s H E0).nox (defBody s__law_mixed) (t__law_mixed) :=
    lss_cons (ls_set 2 sc__law_mixed.nd (le_lst (la_nil))) <|
    lss_cons (ls_for PassesOwn.never rfl (lit_any (le_var 1)) (lg_name 3 sc__law_mixed.nd)
      (lss_one (ls_expr (le_bm PySem.F.plainAttrs_list PySem.F.slot_list_insert PySem.F.type_list_insert mt_insert lm_insert (le_var 2) (la_cons (le_call O__law_take (hr.mono (by decide)) hG rfl T.g__law_take T.F__law_take.kp (b__law_take T.F__law_take) (la_cons (le_var 0) (la_cons (le_op lo_add (le_callB lc_len rfl T.n_len boot_len (la_cons (le_var 2) (la_nil))) (le_int)) (la_nil)))) (la_cons (le_var 3) (la_nil))))))) <|
    lss_one (ls_ret (le_var 2))
theorem der__law_alike (T : Fs w K mg) {f : Addr} {cdv : Value} {A : Around} {outer : List Env} {s : Shared} {H : Hp} (hr : Room 0 (A.deeper (envOfC "_law_alike" (defScope s__law_alike) s.heap.objs.size f cdv))) (hG : (A.deeper (envOfC "_law_alike" (defScope s__law_alike) s.heap.objs.size f cdv)).guards = some []) :
    LSs (cxOf CX0 P w K mg base N__law_alike "_law_alike" (defScope s__law_alike) f cdv A outer s H E0).nox (defBody s__law_alike) (t__law_alike) :=
    lss_one (ls_ret (le_and (le_cmp (lo_eq hr.units) (le_var 0) (le_var 1)) (le_one (le_cmp (lo_eq hr.units) (le_callB (lc_repr hG hr.units) rfl T.n_repr boot_repr (la_cons (le_var 0) (la_nil))) (le_callB (lc_repr hG hr.units) rfl T.n_repr boot_repr (la_cons (le_var 1) (la_nil)))))))
theorem der__law_points (T : Fs w K mg) {f : Addr} {cdv : Value} {A : Around} {outer : List Env} {s : Shared} {H : Hp} (hr : Room 0 (A.deeper (envOfC "_law_points" (defScope s__law_points) s.heap.objs.size f cdv))) (hG : (A.deeper (envOfC "_law_points" (defScope s__law_points) s.heap.objs.size f cdv)).guards = some []) :
    LSs (cxOf CX0 P w K mg base N__law_points "_law_points" (defScope s__law_points) f cdv A outer s H E0).nox (defBody s__law_points) (t__law_points) :=
    lss_cons (ls_set 1 sc__law_points.nd (le_lst (la_cons (le_tup (la_cons (le_int) (la_cons (le_int) (la_nil)))) (la_nil)))) <|
    lss_cons (ls_for PassesOwn.never rfl (lit_any (le_var 0)) (lg_name 2 sc__law_points.nd)
      (lss_cons (ls_asg (le_ix lix (le_var 1) (le_neg (le_int))) (lg_tup rfl (lgs_cons (lg_name 3 sc__law_points.nd) (lgs_cons (lg_name 4 sc__law_points.nd) (lgs_nil))))) <|
    lss_one (ls_expr (le_bm PySem.F.plainAttrs_list PySem.F.slot_list_append PySem.F.type_list_append mt_append lm_append (le_var 1) (la_cons (le_tup (la_cons (le_op lo_add (le_var 3) (le_callTy lc_int rfl T.n_int boot_int (la_cons (le_cmp (lo_ne hr.units) (le_var 2) (le_str [112])) (la_nil)))) (la_cons (le_op lo_add (le_var 4) (le_callTy lc_int rfl T.n_int boot_int (la_cons (le_cmp (lo_ne hr.units) (le_var 2) (le_str [100])) (la_nil)))) (la_nil)))) (la_nil)))))) <|
    lss_one (ls_ret (le_var 1))
theorem der__law_kept (T : Fs w K mg) (O__law_points : FnG P w K mg base 1 T.f__law_points T.d__law_points ["_law_steps"] sp__law_points) {f : Addr} {cdv : Value} {A : Around} {outer : List Env} {s : Shared} {H : Hp} (hr : Room 1 (A.deeper (envOfC "_law_kept" (defScope s__law_kept) s.heap.objs.size f cdv))) (hG : (A.deeper (envOfC "_law_kept" (defScope s__law_kept) s.heap.objs.size f cdv)).guards = some []) :
    LSs (cxOf CX0 P w K mg base N__law_kept "_law_kept" (defScope s__law_kept) f cdv A outer s H E0).nox (defBody s__law_kept) (t__law_kept) :=
    lss_cons (ls_set 1 sc__law_kept.nd (le_call O__law_points (hr.mono (by decide)) hG rfl T.g__law_points T.F__law_points.kp (b__law_points T.F__law_points) (la_cons (le_var 0) (la_nil)))) <|
    lss_one (ls_ret (le_lc [("_law_at", 2)] rfl sc__law_kept.nd (lit_range1 rfl T.n_range (la_cons (le_callB lc_len rfl T.n_len boot_len (la_cons (le_var 0) (la_nil))) (la_nil))) (blkOk_by (N := N__law_kept) (sc := defScope s__law_kept) (by decide +kernel)) (by decide) (fun _ _ _ _ _ => lg_name 2 sc__law_kept.nd) (fun _ _ _ _ _ => lts_one (lt_cmp (lo_eq hr.units) (le_ix lix (le_var 0) (le_var 2)) (le_str [107]))) (fun _ _ _ _ _ => le_ix lix (le_var 1) (le_var 2))))
theorem der__law_swapped (T : Fs w K mg) {f : Addr} {cdv : Value} {A : Around} {outer : List Env} {s : Shared} {H : Hp} (hr : Room 0 (A.deeper (envOfC "_law_swapped" (defScope s__law_swapped) s.heap.objs.size f cdv))) (hG : (A.deeper (envOfC "_law_swapped" (defScope s__law_swapped) s.heap.objs.size f cdv)).guards = some []) :
    LSs (cxOf CX0 P w K mg base N__law_swapped "_law_swapped" (defScope s__law_swapped) f cdv A outer s H E0).nox (defBody s__law_swapped) (t__law_swapped) :=
    lss_cons (ls_set 1 sc__law_swapped.nd (le_str [])) <|
    lss_cons (ls_for PassesOwn.never rfl (lit_any (le_var 0)) (lg_name 2 sc__law_swapped.nd)
      (lss_one (ls_if (lt_cmp (lo_eq hr.units) (le_var 2) (le_str [100]))
      (lss_one (ls_set 1 sc__law_swapped.nd (le_op lo_add (le_var 1) (le_str [112]))))
      (lss_one (ls_set 1 sc__law_swapped.nd (le_op lo_add (le_var 1) (le_if (lt_cmp (lo_eq hr.units) (le_var 2) (le_str [112])) (le_str [100]) (le_str [107])))))))) <|
    lss_one (ls_ret (le_var 1))
theorem der__law_right (T : Fs w K mg) (O__law_mixed : FnG P w K mg base 2 T.f__law_mixed T.d__law_mixed ["_law_bag_here", "_law_things"] sp__law_mixed) (O_turned : FnG P w K mg base 1 T.f_turned T.d_turned ["script"] sp_turned) (O__law_alike : FnG P w K mg base 1 T.f__law_alike T.d__law_alike ["_law_found", "_law_due"] sp__law_alike) (O__law_points : FnG P w K mg base 1 T.f__law_points T.d__law_points ["_law_steps"] sp__law_points) (O__law_kept : FnG P w K mg base 2 T.f__law_kept T.d__law_kept ["_law_steps"] sp__law_kept) (O_points : FnG P w K mg base 2 T.f_points T.d_points ["script"] sp_points) (O_kept : FnG P w K mg base 3 T.f_kept T.d_kept ["script"] sp_kept) (O_widest : FnG P w K mg base 3 T.f_widest T.d_widest ["script"] sp_widest) (O__law_take : FnG P w K mg base 1 T.f__law_take T.d__law_take ["_law_bag_here", "_law_many"] sp__law_take) (O_is_allowed : FnG P w K mg base 4 T.f_is_allowed T.d_is_allowed ["script", "promise"] sp_is_allowed) (O__law_swapped : FnG P w K mg base 1 T.f__law_swapped T.d__law_swapped ["_law_steps"] sp__law_swapped) {f : Addr} {cdv : Value} {A : Around} {outer : List Env} {s : Shared} {H : Hp} (hr : Room 4 (A.deeper (envOfC "_law_right" (defScope s__law_right) s.heap.objs.size f cdv))) (hG : (A.deeper (envOfC "_law_right" (defScope s__law_right) s.heap.objs.size f cdv)).guards = some []) :
    LSs (cxOf CX0 P w K mg base N__law_right "_law_right" (defScope s__law_right) f cdv A outer s H E0).nox (defBody s__law_right) (t__law_right) :=
    lss_cons (ls_par 2 3 rfl sc__law_right.nd (la_cons (le_call O__law_points (hr.mono (by decide)) hG rfl T.g__law_points T.F__law_points.kp (b__law_points T.F__law_points) (la_cons (le_var 1) (la_nil))) (la_cons (le_call O__law_kept (hr.mono (by decide)) hG rfl T.g__law_kept T.F__law_kept.kp (b__law_kept T.F__law_kept) (la_cons (le_var 1) (la_nil))) (la_nil)))) <|
    lss_cons (ls_for PassesOwn.never rfl (lit_range1 rfl T.n_range (la_cons (le_int) (la_nil))) (lg_name 4 sc__law_right.nd)
      (lss_cons (ls_set 5 sc__law_right.nd (le_lst (la_cons (le_call O_points (hr.mono (by decide)) hG rfl T.g_points T.F_points.kp (b_points T.F_points) (la_cons (le_var 1) (la_nil))) (la_cons (le_call O_kept (hr.mono (by decide)) hG rfl T.g_kept T.F_kept.kp (b_kept T.F_kept) (la_cons (le_var 1) (la_nil))) (la_nil))))) <|
    lss_cons (ls_if (lt_not (lt_truth (le_call O__law_alike (hr.mono (by decide)) hG rfl T.g__law_alike T.F__law_alike.kp (b__law_alike T.F__law_alike) (la_cons (le_var 5) (la_cons (le_lst (la_cons (le_var 2) (la_cons (le_var 3) (la_nil)))) (la_nil))))))
      (lss_one (ls_ret (le_bl)))
      (lss_nil)) <|
    lss_cons (ls_expr (le_bm PySem.F.plainAttrs_list PySem.F.slot_list_append PySem.F.type_list_append mt_append lm_append (le_ix lix (le_var 5) (le_int)) (la_cons (le_tup (la_cons (le_int) (la_cons (le_int) (la_nil)))) (la_nil)))) <|
    lss_one (ls_expr (le_bm PySem.F.plainAttrs_list PySem.F.slot_list_insert PySem.F.type_list_insert mt_insert lm_insert (le_ix lix (le_var 5) (le_int)) (la_cons (le_int) (la_cons (le_tup (la_cons (le_int) (la_cons (le_int) (la_nil)))) (la_nil))))))) <|
    lss_cons (ls_set 6 sc__law_right.nd (le_callB (lc_max rfl) rfl T.n_max boot_max (la_cons (le_lc [("_law_i", 10), ("_law_j", 11)] rfl sc__law_right.nd (lit_any (le_var 2)) (blkOk_by (N := N__law_right) (sc := defScope s__law_right) (by decide +kernel)) (by decide) (fun _ _ _ _ _ => lg_tup rfl (lgs_cons (lg_name 10 sc__law_right.nd) (lgs_cons (lg_name 11 sc__law_right.nd) (lgs_nil)))) (fun _ _ _ _ _ => lts_nil) (fun _ _ _ _ _ => le_callB lc_abs rfl T.n_abs boot_abs (la_cons (le_op lo_sub (le_var 10) (le_var 11)) (la_nil)))) (la_nil)))) <|
    lss_cons (ls_if (lt_not (lt_truth (le_call O__law_alike (hr.mono (by decide)) hG rfl T.g__law_alike T.F__law_alike.kp (b__law_alike T.F__law_alike) (la_cons (le_call O_widest (hr.mono (by decide)) hG rfl T.g_widest T.F_widest.kp (b_widest T.F_widest) (la_cons (le_var 1) (la_nil))) (la_cons (le_var 6) (la_nil))))))
      (lss_one (ls_ret (le_bl)))
      (lss_nil)) <|
    lss_cons (ls_set 7 sc__law_right.nd (le_op lo_add (le_lst (la_cons (le_tup (la_cons (le_str [110, 111, 110, 101]) (la_nil))) (la_cons (le_tup (la_cons (le_str [116, 111, 116, 97, 108]) (la_cons (le_int) (la_nil)))) (la_cons (le_tup (la_cons (le_str [116, 111, 116, 97, 108]) (la_cons (le_call O__law_take (hr.mono (by decide)) hG rfl T.g__law_take T.F__law_take.kp (b__law_take T.F__law_take) (la_cons (le_var 0) (la_cons (le_int) (la_nil)))) (la_nil)))) (la_nil))))) (le_lc [("_law_g", 12)] rfl sc__law_right.nd (lit_any (le_tup (la_cons (le_int) (la_cons (le_int) (la_cons (le_int) (la_cons (le_int) (la_nil))))))) (blkOk_by (N := N__law_right) (sc := defScope s__law_right) (by decide +kernel)) (by decide) (fun _ _ _ _ _ => lg_name 12 sc__law_right.nd) (fun _ _ _ _ _ => lts_nil) (fun _ _ _ _ _ => le_tup (la_cons (le_str [108, 97, 103]) (la_cons (le_var 12) (la_nil))))))) <|
    lss_cons (ls_for PassesOwn.never rfl (lit_any (le_call O__law_mixed (hr.mono (by decide)) hG rfl T.g__law_mixed T.F__law_mixed.kp (b__law_mixed T.F__law_mixed) (la_cons (le_var 0) (la_cons (le_var 7) (la_nil))))) (lg_name 8 sc__law_right.nd)
      (lss_one (ls_if (lt_not (lt_truth (le_call O__law_alike (hr.mono (by decide)) hG rfl T.g__law_alike T.F__law_alike.kp (b__law_alike T.F__law_alike) (la_cons (le_call O_is_allowed (hr.mono (by decide)) hG rfl T.g_is_allowed T.F_is_allowed.kp (b_is_allowed T.F_is_allowed) (la_cons (le_var 1) (la_cons (le_var 8) (la_nil)))) (la_cons (le_or (le_cmp (lo_ne hr.units) (le_ix lix (le_var 8) (le_int)) (le_str [108, 97, 103])) (le_one (le_cmp lo_le (le_var 6) (le_ix lix (le_var 8) (le_int))))) (la_nil))))))
      (lss_one (ls_ret (le_bl)))
      (lss_nil)))) <|
    lss_cons (ls_set 9 sc__law_right.nd (le_call O_turned (hr.mono (by decide)) hG rfl T.g_turned T.F_turned.kp (b_turned T.F_turned) (la_cons (le_var 1) (la_nil)))) <|
    lss_cons (ls_if (lt_not (lt_truth (le_call O__law_alike (hr.mono (by decide)) hG rfl T.g__law_alike T.F__law_alike.kp (b__law_alike T.F__law_alike) (la_cons (le_lst (la_cons (le_var 9) (la_cons (le_call O_turned (hr.mono (by decide)) hG rfl T.g_turned T.F_turned.kp (b_turned T.F_turned) (la_cons (le_var 9) (la_nil))) (la_cons (le_call O_widest (hr.mono (by decide)) hG rfl T.g_widest T.F_widest.kp (b_widest T.F_widest) (la_cons (le_var 9) (la_nil))) (la_nil))))) (la_cons (le_lst (la_cons (le_call O__law_swapped (hr.mono (by decide)) hG rfl T.g__law_swapped T.F__law_swapped.kp (b__law_swapped T.F__law_swapped) (la_cons (le_var 1) (la_nil))) (la_cons (le_var 1) (la_cons (le_var 6) (la_nil))))) (la_nil))))))
      (lss_one (ls_ret (le_bl)))
      (lss_nil)) <|
    lss_one (ls_ret (le_call O__law_alike (hr.mono (by decide)) hG rfl T.g__law_alike T.F__law_alike.kp (b__law_alike T.F__law_alike) (la_cons (le_lst (la_cons (le_call O_points (hr.mono (by decide)) hG rfl T.g_points T.F_points.kp (b_points T.F_points) (la_cons (le_var 9) (la_nil))) (la_cons (le_call O_kept (hr.mono (by decide)) hG rfl T.g_kept T.F_kept.kp (b_kept T.F_kept) (la_cons (le_var 9) (la_nil))) (la_nil)))) (la_cons (le_lst (la_cons (le_lc [("_law_i", 10), ("_law_j", 11)] rfl sc__law_right.nd (lit_any (le_var 2)) (blkOk_by (N := N__law_right) (sc := defScope s__law_right) (by decide +kernel)) (by decide) (fun _ _ _ _ _ => lg_tup rfl (lgs_cons (lg_name 10 sc__law_right.nd) (lgs_cons (lg_name 11 sc__law_right.nd) (lgs_nil)))) (fun _ _ _ _ _ => lts_nil) (fun _ _ _ _ _ => le_tup (la_cons (le_var 11) (la_cons (le_var 10) (la_nil))))) (la_cons (le_lc [("_law_i", 10), ("_law_j", 11)] rfl sc__law_right.nd (lit_any (le_var 3)) (blkOk_by (N := N__law_right) (sc := defScope s__law_right) (by decide +kernel)) (by decide) (fun _ _ _ _ _ => lg_tup rfl (lgs_cons (lg_name 10 sc__law_right.nd) (lgs_cons (lg_name 11 sc__law_right.nd) (lgs_nil)))) (fun _ _ _ _ _ => lts_nil) (fun _ _ _ _ _ => le_tup (la_cons (le_var 11) (la_cons (le_var 10) (la_nil))))) (la_nil)))) (la_nil)))))
theorem der_law (T : Fs w K mg) (O__law_bag : FnG P w K mg base 1 T.f__law_bag T.d__law_bag ["_law_script"] sp__law_bag) (O__law_one : FnG P w K mg base 2 T.f__law_one T.d__law_one ["_law_bag_here", "_law_some"] sp__law_one) (O__law_right : FnG P w K mg base 5 T.f__law_right T.d__law_right ["_law_bag_here", "_law_steps"] sp__law_right) {f : Addr} {cdv : Value} {A : Around} {outer : List Env} {s : Shared} {H : Hp} (hr : Room 5 (A.deeper (envOfC "law" (defScope s_law) s.heap.objs.size f cdv))) (hG : (A.deeper (envOfC "law" (defScope s_law) s.heap.objs.size f cdv)).guards = some []) :
    LSs (cxOf CX0 P w K mg base N_law "law" (defScope s_law) f cdv A outer s H E0).nox (defBody s_law) (t_law) :=
    lss_cons (ls_set 1 sc_law.nd (le_call O__law_bag (hr.mono (by decide)) hG rfl T.g__law_bag T.F__law_bag.kp (b__law_bag T.F__law_bag) (la_cons (le_var 0) (la_nil)))) <|
    lss_cons (ls_for PassesOwn.never rfl (lit_range1 rfl T.n_range (la_cons (le_int) (la_nil))) (lg_name 2 sc_law.nd)
      (lss_cons (ls_set 3 sc_law.nd (le_call O__law_one (hr.mono (by decide)) hG rfl T.g__law_one T.F__law_one.kp (b__law_one T.F__law_one) (la_cons (le_var 1) (la_cons (le_lst (la_cons (le_lst (la_cons (le_str [107]) (la_cons (le_str [100]) (la_cons (le_str [112]) (la_nil))))) (la_cons (le_lst (la_cons (le_str [100]) (la_cons (le_str [112]) (la_nil)))) (la_cons (le_lst (la_cons (le_str [107]) (la_cons (le_str [107]) (la_cons (le_str [100]) (la_cons (le_str [112]) (la_nil)))))) (la_cons (le_lst (la_cons (le_str [107]) (la_cons (le_str [100]) (la_nil)))) (la_cons (le_lst (la_cons (le_str [112]) (la_cons (le_str [107]) (la_nil)))) (la_cons (le_lst (la_cons (le_str [100]) (la_nil))) (la_nil)))))))) (la_nil))))) <|
    lss_cons (ls_set 4 sc_law.nd (le_bm PySem.F.plainAttrs_str PySem.F.slot_str_join PySem.F.type_str_join mt_join lm_join (le_str []) (la_cons (le_lc [("_law_k", 5)] rfl sc_law.nd (lit_range1 rfl T.n_range (la_cons (le_call O__law_one (hr.mono (by decide)) hG rfl T.g__law_one T.F__law_one.kp (b__law_one T.F__law_one) (la_cons (le_var 1) (la_cons (le_lst (la_cons (le_int) (la_cons (le_int) (la_cons (le_int) (la_cons (le_int) (la_cons (le_int) (la_cons (le_int) (la_nil)))))))) (la_nil)))) (la_nil))) (blkOk_by (N := N_law) (sc := defScope s_law) (by decide +kernel)) (by decide) (fun _ _ _ _ _ => lg_name 5 sc_law.nd) (fun _ _ _ _ _ => lts_nil) (fun _ _ _ _ _ => le_call O__law_one (hr.mono (by decide)) hG rfl T.g__law_one T.F__law_one.kp (b__law_one T.F__law_one) (la_cons (le_var 1) (la_cons (le_var 3) (la_nil))))) (la_nil)))) <|
    lss_cons (ls_if (lt_not (lt_truth (le_call O__law_right (hr.mono (by decide)) hG rfl T.g__law_right T.F__law_right.kp (b__law_right T.F__law_right) (la_cons (le_var 1) (la_cons (le_var 4) (la_nil))))))
      (lss_one (ls_ret (le_bl)))
      (lss_nil)) <|
    lss_one (ls_if (LWe.lt (lw_and (lt_cmp (lo_eq hr.units) (le_var 2) (le_int)) (lw_and1 (lt_not (lt_truth (le_call O__law_right (hr.mono (by decide)) hG rfl T.g__law_right T.F__law_right.kp (b__law_right T.F__law_right) (la_cons (le_var 1) (la_cons (le_slice (le_op lo_add (le_op lo_mul (le_var 4) (le_int)) (le_op lo_mul (le_str [107, 100, 112]) (le_int))) (lpo_none) (lpo_some (le_int))) (la_nil)))))))))
      (lss_one (ls_ret (le_bl)))
      (lss_nil)))) <|
    lss_one (ls_ret (le_bl))
end
end Y

namespace Y
open PySem PySem.Spec PyProof.Rows L2
section
variable {P : Program} {w : World} {K : PySem.W.Frag} {mg : Str → Option Value} {base : Heap}
theorem ok_moved (T : Fs w K mg) : FnG P w K mg base 1 T.f_moved T.d_moved ["point", "step"] sp_moved :=
  fnG_of T.F_moved sc_moved len_moved fun cdv A outer s H hr hG => ⟨_, der_moved T hr hG, pure_moved⟩
theorem ok_points (T : Fs w K mg) : FnG P w K mg base 2 T.f_points T.d_points ["script"] sp_points :=
  fnG_of T.F_points sc_points len_points fun cdv A outer s H hr hG => ⟨_, der_points T (ok_moved T) hr hG, pure_points⟩
theorem ok_kept (T : Fs w K mg) : FnG P w K mg base 3 T.f_kept T.d_kept ["script"] sp_kept :=
  fnG_of T.F_kept sc_kept len_kept fun cdv A outer s H hr hG => ⟨_, der_kept T (ok_points T) hr hG, pure_kept⟩
theorem ok_widest (T : Fs w K mg) : FnG P w K mg base 3 T.f_widest T.d_widest ["script"] sp_widest :=
  fnG_of T.F_widest sc_widest len_widest fun cdv A outer s H hr hG => ⟨_, der_widest T (ok_points T) hr hG, pure_widest⟩
theorem ok_is_allowed (T : Fs w K mg) : FnG P w K mg base 4 T.f_is_allowed T.d_is_allowed ["script", "promise"] sp_is_allowed :=
  fnG_of T.F_is_allowed sc_is_allowed len_is_allowed fun cdv A outer s H hr hG => ⟨_, der_is_allowed T (ok_widest T) hr hG, pure_is_allowed⟩
theorem ok_turned (T : Fs w K mg) : FnG P w K mg base 1 T.f_turned T.d_turned ["script"] sp_turned :=
  fnG_of T.F_turned sc_turned len_turned fun cdv A outer s H hr hG => ⟨_, der_turned T hr hG, pure_turned T.a_TURNED⟩
theorem ok__law_bag (T : Fs w K mg) : FnG P w K mg base 1 T.f__law_bag T.d__law_bag ["_law_script"] sp__law_bag :=
  fnG_of T.F__law_bag sc__law_bag len__law_bag fun cdv A outer s H hr hG => ⟨_, der__law_bag T hr hG, pure__law_bag⟩
theorem ok__law_take (T : Fs w K mg) : FnG P w K mg base 1 T.f__law_take T.d__law_take ["_law_bag_here", "_law_many"] sp__law_take :=
  fnG_of T.F__law_take sc__law_take len__law_take fun cdv A outer s H hr hG => ⟨_, der__law_take T hr hG, pure__law_take⟩
theorem ok__law_one (T : Fs w K mg) : FnG P w K mg base 2 T.f__law_one T.d__law_one ["_law_bag_here", "_law_some"] sp__law_one :=
  fnG_of T.F__law_one sc__law_one len__law_one fun cdv A outer s H hr hG => ⟨_, der__law_one T (ok__law_take T) hr hG, pure__law_one⟩
theorem ok__law_mixed (T : Fs w K mg) : FnG P w K mg base 2 T.f__law_mixed T.d__law_mixed ["_law_bag_here", "_law_things"] sp__law_mixed :=
  fnG_of T.F__law_mixed sc__law_mixed len__law_mixed fun cdv A outer s H hr hG => ⟨_, der__law_mixed T (ok__law_take T) hr hG, pure__law_mixed⟩
theorem ok__law_alike (T : Fs w K mg) : FnG P w K mg base 1 T.f__law_alike T.d__law_alike ["_law_found", "_law_due"] sp__law_alike :=
  fnG_of T.F__law_alike sc__law_alike len__law_alike fun cdv A outer s H hr hG => ⟨_, der__law_alike T hr hG, pure__law_alike⟩
theorem ok__law_points (T : Fs w K mg) : FnG P w K mg base 1 T.f__law_points T.d__law_points ["_law_steps"] sp__law_points :=
  fnG_of T.F__law_points sc__law_points len__law_points fun cdv A outer s H hr hG => ⟨_, der__law_points T hr hG, pure__law_points⟩
theorem ok__law_kept (T : Fs w K mg) : FnG P w K mg base 2 T.f__law_kept T.d__law_kept ["_law_steps"] sp__law_kept :=
  fnG_of T.F__law_kept sc__law_kept len__law_kept fun cdv A outer s H hr hG => ⟨_, der__law_kept T (ok__law_points T) hr hG, pure__law_kept⟩
theorem ok__law_swapped (T : Fs w K mg) : FnG P w K mg base 1 T.f__law_swapped T.d__law_swapped ["_law_steps"] sp__law_swapped :=
  fnG_of T.F__law_swapped sc__law_swapped len__law_swapped fun cdv A outer s H hr hG => ⟨_, der__law_swapped T hr hG, pure__law_swapped⟩
theorem ok__law_right (T : Fs w K mg) : FnG P w K mg base 5 T.f__law_right T.d__law_right ["_law_bag_here", "_law_steps"] sp__law_right :=
  fnG_of T.F__law_right sc__law_right len__law_right fun cdv A outer s H hr hG => ⟨_, der__law_right T (ok__law_mixed T) (ok_turned T) (ok__law_alike T) (ok__law_points T) (ok__law_kept T) (ok_points T) (ok_kept T) (ok_widest T) (ok__law_take T) (ok_is_allowed T) (ok__law_swapped T) hr hG, pure__law_right⟩
theorem ok_law (T : Fs w K mg) : FnG P w K mg base 6 T.f_law T.d_law ["_law_script"] (spTop 63) :=
  fnG_of T.F_law sc_law (fun evs h Q ⟨ns, e, _⟩ => by rw [e]; rfl) fun cdv A outer s H hr hG => ⟨_, der_law T (ok__law_bag T) (ok__law_one T) (ok__law_right T) hr hG, pure_law⟩
end
def dD_moved : He.DefD := ⟨("moved", none), "moved", "moved", defArgs s_moved, defBody s_moved, defScope s_moved, [], []⟩
def dD_points : He.DefD := ⟨("points", none), "points", "points", defArgs s_points, defBody s_points, defScope s_points, [], []⟩
def dD_kept : He.DefD := ⟨("kept", none), "kept", "kept", defArgs s_kept, defBody s_kept, defScope s_kept, [], []⟩
def dD_widest : He.DefD := ⟨("widest", none), "widest", "widest", defArgs s_widest, defBody s_widest, defScope s_widest, [], []⟩
def dD_is_allowed : He.DefD := ⟨("is_allowed", none), "is_allowed", "is_allowed", defArgs s_is_allowed, defBody s_is_allowed, defScope s_is_allowed, [], []⟩
def dD_turned : He.DefD := ⟨("turned", none), "turned", "turned", defArgs s_turned, defBody s_turned, defScope s_turned, [], []⟩
def dD__law_bag : He.DefD := ⟨("_law_bag", none), "_law_bag", "_law_bag", defArgs s__law_bag, defBody s__law_bag, defScope s__law_bag, [], []⟩
def dD__law_take : He.DefD := ⟨("_law_take", none), "_law_take", "_law_take", defArgs s__law_take, defBody s__law_take, defScope s__law_take, [], []⟩
def dD__law_one : He.DefD := ⟨("_law_one", none), "_law_one", "_law_one", defArgs s__law_one, defBody s__law_one, defScope s__law_one, [], []⟩
def dD__law_mixed : He.DefD := ⟨("_law_mixed", none), "_law_mixed", "_law_mixed", defArgs s__law_mixed, defBody s__law_mixed, defScope s__law_mixed, [], []⟩
def dD__law_alike : He.DefD := ⟨("_law_alike", none), "_law_alike", "_law_alike", defArgs s__law_alike, defBody s__law_alike, defScope s__law_alike, [], []⟩
def dD__law_points : He.DefD := ⟨("_law_points", none), "_law_points", "_law_points", defArgs s__law_points, defBody s__law_points, defScope s__law_points, [], []⟩
def dD__law_kept : He.DefD := ⟨("_law_kept", none), "_law_kept", "_law_kept", defArgs s__law_kept, defBody s__law_kept, defScope s__law_kept, [], []⟩
def dD__law_swapped : He.DefD := ⟨("_law_swapped", none), "_law_swapped", "_law_swapped", defArgs s__law_swapped, defBody s__law_swapped, defScope s__law_swapped, [], []⟩
def dD__law_right : He.DefD := ⟨("_law_right", none), "_law_right", "_law_right", defArgs s__law_right, defBody s__law_right, defScope s__law_right, [], []⟩
def dD_law : He.DefD := ⟨("law", none), "law", "law", defArgs s_law, defBody s_law, defScope s_law, [], []⟩
def fn : List He.DefD := [dD_moved, dD_points, dD_kept, dD_widest, dD_is_allowed, dD_turned, dD__law_bag, dD__law_take, dD__law_one, dD__law_mixed, dD__law_alike, dD__law_points, dD__law_kept, dD__law_swapped, dD__law_right, dD_law]
def fa : List He.Fa := [.glo "moved", .glo "points", .glo "kept", .glo "widest", .glo "is_allowed", .glo "turned", .glo "_law_bag", .glo "_law_take", .glo "_law_one", .glo "_law_mixed", .glo "_law_alike", .glo "_law_points", .glo "_law_kept", .glo "_law_swapped", .glo "_law_right", .glo "law", .free "abs", .free "int", .free "len", .free "max", .free "range", .free "repr", .free "zip", .str "DROP" "d", .str "KEEP" "k", .str "PUT" "p", .glo "TURNED"]
def ts : List He.Tab := [((fun K => He.ga K "TURNED"), ["k", "d", "p"])]
def exB : PySem.W.Frag → Bool := fun K => He.valsB K (He.ga K "TURNED") [("k", He.Dv.str "k"), ("d", He.Dv.str "p"), ("p", He.Dv.str "d")]
abbrev R : PySem.W.OpenRow := PySem.W.OpenLaw.row PySem.Challenge.rw_saidearly_k16_points_kept_widest_turned
abbrev hk : PySem.W.Hook := He.hookX 4 fa fn ts [] exB
theorem tab_TURNED {w : World} {K : PySem.W.Frag} {h : Heap} (c : He.SaysX fa fn ts [] exB w h K) : KTab K w (He.ga K "TURNED") [([107], [107]), ([100], [112]), ([112], [100])] := by
  intro p hp
  obtain ⟨es, n, hl, hk, _⟩ := c.t.tab 0 rfl
  have hv : He.valsB K (He.ga K "TURNED") [("k", He.Dv.str "k"), ("d", He.Dv.str "p"), ("p", He.Dv.str "d")] = true := c.more
  simp only [List.mem_cons, List.not_mem_nil, or_false] at hp
  rcases hp with rfl | rfl | rfl
  · obtain ⟨u, hu, ru⟩ := He.valsB_ok hv (q := ("k", He.Dv.str "k")) (by simp)
    have e1 : ("k" : Str) = S [107] := by decide +kernel
    have e2 : ("k" : Str) = S [107] := by decide +kernel
    refine ⟨es, n, u, hl, hk, ?_, ?_⟩
    · rw [← e1]; exact hu
    · rw [← e2]; exact ru
  · obtain ⟨u, hu, ru⟩ := He.valsB_ok hv (q := ("d", He.Dv.str "p")) (by simp)
    have e1 : ("d" : Str) = S [100] := by decide +kernel
    have e2 : ("p" : Str) = S [112] := by decide +kernel
    refine ⟨es, n, u, hl, hk, ?_, ?_⟩
    · rw [← e1]; exact hu
    · rw [← e2]; exact ru
  · obtain ⟨u, hu, ru⟩ := He.valsB_ok hv (q := ("p", He.Dv.str "d")) (by simp)
    have e1 : ("p" : Str) = S [112] := by decide +kernel
    have e2 : ("d" : Str) = S [100] := by decide +kernel
    refine ⟨es, n, u, hl, hk, ?_, ?_⟩
    · rw [← e1]; exact hu
    · rw [← e2]; exact ru
section
variable {P : Program} {w : World} {K : PySem.W.Frag} {h : Heap} {mg : Str → Option Value}
theorem fs_of (X : K.In h) (G : h.Ns mainGlobals mg) (c : He.SaysX fa fn ts [] exB w h K) : ∃ T : Fs w K mg, T.f_law = He.ga K "law" := by
  have cd := c.t.d
  obtain ⟨dd_moved, F_moved⟩ := cd.def_ 0 (d := dD_moved) rfl
  obtain ⟨dd_points, F_points⟩ := cd.def_ 1 (d := dD_points) rfl
  obtain ⟨dd_kept, F_kept⟩ := cd.def_ 2 (d := dD_kept) rfl
  obtain ⟨dd_widest, F_widest⟩ := cd.def_ 3 (d := dD_widest) rfl
  obtain ⟨dd_is_allowed, F_is_allowed⟩ := cd.def_ 4 (d := dD_is_allowed) rfl
  obtain ⟨dd_turned, F_turned⟩ := cd.def_ 5 (d := dD_turned) rfl
  obtain ⟨dd__law_bag, F__law_bag⟩ := cd.def_ 6 (d := dD__law_bag) rfl
  obtain ⟨dd__law_take, F__law_take⟩ := cd.def_ 7 (d := dD__law_take) rfl
  obtain ⟨dd__law_one, F__law_one⟩ := cd.def_ 8 (d := dD__law_one) rfl
  obtain ⟨dd__law_mixed, F__law_mixed⟩ := cd.def_ 9 (d := dD__law_mixed) rfl
  obtain ⟨dd__law_alike, F__law_alike⟩ := cd.def_ 10 (d := dD__law_alike) rfl
  obtain ⟨dd__law_points, F__law_points⟩ := cd.def_ 11 (d := dD__law_points) rfl
  obtain ⟨dd__law_kept, F__law_kept⟩ := cd.def_ 12 (d := dD__law_kept) rfl
  obtain ⟨dd__law_swapped, F__law_swapped⟩ := cd.def_ 13 (d := dD__law_swapped) rfl
  obtain ⟨dd__law_right, F__law_right⟩ := cd.def_ 14 (d := dD__law_right) rfl
  obtain ⟨dd_law, F_law⟩ := cd.def_ 15 (d := dD_law) rfl
  have c_DROP : ∃ t, mg "DROP" = some (.str (S [100]) t) := by
    have q := He.str_ok X G (cd.fact 23 (f := .str "DROP" "d") rfl)
    have e : ("d" : Str) = S [100] := by decide +kernel
    rw [e] at q
    exact q
  have c_KEEP : ∃ t, mg "KEEP" = some (.str (S [107]) t) := by
    have q := He.str_ok X G (cd.fact 24 (f := .str "KEEP" "k") rfl)
    have e : ("k" : Str) = S [107] := by decide +kernel
    rw [e] at q
    exact q
  have c_PUT : ∃ t, mg "PUT" = some (.str (S [112]) t) := by
    have q := He.str_ok X G (cd.fact 25 (f := .str "PUT" "p") rfl)
    have e : ("p" : Str) = S [112] := by decide +kernel
    rw [e] at q
    exact q
  exact ⟨⟨He.ga K "moved", dd_moved, F_moved, He.glo_ok X G (cd.fact 0 (f := .glo "moved") rfl), He.ga K "points", dd_points, F_points, He.glo_ok X G (cd.fact 1 (f := .glo "points") rfl), He.ga K "kept", dd_kept, F_kept, He.glo_ok X G (cd.fact 2 (f := .glo "kept") rfl), He.ga K "widest", dd_widest, F_widest, He.glo_ok X G (cd.fact 3 (f := .glo "widest") rfl), He.ga K "is_allowed", dd_is_allowed, F_is_allowed, He.glo_ok X G (cd.fact 4 (f := .glo "is_allowed") rfl), He.ga K "turned", dd_turned, F_turned, He.glo_ok X G (cd.fact 5 (f := .glo "turned") rfl), He.ga K "_law_bag", dd__law_bag, F__law_bag, He.glo_ok X G (cd.fact 6 (f := .glo "_law_bag") rfl), He.ga K "_law_take", dd__law_take, F__law_take, He.glo_ok X G (cd.fact 7 (f := .glo "_law_take") rfl), He.ga K "_law_one", dd__law_one, F__law_one, He.glo_ok X G (cd.fact 8 (f := .glo "_law_one") rfl), He.ga K "_law_mixed", dd__law_mixed, F__law_mixed, He.glo_ok X G (cd.fact 9 (f := .glo "_law_mixed") rfl), He.ga K "_law_alike", dd__law_alike, F__law_alike, He.glo_ok X G (cd.fact 10 (f := .glo "_law_alike") rfl), He.ga K "_law_points", dd__law_points, F__law_points, He.glo_ok X G (cd.fact 11 (f := .glo "_law_points") rfl), He.ga K "_law_kept", dd__law_kept, F__law_kept, He.glo_ok X G (cd.fact 12 (f := .glo "_law_kept") rfl), He.ga K "_law_swapped", dd__law_swapped, F__law_swapped, He.glo_ok X G (cd.fact 13 (f := .glo "_law_swapped") rfl), He.ga K "_law_right", dd__law_right, F__law_right, He.glo_ok X G (cd.fact 14 (f := .glo "_law_right") rfl), He.ga K "law", dd_law, F_law, He.glo_ok X G (cd.fact 15 (f := .glo "law") rfl), He.free_ok X G (cd.fact 16 (f := .free "abs") rfl), He.free_ok X G (cd.fact 17 (f := .free "int") rfl), He.free_ok X G (cd.fact 18 (f := .free "len") rfl), He.free_ok X G (cd.fact 19 (f := .free "max") rfl), He.free_ok X G (cd.fact 20 (f := .free "range") rfl), He.free_ok X G (cd.fact 21 (f := .free "repr") rfl), He.free_ok X G (cd.fact 22 (f := .free "zip") rfl), c_DROP, c_KEEP, c_PUT, He.ga K "TURNED", He.glo_ok X G (cd.fact 26 (f := .glo "TURNED") rfl), tab_TURNED c⟩, rfl⟩
end
end Y
open PySem PySem.W PySem.Calls PyProof.Rows
theorem PySem.Challenge.cw_saidearly_k16_points_kept_widest_turned_holds : PySem.Challenge.rw_saidearly_k16_points_kept_widest_turned.Holds := by
  w_on; o_law
  o_head (Y.hk)
  case hw => w_witness2
  case hc =>
    refine Y.walkG (l := PySem.Challenge.rw_saidearly_k16_points_kept_widest_turned) (n := 63) (k := 6) (x := "_law_script") rfl (by decide) (by kernel_rfl) ⟨rfl, by decide, by decide⟩ ?F
    intro w mg fa h Y G hmg0
    obtain ⟨K, KX, c⟩ := Y
    have hmg : mg ("law" : PySem.Str) = some (.ref fa) := by
      have e : (HandSHeadRun.topDef (OpenLaw.row PySem.Challenge.rw_saidearly_k16_points_kept_widest_turned).prog 21).name = ("law" : PySem.Str) := by kernel_rfl
      rw [← e]
      exact hmg0
    obtain ⟨T, eT⟩ := Y.fs_of KX G c
    have e := T.g_law.symm.trans hmg
    have e2 : T.f_law = fa := by injection e with e; injection e
    subst e2
    have b := L2.FunD.bindsA (ps := ["_law_script"]) T.F_law fun _ _ _ _ _ _ us hl => match us, hl with | [_], _ => rfl
    exact ⟨K, T.d_law, KX, fun s u => b s [u] rfl, fun base _ _ => Y.ok_law T⟩

