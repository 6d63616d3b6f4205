import PyProof.Rows.All
import Wide.All
import OpenK.AllK
import Wide.FinOn
import HandS.ForMost
import HandS.ForExc
import HandS.Wide
import HandS.Style
import HandS.FStr
import HandS.RevRange
import HandS.IsInst
import HandS.RaiseMore
import KE.KExcIs
import HandS.EndBits
import HandS.Words
import HandS.ClsMeth
import HandS.ExcField
import HandS.HeadWalk
import HandS.ExcInit
import HandS.ExcOwn
import HandS.TryOnly
import KE.KTryMore
import PyProof.SumWalkG
import HandS.ExcIs
import PyProof.ReprLen
import PySem.Challenge.RW_knotbook_k06_numbers_tied
set_option Elab.async false
set_option maxRecDepth 100000
set_option linter.unusedVariables false
set_option linter.unusedSimpArgs false
/-! The data of the evaluator: closed values, values that may name a cell of the store, the store's objects; what they stand for. -/
namespace KB
open PySem L2

/-- closed data: nothing in it is ever changed -/
inductive D where
  | non | bl (b : Bool) | int (i : Int) | str (x : Str)
  | tup (xs : List D) | lst (xs : List D)
  | dct (ks : List Key) (xs : List D)
  | obj (c : Nat) (fs : List Nat) (xs : List D)
  | exc (c : Nat) (fs : List Nat) (xs : List D)
  | scr (ns : List Int)
instance : Inhabited D := ⟨.non⟩

mutual
def D.beq : D → D → Bool
  | .non, .non => true
  | .bl a, .bl b => a == b
  | .int a, .int b => decide (a = b)
  | .str a, .str b => decide (a = b)
  | .tup xs, .tup ys => D.beqs xs ys
  | .lst xs, .lst ys => D.beqs xs ys
  | .dct ks xs, .dct js ys => decide (ks = js) && D.beqs xs ys
  | .obj c fs xs, .obj d gs ys => decide (c = d) && (decide (fs = gs) && D.beqs xs ys)
  | .exc c fs xs, .exc d gs ys => decide (c = d) && (decide (fs = gs) && D.beqs xs ys)
  | .scr a, .scr b => decide (a = b)
  | _, _ => false
def D.beqs : List D → List D → Bool
  | [], [] => true
  | x :: xs, y :: ys => D.beq x y && D.beqs xs ys
  | _, _ => false
end

mutual
theorem D.beq_eq : ∀ (a b : D), D.beq a b = true → a = b
  | .non, b, h => by cases b <;> simp [D.beq] at h <;> rfl
  | .bl a, b, h => by cases b <;> simp [D.beq] at h; rw [h]
  | .int a, b, h => by cases b <;> simp [D.beq] at h; rw [h]
  | .str a, b, h => by cases b <;> simp [D.beq] at h; rw [h]
  | .tup xs, b, h => by cases b <;> simp [D.beq] at h; rw [D.beqs_eq _ _ h]
  | .lst xs, b, h => by cases b <;> simp [D.beq] at h; rw [D.beqs_eq _ _ h]
  | .dct ks xs, b, h => by cases b <;> simp [D.beq] at h; rw [h.1, D.beqs_eq _ _ h.2]
  | .obj c fs xs, b, h => by cases b <;> simp [D.beq] at h; rw [h.1, h.2.1, D.beqs_eq _ _ h.2.2]
  | .exc c fs xs, b, h => by cases b <;> simp [D.beq] at h; rw [h.1, h.2.1, D.beqs_eq _ _ h.2.2]
  | .scr a, b, h => by cases b <;> simp [D.beq] at h; rw [h]
theorem D.beqs_eq : ∀ (a b : List D), D.beqs a b = true → a = b
  | [], b, h => by cases b <;> simp [D.beqs] at h; rfl
  | x :: xs, b, h => by
    cases b <;> simp [D.beqs] at h
    rw [D.beq_eq _ _ h.1, D.beqs_eq _ _ h.2]
end
mutual
theorem D.beq_refl : ∀ (a : D), D.beq a a = true
  | .non => by simp [D.beq]
  | .bl a => by simp [D.beq]
  | .int a => by simp [D.beq]
  | .str a => by simp [D.beq]
  | .tup xs => by simp [D.beq, D.beqs_refl xs]
  | .lst xs => by simp [D.beq, D.beqs_refl xs]
  | .dct ks xs => by simp [D.beq, D.beqs_refl xs]
  | .obj c fs xs => by simp [D.beq, D.beqs_refl xs]
  | .exc c fs xs => by simp [D.beq, D.beqs_refl xs]
  | .scr a => by simp [D.beq]
theorem D.beqs_refl : ∀ (a : List D), D.beqs a a = true
  | [] => by simp [D.beqs]
  | x :: xs => by simp [D.beqs, D.beq_refl x, D.beqs_refl xs]
end
instance : DecidableEq D := fun a b => if h : D.beq a b = true then isTrue (D.beq_eq a b h) else isFalse fun e => h (e ▸ D.beq_refl a)

/-- a value: closed data, a cell of the store by its number, a tuple in which such stand -/
inductive U where
  | d (x : D) | c (i : Nat) | t (us : List U)
instance : Inhabited U := ⟨.d .non⟩
mutual
def U.beq : U → U → Bool
  | .d a, .d b => decide (a = b)
  | .c a, .c b => decide (a = b)
  | .t xs, .t ys => U.beqs xs ys
  | _, _ => false
def U.beqs : List U → List U → Bool
  | [], [] => true
  | x :: xs, y :: ys => U.beq x y && U.beqs xs ys
  | _, _ => false
end
mutual
theorem U.beq_eq : ∀ (a b : U), U.beq a b = true → a = b
  | .d a, b, h => by cases b <;> simp [U.beq] at h; rw [h]
  | .c a, b, h => by cases b <;> simp [U.beq] at h; rw [h]
  | .t xs, b, h => by cases b <;> simp [U.beq] at h; rw [U.beqs_eq _ _ h]
theorem U.beqs_eq : ∀ (a b : List U), U.beqs a b = true → a = b
  | [], b, h => by cases b <;> simp [U.beqs] at h; rfl
  | x :: xs, b, h => by
    cases b <;> simp [U.beqs] at h
    rw [U.beq_eq _ _ h.1, U.beqs_eq _ _ h.2]
end
mutual
theorem U.beq_refl : ∀ (a : U), U.beq a a = true
  | .d a => by simp [U.beq]
  | .c a => by simp [U.beq]
  | .t xs => by simp [U.beq, U.beqs_refl xs]
theorem U.beqs_refl : ∀ (a : List U), U.beqs a a = true
  | [] => by simp [U.beqs]
  | x :: xs => by simp [U.beqs, U.beq_refl x, U.beqs_refl xs]
end
instance : DecidableEq U := fun a b => if h : U.beq a b = true then isTrue (U.beq_eq a b h) else isFalse fun e => h (e ▸ U.beq_refl a)

/-- what a cell holds -/
inductive O where
  | lst (us : List U) | dct (kvs : List (Key × U)) | ins (c : Nat) (fs : List (Nat × U))
  deriving DecidableEq
abbrev Sto := List O

/-- a raised error: its class, its fields -/
structure Ex where
  c : Nat
  fs : List Nat
  xs : List D
  deriving DecidableEq

/-! ### what they stand for -/
/-- the text's classes and attribute names by number -/
structure Tab where
  cls : Nat → Addr
  att : Nat → Str
/-- a caught error as an object that is kept -/
def exH (C : Value) (dd : Option Addr) (a : Addr) : HO := .ext fun h => ∃ oe vs, h.get? a = some oe ∧ Zc C dd oe ∧ oe.data = .fields vs
/-- the dict of an error -/
def XdOk (T : Tab) (F : Hp) (dd : Option Addr) (fs : List Nat) (vs : List V) : Prop :=
  (fs = [] ∧ vs = [] ∧ dd = none) ∨ ∃ d, dd = some d ∧ F d = some (.xd ((fs.map T.att).zip vs)) ∧ fs.length = vs.length

mutual
inductive RD (K : PySem.W.Frag) (T : Tab) (F : Hp) : V → D → Prop where
  | non : RD K T F .non .non
  | bl (b : Bool) : RD K T F (.bl b) (.bl b)
  | int (i : Int) : RD K T F (.int i) (.int i)
  | str (x : Str) : RD K T F (.str x) (.str x)
  | tup {a : Addr} {vs : List V} {xs : List D} : SqT K F a vs → RDs K T F vs xs → RD K T F (.ref a) (.tup xs)
  | scr {a : Addr} {ns : List Int} : SqL K F a (ns.map V.int) → RD K T F (.ref a) (.scr ns)
  | lst {a : Addr} {vs : List V} {xs : List D} : F a = some (.lst vs) → RDs K T F vs xs → RD K T F (.ref a) (.lst xs)
  | dct {a : Addr} {ks : List Key} {vs : List V} {xs : List D} : F a = some (.dK (ks.zip vs)) → ks.length = vs.length → RDs K T F vs xs → RD K T F (.ref a) (.dct ks xs)
  | obj {a dx : Addr} {c : Nat} {fs : List Nat} {vs : List V} {xs : List D} : F a = some (.ins (T.cls c) dx ((fs.map T.att).zip vs)) → fs.length = vs.length → RDs K T F vs xs → RD K T F (.ref a) (.obj c fs xs)
  | exc {a : Addr} {dd : Option Addr} {c : Nat} {fs : List Nat} {vs : List V} {xs : List D} : F a = some (exH (.ref (T.cls c)) dd a) → XdOk T F dd fs vs → RDs K T F vs xs → RD K T F (.ref a) (.exc c fs xs)
inductive RDs (K : PySem.W.Frag) (T : Tab) (F : Hp) : List V → List D → Prop where
  | nil : RDs K T F [] []
  | cons {v : V} {vs : List V} {x : D} {xs : List D} : RD K T F v x → RDs K T F vs xs → RDs K T F (v :: vs) (x :: xs)
end
mutual
inductive RU (K : PySem.W.Frag) (T : Tab) (F : Hp) (m : List Addr) : V → U → Prop where
  | d {v : V} {x : D} : RD K T F v x → RU K T F m v (.d x)
  | c {i : Nat} {a : Addr} : m[i]? = some a → RU K T F m (.ref a) (.c i)
  | t {a : Addr} {vs : List V} {us : List U} : SqT K F a vs → RUs K T F m vs us → RU K T F m (.ref a) (.t us)
inductive RUs (K : PySem.W.Frag) (T : Tab) (F : Hp) (m : List Addr) : List V → List U → Prop where
  | nil : RUs K T F m [] []
  | cons {v : V} {vs : List V} {u : U} {us : List U} : RU K T F m v u → RUs K T F m vs us → RUs K T F m (v :: vs) (u :: us)
end

section
variable {K : PySem.W.Frag} {T : Tab} {F F' : Hp} {m m' : List Addr}
theorem sqT_same (h : Same F F') {a : Addr} {vs : List V} (q : SqT K F a vs) : SqT K F' a vs := by
  rcases q with (q | ⟨o, q⟩) | q
  · exact .inl (.inl (h _ _ q))
  · exact .inl (.inr ⟨o, h _ _ q⟩)
  · exact .inr q
theorem XdOk.mono (h : Same F F') {dd : Option Addr} {fs : List Nat} {vs : List V} (q : XdOk T F dd fs vs) : XdOk T F' dd fs vs := by
  rcases q with q | ⟨d, e, q, l⟩
  · exact .inl q
  · exact .inr ⟨d, e, h _ _ q, l⟩
mutual
theorem RD.mono (h : Same F F') : ∀ {v : V} {x : D}, RD K T F v x → RD K T F' v x
  | _, _, .non => .non
  | _, _, .bl b => .bl b
  | _, _, .int i => .int i
  | _, _, .str x => .str x
  | _, _, .tup q r => .tup (sqT_same h q) (RDs.mono h r)
  | _, _, .scr q => .scr (Same.seq h q)
  | _, _, .lst q r => .lst (h _ _ q) (RDs.mono h r)
  | _, _, .dct q l r => .dct (h _ _ q) l (RDs.mono h r)
  | _, _, .obj q l r => .obj (h _ _ q) l (RDs.mono h r)
  | _, _, .exc q l r => .exc (h _ _ q) (l.mono h) (RDs.mono h r)
theorem RDs.mono (h : Same F F') : ∀ {v : List V} {x : List D}, RDs K T F v x → RDs K T F' v x
  | _, _, .nil => .nil
  | _, _, .cons q r => .cons (RD.mono h q) (RDs.mono h r)
end
theorem pre_get {l l' : List Addr} (h : l <+: l') {i : Nat} {a : Addr} (e : l[i]? = some a) : l'[i]? = some a := by
  obtain ⟨t, rfl⟩ := h
  obtain ⟨hi, _⟩ := List.getElem?_eq_some_iff.mp e
  rw [List.getElem?_append_left hi]
  exact e
mutual
theorem RU.mono (h : Same F F') (hm : m <+: m') : ∀ {v : V} {x : U}, RU K T F m v x → RU K T F' m' v x
  | _, _, .d q => .d (q.mono h)
  | _, _, .c q => .c (pre_get hm q)
  | _, _, .t q r => .t (sqT_same h q) (RUs.mono h hm r)
theorem RUs.mono (h : Same F F') (hm : m <+: m') : ∀ {v : List V} {x : List U}, RUs K T F m v x → RUs K T F' m' v x
  | _, _, .nil => .nil
  | _, _, .cons q r => .cons (RU.mono h hm q) (RUs.mono h hm r)
end
theorem RDs.len : ∀ {vs : List V} {xs : List D}, RDs K T F vs xs → vs.length = xs.length
  | _, _, .nil => rfl
  | _, _, .cons _ r => congrArg (· + 1) r.len
theorem RUs.len : ∀ {vs : List V} {xs : List U}, RUs K T F m vs xs → vs.length = xs.length
  | _, _, .nil => rfl
  | _, _, .cons _ r => congrArg (· + 1) r.len
theorem RDs.up : ∀ {vs : List V} {xs : List D}, RDs K T F vs xs → RUs K T F m vs (xs.map .d)
  | _, _, .nil => .nil
  | _, _, .cons q r => .cons (.d q) r.up
theorem RUs.get : ∀ {vs : List V} {us : List U}, RUs K T F m vs us → ∀ {i : Nat} {u : U}, us[i]? = some u → ∃ v, vs[i]? = some v ∧ RU K T F m v u
  | _, _, .nil, _, _, e => by simp at e
  | _, _, .cons q r, 0, _, e => by
    simp at e
    subst e
    exact ⟨_, rfl, q⟩
  | _, _, .cons q r, i + 1, _, e => by
    obtain ⟨v, h1, h2⟩ := r.get (i := i) (by simpa using e)
    exact ⟨v, by simpa using h1, h2⟩
theorem RUs.getR : ∀ {vs : List V} {us : List U}, RUs K T F m vs us → ∀ {i : Nat} {v : V}, vs[i]? = some v → ∃ u, us[i]? = some u ∧ RU K T F m v u
  | _, _, .nil, _, _, e => by simp at e
  | _, _, .cons q r, 0, _, e => by
    simp at e
    subst e
    exact ⟨_, rfl, q⟩
  | _, _, .cons q r, i + 1, _, e => by
    obtain ⟨v, h1, h2⟩ := r.getR (i := i) (by simpa using e)
    exact ⟨v, by simpa using h1, h2⟩
theorem RUs.app : ∀ {vs : List V} {us : List U} {ws : List V} {zs : List U}, RUs K T F m vs us → RUs K T F m ws zs → RUs K T F m (vs ++ ws) (us ++ zs)
  | _, _, _, _, .nil, s => s
  | _, _, _, _, .cons q r, s => .cons q (r.app s)
theorem RDs.app : ∀ {vs : List V} {us : List D} {ws : List V} {zs : List D}, RDs K T F vs us → RDs K T F ws zs → RDs K T F (vs ++ ws) (us ++ zs)
  | _, _, _, _, .nil, s => s
  | _, _, _, _, .cons q r, s => .cons q (r.app s)
theorem RUs.set {v : V} {u : U} (q : RU K T F m v u) : ∀ {vs : List V} {us : List U}, RUs K T F m vs us → ∀ (i : Nat), RUs K T F m (vs.set i v) (us.set i u)
  | _, _, .nil, _ => .nil
  | _, _, .cons _ r, 0 => .cons q r
  | _, _, .cons p r, i + 1 => .cons p (RUs.set q r i)
theorem RUs.take : ∀ {vs : List V} {us : List U}, RUs K T F m vs us → ∀ (n : Nat), RUs K T F m (vs.take n) (us.take n)
  | _, _, .nil, n => by simp; exact .nil
  | _, _, .cons q r, 0 => .nil
  | _, _, .cons q r, n + 1 => .cons q (r.take n)
theorem RUs.drop : ∀ {vs : List V} {us : List U}, RUs K T F m vs us → ∀ (n : Nat), RUs K T F m (vs.drop n) (us.drop n)
  | _, _, .nil, n => by simp; exact .nil
  | _, _, .cons q r, 0 => .cons q r
  | _, _, .cons q r, n + 1 => r.drop n
theorem RUs.rev : ∀ {vs : List V} {us : List U}, RUs K T F m vs us → RUs K T F m vs.reverse us.reverse
  | _, _, .nil => .nil
  | _, _, .cons q r => by
    rw [List.reverse_cons, List.reverse_cons]
    exact r.rev.app (.cons q .nil)
end

/-! ### all closed -/
/-- the data of values that are all closed -/
def closed : List U → Option (List D)
  | [] => some []
  | .d x :: us => (closed us).map (x :: ·)
  | _ :: _ => none
theorem closed_map : ∀ xs : List D, closed (xs.map U.d) = some xs
  | [] => rfl
  | x :: xs => by simp [closed, closed_map xs]
theorem closed_eq : ∀ {us : List U} {xs : List D}, closed us = some xs → us = xs.map U.d
  | [], xs, h => by
    simp only [closed] at h
    cases h
    rfl
  | .d x :: us, xs, h => by
    simp only [closed] at h
    cases e : closed us with
    | none =>
      rw [e] at h
      cases h
    | some ys =>
      rw [e] at h
      cases h
      rw [closed_eq e]
      rfl
  | .c i :: us, xs, h => by
    simp only [closed] at h
    cases h
  | .t vs :: us, xs, h => by
    simp only [closed] at h
    cases h
theorem RUs.closed {K : PySem.W.Frag} {T : Tab} {F : Hp} {m : List Addr} : ∀ {vs : List V} {us : List U} {xs : List D}, RUs K T F m vs us → KB.closed us = some xs → RDs K T F vs xs
  | _, _, _, .nil, h => by
    simp only [KB.closed] at h
    cases h
    exact .nil
  | _, _, _, .cons (u := .d x) (us := us) q r, h => by
    simp only [KB.closed] at h
    cases e : KB.closed us with
    | none =>
      rw [e] at h
      cases h
    | some ys =>
      rw [e] at h
      cases h
      cases q with
      | d q => exact .cons q (RUs.closed r e)
  | _, _, _, .cons (u := .c i) q r, h => by
    simp only [KB.closed] at h
    cases h
  | _, _, _, .cons (u := .t us) q r, h => by
    simp only [KB.closed] at h
    cases h

/-! ### the state -/
/-- what the object of a cell stands for -/
inductive RO (K : PySem.W.Frag) (T : Tab) (F : Hp) (m : List Addr) : HO → O → Prop where
  | lst {vs : List V} {us : List U} : RUs K T F m vs us → RO K T F m (.lst vs) (.lst us)
  | dct {kvs : List (Key × V)} {kus : List (Key × U)} : Paired (fun p q => p.1 = q.1 ∧ RU K T F m p.2 q.2) kvs kus → RO K T F m (.dK kvs) (.dct kus)
  | ins {c : Nat} {dx : Addr} {fvs : List (Str × V)} {fus : List (Nat × U)} : Paired (fun p q => p.1 = T.att q.1 ∧ RU K T F m p.2 q.2) fvs fus → RO K T F m (.ins (T.cls c) dx fvs) (.ins c fus)
theorem RO.mono {K : PySem.W.Frag} {T : Tab} {F F' : Hp} {m m' : List Addr} (h : Same F F') (hm : m <+: m') {ho : HO} {o : O} (q : RO K T F m ho o) : RO K T F' m' ho o := by
  cases q with
  | lst r => exact .lst (r.mono h hm)
  | dct r => exact .dct (Paired.mapP r fun p q z => ⟨z.1, z.2.mono h hm⟩)
  | ins r => exact .ins (Paired.mapP r fun p q z => ⟨z.1, z.2.mono h hm⟩)
/-- F: the part of the heap that stays for good; m: where the cells stand -/
structure Rl (K : PySem.W.Frag) (T : Tab) (F : Hp) (m : List Addr) (st : Sto) (H : Hp) : Prop where
  sub : Same F H
  len : m.length = st.length
  obj : ∀ (i : Nat) (o : O), st[i]? = some o → ∃ (a : Addr) (ho : HO), m[i]? = some a ∧ H a = some ho ∧ F a = none ∧ RO K T F m ho o
  inj : ∀ (i j : Nat) (a : Addr), m[i]? = some a → m[j]? = some a → i = j
/-- the names' values -/
structure Rv (K : PySem.W.Frag) (T : Tab) (F : Hp) (m : List Addr) (env : List (Option U)) (σ : St) : Prop where
  len : env.length = σ.length
  at_ : ∀ (i : Nat) (u : U), env[i]? = some (some u) → ∃ v : V, σ[i]? = some (some v) ∧ RU K T F m v u
section
variable {K : PySem.W.Frag} {T : Tab} {F F' : Hp} {m m' : List Addr} {st : Sto} {H : Hp} {env : List (Option U)} {σ : St}
theorem Rv.mono (h : Same F F') (hm : m <+: m') (r : Rv K T F m env σ) : Rv K T F' m' env σ :=
  ⟨r.len, fun i u e => by
    obtain ⟨v, h1, h2⟩ := r.at_ i u e
    exact ⟨v, h1, h2.mono h hm⟩⟩
theorem Rv.set (r : Rv K T F m env σ) {v : V} {u : U} (q : RU K T F m v u) (i : Nat) : Rv K T F m (env.set i (some u)) (σ.set i (some v)) := by
  refine ⟨by simp [r.len], fun j w e => ?_⟩
  rw [List.getElem?_set] at e
  rw [List.getElem?_set]
  by_cases hij : i = j
  · rw [if_pos hij] at e ⊢
    rw [← r.len]
    split at e
    · rename_i hl
      cases e
      exact ⟨v, by rw [if_pos hl], q⟩
    · cases e
  · rw [if_neg hij] at e ⊢
    exact r.at_ j w e
theorem Rv.unset (r : Rv K T F m env σ) (i : Nat) (z : Option V) : Rv K T F m (env.set i none) (σ.set i z) := by
  refine ⟨by simp [r.len], fun j w e => ?_⟩
  rw [List.getElem?_set] at e
  rw [List.getElem?_set]
  by_cases hij : i = j
  · rw [if_pos hij] at e
    split at e <;> cases e
  · rw [if_neg hij] at e ⊢
    exact r.at_ j w e
theorem Rl.free (r : Rl K T F m st H) {p : Addr} (h : H p = none) : F p = none := Same.free r.sub h
theorem Rl.notin (r : Rl K T F m st H) {p : Addr} (h : H p = none) : ∀ {i : Nat} {a : Addr}, m[i]? = some a → a ≠ p := fun {i a} e z => by
  obtain ⟨hi, _⟩ := List.getElem?_eq_some_iff.mp e
  obtain ⟨a', ho, e1, e2, _⟩ := r.obj i _ (List.getElem?_eq_getElem (by rw [← r.len]; exact hi))
  rw [e] at e1
  cases e1
  rw [z, h] at e2
  cases e2
theorem same_upd {G : Hp} {p : Addr} {o : HO} (h : G p = none) : Same G (upd G p o) := fun b u e => by
  rw [upd_ne (ne_of_none e h)]
  exact e
/-- a new object that stays for good -/
theorem Rl.froze (r : Rl K T F m st H) {p : Addr} (h : H p = none) (o : HO) : Rl K T (upd F p o) m st (upd H p o) where
  sub := fun b u e => by
    by_cases hb : b = p
    · subst hb
      rw [upd_same] at e ⊢
      exact e
    · rw [upd_ne hb] at e ⊢
      exact r.sub b u e
  len := r.len
  obj := fun i u e => by
    obtain ⟨a, ho, e1, e2, e3, e4⟩ := r.obj i u e
    have hap := r.notin h e1
    exact ⟨a, ho, e1, by rw [upd_ne hap]; exact e2, by rw [upd_ne hap]; exact e3, e4.mono (same_upd (r.free h)) (List.prefix_refl _)⟩
  inj := r.inj
/-- a new object that is a cell -/
theorem Rl.cell (r : Rl K T F m st H) {p : Addr} (h : H p = none) {ho : HO} {o : O} (q : RO K T F m ho o) : Rl K T F (m ++ [p]) (st ++ [o]) (upd H p ho) := by
  have hp : m <+: m ++ [p] := ⟨[p], rfl⟩
  refine ⟨fun b u e => ?_, by simp [r.len], fun i u e => ?_, fun i j a e1 e2 => ?_⟩
  · rw [upd_ne (fun z => by rw [z, r.free h] at e; cases e)]
    exact r.sub b u e
  · by_cases hi : i < st.length
    · rw [List.getElem?_append_left hi] at e
      obtain ⟨a, ho', e1, e2, e3, e4⟩ := r.obj i u e
      exact ⟨a, ho', pre_get hp e1, by rw [upd_ne (r.notin h e1)]; exact e2, e3, e4.mono (Same.refl _) hp⟩
    · have hi2 : i = st.length := by
        obtain ⟨hl, _⟩ := List.getElem?_eq_some_iff.mp e
        rw [List.length_append, List.length_singleton] at hl
        omega
      subst hi2
      rw [List.getElem?_append_right (Nat.le_refl _), Nat.sub_self] at e
      cases e
      refine ⟨p, ho, ?_, upd_same, r.free h, q.mono (Same.refl _) hp⟩
      rw [List.getElem?_append_right (by rw [r.len]; exact Nat.le_refl _), r.len, Nat.sub_self]
      rfl
  · have key : ∀ {k : Nat} {b : Addr}, (m ++ [p])[k]? = some b → (m[k]? = some b) ∨ (k = m.length ∧ b = p) := fun {k b} e => by
      by_cases hk : k < m.length
      · rw [List.getElem?_append_left hk] at e
        exact .inl e
      · obtain ⟨hl, _⟩ := List.getElem?_eq_some_iff.mp e
        rw [List.length_append, List.length_singleton] at hl
        have hk2 : k = m.length := by omega
        subst hk2
        rw [List.getElem?_append_right (Nat.le_refl _), Nat.sub_self] at e
        cases e
        exact .inr ⟨rfl, rfl⟩
    rcases key e1 with h1 | ⟨h1, h1'⟩ <;> rcases key e2 with h2 | ⟨h2, h2'⟩
    · exact r.inj i j a h1 h2
    · exact absurd h2' (r.notin h h1)
    · exact absurd h1' (r.notin h h2)
    · rw [h1, h2]
/-- a cell is written -/
theorem Rl.write (r : Rl K T F m st H) {i : Nat} {a : Addr} {ho : HO} {o : O} (hi : i < st.length) (e : m[i]? = some a) (q : RO K T F m ho o) : Rl K T F m (st.set i o) (upd H a ho) := by
  obtain ⟨a', ho0, e1, e2, e3, e4⟩ := r.obj i _ (List.getElem?_eq_getElem hi)
  rw [e] at e1
  cases e1
  refine ⟨fun b u z => ?_, by simp [r.len], fun j u z => ?_, r.inj⟩
  · rw [upd_ne (fun y => by rw [y, e3] at z; cases z)]
    exact r.sub b u z
  · rw [List.getElem?_set] at z
    by_cases hij : i = j
    · rw [if_pos hij, if_pos (by omega)] at z
      cases z
      subst hij
      exact ⟨a, ho, e, upd_same, e3, q⟩
    · rw [if_neg hij] at z
      obtain ⟨b, ho', y1, y2, y3, y4⟩ := r.obj j u z
      exact ⟨b, ho', y1, by rw [upd_ne (fun y => hij (r.inj i j a e (by rw [← y]; exact y1)))]; exact y2, y3, y4⟩
end
end KB
/-! Computations, and that they tell what the text does. -/
namespace KB
open PySem L2

inductive Re (α : Type) where
  | ok (a : α) (st : Sto) | exc (e : Ex) (st : Sto) | bad
abbrev Lo := List (Option U)
abbrev ME := Lo → Sto → Re U
abbrev MT := Lo → Sto → Re Bool
abbrev MA := Lo → Sto → Re (List U)
inductive Fl where
  | nx | rt (u : U) | bk | ct
inductive Rs where
  | ok (f : Fl) (env : Lo) (st : Sto) | exc (e : Ex) (env : Lo) (st : Sto) | bad
abbrev MS := Lo → Sto → Rs

def Re.bind {α β : Type} (r : Re α) (k : α → Sto → Re β) : Re β :=
  match r with
  | .ok a st => k a st
  | .exc e st => .exc e st
  | .bad => .bad
@[simp] theorem Re.bind_ok {α β : Type} (a : α) (st : Sto) (k : α → Sto → Re β) : (Re.ok a st).bind k = k a st := rfl
@[simp] theorem Re.bind_exc {α β : Type} (e : Ex) (st : Sto) (k : α → Sto → Re β) : (Re.exc e st : Re α).bind k = .exc e st := rfl
@[simp] theorem Re.bind_bad {α β : Type} (k : α → Sto → Re β) : (Re.bad : Re α).bind k = .bad := rfl

/-! ### what is promised of a result -/
/-- an error in the air -/
def RX (K : PySem.W.Frag) (T : Tab) (F : Hp) (H : Hp) (e : Ex) (c : Value) (d : Option Addr) : Prop :=
  c = .ref (T.cls e.c) ∧ ∃ vs, XdOk T H d e.fs vs ∧ RDs K T F vs e.xs ∧ ∀ a, d = some a → F a = none
section
variable (K : PySem.W.Frag) (T : Tab)
def GoE (W : WX) (F : Hp) (m : List Addr) (σ : St) (r : Re U) (Q : VK) : Prop :=
  match r with
  | .ok u st => ∀ F' m' H v, Same F F' → m <+: m' → Rl K T F' m' st H → RU K T F' m' v u → Q v H
  | .exc e st => ∀ F' m' H c d, Same F F' → m <+: m' → Rl K T F' m' st H → RX K T F' H e c d → W c d σ H
  | .bad => False
def GoT {α : Type} (W : WX) (F : Hp) (m : List Addr) (σ : St) (r : Re α) (Q : α → Hp → Prop) : Prop :=
  match r with
  | .ok b st => ∀ F' m' H, Same F F' → m <+: m' → Rl K T F' m' st H → Q b H
  | .exc e st => ∀ F' m' H c d, Same F F' → m <+: m' → Rl K T F' m' st H → RX K T F' H e c d → W c d σ H
  | .bad => False
def GoA (W : WX) (F : Hp) (m : List Addr) (σ : St) (r : Re (List U)) (Q : List V → Hp → Prop) : Prop :=
  match r with
  | .ok us st => ∀ F' m' H vs, Same F F' → m <+: m' → Rl K T F' m' st H → RUs K T F' m' vs us → Q vs H
  | .exc e st => ∀ F' m' H c d, Same F F' → m <+: m' → Rl K T F' m' st H → RX K T F' H e c d → W c d σ H
  | .bad => False
def GoS (W : WX) (F : Hp) (m : List Addr) (r : Rs) (Z : Ends) : Prop :=
  match r with
  | .ok .nx env st => ∀ F' m' H σ, Same F F' → m <+: m' → Rl K T F' m' st H → Rv K T F' m' env σ → Z.nx σ H
  | .ok .bk env st => ∀ F' m' H σ, Same F F' → m <+: m' → Rl K T F' m' st H → Rv K T F' m' env σ → Z.bk σ H
  | .ok .ct env st => ∀ F' m' H σ, Same F F' → m <+: m' → Rl K T F' m' st H → Rv K T F' m' env σ → Z.ct σ H
  | .ok (.rt u) _ st => ∀ F' m' H v, Same F F' → m <+: m' → Rl K T F' m' st H → RU K T F' m' v u → Z.rt v H
  | .exc e env st => ∀ F' m' H σ c d, Same F F' → m <+: m' → Rl K T F' m' st H → Rv K T F' m' env σ → RX K T F' H e c d → W c d σ H
  | .bad => False
/-- the readings of computations -/
def okE (W : WX) (c : ME) : TE := fun σ H Q => ∃ F m env st, Rl K T F m st H ∧ Rv K T F m env σ ∧ GoE K T W F m σ (c env st) Q
def okT (W : WX) (c : MT) : TT := fun σ H Q => ∃ F m env st, Rl K T F m st H ∧ Rv K T F m env σ ∧ GoT K T W F m σ (c env st) Q
def okA (W : WX) (c : MA) : TA := fun σ H Q => ∃ F m env st, Rl K T F m st H ∧ Rv K T F m env σ ∧ GoA K T W F m σ (c env st) Q
def okS (W : WX) (c : MS) : TS := fun Z σ H => ∃ F m env st, Rl K T F m st H ∧ Rv K T F m env σ ∧ GoS K T W F m (c env st) Z
end
section
variable {K : PySem.W.Frag} {T : Tab} {W : WX} {F F1 : Hp} {m m1 : List Addr} {σ : St} {Q : VK} {α β : Type} {QT : α → Hp → Prop} {QB : β → Hp → Prop} {QA : List V → Hp → Prop} {Z : Ends}
theorem GoE.up (h : Same F F1) (hm : m <+: m1) {r : Re U} (g : GoE K T W F m σ r Q) : GoE K T W F1 m1 σ r Q := by
  cases r with
  | ok u st => exact fun F' m' H v a b => g F' m' H v (h.trans a) (hm.trans b)
  | exc e st => exact fun F' m' H c d a b => g F' m' H c d (h.trans a) (hm.trans b)
  | bad => exact g
theorem GoT.up (h : Same F F1) (hm : m <+: m1) {r : Re α} (g : GoT K T W F m σ r QT) : GoT K T W F1 m1 σ r QT := by
  cases r with
  | ok u st => exact fun F' m' H a b => g F' m' H (h.trans a) (hm.trans b)
  | exc e st => exact fun F' m' H c d a b => g F' m' H c d (h.trans a) (hm.trans b)
  | bad => exact g
theorem GoA.up (h : Same F F1) (hm : m <+: m1) {r : Re (List U)} (g : GoA K T W F m σ r QA) : GoA K T W F1 m1 σ r QA := by
  cases r with
  | ok u st => exact fun F' m' H v a b => g F' m' H v (h.trans a) (hm.trans b)
  | exc e st => exact fun F' m' H c d a b => g F' m' H c d (h.trans a) (hm.trans b)
  | bad => exact g
theorem GoS.up (h : Same F F1) (hm : m <+: m1) {r : Rs} (g : GoS K T W F m r Z) : GoS K T W F1 m1 r Z := by
  cases r with
  | ok f env st =>
    cases f with
    | nx => exact fun F' m' H v a b => g F' m' H v (h.trans a) (hm.trans b)
    | bk => exact fun F' m' H v a b => g F' m' H v (h.trans a) (hm.trans b)
    | ct => exact fun F' m' H v a b => g F' m' H v (h.trans a) (hm.trans b)
    | rt u => exact fun F' m' H v a b => g F' m' H v (h.trans a) (hm.trans b)
  | exc e env st => exact fun F' m' H σ c d a b => g F' m' H σ c d (h.trans a) (hm.trans b)
  | bad => exact g
theorem GoE.imp {Q' : VK} {r : Re U} (g : GoE K T W F m σ r Q) (h : ∀ v H, Q v H → Q' v H) : GoE K T W F m σ r Q' := by
  cases r with
  | ok u st => exact fun F' m' H v a b c d => h v H (g F' m' H v a b c d)
  | exc e st => exact g
  | bad => exact g
theorem GoT.imp {Q' : α → Hp → Prop} {r : Re α} (g : GoT K T W F m σ r QT) (h : ∀ v H, QT v H → Q' v H) : GoT K T W F m σ r Q' := by
  cases r with
  | ok u st => exact fun F' m' H a b c => h _ H (g F' m' H a b c)
  | exc e st => exact g
  | bad => exact g
theorem GoA.imp {Q' : List V → Hp → Prop} {r : Re (List U)} (g : GoA K T W F m σ r QA) (h : ∀ v H, QA v H → Q' v H) : GoA K T W F m σ r Q' := by
  cases r with
  | ok u st => exact fun F' m' H v a b c d => h v H (g F' m' H v a b c d)
  | exc e st => exact g
  | bad => exact g
theorem pre_refl (l : List Addr) : l <+: l := List.prefix_refl l
/-- what stands behind a part: the value, and the rest's promise -/
structure AfE (K : PySem.W.Frag) (T : Tab) (σ : St) (env : Lo) (G : Hp → List Addr → U → Sto → Prop) (v : V) (H : Hp) : Prop where
  ex : ∃ F m st u, Rl K T F m st H ∧ Rv K T F m env σ ∧ RU K T F m v u ∧ G F m u st
/-- one part behind another -/
theorem goE_bind {env : Lo} {r : Re U} {k : U → Sto → Re U} (hV : Rv K T F m env σ) (g : GoE K T W F m σ (r.bind k) Q) :
    GoE K T W F m σ r (fun v H1 => ∃ F1 m1 st1 u, Same F F1 ∧ m <+: m1 ∧ Rl K T F1 m1 st1 H1 ∧ Rv K T F1 m1 env σ ∧ RU K T F1 m1 v u ∧ GoE K T W F1 m1 σ (k u st1) Q) := by
  cases r with
  | ok u st => exact fun F' m' H1 v a b R q => ⟨F', m', st, u, a, b, R, hV.mono a b, q, GoE.up a b g⟩
  | exc e st => exact g
  | bad => exact g
theorem goET_bind {env : Lo} {r : Re U} {k : U → Sto → Re α} (hV : Rv K T F m env σ) (g : GoT K T W F m σ (r.bind k) QT) :
    GoE K T W F m σ r (fun v H1 => ∃ F1 m1 st1 u, Same F F1 ∧ m <+: m1 ∧ Rl K T F1 m1 st1 H1 ∧ Rv K T F1 m1 env σ ∧ RU K T F1 m1 v u ∧ GoT K T W F1 m1 σ (k u st1) QT) := by
  cases r with
  | ok u st => exact fun F' m' H1 v a b R q => ⟨F', m', st, u, a, b, R, hV.mono a b, q, GoT.up a b g⟩
  | exc e st => exact g
  | bad => exact g
theorem goTE_bind {env : Lo} {r : Re α} {k : α → Sto → Re U} (hV : Rv K T F m env σ) (g : GoE K T W F m σ (r.bind k) Q) :
    GoT K T W F m σ r (fun b H1 => ∃ F1 m1 st1, Same F F1 ∧ m <+: m1 ∧ Rl K T F1 m1 st1 H1 ∧ Rv K T F1 m1 env σ ∧ GoE K T W F1 m1 σ (k b st1) Q) := by
  cases r with
  | ok u st => exact fun F' m' H1 a b R => ⟨F', m', st, a, b, R, hV.mono a b, GoE.up a b g⟩
  | exc e st => exact g
  | bad => exact g
theorem goTT_bind {env : Lo} {r : Re α} {k : α → Sto → Re β} (hV : Rv K T F m env σ) (g : GoT K T W F m σ (r.bind k) QB) :
    GoT K T W F m σ r (fun b H1 => ∃ F1 m1 st1, Same F F1 ∧ m <+: m1 ∧ Rl K T F1 m1 st1 H1 ∧ Rv K T F1 m1 env σ ∧ GoT K T W F1 m1 σ (k b st1) QB) := by
  cases r with
  | ok u st => exact fun F' m' H1 a b R => ⟨F', m', st, a, b, R, hV.mono a b, GoT.up a b g⟩
  | exc e st => exact g
  | bad => exact g
theorem goEA_bind {env : Lo} {r : Re U} {k : U → Sto → Re (List U)} (hV : Rv K T F m env σ) (g : GoA K T W F m σ (r.bind k) QA) :
    GoE K T W F m σ r (fun v H1 => ∃ F1 m1 st1 u, Same F F1 ∧ m <+: m1 ∧ Rl K T F1 m1 st1 H1 ∧ Rv K T F1 m1 env σ ∧ RU K T F1 m1 v u ∧ GoA K T W F1 m1 σ (k u st1) QA) := by
  cases r with
  | ok u st => exact fun F' m' H1 v a b R q => ⟨F', m', st, u, a, b, R, hV.mono a b, q, GoA.up a b g⟩
  | exc e st => exact g
  | bad => exact g
theorem goAE_bind {env : Lo} {r : Re (List U)} {k : List U → Sto → Re U} (hV : Rv K T F m env σ) (g : GoE K T W F m σ (r.bind k) Q) :
    GoA K T W F m σ r (fun vs H1 => ∃ F1 m1 st1 us, Same F F1 ∧ m <+: m1 ∧ Rl K T F1 m1 st1 H1 ∧ Rv K T F1 m1 env σ ∧ RUs K T F1 m1 vs us ∧ GoE K T W F1 m1 σ (k us st1) Q) := by
  cases r with
  | ok u st => exact fun F' m' H1 v a b R q => ⟨F', m', st, u, a, b, R, hV.mono a b, q, GoE.up a b g⟩
  | exc e st => exact g
  | bad => exact g
theorem goAA_bind {env : Lo} {r : Re (List U)} {k : List U → Sto → Re (List U)} (hV : Rv K T F m env σ) (g : GoA K T W F m σ (r.bind k) QA) :
    GoA K T W F m σ r (fun vs H1 => ∃ F1 m1 st1 us, Same F F1 ∧ m <+: m1 ∧ Rl K T F1 m1 st1 H1 ∧ Rv K T F1 m1 env σ ∧ RUs K T F1 m1 vs us ∧ GoA K T W F1 m1 σ (k us st1) QA) := by
  cases r with
  | ok u st => exact fun F' m' H1 v a b R q => ⟨F', m', st, u, a, b, R, hV.mono a b, q, GoA.up a b g⟩
  | exc e st => exact g
  | bad => exact g
end

/-! ### contexts -/
/-- the whole text's constants -/
structure Glo where
  P : Program
  w : World
  K : PySem.W.Frag
  mg : Str → Option Value
  base : Heap
  T : Tab
/-- a block of a def with the names N, its scope sc, room for k calls -/
structure Okc (G : Glo) (N : List Str) (sc : Scope) (k : Nat) (top : Bool) (X : Cx) : Prop where
  hP : X.prog = G.P
  hw : X.w = G.w
  hK : X.K = G.K
  hmg : X.mg = G.mg
  hbase : X.base = G.base
  hN : X.N = N
  nd : N.Nodup
  hsc : X.env.scope = sc
  room : Room k X.A
  grd : X.A.guards = some []
  calm : X.calm = true
  own : PassesOwn (model X.prog X.w) X.A X.env X.xe
  fn : top = true → ∀ x, X.fn x = true
  ex : top = true → X.ex = []
  stk : top = true → X.stack = X.env :: X.outer ∧ X.env.frame = some X.env.locals
/-- a def's names and where it stands -/
structure Blk where
  G : Glo
  N : List Str
  sc : Scope
  k : Nat
  top : Bool
abbrev Blk.ok (B : Blk) (X : Cx) : Prop := Okc B.G B.N B.sc B.k B.top X

def SE (B : Blk) (e : Expr) (c : ME) : Prop := ∀ X, B.ok X → ∀ W, Takes X W → PE X e (okE B.G.K B.G.T W c)
def ST (B : Blk) (e : Expr) (c : MT) : Prop := ∀ X, B.ok X → ∀ W, Takes X W → PT X e (okT B.G.K B.G.T W c)
def SW (B : Blk) (e : Expr) (c : MT) : Prop := ∀ X, B.ok X → ∀ W, Takes X W → PW X e (okT B.G.K B.G.T W c)
def SA (B : Blk) (es : List Expr) (c : MA) : Prop := ∀ X, B.ok X → ∀ W, Takes X W → PA X es (okA B.G.K B.G.T W c)
def SS (B : Blk) (s : Stmt) (c : MS) : Prop := ∀ X, B.ok X → ∀ W, Takes X W → PS X s (okS B.G.K B.G.T W c)
def SSs (B : Blk) (s : List Stmt) (c : MS) : Prop := ∀ X, B.ok X → ∀ W, Takes X W → PSs X s (okS B.G.K B.G.T W c)

/-- readings are weakened -/
theorem PE.imp {X : Cx} {e : Expr} {t u : TE} (h : PE X e t) (hi : ∀ σ H Q, u σ H Q → t σ H Q) : PE X e u := ⟨fun pins s σ H Q I q => h.run pins s σ H Q I (hi σ H Q q)⟩
theorem PT.imp {X : Cx} {e : Expr} {t u : TT} (h : PT X e t) (hi : ∀ σ H Q, u σ H Q → t σ H Q) : PT X e u := ⟨fun pins s σ H Q I q => h.run pins s σ H Q I (hi σ H Q q)⟩
theorem PW.imp {X : Cx} {e : Expr} {t u : TT} (h : PW X e t) (hi : ∀ σ H Q, u σ H Q → t σ H Q) : PW X e u := ⟨fun wh pins s σ H Q I q => h.run wh pins s σ H Q I (hi σ H Q q)⟩
theorem PA.imp {X : Cx} {e : List Expr} {t u : TA} (h : PA X e t) (hi : ∀ σ H Q, u σ H Q → t σ H Q) : PA X e u := ⟨fun pos pins s σ H Q I q => h.run pos pins s σ H Q I (hi σ H Q q)⟩
theorem PS.imp {X : Cx} {e : Stmt} {t u : TS} (h : PS X e t) (hi : ∀ Z σ H, u Z σ H → t Z σ H) : PS X e u := ⟨fun pins s σ H Z I q => h.run pins s σ H Z I (hi Z σ H q)⟩
theorem PSs.imp {X : Cx} {e : List Stmt} {t u : TS} (h : PSs X e t) (hi : ∀ Z σ H, u Z σ H → t Z σ H) : PSs X e u := ⟨fun pins s σ H Z I q => h.run pins s σ H Z I (hi Z σ H q)⟩

/-! ### the small computations -/
def cPure (u : U) : ME := fun _ st => .ok u st
def cVar (i : Nat) : ME := fun env st =>
  match env[i]? with
  | some (some u) => .ok u st
  | _ => .bad
/-- a part, then an operation on its value -/
def cOp1 (f : U → Sto → Re U) (a : ME) : ME := fun env st => (a env st).bind f
def cOp2 (f : U → U → Sto → Re U) (a b : ME) : ME := fun env st => (a env st).bind fun u st => (b env st).bind fun w st => f u w st
def cNil : MA := fun _ st => .ok [] st
def cCons (a : ME) (r : MA) : MA := fun env st => (a env st).bind fun u st => (r env st).bind fun us st => .ok (u :: us) st
def cArgs (f : List U → Sto → Re U) (a : MA) : ME := fun env st => (a env st).bind f

section
variable {B : Blk} {e a b : Expr} {es : List Expr} {c ca cb : ME} {cs : MA} {pos : Pos}
theorem se_var {i : Nat} {x : Str} (hN : B.N[i]? = some x) (hv : Vis B.sc x) (hd : (x == ("__debug__" : Str)) = false) (hcd : (x == ("__classdict__" : Str)) = false) : SE B (.Name x pos) (cVar i) := by
  intro X o W tk
  refine PE.imp (pe_var (i := i) (by rw [o.hN]; exact hN) (by rw [o.hsc]; exact hv) hd hcd) ?_
  rintro σ H Q ⟨F, m, env, st, hR, hV, g⟩
  unfold cVar at g
  split at g
  · rename_i u e
    obtain ⟨v, h1, h2⟩ := hV.at_ i u e
    exact ⟨v, h1, g F m H v (Same.refl _) (pre_refl _) hR h2⟩
  · exact g.elim
theorem se_pure {t : V} {x : D} (h : ∀ X, B.ok X → PE X e (tC t)) (r : ∀ F, RD B.G.K B.G.T F t x) : SE B e (cPure (.d x)) := by
  intro X o W tk
  refine PE.imp (h X o) ?_
  rintro σ H Q ⟨F, m, env, st, hR, hV, g⟩
  exact g F m H t (Same.refl _) (pre_refl _) hR (.d (r F))
theorem se_int {i : Int} {j : Nat} : SE B (.Constant (.int i) j pos) (cPure (.d (.int i))) := se_pure (fun _ _ => pe_int) fun _ => .int i
theorem se_bool {i : Bool} {j : Nat} : SE B (.Constant (.bool i) j pos) (cPure (.d (.bl i))) := se_pure (fun _ _ => pe_bl) fun _ => .bl i
theorem se_none {j : Nat} : SE B (.Constant .none j pos) (cPure (.d .non)) := se_pure (fun _ _ => pe_non) fun _ => .non
theorem se_str {x : Str} {j : Nat} : SE B (.Constant (.str x) j pos) (cPure (.d (.str x))) := se_pure (fun _ _ => pe_str) fun _ => .str x
/-- a constant of the module -/
theorem se_glob {x : Str} {v : V} {u : Value} {z : D} (hg : B.sc.names.lookup x = some .globalImplicit) (hm : B.G.mg x = some u) (r : RelV v u) (q : ∀ F, RD B.G.K B.G.T F v z) (hd : (x == ("__debug__" : Str)) = false) : SE B (.Name x pos) (cPure (.d z)) :=
  se_pure (fun X o => pe_glob (by unfold Gl Env.kindOf; rw [o.hsc]; exact hg) (by rw [o.hmg]; exact hm) r hd) q

/-- an operation on one value, as HandS tells it -/
def ok1 (K : PySem.W.Frag) (T : Tab) (f : U → Sto → Re U) : V → Hp → VK → Prop := fun x H Q => ∃ F m st u, Rl K T F m st H ∧ RU K T F m x u ∧ GoE K T (fun _ _ _ _ => False) F m [] (f u st) Q
def ok2 (K : PySem.W.Frag) (T : Tab) (f : U → U → Sto → Re U) : R2 := fun x y H Q => ∃ F m st u w, Rl K T F m st H ∧ RU K T F m x u ∧ RU K T F m y w ∧ GoE K T (fun _ _ _ _ => False) F m [] (f u w st) Q
def okN (K : PySem.W.Frag) (T : Tab) (f : List U → Sto → Re U) : List V → Hp → VK → Prop := fun xs H Q => ∃ F m st us, Rl K T F m st H ∧ RUs K T F m xs us ∧ GoE K T (fun _ _ _ _ => False) F m [] (f us st) Q
/-- an operation that raises nothing -/
def Calm1 (f : U → Sto → Re U) : Prop := ∀ u st e s', f u st ≠ .exc e s'
def Calm2 (f : U → U → Sto → Re U) : Prop := ∀ u w st e s', f u w st ≠ .exc e s'
def CalmN (f : List U → Sto → Re U) : Prop := ∀ us st e s', f us st ≠ .exc e s'
theorem GoE.calm {K : PySem.W.Frag} {T : Tab} {W W' : WX} {F : Hp} {m : List Addr} {σ σ' : St} {r : Re U} {Q : VK} (g : GoE K T W F m σ r Q) (h : ∀ e s, r ≠ .exc e s) : GoE K T W' F m σ' r Q := by
  cases r with
  | ok u st => exact g
  | exc e st => exact (h e st rfl).elim
  | bad => exact g
theorem okE_op2 {K : PySem.W.Frag} {T : Tab} {W : WX} {f : U → U → Sto → Re U} (hf : Calm2 f) {σ : St} {H : Hp} {Q : VK} (h : okE K T W (cOp2 f ca cb) σ H Q) : tOp (ok2 K T f) (okE K T W ca) (okE K T W cb) σ H Q := by
  obtain ⟨F, m, env, st, hR, hV, g⟩ := h
  have g1 := goE_bind hV g
  refine ⟨F, m, env, st, hR, hV, ?_⟩
  refine g1.imp ?_
  rintro x H1 ⟨F1, m1, st1, u, s1, p1, hR1, hV1, q1, g2⟩
  have g3 := goE_bind hV1 g2
  refine ⟨F1, m1, env, st1, hR1, hV1, ?_⟩
  refine g3.imp ?_
  rintro y H2 ⟨F2, m2, st2, w, s2, p2, hR2, hV2, q2, g4⟩
  exact ⟨F2, m2, st2, u, w, hR2, q1.mono s2 p2, q2, g4.calm (hf u w st2)⟩
theorem se_bin {op : Operator} {f : U → U → Sto → Re U} (hf : Calm2 f) (ho : ∀ X, B.ok X → OpR X (binaryOp op) (ok2 B.G.K B.G.T f)) (ha : SE B a ca) (hb : SE B b cb) : SE B (.BinOp a op b pos) (cOp2 f ca cb) := by
  intro X o W tk
  exact PE.imp (pe_op (ho X o) (ha X o W tk) (hb X o W tk)) fun σ H Q h => okE_op2 hf h
end
end KB
/-! Operations on values. -/
namespace KB
open PySem L2

abbrev lim : Nat := 16777216
theorem lim_eq : lim = sizeLine := sizeLine_eq.symm

/-! ### readers -/
/-- the items of a list -/
def lstU (st : Sto) : U → Option (List U)
  | .d (.lst xs) => some (xs.map .d)
  | .c i => match st[i]? with
    | some (.lst us) => some us
    | _ => none
  | _ => none
/-- .. the script's, too -/
def scrU (st : Sto) : U → Option (List U)
  | .d (.scr ns) => some (ns.map fun n => .d (.int n))
  | u => lstU st u
def tupU : U → Option (List U)
  | .d (.tup xs) => some (xs.map .d)
  | .t us => some us
  | _ => none
def dctU (st : Sto) : U → Option (List (Key × U))
  | .d (.dct ks xs) => some (ks.zip (xs.map .d))
  | .c i => match st[i]? with
    | some (.dct kvs) => some kvs
    | _ => none
  | _ => none
section
variable {K : PySem.W.Frag} {T : Tab} {F : Hp} {m : List Addr} {st : Sto} {H : Hp} {x : V} {u : U}
theorem Rl.upD (hR : Rl K T F m st H) {x : V} {d : D} (r : RD K T F x d) : RD K T H x d := r.mono hR.sub
theorem lstU_ok (hR : Rl K T F m st H) (r : RU K T F m x u) {us : List U} (e : lstU st u = some us) : ∃ a vs, x = .ref a ∧ H a = some (.lst vs) ∧ RUs K T F m vs us := by
  unfold lstU at e
  split at e
  · rename_i xs
    cases e
    cases r with
    | d r =>
      cases r with
      | lst q rr => exact ⟨_, _, rfl, hR.sub _ _ q, rr.up⟩
  · rename_i i
    split at e
    · rename_i us' e2
      cases e
      cases r with
      | c q =>
        obtain ⟨a, ho, h1, h2, h3, h4⟩ := hR.obj i _ e2
        rw [q] at h1
        cases h1
        cases h4 with
        | lst rr => exact ⟨_, _, rfl, h2, rr⟩
    · cases e
  · cases e
theorem RUs.ints : ∀ ns : List Int, RUs K T F m (ns.map V.int) (ns.map fun n => .d (.int n))
  | [] => .nil
  | n :: ns => .cons (.d (.int n)) (RUs.ints ns)
theorem scrU_ok (hR : Rl K T F m st H) (r : RU K T F m x u) {us : List U} (e : scrU st u = some us) : ∃ a vs, x = .ref a ∧ SqL K H a vs ∧ RUs K T F m vs us := by
  unfold scrU at e
  split at e
  · rename_i ns
    cases e
    cases r with
    | d r =>
      cases r with
      | scr q => exact ⟨_, _, rfl, Same.seq hR.sub q, RUs.ints ns⟩
  · obtain ⟨a, vs, h1, h2, h3⟩ := lstU_ok hR r e
    exact ⟨a, vs, h1, SqL.of h2, h3⟩
theorem tupU_ok (hR : Rl K T F m st H) (r : RU K T F m x u) {us : List U} (e : tupU u = some us) : ∃ a vs, x = .ref a ∧ SqT K H a vs ∧ RUs K T F m vs us := by
  unfold tupU at e
  split at e
  · rename_i xs
    cases e
    cases r with
    | d r =>
      cases r with
      | tup q rr => exact ⟨_, _, rfl, sqT_same hR.sub q, rr.up⟩
  · cases e
    cases r with
    | t q rr => exact ⟨_, _, rfl, sqT_same hR.sub q, rr⟩
  · cases e
theorem zip_paired {R : V → U → Prop} : ∀ {ks : List Key} {vs : List V} {us : List U}, ks.length = vs.length → (∀ (i : Nat) (u : U), us[i]? = some u → ∃ v : V, vs[i]? = some v ∧ R v u) → us.length = vs.length →
    Paired (fun p q => p.1 = q.1 ∧ R p.2 q.2) (ks.zip vs) (ks.zip us)
  | [], vs, us, _, _, _ => .nil
  | k :: ks, [], us, h, _, _ => by simp at h
  | k :: ks, v :: vs, [], _, _, h => by simp at h
  | k :: ks, v :: vs, u :: us, h, g, h2 => by
    obtain ⟨v', e, r⟩ := g 0 u rfl
    cases e
    exact .cons ⟨rfl, r⟩ (zip_paired (by simpa using h) (fun i u e => by simpa using g (i + 1) u (by simpa using e)) (by simpa using h2))
theorem dctU_ok (hR : Rl K T F m st H) (r : RU K T F m x u) {kus : List (Key × U)} (e : dctU st u = some kus) : ∃ a kvs, x = .ref a ∧ H a = some (.dK kvs) ∧ Paired (fun p q => p.1 = q.1 ∧ RU K T F m p.2 q.2) kvs kus := by
  unfold dctU at e
  split at e
  · rename_i ks xs
    cases e
    cases r with
    | d r =>
      cases r with
      | dct q l rr =>
        have r2 : RUs K T F m _ (xs.map .d) := rr.up
        exact ⟨_, _, rfl, hR.sub _ _ q, zip_paired l (fun i u e => r2.get e) r2.len.symm⟩
  · rename_i i
    split at e
    · rename_i us' e2
      cases e
      cases r with
      | c q =>
        obtain ⟨a, ho, h1, h2, h3, h4⟩ := hR.obj i _ e2
        rw [q] at h1
        cases h1
        cases h4 with
        | dct rr => exact ⟨_, _, rfl, h2, rr⟩
    · cases e
  · cases e
end

/-! ### new objects -/
/-- a new list: closed at once, or a cell -/
def newL (fz : Bool) (us : List U) (st : Sto) : Re U :=
  match fz, closed us with
  | true, some xs => .ok (.d (.lst xs)) st
  | _, _ => .ok (.c st.length) (st ++ [.lst us])
def newT (us : List U) (st : Sto) : Re U :=
  match closed us with
  | some xs => .ok (.d (.tup xs)) st
  | none => .ok (.t us) st
section
variable {K : PySem.W.Frag} {T : Tab} {W : WX} {F : Hp} {m : List Addr} {st : Sto} {H : Hp} {σ : St} {Q : VK} {vs : List V} {us : List U}
theorem newL_go {fz : Bool} (hR : Rl K T F m st H) (r : RUs K T F m vs us) (g : GoE K T W F m σ (newL fz us st) Q) : ∀ p, H p = none → Q (.ref p) (upd H p (.lst vs)) := by
  intro p hp
  unfold newL at g
  split at g
  · rename_i xs e
    have hs := same_upd (o := .lst vs) (hR.free hp)
    exact g _ m _ _ hs (pre_refl _) (hR.froze hp (.lst vs)) (.d (.lst upd_same ((r.closed e).mono hs)))
  · have hm : m <+: m ++ [p] := ⟨[p], rfl⟩
    refine g F (m ++ [p]) _ _ (Same.refl _) hm (hR.cell hp (.lst r)) (.c ?_)
    rw [← hR.len, List.getElem?_append_right (Nat.le_refl _), Nat.sub_self]
    rfl
theorem newT_go (hR : Rl K T F m st H) (r : RUs K T F m vs us) (g : GoE K T W F m σ (newT us st) Q) : ∀ p, H p = none → Q (.ref p) (upd H p (.tup vs)) := by
  intro p hp
  have hs := same_upd (o := .tup vs) (hR.free hp)
  unfold newT at g
  split at g
  · rename_i xs e
    exact g _ m _ _ hs (pre_refl _) (hR.froze hp (.tup vs)) (.d (.tup (SqT.of upd_same) ((r.closed e).mono hs)))
  · exact g _ m _ _ hs (pre_refl _) (hR.froze hp (.tup vs)) (.t (SqT.of upd_same) (r.mono hs (pre_refl _)))
theorem newL_calm {fz : Bool} {us : List U} {st : Sto} (e : Ex) (s' : Sto) : newL fz us st ≠ .exc e s' := by
  unfold newL
  split <;> exact fun z => nomatch z
theorem newT_calm {us : List U} {st : Sto} (e : Ex) (s' : Sto) : newT us st ≠ .exc e s' := by
  unfold newT
  split <;> exact fun z => nomatch z
end

/-! ### whole numbers -/
def intOp (C : Int → Int → Bool) (g : Int → Int → Int) : U → U → Sto → Re U := fun u w st =>
  match u, w with
  | .d (.int i), .d (.int j) => if C i j then .ok (.d (.int (g i j))) st else .bad
  | _, _ => .bad
def cmpOp (g : Int → Int → Bool) : U → U → Sto → Re U := fun u w st =>
  match u, w with
  | .d (.int i), .d (.int j) => .ok (.d (.bl (g i j))) st
  | _, _ => .bad
theorem intOp_calm {C : Int → Int → Bool} {g : Int → Int → Int} : Calm2 (intOp C g) := by
  intro u w st e s'
  unfold intOp
  split
  · split <;> exact fun z => nomatch z
  · exact fun z => nomatch z
theorem cmpOp_calm {g : Int → Int → Bool} : Calm2 (cmpOp g) := by
  intro u w st e s'
  unfold cmpOp
  split <;> exact fun z => nomatch z
section
variable {X : Cx} {T : Tab} {f : Value → Value → Sem Value}
theorem op_intOp {C : Int → Int → Bool} {P : Int → Int → Prop} {g : Int → Int → Int} (h : OpR X f (rI P fun i j => .int (g i j))) (hc : ∀ i j, C i j = true → P i j) : OpR X f (ok2 X.K T (intOp C g)) := by
  intro pins s σ H x y v u Q I rx ry hh
  obtain ⟨F, m, st, a, b, hR, qa, qb, k⟩ := hh
  unfold intOp at k
  split at k
  · rename_i i j
    split at k
    · rename_i hcc
      cases qa with
      | d qa =>
        cases qb with
        | d qb =>
          cases qa
          cases qb
          exact h pins s σ H _ _ v u Q I rx ry ⟨i, j, rfl, rfl, hc i j hcc, k F m H _ (Same.refl _) (pre_refl _) hR (.d (.int _))⟩
    · exact k.elim
  · exact k.elim
theorem op_intOp0 {g : Int → Int → Int} (h : OpR X f (rI0 fun i j => .int (g i j))) : OpR X f (ok2 X.K T (intOp (fun _ _ => true) g)) :=
  op_intOp (P := fun _ _ => True) (fun pins s σ H x y v u Q I rx ry ⟨i, j, h1, h2, _, q⟩ => h pins s σ H x y v u Q I rx ry ⟨i, j, h1, h2, q⟩) fun _ _ _ => trivial
theorem op_cmpOp {g : Int → Int → Bool} (h : OpR X f (rI0 fun i j => .bl (g i j))) : OpR X f (ok2 X.K T (cmpOp g)) := by
  intro pins s σ H x y v u Q I rx ry hh
  obtain ⟨F, m, st, a, b, hR, qa, qb, k⟩ := hh
  unfold cmpOp at k
  split at k
  · rename_i i j
    cases qa with
    | d qa =>
      cases qb with
      | d qb =>
        cases qa
        cases qb
        exact h pins s σ H _ _ v u Q I rx ry ⟨i, j, rfl, rfl, k F m H _ (Same.refl _) (pre_refl _) hR (.d (.bl _))⟩
  · exact k.elim
end
/-- a factor is small -/
def smallF (i : Int) : Bool := decide (-18446744073709551616 < i) && decide (i < 18446744073709551616)
def cMulOk (i j : Int) : Bool := smallF i || smallF j
def cDivOk (i j : Int) : Bool := decide (0 < j) && decide (j.natAbs.log2 < 9000)
def cModOk (i j : Int) : Bool := decide (0 < j)
def cPowOk (i j : Int) : Bool := decide (0 ≤ j) && (decide (j ≤ 1000000) && decide (i.natAbs < 18446744073709551616))
def cShrOk (i j : Int) : Bool := decide (0 ≤ j)
def subU := intOp (fun _ _ => true) fun i j => i - j
def fdivU := intOp cDivOk fun i j => i / j
def modU := intOp cModOk fun i j => i % j
def cPow2Ok (i j : Int) : Bool := decide (0 ≤ j) && (cPowOk i j || decide ((Builtin.Int.intBits i : Int) * j ≤ 134217728))
def powU := intOp cPow2Ok fun i j => i ^ j.toNat
def shlU := intOp cPowOk fun i j => i * 2 ^ j.toNat
def shrU := intOp cShrOk fun i j => i / 2 ^ j.toNat
def andU := intOp (fun _ _ => true) Builtin.bitAnd
def orU := intOp (fun _ _ => true) Builtin.bitOr
def xorU := intOp (fun _ _ => true) Builtin.bitXor
def ltU := cmpOp fun i j => decide (i < j)
def leU := cmpOp fun i j => decide (i ≤ j)
def gtU := cmpOp fun i j => decide (j < i)
def geU := cmpOp fun i j => decide (j ≤ i)
theorem smallF_ok {i : Int} (h : smallF i = true) : -(2 ^ 64) < i ∧ i < 2 ^ 64 := by
  unfold smallF at h
  rw [Bool.and_eq_true, decide_eq_true_iff, decide_eq_true_iff] at h
  omega
theorem cPowOk_ok {i j : Int} (h : cPowOk i j = true) : CPow i j := by
  unfold cPowOk at h
  rw [Bool.and_eq_true, Bool.and_eq_true, decide_eq_true_iff, decide_eq_true_iff, decide_eq_true_iff] at h
  unfold CPow
  omega
section
variable {X : Cx} {T : Tab}
theorem or_sub : OpR X (binaryOp .Sub) (ok2 X.K T subU) := op_intOp0 op_sub
theorem or_fdiv : OpR X (binaryOp .FloorDiv) (ok2 X.K T fdivU) := op_intOp op_fdivW fun i j h => by
  unfold cDivOk at h
  rw [Bool.and_eq_true, decide_eq_true_iff, decide_eq_true_iff] at h
  exact h
theorem or_mod : OpR X (binaryOp .Mod) (ok2 X.K T modU) := op_intOp op_mod fun i j h => of_decide_eq_true h
theorem or_pow : OpR X (binaryOp .Pow) (ok2 X.K T powU) := op_intOp (P := fun i j => 0 ≤ j ∧ (Builtin.Int.intBits i : Int) * j ≤ 2 ^ 27) (opI fun _ _ _ _ _ _ _ hc q => PyProof.Rows.pow_int hc.1 hc.2 q) fun i j h => by
  unfold cPow2Ok at h
  rw [Bool.and_eq_true, Bool.or_eq_true, decide_eq_true_iff, decide_eq_true_iff] at h
  refine ⟨h.1, ?_⟩
  rcases h.2 with h2 | h2
  · obtain ⟨z1, z2, z3⟩ := cPowOk_ok h2
    exact PyProof.Rows.bits_mul_le z3 z1 z2
  · exact h2
theorem or_shl : OpR X (binaryOp .LShift) (ok2 X.K T shlU) := op_intOp op_shl fun i j h => cPowOk_ok h
theorem or_shr : OpR X (binaryOp .RShift) (ok2 X.K T shrU) := op_intOp op_shr fun i j h => of_decide_eq_true h
theorem or_and : OpR X (binaryOp .BitAnd) (ok2 X.K T andU) := op_intOp0 op_and
theorem or_or : OpR X (binaryOp .BitOr) (ok2 X.K T orU) := op_intOp0 op_or
theorem or_xor : OpR X (binaryOp .BitXor) (ok2 X.K T xorU) := op_intOp0 op_xor
theorem or_lt : OpR X (compareOp .Lt) (ok2 X.K T ltU) := op_cmpOp op_lt
theorem or_le : OpR X (compareOp .LtE) (ok2 X.K T leU) := op_cmpOp op_le
theorem or_gt : OpR X (compareOp .Gt) (ok2 X.K T gtU) := op_cmpOp op_gt
theorem or_ge : OpR X (compareOp .GtE) (ok2 X.K T geU) := op_cmpOp op_ge
end

/-! ### + and * -/
def addU (fz : Bool) : U → U → Sto → Re U := fun u w st =>
  match u, w with
  | .d (.int i), .d (.int j) => .ok (.d (.int (i + j))) st
  | .d (.str a), .d (.str b) => if a.length + b.length ≤ lim then .ok (.d (.str (a ++ b))) st else .bad
  | u, w => match lstU st u, lstU st w with
    | some xs, some ys => if xs.length + ys.length ≤ lim then newL fz (xs ++ ys) st else .bad
    | _, _ => .bad
def mulU (fz : Bool) : U → U → Sto → Re U := fun u w st =>
  match u, w with
  | .d (.int i), .d (.int j) => if cMulOk i j then .ok (.d (.int (i * j))) st else .bad
  | u, .d (.int k) => match lstU st u with
    | some xs => if -(2 ^ 63) ≤ k ∧ k < 2 ^ 63 ∧ xs.length * k.toNat ≤ lim then newL fz (List.replicate k.toNat xs).flatten st else .bad
    | none => .bad
  | _, _ => .bad
theorem addU_calm {fz : Bool} : Calm2 (addU fz) := by
  intro u w st e s'
  unfold addU
  split
  · exact fun z => nomatch z
  · split <;> exact fun z => nomatch z
  · split
    · split
      · exact newL_calm e s'
      · exact fun z => nomatch z
    · exact fun z => nomatch z
theorem mulU_calm {fz : Bool} : Calm2 (mulU fz) := by
  intro u w st e s'
  unfold mulU
  split
  · split <;> exact fun z => nomatch z
  · split
    · split
      · exact newL_calm e s'
      · exact fun z => nomatch z
    · exact fun z => nomatch z
  · exact fun z => nomatch z
theorem RUs.rep {K : PySem.W.Frag} {T : Tab} {F : Hp} {m : List Addr} {vs : List V} {us : List U} (r : RUs K T F m vs us) : ∀ k : Nat, RUs K T F m (List.replicate k vs).flatten (List.replicate k us).flatten
  | 0 => .nil
  | k + 1 => by
    rw [List.replicate_succ, List.replicate_succ, List.flatten_cons, List.flatten_cons]
    exact r.app (r.rep k)
section
variable {X : Cx} {T : Tab}
theorem or_add {fz : Bool} : OpR X (binaryOp .Add) (ok2 X.K T (addU fz)) := by
  intro pins s σ H x y v u Q I rx ry hh
  obtain ⟨F, m, st, a, b, hR, qa, qb, k⟩ := hh
  unfold addU at k
  split at k
  · cases qa with
    | d qa =>
      cases qb with
      | d qb =>
        cases qa
        cases qb
        exact op_add pins s σ H _ _ v u Q I rx ry ⟨_, _, rfl, rfl, k F m H _ (Same.refl _) (pre_refl _) hR (.d (.int _))⟩
  · split at k
    · rename_i hl
      cases qa with
      | d qa =>
        cases qb with
        | d qb =>
          cases qa
          cases qb
          exact op_add_str pins s σ H _ _ v u Q I rx ry ⟨_, _, rfl, rfl, by rw [← lim_eq]; exact hl, k F m H _ (Same.refl _) (pre_refl _) hR (.d (.str _))⟩
    · exact k.elim
  · split at k
    · rename_i xs ys e1 e2
      split at k
      · rename_i hl
        obtain ⟨l1, vs, rfl, h1, r1⟩ := lstU_ok hR qa e1
        obtain ⟨l2, ws, rfl, h2, r2⟩ := lstU_ok hR qb e2
        exact op_cat pins s σ H _ _ v u Q I rx ry ⟨l1, l2, vs, ws, rfl, rfl, h1, h2, by rw [← lim_eq, r1.len, r2.len]; exact hl, newL_go hR (r1.app r2) k⟩
      · exact k.elim
    · exact k.elim
theorem or_mul {fz : Bool} : OpR X (binaryOp .Mult) (ok2 X.K T (mulU fz)) := by
  intro pins s σ H x y v u Q I rx ry hh
  obtain ⟨F, m, st, a, b, hR, qa, qb, k⟩ := hh
  unfold mulU at k
  split at k
  · split at k
    · rename_i hl
      cases qa with
      | d qa =>
        cases qb with
        | d qb =>
          cases qa
          cases qb
          refine op_mul pins s σ H _ _ v u Q I rx ry ⟨_, _, rfl, rfl, ?_, k F m H _ (Same.refl _) (pre_refl _) hR (.d (.int _))⟩
          unfold cMulOk at hl
          rw [Bool.or_eq_true] at hl
          exact hl.imp smallF_ok smallF_ok
    · exact k.elim
  · split at k
    · rename_i xs e1
      split at k
      · rename_i hl
        obtain ⟨l1, vs, rfl, h1, r1⟩ := lstU_ok hR qa e1
        cases qb with
        | d qb =>
          cases qb
          exact op_rep pins s σ H _ _ v u Q I rx ry ⟨l1, _, vs, rfl, rfl, h1, hl.1, hl.2.1, by rw [← lim_eq, r1.len]; exact hl.2.2, newL_go hR (r1.rep _) k⟩
      · exact k.elim
    · exact k.elim
  · exact k.elim
end
end KB
/-! Comparisons, readers, built-in functions. -/
namespace KB
open PySem L2

/-! ### data as the library tells it -/
mutual
def pyD : D → Option PyData
  | .non => some .none
  | .bl b => some (.bool b)
  | .int i => some (.int i)
  | .str x => some (.str x)
  | .tup xs => (pyDs xs).map .tuple
  | .lst xs => (pyDs xs).map .list
  | .scr ns => some (.list (ns.map .int))
  | _ => none
def pyDs : List D → Option (List PyData)
  | [] => some []
  | x :: xs => (pyD x).bind fun p => (pyDs xs).map (p :: ·)
end
def pyAll (f : U → Option PyData) : List U → Option (List PyData)
  | [] => some []
  | u :: us => (f u).bind fun p => (pyAll f us).map (p :: ·)
def pyU (st : Sto) : Nat → U → Option PyData
  | _, .d x => pyD x
  | n + 1, .t us => (pyAll (pyU st n) us).map .tuple
  | n + 1, .c i => match st[i]? with
    | some (.lst us) => (pyAll (pyU st n) us).map .list
    | _ => none
  | 0, _ => none
section
variable {K : PySem.W.Frag} {T : Tab} {F : Hp} {m : List Addr} {st : Sto} {H : Hp}
theorem dpAll_ints : ∀ ns : List Int, DpAll K H (ns.map V.int) (ns.map .int)
  | [] => .nil
  | n :: ns => .cons (.int n) (dpAll_ints ns)
mutual
theorem pyD_ok : ∀ (x : D) {v : V} {p : PyData}, RD K T H v x → pyD x = some p → Dp K H v p
  | .non, _, _, r, e => by
    simp only [pyD] at e
    cases e
    cases r
    exact .non
  | .bl b, _, _, r, e => by
    simp only [pyD] at e
    cases e
    cases r
    exact .bl b
  | .int i, _, _, r, e => by
    simp only [pyD] at e
    cases e
    cases r
    exact .int i
  | .str x, _, _, r, e => by
    simp only [pyD] at e
    cases e
    cases r
    exact .str x
  | .tup xs, _, _, r, e => by
    simp only [pyD] at e
    cases h : pyDs xs with
    | none =>
      rw [h] at e
      cases e
    | some ps =>
      rw [h] at e
      cases e
      cases r with
      | tup q rr => exact .tup q (pyDs_ok xs rr h)
  | .lst xs, _, _, r, e => by
    simp only [pyD] at e
    cases h : pyDs xs with
    | none =>
      rw [h] at e
      cases e
    | some ps =>
      rw [h] at e
      cases e
      cases r with
      | lst q rr => exact .lst (SqL.of q) (pyDs_ok xs rr h)
  | .scr ns, _, _, r, e => by
    simp only [pyD] at e
    cases e
    cases r with
    | scr q => exact .lst q (dpAll_ints ns)
  | .dct _ _, _, _, r, e => by
    simp only [pyD] at e
    cases e
  | .obj _ _ _, _, _, r, e => by
    simp only [pyD] at e
    cases e
  | .exc _ _ _, _, _, r, e => by
    simp only [pyD] at e
    cases e
theorem pyDs_ok : ∀ (xs : List D) {vs : List V} {ps : List PyData}, RDs K T H vs xs → pyDs xs = some ps → DpAll K H vs ps
  | [], _, _, r, e => by
    simp only [pyDs] at e
    cases e
    cases r
    exact .nil
  | x :: xs, _, _, r, e => by
    simp only [pyDs] at e
    cases h1 : pyD x with
    | none =>
      rw [h1] at e
      cases e
    | some p =>
      cases h2 : pyDs xs with
      | none =>
        rw [h1, h2] at e
        cases e
      | some ps =>
        rw [h1, h2] at e
        cases e
        cases r with
        | cons r1 r2 => exact .cons (pyD_ok x r1 h1) (pyDs_ok xs r2 h2)
end
theorem pyAll_ok {f : U → Option PyData} (hf : ∀ (u : U) (v : V) (p : PyData), RU K T F m v u → f u = some p → Dp K H v p) : ∀ (us : List U) {vs : List V} {ps : List PyData}, RUs K T F m vs us → pyAll f us = some ps → DpAll K H vs ps
  | [], _, _, r, e => by
    simp only [pyAll] at e
    cases e
    cases r
    exact .nil
  | u :: us, _, _, r, e => by
    simp only [pyAll] at e
    cases h1 : f u with
    | none =>
      rw [h1] at e
      cases e
    | some p =>
      cases h2 : pyAll f us with
      | none =>
        rw [h1, h2] at e
        cases e
      | some ps =>
        rw [h1, h2] at e
        cases e
        cases r with
        | cons r1 r2 => exact .cons (hf _ _ _ r1 h1) (pyAll_ok hf us r2 h2)
theorem pyU_ok (hR : Rl K T F m st H) : ∀ (n : Nat) (u : U) (v : V) (p : PyData), RU K T F m v u → pyU st n u = some p → Dp K H v p
  | n, .d x, v, p, r, e => by
    cases r with
    | d r => exact pyD_ok x (hR.upD r) (by cases n <;> exact e)
  | 0, .t us, _, _, _, e => by simp [pyU] at e
  | 0, .c i, _, _, _, e => by simp [pyU] at e
  | n + 1, .t us, v, p, r, e => by
    simp only [pyU] at e
    cases h : pyAll (pyU st n) us with
    | none =>
      rw [h] at e
      cases e
    | some ps =>
      rw [h] at e
      cases e
      cases r with
      | t q rr => exact .tup (sqT_same hR.sub q) (pyAll_ok (pyU_ok hR n) us rr h)
  | n + 1, .c i, v, p, r, e => by
    simp only [pyU] at e
    split at e
    · rename_i us hs
      cases h : pyAll (pyU st n) us with
      | none =>
        rw [h] at e
        cases e
      | some ps =>
        rw [h] at e
        cases e
        obtain ⟨a, vs, rfl, h1, h2⟩ := lstU_ok hR r (us := us) (by simp only [lstU, hs])
        exact .lst (SqL.of h1) (pyAll_ok (pyU_ok hR n) us h2 h)
    · cases e
end

/-! ### == and repr -/
/-- two lists of other lengths -/
def lenD (st : Sto) (u w : U) : Bool := match lstU st u, lstU st w with
  | some xs, some ys => decide (xs.length ≠ ys.length)
  | _, _ => false
def eqU : U → U → Sto → Re U := fun u w st =>
  match u, w with
  | .d (.str a), .d (.str b) => .ok (.d (.bl (a == b))) st
  | u, w => match pyU st 4 u, pyU st 4 w with
    | some p, some q => if SeqAt.shaped p && SeqAt.shaped q then .ok (.d (.bl (PyData.eqv p q))) st else .bad
    | _, _ => if lenD st u w then .ok (.d (.bl false)) st else .bad
def neU : U → U → Sto → Re U := fun u w st =>
  match u, w with
  | .d (.str a), .d (.str b) => .ok (.d (.bl (!(a == b)))) st
  | u, w => match pyU st 4 u, pyU st 4 w with
    | some p, some q => if SeqAt.shaped p && SeqAt.shaped q then .ok (.d (.bl (!PyData.eqv p q))) st else .bad
    | _, _ => if lenD st u w then .ok (.d (.bl true)) st else .bad
theorem eqU_calm : Calm2 eqU := by
  intro u w st e s'
  unfold eqU
  split
  · exact fun z => nomatch z
  · split
    · split <;> exact fun z => nomatch z
    · split <;> exact fun z => nomatch z
theorem neU_calm : Calm2 neU := by
  intro u w st e s'
  unfold neU
  split
  · exact fun z => nomatch z
  · split
    · split <;> exact fun z => nomatch z
    · split <;> exact fun z => nomatch z
theorem dec_str (a b : Str) : decide (V.str a = V.str b) = (a == b) := by
  by_cases h : a = b
  · subst h
    simp
  · have h2 : ¬ V.str a = V.str b := fun z => h (V.str.inj z)
    rw [decide_eq_false h2]
    exact (beq_eq_false_iff_ne.mpr h).symm
section
variable {X : Cx} {T : Tab}
theorem lenD_ok {F : Hp} {st : Sto} {H : Hp} {m : List Addr} {x y : V} {a b : U} (hR : Rl X.K T F m st H) (qa : RU X.K T F m x a) (qb : RU X.K T F m y b) (h : lenD st a b = true) :
    ∃ p q xs ys, x = .ref p ∧ y = .ref q ∧ H p = some (.lst xs) ∧ H q = some (.lst ys) ∧ xs.length ≠ ys.length := by
  unfold lenD at h
  split at h
  · rename_i us ws h1 h2
    obtain ⟨p, vs, rfl, g1, g2⟩ := lstU_ok hR qa h1
    obtain ⟨q, ws2, rfl, g3, g4⟩ := lstU_ok hR qb h2
    rw [decide_eq_true_iff, ← g2.len, ← g4.len] at h
    exact ⟨p, q, _, _, rfl, rfl, g1, g3, h⟩
  · cases h
theorem Vals.len2 : ∀ {vs : List V} {us : List Value}, Vals vs us → vs.length = us.length
  | _, _, .nil => rfl
  | _, _, .cons _ r => by simp [Vals.len2 r]
theorem op_neLen (hu : X.A.units < cLine) : OpR X (compareOp .NotEq) (fun x y H Q => ∃ p q xs ys, x = .ref p ∧ y = .ref q ∧ H p = some (.lst xs) ∧ H q = some (.lst ys) ∧ xs.length ≠ ys.length ∧ Q (.bl true) H) := by
  intro pins s σ H x y v u Q I rx ry h
  obtain ⟨p, q, xs, ys, rfl, rfl, h1, h2, h3, k⟩ := h
  cases rx
  cases ry
  obtain ⟨i1, r1, ⟨_, n1, a1, b1, _, d1⟩, _⟩ := I.list (SqL.of h1)
  obtain ⟨i2, r2, ⟨_, n2, a2, b2, _, d2⟩, _⟩ := I.list (SqL.of h2)
  have l1 : s.heap.IsList p i1.toArray := ⟨_, a1, b1, _, d1⟩
  have l2 : s.heap.IsList q i2.toArray := ⟨_, a2, b2, _, d2⟩
  have e1 := Vals.len2 r1
  have e2 := Vals.len2 r2
  exact SeqAt.RcNeAt.lists_lengths l1 l2 (by simp; omega) hu _ _ _ _ ⟨.bl true, H, I, rfl, k⟩
theorem op_eqLen (hu : X.A.units < cLine) : OpR X (compareOp .Eq) (fun x y H Q => ∃ p q xs ys, x = .ref p ∧ y = .ref q ∧ H p = some (.lst xs) ∧ H q = some (.lst ys) ∧ xs.length ≠ ys.length ∧ Q (.bl false) H) := by
  intro pins s σ H x y v u Q I rx ry h
  obtain ⟨p, q, xs, ys, rfl, rfl, h1, h2, h3, k⟩ := h
  cases rx
  cases ry
  obtain ⟨i1, r1, ⟨_, n1, a1, b1, _, d1⟩, _⟩ := I.list (SqL.of h1)
  obtain ⟨i2, r2, ⟨_, n2, a2, b2, _, d2⟩, _⟩ := I.list (SqL.of h2)
  have l1 : s.heap.IsList p i1.toArray := ⟨_, a1, b1, _, d1⟩
  have l2 : s.heap.IsList q i2.toArray := ⟨_, a2, b2, _, d2⟩
  have e1 := Vals.len2 r1
  have e2 := Vals.len2 r2
  exact SeqAt.RcAt.lists_lengths l1 l2 (by simp; omega) hu _ _ _ _ ⟨.bl false, H, I, rfl, k⟩
theorem or_eq (hu : X.A.units + 64 < cLine) : OpR X (compareOp .Eq) (ok2 X.K T eqU) := by
  intro pins s σ H x y v u Q I rx ry hh
  obtain ⟨F, m, st, a, b, hR, qa, qb, k⟩ := hh
  unfold eqU at k
  split at k
  · cases qa with
    | d qa =>
      cases qb with
      | d qb =>
        cases qa
        cases qb
        have q := k F m H _ (Same.refl _) (pre_refl _) hR (.d (.bl _))
        rw [← dec_str] at q
        exact op_eq pins s σ H _ _ v u Q I rx ry ⟨rfl, q⟩
  · split at k
    · rename_i p q h1 h2
      split at k
      · rename_i hs
        rw [Bool.and_eq_true] at hs
        exact op_eqD hu pins s σ H x y v u Q I rx ry ⟨p, q, pyU_ok hR 4 a x p qa h1, pyU_ok hR 4 b y q qb h2, hs.1, hs.2, k F m H _ (Same.refl _) (pre_refl _) hR (.d (.bl _))⟩
      · exact k.elim
    · split at k
      · rename_i hd
        obtain ⟨p, q, xs, ys, g1, g2, g3, g4, g5⟩ := lenD_ok hR qa qb hd
        exact op_eqLen (by omega) pins s σ H x y v u Q I rx ry ⟨p, q, xs, ys, g1, g2, g3, g4, g5, k F m H _ (Same.refl _) (pre_refl _) hR (.d (.bl _))⟩
      · exact k.elim
theorem or_ne (hu : X.A.units + 64 < cLine) : OpR X (compareOp .NotEq) (ok2 X.K T neU) := by
  intro pins s σ H x y v u Q I rx ry hh
  obtain ⟨F, m, st, a, b, hR, qa, qb, k⟩ := hh
  unfold neU at k
  split at k
  · cases qa with
    | d qa =>
      cases qb with
      | d qb =>
        cases qa
        cases qb
        have q := k F m H _ (Same.refl _) (pre_refl _) hR (.d (.bl _))
        rw [← dec_str] at q
        exact op_ne pins s σ H _ _ v u Q I rx ry ⟨rfl, q⟩
  · split at k
    · rename_i p q h1 h2
      split at k
      · rename_i hs
        rw [Bool.and_eq_true] at hs
        exact op_neD hu pins s σ H x y v u Q I rx ry ⟨p, q, pyU_ok hR 4 a x p qa h1, pyU_ok hR 4 b y q qb h2, hs.1, hs.2, k F m H _ (Same.refl _) (pre_refl _) hR (.d (.bl _))⟩
      · exact k.elim
    · split at k
      · rename_i hd
        obtain ⟨p, q, xs, ys, g1, g2, g3, g4, g5⟩ := lenD_ok hR qa qb hd
        exact op_neLen (by omega) pins s σ H x y v u Q I rx ry ⟨p, q, xs, ys, g1, g2, g3, g4, g5, k F m H _ (Same.refl _) (pre_refl _) hR (.d (.bl _))⟩
      · exact k.elim
end
def reprU : U → Sto → Re U := fun u st =>
  match pyU st 4 u with
  | some p => if (p.showable && !p.hasDict) && (decide (p.depth ≤ 100) && decide (p.shown.length ≤ lim)) then .ok (.d (.str p.shown)) st else .bad
  | none => .bad
def list1 (f : U → Sto → Re U) : List U → Sto → Re U := fun us st =>
  match us with
  | [u] => f u st
  | _ => .bad
def list2 (f : U → U → Sto → Re U) : List U → Sto → Re U := fun us st =>
  match us with
  | [u, w] => f u w st
  | _ => .bad
theorem list1_calm {f : U → Sto → Re U} (h : Calm1 f) : CalmN (list1 f) := by
  intro us st e s'
  unfold list1
  split
  · exact h _ _ _ _
  · exact fun z => nomatch z
theorem list2_calm {f : U → U → Sto → Re U} (h : Calm2 f) : CalmN (list2 f) := by
  intro us st e s'
  unfold list2
  split
  · exact h _ _ _ _ _
  · exact fun z => nomatch z
theorem reprU_calm : Calm1 reprU := by
  intro u st e s'
  unfold reprU
  split
  · split <;> exact fun z => nomatch z
  · exact fun z => nomatch z
/-- one argument -/
theorem okN_one {K : PySem.W.Frag} {T : Tab} {f : U → Sto → Re U} {xs : List V} {H : Hp} {Q : VK} (h : okN K T (list1 f) xs H Q) : ∃ x, xs = [x] ∧ ok1 K T f x H Q := by
  obtain ⟨F, m, st, us, hR, r, g⟩ := h
  unfold list1 at g
  split at g
  · cases r with
    | cons r1 r2 =>
      cases r2
      exact ⟨_, rfl, F, m, st, _, hR, r1, g⟩
  · exact g.elim
theorem okN_two {K : PySem.W.Frag} {T : Tab} {f : U → U → Sto → Re U} {xs : List V} {H : Hp} {Q : VK} (h : okN K T (list2 f) xs H Q) : ∃ x y, xs = [x, y] ∧ ok2 K T f x y H Q := by
  obtain ⟨F, m, st, us, hR, r, g⟩ := h
  unfold list2 at g
  split at g
  · cases r with
    | cons r1 r2 =>
      cases r2 with
      | cons r2 r3 =>
        cases r3
        exact ⟨_, _, rfl, F, m, st, _, _, hR, r1, r2, g⟩
  · exact g.elim
section
variable {X : Cx} {T : Tab}
theorem cr_repr (hg : X.A.guards = some []) (hu : X.A.units + 200 < cLine) : CallR X (.builtin "repr") (okN X.K T (list1 reprU)) := by
  intro pins s σ H xs us Q I r h
  obtain ⟨x, rfl, hh⟩ := okN_one h
  obtain ⟨u, rfl, rx⟩ := vals1 r
  obtain ⟨F, m, st, a, hR, qa, k⟩ := hh
  unfold reprU at k
  split at k
  · rename_i p h1
    split at k
    · rename_i hc
      rw [Bool.and_eq_true, Bool.and_eq_true, Bool.and_eq_true, Bool.not_eq_true', decide_eq_true_iff, decide_eq_true_iff] at hc
      obtain ⟨⟨c1, c2⟩, c3, c4⟩ := hc
      have hl : p.shown.length ≤ sizeLine := by rw [← lim_eq]; exact c4
      have hd := pyU_ok hR 4 a x p qa h1
      obtain ⟨as, rd⟩ := Dp.reads I p x u hd rx
      have fin : ∀ (h' : Heap) (t : Tok) (tk : Nat), (∀ b o, s.heap.get? b = some o → h'.get? b = some o) → EP X pins σ Q (.str p.shown t) { s with heap := h', toks := tk } := fun h' t tk kp =>
        ⟨.str p.shown, H, I.kept kp, ⟨t, rfl⟩, k F m H _ (Same.refl _) (pre_refl _) hR (.d (.str _))⟩
      have atoms : ∀ {z : Str} (t : Tok) (tk : Nat), z = p.shown → EP X pins σ Q (.str z t) { s with toks := tk } := fun t tk e => by
        subst e
        exact fin s.heap t tk fun _ _ q => q
      cases hd with
      | non =>
        cases rx
        exact PySem.P.repr_of_none (atoms _ _ rfl)
      | bl b =>
        cases rx
        exact PySem.P.repr_of_bool (atoms _ _ (by cases b <;> rfl))
      | int i =>
        obtain ⟨t, rfl⟩ := rx
        exact PySem.P.repr_of_int (of_decide_eq_true c1) (atoms _ _ rfl)
      | str z =>
        obtain ⟨t, rfl⟩ := rx
        exact PySem.P.repr_of_str (atoms _ _ rfl) hl
      | lst h1 h2 =>
        cases rx
        exact repr_of_reads' rd c1 (fun z => by rw [c2] at z; cases z) hg (by omega) (fun _ _ q => q) fin hl
      | tup h1 h2 =>
        cases rx
        exact repr_of_reads' rd c1 (fun z => by rw [c2] at z; cases z) hg (by omega) (fun _ _ q => q) fin hl
    · exact k.elim
  · exact k.elim
end
end KB
/-! isinstance, items, slices, membership, truth, length. -/
namespace KB
open PySem L2

/-! ### isinstance -/
/-- a class: a built-in one, or one of the text's by its number -/
inductive Cl where
  | ty (n : String) | own (c : Nat)
  deriving DecidableEq
abbrev Kits := List (Cl × Cl × Bool)
def clV (T : Tab) : Cl → Value
  | .ty n => .type n
  | .own c => .ref (T.cls c)
def clR (T : Tab) : Cl → V
  | .ty n => .ty n
  | .own c => .ref (T.cls c)
def lookKit (ks : Kits) (t c : Cl) : Option Bool := (ks.find? fun x => decide (x.1 = t) && decide (x.2.1 = c)).map (·.2.2)
def kitU (ks : Kits) (t : Cl) : List Cl → Option Bool
  | [] => some false
  | c :: cs => match lookKit ks t c with
    | some true => some true
    | some false => kitU ks t cs
    | none => none
/-- a value's class -/
def tyU (st : Sto) : U → Option Cl
  | .d .non => some (.ty "NoneType")
  | .d (.bl _) => some (.ty "bool")
  | .d (.int _) => some (.ty "int")
  | .d (.str _) => some (.ty "str")
  | .d (.tup _) => some (.ty "tuple")
  | .d (.lst _) => some (.ty "list")
  | .d (.dct _ _) => some (.ty "dict")
  | .d (.obj c _ _) => if c < 20 then some (.own c) else none
  | .d (.exc c _ _) => if c < 20 then none else some (.own c)
  | .t _ => some (.ty "tuple")
  | .c i => match st[i]? with
    | some (.lst _) => some (.ty "list")
    | some (.dct _) => some (.ty "dict")
    | some (.ins c _) => if c < 20 then some (.own c) else none
    | none => none
  | _ => none
/-- what the written part says of a class of the text whose instances are asked -/
structure InsOk (K : PySem.W.Frag) (C : Addr) : Prop where
  cl : Cls K C
  ha : PySem.W.findIn K (.ref C) "__class__" = some (some (.builtin "object.__class__"))
  hn : PySem.W.specialIn K (.builtin "object.__class__") "__get__" = some (some (.builtin "getset_descriptor.__get__"))
  htk : PySem.W.takesIn K (.builtin "object.__class__") = some true
  hm : PySem.W.mroIn K C (.type "object") = some true
/-- .. of a class of errors -/
structure ErrOk (K : PySem.W.Frag) (C : Addr) : Prop where
  cl : (PySem.W.clsIn K C).isSome = true
  ga : PySem.W.findIn K (.ref C) "__getattribute__" = some (some (.builtin "BaseException.__getattribute__"))
  gt : PySem.W.findIn K (.ref C) "__getattr__" = some none
  sb : PySem.W.subIn K (.ref C) (.type "BaseException") = some true
  ha : PySem.W.findIn K (.ref C) "__class__" = some (some (.builtin "object.__class__"))
  hn : PySem.W.specialIn K (.builtin "object.__class__") "__get__" = some (some (.builtin "getset_descriptor.__get__"))
  htk : PySem.W.takesIn K (.builtin "object.__class__") = some true
  hm : PySem.W.mroIn K C (.type "object") = some true
/-- .. of all of them: classes from 20 on are errors -/
structure KitOk (K : PySem.W.Frag) (T : Tab) (ks : Kits) (cs : List Nat) : Prop where
  kit : ∀ x ∈ ks, PySem.W.kitOne K (clV T x.1) (clV T x.2.1) = some x.2.2
  ins : ∀ c ∈ cs, c < 20 → InsOk K (T.cls c)
  err : ∀ c ∈ cs, ¬ c < 20 → ErrOk K (T.cls c)
/-- what isinstance asks of a value -/
inductive TyY (K : PySem.W.Frag) (H : Hp) : V → Value → Prop where
  | x {x : V} {t : Value} : TyX K H x t → TyY K H x t
  | e {a C : Addr} {dd : Option Addr} : H a = some (exH (.ref C) dd a) → (dd = none ∨ ∃ d fs, dd = some d ∧ H d = some (.xd fs)) → ErrOk K C → TyY K H (.ref a) (.ref C)
theorem exH_at {P : Program} {w : World} {H : Hp} {h : Heap} {C : Value} {dd : Option Addr} {a : Addr} (hok : HOk P w H h) (he : H a = some (exH C dd a)) : ∃ oe vs, h.get? a = some oe ∧ Zc C dd oe ∧ oe.data = .fields vs := by
  have x : ObjOk P w H h a (.ext fun h => ∃ oe vs, h.get? a = some oe ∧ Zc C dd oe ∧ oe.data = .fields vs) := hok a _ he
  exact x.1
theorem kit_of2 {X : Cx} {pins : List (Addr × Obj)} {σ : St} {H : Hp} {s : Shared} {x : V} {u t : Value} (I : Inv X pins σ H s) (rx : RelV x u) (ty : TyY X.K H x t) : ∃ P : Heap → Prop, PySem.W.KitX X.K u t P ∧ P s.heap ∧ u ≠ .builtin "__main__.__loader__#opaque" := by
  cases ty with
  | x ty => exact kit_of I rx ty
  | @e a C dd h hd k =>
    cases (show u = Value.ref a from rx)
    obtain ⟨oe, vs, h1, h2, h3⟩ := exH_at I.hok h
    have no : PySem.W.notCls oe = true := by
      unfold PySem.W.notCls
      rw [h3]
    have ex : ∃ od, PySem.W.InstAt s.heap a oe C od := by
      rcases hd with rfl | ⟨d, fs, rfl, hx⟩
      · refine ⟨none, h1, h2.1, no, ?_⟩
        rw [h2.2]
        trivial
      · obtain ⟨mA, ⟨o, es, ep, e1, _⟩, _⟩ := (show ObjOk X.prog X.w H s.heap d (.xd fs) from I.hok d _ hx)
        refine ⟨some o, h1, h2.1, no, ?_⟩
        rw [h2.2]
        exact e1
    obtain ⟨od, J⟩ := ex
    exact ⟨_, PySem.W.kitx_exc k.cl k.ga k.gt k.sb k.ha k.hn k.htk k.hm, J, fun z => nomatch z⟩
def rIsiY (K : PySem.W.Frag) : List V → Hp → VK → Prop := fun xs H Q => ∃ (x c : V) (t u : Value) (b : Bool), xs = [x, c] ∧ ClsV c u ∧ TyY K H x t ∧ PySem.W.kitOne K t u = some b ∧ Q (.bl b) H
def rIsiTY (K : PySem.W.Frag) : List V → Hp → VK → Prop := fun xs H Q => ∃ (x : V) (tp : Addr) (cs : List V) (t : Value) (us : List Value) (b : Bool), xs = [x, .ref tp] ∧ H tp = some (.tup cs) ∧ Paired ClsV cs us ∧ TyY K H x t ∧ PySem.W.kitAny K t us = some b ∧ Q (.bl b) H
theorem call_isiY {X : Cx} : CallR X (.builtin "isinstance") (rIsiY X.K) := by
  intro pins s σ H xs us Q I r h
  obtain ⟨x, c, t, u, b, rfl, k, ty, e, q⟩ := h
  obtain ⟨u1, u2, rfl, r1, r2⟩ := vals2 r
  have e2 := k.eq r2
  subst e2
  obtain ⟨P, Z, p, hx⟩ := kit_of2 I r1 ty
  exact PySem.W.kia_one Z I.kIn p e hx fun tk => ⟨.bl b, H, I.tok tk, rfl, q⟩
theorem call_isiTY {X : Cx} : CallR X (.builtin "isinstance") (rIsiTY X.K) := by
  intro pins s σ H xs us Q I r h
  obtain ⟨x, tp, cs, t, ws, b, rfl, hT, k, ty, e, q⟩ := h
  obtain ⟨u1, u2, rfl, r1, r2⟩ := vals2 r
  cases (show u2 = Value.ref tp from r2)
  obtain ⟨P, Z, p, hx⟩ := kit_of2 I r1 ty
  obtain ⟨_, its, rv, o, h1, h2, n, h3⟩ := (show ObjOk X.prog X.w H s.heap tp (.tup cs) from I.hok tp _ hT)
  have e3 := ClsV.all k rv
  subst e3
  obtain ⟨oc, od, dt, sl⟩ := o
  simp only at h2 h3
  subst h2 h3
  exact PySem.W.kia_tup Z I.kIn p h1 e hx fun tk => ⟨.bl b, H, I.tok tk, rfl, q⟩
def ownIn (cs : List Nat) : Cl → Bool
  | .own c => cs.contains c
  | _ => true
def isiU (ks : Kits) (own : List Nat) (cs : List Cl) : U → Sto → Re U := fun u st =>
  match tyU st u with
  | some t => if ownIn own t then (match kitU ks t cs with
    | some b => .ok (.d (.bl b)) st
    | none => .bad) else .bad
  | none => .bad
theorem isiU_calm {ks : Kits} {own : List Nat} {cs : List Cl} : Calm1 (isiU ks own cs) := by
  intro u st e s'
  unfold isiU
  split
  · split
    · split <;> exact fun z => nomatch z
    · exact fun z => nomatch z
  · exact fun z => nomatch z
section
variable {K : PySem.W.Frag} {T : Tab} {F : Hp} {m : List Addr} {st : Sto} {H : Hp} {x : V} {u : U}
theorem tyU_ok (hR : Rl K T F m st H) (r : RU K T F m x u) {t : Cl} (e : tyU st u = some t) (hi : ∀ c, t = .own c → c < 20 → InsOk K (T.cls c)) (he : ∀ c, t = .own c → ¬ c < 20 → ErrOk K (T.cls c)) : TyY K H x (clV T t) := by
  unfold tyU at e
  split at e
  · cases e
    cases r with
    | d r =>
      cases r
      exact .x (.base .non)
  · cases e
    cases r with
    | d r =>
      cases r
      exact .x (.base (.bl _))
  · cases e
    cases r with
    | d r =>
      cases r
      exact .x (.base (.int _))
  · cases e
    cases r with
    | d r =>
      cases r
      exact .x (.base (.str _))
  · cases e
    cases r with
    | d r =>
      cases r with
      | tup q _ =>
        rcases sqT_same hR.sub q with (q | ⟨o, q⟩) | ⟨o, its, n, q, qc, _⟩
        · exact .x (.base (.tup q))
        · exact .x (.fTuple q)
        · exact .x (.kTuple q qc)
  · cases e
    cases r with
    | d r =>
      cases r with
      | lst q _ => exact .x (.base (.lst (hR.sub _ _ q)))
  · cases e
    cases r with
    | d r =>
      cases r with
      | dct q _ _ => exact .x (.base (.dK (hR.sub _ _ q)))
  · split at e
    · rename_i hc
      cases e
      cases r with
      | d r =>
        cases r with
        | obj q _ _ =>
          have z := hi _ rfl hc
          exact .x (.base (.ins (hR.sub _ _ q) z.cl z.ha z.hn z.htk z.hm))
    · cases e
  · split at e
    · cases e
    · rename_i hc
      cases e
      cases r with
      | d r =>
        cases r with
        | exc q dx _ =>
          refine .e (hR.sub _ _ q) ?_ (he _ rfl hc)
          rcases dx with dx | ⟨d, e1, e2, _⟩
          · exact .inl dx.2.2
          · exact .inr ⟨d, _, e1, hR.sub _ _ e2⟩
  · cases e
    cases r with
    | t q _ =>
      rcases sqT_same hR.sub q with (q | ⟨o, q⟩) | ⟨o, its, n, q, qc, _⟩
      · exact .x (.base (.tup q))
      · exact .x (.fTuple q)
      · exact .x (.kTuple q qc)
  · cases r with
    | c q =>
      split at e
      · rename_i hs
        cases e
        obtain ⟨a, ho, h1, h2, h3, h4⟩ := hR.obj _ _ hs
        rw [q] at h1
        cases h1
        cases h4
        exact .x (.base (.lst h2))
      · rename_i hs
        cases e
        obtain ⟨a, ho, h1, h2, h3, h4⟩ := hR.obj _ _ hs
        rw [q] at h1
        cases h1
        cases h4
        exact .x (.base (.dK h2))
      · rename_i hs
        split at e
        · rename_i hc
          cases e
          obtain ⟨a, ho, h1, h2, h3, h4⟩ := hR.obj _ _ hs
          rw [q] at h1
          cases h1
          have z := hi _ rfl hc
          cases h4
          exact .x (.base (.ins h2 z.cl z.ha z.hn z.htk z.hm))
        · cases e
      · cases e
  · cases e
theorem lookKit_ok {ks : Kits} {own : List Nat} (hk : KitOk K T ks own) {t c : Cl} {b : Bool} (e : lookKit ks t c = some b) : PySem.W.kitOne K (clV T t) (clV T c) = some b := by
  unfold lookKit at e
  obtain ⟨x, hx, hb⟩ := Option.map_eq_some_iff.mp e
  have h1 := List.find?_some hx
  rw [Bool.and_eq_true, decide_eq_true_iff, decide_eq_true_iff] at h1
  have h2 := hk.kit x (List.mem_of_find?_eq_some hx)
  rw [h1.1, h1.2, hb] at h2
  exact h2
theorem kitU_ok {ks : Kits} {own : List Nat} (hk : KitOk K T ks own) {t : Cl} : ∀ {cs : List Cl} {b : Bool}, kitU ks t cs = some b → PySem.W.kitAny K (clV T t) (cs.map (clV T)) = some b
  | [], b, e => e
  | c :: cs, b, e => by
    simp only [kitU] at e
    cases h : lookKit ks t c with
    | none =>
      rw [h] at e
      cases e
    | some y =>
      rw [h] at e
      have hq := lookKit_ok hk h
      cases y with
      | true =>
        cases e
        exact kitAny_cons hq (fun z => nomatch z) fun _ => rfl
      | false => exact kitAny_cons hq (fun _ => kitU_ok hk e) fun z => nomatch z
end
theorem clV_R (T : Tab) : ∀ c : Cl, ClsV (clR T c) (clV T c)
  | .ty n => .ty n
  | .own c => .own _
theorem clVs_R (T : Tab) : ∀ cs : List Cl, Paired ClsV (cs.map (clR T)) (cs.map (clV T))
  | [] => .nil
  | c :: cs => .cons (clV_R T c) (clVs_R T cs)

/-! ### items -/
def atU (us : List U) (i : Int) : Option U := atI us i
theorem atU_ok {K : PySem.W.Frag} {T : Tab} {F : Hp} {m : List Addr} {vs : List V} {us : List U} (r : RUs K T F m vs us) {i : Int} {u : U} (e : atI us i = some u) : ∃ v, atI vs i = some v ∧ RU K T F m v u := by
  unfold atI at e ⊢
  rw [r.len]
  cases h : ixN us.length i with
  | none =>
    rw [h] at e
    cases e
  | some j =>
    rw [h] at e
    exact r.get (i := j) e
def keyU : U → Option Key
  | .d (.int i) => some (.inl i)
  | .d (.str x) => some (.inr x)
  | _ => none
theorem keyU_ok {K : PySem.W.Frag} {T : Tab} {F : Hp} {m : List Addr} {x : V} {u : U} (r : RU K T F m x u) {k : Key} (e : keyU u = some k) : x = kV k := by
  unfold keyU at e
  split at e
  · cases e
    cases r with
    | d r =>
      cases r
      rfl
  · cases e
    cases r with
    | d r =>
      cases r
      rfl
  · cases e
def valK (kus : List (Key × U)) (k : Key) : Option U := (kus.find? fun kv => decide (kv.1 = k)).map (·.2)
def putU (kus : List (Key × U)) (k : Key) (u : U) : List (Key × U) :=
  if (kus.any fun kv => decide (kv.1 = k)) = true then kus.map (fun kv => if kv.1 = k then (kv.1, u) else kv) else kus ++ [(k, u)]
section
variable {K : PySem.W.Frag} {T : Tab} {F : Hp} {m : List Addr}
abbrev PK2 (K : PySem.W.Frag) (T : Tab) (F : Hp) (m : List Addr) : List (Key × V) → List (Key × U) → Prop := Paired (fun p q => p.1 = q.1 ∧ RU K T F m p.2 q.2)
theorem valK_ok : ∀ {kvs : List (Key × V)} {kus : List (Key × U)}, PK2 K T F m kvs kus → ∀ (k : Key), (∀ u, valK kus k = some u → ∃ v, valV kvs k = some v ∧ RU K T F m v u) ∧ (valK kus k = none → valV kvs k = none)
  | _, _, .nil, k => ⟨fun u e => by simp [valK] at e, fun _ => rfl⟩
  | (k1, v1) :: kvs, (k2, u2) :: kus, .cons ⟨h1, h2⟩ r, k => by
    obtain ⟨ih1, ih2⟩ := valK_ok r k
    have h1' : k1 = k2 := h1
    subst h1'
    by_cases hk : k1 = k
    · refine ⟨fun u e => ?_, fun e => ?_⟩
      · have : valK ((k1, u2) :: kus) k = some u2 := by simp [valK, List.find?_cons, hk]
        rw [this] at e
        cases e
        exact ⟨v1, by simp [valV, List.find?_cons, hk], h2⟩
      · have : valK ((k1, u2) :: kus) k = some u2 := by simp [valK, List.find?_cons, hk]
        rw [this] at e
        cases e
    · have e1 : valK ((k1, u2) :: kus) k = valK kus k := by simp [valK, List.find?_cons, hk]
      have e2 : valV ((k1, v1) :: kvs) k = valV kvs k := by simp [valV, List.find?_cons, hk]
      rw [e1, e2]
      exact ⟨ih1, ih2⟩
theorem any_ok : ∀ {kvs : List (Key × V)} {kus : List (Key × U)}, PK2 K T F m kvs kus → ∀ (k : Key), (kvs.any fun kv => decide (kv.1 = k)) = (kus.any fun kv => decide (kv.1 = k))
  | _, _, .nil, k => rfl
  | (k1, v1) :: kvs, (k2, u2) :: kus, .cons ⟨h1, h2⟩ r, k => by
    have h1' : k1 = k2 := h1
    subst h1'
    simp only [List.any_cons]
    rw [any_ok r k]
theorem paired_app {α β : Type} {R : α → β → Prop} : ∀ {a : List α} {b : List β} {c : List α} {d : List β}, Paired R a b → Paired R c d → Paired R (a ++ c) (b ++ d)
  | _, _, _, _, .nil, s => s
  | _, _, _, _, .cons h r, s => .cons h (paired_app r s)
theorem repl_ok {v : V} {u : U} (q : RU K T F m v u) (k : Key) : ∀ {kvs : List (Key × V)} {kus : List (Key × U)}, PK2 K T F m kvs kus → PK2 K T F m (kvs.map fun kv => if kv.1 = k then (kv.1, v) else kv) (kus.map fun kv => if kv.1 = k then (kv.1, u) else kv)
  | _, _, .nil => .nil
  | (k1, v1) :: kvs, (k2, u2) :: kus, .cons ⟨h1, h2⟩ r => by
    have h1' : k1 = k2 := h1
    subst h1'
    rw [List.map_cons, List.map_cons]
    refine .cons ?_ (repl_ok q k r)
    dsimp only
    split
    · exact ⟨rfl, q⟩
    · exact ⟨rfl, h2⟩
theorem putU_ok {kvs : List (Key × V)} {kus : List (Key × U)} (r : PK2 K T F m kvs kus) (k : Key) {v : V} {u : U} (q : RU K T F m v u) : PK2 K T F m (putK kvs k v) (putU kus k u) := by
  unfold putK putU
  rw [any_ok r k]
  split
  · exact repl_ok q k r
  · exact paired_app r (.cons ⟨rfl, q⟩ .nil)
end
def ixU : U → U → Sto → Re U := fun u w st =>
  match u, w with
  | .d (.str z), .d (.int i) => if z.length ≤ lim then (match atI z.cps.toList i with
    | some c => .ok (.d (.str ⟨#[c]⟩)) st
    | none => .bad) else .bad
  | u, w => match scrU st u, tupU u, dctU st u with
    | some us, _, _ => (match w with
      | .d (.int i) => (match atI us i with
        | some r => .ok r st
        | none => .bad)
      | _ => .bad)
    | none, some us, _ => (match w with
      | .d (.int i) => (match atI us i with
        | some r => .ok r st
        | none => .bad)
      | _ => .bad)
    | none, none, some kus => (match keyU w with
      | some k => (match valK kus k with
        | some r => .ok r st
        | none => .bad)
      | none => .bad)
    | none, none, none => .bad
theorem ixU_calm : Calm2 ixU := by
  intro u w st e s'
  unfold ixU
  split
  · split
    · split <;> exact fun z => nomatch z
    · exact fun z => nomatch z
  · split
    · split
      · split <;> exact fun z => nomatch z
      · exact fun z => nomatch z
    · split
      · split <;> exact fun z => nomatch z
      · exact fun z => nomatch z
    · split
      · split <;> exact fun z => nomatch z
      · exact fun z => nomatch z
    · exact fun z => nomatch z
section
variable {X : Cx} {T : Tab}
theorem ix_dict (hu : X.A.units + 1 < cLine) : IxR X (fun x y H Q => ∃ a v, x = .ref a ∧ DGet H a y (some v) ∧ Q v H) := by
  intro value slice pins s σ H x y v u Q I rx ry h hs
  obtain ⟨a, z, rfl, g, q⟩ := h
  cases rx
  exact PyProof.Rows.tail_any (dict_typeIs I g) PySem.F.slot_dict_getitem.lookup (d_getItem hu I g ry fun w' s' J r => ⟨z, H, J, r, q⟩) hs
theorem or_ix (hu : X.A.units + 1 < cLine) : IxR X (ok2 X.K T ixU) := by
  intro value slice pins s σ H x y v u Q I rx ry hh hs
  obtain ⟨F, m, st, a, b, hR, qa, qb, k⟩ := hh
  unfold ixU at k
  split at k
  · rename_i z i
    split at k
    · rename_i hl
      split at k
      · rename_i c hc
        cases qa with
        | d qa =>
          cases qb with
          | d qb =>
            cases qa
            cases qb
            exact ix_str value slice pins s σ H _ _ v u Q I rx ry ⟨z, i, c, rfl, rfl, by rw [← lim_eq]; exact hl, hc, k F m H _ (Same.refl _) (pre_refl _) hR (.d (.str _))⟩ hs
      · exact k.elim
    · exact k.elim
  · split at k
    · rename_i us e1
      split at k
      · rename_i i
        split at k
        · rename_i r hr
          obtain ⟨p, vs, rfl, h1, r1⟩ := scrU_ok hR qa e1
          obtain ⟨w, h2, h3⟩ := atU_ok r1 hr
          cases qb with
          | d qb =>
            cases qb
            exact ix_list value slice pins s σ H _ _ v u Q I rx ry ⟨p, vs, _, w, rfl, rfl, h1, h2, k F m H _ (Same.refl _) (pre_refl _) hR h3⟩ hs
        · exact k.elim
      · exact k.elim
    · rename_i us e0 e1
      split at k
      · rename_i i
        split at k
        · rename_i r hr
          obtain ⟨p, vs, rfl, h1, r1⟩ := tupU_ok hR qa e1
          obtain ⟨w, h2, h3⟩ := atU_ok r1 hr
          cases qb with
          | d qb =>
            cases qb
            exact ix_tup value slice pins s σ H _ _ v u Q I rx ry ⟨p, vs, _, w, rfl, rfl, h1, h2, k F m H _ (Same.refl _) (pre_refl _) hR h3⟩ hs
        · exact k.elim
      · exact k.elim
    · rename_i kus e0 e1 e2
      split at k
      · rename_i key hk
        split at k
        · rename_i r hr
          obtain ⟨p, kvs, rfl, h1, r1⟩ := dctU_ok hR qa e2
          obtain ⟨w, h2, h3⟩ := (valK_ok r1 key).1 r hr
          have ey := keyU_ok qb hk
          subst ey
          exact ix_dict hu value slice pins s σ H _ _ v u Q I rx ry ⟨p, w, rfl, by rw [← h2]; exact DGet.k h1, k F m H _ (Same.refl _) (pre_refl _) hR h3⟩ hs
        · exact k.elim
      · exact k.elim
    · exact k.elim
end

/-! ### slices -/
def cutU (us : List U) (lo hi : Option Int) : List U := (us.drop (HT.sIx us.length 0 lo)).take (HT.sIx us.length us.length hi - HT.sIx us.length 0 lo)
def sliceU (fz : Bool) (u : U) (lo hi : Option Int) (st : Sto) : Re U :=
  match u with
  | .d (.str z) => if z.length ≤ lim then .ok (.d (.str (cutS z lo hi))) st else .bad
  | u => match scrU st u, tupU u with
    | some us, _ => newL fz (cutU us lo hi) st
    | none, some us => if HT.sIx us.length 0 lo = 0 ∧ HT.sIx us.length us.length hi = us.length then .bad else newT (cutU us lo hi) st
    | none, none => .bad

/-! ### membership -/
def flatD : D → Option V
  | .non => some .non
  | .bl b => some (.bl b)
  | .int i => some (.int i)
  | .str x => some (.str x)
  | _ => none
def flatUs : List U → Option (List V)
  | [] => some []
  | .d x :: us => (flatD x).bind fun v => (flatUs us).map (v :: ·)
  | _ => none
theorem flatD_ok {K : PySem.W.Frag} {T : Tab} {F : Hp} {v w : V} {x : D} (r : RD K T F v x) (e : flatD x = some w) : v = w ∧ flatV v = true := by
  cases x <;> simp only [flatD] at e <;> cases e <;> cases r <;> exact ⟨rfl, rfl⟩
theorem flatUs_ok {K : PySem.W.Frag} {T : Tab} {F : Hp} {m : List Addr} : ∀ {us : List U} {vs ws : List V}, RUs K T F m vs us → flatUs us = some ws → vs = ws ∧ vs.all flatV = true
  | [], _, _, r, e => by
    simp only [flatUs] at e
    cases e
    cases r
    exact ⟨rfl, rfl⟩
  | .d x :: us, _, _, r, e => by
    simp only [flatUs] at e
    cases h1 : flatD x with
    | none =>
      rw [h1] at e
      cases e
    | some w =>
      cases h2 : flatUs us with
      | none =>
        rw [h1, h2] at e
        cases e
      | some ws =>
        rw [h1, h2] at e
        cases e
        cases r with
        | cons r1 r2 =>
          cases r1 with
          | d r1 =>
            obtain ⟨a, b⟩ := flatD_ok r1 h1
            obtain ⟨c, d⟩ := flatUs_ok r2 h2
            subst a c
            exact ⟨rfl, by simp [b, d]⟩
  | .c i :: us, _, _, r, e => by
    simp only [flatUs] at e
    cases e
  | .t i :: us, _, _, r, e => by
    simp only [flatUs] at e
    cases e
def inU (neg : Bool) : U → U → Sto → Re U := fun u w st =>
  match u, w with
  | .d (.str a), .d (.str b) => .ok (.d (.bl (if neg then (Builtin.Str.occurrences b a 0 b.length 1).isEmpty else !(Builtin.Str.occurrences b a 0 b.length 1).isEmpty))) st
  | u, w => match lstU st w, tupU w, dctU st w with
    | some us, _, _ => (match flatUs [u], flatUs us with
      | some [a], some vs => .ok (.d (.bl (if neg then !inV a vs else inV a vs))) st
      | _, _ => .bad)
    | none, some us, _ => (match flatUs [u], flatUs us with
      | some [a], some vs => .ok (.d (.bl (if neg then !inV a vs else inV a vs))) st
      | _, _ => .bad)
    | none, none, some kus => (match keyU u with
      | some k => .ok (.d (.bl (if neg then !(valK kus k).isSome else (valK kus k).isSome))) st
      | none => .bad)
    | none, none, none => .bad
theorem inU_calm {neg : Bool} : Calm2 (inU neg) := by
  intro u w st e s'
  unfold inU
  split
  · exact fun z => nomatch z
  · split
    · split <;> exact fun z => nomatch z
    · split <;> exact fun z => nomatch z
    · split <;> exact fun z => nomatch z
    · exact fun z => nomatch z
section
variable {X : Cx} {T : Tab}
theorem in_seq (neg : Bool) {f : Value → Value → Sem Value} (hop : f = compareOp (if neg then .NotIn else .In)) {pins : List (Addr × Obj)} {s : Shared} {σ : St} {H : Hp} {x y : V} {v u : Value} {Q : VK} (I : Inv X pins σ H s) (rx : RelV x v) (ry : RelV y u)
    (h : rIn X.K neg x y H Q) : wpAny (model X.prog X.w) X.A (f v u) (EP X pins σ Q) X.xe s := by
  subst hop
  cases neg with
  | true => exact op_notIn_seq pins s σ H x y v u Q I rx ry h
  | false => exact op_in_seq pins s σ H x y v u Q I rx ry h
theorem or_in (neg : Bool) (hu : X.A.units + 1 < cLine) : OpR X (compareOp (if neg then .NotIn else .In)) (ok2 X.K T (inU neg)) := by
  intro pins s σ H x y v u Q I rx ry hh
  obtain ⟨F, m, st, a, b, hR, qa, qb, k⟩ := hh
  unfold inU at k
  split at k
  · cases qa with
    | d qa =>
      cases qb with
      | d qb =>
        cases qa
        cases qb
        have q := k F m H _ (Same.refl _) (pre_refl _) hR (.d (.bl _))
        cases neg with
        | true => exact L2.op_notIn_str pins s σ H _ _ v u Q I rx ry ⟨_, _, rfl, rfl, by simpa using q⟩
        | false => exact op_in_str pins s σ H _ _ v u Q I rx ry ⟨_, _, rfl, rfl, by simpa using q⟩
  · split at k
    · rename_i us e1
      split at k
      · rename_i w vs h1 h2
        obtain ⟨p, xs, rfl, g1, g2⟩ := lstU_ok hR qb e1
        obtain ⟨z1, z2⟩ := flatUs_ok g2 h2
        obtain ⟨z3, z4⟩ := flatUs_ok (RUs.cons qa .nil) h1
        cases z3
        subst z1
        exact in_seq neg rfl I rx ry ⟨p, xs, rfl, .inl (SqL.of g1), by simpa using z4, z2, k F m H _ (Same.refl _) (pre_refl _) hR (.d (.bl _))⟩
      · exact k.elim
    · rename_i us e0 e1
      split at k
      · rename_i w vs h1 h2
        obtain ⟨p, xs, rfl, g1, g2⟩ := tupU_ok hR qb e1
        obtain ⟨z1, z2⟩ := flatUs_ok g2 h2
        obtain ⟨z3, z4⟩ := flatUs_ok (RUs.cons qa .nil) h1
        cases z3
        subst z1
        exact in_seq neg rfl I rx ry ⟨p, xs, rfl, .inr g1, by simpa using z4, z2, k F m H _ (Same.refl _) (pre_refl _) hR (.d (.bl _))⟩
      · exact k.elim
    · rename_i kus e0 e1 e2
      split at k
      · rename_i key hk
        obtain ⟨p, kvs, rfl, h1, r1⟩ := dctU_ok hR qb e2
        have ey := keyU_ok qa hk
        subst ey
        cases ry
        have es : (valV kvs key).isSome = (valK kus key).isSome := by
          cases hv : valK kus key with
          | none =>
            rw [(valK_ok r1 key).2 hv]
            rfl
          | some z =>
            obtain ⟨y, h2, _⟩ := (valK_ok r1 key).1 z hv
            rw [h2]
            rfl
        have q := k F m H _ (Same.refl _) (pre_refl _) hR (.d (.bl _))
        rw [← es] at q
        cases neg with
        | true => exact d_notIn hu I (DGet.k h1) rx fun s' J => ⟨.bl _, H, J, rfl, q⟩
        | false => exact d_in hu I (DGet.k h1) rx fun s' J => ⟨.bl _, H, J, rfl, q⟩
      · exact k.elim
    · exact k.elim
end

/-! ### is -/
def isNon : U → Bool
  | .d .non => true
  | _ => false
def isU (neg : Bool) : U → U → Sto → Re U := fun u w st =>
  match w with
  | .d .non => .ok (.d (.bl (if neg then !isNon u else isNon u))) st
  | .d (.bl b) => (match u with
    | .d (.bl a) => .ok (.d (.bl (if neg then !decide (a = b) else decide (a = b)))) st
    | _ => .bad)
  | _ => .bad
theorem isU_calm {neg : Bool} : Calm2 (isU neg) := by
  intro u w st e s'
  unfold isU
  split
  · exact fun z => nomatch z
  · split <;> exact fun z => nomatch z
  · exact fun z => nomatch z
theorem non_iff {K : PySem.W.Frag} {T : Tab} {F : Hp} {m : List Addr} {x : V} {u : U} (r : RU K T F m x u) : isNon u = decide (x = V.non) := by
  cases r with
  | d r => cases r <;> simp [isNon]
  | c _ => simp [isNon]
  | t _ _ => simp [isNon]
section
variable {X : Cx} {T : Tab}
theorem or_is (neg : Bool) : OpR X (compareOp (if neg then .IsNot else .Is)) (ok2 X.K T (isU neg)) := by
  intro pins s σ H x y v u Q I rx ry hh
  obtain ⟨F, m, st, a, b, hR, qa, qb, k⟩ := hh
  unfold isU at k
  split at k
  · cases qb with
    | d qb =>
      cases qb
      rw [non_iff qa] at k
      have q := k F m H _ (Same.refl _) (pre_refl _) hR (.d (.bl _))
      cases neg with
      | true => exact op_notN pins s σ H _ _ v u Q I rx ry ⟨rfl, q⟩
      | false => exact op_isN pins s σ H _ _ v u Q I rx ry ⟨rfl, q⟩
  · split at k
    · cases qb with
      | d qb =>
        cases qa with
        | d qa =>
          cases qa
          cases qb
          have q := k F m H _ (Same.refl _) (pre_refl _) hR (.d (.bl _))
          cases neg with
          | true => exact op_notBl pins s σ H _ _ v u Q I rx ry ⟨_, _, rfl, rfl, q⟩
          | false => exact op_isBl pins s σ H _ _ v u Q I rx ry ⟨_, _, rfl, rfl, q⟩
    · exact k.elim
  · exact k.elim
end

/-! ### truth, length, the sign -/
def truU (st : Sto) : U → Option Bool
  | .d .non => some false
  | .d (.bl b) => some b
  | .d (.int i) => some (i != 0)
  | .d (.str y) => if y.length ≤ lim then some ((y.length : Int) != 0) else none
  | u => match scrU st u, tupU u, dctU st u with
    | some us, _, _ => some !us.isEmpty
    | none, some us, _ => some !us.isEmpty
    | none, none, some kus => some !kus.isEmpty
    | none, none, none => none
theorem RUs.emp {K : PySem.W.Frag} {T : Tab} {F : Hp} {m : List Addr} {vs : List V} {us : List U} (r : RUs K T F m vs us) : (!us.isEmpty) = !vs.isEmpty := by
  cases r <;> rfl
theorem truU_ok {K : PySem.W.Frag} {T : Tab} {F : Hp} {m : List Addr} {st : Sto} {H : Hp} {x : V} {u : U} (hR : Rl K T F m st H) (r : RU K T F m x u) {b : Bool} (e : truU st u = some b) : TruV K x H b := by
  unfold truU at e
  split at e
  · cases e
    cases r with
    | d r =>
      cases r
      exact rfl
  · cases e
    cases r with
    | d r =>
      cases r
      exact rfl
  · cases e
    cases r with
    | d r =>
      cases r
      exact rfl
  · split at e
    · rename_i hl
      cases e
      cases r with
      | d r =>
        cases r
        exact ⟨by rw [← lim_eq]; exact hl, rfl⟩
    · cases e
  · split at e
    · rename_i us e1
      cases e
      obtain ⟨p, vs, rfl, h1, h2⟩ := scrU_ok hR r e1
      exact .inl ⟨vs, h1, h2.emp⟩
    · rename_i us _ e1
      cases e
      obtain ⟨p, vs, rfl, h1, h2⟩ := tupU_ok hR r e1
      exact .inr (.inl ⟨vs, h1, h2.emp⟩)
    · rename_i kus _ _ e1
      cases e
      obtain ⟨p, kvs, rfl, h1, h2⟩ := dctU_ok hR r e1
      exact .inr (.inr ⟨kvs, h1, by cases h2 <;> rfl⟩)
    · cases e
def lenU : U → Sto → Re U := fun u st =>
  match u with
  | .d (.str y) => if y.length ≤ lim then .ok (.d (.int y.length)) st else .bad
  | u => match scrU st u, tupU u, dctU st u with
    | some us, _, _ => .ok (.d (.int us.length)) st
    | none, some us, _ => .ok (.d (.int us.length)) st
    | none, none, some kus => .ok (.d (.int kus.length)) st
    | none, none, none => .bad
theorem lenU_calm : Calm1 lenU := by
  intro u st e s'
  unfold lenU
  split
  · split <;> exact fun z => nomatch z
  · split <;> exact fun z => nomatch z
def negU : U → Sto → Re U := fun u st =>
  match u with
  | .d (.int i) => .ok (.d (.int (-i))) st
  | _ => .bad
theorem negU_calm : Calm1 negU := by
  intro u st e s'
  unfold negU
  split <;> exact fun z => nomatch z
section
variable {X : Cx} {T : Tab}
theorem cr_len : CallR X (.builtin "len") (okN X.K T (list1 lenU)) := by
  intro pins s σ H xs us Q I r h
  obtain ⟨x, rfl, hh⟩ := okN_one h
  obtain ⟨F, m, st, a, hR, qa, k⟩ := hh
  unfold lenU at k
  split at k
  · split at k
    · rename_i hl
      cases qa with
      | d qa =>
        cases qa
        exact L2.call_len pins s σ H _ us Q I r ⟨_, _, rfl, ⟨by rw [← lim_eq]; exact hl, rfl⟩, k F m H _ (Same.refl _) (pre_refl _) hR (.d (.int _))⟩
    · exact k.elim
  · split at k
    · rename_i us' e1
      obtain ⟨p, vs, rfl, h1, h2⟩ := scrU_ok hR qa e1
      rw [← h2.len] at k
      exact L2.call_len pins s σ H _ us Q I r ⟨_, _, rfl, .inl ⟨vs, h1, rfl⟩, k F m H _ (Same.refl _) (pre_refl _) hR (.d (.int _))⟩
    · rename_i us' _ e1
      obtain ⟨p, vs, rfl, h1, h2⟩ := tupU_ok hR qa e1
      rw [← h2.len] at k
      exact L2.call_len pins s σ H _ us Q I r ⟨_, _, rfl, .inr ⟨vs, h1, rfl⟩, k F m H _ (Same.refl _) (pre_refl _) hR (.d (.int _))⟩
    · rename_i kus _ _ e1
      obtain ⟨p, kvs, rfl, h1, h2⟩ := dctU_ok hR qa e1
      have hl : kus.length = kvs.length := (Paired.length h2).symm
      rw [hl] at k
      obtain ⟨w, rfl, rw'⟩ := vals1 r
      cases rw'
      exact d_len I (.inl h1) fun t s' J => ⟨.int kvs.length, H, J, ⟨t, rfl⟩, k F m H _ (Same.refl _) (pre_refl _) hR (.d (.int _))⟩
    · exact k.elim
theorem ur_neg : UnR X (unaryOp .USub) (ok1 X.K T negU) := by
  intro pins s σ H x v Q I rx hh
  obtain ⟨F, m, st, a, hR, qa, k⟩ := hh
  unfold negU at k
  split at k
  · cases qa with
    | d qa =>
      cases qa
      exact un_neg pins s σ H _ v Q I rx ⟨_, rfl, k F m H _ (Same.refl _) (pre_refl _) hR (.d (.int _))⟩
  · exact k.elim
end
end KB
/-! Expressions. -/
namespace KB
open PySem L2

/-! ### tests, and, or, if -/
/-- a value that must be a bool, as a test -/
def tB1 (c : ME) : MT := fun env st => (c env st).bind fun u st => match u with
  | .d (.bl b) => .ok b st
  | _ => .bad
/-- any value's truth -/
def tTr (c : ME) : MT := fun env st => (c env st).bind fun u st => match truU st u with
  | some b => .ok b st
  | none => .bad
def tNo (t : MT) : MT := fun env st => (t env st).bind fun b st => .ok (!b) st
def tAn (t u : MT) : MT := fun env st => (t env st).bind fun b st => if b then u env st else .ok false st
def tOu (t u : MT) : MT := fun env st => (t env st).bind fun b st => if b then .ok true st else u env st
def cIf (t : MT) (a b : ME) : ME := fun env st => (t env st).bind fun k st => if k then a env st else b env st
def cAnd (a b : ME) : ME := fun env st => (a env st).bind fun u st => match u with
  | .d (.bl k) => if k then b env st else .ok (.d (.bl false)) st
  | _ => .bad
def cOr (a b : ME) : ME := fun env st => (a env st).bind fun u st => match u with
  | .d (.bl k) => if k then .ok (.d (.bl true)) st else b env st
  | _ => .bad
def cNot (a : ME) : ME := fun env st => (a env st).bind fun u st => match u with
  | .d (.bl k) => .ok (.d (.bl (!k))) st
  | _ => .bad
/-- a chain of two comparisons -/
def cChain (f g : U → U → Sto → Re U) (a b c : ME) : ME := fun env st => (a env st).bind fun x st => (b env st).bind fun y st => (f x y st).bind fun z st => match z with
  | .d (.bl k) => if k then (c env st).bind fun w st => g y w st else .ok (.d (.bl false)) st
  | _ => .bad

section
variable {K : PySem.W.Frag} {T : Tab} {W : WX} {σ : St} {H : Hp} {Q : VK} {QT : Bool → Hp → Prop} {c ca cb cc : ME} {t u : MT}
theorem okT_B1 (h : okT K T W (tB1 c) σ H QT) : okE K T W c σ H (fun x H' => ∃ k, x = .bl k ∧ QT k H') := by
  obtain ⟨F, m, env, st, hR, hV, g⟩ := h
  refine ⟨F, m, env, st, hR, hV, (goET_bind hV g).imp ?_⟩
  rintro x H1 ⟨F1, m1, st1, w, s1, p1, hR1, hV1, q1, g2⟩
  split at g2
  · cases q1 with
    | d q1 =>
      cases q1
      exact ⟨_, rfl, g2 F1 m1 H1 (Same.refl _) (pre_refl _) hR1⟩
  · exact g2.elim
theorem okT_Tr (h : okT K T W (tTr c) σ H QT) : okE K T W c σ H (fun x H' => ∃ k, TruV K x H' k ∧ QT k H') := by
  obtain ⟨F, m, env, st, hR, hV, g⟩ := h
  refine ⟨F, m, env, st, hR, hV, (goET_bind hV g).imp ?_⟩
  rintro x H1 ⟨F1, m1, st1, w, s1, p1, hR1, hV1, q1, g2⟩
  split at g2
  · rename_i b e
    exact ⟨b, truU_ok hR1 q1 e, g2 F1 m1 H1 (Same.refl _) (pre_refl _) hR1⟩
  · exact g2.elim
end
section
variable {B : Blk} {e a b d : Expr} {es : List Expr} {c ca cb cc : ME} {cs : MA} {t u : MT} {pos : Pos} {rest : List Expr}
theorem st_not (ha : ST B a t) : ST B (.UnaryOp .Not a pos) (tNo t) := by
  intro X o W tk
  refine PT.imp (pt_not (ha X o W tk)) ?_
  rintro σ H Q ⟨F, m, env, st, hR, hV, g⟩
  refine ⟨F, m, env, st, hR, hV, (goTT_bind hV g).imp ?_⟩
  rintro k H1 ⟨F1, m1, st1, s1, p1, hR1, hV1, g2⟩
  exact g2 F1 m1 H1 (Same.refl _) (pre_refl _) hR1
theorem sw_and1 (ha : ST B a t) : SW B (.BoolOp .And [a] pos) t := fun X o W tk => pw_and1 (ha X o W tk)
theorem sw_or1 (ha : ST B a t) : SW B (.BoolOp .Or [a] pos) t := fun X o W tk => pw_or1 (ha X o W tk)
theorem sw_and (ha : ST B a t) (hb : SW B (.BoolOp .And (b :: rest) pos) u) : SW B (.BoolOp .And (a :: b :: rest) pos) (tAn t u) := by
  intro X o W tk
  refine PW.imp (pw_and (ha X o W tk) (hb X o W tk)) ?_
  rintro σ H Q ⟨F, m, env, st, hR, hV, g⟩
  refine ⟨F, m, env, st, hR, hV, (goTT_bind hV g).imp ?_⟩
  rintro k H1 ⟨F1, m1, st1, s1, p1, hR1, hV1, g2⟩
  cases k with
  | true => exact ⟨F1, m1, env, st1, hR1, hV1, g2⟩
  | false => exact g2 F1 m1 H1 (Same.refl _) (pre_refl _) hR1
theorem sw_or (ha : ST B a t) (hb : SW B (.BoolOp .Or (b :: rest) pos) u) : SW B (.BoolOp .Or (a :: b :: rest) pos) (tOu t u) := by
  intro X o W tk
  refine PW.imp (pw_or (ha X o W tk) (hb X o W tk)) ?_
  rintro σ H Q ⟨F, m, env, st, hR, hV, g⟩
  refine ⟨F, m, env, st, hR, hV, (goTT_bind hV g).imp ?_⟩
  rintro k H1 ⟨F1, m1, st1, s1, p1, hR1, hV1, g2⟩
  cases k with
  | true => exact g2 F1 m1 H1 (Same.refl _) (pre_refl _) hR1
  | false => exact ⟨F1, m1, env, st1, hR1, hV1, g2⟩
theorem st_w (h : SW B e t) : ST B e t := fun X o W tk => (h X o W tk).pt
theorem st_truth (ha : SE B a c) (he : ∀ X whole, B.ok X → isTrue a X.env whole = (do let v ← whole; standAt a.pos; holding [v] (truthy v))) : ST B a (tTr c) := by
  intro X o W tk
  refine PT.imp (pt_truth (ha X o W tk) (fun w => he X w o)) ?_
  intro σ H Q h
  have z := okT_Tr h
  rw [o.hK]
  exact z
theorem se_one {op : BoolOp} (h : SE B a c) : SE B (.BoolOp op [a] pos) c := fun X o W tk => pe_one (h X o W tk)
theorem se_and (ha : SE B a ca) (hb : SE B (.BoolOp .And (b :: rest) pos) cb) : SE B (.BoolOp .And (a :: b :: rest) pos) (cAnd ca cb) := by
  intro X o W tk
  refine PE.imp (pe_and (ha X o W tk) (hb X o W tk)) ?_
  rintro σ H Q ⟨F, m, env, st, hR, hV, g⟩
  refine ⟨F, m, env, st, hR, hV, (goE_bind hV g).imp ?_⟩
  rintro x H1 ⟨F1, m1, st1, w, s1, p1, hR1, hV1, q1, g2⟩
  split at g2
  · rename_i k
    cases q1 with
    | d q1 =>
      cases q1
      refine ⟨k, rfl, ?_⟩
      cases k with
      | true => exact ⟨F1, m1, env, st1, hR1, hV1, g2⟩
      | false => exact g2 F1 m1 H1 _ (Same.refl _) (pre_refl _) hR1 (.d (.bl _))
  · exact g2.elim
theorem se_or (ha : SE B a ca) (hb : SE B (.BoolOp .Or (b :: rest) pos) cb) : SE B (.BoolOp .Or (a :: b :: rest) pos) (cOr ca cb) := by
  intro X o W tk
  refine PE.imp (pe_or (ha X o W tk) (hb X o W tk)) ?_
  rintro σ H Q ⟨F, m, env, st, hR, hV, g⟩
  refine ⟨F, m, env, st, hR, hV, (goE_bind hV g).imp ?_⟩
  rintro x H1 ⟨F1, m1, st1, w, s1, p1, hR1, hV1, q1, g2⟩
  split at g2
  · rename_i k
    cases q1 with
    | d q1 =>
      cases q1
      refine ⟨k, rfl, ?_⟩
      cases k with
      | true => exact g2 F1 m1 H1 _ (Same.refl _) (pre_refl _) hR1 (.d (.bl _))
      | false => exact ⟨F1, m1, env, st1, hR1, hV1, g2⟩
  · exact g2.elim
theorem se_not (ha : SE B a ca) : SE B (.UnaryOp .Not a pos) (cNot ca) := by
  intro X o W tk
  refine PE.imp (pe_not (ha X o W tk)) ?_
  rintro σ H Q ⟨F, m, env, st, hR, hV, g⟩
  refine ⟨F, m, env, st, hR, hV, (goE_bind hV g).imp ?_⟩
  rintro x H1 ⟨F1, m1, st1, w, s1, p1, hR1, hV1, q1, g2⟩
  split at g2
  · rename_i k
    cases q1 with
    | d q1 =>
      cases q1
      exact ⟨k, rfl, g2 F1 m1 H1 _ (Same.refl _) (pre_refl _) hR1 (.d (.bl _))⟩
  · exact g2.elim
theorem se_if (hc : ST B d t) (ha : SE B a ca) (hb : SE B b cb) : SE B (.IfExp d a b pos) (cIf t ca cb) := by
  intro X o W tk
  refine PE.imp (pe_ifExp (hc X o W tk) (ha X o W tk) (hb X o W tk)) ?_
  rintro σ H Q ⟨F, m, env, st, hR, hV, g⟩
  refine ⟨F, m, env, st, hR, hV, (goTE_bind hV g).imp ?_⟩
  rintro k H1 ⟨F1, m1, st1, s1, p1, hR1, hV1, g2⟩
  cases k with
  | true => exact ⟨F1, m1, env, st1, hR1, hV1, g2⟩
  | false => exact ⟨F1, m1, env, st1, hR1, hV1, g2⟩

/-! ### comparisons -/
theorem se_cmp {op : CmpOp} {f : U → U → Sto → Re U} (hf : Calm2 f) (ho : ∀ X, B.ok X → OpR X (compareOp op) (ok2 B.G.K B.G.T f)) (hm : behindInMarks op b = false) (ha : SE B a ca) (hb : SE B b cb) : SE B (.Compare a [op] [b] pos) (cOp2 f ca cb) := by
  intro X o W tk
  exact PE.imp (pe_cmpR (ho X o) (ha X o W tk) (hb X o W tk) hm) fun σ H Q h => okE_op2 hf h
theorem st_cmp {op : CmpOp} {f : U → U → Sto → Re U} (hf : Calm2 f) (ho : ∀ X, B.ok X → OpR X (compareOp op) (ok2 B.G.K B.G.T f)) (hm : behindInMarks op b = false) (ha : SE B a ca) (hb : SE B b cb) : ST B (.Compare a [op] [b] pos) (tB1 (cOp2 f ca cb)) := by
  intro X o W tk
  exact PT.imp (pt_cmpR (ho X o) (ha X o W tk) (hb X o W tk) hm) fun σ H Q h => okE_op2 hf (okT_B1 h)
theorem okE_chain {K : PySem.W.Frag} {T : Tab} {W : WX} {f g : U → U → Sto → Re U} (hf : Calm2 f) (hg : Calm2 g) {σ : St} {H : Hp} {Q : VK} (h : okE K T W (cChain f g ca cb cc) σ H Q) :
    tChain (ok2 K T f) (ok2 K T g) (okE K T W ca) (okE K T W cb) (okE K T W cc) σ H Q := by
  obtain ⟨F, m, env, st, hR, hV, g0⟩ := h
  refine ⟨F, m, env, st, hR, hV, (goE_bind hV g0).imp ?_⟩
  rintro x H1 ⟨F1, m1, st1, u1, s1, p1, hR1, hV1, q1, g1⟩
  refine ⟨F1, m1, env, st1, hR1, hV1, (goE_bind hV1 g1).imp ?_⟩
  rintro y H2 ⟨F2, m2, st2, u2, s2, p2, hR2, hV2, q2, g2⟩
  refine ⟨F2, m2, st2, u1, u2, hR2, q1.mono s2 p2, q2, ((goE_bind hV2 g2).imp ?_).calm (hf u1 u2 st2)⟩
  rintro z H3 ⟨F3, m3, st3, u3, s3, p3, hR3, hV3, q3, g3⟩
  split at g3
  · rename_i k
    cases q3 with
    | d q3 =>
      cases q3
      refine ⟨k, rfl, ?_⟩
      cases k with
      | true =>
        rw [if_pos rfl]
        rw [if_pos rfl] at g3
        refine ⟨F3, m3, env, st3, hR3, hV3, (goE_bind hV3 g3).imp ?_⟩
        rintro w H4 ⟨F4, m4, st4, u4, s4, p4, hR4, hV4, q4, g4⟩
        exact ⟨F4, m4, st4, u2, u4, hR4, (q2.mono s3 p3).mono s4 p4, q4, g4.calm (hg u2 u4 st4)⟩
      | false => exact g3 F3 m3 H3 _ (Same.refl _) (pre_refl _) hR3 (.d (.bl _))
  · exact g3.elim
theorem se_chain {op op' : CmpOp} {f g : U → U → Sto → Re U} (hf : Calm2 f) (hg : Calm2 g) (ho : ∀ X, B.ok X → OpR X (compareOp op) (ok2 B.G.K B.G.T f)) (ho' : ∀ X, B.ok X → OpR X (compareOp op') (ok2 B.G.K B.G.T g))
    (hm : lastMarks [op, op'] [b, d] = false) (ha : SE B a ca) (hb : SE B b cb) (hc : SE B d cc) : SE B (.Compare a [op, op'] [b, d] pos) (cChain f g ca cb cc) := by
  intro X o W tk
  exact PE.imp (pe_chain (ho X o) (ho' X o) (ha X o W tk) (hb X o W tk) (hc X o W tk) hm) fun σ H Q h => okE_chain hf hg h
theorem st_chain {op op' : CmpOp} {f g : U → U → Sto → Re U} (hf : Calm2 f) (hg : Calm2 g) (ho : ∀ X, B.ok X → OpR X (compareOp op) (ok2 B.G.K B.G.T f)) (ho' : ∀ X, B.ok X → OpR X (compareOp op') (ok2 B.G.K B.G.T g))
    (hm : lastMarks [op, op'] [b, d] = false) (ha : SE B a ca) (hb : SE B b cb) (hc : SE B d cc) : ST B (.Compare a [op, op'] [b, d] pos) (tB1 (cChain f g ca cb cc)) := by
  intro X o W tk
  exact PT.imp (pt_chain (ho X o) (ho' X o) (ha X o W tk) (hb X o W tk) (hc X o W tk) hm) fun σ H Q h => okE_chain hf hg (okT_B1 h)

/-! ### one value, arguments, displays -/
theorem se_un {op : UnaryOp} {f : U → Sto → Re U} (hf : Calm1 f) (ho : ∀ X, B.ok X → UnR X (unaryOp op) (ok1 B.G.K B.G.T f)) (ha : SE B a ca) : SE B (.UnaryOp op a pos) (cOp1 f ca) := by
  intro X o W tk
  refine PE.imp (pe_un (ho X o) (ha X o W tk)) ?_
  rintro σ H Q ⟨F, m, env, st, hR, hV, g⟩
  refine ⟨F, m, env, st, hR, hV, (goE_bind hV g).imp ?_⟩
  rintro x H1 ⟨F1, m1, st1, w, s1, p1, hR1, hV1, q1, g2⟩
  exact ⟨F1, m1, st1, w, hR1, q1, g2.calm (hf w st1)⟩
/-- no star -/
def noStar : Expr → Bool
  | .Starred _ _ => false
  | _ => true
theorem star_of {e : Expr} (h : noStar e = true) (es : List Expr) (env : Env) : starEach (e :: es) env = (false, eval e env) :: starEach es env := by
  cases e <;> first | rfl | (cases h)
theorem sa_nil : SA B [] cNil := by
  intro X o W tk
  refine PA.imp pa_nil ?_
  rintro σ H Q ⟨F, m, env, st, hR, hV, g⟩
  exact g F m H [] (Same.refl _) (pre_refl _) hR .nil
theorem sa_cons (hs : noStar e = true) (ha : SE B e c) (hr : SA B es cs) : SA B (e :: es) (cCons c cs) := by
  intro X o W tk
  refine PA.imp (pa_cons (ha X o W tk) (hr X o W tk) (star_of hs es X.env)) ?_
  rintro σ H Q ⟨F, m, env, st, hR, hV, g⟩
  refine ⟨F, m, env, st, hR, hV, (goEA_bind hV g).imp ?_⟩
  rintro x H1 ⟨F1, m1, st1, w, s1, p1, hR1, hV1, q1, g2⟩
  refine ⟨F1, m1, env, st1, hR1, hV1, (goAA_bind hV1 g2).imp ?_⟩
  rintro xs H2 ⟨F2, m2, st2, ws, s2, p2, hR2, hV2, q2, g3⟩
  exact g3 F2 m2 H2 _ (Same.refl _) (pre_refl _) hR2 (.cons (q1.mono s2 p2) q2)
def cLst (fz : Bool) : MA → ME := cArgs fun us st => if us.length ≤ lim then newL fz us st else .bad
def cTup : MA → ME := cArgs fun us st => if us.length ≤ lim then newT us st else .bad
theorem se_lst {fz : Bool} (h : SA B es cs) : SE B (.List es pos) (cLst fz cs) := by
  intro X o W tk
  refine PE.imp (pe_lst (h X o W tk)) ?_
  rintro σ H Q ⟨F, m, env, st, hR, hV, g⟩
  refine ⟨F, m, env, st, hR, hV, (goAE_bind hV g).imp ?_⟩
  rintro xs H1 ⟨F1, m1, st1, ws, s1, p1, hR1, hV1, q1, g2⟩
  split at g2
  · rename_i hl
    exact ⟨by rw [q1.len, ← lim_eq]; exact hl, newL_go hR1 q1 g2⟩
  · exact g2.elim
theorem se_tup {x1 : Nat} (h : SA B es cs) : SE B (.Tuple es x1 pos) (cTup cs) := by
  intro X o W tk
  refine PE.imp (pe_tup (h X o W tk)) ?_
  rintro σ H Q ⟨F, m, env, st, hR, hV, g⟩
  refine ⟨F, m, env, st, hR, hV, (goAE_bind hV g).imp ?_⟩
  rintro xs H1 ⟨F1, m1, st1, ws, s1, p1, hR1, hV1, q1, g2⟩
  split at g2
  · rename_i hl
    exact ⟨by rw [q1.len, ← lim_eq]; exact hl, newT_go hR1 q1 g2⟩
  · exact g2.elim

/-! ### items and slices -/
theorem plain_ix {s : Expr} (h : ∀ l u p, s ≠ .Slice l u none p) : PlainIx s := by
  intro o i
  cases s <;> try rfl
  rename_i l u st p
  cases st with
  | none => exact absurd rfl (h l u p)
  | some x => rfl
theorem se_ix (hn : ∀ l u p, b ≠ .Slice l u none p) (ha : SE B a ca) (hb : SE B b cb) : SE B (.Subscript a b pos) (cOp2 ixU ca cb) := by
  intro X o W tk
  have hi : IxR X (ok2 X.K B.G.T ixU) := or_ix (by have := o.room.units; omega)
  rw [o.hK] at hi
  exact PE.imp (pe_ix hi (ha X o W tk) (hb X o W tk) (plain_ix hn)) fun σ H Q h => okE_op2 ixU_calm h
def cPart : Option ME → Lo → Sto → Re (Option Int)
  | none, _, st => .ok none st
  | some c, env, st => (c env st).bind fun u st => match u with
    | .d (.int i) => .ok (some i) st
    | _ => .bad
def cSlice (fz : Bool) (c : ME) (lo hi : Option ME) : ME := fun env st => (c env st).bind fun u st => (cPart lo env st).bind fun l st => (cPart hi env st).bind fun h st => sliceU fz u l h st
/-- a part's reading -/
def okP (K : PySem.W.Frag) (T : Tab) (W : WX) (c : Option ME) : TO := fun σ H Q => ∃ F m env st, Rl K T F m st H ∧ Rv K T F m env σ ∧ GoT K T W F m σ (cPart c env st) Q
theorem PO.imp {X : Cx} {e : Option Expr} {t u : TO} (h : PO X e t) (hi : ∀ σ H Q, u σ H Q → t σ H Q) : PO X e u := ⟨fun pins s σ H Q I q => h.run pins s σ H Q I (hi σ H Q q)⟩
/-- the parts: both left out or given -/
inductive SP (B : Blk) : Option Expr → Option ME → Prop where
  | none : SP B none none
  | some {e : Expr} {c : ME} : SE B e c → SP B (some e) (some c)
theorem sp_ok {eo : Option Expr} {co : Option ME} (h : SP B eo co) {X : Cx} (o : B.ok X) {W : WX} (tk : Takes X W) : PO X eo (okP B.G.K B.G.T W co) := by
  cases h with
  | none =>
    refine PO.imp po_none ?_
    rintro σ H Q ⟨F, m, env, st, hR, hV, g⟩
    exact g F m H (Same.refl _) (pre_refl _) hR
  | some h =>
    refine PO.imp (po_some (h X o W tk)) ?_
    rintro σ H Q ⟨F, m, env, st, hR, hV, g⟩
    refine ⟨F, m, env, st, hR, hV, (goET_bind hV g).imp ?_⟩
    rintro x H1 ⟨F1, m1, st1, w, s1, p1, hR1, hV1, q1, g2⟩
    split at g2
    · cases q1 with
      | d q1 =>
        cases q1
        exact ⟨_, rfl, g2 F1 m1 H1 (Same.refl _) (pre_refl _) hR1⟩
    · exact g2.elim
def okSl (K : PySem.W.Frag) (T : Tab) (fz : Bool) : V → Option Int → Option Int → Hp → VK → Prop := fun x lo hi H Q => ∃ F m st u, Rl K T F m st H ∧ RU K T F m x u ∧ GoE K T (fun _ _ _ _ => False) F m [] (sliceU fz u lo hi st) Q
theorem sliceU_calm {fz : Bool} {u : U} {lo hi : Option Int} {st : Sto} (e : Ex) (s' : Sto) : sliceU fz u lo hi st ≠ .exc e s' := by
  unfold sliceU
  split
  · split <;> exact fun z => nomatch z
  · split
    · exact newL_calm e s'
    · split
      · exact fun z => nomatch z
      · exact newT_calm e s'
    · exact fun z => nomatch z
theorem cutU_ok {K : PySem.W.Frag} {T : Tab} {F : Hp} {m : List Addr} {vs : List V} {us : List U} (r : RUs K T F m vs us) (lo hi : Option Int) : RUs K T F m (cutV vs lo hi) (cutU us lo hi) := by
  unfold cutV cutU
  rw [r.len]
  exact (r.drop _).take _
theorem sl_ok {X : Cx} {T : Tab} {fz : Bool} : SlR X (okSl X.K T fz) := by
  intro pins s σ H x v vl vu lo hi sl Q I rx hs pl pu hh
  obtain ⟨F, m, st, u, hR, qa, k⟩ := hh
  unfold sliceU at k
  split at k
  · split at k
    · rename_i hl
      cases qa with
      | d qa =>
        cases qa
        exact sl_str pins s σ H _ v vl vu lo hi sl Q I rx hs pl pu ⟨_, rfl, by rw [← lim_eq]; exact hl, k F m H _ (Same.refl _) (pre_refl _) hR (.d (.str _))⟩
    · exact k.elim
  · split at k
    · rename_i us e1
      obtain ⟨p, vs, rfl, h1, r1⟩ := scrU_ok hR qa e1
      exact sl_list pins s σ H _ v vl vu lo hi sl Q I rx hs pl pu ⟨p, vs, rfl, h1, newL_go hR (cutU_ok r1 lo hi) k⟩
    · rename_i us e1 e2
      split at k
      · exact k.elim
      · rename_i hw
        obtain ⟨p, vs, rfl, h1, r1⟩ := tupU_ok hR qa e2
        exact sl_tup pins s σ H _ v vl vu lo hi sl Q I rx hs pl pu ⟨p, vs, rfl, h1, by rw [r1.len]; exact hw, newT_go hR (cutU_ok r1 lo hi) k⟩
    · exact k.elim
theorem se_slice {fz : Bool} {lo hi : Option Expr} {cl ch : Option ME} {p2 : Pos} (ha : SE B a ca) (hl : SP B lo cl) (hh : SP B hi ch) : SE B (.Subscript a (.Slice lo hi none p2) pos) (cSlice fz ca cl ch) := by
  intro X o W tk
  have hs : SlR X (okSl X.K B.G.T fz) := sl_ok
  rw [o.hK] at hs
  refine PE.imp (pe_slice hs (ha X o W tk) (sp_ok hl o tk) (sp_ok hh o tk)) ?_
  rintro σ H Q ⟨F, m, env, st, hR, hV, g⟩
  refine ⟨F, m, env, st, hR, hV, (goE_bind hV g).imp ?_⟩
  rintro x H1 ⟨F1, m1, st1, u1, s1, p1, hR1, hV1, q1, g1⟩
  refine ⟨F1, m1, env, st1, hR1, hV1, (goTE_bind hV1 g1).imp ?_⟩
  rintro l H2 ⟨F2, m2, st2, s2, p2, hR2, hV2, g2⟩
  refine ⟨F2, m2, env, st2, hR2, hV2, (goTE_bind hV2 g2).imp ?_⟩
  rintro h H3 ⟨F3, m3, st3, s3, p3, hR3, hV3, g3⟩
  exact ⟨F3, m3, st3, u1, hR3, (q1.mono s2 p2).mono s3 p3, g3.calm fun e s' => sliceU_calm e s'⟩
/-- x[::-1] of a list -/
def revU (fz : Bool) : U → Sto → Re U := fun u st => match scrU st u with
  | some us => newL fz us.reverse st
  | none => .bad
theorem se_rev {fz : Bool} {k : Nat} {p1 p2 p3 : Pos} (ha : SE B a ca) : SE B (.Subscript a (.Slice none none (some (.UnaryOp .USub (.Constant (.int 1) k p1) p2)) p3) pos) (cOp1 (revU fz) ca) := by
  intro X o W tk
  refine PE.imp (pe_revL (ha X o W tk)) ?_
  rintro σ H Q ⟨F, m, env, st, hR, hV, g⟩
  refine ⟨F, m, env, st, hR, hV, (goE_bind hV g).imp ?_⟩
  rintro x H1 ⟨F1, m1, st1, u1, s1, p1, hR1, hV1, q1, g1⟩
  unfold revU at g1
  split at g1
  · rename_i us e1
    obtain ⟨a, vs, rfl, h1, h2⟩ := scrU_ok hR1 q1 e1
    exact ⟨a, vs, rfl, by rw [o.hK]; exact h1, newL_go hR1 h2.rev g1⟩
  · exact g1.elim
end
end KB
/-! Targets, what is walked, loops, comprehensions. -/
namespace KB
open PySem L2

/-! ### which cells a value names -/
mutual
def lowU (n : Nat) : U → Bool
  | .d _ => true
  | .c i => decide (i < n)
  | .t us => lowUs n us
def lowUs (n : Nat) : List U → Bool
  | [] => true
  | u :: us => lowU n u && lowUs n us
end
def lowO (n : Nat) : O → Bool
  | .lst us => lowUs n us
  | .dct kvs => lowUs n (kvs.map (·.2))
  | .ins _ fs => lowUs n (fs.map (·.2))
section
variable {K : PySem.W.Frag} {T : Tab} {F : Hp} {m : List Addr}
mutual
theorem ru_below : ∀ {v : V} {u : U}, RU K T F m v u → lowU m.length u = true
  | _, _, .d _ => rfl
  | _, _, .c h => by
    obtain ⟨hi, _⟩ := List.getElem?_eq_some_iff.mp h
    simp [lowU, hi]
  | _, _, .t _ r => by simp only [lowU]; exact rus_below r
theorem rus_below : ∀ {v : List V} {u : List U}, RUs K T F m v u → lowUs m.length u = true
  | _, _, .nil => rfl
  | _, _, .cons q r => by simp only [lowUs]; rw [ru_below q, rus_below r]; rfl
end
theorem take_get {n i : Nat} {a : Addr} (h : m[i]? = some a) (hi : i < n) : (m.take n)[i]? = some a := by
  rw [List.getElem?_take_of_lt hi]
  exact h
mutual
theorem below_ru {n : Nat} : ∀ {v : V} {u : U}, RU K T F m v u → lowU n u = true → RU K T F (m.take n) v u
  | _, _, .d q, _ => .d q
  | _, _, .c h, b => .c (take_get h (of_decide_eq_true b))
  | _, _, .t q r, b => .t q (belows_ru r (by simpa only [lowU] using b))
theorem belows_ru {n : Nat} : ∀ {v : List V} {u : List U}, RUs K T F m v u → lowUs n u = true → RUs K T F (m.take n) v u
  | _, _, .nil, _ => .nil
  | _, _, .cons q r, b => by
    simp only [lowUs, Bool.and_eq_true] at b
    exact .cons (below_ru q b.1) (belows_ru r b.2)
end
theorem pk_below {κ κ' : Type} {R : κ → κ' → Prop} : ∀ {kvs : List (κ × V)} {kus : List (κ' × U)}, Paired (fun p q => R p.1 q.1 ∧ RU K T F m p.2 q.2) kvs kus → lowUs m.length (kus.map (·.2)) = true
  | _, _, .nil => rfl
  | _, _, .cons h r => by
    rw [List.map_cons]
    simp only [lowUs]
    rw [ru_below h.2, pk_below r]
    rfl
theorem below_pk {κ κ' : Type} {R : κ → κ' → Prop} {n : Nat} : ∀ {kvs : List (κ × V)} {kus : List (κ' × U)}, Paired (fun p q => R p.1 q.1 ∧ RU K T F m p.2 q.2) kvs kus → lowUs n (kus.map (·.2)) = true →
    Paired (fun p q => R p.1 q.1 ∧ RU K T F (m.take n) p.2 q.2) kvs kus
  | _, _, .nil, _ => .nil
  | _, _, .cons h r, b => by
    rw [List.map_cons] at b
    simp only [lowUs, Bool.and_eq_true] at b
    exact .cons ⟨h.1, below_ru h.2 b.1⟩ (below_pk r b.2)
theorem ro_below {ho : HO} {o : O} (r : RO K T F m ho o) : lowO m.length o = true := by
  cases r with
  | lst r => exact rus_below r
  | dct r => exact pk_below (R := fun a b => a = b) r
  | ins r => exact pk_below (R := fun a b => a = T.att b) r
theorem below_ro {n : Nat} {ho : HO} {o : O} (r : RO K T F m ho o) (b : lowO n o = true) : RO K T F (m.take n) ho o := by
  cases r with
  | lst r => exact .lst (belows_ru r b)
  | dct r => exact .dct (below_pk (R := fun a b => a = b) r b)
  | ins r => exact .ins (below_pk (R := fun a b => a = T.att b) r b)
end
/-- the store may be cut back to n cells -/
def trimOk (st0 st : Sto) : Bool := decide (st.take st0.length = st0) || (st.take st0.length).all (lowO st0.length)
theorem Rl.cut {K : PySem.W.Frag} {T : Tab} {F0 F : Hp} {m0 m : List Addr} {st0 st : Sto} {H0 H : Hp} (r0 : Rl K T F0 m0 st0 H0) (r : Rl K T F m st H) (hm : m0 <+: m) (h : trimOk st0 st = true) : Rl K T F m0 (st.take st0.length) H := by
  have e : m.take st0.length = m0 := by
    obtain ⟨t, rfl⟩ := hm
    rw [← r0.len, List.take_left]
  have hl : st0.length ≤ st.length := by
    obtain ⟨t, rfl⟩ := hm
    have := r.len
    rw [List.length_append, r0.len] at this
    omega
  have bel : ∀ (i : Nat) (o : O), (st.take st0.length)[i]? = some o → lowO st0.length o = true := fun i o hi => by
    unfold trimOk at h
    rw [Bool.or_eq_true, decide_eq_true_iff] at h
    rcases h with h | h
    · rw [h] at hi
      obtain ⟨a, ho, _, _, _, q⟩ := r0.obj i o hi
      rw [← r0.len]
      exact ro_below q
    · exact List.all_eq_true.mp h o (List.mem_of_getElem? hi)
  refine ⟨r.sub, by rw [r0.len, List.length_take]; omega, fun i o hi => ?_, fun i j a h1 h2 => r.inj i j a (pre_get hm h1) (pre_get hm h2)⟩
  have hb := bel i o hi
  have hi2 : i < st0.length := by
    obtain ⟨hz, _⟩ := List.getElem?_eq_some_iff.mp hi
    rw [List.length_take] at hz
    omega
  rw [List.getElem?_take_of_lt hi2] at hi
  obtain ⟨a, ho, h1, h2, h3, h4⟩ := r.obj i o hi
  refine ⟨a, ho, by rw [← e]; exact take_get h1 hi2, h2, h3, ?_⟩
  rw [← e]
  exact below_ro h4 hb

/-! ### targets -/
inductive Tgt where
  | nm (i : Nat) | tp (ts : List Tgt)
mutual
def setT : Tgt → U → Lo → Option Lo
  | .nm i, u, env => some (env.set i (some u))
  | .tp ts, u, env => match tupU u with
    | some us => setTs ts us env
    | none => none
def setTs : List Tgt → List U → Lo → Option Lo
  | [], [], env => some env
  | t :: ts, u :: us, env => (setT t u env).bind fun e => setTs ts us e
  | _, _, _ => none
end
mutual
def Tgt.slots : Tgt → List Nat
  | .nm i => [i]
  | .tp ts => Tgt.slotss ts
def Tgt.slotss : List Tgt → List Nat
  | [] => []
  | t :: ts => t.slots ++ Tgt.slotss ts
end
/-- two frames that differ at some slots alone -/
def Beside (l : List Nat) (σ σ' : St) : Prop := σ'.length = σ.length ∧ ∀ j, j ∉ l → σ'[j]? = σ[j]?
def okG (K : PySem.W.Frag) (T : Tab) (t : Tgt) : TG := fun v σ H Q => ∃ F m st u env env', Rl K T F m st H ∧ RU K T F m v u ∧ Rv K T F m env σ ∧ setT t u env = some env' ∧ ∀ σ', Rv K T F m env' σ' → Beside t.slots σ σ' → Q σ' H
def okGs (K : PySem.W.Frag) (T : Tab) (ts : List Tgt) : TGs := fun vs σ H Q => ∃ F m st us env env', Rl K T F m st H ∧ RUs K T F m vs us ∧ Rv K T F m env σ ∧ setTs ts us env = some env' ∧ ∀ σ', Rv K T F m env' σ' → Beside (Tgt.slotss ts) σ σ' → Q σ' H
def SG (B : Blk) (e : Expr) (t : Tgt) : Prop := ∀ X, B.ok X → PG X e (okG B.G.K B.G.T t)
def SGs (B : Blk) (es : List Expr) (ts : List Tgt) : Prop := ∀ X, B.ok X → PGs X es (okGs B.G.K B.G.T ts)
theorem PG.imp {X : Cx} {e : Expr} {t u : TG} (h : PG X e t) (hi : ∀ v σ H Q, u v σ H Q → t v σ H Q) : PG X e u := ⟨fun pins s σ H v w Q I r q => h.run pins s σ H v w Q I r (hi v σ H Q q)⟩
theorem PGs.imp {X : Cx} {e : List Expr} {t u : TGs} (h : PGs X e t) (hi : ∀ v σ H Q, u v σ H Q → t v σ H Q) : PGs X e u := ⟨fun pins s σ H v w Q I r q => h.run pins s σ H v w Q I r (hi v σ H Q q)⟩
/-- a name that may be stored -/
def stor (B : Blk) (x : Str) : Prop := B.sc.names.lookup x = some .local ∨ (B.top = true ∧ B.sc.names.lookup x = some .cell)
theorem asg_star {e : Expr} (h : noStar e = true) (es : List Expr) (env : Env) : (assignEach (e :: es) env).map (·.2) = assign e env :: (assignEach es env).map (·.2) := by
  cases e <;> first | rfl | (cases h)
section
variable {B : Blk} {e : Expr} {es : List Expr} {t : Tgt} {ts : List Tgt} {pos : Pos}
theorem sg_name {i : Nat} {x : Str} (hi : B.N[i]? = some x) (hs : stor B x) : SG B (.Name x pos) (.nm i) := by
  intro X o
  have hN : X.N.Nodup := by rw [o.hN]; exact o.nd
  refine PG.imp (pg_name (i := i) hN (by rw [o.hN]; exact hi) ?_ ?_) ?_
  · rcases hs with h | ⟨_, h⟩
    · exact .inl (by rw [o.hsc]; exact h)
    · exact .inr (by rw [o.hsc]; exact h)
  · rcases hs with h | ⟨h, _⟩
    · exact .inr (by rw [o.hsc]; exact h)
    · exact .inl (o.fn h x)
  · rintro v σ H Q ⟨F, m, st, u, env, env', hR, r, hV, hset, k⟩
    simp only [setT] at hset
    cases hset
    refine k _ (hV.set r i) ⟨List.length_set .., fun j hj => ?_⟩
    simp only [Tgt.slots, List.mem_singleton] at hj
    exact List.getElem?_set_ne (fun z => hj z.symm)
theorem sgs_nil : SGs B [] [] := by
  intro X o
  refine PGs.imp pgs_nil ?_
  rintro v σ H Q ⟨F, m, st, us, env, env', hR, r, hV, hset, k⟩
  cases us with
  | nil =>
    cases r
    simp only [setTs] at hset
    cases hset
    exact ⟨rfl, k _ hV ⟨rfl, fun _ _ => rfl⟩⟩
  | cons u us =>
    simp only [setTs] at hset
    cases hset
theorem sgs_cons (hs : noStar e = true) (h1 : SG B e t) (h2 : SGs B es ts) : SGs B (e :: es) (t :: ts) := by
  intro X o
  refine PGs.imp (pgs_cons (h1 X o) (h2 X o) (asg_star hs es X.env)) ?_
  rintro v σ H Q ⟨F, m, st, us, env, env', hR, r, hV, hset, k⟩
  cases us with
  | nil =>
    simp only [setTs] at hset
    cases hset
  | cons u us =>
    cases r with
    | cons r rr =>
      simp only [setTs] at hset
      cases h : setT t u env with
      | none =>
        rw [h] at hset
        cases hset
      | some e1 =>
        rw [h] at hset
        exact ⟨_, _, rfl, F, m, st, u, env, e1, hR, r, hV, h, fun σ1 hV1 b1 => ⟨F, m, st, us, e1, env', hR, rr, hV1, hset, fun σ2 hV2 b2 => k σ2 hV2 ⟨b2.1.trans b1.1, fun j hj => by
          simp only [Tgt.slotss, List.mem_append, not_or] at hj
          exact (b2.2 j hj.2).trans (b1.2 j hj.1)⟩⟩⟩
theorem sg_tup {k : Nat} (h : SGs B es ts) (hl : es.length = ts.length) (hst : ∀ env, (assignEach es env).length = es.length ∧ (assignEach es env).findIdx? (·.1) = none) : SG B (.Tuple es k pos) (.tp ts) := by
  intro X o
  refine PG.imp (pg_tup (n := es.length) o.calm (h X o) (hst _).1 (hst _).2) ?_
  rintro v σ H Q ⟨F, m, st, u, env, env', hR, r, hV, hset, k⟩
  simp only [setT] at hset
  split at hset
  · rename_i us e1
    obtain ⟨a, vs, rfl, h1, h2⟩ := tupU_ok hR r e1
    have len : ∀ (ts : List Tgt) (us : List U) (env : Lo) (env' : Lo), setTs ts us env = some env' → ts.length = us.length := by
      intro ts
      induction ts with
      | nil =>
        intro us env env' h
        cases us with
        | nil => rfl
        | cons u us =>
          simp only [setTs] at h
          cases h
      | cons t ts ih =>
        intro us env env' h
        cases us with
        | nil =>
          simp only [setTs] at h
          cases h
        | cons u us =>
          simp only [setTs] at h
          cases h3 : setT t u env with
          | none =>
            rw [h3] at h
            cases h
          | some e1 =>
            rw [h3] at h
            rw [List.length_cons, List.length_cons, ih us e1 env' h]
    refine ⟨a, vs, rfl, ?_, by rw [h2.len, ← len ts us env env' hset, hl], F, m, st, us, env, env', hR, h2, hV, hset, fun σ2 hV2 b2 => k σ2 hV2 (by simpa only [Tgt.slots] using b2)⟩
    rw [o.hK]
    exact h1
  · cases hset
end

/-! ### what is walked -/
/-- the items; a list that is walked must stay as it is -/
abbrev Gd := Option (U × List U)
def gdOk (st : Sto) : Gd → Bool
  | none => true
  | some (u, us) => decide (scrU st u = some us)
abbrev MI := Lo → Sto → Re (List U × Gd)
section
variable (K : PySem.W.Frag) (T : Tab)
def ItOk (F : Hp) (m : List Addr) (J : It) (us : List U) (gd : Gd) : Prop :=
  ∀ F' m' st H, Same F F' → m <+: m' → Rl K T F' m' st H → gdOk st gd = true → ∀ i, (us.length ≤ i → J.stop i H) ∧
    ∀ u, us[i]? = some u → J.go i H ∧ ∀ x H2, J.yld i H x H2 → ∃ F2, Same F' F2 ∧ Rl K T F2 m' st H2 ∧ RU K T F2 m' x u
def GoI (W : WX) (F : Hp) (m : List Addr) (σ : St) (r : Re (List U × Gd)) (R : It → Hp → Prop) : Prop :=
  match r with
  | .ok (us, gd) st => ∀ F' m' H J, Same F F' → m <+: m' → Rl K T F' m' st H → ItOk K T F' m' J us gd → R J H
  | .exc e st => ∀ F' m' H c d, Same F F' → m <+: m' → Rl K T F' m' st H → RX K T F' H e c d → W c d σ H
  | .bad => False
def okI (W : WX) (s : MI) : TI := fun σ H R => ∃ F m env st, Rl K T F m st H ∧ Rv K T F m env σ ∧ GoI K T W F m σ (s env st) R
end
def SI (B : Blk) (tg iter : Expr) (s : MI) : Prop := ∀ X, B.ok X → ∀ W, Takes X W → PI X tg iter (okI B.G.K B.G.T W s)
theorem PI.imp {X : Cx} {tg e : Expr} {t u : TI} (h : PI X tg e t) (hi : ∀ σ H R, u σ H R → t σ H R) : PI X tg e u := ⟨fun pins s σ H R I q => h.run pins s σ H R I (hi σ H R q)⟩
section
variable {K : PySem.W.Frag} {T : Tab} {W : WX} {F : Hp} {m : List Addr} {σ : St}
theorem goEI_bind {env : Lo} {r : Re U} {k : U → Sto → Re (List U × Gd)} {R : It → Hp → Prop} (hV : Rv K T F m env σ) (g : GoI K T W F m σ (r.bind k) R) :
    GoE K T W F m σ r (fun v H1 => ∃ F1 m1 st1 u, Same F F1 ∧ m <+: m1 ∧ Rl K T F1 m1 st1 H1 ∧ Rv K T F1 m1 env σ ∧ RU K T F1 m1 v u ∧ GoI K T W F1 m1 σ (k u st1) R) := by
  cases r with
  | ok u st =>
    refine fun F' m' H1 v a b Rr q => ⟨F', m', st, u, a, b, Rr, hV.mono a b, q, ?_⟩
    change GoI K T W F m σ (k u st) R at g
    cases h : k u st with
    | ok p st2 =>
      rw [h] at g
      obtain ⟨us, gd⟩ := p
      exact fun F2 m2 H J c d => g F2 m2 H J (a.trans c) (b.trans d)
    | exc e st2 =>
      rw [h] at g
      exact fun F2 m2 H x y c d => g F2 m2 H x y (a.trans c) (b.trans d)
    | bad =>
      rw [h] at g
      exact g
  | exc e st => exact g
  | bad => exact g
theorem goAI_bind {env : Lo} {r : Re (List U)} {k : List U → Sto → Re (List U × Gd)} {R : It → Hp → Prop} (hV : Rv K T F m env σ) (g : GoI K T W F m σ (r.bind k) R) :
    GoA K T W F m σ r (fun v H1 => ∃ F1 m1 st1 u, Same F F1 ∧ m <+: m1 ∧ Rl K T F1 m1 st1 H1 ∧ Rv K T F1 m1 env σ ∧ RUs K T F1 m1 v u ∧ GoI K T W F1 m1 σ (k u st1) R) := by
  cases r with
  | ok u st =>
    refine fun F' m' H1 v a b Rr q => ⟨F', m', st, u, a, b, Rr, hV.mono a b, q, ?_⟩
    change GoI K T W F m σ (k u st) R at g
    cases h : k u st with
    | ok p st2 =>
      rw [h] at g
      obtain ⟨us, gd⟩ := p
      exact fun F2 m2 H J c d => g F2 m2 H J (a.trans c) (b.trans d)
    | exc e st2 =>
      rw [h] at g
      exact fun F2 m2 H x y c d => g F2 m2 H x y (a.trans c) (b.trans d)
    | bad =>
      rw [h] at g
      exact g
  | exc e st => exact g
  | bad => exact g
/-- a list's items -/
theorem sqL_inj {H : Hp} {a : Addr} {xs ys : List V} (h : H a = some (.lst xs)) (h2 : H a = some (.lst ys)) : xs = ys := by
  rw [h] at h2
  cases h2
  rfl
end

/-- a list, a tuple, a text -/
def iSeq (c : ME) : MI := fun env st => (c env st).bind fun u st => match u with
  | .d (.str z) => .ok (z.cps.toList.map fun k => .d (.str ⟨#[k]⟩), none) st
  | u => match scrU st u, tupU u with
    | some us, _ => .ok (us, some (u, us)) st
    | none, some us => .ok (us, none) st
    | none, none => .bad
section
variable {K : PySem.W.Frag} {T : Tab} {F : Hp} {m : List Addr}
theorem sqL_is {X : Cx} {pins : List (Addr × Obj)} {s : Shared} {σ : St} {H : Hp} (I : Inv X pins σ H s) {a : Addr} {xs ys : List V} (h : SqL X.K H a xs) (h2 : SqL X.K H a ys) : xs = ys := I.list_inj h h2
theorem itOk_list {st : Sto} {u : U} {us : List U} {a : Addr} (hu : RU K T F m (.ref a) u) : ItOk K T F m (Itl K a) us (some (u, us)) := by
  intro F' m' st' H hs hm hR hg i
  have e : scrU st' u = some us := of_decide_eq_true hg
  obtain ⟨a', vs, ea, h1, r1⟩ := scrU_ok hR (hu.mono hs hm) e
  cases ea
  refine ⟨fun hi => ⟨vs, h1, by rw [r1.len]; exact hi⟩, fun w hw => ?_⟩
  obtain ⟨v, hv, rv⟩ := r1.get hw
  refine ⟨⟨vs, v, h1, hv⟩, fun x H2 y => ?_⟩
  obtain ⟨e1, y⟩ := y
  subst e1
  have := y vs h1
  rw [hv] at this
  cases this
  exact ⟨F', Same.refl _, hR, rv⟩
theorem itOk_tup {u : U} {us : List U} {a : Addr} (hu : RU K T F m (.ref a) u) (e : tupU u = some us) : ItOk K T F m (Itt K a) us none := by
  intro F' m' st' H hs hm hR hg i
  obtain ⟨a', vs, ea, h1, r1⟩ := tupU_ok hR (hu.mono hs hm) e
  cases ea
  refine ⟨fun hi => ⟨vs, h1, by rw [r1.len]; exact hi⟩, fun w hw => ?_⟩
  obtain ⟨v, hv, rv⟩ := r1.get hw
  refine ⟨⟨vs, v, h1, hv⟩, fun x H2 y => ?_⟩
  obtain ⟨e1, y⟩ := y
  subst e1
  have := y vs h1
  rw [hv] at this
  cases this
  exact ⟨F', Same.refl _, hR, rv⟩
theorem itOk_str (z : Str) : ItOk K T F m (Its z) (z.cps.toList.map fun k => .d (.str ⟨#[k]⟩)) none := by
  intro F' m' st' H hs hm hR hg i
  have hl : (z.cps.toList.map fun k => U.d (.str ⟨#[k]⟩)).length = z.cps.size := by simp
  refine ⟨fun hi => by rw [hl] at hi; exact hi, fun w hw => ?_⟩
  have hi : i < z.cps.size := by
    obtain ⟨h, _⟩ := List.getElem?_eq_some_iff.mp hw
    rw [hl] at h
    exact h
  refine ⟨hi, fun x H2 y => ?_⟩
  obtain ⟨e1, c, hc, rfl⟩ := y
  subst e1
  have hw2 : w = .d (.str ⟨#[c]⟩) := by
    rw [List.getElem?_map] at hw
    rw [Array.getElem?_toList, hc] at hw
    cases hw
    rfl
  subst hw2
  exact ⟨F', Same.refl _, hR, .d (.str _)⟩
theorem itOk_ints {J : It} {n : Nat} {f : Nat → Int} (hgo : ∀ i H, i < n → J.go i H) (hst : ∀ i H, n ≤ i → J.stop i H) (hy : ∀ i H x H', J.yld i H x H' → H' = H ∧ x = .int (f i)) : ItOk K T F m J ((List.range n).map fun k => .d (.int (f k))) none := by
  intro F' m' st' H hs hm hR hg i
  have hl : ((List.range n).map fun k => U.d (.int (f k))).length = n := by simp
  refine ⟨fun hi => by rw [hl] at hi; exact hst i H hi, fun w hw => ?_⟩
  have hi : i < n := by
    obtain ⟨h, _⟩ := List.getElem?_eq_some_iff.mp hw
    rw [hl] at h
    exact h
  refine ⟨hgo i H hi, fun x H2 y => ?_⟩
  obtain ⟨e1, rfl⟩ := hy i H x H2 y
  subst e1
  have hw2 : w = .d (.int (f i)) := by
    rw [List.getElem?_map, List.getElem?_range hi] at hw
    cases hw
    rfl
  subst hw2
  exact ⟨F', Same.refl _, hR, .d (.int _)⟩
theorem itOk_rev {u : U} {us : List U} {a : Addr} (hu : RU K T F m (.ref a) u) : ItOk K T F m (Itv K a us.length) us.reverse (some (u, us)) := by
  intro F' m' st' H hs hm hR hg i
  have e : scrU st' u = some us := of_decide_eq_true hg
  obtain ⟨a', vs, ea, h1, r1⟩ := scrU_ok hR (hu.mono hs hm) e
  cases ea
  refine ⟨fun hi => ?_, fun w hw => ?_⟩
  · show us.length ≤ i
    rw [List.length_reverse] at hi
    exact hi
  · have hi : i < us.length := by
      obtain ⟨h, _⟩ := List.getElem?_eq_some_iff.mp hw
      rw [List.length_reverse] at h
      exact h
    rw [List.getElem?_reverse hi] at hw
    obtain ⟨v, hv, rv⟩ := r1.get hw
    refine ⟨⟨hi, vs, v, h1, ?_⟩, fun x H2 y => ?_⟩
    · exact hv
    · obtain ⟨e1, y⟩ := y
      subst e1
      have := y vs h1
      rw [hv] at this
      cases this
      exact ⟨F', Same.refl _, hR, rv⟩
/-- the pairs of enumerate -/
def enumU (us : List U) : List U := us.zipIdx.map fun p => match p.1 with
  | .d x => .d (.tup [.int (p.2 : Nat), x])
  | u => .t [.d (.int (p.2 : Nat)), u]
theorem itOk_enum {u : U} {us : List U} {a : Addr} (hu : RU K T F m (.ref a) u) : ItOk K T F m (Ite K a) (enumU us) (some (u, us)) := by
  intro F' m' st' H hs hm hR hg i
  have e : scrU st' u = some us := of_decide_eq_true hg
  obtain ⟨a', vs, ea, h1, r1⟩ := scrU_ok hR (hu.mono hs hm) e
  cases ea
  have hl : (enumU us).length = us.length := by simp [enumU]
  refine ⟨fun hi => ⟨vs, h1, by rw [r1.len, ← hl]; exact hi⟩, fun w hw => ?_⟩
  have hi : i < us.length := by
    obtain ⟨h, _⟩ := List.getElem?_eq_some_iff.mp hw
    rw [hl] at h
    exact h
  have hx : us[i]? = some us[i] := List.getElem?_eq_getElem hi
  obtain ⟨v, hv, rv⟩ := r1.get hx
  refine ⟨⟨vs, v, h1, hv⟩, fun x H2 y => ?_⟩
  obtain ⟨T0, x0, rfl, hT, rfl, y⟩ := y
  have := y vs h1
  rw [hv] at this
  cases this
  have hsm := same_upd (o := .tup [.int (i : Nat), v]) (hR.free hT)
  refine ⟨_, hsm, hR.froze hT _, ?_⟩
  unfold enumU at hw
  rw [List.getElem?_map, List.getElem?_zipIdx, hx] at hw
  simp only [Option.map_some, Nat.zero_add, Option.some.injEq] at hw
  have rv2 := rv.mono hsm (pre_refl m')
  generalize us[i] = z at hw rv2
  cases z with
  | d z =>
    simp only at hw
    subst hw
    cases rv2 with
    | d rv2 => exact .d (.tup (SqT.of upd_same) (.cons (.int _) (.cons rv2 .nil)))
  | c z =>
    simp only at hw
    subst hw
    exact .t (SqT.of upd_same) (.cons (.d (.int _)) (.cons rv2 .nil))
  | t z =>
    simp only at hw
    subst hw
    exact .t (SqT.of upd_same) (.cons (.d (.int _)) (.cons rv2 .nil))
end
/-- range -/
def rngU (lo : Int) (n : Nat) : List U := (List.range n).map fun k => .d (.int (lo + (k : Nat)))
def dwnU (hi : Int) (n : Nat) : List U := (List.range n).map fun k => .d (.int (hi + (k : Nat) * (-1)))
def inR (i : Int) : Bool := decide (-4611686018427387904 ≤ i) && decide (i < 4611686018427387904)
theorem inR_ok {i : Int} (h : inR i = true) : -(2 ^ 62) ≤ i ∧ i < 2 ^ 62 := by
  unfold inR at h
  rw [Bool.and_eq_true, decide_eq_true_iff, decide_eq_true_iff] at h
  omega
def iRange1 (cs : MA) : MI := fun env st => (cs env st).bind fun us st => match us with
  | [.d (.int j)] => if inR j then .ok (rngU 0 j.toNat, none) st else .bad
  | _ => .bad
def iRange2 (cs : MA) : MI := fun env st => (cs env st).bind fun us st => match us with
  | [.d (.int i), .d (.int j)] => if inR i && inR j then .ok (rngU i (j - i).toNat, none) st else .bad
  | _ => .bad
def iRange3 (cs : MA) : MI := fun env st => (cs env st).bind fun us st => match us with
  | [.d (.int i), .d (.int j), .d (.int k)] => if (inR i && inR j) && decide (k = -1) then .ok (dwnU i (i - j).toNat, none) st else .bad
  | _ => .bad
def iEnumr (cs : MA) : MI := fun env st => (cs env st).bind fun us st => match us with
  | [u] => match scrU st u with
    | some xs => .ok (enumU xs, some (u, xs)) st
    | none => .bad
  | _ => .bad
def iRevr (cs : MA) : MI := fun env st => (cs env st).bind fun us st => match us with
  | [u] => match scrU st u with
    | some xs => .ok (xs.reverse, some (u, xs)) st
    | none => .bad
  | _ => .bad
/-- a global name -/
def glb (B : Blk) (x : Str) : Prop := B.sc.names.lookup x = some .globalImplicit
theorem glb_ok {B : Blk} {x : Str} (h : glb B x) {X : Cx} (o : B.ok X) : Gl X x := by
  unfold Gl Env.kindOf
  rw [o.hsc]
  exact h
section
variable {B : Blk} {tg a b d e : Expr} {c : ME} {cs : MA} {pos p : Pos}
theorem si_seq (h : SE B e c) : SI B tg e (iSeq c) := by
  intro X o W tk
  refine ⟨fun pins s σ H R I hh => ?_⟩
  obtain ⟨F, m, env, st, hR, hV, g⟩ := hh
  have hK := o.hK
  refine thn ((h X o W tk).run pins s σ H _ I ⟨F, m, env, st, hR, hV, goEI_bind hV g⟩) fun v s1 ⟨x, H1, I1, r1, F1, m1, st1, u, s1', p1, hR1, hV1, q1, g1⟩ => ?_
  split at g1
  · rename_i z
    cases q1 with
    | d q1 =>
      cases q1
      obtain ⟨t, rfl⟩ := r1
      have q : R (Its z) H1 := g1 F1 m1 H1 _ (Same.refl _) (pre_refl _) hR1 (itOk_str z)
      cases ha : z.cps.all (· < 128)
      · exact wpAny_pyIter_wide ha (pi_one (tk := s1.toks) I1 _ (turn_str _ z t "str_iterator" (.inr rfl)) ⟨_, Heap.get?_push_size _ rfl, rfl, rfl⟩ q)
      · exact wpAny_pyIter_ascii ha (pi_one (tk := s1.toks) I1 _ (turn_str _ z t "str_ascii_iterator" (.inl rfl)) ⟨_, Heap.get?_push_size _ rfl, rfl, rfl⟩ q)
  · split at g1
    · rename_i us e1
      obtain ⟨p, vs, rfl, h1, h2⟩ := scrU_ok hR1 q1 e1
      cases r1
      have q : R (Itl X.K p) H1 := g1 F1 m1 H1 _ (Same.refl _) (pre_refl _) hR1 (by rw [hK]; exact itOk_list (st := st1) q1)
      obtain ⟨its, rv, pl, hz⟩ := I1.list (by rw [hK]; exact h1)
      exact wpAny_pyIter_list pl.isList (pi_one (tk := s1.toks) I1 _ (turn_list p _) ⟨_, Heap.get?_push_size _ rfl, rfl, rfl⟩ q)
    · rename_i us e0 e1
      obtain ⟨p, vs, rfl, h1, h2⟩ := tupU_ok hR1 q1 e1
      cases r1
      have q : R (Itt X.K p) H1 := g1 F1 m1 H1 _ (Same.refl _) (pre_refl _) hR1 (by rw [hK]; exact itOk_tup q1 e1)
      obtain ⟨its, rv, pl, hz⟩ := I1.tuple (by rw [hK]; exact h1)
      exact wpAny_pyIter_tuple (show s1.heap.IsTuple p its.toArray from pl) (pi_one (tk := s1.toks) I1 _ (turn_tuple p _) ⟨_, Heap.get?_push_size _ rfl, rfl, rfl⟩ q)
    · exact g1.elim
theorem itr_ok {K : PySem.W.Frag} {T : Tab} {F : Hp} {m : List Addr} (lo : Int) (n : Nat) : ItOk K T F m (Itr lo n) (rngU lo n) none :=
  itOk_ints (fun _ _ h => h) (fun _ _ h => h) fun _ _ _ _ h => h
theorem itc_ok {K : PySem.W.Frag} {T : Tab} {F : Hp} {m : List Addr} (lo : Int) (n : Nat) : ItOk K T F m (Itc lo (-1) n) (dwnU lo n) none :=
  itOk_ints (fun _ _ h => h) (fun _ _ h => h) fun _ _ _ _ h => h
theorem si_range1 (hg : glb B "range") (hm : B.G.mg "range" = none) (hs : noStar a = true) (h : SA B [a] cs) : SI B tg (.Call (.Name "range" p) [a] [] pos) (iRange1 cs) := by
  intro X o W tk
  refine PI.imp (pi_range1 (glb_ok hg o) (by rw [o.hmg]; exact hm) (h X o W tk) (star_of hs [] X.env)) ?_
  rintro σ H R ⟨F, m, env, st, hR, hV, g⟩
  refine ⟨F, m, env, st, hR, hV, (goAI_bind hV g).imp ?_⟩
  rintro vs H1 ⟨F1, m1, st1, us, s1, p1, hR1, hV1, q1, g1⟩
  split at g1
  · split at g1
    · rename_i hj
      cases q1 with
      | cons q1 q2 =>
        cases q2
        cases q1 with
        | d q1 =>
          cases q1
          exact ⟨_, rfl, (inR_ok hj).1, (inR_ok hj).2, g1 F1 m1 H1 _ (Same.refl _) (pre_refl _) hR1 (itr_ok 0 _)⟩
    · exact g1.elim
  · exact g1.elim
theorem si_range2 (hg : glb B "range") (hm : B.G.mg "range" = none) (hs : noStar a = true) (hs2 : noStar b = true) (h : SA B [a, b] cs) : SI B tg (.Call (.Name "range" p) [a, b] [] pos) (iRange2 cs) := by
  intro X o W tk
  refine PI.imp (pi_range2 (glb_ok hg o) (by rw [o.hmg]; exact hm) (h X o W tk) (by rw [star_of hs, star_of hs2]; rfl) (by rw [star_of hs2]; rfl)) ?_
  rintro σ H R ⟨F, m, env, st, hR, hV, g⟩
  refine ⟨F, m, env, st, hR, hV, (goAI_bind hV g).imp ?_⟩
  rintro vs H1 ⟨F1, m1, st1, us, s1, p1, hR1, hV1, q1, g1⟩
  split at g1
  · split at g1
    · rename_i hj
      rw [Bool.and_eq_true] at hj
      cases q1 with
      | cons q1 q2 =>
        cases q2 with
        | cons q2 q3 =>
          cases q3
          cases q1 with
          | d q1 =>
            cases q1
            cases q2 with
            | d q2 =>
              cases q2
              exact ⟨_, _, rfl, ⟨(inR_ok hj.1).1, (inR_ok hj.1).2, (inR_ok hj.2).1, (inR_ok hj.2).2⟩, g1 F1 m1 H1 _ (Same.refl _) (pre_refl _) hR1 (itr_ok _ _)⟩
    · exact g1.elim
  · exact g1.elim
theorem si_range3 (hg : glb B "range") (hm : B.G.mg "range" = none) (hs : noStar a = true) (hs2 : noStar b = true) (hs3 : noStar d = true) (h : SA B [a, b, d] cs) : SI B tg (.Call (.Name "range" p) [a, b, d] [] pos) (iRange3 cs) := by
  intro X o W tk
  refine PI.imp (pi_range3 (glb_ok hg o) (by rw [o.hmg]; exact hm) (h X o W tk) (star_of hs _ X.env) (by rw [star_of hs2, star_of hs3]; rfl)) ?_
  rintro σ H R ⟨F, m, env, st, hR, hV, g⟩
  refine ⟨F, m, env, st, hR, hV, (goAI_bind hV g).imp ?_⟩
  rintro vs H1 ⟨F1, m1, st1, us, s1, p1, hR1, hV1, q1, g1⟩
  split at g1
  · split at g1
    · rename_i hj
      rw [Bool.and_eq_true, Bool.and_eq_true, decide_eq_true_iff] at hj
      obtain ⟨⟨h1, h2⟩, h3⟩ := hj
      subst h3
      cases q1 with
      | cons q1 q2 =>
        cases q2 with
        | cons q2 q3 =>
          cases q3 with
          | cons q3 q4 =>
            cases q4
            cases q1 with
            | d q1 =>
              cases q1
              cases q2 with
              | d q2 =>
                cases q2
                cases q3 with
                | d q3 =>
                  cases q3
                  exact ⟨_, _, _, _, rfl, RgC.neg (inR_ok h1).1 (inR_ok h1).2 (inR_ok h2).1 (inR_ok h2).2, g1 F1 m1 H1 _ (Same.refl _) (pre_refl _) hR1 (itc_ok _ _)⟩
    · exact g1.elim
  · exact g1.elim
theorem si_enum {elts : List Expr} {kk : Nat} {tpos : Pos} (hg : glb B "enumerate") (hm : B.G.mg "enumerate" = none) (hs : noStar a = true) (h : SA B [a] cs) : SI B (.Tuple elts kk tpos) (.Call (.Name "enumerate" p) [a] [] pos) (iEnumr cs) := by
  intro X o W tk
  have hK := o.hK
  refine PI.imp (pi_enum (glb_ok hg o) (by rw [o.hmg]; exact hm) (h X o W tk) (star_of hs [] X.env)) ?_
  rintro σ H R ⟨F, m, env, st, hR, hV, g⟩
  refine ⟨F, m, env, st, hR, hV, (goAI_bind hV g).imp ?_⟩
  rintro vs H1 ⟨F1, m1, st1, us, s1, p1, hR1, hV1, q1, g1⟩
  split at g1
  · split at g1
    · rename_i xs e1
      cases q1 with
      | cons q1 q2 =>
        cases q2
        obtain ⟨q, ws, rfl, h1, h2⟩ := scrU_ok hR1 q1 e1
        rw [hK]
        exact ⟨q, ws, rfl, h1, g1 F1 m1 H1 _ (Same.refl _) (pre_refl _) hR1 (itOk_enum q1)⟩
    · exact g1.elim
  · exact g1.elim
theorem si_rev (hg : glb B "reversed") (hm : B.G.mg "reversed" = none) (hs : noStar a = true) (h : SA B [a] cs) : SI B tg (.Call (.Name "reversed" p) [a] [] pos) (iRevr cs) := by
  intro X o W tk
  have hK := o.hK
  refine PI.imp (pi_reversed (glb_ok hg o) (by rw [o.hmg]; exact hm) (h X o W tk) (star_of hs [] X.env)) ?_
  rintro σ H R ⟨F, m, env, st, hR, hV, g⟩
  refine ⟨F, m, env, st, hR, hV, (goAI_bind hV g).imp ?_⟩
  rintro vs H1 ⟨F1, m1, st1, us, s1, p1, hR1, hV1, q1, g1⟩
  split at g1
  · split at g1
    · rename_i xs e1
      cases q1 with
      | cons q1 q2 =>
        cases q2
        obtain ⟨q, ws, rfl, h1, h2⟩ := scrU_ok hR1 q1 e1
        rw [hK]
        exact ⟨q, ws, rfl, h1, g1 F1 m1 H1 _ (Same.refl _) (pre_refl _) hR1 (by rw [h2.len]; exact itOk_rev q1)⟩
    · exact g1.elim
  · exact g1.elim
end

/-! ### for -/
def loopU (t : Tgt) (body : MS) (gd : Gd) : List U → Lo → Sto → Rs
  | [], env, st => if gdOk st gd then .ok .nx env st else .bad
  | u :: us, env, st => if gdOk st gd then (match setT t u env with
    | none => .bad
    | some env1 => match body env1 st with
      | .ok .nx env2 st2 => loopU t body gd us env2 st2
      | .ok .ct env2 st2 => loopU t body gd us env2 st2
      | .ok .bk env2 st2 => .ok .nx env2 st2
      | .ok (.rt v) env2 st2 => .ok (.rt v) env2 st2
      | .exc e env2 st2 => .exc e env2 st2
      | .bad => .bad) else .bad
def sFor (src : MI) (t : Tgt) (body : MS) : MS := fun env st => match src env st with
  | .ok (us, gd) st1 => loopU t body gd us env st1
  | .exc e st1 => .exc e env st1
  | .bad => .bad
def noSet : Expr → Bool
  | .Set _ _ _ => false
  | _ => true
theorem fold_of {e : Expr} (h : noSet e = true) (env : Env) (x : Value) : foldedSetIterable e env x = pure x := by
  cases e <;> first | rfl | (cases h)
section
variable {B : Blk} {tg it : Expr} {src : MI} {t : Tgt} {body : List Stmt} {c : MS} {pos : Pos}
theorem loop_go {K : PySem.W.Frag} {T : Tab} {W : WX} {t : Tgt} {c : MS} {us : List U} {gd : Gd} {F : Hp} {m : List Addr} {J : It} {Z : Ends} (hJ : ItOk K T F m J us gd) :
    ∀ (n : Nat) (i : Nat), n = us.length - i → i ≤ us.length → ∀ (F1 : Hp) (m1 : List Addr) (env : Lo) (st : Sto) (σ : St) (H : Hp), Same F F1 → m <+: m1 → Rl K T F1 m1 st H → Rv K T F1 m1 env σ → GoS K T W F1 m1 (loopU t c gd (us.drop i) env st) Z →
      (J.stop i H ∧ Z.nx σ H) ∨ (J.go i H ∧ ∃ N : St → Hp → Prop, (∀ σ' H', N σ' H' → ∃ F2 m2 env2 st2, Same F F2 ∧ m <+: m2 ∧ Rl K T F2 m2 st2 H' ∧ Rv K T F2 m2 env2 σ' ∧ GoS K T W F2 m2 (loopU t c gd (us.drop (i + 1)) env2 st2) Z ∧ i + 1 ≤ us.length) ∧
        ∀ x H', J.yld i H x H' → okG K T t x σ H' fun σ2 H2 => okS K T W c { Z with nx := N, ct := N, bk := Z.nx } σ2 H2) := by
  intro n i hn hi F1 m1 env st σ H hs hm hR hV g
  by_cases hlt : i < us.length
  · refine .inr ?_
    have hd : us.drop i = us[i] :: us.drop (i + 1) := List.drop_eq_getElem_cons hlt
    rw [hd] at g
    unfold loopU at g
    split at g
    · rename_i hg
      have hx : us[i]? = some us[i] := List.getElem?_eq_getElem hlt
      obtain ⟨hgo, hy⟩ := (hJ F1 m1 st H hs hm hR hg i).2 _ hx
      refine ⟨hgo, fun σ' H' => ∃ F2 m2 env2 st2, Same F F2 ∧ m <+: m2 ∧ Rl K T F2 m2 st2 H' ∧ Rv K T F2 m2 env2 σ' ∧ GoS K T W F2 m2 (loopU t c gd (us.drop (i + 1)) env2 st2) Z ∧ i + 1 ≤ us.length, fun _ _ z => z, fun x H' yy => ?_⟩
      obtain ⟨F2, s2, hR2, q2⟩ := hy x H' yy
      split at g
      · exact g.elim
      · rename_i env1 he
        refine ⟨F2, m1, st, us[i], env, env1, hR2, q2, hV.mono s2 (pre_refl _), he, fun σ2 hV2 _ => ⟨F2, m1, env1, st, hR2, hV2, ?_⟩⟩
        have g2 := GoS.up s2 (pre_refl m1) g
        cases hb : c env1 st with
        | ok f env2 st2 =>
          rw [hb] at g2
          cases f with
          | nx => exact fun F3 m3 H3 σ3 a b hR3 hV3 => ⟨F3, m3, env2, st2, (hs.trans s2).trans a, hm.trans b, hR3, hV3, GoS.up a b g2, hlt⟩
          | ct => exact fun F3 m3 H3 σ3 a b hR3 hV3 => ⟨F3, m3, env2, st2, (hs.trans s2).trans a, hm.trans b, hR3, hV3, GoS.up a b g2, hlt⟩
          | bk => exact g2
          | rt v => exact g2
        | exc e env2 st2 =>
          rw [hb] at g2
          exact g2
        | bad =>
          rw [hb] at g2
          exact g2
    · exact g.elim
  · refine .inl ?_
    have hd : us.drop i = [] := List.drop_eq_nil_of_le (by omega)
    rw [hd] at g
    unfold loopU at g
    split at g
    · rename_i hg
      exact ⟨(hJ F1 m1 st H hs hm hR hg i).1 (by omega), g F1 m1 H σ (Same.refl _) (pre_refl _) hR hV⟩
    · exact g.elim
theorem ss_for (hi : SI B tg it src) (hg : SG B tg t) (hb : SSs B body c) (hn : noSet it = true) : SS B (.For tg it body [] pos) (sFor src t c) := by
  intro X o W tk
  refine PS.imp (ps_for o.own o.calm (hi X o W tk) (hg X o) (hb X o W tk) (fun x => fold_of hn _ x)) ?_
  rintro Z σ H ⟨F, m, env, st, hR, hV, g⟩
  refine ⟨F, m, env, st, hR, hV, ?_⟩
  unfold sFor at g
  cases hsrc : src env st with
  | exc e st1 =>
    rw [hsrc] at g
    exact fun F' m' H' cc d a b hR' hx => g F' m' H' σ cc d a b hR' (hV.mono a b) hx
  | bad =>
    rw [hsrc] at g
    exact g
  | ok p st1 =>
    rw [hsrc] at g
    obtain ⟨us, gd⟩ := p
    intro F' m' H' J a b hR' hJ
    have g' : GoS B.G.K B.G.T W F' m' (loopU t c gd us env st1) Z := GoS.up a b g
    refine ⟨fun i n σ H => n = us.length - i ∧ i ≤ us.length ∧ ∃ F1 m1 env1 st1, Same F' F1 ∧ m' <+: m1 ∧ Rl B.G.K B.G.T F1 m1 st1 H ∧ Rv B.G.K B.G.T F1 m1 env1 σ ∧ GoS B.G.K B.G.T W F1 m1 (loopU t c gd (us.drop i) env1 st1) Z,
      ⟨us.length, by simp, Nat.zero_le _, F', m', env, st1, Same.refl _, pre_refl _, hR', hV.mono a b, by simpa using g'⟩, ?_⟩
    rintro i n σ1 H1 ⟨hn', hi', F1, m1, env1, st2, hs1, hm1, hR1, hV1, g1⟩
    rcases loop_go hJ n i hn' hi' F1 m1 env1 st2 σ1 H1 hs1 hm1 hR1 hV1 g1 with h | ⟨h1, N, h2, h3⟩
    · exact .inl h
    · refine .inr ⟨h1, N, fun σ' H2 hN => ?_, h3⟩
      obtain ⟨F2, m2, env2, st3, x1, x2, x3, x4, x5, x6⟩ := h2 σ' H2 hN
      exact ⟨us.length - (i + 1), by omega, rfl, x6, F2, m2, env2, st3, x1, x2, x3, x4, x5⟩
end
end KB
/-! Comprehensions. -/
namespace KB
open PySem L2

/-- an object of a cell becomes one that stays -/
theorem Rl.frz {K : PySem.W.Frag} {T : Tab} {F : Hp} {m : List Addr} {st : Sto} {H : Hp} (r : Rl K T F m st H) {a : Addr} {ho : HO} (h : H a = some ho) (hf : F a = none) (hm : ∀ (i : Nat), m[i]? ≠ some a) : Rl K T (upd F a ho) m st H where
  sub := fun b u e => by
    by_cases hb : b = a
    · subst hb
      rw [upd_same] at e
      cases e
      exact h
    · rw [upd_ne hb] at e
      exact r.sub b u e
  len := r.len
  obj := fun i o e => by
    obtain ⟨b, ho', e1, e2, e3, e4⟩ := r.obj i o e
    exact ⟨b, ho', e1, e2, by rw [upd_ne (fun z => hm i (by rw [← z]; exact e1))]; exact e3, e4.mono (same_upd hf) (pre_refl _)⟩
  inj := r.inj

def wipeL (env : Lo) : List Nat → Lo
  | [] => env
  | v :: vs => (wipeL env vs).set v none
theorem Rv.wipe {K : PySem.W.Frag} {T : Tab} {F : Hp} {m : List Addr} {env : Lo} {σ : St} (r : Rv K T F m env σ) : ∀ vs : List Nat, Rv K T F m (wipeL env vs) (L2.wipe σ vs)
  | [] => r
  | v :: vs => (Rv.wipe r vs).unset v none
theorem wipe_get (σ : St) : ∀ (vs : List Nat) (j : Nat), (L2.wipe σ vs)[j]? = if j ∈ vs then (if j < σ.length then some none else none) else σ[j]?
  | [], j => by simp [L2.wipe]
  | v :: vs, j => by
    have ih := wipe_get σ vs j
    unfold L2.wipe
    rw [List.getElem?_set, L2.wipe_length, ih]
    by_cases h : v = j
    · subst h
      simp
    · rw [if_neg h]
      have : j ∈ v :: vs ↔ j ∈ vs := by simp [Ne.symm h]
      simp [this]
theorem wipe_eq {σ σ' : St} {l vs : List Nat} (h : Beside l σ σ') (hl : ∀ j ∈ l, j ∈ vs) : L2.wipe σ' vs = L2.wipe σ vs := by
  refine List.ext_getElem? fun j => ?_
  rw [wipe_get, wipe_get, h.1]
  by_cases hj : j ∈ vs
  · rw [if_pos hj, if_pos hj]
  · rw [if_neg hj, if_neg hj]
    exact h.2 j fun z => hj (hl j z)

def tYesU : MT := fun _ st => .ok true st
/-- the turns of a comprehension: the list stands in the cell n0 -/
def lcU (t : Tgt) (tt : MT) (te : ME) (gd : Gd) (n0 : Nat) (env0 : Lo) : List U → Sto → Re Unit
  | [], st => if gdOk st gd then .ok () st else .bad
  | u :: us, st => if gdOk st gd then (match setT t u env0 with
    | none => .bad
    | some env1 => match tt env1 st with
      | .ok true st1 => (match te env1 st1 with
        | .ok y st2 => (match st2[n0]? with
          | some (.lst acc) => if acc.length < lim then lcU t tt te gd n0 env0 us (st2.set n0 (.lst (acc ++ [y]))) else .bad
          | _ => .bad)
        | _ => .bad)
      | .ok false st1 => lcU t tt te gd n0 env0 us st1
      | _ => .bad) else .bad
def lcEnd (fz : Bool) (st1 st2 : Sto) : Re U :=
  match st2[st1.length]? with
  | some (.lst acc) => (match closed acc with
    | some ds => if fz && trimOk st1 st2 then .ok (.d (.lst ds)) (st2.take st1.length) else .ok (.c st1.length) st2
    | none => .ok (.c st1.length) st2)
  | _ => .bad
def cLc (fz : Bool) (src : MI) (t : Tgt) (tt : MT) (te : ME) (own : List Nat) : ME := fun env st =>
  match src env st with
  | .ok (us, gd) st1 => (match lcU t tt te gd st1.length (wipeL env own) us (st1 ++ [.lst []]) with
    | .ok _ st2 => lcEnd fz st1 st2
    | _ => .bad)
  | .exc e st1 => .exc e st1
  | .bad => .bad
abbrev W0 : WX := fun _ _ _ _ => False
/-- the tests of a comprehension: none or one -/
inductive SPT (B : Blk) : List Expr → MT → Prop where
  | nil : SPT B [] tYesU
  | one {e : Expr} {t : MT} : ST B e t → SPT B [e] t
def compB (B : Blk) (scope : Scope) : Blk := { B with sc := relS scope B.sc, top := false }
section
variable {K : PySem.W.Frag} {T : Tab} {W : WX}
theorem lcEnd_go {fz : Bool} {F F1 : Hp} {m m1 : List Addr} {st1 st2 : Sto} {H0 H : Hp} {D : Addr} {σ : St} {Q : VK} (r0 : Rl K T F m st1 H0) (r : Rl K T F1 m1 st2 H) (hs : Same F F1) (hm : m ++ [D] <+: m1) (g : GoE K T W F m σ (lcEnd fz st1 st2) Q) : Q (.ref D) H := by
  have hm2 : m <+: m1 := List.IsPrefix.trans ⟨[D], rfl⟩ hm
  have hD : m1[st1.length]? = some D := pre_get hm (by rw [← r0.len, List.getElem?_append_right (Nat.le_refl _), Nat.sub_self]; rfl)
  unfold lcEnd at g
  split at g
  · rename_i acc e
    obtain ⟨a, ho, h1, h2, h3, h4⟩ := r.obj _ _ e
    rw [hD] at h1
    cases h1
    cases h4 with
    | @lst vsD _ rr =>
      split at g
      · rename_i ds hc
        split at g
        · rename_i hf
          rw [Bool.and_eq_true] at hf
          have rc := r0.cut r hm2 hf.2
          have nD : ∀ (i : Nat), m[i]? ≠ some D := fun i z => by
            have z1 := pre_get hm2 z
            have := r.inj i st1.length D z1 hD
            obtain ⟨hi, _⟩ := List.getElem?_eq_some_iff.mp z
            rw [r0.len] at hi
            omega
          have hsD := same_upd (o := .lst vsD) h3
          exact g _ m H _ (hs.trans hsD) (pre_refl _) (rc.frz h2 h3 nD) (.d (.lst upd_same ((rr.closed hc).mono hsD)))
        · exact g F1 m1 H _ hs hm2 r (.c hD)
      · exact g F1 m1 H _ hs hm2 r (.c hD)
  · exact g.elim
end
section
variable {B : Blk} {tg it elt : Expr} {ifs : List Expr} {scope : Scope} {own : List (Str × Nat)} {src : MI} {t : Tgt} {tt : MT} {te : ME} {pos : Pos}
theorem comp_ok {X : Cx} (o : B.ok X) (s : Shared) (H : Hp) (C : Addr) (cl : List (Str × Addr)) (fp : List Addr) : (compB B scope).ok (X.blk s H scope (compEnvC scope cl C X.env) fp) := by
  refine ⟨o.hP, o.hw, o.hK, o.hmg, o.hbase, o.hN, o.nd, ?_, o.room, o.grd, o.calm, PassesOwn.never, (fun z => nomatch z), (fun z => nomatch z), fun z => nomatch z⟩
  show relabel scope X.env = relS scope B.sc
  rw [← o.hsc]
  rfl
theorem spt_ok (h : SPT B ifs tt) {X : Cx} (o : B.ok X) {W : WX} (tk : Takes X W) : PTs X ifs (okT B.G.K B.G.T W tt) := by
  cases h with
  | nil =>
    refine ⟨fun pins s σ H Q I hw => pts_nil.run pins s σ H Q I ?_⟩
    obtain ⟨F, m, env, st, hR, hV, g⟩ := hw
    exact g F m H (Same.refl _) (pre_refl _) hR
  | one h => exact pts_one (h X o W tk)
theorem lc_read {K : PySem.W.Frag} {T : Tab} {W : WX} {fz : Bool} {vs : List Nat} (hv : ∀ j ∈ t.slots, j ∈ vs) {σ : St} {H : Hp} {Q : VK} (h : okE K T W (cLc fz src t tt te vs) σ H Q) :
    tLc (okI K T W src) (okG K T t) (okT K T W0 tt) (okE K T W0 te) vs σ H Q := by
  obtain ⟨F, m, env, st, hR, hV, g⟩ := h
  refine ⟨F, m, env, st, hR, hV, ?_⟩
  unfold cLc at g
  cases hsrc : src env st with
  | exc e st1 =>
    rw [hsrc] at g
    exact g
  | bad =>
    rw [hsrc] at g
    exact g
  | ok p st1 =>
    rw [hsrc] at g
    obtain ⟨us, gd⟩ := p
    intro F' m' H' J a b hR' hJ D hD
    simp only at g
    -- what is left of the turns, and then the end
    have goal : ∀ (i : Nat) (st2 : Sto), Prop := fun i st2 => True
    let P : Nat → Sto → Prop := fun i st2 => match lcU t tt te gd st1.length (wipeL env vs) (us.drop i) st2 with
      | .ok _ st3 => GoE K T W F' m' σ (lcEnd fz st1 st3) Q
      | _ => False
    have p0 : P 0 (st1 ++ [.lst []]) := by
      show (match lcU t tt te gd st1.length (wipeL env vs) (us.drop 0) (st1 ++ [.lst []]) with
        | .ok _ st3 => GoE K T W F' m' σ (lcEnd fz st1 st3) Q
        | _ => False)
      rw [List.drop_zero]
      split at g
      · exact GoE.up a b g
      · exact g.elim
    have hR0 := hR'.cell hD (ho := .lst []) (o := .lst []) (.lst .nil)
    refine ⟨fun i n H => n = us.length - i ∧ i ≤ us.length ∧ ∃ F1 m1 st2, Same F' F1 ∧ m' ++ [D] <+: m1 ∧ Rl K T F1 m1 st2 H ∧ P i st2, ⟨us.length, by simp, Nat.zero_le _, F', m' ++ [D], _, Same.refl _, pre_refl _, hR0, p0⟩, ?_⟩
    rintro i n H1 ⟨hn, hi, F1, m1, st2, hs1, hm1, hR1, p1⟩
    have hm2 : m' <+: m1 := List.IsPrefix.trans ⟨[D], rfl⟩ hm1
    have hDm : m1[st1.length]? = some D := pre_get hm1 (by rw [← hR'.len, List.getElem?_append_right (Nat.le_refl _), Nat.sub_self]; rfl)
    by_cases hlt : i < us.length
    · refine .inr ?_
      have hd : us.drop i = us[i] :: us.drop (i + 1) := List.drop_eq_getElem_cons hlt
      have hx : us[i]? = some us[i] := List.getElem?_eq_getElem hlt
      have p1' : (match lcU t tt te gd st1.length (wipeL env vs) (us[i] :: us.drop (i + 1)) st2 with
        | .ok _ st3 => GoE K T W F' m' σ (lcEnd fz st1 st3) Q
        | _ => False) := by
        rw [← hd]
        exact p1
      unfold lcU at p1'
      split at p1'
      · rename_i hz3 st3 heq
        split at heq
        · rename_i hg
          obtain ⟨hgo, hy⟩ := (hJ F1 m1 st2 H1 hs1 hm2 hR1 hg i).2 _ hx
          refine ⟨hgo, fun H2 => ∃ F2 m2 st4, Same F' F2 ∧ m' ++ [D] <+: m2 ∧ Rl K T F2 m2 st4 H2 ∧ P (i + 1) st4, fun H2 ⟨F2, m2, st4, x1, x2, x3, x4⟩ => ⟨us.length - (i + 1), by omega, rfl, hlt, F2, m2, st4, x1, x2, x3, x4⟩, fun x H2 yy => ?_⟩
          obtain ⟨F2, s2, hR2, q2⟩ := hy x H2 yy
          split at heq
          · cases heq
          · rename_i env1 he
            refine ⟨F2, m1, st2, us[i], wipeL env vs, env1, hR2, q2, ((hV.mono a b).mono hs1 hm2).mono s2 (pre_refl _) |>.wipe vs, he, fun σ2 hV2 bs => ⟨?_, F2, m1, env1, st2, hR2, hV2, ?_⟩⟩
            · have e1 : L2.wipe σ2 vs = L2.wipe (L2.wipe σ vs) vs := wipe_eq bs hv
              rw [e1]
              refine List.ext_getElem? fun j => ?_
              rw [wipe_get, wipe_get, L2.wipe_length]
              by_cases hj : j ∈ vs
              · rw [if_pos hj, if_pos hj]
              · rw [if_neg hj, if_neg hj]
            · cases htt : tt env1 st2 with
              | exc e s =>
                rw [htt] at heq
                cases heq
              | bad =>
                rw [htt] at heq
                cases heq
              | ok bb st4 =>
                rw [htt] at heq
                intro F3 m3 H3 a3 b3 hR3
                have hV3 := hV2.mono a3 b3
                cases bb with
                | false =>
                  simp only at heq
                  rw [if_neg Bool.false_ne_true]
                  refine ⟨F3, m3, st4, (hs1.trans s2).trans a3, hm1.trans b3, hR3, ?_⟩
                  show (match lcU t tt te gd st1.length (wipeL env vs) (us.drop (i + 1)) st4 with
                    | .ok _ st3 => GoE K T W F' m' σ (lcEnd fz st1 st3) Q
                    | _ => False)
                  rw [heq]
                  exact p1'
                | true =>
                  simp only at heq
                  rw [if_pos rfl]
                  refine ⟨F3, m3, env1, st4, hR3, hV3, ?_⟩
                  cases hte : te env1 st4 with
                  | exc e s =>
                    rw [hte] at heq
                    cases heq
                  | bad =>
                    rw [hte] at heq
                    cases heq
                  | ok y st5 =>
                    rw [hte] at heq
                    intro F4 m4 H4 v a4 b4 hR4 q4
                    simp only at heq
                    have hD4 : m4[st1.length]? = some D := pre_get (b3.trans b4) hDm
                    split at heq
                    · rename_i acc hacc
                      split at heq
                      · rename_i hl
                        obtain ⟨a5, ho, h1, h2, h3, h4⟩ := hR4.obj _ _ hacc
                        rw [hD4] at h1
                        cases h1
                        cases h4 with
                        | @lst vs5 _ rr =>
                          refine ⟨vs5, h2, by rw [← lim_eq, rr.len]; exact hl, F4, m4, _, ((hs1.trans s2).trans a3).trans a4, (hm1.trans b3).trans b4,
                            hR4.write (i := st1.length) ?_ hD4 (.lst (rr.app (.cons q4 .nil))), ?_⟩
                          · obtain ⟨hz, _⟩ := List.getElem?_eq_some_iff.mp hacc
                            exact hz
                          · show (match lcU t tt te gd st1.length (wipeL env vs) (us.drop (i + 1)) _ with
                              | .ok _ st3 => GoE K T W F' m' σ (lcEnd fz st1 st3) Q
                              | _ => False)
                            rw [heq]
                            exact p1'
                      · cases heq
                    · cases heq
        · cases heq
      · exact p1'.elim
    · refine .inl ?_
      have hd : us.drop i = [] := List.drop_eq_nil_of_le (by omega)
      have p1' : (match lcU t tt te gd st1.length (wipeL env vs) [] st2 with
        | .ok _ st3 => GoE K T W F' m' σ (lcEnd fz st1 st3) Q
        | _ => False) := by
        rw [← hd]
        exact p1
      unfold lcU at p1'
      split at p1'
      · rename_i heq
        split at heq
        · rename_i hg
          cases heq
          exact ⟨(hJ F1 m1 _ H1 hs1 hm2 hR1 hg i).1 (by omega), lcEnd_go hR' hR1 hs1 hm1 p1'⟩
        · cases heq
      · exact p1'.elim
theorem se_lc {fz : Bool} (hi : SI B tg it src) (hb : blkC B.N B.sc scope own = true) (hg : SG (compB B scope) tg t) (ht : SPT (compB B scope) ifs tt) (he : SE (compB B scope) elt te) (hn : noSet it = true) (hv : t.slots.all (fun j => (own.map (·.2)).contains j) = true) :
    SE B (.ListComp elt [⟨tg, it, ifs, 0⟩] scope pos) (cLc fz src t tt te (own.map (·.2))) := by
  intro X o W tk
  have hN : X.N.Nodup := by rw [o.hN]; exact o.nd
  have hv' : ∀ j ∈ t.slots, j ∈ own.map (·.2) := fun j hj => by
    have := List.all_eq_true.mp hv j hj
    simpa using this
  refine PE.imp (pe_lc o.calm hN (hi X o W tk) (blkOk_by (by rw [o.hN, o.hsc]; exact hb)) (fun s H C cl fp => hg _ (comp_ok o s H C cl fp)) (fun s H C cl fp => spt_ok ht (comp_ok o s H C cl fp) takes0) (fun s H C cl fp => he _ (comp_ok o s H C cl fp) W0 takes0) (fun x => fold_of hn _ x)) ?_
  intro σ H Q h
  exact lc_read hv' h
end
end KB
/-! Statements. -/
namespace KB
open PySem L2

def sNil : MS := fun env st => .ok .nx env st
def sSeq (a b : MS) : MS := fun env st => match a env st with
  | .ok .nx env' st' => b env' st'
  | .ok .bk env' st' => .ok .bk env' st'
  | .ok .ct env' st' => .ok .ct env' st'
  | .ok (.rt u) env' st' => .ok (.rt u) env' st'
  | .exc e env' st' => .exc e env' st'
  | .bad => .bad
/-- a value, then a frame and a store -/
def sVal (c : ME) (k : U → Lo → Sto → Rs) : MS := fun env st => match c env st with
  | .ok u st' => k u env st'
  | .exc e st' => .exc e env st'
  | .bad => .bad
def sExp (c : ME) : MS := sVal c fun _ env st => .ok .nx env st
def sRet (c : ME) : MS := sVal c fun u env st => .ok (.rt u) env st
def sRetN : MS := fun env st => .ok (.rt (.d .non)) env st
def sAsg (t : Tgt) (c : ME) : MS := sVal c fun u env st => match setT t u env with
  | some env' => .ok .nx env' st
  | none => .bad
def sIf (t : MT) (a b : MS) : MS := fun env st => match t env st with
  | .ok true st' => a env st'
  | .ok false st' => b env st'
  | .exc e st' => .exc e env st'
  | .bad => .bad
def sAug (i : Nat) (f : U → U → Sto → Re U) (c : ME) : MS := fun env st => match env[i]? with
  | some (some u) => sVal c (fun w env st => match f u w st with
    | .ok r st' => .ok .nx (env.set i (some r)) st'
    | _ => .bad) env st
  | _ => .bad
/-- o[i] = v -/
def setU : U → U → U → Sto → Option Sto
  | .c n, i, v, st => match st[n]? with
    | some (.lst us) => (match i with
      | .d (.int k) => (ixN us.length k).map fun j => st.set n (.lst (us.set j v))
      | _ => none)
    | some (.dct kvs) => (match keyU i with
      | some k => if kvs.length < lim then some (st.set n (.dct (putU kvs k v))) else none
      | none => none)
    | _ => none
  | _, _, _, _ => none
def sPut (o i c : ME) : MS := sVal c fun v => sVal o fun ov => sVal i fun iv env st => match setU ov iv v st with
  | some st' => .ok .nx env st'
  | none => .bad
/-- o[i] op= v -/
def sPutAug (f : U → U → Sto → Re U) (o i c : ME) : MS := sVal o fun ov => sVal i fun iv env st => match ixU ov iv st with
  | .ok old st1 => sVal c (fun v env st2 => match f old v st2 with
    | .ok new st3 => (match setU ov iv new st3 with
      | some st4 => .ok .nx env st4
      | none => .bad)
    | _ => .bad) env st1
  | _ => .bad
/-- while, some turns at most -/
def whileU (t : MT) (body : MS) : Nat → MS
  | 0, _, _ => .bad
  | n + 1, env, st => match t env st with
    | .ok true st1 => (match body env st1 with
      | .ok .nx env2 st2 => whileU t body n env2 st2
      | .ok .ct env2 st2 => whileU t body n env2 st2
      | .ok .bk env2 st2 => .ok .nx env2 st2
      | .ok (.rt v) env2 st2 => .ok (.rt v) env2 st2
      | .exc e env2 st2 => .exc e env2 st2
      | .bad => .bad)
    | .ok false st1 => .ok .nx env st1
    | .exc e st1 => .exc e env st1
    | .bad => .bad

section
variable {K : PySem.W.Frag} {T : Tab} {W : WX} {F : Hp} {m : List Addr} {σ : St} {Z : Ends}
/-- a value and what follows -/
theorem goES {env : Lo} {st : Sto} {c : ME} {k : U → Lo → Sto → Rs} (hV : Rv K T F m env σ) (g : GoS K T W F m (sVal c k env st) Z) :
    GoE K T W F m σ (c env st) (fun v H1 => ∃ F1 m1 st1 u, Same F F1 ∧ m <+: m1 ∧ Rl K T F1 m1 st1 H1 ∧ Rv K T F1 m1 env σ ∧ RU K T F1 m1 v u ∧ GoS K T W F1 m1 (k u env st1) Z) := by
  unfold sVal at g
  cases h : c env st with
  | ok u st1 =>
    rw [h] at g
    exact fun F' m' H1 v a b R q => ⟨F', m', st1, u, a, b, R, hV.mono a b, q, GoS.up a b g⟩
  | exc e st1 =>
    rw [h] at g
    exact fun F' m' H c d a b R x => g F' m' H σ c d a b R (hV.mono a b) x
  | bad =>
    rw [h] at g
    exact g
end
/-- no comprehension -/
def noComp : Expr → Bool
  | .ListComp _ _ _ _ => false
  | .SetComp _ _ _ _ => false
  | .DictComp _ _ _ _ _ => false
  | _ => true
theorem swaps_no {e : Expr} (h : noComp e = true) (tg : Option Expr) (l : Nat) (env : Env) : swapsWith e tg l env = pure false := by
  cases e <;> first | rfl | (cases h)
theorem swaps_sub (e o i : Expr) (p : Pos) (l : Nat) (env : Env) : swapsWith e (some (.Subscript o i p)) l env = pure false := by
  cases e <;> rfl
theorem swaps_att (e o : Expr) (f : Str) (p : Pos) (l : Nat) (env : Env) : swapsWith e (some (.Attribute o f p)) l env = pure false := by
  cases e <;> rfl
theorem swaps_tup (e : Expr) (es : List Expr) (k : Nat) (p : Pos) (l : Nat) (env : Env) : swapsWith e (some (.Tuple es k p)) l env = pure false := by
  cases e <;> rfl
/-- no plain slice -/
def noSl : Expr → Bool
  | .Slice _ _ none _ => false
  | _ => true
theorem noSl_ne {e : Expr} (h : noSl e = true) : ∀ l u p, e ≠ .Slice l u none p := by
  rintro l u p rfl
  cases h
/-- no tuple display -/
def noTup : Expr → Bool
  | .Tuple _ _ _ => false
  | _ => true
theorem swapped_no {e : Expr} (h : noTup e = true) (es : List Expr) (k : Nat) (p : Pos) (env : Env) : swappedStores [.Tuple es k p] e env = pure none := by
  cases e <;> first | rfl | (cases h)
theorem sub_plain {i : Expr} (h : noSl i = true) (o : Expr) (p : Pos) (env : Env) : ∀ v, assign (.Subscript o i p) env v = (do
    let ov ← holding [v] (eval o env)
    let iv ← holding [v, ov] (eval i env)
    standAt p
    holding [v, ov, iv] (setItem ov iv v)
    release [v, ov, iv] []) := by
  intro v
  cases i <;> try rfl
  rename_i l u st p
  cases st with
  | none => cases h
  | some x => rfl
theorem aug_plain {i : Expr} (h : noSl i = true) : ∀ ov iv new, augStore i ov iv new = (do holding [new, ov, iv] (setItem ov iv new); release [new, ov, iv] []; pure .next) := by
  intro ov iv new
  cases i <;> try rfl
  rename_i l u st p
  cases st with
  | none => cases h
  | some x => rfl
section
variable {B : Blk} {e o i t1 : Expr} {s : Stmt} {ss p q : List Stmt} {c co ci : ME} {a b : MS} {t : MT} {tg : Tgt} {pos p1 p2 : Pos}
theorem sss_nil : SSs B [] sNil := by
  intro X ok W tk
  refine PSs.imp pss_nil ?_
  rintro Z σ H ⟨F, m, env, st, hR, hV, g⟩
  exact g F m H σ (Same.refl _) (pre_refl _) hR hV
theorem sss_cons (h1 : SS B s a) (h2 : SSs B ss b) : SSs B (s :: ss) (sSeq a b) := by
  intro X ok W tk
  refine PSs.imp (pss_cons (h1 X ok W tk) (h2 X ok W tk)) ?_
  rintro Z σ H ⟨F, m, env, st, hR, hV, g⟩
  refine ⟨F, m, env, st, hR, hV, ?_⟩
  unfold sSeq at g
  cases h : a env st with
  | ok f env1 st1 =>
    rw [h] at g
    cases f with
    | nx => exact fun F' m' H' σ' x y hR' hV' => ⟨F', m', env1, st1, hR', hV', GoS.up x y g⟩
    | bk => exact g
    | ct => exact g
    | rt u => exact g
  | exc x env1 st1 =>
    rw [h] at g
    exact g
  | bad =>
    rw [h] at g
    exact g
theorem ss_pass : SS B (.Pass pos) sNil := by
  intro X ok W tk
  refine PS.imp ps_pass ?_
  rintro Z σ H ⟨F, m, env, st, hR, hV, g⟩
  exact g F m H σ (Same.refl _) (pre_refl _) hR hV
theorem ss_expr (h : SE B e c) (hn : noComp e = true) : SS B (.Expr e pos) (sExp c) := by
  intro X ok W tk
  refine PS.imp (ps_expr (h X ok W tk) (swaps_no hn _ _ _)) ?_
  rintro Z σ H ⟨F, m, env, st, hR, hV, g⟩
  refine ⟨F, m, env, st, hR, hV, (goES hV g).imp ?_⟩
  rintro x H1 ⟨F1, m1, st1, u, s1, p1, hR1, hV1, q1, g1⟩
  exact g1 F1 m1 H1 σ (Same.refl _) (pre_refl _) hR1 hV1
theorem ss_ret (h : SE B e c) : SS B (.Return (some e) pos) (sRet c) := by
  intro X ok W tk
  refine PS.imp (ps_ret (h X ok W tk)) ?_
  rintro Z σ H ⟨F, m, env, st, hR, hV, g⟩
  refine ⟨F, m, env, st, hR, hV, (goES hV g).imp ?_⟩
  rintro x H1 ⟨F1, m1, st1, u, s1, p1, hR1, hV1, q1, g1⟩
  exact g1 F1 m1 H1 x (Same.refl _) (pre_refl _) hR1 q1
theorem ss_retN : SS B (.Return none pos) sRetN := by
  intro X ok W tk
  refine PS.imp ps_retN ?_
  rintro Z σ H ⟨F, m, env, st, hR, hV, g⟩
  exact g F m H .non (Same.refl _) (pre_refl _) hR (.d .non)
theorem ss_if (ht : ST B e t) (ha : SSs B p a) (hb : SSs B q b) : SS B (.If e p q pos) (sIf t a b) := by
  intro X ok W tk
  refine PS.imp (ps_if (ht X ok W tk) (ha X ok W tk) (hb X ok W tk)) ?_
  rintro Z σ H ⟨F, m, env, st, hR, hV, g⟩
  refine ⟨F, m, env, st, hR, hV, ?_⟩
  unfold sIf at g
  cases h : t env st with
  | ok k st1 =>
    rw [h] at g
    intro F' m' H' x y hR'
    cases k with
    | true => exact ⟨F', m', env, st1, hR', hV.mono x y, GoS.up x y g⟩
    | false => exact ⟨F', m', env, st1, hR', hV.mono x y, GoS.up x y g⟩
  | exc z st1 =>
    rw [h] at g
    exact fun F' m' H' cc d x y hR' r => g F' m' H' σ cc d x y hR' (hV.mono x y) r
  | bad =>
    rw [h] at g
    exact g
/-- the store of a value into a target -/
theorem asg_go {K : PySem.W.Frag} {T : Tab} {W : WX} {F : Hp} {m : List Addr} {st : Sto} {H : Hp} {σ : St} {env : Lo} {u : U} {v : V} {Z : Ends} (hR : Rl K T F m st H) (hV : Rv K T F m env σ) (q : RU K T F m v u)
    (g : GoS K T W F m (match setT tg u env with
      | some env' => .ok .nx env' st
      | none => .bad) Z) : okG K T tg v σ H Z.nx := by
  split at g
  · rename_i env' he
    exact ⟨F, m, st, u, env, env', hR, q, hV, he, fun σ' hV' _ => g F m H σ' (Same.refl _) (pre_refl _) hR hV'⟩
  · exact g.elim
theorem ss_set_ {i : Nat} {x : Str} (hi : B.N[i]? = some x) (hs : stor B x) (h : SE B e c) (hsw : ∀ env : Env, env.scope = B.sc → swapsWith e (some (.Name x p1)) pos.line env = pure false) : SS B (.Assign [.Name x p1] e pos) (sAsg (.nm i) c) := by
  intro X ok W tk
  have hN : X.N.Nodup := by rw [ok.hN]; exact ok.nd
  have hx : Loc X.env.scope x ∧ (X.fn x = true ∨ X.env.scope.names.lookup x = some .local) := by
    rcases hs with z | ⟨z, y⟩
    · exact ⟨.inl (by rw [ok.hsc]; exact z), .inr (by rw [ok.hsc]; exact z)⟩
    · exact ⟨.inr (by rw [ok.hsc]; exact y), .inl (ok.fn z x)⟩
  refine PS.imp (ps_set (i := i) hN (by rw [ok.hN]; exact hi) hx.1 (h X ok W tk) (hsw X.env ok.hsc) hx.2) ?_
  rintro Z σ H ⟨F, m, env, st, hR, hV, g⟩
  refine ⟨F, m, env, st, hR, hV, (goES hV g).imp ?_⟩
  rintro y H1 ⟨F1, m1, st1, u, s1, p1, hR1, hV1, q1, g1⟩
  simp only [setT] at g1
  exact g1 F1 m1 H1 _ (Same.refl _) (pre_refl _) hR1 (hV1.set q1 i)
theorem ss_set {i : Nat} {x : Str} (hi : B.N[i]? = some x) (hs : stor B x) (h : SE B e c) (hn : noComp e = true) : SS B (.Assign [.Name x p1] e pos) (sAsg (.nm i) c) := ss_set_ hi hs h fun env _ => swaps_no hn _ _ _
def swB (sc scope : Scope) (x : Str) (py vpos : Pos) : Bool := (if sc.kind.isAnnotationScope then ScopeKind.function else sc.kind) == .function && sc.names.lookup x == some .local && py.line == vpos.line
  && !(scope.names.any fun (n, k) => n == x && (k == .local || k == .cell))
theorem swaps_lc {elt : Expr} {gs : List Comprehension} {scope : Scope} {vpos py : Pos} {x : Str} {l : Nat} {env : Env} {sc : Scope} (h : env.scope = sc) : swapsWith (.ListComp elt gs scope vpos) (some (.Name x py)) l env = pure (swB sc scope x py vpos) := by
  subst h
  rfl
/-- a, b, .. = a value that is no tuple display -/
theorem ss_setT {es : List Expr} {k : Nat} (hg : SG B (.Tuple es k p1) tg) (h : SE B e c) (hn : noTup e = true) : SS B (.Assign [.Tuple es k p1] e pos) (sAsg tg c) := by
  intro X ok W tk
  refine PS.imp (ps_asg (h X ok W tk) (hg X ok) (swaps_tup e es k p1 pos.line X.env) (swapped_no hn es k p1 X.env) rfl) ?_
  rintro Z σ H ⟨F, m, env, st, hR, hV, g⟩
  refine ⟨F, m, env, st, hR, hV, (goES hV g).imp ?_⟩
  rintro y H1 ⟨F1, m1, st1, u, s1, p1, hR1, hV1, q1, g1⟩
  exact asg_go hR1 hV1 q1 g1
/-- x = [.. for ..] -/
theorem ss_setLc {i : Nat} {x : Str} {elt tgx it : Expr} {ifs : List Expr} {scope : Scope} {own : List (Str × Nat)} {src : MI} {tt : MT} {te : ME} {fz : Bool} {py spos : Pos} (hi : B.N[i]? = some x) (hs : B.sc.names.lookup x = some .local)
    (hsw : ∀ env : Env, env.scope = B.sc → swapsWith (.ListComp elt [⟨tgx, it, ifs, 0⟩] scope pos) (some (.Name x py)) spos.line env = pure true)
    (hsrc : SI B tgx it src) (hb : blkC B.N B.sc scope own = true) (hg : SG (compB B scope) tgx tg) (ht : SPT (compB B scope) ifs tt) (he : SE (compB B scope) elt te) (hn : noSet it = true) (hv : tg.slots.all (fun j => (own.map (·.2)).contains j) = true) :
    SS B (.Assign [.Name x py] (.ListComp elt [⟨tgx, it, ifs, 0⟩] scope pos) spos) (sAsg (.nm i) (cLc fz src tg tt te (own.map (·.2)))) := by
  intro X ok W tk
  have hN : X.N.Nodup := by rw [ok.hN]; exact ok.nd
  have hv' : ∀ j ∈ tg.slots, j ∈ own.map (·.2) := fun j hj => by
    have := List.all_eq_true.mp hv j hj
    simpa using this
  refine PS.imp (ps_setLc (i := i) ok.calm hN (by rw [ok.hN]; exact hi) (by rw [ok.hsc]; exact hs) (hsw X.env ok.hsc) (hsrc X ok W tk) (blkOk_by (by rw [ok.hN, ok.hsc]; exact hb)) (fun s H C cl fp => hg _ (comp_ok ok s H C cl fp)) (fun s H C cl fp => spt_ok ht (comp_ok ok s H C cl fp) takes0) (fun s H C cl fp => he _ (comp_ok ok s H C cl fp) W0 takes0) (fun x => fold_of hn _ x)) ?_
  rintro Z σ H ⟨F, m, env, st, hR, hV, g⟩
  refine lc_read (fz := fz) hv' ⟨F, m, env, st, hR, hV, (goES hV g).imp ?_⟩
  rintro y H1 ⟨F1, m1, st1, u, s1, p1, hR1, hV1, q1, g1⟩
  simp only [setT] at g1
  exact g1 F1 m1 H1 _ (Same.refl _) (pre_refl _) hR1 (hV1.set q1 i)

/-! ### o[i] = v -/
def okSet (K : PySem.W.Frag) (T : Tab) : TSet := fun o i v H Q => ∃ F m st uo ui uv st', Rl K T F m st H ∧ RU K T F m o uo ∧ RU K T F m i ui ∧ RU K T F m v uv ∧ setU uo ui uv st = some st' ∧ ∀ H', Rl K T F m st' H' → Q H'
theorem ps_okSet {X : Cx} {T : Tab} (hu : X.A.units + 1 < cLine) : PSet X (okSet X.K T) := by
  intro pins s σ H o i v ov iv u Q I ro ri rv h
  obtain ⟨F, m, st, uo, ui, uv, st', hR, qo, qi, qv, hs, k⟩ := h
  unfold setU at hs
  split at hs
  · rename_i n
    cases qo with
    | c hn =>
      split at hs
      · rename_i us he
        obtain ⟨a, ho, h1, h2, h3, h4⟩ := hR.obj _ _ he
        rw [hn] at h1
        cases h1
        have hlt : n < st.length := (List.getElem?_eq_some_iff.mp he).1
        split at hs
        · cases qi with
          | d qi =>
            cases qi
            obtain ⟨j, hj, e2⟩ := Option.map_eq_some_iff.mp hs
            subst e2
            cases h4 with
            | lst rr =>
              refine set_list pins s σ H _ _ v ov iv u Q I ro ri rv ⟨_, _, _, j, rfl, rfl, h2, by rw [rr.len]; exact hj, k _ (hR.write hlt hn (.lst (rr.set qv j)))⟩
        · cases hs
      · rename_i kvs he
        obtain ⟨a, ho, h1, h2, h3, h4⟩ := hR.obj _ _ he
        rw [hn] at h1
        cases h1
        have hlt : n < st.length := (List.getElem?_eq_some_iff.mp he).1
        split at hs
        · rename_i key hk
          split at hs
          · rename_i hl
            cases hs
            have ei := keyU_ok qi hk
            subst ei
            cases ro
            cases h4 with
            | dct rr =>
              exact d_setItem hu I (DPut.k h2 (by rw [← lim_eq, Paired.length rr]; exact hl)) ri rv fun s' J => ⟨_, J, k _ (hR.write hlt hn (.dct (putU_ok rr key qv)))⟩
          · cases hs
        · cases hs
      · cases hs
  · cases hs
theorem ss_put {p3 : Pos} (hi0 : noSl i = true) (h : SE B e c) (ho : SE B o co) (hi : SE B i ci) : SS B (.Assign [.Subscript o i p3] e pos) (sPut co ci c) := by
  intro X ok W tk
  have hS : PSet X (okSet X.K B.G.T) := ps_okSet (by have := ok.room.units; omega)
  rw [ok.hK] at hS
  refine PS.imp (ps_asg (h X ok W tk) (pg_sub (ho X ok W tk) (hi X ok W tk) hS (sub_plain hi0 _ _ _)) (swaps_sub e o i p3 pos.line X.env) (by cases e <;> rfl) rfl) ?_
  rintro Z σ H ⟨F, m, env, st, hR, hV, g⟩
  refine ⟨F, m, env, st, hR, hV, (goES hV g).imp ?_⟩
  rintro v H1 ⟨F1, m1, st1, uv, s1, p1, hR1, hV1, q1, g1⟩
  refine ⟨F1, m1, env, st1, hR1, hV1, (goES hV1 g1).imp ?_⟩
  rintro ov H2 ⟨F2, m2, st2, uo, s2, p2, hR2, hV2, q2, g2⟩
  refine ⟨F2, m2, env, st2, hR2, hV2, (goES hV2 g2).imp ?_⟩
  rintro iv H3 ⟨F3, m3, st3, ui, s3, p3, hR3, hV3, q3, g3⟩
  split at g3
  · rename_i st' hs
    exact ⟨F3, m3, st3, uo, ui, uv, st', hR3, q2.mono s3 p3, q3, (q1.mono s2 p2).mono s3 p3, hs, fun H' hR' => g3 F3 m3 H' σ (Same.refl _) (pre_refl _) hR' hV3⟩
  · exact g3.elim
end
end KB
/-! Calls of builtins; displays of dicts. -/
namespace KB
open PySem L2

theorem back_no (pos : Pos) (env : Env) : ∀ {es : List Expr}, es.all noStar = true → (backTo pos (starEach es env)).any (·.1) = false
  | [], _ => rfl
  | e :: es, h => by
    rw [List.all_cons, Bool.and_eq_true] at h
    rw [star_of h.1]
    show (false || (backTo pos (starEach es env)).any (·.1)) = false
    rw [back_no pos env h.2]
    rfl
theorem okN_args {K : PySem.W.Frag} {T : Tab} {W : WX} {f : List U → Sto → Re U} {cs : MA} (hf : CalmN f) {σ : St} {H : Hp} {Q : VK} (h : okE K T W (cArgs f cs) σ H Q) : tCB (okN K T f) (okA K T W cs) σ H Q := by
  obtain ⟨F, m, env, st, hR, hV, g⟩ := h
  refine ⟨F, m, env, st, hR, hV, (goAE_bind hV g).imp ?_⟩
  rintro xs H1 ⟨F1, m1, st1, us, s1, p1, hR1, hV1, q1, g1⟩
  exact ⟨F1, m1, st1, us, hR1, q1, g1.calm (hf us st1)⟩
section
variable {B : Blk} {x : Str} {id : String} {f : List U → Sto → Re U} {e a b : Expr} {es : List Expr} {cs : MA} {c : ME} {p p2 pos : Pos}
theorem se_callB (hf : CalmN f) (hc : ∀ X, B.ok X → CallR X (.builtin id) (okN B.G.K B.G.T f)) (hg : glb B x) (hm : B.G.mg x = none) (hv : bootBuiltins x = some (.builtin id)) (hn : x ≠ "__name__") (hdb : (x == ("__debug__" : Str)) = false)
    (hs : noStar e = true) (hss : es.all noStar = true) (ha : SA B (e :: es) cs) : SE B (.Call (.Name x p) (e :: es) [] pos) (cArgs f cs) := by
  intro X o W tk
  exact PE.imp (pe_callB (hc X o) (glb_ok hg o) (by rw [o.hmg]; exact hm) hv (ha X o W tk) hn hdb (star_of hs es X.env) (back_no pos X.env hss)) fun σ H Q h => okN_args hf h
theorem se_callTy (hf : CalmN f) (hc : ∀ X, B.ok X → CallR X (.type id) (okN B.G.K B.G.T f)) (hg : glb B x) (hm : B.G.mg x = none) (hv : bootBuiltins x = some (.type id)) (hn : x ≠ "__name__") (hdb : (x == ("__debug__" : Str)) = false)
    (hs : noStar e = true) (hss : es.all noStar = true) (ha : SA B (e :: es) cs) : SE B (.Call (.Name x p) (e :: es) [] pos) (cArgs f cs) := by
  intro X o W tk
  exact PE.imp (pe_callTy (hc X o) (glb_ok hg o) (by rw [o.hmg]; exact hm) hv (ha X o W tk) hn hdb (star_of hs es X.env) (back_no pos X.env hss)) fun σ H Q h => okN_args hf h

/-! ### isinstance -/
/-- an expression that names a class -/
def SC (B : Blk) (e : Expr) (k : Cl) : Prop := ∀ X, B.ok X → PE X e (tC (clR B.G.T k))
/-- classes in a row -/
inductive SCs (B : Blk) : List Expr → List Cl → Prop where
  | nil : SCs B [] []
  | cons {e : Expr} {es : List Expr} {k : Cl} {ks : List Cl} : noStar e = true → SC B e k → SCs B es ks → SCs B (e :: es) (k :: ks)
def tRow (vs : List V) : TA := fun _ H Q => Q vs H
theorem SCs.ok (h : SCs B es ks) {X : Cx} (o : B.ok X) : PA X es (tRow (ks.map (clR B.G.T))) := by
  induction h with
  | nil => exact pa_nil
  | cons hs he _ ih => exact pa_cons (he X o) ih (star_of hs _ X.env)
theorem sc_ty {n : String} (hg : glb B x) (hm : B.G.mg x = none) (hv : bootBuiltins x = some (.type n)) (hn : x ≠ "__name__") (hd : (x == ("__debug__" : Str)) = false) : SC B (.Name x p) (.ty n) :=
  fun X o => pe_bltn (glb_ok hg o) (by rw [o.hmg]; exact hm) hv rfl hn hd
theorem sc_own {i : Nat} (hg : glb B x) (hm : B.G.mg x = some (.ref (B.G.T.cls i))) (hd : (x == ("__debug__" : Str)) = false) : SC B (.Name x p) (.own i) :=
  fun X o => pe_glob (glb_ok hg o) (by rw [o.hmg]; exact hm) rfl hd
theorem isi_ty {ks : Kits} {own : List Nat} {cs : List Cl} {u : U} {st : Sto} {K : PySem.W.Frag} {T : Tab} {W : WX} {F : Hp} {m : List Addr} {σ : St} {Q : VK} {H : Hp} {x : V} (hk : KitOk K T ks own) (hR : Rl K T F m st H) (q : RU K T F m x u) (g : GoE K T W F m σ (isiU ks own cs u st) Q) :
    ∃ t b, (∀ {F' m' H'}, Same F F' → Rl K T F' m' st H' → m <+: m' → TyY K H' x t) ∧ PySem.W.kitAny K t (cs.map (clV T)) = some b ∧ (∀ {F' m' H'}, Same F F' → m <+: m' → Rl K T F' m' st H' → Q (.bl b) H') ∧ ∃ tt, t = clV T tt ∧ kitU ks tt cs = some b := by
  unfold isiU at g
  split at g
  · rename_i t et
    split at g
    · rename_i ho
      split at g
      · rename_i b eb
        have ow : ∀ c, t = .own c → c ∈ own := fun c ec => by
          subst ec
          simpa [ownIn] using ho
        exact ⟨clV T t, b, fun hs hR' hp => tyU_ok hR' (q.mono hs hp) et (fun c ec hc => hk.ins c (ow c ec) hc) fun c ec hc => hk.err c (ow c ec) hc, kitU_ok hk eb, fun hs hp hR' => g _ _ _ _ hs hp hR' (.d (.bl b)), t, rfl, eb⟩
      · exact g.elim
    · exact g.elim
  · exact g.elim
theorem se_isi {ks : Kits} {own : List Nat} {k : Cl} (hk : KitOk B.G.K B.G.T ks own) (hg : glb B "isinstance") (hm : B.G.mg "isinstance" = none) (hs : noStar a = true) (hs2 : noStar b = true) (ha : SE B a c) (hb : SC B b k) :
    SE B (.Call (.Name "isinstance" p) [a, b] [] pos) (cOp1 (isiU ks own [k]) c) := by
  intro X o W tk
  have hc : CallR X (.builtin "isinstance") (rIsiY B.G.K) := by
    rw [← o.hK]
    exact call_isiY
  refine PE.imp (pe_callB hc (glb_ok hg o) (by rw [o.hmg]; exact hm) (by decide +kernel) (pa_cons (ha X o W tk) (pa_cons (hb X o) pa_nil (star_of hs2 [] X.env)) (star_of hs _ X.env)) (by decide) (by decide) (star_of hs _ X.env) (back_no pos X.env (by simp [hs2]))) ?_
  rintro σ H Q ⟨F, m, env, st, hR, hV, g⟩
  refine ⟨F, m, env, st, hR, hV, (goE_bind hV g).imp ?_⟩
  rintro y H1 ⟨F1, m1, st1, u, s1, p1, hR1, hV1, q1, g1⟩
  obtain ⟨t, bb, h1, h2, h3, tt, e1, e2⟩ := isi_ty hk hR1 q1 g1
  refine ⟨y, clR B.G.T k, t, clV B.G.T k, bb, rfl, clV_R _ k, h1 (Same.refl _) hR1 (pre_refl _), ?_, h3 (Same.refl _) (pre_refl _) hR1⟩
  subst e1
  simp only [kitU] at e2
  cases h : lookKit ks tt k with
  | none =>
    rw [h] at e2
    cases e2
  | some z =>
    rw [h] at e2
    have := lookKit_ok hk h
    cases z <;> cases e2 <;> exact this
theorem se_isiT {ks : Kits} {own : List Nat} {kk : List Cl} {x1 : Nat} (hk : KitOk B.G.K B.G.T ks own) (hg : glb B "isinstance") (hm : B.G.mg "isinstance" = none) (hs : noStar a = true) (hl : kk.length ≤ 1000) (ha : SE B a c) (hb : SCs B es kk) :
    SE B (.Call (.Name "isinstance" p) [a, .Tuple es x1 p2] [] pos) (cOp1 (isiU ks own kk) c) := by
  intro X o W tk
  have hc : CallR X (.builtin "isinstance") (rIsiTY B.G.K) := by
    rw [← o.hK]
    exact call_isiTY
  refine PE.imp (pe_callB hc (glb_ok hg o) (by rw [o.hmg]; exact hm) (by decide +kernel) (pa_cons (ha X o W tk) (pa_cons (pe_tup (hb.ok o)) pa_nil rfl) (star_of hs _ X.env)) (by decide) (by decide) (star_of hs _ X.env) rfl) ?_
  rintro σ H Q ⟨F, m, env, st, hR, hV, g⟩
  refine ⟨F, m, env, st, hR, hV, (goE_bind hV g).imp ?_⟩
  rintro y H1 ⟨F1, m1, st1, u, s1, p1, hR1, hV1, q1, g1⟩
  obtain ⟨t, bb, h1, h2, h3, _⟩ := isi_ty hk hR1 q1 g1
  refine ⟨by rw [List.length_map, ← lim_eq]; show _ ≤ 16777216; omega, fun q hq => ?_⟩
  have hsm := same_upd (o := .tup (kk.map (clR B.G.T))) (hR1.free hq)
  have hR2 := hR1.froze hq (.tup (kk.map (clR B.G.T)))
  exact ⟨y, q, kk.map (clR B.G.T), t, kk.map (clV B.G.T), bb, rfl, upd_same, clVs_R _ kk, h1 hsm hR2 (pre_refl _), h2, h3 hsm (pre_refl _) hR2⟩
end

/-! ### all, any -/
def blsU : List U → Option (List Bool)
  | [] => some []
  | .d (.bl b) :: us => (blsU us).map (b :: ·)
  | _ :: _ => none
theorem blsU_ok {K : PySem.W.Frag} {T : Tab} {F : Hp} {m : List Addr} : ∀ {vs : List V} {us : List U} {bs : List Bool}, RUs K T F m vs us → blsU us = some bs → vs = bs.map V.bl
  | _, _, _, .nil, h => by
    simp only [blsU] at h
    cases h
    rfl
  | _, _, _, .cons (u := u) (us := us) q r, h => by
    unfold blsU at h
    split at h
    · rename_i e
      cases e
    · rename_i b us' e
      cases e
      obtain ⟨bs, h1, h2⟩ := Option.map_eq_some_iff.mp h
      subst h2
      rw [blsU_ok r h1]
      cases q with
      | d q =>
        cases q
        rfl
    · cases h
def quanU (g : List Bool → Bool) : U → Sto → Re U := fun u st =>
  match scrU st u with
  | some us => (match blsU us with
    | some bs => .ok (.d (.bl (g bs))) st
    | none => .bad)
  | none => .bad
def allU : U → Sto → Re U := quanU fun bs => bs.all id
def anyU : U → Sto → Re U := quanU fun bs => bs.any id
theorem quanU_calm {g : List Bool → Bool} : Calm1 (quanU g) := by
  intro u st e s'
  unfold quanU
  split
  · split <;> exact fun z => nomatch z
  · exact fun z => nomatch z
theorem quan_go {K : PySem.W.Frag} {T : Tab} {g : List Bool → Bool} {x : V} {H : Hp} {Q : VK} (h : ok1 K T (quanU g) x H Q) : ∃ (a : Addr) (bs : List Bool), x = .ref a ∧ SqL K H a (bs.map V.bl) ∧ Q (.bl (g bs)) H := by
  obtain ⟨F, m, st, u, hR, q, k⟩ := h
  unfold quanU at k
  split at k
  · rename_i us e
    split at k
    · rename_i bs eb
      obtain ⟨a, vs, h1, h2, h3⟩ := scrU_ok hR q e
      have := blsU_ok h3 eb
      subst this
      exact ⟨a, bs, h1, h2, k F m H _ (Same.refl _) (pre_refl _) hR (.d (.bl _))⟩
    · exact k.elim
  · exact k.elim
section
variable {X : Cx} {T : Tab}
theorem cr_allU (hc : X.calm = true) : CallR X (.builtin "all") (okN X.K T (list1 allU)) := by
  intro pins s σ H xs us Q I r h
  obtain ⟨x, e, hq⟩ := okN_one h
  subst e
  obtain ⟨a, bs, h1, h2, h3⟩ := quan_go (g := fun bs => bs.all id) hq
  subst h1
  exact cr_all hc pins s σ H _ us Q I r ⟨a, bs, rfl, h2, h3⟩
theorem cr_anyU (hc : X.calm = true) : CallR X (.builtin "any") (okN X.K T (list1 anyU)) := by
  intro pins s σ H xs us Q I r h
  obtain ⟨x, e, hq⟩ := okN_one h
  subst e
  obtain ⟨a, bs, h1, h2, h3⟩ := quan_go (g := fun bs => bs.any id) hq
  subst h1
  exact cr_any hc pins s σ H _ us Q I r ⟨a, bs, rfl, h2, h3⟩
end

/-! ### displays of dicts -/
def cFlat : List (ME × ME) → MA
  | [] => cNil
  | (a, b) :: r => cCons a (cCons b (cFlat r))
def flatP {α : Type} : List (α × α) → List α
  | [] => []
  | (a, b) :: r => a :: b :: flatP r
theorem pairs_go {K : PySem.W.Frag} {T : Tab} {W : WX} {σ : St} : ∀ {cs : List (ME × ME)} {F : Hp} {m : List Addr} {env : Lo} {st : Sto} {H : Hp} {Q : List V → Hp → Prop} {R : List (V × V) → Hp → Prop}, Rl K T F m st H → Rv K T F m env σ → GoA K T W F m σ (cFlat cs env st) Q →
    (∀ ps H, Q (flatP ps) H → R ps H) → tPairs (cs.map fun p => (okE K T W p.1, okE K T W p.2)) σ H R
  | [], F, m, env, st, H, Q, R, hR, hV, g, k => k [] H (g F m H [] (Same.refl _) (pre_refl _) hR .nil)
  | (a, b) :: r, F, m, env, st, H, Q, R, hR, hV, g, k => by
    refine ⟨F, m, env, st, hR, hV, (goEA_bind hV g).imp ?_⟩
    rintro x H1 ⟨F1, m1, st1, u, s1, p1, hR1, hV1, q1, g1⟩
    have g2 := goAA_bind hV1 g1
    refine ⟨F1, m1, env, st1, hR1, hV1, (goEA_bind hV1 g2).imp ?_⟩
    rintro y H2 ⟨F2, m2, st2, w, s2, p2, hR2, hV2, q2, g4⟩
    refine pairs_go (cs := r) hR2 hV2 (goAA_bind hV2 g4) fun ps H3 z => k ((x, y) :: ps) H3 ?_
    obtain ⟨F3, m3, st3, us, s3, p3, hR3, hV3, q3, g5⟩ := z
    have g6 := g5 F3 m3 H3 (y :: flatP ps) (Same.refl _) (pre_refl _) hR3 (.cons (q2.mono s3 p3) q3)
    obtain ⟨F4, m4, st4, us4, s4, p4, hR4, hV4, q4, g7⟩ := g6
    exact g7 F4 m4 H3 (x :: y :: flatP ps) (Same.refl _) (pre_refl _) hR4 (.cons (q1.mono s4 p4) q4)
def pairsU : List U → Option (List (Key × U))
  | [] => some []
  | k :: v :: r => match keyU k, pairsU r with
    | some k, some r => some ((k, v) :: r)
    | _, _ => none
  | _ => none
theorem pairsU_ok {K : PySem.W.Frag} {T : Tab} {F : Hp} {m : List Addr} : ∀ {ps : List (V × V)} {us : List U} {kus : List (Key × U)}, RUs K T F m (flatP ps) us → pairsU us = some kus →
    ∃ kvs : List (Key × V), ps = kvs.map (fun kv => (kV kv.1, kv.2)) ∧ PK2 K T F m kvs kus
  | [], us, kus, r, h => by
    cases r
    simp only [pairsU] at h
    cases h
    exact ⟨[], rfl, .nil⟩
  | (a, b) :: ps, us, kus, r, h => by
    cases r with
    | cons q1 r =>
      cases r with
      | cons q2 r =>
        simp only [pairsU] at h
        split at h
        · rename_i k r' hk hr'
          cases h
          obtain ⟨kvs, e, rr⟩ := pairsU_ok r hr'
          have ek := keyU_ok q1 hk
          subst ek
          exact ⟨(k, b) :: kvs, by rw [e]; rfl, .cons ⟨rfl, q2⟩ rr⟩
        · cases h
def mergeU (kus more : List (Key × U)) : List (Key × U) := more.foldl (fun acc kv => putU acc kv.1 kv.2) kus
theorem mergeU_ok {K : PySem.W.Frag} {T : Tab} {F : Hp} {m : List Addr} : ∀ {more : List (Key × V)} {moreU : List (Key × U)} {kvs : List (Key × V)} {kus : List (Key × U)}, PK2 K T F m more moreU → PK2 K T F m kvs kus → PK2 K T F m (mergeK kvs more) (mergeU kus moreU)
  | _, _, _, _, .nil, r => r
  | (k, v) :: ps, (k2, u) :: qs, kvs, kus, .cons ⟨h1, h2⟩ t, r => by
    have h1' : k = k2 := h1
    subst h1'
    exact mergeU_ok (more := ps) (moreU := qs) t (putU_ok r k h2)
/-- the dict's end: closed, or its cell -/
def dcEnd (fz : Bool) (st1 st2 : Sto) : Re U :=
  match st2[st1.length]? with
  | some (.dct kus) => (match closed (kus.map (·.2)) with
    | some ds => if fz && trimOk st1 st2 then .ok (.d (.dct (kus.map (·.1)) ds)) (st2.take st1.length) else .ok (.c st1.length) st2
    | none => .ok (.c st1.length) st2)
  | _ => .bad
def cDct (fz : Bool) (cs : List (ME × ME)) : ME := fun env st => (cFlat cs env (st ++ [.dct []])).bind fun us st2 =>
  match st2[st.length]?, pairsU us with
  | some (.dct []), some kus => if kus.length ≤ 15 then dcEnd fz st (st2.set st.length (.dct (mergeU [] kus))) else .bad
  | _, _ => .bad
theorem pk2_zip {K : PySem.W.Frag} {T : Tab} {F : Hp} {m : List Addr} : ∀ {kvs : List (Key × V)} {kus : List (Key × U)}, PK2 K T F m kvs kus → kvs = (kus.map (·.1)).zip (kvs.map (·.2)) ∧ RUs K T F m (kvs.map (·.2)) (kus.map (·.2)) ∧ (kus.map (·.1)).length = (kvs.map (·.2)).length
  | _, _, .nil => ⟨rfl, .nil, rfl⟩
  | (k, v) :: ps, (k2, u) :: qs, .cons ⟨h1, h2⟩ t => by
    have h1' : k = k2 := h1
    subst h1'
    obtain ⟨a, b, c⟩ := pk2_zip t
    refine ⟨?_, .cons h2 b, by simpa using c⟩
    show (k, v) :: ps = (k, v) :: ((qs.map (·.1)).zip (ps.map (·.2)))
    rw [← a]
section
variable {K : PySem.W.Frag} {T : Tab} {W : WX}
theorem dcEnd_go {fz : Bool} {F F1 : Hp} {m m1 : List Addr} {st1 st2 : Sto} {H0 H : Hp} {D : Addr} {σ : St} {Q : VK} (r0 : Rl K T F m st1 H0) (r : Rl K T F1 m1 st2 H) (hs : Same F F1) (hm : m ++ [D] <+: m1) (g : GoE K T W F m σ (dcEnd fz st1 st2) Q) : Q (.ref D) H := by
  have hm2 : m <+: m1 := List.IsPrefix.trans ⟨[D], rfl⟩ hm
  have hD : m1[st1.length]? = some D := pre_get hm (by rw [← r0.len, List.getElem?_append_right (Nat.le_refl _), Nat.sub_self]; rfl)
  unfold dcEnd at g
  split at g
  · rename_i acc e
    obtain ⟨a, ho, h1, h2, h3, h4⟩ := r.obj _ _ e
    rw [hD] at h1
    cases h1
    cases h4 with
    | @dct kvs _ rr =>
      split at g
      · rename_i ds hc
        split at g
        · rename_i hf
          rw [Bool.and_eq_true] at hf
          have rc := r0.cut r hm2 hf.2
          have nD : ∀ (i : Nat), m[i]? ≠ some D := fun i z => by
            have z1 := pre_get hm2 z
            have := r.inj i st1.length D z1 hD
            obtain ⟨hi, _⟩ := List.getElem?_eq_some_iff.mp z
            rw [r0.len] at hi
            omega
          have hsD := same_upd (o := .dK kvs) h3
          obtain ⟨z1, z2, z3⟩ := pk2_zip rr
          refine g _ m H _ (hs.trans hsD) (pre_refl _) (rc.frz h2 h3 nD) (.d (.dct (vs := kvs.map (·.2)) ?_ z3 ((z2.closed hc).mono hsD)))
          rw [← z1]
          exact upd_same
        · exact g F1 m1 H _ hs hm2 r (.c hD)
      · exact g F1 m1 H _ hs hm2 r (.c hD)
  · exact g.elim
end
section
variable {B : Blk} {pos : Pos}
/-- the pairs of a display -/
inductive SPs (B : Blk) : List (Option Expr) → List Expr → List (ME × ME) → Prop where
  | nil : SPs B [] [] []
  | cons {k v : Expr} {ks : List (Option Expr)} {vs : List Expr} {a b : ME} {r : List (ME × ME)} : SE B k a → SE B v b → SPs B ks vs r → SPs B (some k :: ks) (v :: vs) ((a, b) :: r)
theorem SPs.ok {ks : List (Option Expr)} {vs : List Expr} {cs : List (ME × ME)} (h : SPs B ks vs cs) {X : Cx} (o : B.ok X) {W : WX} (tk : Takes X W) : PPs X pos ks vs (cs.map fun p => (okE B.G.K B.G.T W p.1, okE B.G.K B.G.T W p.2)) := by
  induction h with
  | nil => exact pps_nil
  | cons ha hb _ ih => exact pps_cons (ha X o W tk) (hb X o W tk) ih
theorem SPs.all {ks : List (Option Expr)} {vs : List Expr} {cs : List (ME × ME)} (h : SPs B ks vs cs) : ks.all (·.isSome) = true ∧ ks.length = vs.length := by
  induction h with
  | nil => exact ⟨rfl, rfl⟩
  | cons ha hb _ ih => exact ⟨by simpa using ih.1, by simpa using ih.2⟩
theorem se_dct {ks : List (Option Expr)} {vs : List Expr} {cs : List (ME × ME)} {fz : Bool} (h : SPs B ks vs cs) (h0 : ks ≠ []) (h15 : ks.length ≤ 15) : SE B (.Dict ks vs pos) (cDct fz cs) := by
  intro X o W tk
  refine PE.imp (pe_disp (h.ok o tk) h.all.1 h.all.2 h0 h15) ?_
  rintro σ H Q ⟨F, m, env, st, hR, hV, g⟩ p hp
  have hR0 := hR.cell (o := .dct []) hp (.dct .nil)
  have hm0 : m <+: m ++ [p] := ⟨[p], rfl⟩
  have hV0 := hV.mono (Same.refl _) hm0
  unfold cDct at g
  cases e : cFlat cs env (st ++ [.dct []]) with
  | bad =>
    rw [e] at g
    exact g.elim
  | exc z st2 =>
    rw [e] at g
    have gA : GoA B.G.K B.G.T W F (m ++ [p]) σ (cFlat cs env (st ++ [.dct []])) (fun _ _ => False) := by
      rw [e]
      exact fun F' m' H' c d a b R q => g F' m' H' c d a (hm0.trans b) R q
    exact pairs_go hR0 hV0 gA fun _ _ z => z.elim
  | ok us st1 =>
    rw [e] at g
    have gA : GoA B.G.K B.G.T W F (m ++ [p]) σ (cFlat cs env (st ++ [.dct []])) (fun vs H1 => ∃ F1 m1, Same F F1 ∧ m ++ [p] <+: m1 ∧ Rl B.G.K B.G.T F1 m1 st1 H1 ∧ RUs B.G.K B.G.T F1 m1 vs us) := by
      rw [e]
      exact fun F' m' H' v a b R q => ⟨F', m', a, b, R, q⟩
    refine pairs_go hR0 hV0 gA ?_
    rintro ps H1 ⟨F1, m1, s1, p1, hR1, q1⟩
    simp only [Re.bind_ok] at g
    split at g
    · rename_i kus e1 e2
      split at g
      · rename_i hl
        obtain ⟨kvs, e3, rr⟩ := pairsU_ok q1 e2
        obtain ⟨a, ho, h1, h2, h3, h4⟩ := hR1.obj _ _ e1
        have hpp : m1[st.length]? = some p := pre_get p1 (by rw [← hR.len, List.getElem?_append_right (Nat.le_refl _), Nat.sub_self]; rfl)
        rw [hpp] at h1
        cases h1
        have hh : ho = .dK [] := by
          cases h4 with
          | dct z => cases z; rfl
        subst hh
        have hlt : st.length < st1.length := (List.getElem?_eq_some_iff.mp e1).1
        refine ⟨h2, kvs, e3, by rw [Paired.length rr]; exact hl, ?_⟩
        exact dcEnd_go hR (hR1.write hlt hpp (.dct (mergeU_ok rr .nil))) s1 p1 g
      · exact g.elim
    · exact g.elim
theorem se_dct0 {fz : Bool} : SE B (.Dict [] [] pos) (cDct fz []) := by
  intro X o W tk
  refine PE.imp pe_dnewK ?_
  rintro σ H Q ⟨F, m, env, st, hR, hV, g⟩ p hp
  have hR0 := hR.cell (o := .dct []) hp (.dct .nil)
  unfold cDct at g
  simp only [cFlat, cNil, Re.bind_ok, pairsU] at g
  have e : (st ++ [O.dct []])[st.length]? = some (.dct []) := by
    rw [List.getElem?_append_right (Nat.le_refl _), Nat.sub_self]
    rfl
  rw [e] at g
  have e2 : (st ++ [O.dct []]).set st.length (.dct (mergeU [] [])) = st ++ [.dct []] := by
    simp [mergeU]
  simp only [List.length_nil, Nat.zero_le, if_true, e2] at g
  exact dcEnd_go hR hR0 (Same.refl _) (pre_refl _) g
end
end KB
/-! The defs of the text: what a call computes. -/
namespace KB
open PySem L2

/-! ### the way out of a def: its new cells are closed for good -/
def allO (f : U → Option D) : List U → Option (List D)
  | [] => some []
  | u :: us => match f u, allO f us with
    | some x, some xs => some (x :: xs)
    | _, _ => none
def frzU (n0 : Nat) (st : Sto) : Nat → U → Option D
  | _, .d x => some x
  | 0, _ => none
  | n + 1, .t us => (allO (frzU n0 st n) us).map .tup
  | n + 1, .c i => if i < n0 then none else match st[i]? with
    | some (.lst us) => (allO (frzU n0 st n) us).map .lst
    | some (.dct kus) => (allO (frzU n0 st n) (kus.map (·.2))).map (.dct (kus.map (·.1)))
    | some (.ins c fus) => (allO (frzU n0 st n) (fus.map (·.2))).map (.obj c (fus.map (·.1)))
    | none => none
/-- the cells from n0 on stay for good -/
def frzF (F H : Hp) (l : List Addr) : Hp := fun a => if a ∈ l then H a else F a
section
variable {K : PySem.W.Frag} {T : Tab} {F : Hp} {m : List Addr} {st : Sto} {H : Hp}
theorem frzF_same (r : Rl K T F m st H) (n0 : Nat) : Same F (frzF F H (m.drop n0)) := by
  intro b o e
  unfold frzF
  split
  · rename_i hb
    obtain ⟨i, hi⟩ := List.mem_iff_getElem?.mp (List.mem_of_mem_drop hb)
    obtain ⟨hl, _⟩ := List.getElem?_eq_some_iff.mp hi
    obtain ⟨a, ho, e1, e2, e3, _⟩ := r.obj i _ (List.getElem?_eq_getElem (by rw [← r.len]; exact hl))
    rw [hi] at e1
    cases e1
    rw [e3] at e
    cases e
  · exact e
theorem frzF_rl (r : Rl K T F m st H) {n0 : Nat} {m0 : List Addr} (hm : m0 <+: m) (hl : m0.length = n0) (r2 : Rl K T F m0 (st.take n0) H) : Rl K T (frzF F H (m.drop n0)) m0 (st.take n0) H where
  sub := fun b o e => by
    unfold frzF at e
    split at e
    · exact e
    · exact r.sub b o e
  len := r2.len
  obj := fun i o e => by
    obtain ⟨a, ho, e1, e2, e3, e4⟩ := r2.obj i o e
    refine ⟨a, ho, e1, e2, ?_, e4.mono (frzF_same r n0) (pre_refl _)⟩
    unfold frzF
    rw [if_neg ?_]
    · exact e3
    · intro hb
      obtain ⟨j, hj⟩ := List.mem_iff_getElem?.mp hb
      rw [List.getElem?_drop] at hj
      have := r.inj i (n0 + j) a (pre_get hm e1) hj
      obtain ⟨hi, _⟩ := List.getElem?_eq_some_iff.mp e1
      omega
  inj := r2.inj
theorem allO_ok {F' : Hp} {f : U → Option D} (h : ∀ {v : V} {u : U} {x : D}, RU K T F m v u → f u = some x → RD K T F' v x) : ∀ {us : List U} {vs : List V} {xs : List D}, RUs K T F m vs us → allO f us = some xs → RDs K T F' vs xs
  | _, _, _, .nil, e => by
    simp only [allO] at e
    cases e
    exact .nil
  | _, _, _, .cons q r, e => by
    simp only [allO] at e
    split at e
    · rename_i x xs e1 e2
      cases e
      exact .cons (h q e1) (allO_ok h r e2)
    · cases e
theorem fus_zip : ∀ {fvs : List (Str × V)} {fus : List (Nat × U)}, Paired (fun p q => p.1 = T.att q.1 ∧ RU K T F m p.2 q.2) fvs fus → fvs = ((fus.map (·.1)).map T.att).zip (fvs.map (·.2)) ∧ RUs K T F m (fvs.map (·.2)) (fus.map (·.2)) ∧ (fus.map (·.1)).length = (fvs.map (·.2)).length
  | _, _, .nil => ⟨rfl, .nil, rfl⟩
  | (k, v) :: ps, (k2, u) :: qs, .cons ⟨h1, h2⟩ t => by
    have h1' : k = T.att k2 := h1
    subst h1'
    obtain ⟨a, b, c⟩ := fus_zip t
    refine ⟨?_, .cons h2 b, by simpa using c⟩
    show (T.att k2, v) :: ps = (T.att k2, v) :: (((qs.map (·.1)).map T.att).zip (ps.map (·.2)))
    rw [← a]
theorem frzU_ok (r : Rl K T F m st H) {n0 : Nat} : ∀ (n : Nat) {v : V} {u : U} {x : D}, RU K T F m v u → frzU n0 st n u = some x → RD K T (frzF F H (m.drop n0)) v x
  | n, v, .d y, x, q, e => by
    have : y = x := by
      unfold frzU at e
      exact Option.some.inj e
    subst this
    cases q with
    | d q => exact q.mono (frzF_same r n0)
  | 0, v, .c i, x, q, e => by
    simp only [frzU] at e
    cases e
  | 0, v, .t us, x, q, e => by
    simp only [frzU] at e
    cases e
  | n + 1, v, .t us, x, q, e => by
    simp only [frzU] at e
    obtain ⟨xs, e1, e2⟩ := Option.map_eq_some_iff.mp e
    subst e2
    cases q with
    | t h1 h2 => exact .tup (sqT_same (frzF_same r n0) h1) (allO_ok (fun p => frzU_ok r n p) h2 e1)
  | n + 1, v, .c i, x, q, e => by
    simp only [frzU] at e
    split at e
    · cases e
    · rename_i hi
      cases q with
      | c hq =>
        have inF : ∀ {ho : HO}, H _ = some ho → frzF F H (m.drop n0) _ = some ho := fun {ho} hh => by
          unfold frzF
          rw [if_pos (List.mem_iff_getElem?.mpr ⟨i - n0, by rw [List.getElem?_drop]; rw [show n0 + (i - n0) = i by omega]; exact hq⟩)]
          exact hh
        split at e
        · rename_i us hs
          obtain ⟨xs, e1, e2⟩ := Option.map_eq_some_iff.mp e
          subst e2
          obtain ⟨a, ho, h1, h2, h3, h4⟩ := r.obj i _ hs
          rw [hq] at h1
          cases h1
          cases h4 with
          | lst rr => exact .lst (inF h2) (allO_ok (fun p => frzU_ok r n p) rr e1)
        · rename_i kus hs
          obtain ⟨xs, e1, e2⟩ := Option.map_eq_some_iff.mp e
          subst e2
          obtain ⟨a, ho, h1, h2, h3, h4⟩ := r.obj i _ hs
          rw [hq] at h1
          cases h1
          cases h4 with
          | @dct kvs _ rr =>
            obtain ⟨z1, z2, z3⟩ := pk2_zip rr
            refine .dct (vs := kvs.map (·.2)) ?_ z3 (allO_ok (fun p => frzU_ok r n p) z2 e1)
            rw [← z1]
            exact inF h2
        · rename_i c fus hs
          obtain ⟨xs, e1, e2⟩ := Option.map_eq_some_iff.mp e
          subst e2
          obtain ⟨a, ho, h1, h2, h3, h4⟩ := r.obj i _ hs
          rw [hq] at h1
          cases h1
          cases h4 with
          | @ins _ dx fvs _ rr =>
            obtain ⟨z1, z2, z3⟩ := fus_zip rr
            refine .obj (dx := dx) (vs := fvs.map (·.2)) ?_ z3 (allO_ok (fun p => frzU_ok r n p) z2 e1)
            rw [← z1]
            exact inF h2
        · cases e
end
/-- a def's answer -/
def fin (fz : Bool) (u : U) (st st' : Sto) : Re U :=
  if st'.length ≤ st.length then .ok u st' else if trimOk st st' then (if lowU st.length u then .ok u (st'.take st.length) else if fz then (match frzU st.length st' 40 u with
    | some x => .ok (.d x) (st'.take st.length)
    | none => .ok u st') else .ok u st') else .ok u st'
def finX (e : Ex) (st st' : Sto) : Re U := if st'.length ≤ st.length then .exc e st' else if trimOk st st' then .exc e (st'.take st.length) else .exc e st'
def finB (fz : Bool) (st : Sto) : Rs → Re U
  | .ok (.rt u) _ st' => fin fz u st st'
  | .ok .nx _ st' => fin fz (.d .non) st st'
  | .ok _ _ _ => .bad
  | .exc e _ st' => finX e st st'
  | .bad => .bad
abbrev MF := List U → Sto → Re U
def env0 (us : List U) (n : Nat) : Lo := us.map some ++ List.replicate (n - us.length) none
/-- a def with np parameters and nN names -/
def callF (np nN : Nat) (fz : Bool) (b : MS) : MF := fun us st => if us.length = np then finB fz st (b (env0 us nN) st) else .bad
section
variable {K : PySem.W.Frag} {T : Tab} {F0 F : Hp} {m0 m : List Addr} {st0 st : Sto} {H0 H : Hp} {W : WX} {σ : St} {Q : VK} {u : U} {v : V}
mutual
theorem ru_cut (hm : m0 <+: m) : ∀ {v : V} {u : U}, RU K T F m v u → lowU m0.length u = true → RU K T F m0 v u
  | _, _, .d q, _ => .d q
  | _, _, .c h, hl => by
    simp only [lowU, decide_eq_true_eq] at hl
    refine .c ?_
    obtain ⟨t, rfl⟩ := hm
    rw [List.getElem?_append_left hl] at h
    exact h
  | _, _, .t h r, hl => .t h (rus_cut hm r (by simpa only [lowU] using hl))
theorem rus_cut (hm : m0 <+: m) : ∀ {v : List V} {u : List U}, RUs K T F m v u → lowUs m0.length u = true → RUs K T F m0 v u
  | _, _, .nil, _ => .nil
  | _, _, .cons q r, hl => by
    simp only [lowUs, Bool.and_eq_true] at hl
    exact .cons (ru_cut hm q hl.1) (rus_cut hm r hl.2)
end
theorem fin_go {fz : Bool} (r0 : Rl K T F0 m0 st0 H0) (r : Rl K T F m st H) (hs : Same F0 F) (hm : m0 <+: m) (q : RU K T F m v u) (g : GoE K T W F0 m0 σ (fin fz u st0 st) Q) : Q v H := by
  unfold fin at g
  split at g
  · exact g F m H v hs hm r q
  split at g
  · rename_i ht
    have rc := r0.cut r hm ht
    split at g
    · rename_i hl
      exact g F m0 H v hs (pre_refl _) rc (ru_cut hm q (by rw [r0.len]; exact hl))
    · split at g
      · split at g
        · rename_i x hx
          exact g _ m0 H v (hs.trans (frzF_same r st0.length)) (pre_refl _) (frzF_rl r hm r0.len rc) (.d (frzU_ok r 40 q hx))
        · exact g F m H v hs hm r q
      · exact g F m H v hs hm r q
  · exact g F m H v hs hm r q
theorem finX_go {e : Ex} {c : Value} {d : Option Addr} (r0 : Rl K T F0 m0 st0 H0) (r : Rl K T F m st H) (hs : Same F0 F) (hm : m0 <+: m) (q : RX K T F H e c d) (g : GoE K T W F0 m0 σ (finX e st0 st) Q) : W c d σ H := by
  unfold finX at g
  split at g
  · exact g F m H c d hs hm r q
  split at g
  · rename_i ht
    exact g F m0 H c d hs (pre_refl _) (r0.cut r hm ht) q
  · exact g F m H c d hs hm r q
theorem rv_start {vs : List V} {us : List U} (q : RUs K T F m vs us) {N : List Str} : Rv K T F m (env0 us N.length) (L2.start N vs) := by
  refine ⟨?_, fun i u e => ?_⟩
  · unfold env0 L2.start
    simp [q.len]
  · unfold env0 at e
    unfold L2.start
    by_cases hi : i < us.length
    · rw [List.getElem?_append_left (by simpa using hi), List.getElem?_map] at e
      obtain ⟨w, e1, e2⟩ := Option.map_eq_some_iff.mp e
      cases e2
      obtain ⟨v, h1, h2⟩ := q.get e1
      exact ⟨v, by rw [List.getElem?_append_left (by rw [List.length_map, q.len]; exact hi), List.getElem?_map, h1]; rfl, h2⟩
    · rw [List.getElem?_append_right (by simpa using hi), List.getElem?_replicate] at e
      split at e <;> cases e
end

/-! ### a def of the text -/
def spK (G : Glo) (c : MF) : Sp := fun vs H Q E => ∃ F m st us, Rl G.K G.T F m st H ∧ RUs G.K G.T F m vs us ∧ GoE G.K G.T (fun cl d _ H' => E cl d H') F m [] (c us st) Q
/-- the def at f with the parameters ps computes c -/
structure SF (G : Glo) (k : Nat) (f : Addr) (fd : FuncData) (ps : List Str) (c : MF) : Prop where
  len : ∀ us st, us.length ≠ ps.length → c us st = .bad
  run : ∀ (A : Around) (outer : List Env) (s : Shared) (H : Hp) (args : Args) (us : List Value) (vs : List V) (Q : VK) (E : XK), Room k A → A.guards = some [] → Env0 G.P G.w G.K G.mg G.base A outer s H → BindsTo s fd args (ps.zip us) → Vals vs us →
    spK G c vs H Q E → codeAny (model G.P G.w) A (.call (.ref f) args) (CR (L2.CX G.P G.w) outer G.P G.w H s Q E) s
theorem SF.mono {G : Glo} {j k : Nat} {f : Addr} {fd : FuncData} {ps : List Str} {c : MF} (S : SF G j f fd ps c) (h : j ≤ k) : SF G k f fd ps c :=
  ⟨S.len, fun A outer s H args us vs Q E hr hg => S.run A outer s H args us vs Q E (hr.mono h) hg⟩
theorem spK_len {G : Glo} {k : Nat} {f : Addr} {fd : FuncData} {ps : List Str} {c : MF} (S : SF G k f fd ps c) {vs : List V} {H : Hp} {Q : VK} {E : XK} (h : spK G c vs H Q E) : vs.length = ps.length := by
  obtain ⟨F, m, st, us, hR, q, g⟩ := h
  rw [q.len]
  by_cases hl : us.length = ps.length
  · exact hl
  · rw [S.len us st hl] at g
    exact g.elim
section
variable {G : Glo} {k : Nat} {f : Addr} {name qual : Str} {params : Arguments} {body : List Stmt} {scope : Scope} {dV kV doc pm cdv ct oc : Value} {an od : Option Addr} {osl : Array (Option Value)} {N ps : List Str} {b : MS} {fz : Bool}
theorem sf_def (lk : G.K.lookup f = some ⟨oc, od, .func (PySem.W.fnOf name qual params body scope dV kV doc pm an cdv ct), osl⟩) (hcd : PySem.W.codeIn G.K cdv qual = true) (S : FnScope N ps scope) (hbd : SSs ⟨G, N, scope, k, true⟩ body b) :
    SF G (k + 1) f (PySem.W.fnOf name qual params body scope dV kV doc pm an cdv ct) ps (callF ps.length N.length fz b) := by
  refine ⟨fun us st h => if_neg h, fun A outer s H args us vs Q E room grd e0 bnd rel hsp => ?_⟩
  obtain ⟨F, m, st, as, hR, qs, g⟩ := hsp
  have hal : as.length = ps.length := by
    by_cases hl : as.length = ps.length
    · exact hl
    · rw [show callF ps.length N.length fz b as st = .bad from if_neg hl] at g
      exact g.elim
  have hvl : vs.length = ps.length := by rw [qs.len, hal]
  rw [show callF ps.length N.length fz b as st = finB fz st (b (env0 as N.length) st) from if_pos hal] at g
  have inK : G.K.In s.heap := e0.mod.kin.keeps fun x o z => (e0.bs x o z).1
  have nl : s.heap.NoLimit := e0.mod.nolimit.keeps fun x o z => (e0.bs x o z).1
  have kinds : ∀ y ∈ ps.zip us, scope.names.lookup y.1 = some .local ∨ (scope.names.lookup y.1 = some .cell ∧ ((cellsFrom (s.heap.objs.size + 1) scope.names []).lookup y.1).isSome = true) := by
    rintro ⟨n, v⟩ hy
    rcases S.par n (List.of_mem_zip hy).1 with z | z
    · exact .inl z
    · exact .inr ⟨z, PySem.W.cellsFrom_some _ _ _ (.inl z)⟩
  refine codeAny_call_function room.depth (inK _ _ lk) rfl S.co S.gen rfl
    (PySem.W.codeRec_of inK hcd) (bnd _ _ _ _ ?_)
  refine wpAny_newFunctionEnv_cells S.kind kinds fun en hen s1 inc => ?_
  subst hen
  refine ⟨nl.keeps inc.toInCall.keep, codeAny_func ?_⟩
  obtain ⟨X, hX⟩ : ∃ X, X = cxOf (L2.CX G.P G.w) G.P G.w G.K G.mg G.base N qual scope f cdv A outer s H E := ⟨_, rfl⟩
  have J0 : Inv X [] (L2.start N vs) H s1 := by
    rw [hX]
    exact inv_start S room.hd e0 hvl rel inc
  have ok : (Blk.mk G N scope k true).ok X := by
    subst hX
    exact ⟨rfl, rfl, rfl, rfl, rfl, rfl, S.nd, rfl, room.deeper _, grd, rfl, passes_of rfl, fun _ _ => rfl, fun _ => rfl, fun _ => ⟨rfl, rfl⟩⟩
  have tk : Takes X (fun cl d _ H' => E cl d H') := by
    subst hX
    exact takes_of rfl rfl rfl rfl
  have run := (hbd X ok _ tk).run [] s1 (L2.start N vs) H { nx := fun _ H' => Q .non H', rt := Q } J0 ?_
  · refine wpAny_mono (by subst hX; exact run) (fun fl s' hs => ?_) fun e s' hs => by subst hX; exact hs
    have done : ∀ {σ' : St} {H' : Hp} {v : V} {u : Value}, Inv X [] σ' H' s' → RelV v u → Q v H' → CE outer G.P G.w H s Q u s' := by
      subst hX
      exact fun {σ' H' v u} J rv q => ⟨v, H', J.os, J.bare, J.base, J.hok, rv, q⟩
    cases fl with
    | ret u =>
      obtain ⟨v, σ', H', J, rv, q⟩ := hs
      exact done (by subst hX; exact J) rv q
    | next =>
      obtain ⟨σ', H', J, q⟩ := hs
      exact done (v := V.non) (u := Value.none) (by subst hX; exact J) rfl q
    | brk =>
      obtain ⟨_, _, _, q⟩ := hs
      exact q.elim
    | cont =>
      obtain ⟨_, _, _, q⟩ := hs
      exact q.elim
  · refine ⟨F, m, env0 as N.length, st, hR, rv_start qs, ?_⟩
    show GoS G.K G.T _ F m (b (env0 as N.length) st) _
    cases e : b (env0 as N.length) st with
    | ok fl en' st' =>
      rw [e] at g
      cases fl with
      | nx => exact fun F' m' H' σ' a c R rv => fin_go (u := .d .non) hR R a c (.d .non) g
      | rt u => exact fun F' m' H' v a c R q => fin_go hR R a c q g
      | bk => exact g.elim
      | ct => exact g.elim
    | exc x en' st' =>
      rw [e] at g
      exact fun F' m' H' σ' cl d a c R rv q => finX_go hR R a c q g
    | bad =>
      rw [e] at g
      exact g
end

/-! ### what a call by places does -/
structure CF (G : Glo) (k : Nat) (f : Addr) (c : MF) : Prop where
  run : ∀ (A : Around) (outer : List Env) (s : Shared) (H : Hp) (us : List Value) (vs : List V) (Q : VK) (E : XK), Room k A → A.guards = some [] → Env0 G.P G.w G.K G.mg G.base A outer s H → G.K.In s.heap → Vals vs us →
    spK G c vs H Q E → codeAny (model G.P G.w) A (.call (.ref f) ⟨us, []⟩) (CR (L2.CX G.P G.w) outer G.P G.w H s Q E) s
theorem CF.mono {G : Glo} {j k : Nat} {f : Addr} {c : MF} (S : CF G j f c) (h : j ≤ k) : CF G k f c :=
  ⟨fun A outer s H us vs Q E hr => S.run A outer s H us vs Q E (hr.mono h)⟩
theorem cf_of {G : Glo} {k : Nat} {f : Addr} {fd : FuncData} {ps : List Str} {c : MF} (S : SF G k f fd ps c) (hb : Binds G.K fd ps []) : CF G k f c := by
  refine ⟨fun A outer s H us vs Q E hr hg en inK r h => ?_⟩
  have hlen : us.length = ps.length := by rw [← r.length]; exact spK_len S h
  have bd := hb s us inK (by rw [List.append_nil]; exact hlen)
  rw [List.append_nil] at bd
  exact S.run A outer s H ⟨us, []⟩ us vs Q E hr hg en bd r h
/-- what is left out is None: up to d of the last ones -/
def padN (np d : Nat) (c : MF) : MF := fun us st => if us.length ≤ np ∧ np ≤ us.length + d then c (us ++ List.replicate (np - us.length) (.d .non)) st else .bad
theorem RUs.nons {K : PySem.W.Frag} {T : Tab} {F : Hp} {m : List Addr} : ∀ n : Nat, RUs K T F m (List.replicate n V.non) (List.replicate n (.d .non))
  | 0 => .nil
  | n + 1 => .cons (.d .non) (RUs.nons n)
theorem vals_nons : ∀ n : Nat, Vals (List.replicate n V.non) (List.replicate n Value.none)
  | 0 => .nil
  | n + 1 => .cons rfl (vals_nons n)
theorem cf_pad {G : Glo} {k d : Nat} {f : Addr} {fd : FuncData} {ps : List Str} {c : MF} (S : SF G k f fd ps c) (hb : ∀ j, j ≤ d → Binds G.K fd ps (List.replicate j Value.none)) : CF G k f (padN ps.length d c) := by
  refine ⟨fun A outer s H us vs Q E hr hg en inK r h => ?_⟩
  obtain ⟨F, m, st, as, hR, q, g⟩ := h
  have la : as.length = us.length := by rw [← q.len, r.length]
  unfold padN at g
  split at g
  · rename_i hc
    have h2 : spK G c (vs ++ List.replicate (ps.length - as.length) V.non) H Q E := ⟨F, m, st, _, hR, q.app (RUs.nons _), g⟩
    rw [la] at h2
    have r2 := r.append (vals_nons (ps.length - us.length))
    have bd := hb (ps.length - us.length) (by omega) s us inK (by rw [List.length_append, List.length_replicate]; omega)
    exact S.run A outer s H ⟨us, []⟩ _ _ Q E hr hg en bd r2 h2
  · exact g.elim

/-! ### calls of such -/
section
variable {B : Blk} {x : Str} {e : Expr} {es : List Expr} {cs : MA} {p pos : Pos} {k : Nat} {f : Addr} {c : MF}
theorem run_sf {X : Cx} (ok : B.ok X) {W : WX} (tk : Takes X W) (S : CF B.G k f c) (hk : k ≤ B.k) {pins : List (Addr × Obj)} {σ : St} {H : Hp} {s : Shared} {Q : VK} {us : List Value} {vs : List V}
    (I : Inv X pins σ H s) (r : Vals vs us) (h : spK B.G c vs H Q (WE W σ)) : wpAny (model X.prog X.w) X.A (call (.ref f) us) (EP X pins σ Q) X.xe s := by
  have inK : B.G.K.In s.heap := by rw [← ok.hK]; exact I.kIn
  have en := I.env0
  rw [ok.hP, ok.hw, ok.hK, ok.hmg, ok.hbase] at en
  have cr := S.run X.A X.stack s H us vs Q (WE W σ) (ok.room.mono hk) ok.grd en inK r h
  rw [← ok.hP, ← ok.hw] at cr
  refine wpAny_call (codeAny_mono cr fun res s' hq => ?_)
  cases res with
  | error z => exact passAt tk σ pins H s z s' I hq
  | ok fl =>
    cases fl with
    | ret u => exact I.after hq
    | next => exact hq.elim
    | brk => exact hq.elim
    | cont => exact hq.elim
theorem spK_of {G : Glo} {W : WX} {σ : St} {F : Hp} {m : List Addr} {st : Sto} {H : Hp} {vs : List V} {us : List U} {Q : VK} (hR : Rl G.K G.T F m st H) (q : RUs G.K G.T F m vs us) (g : GoE G.K G.T W F m σ (c us st) Q) : spK G c vs H Q (WE W σ) := by
  refine ⟨F, m, st, us, hR, q, ?_⟩
  cases h : c us st with
  | ok u st' =>
    rw [h] at g
    exact g
  | exc z st' =>
    rw [h] at g
    exact g
  | bad =>
    rw [h] at g
    exact g
theorem se_call (S : CF B.G k f c) (hk : k ≤ B.k) (hg : glb B x) (hm : B.G.mg x = some (.ref f)) (hkp : PySem.W.keepIn B.G.K (.ref f) = true) (hdb : (x == ("__debug__" : Str)) = false)
    (hs : noStar e = true) (hss : es.all noStar = true) (ha : SA B (e :: es) cs) : SE B (.Call (.Name x p) (e :: es) [] pos) (cArgs c cs) := by
  intro X ok W tk
  refine ⟨fun pins s σ H Q I h => ?_⟩
  obtain ⟨F, m, env, st, hR, hV, g⟩ := h
  refine wpAny_Call_Name_kw (ld_glob I (glb_ok hg ok) (by rw [ok.hmg]; exact hm) ?_ hdb)
  have hkp' : PySem.W.keepIn X.K (.ref f) = true := by rw [ok.hK]; exact hkp
  refine PySem.W.callWith_K (h₀ := X.base) I.ok.mod.kin hkp'
    (thn ((ha X ok W tk).run pos pins s σ H _ I ⟨F, m, env, st, hR, hV, goAE_bind hV g⟩) fun us s1 z => ?_) (star_of hs es X.env) (back_no pos X.env hss)
  obtain ⟨vs, H1, I1, r, F1, m1, st1, as, a1, b1, hR1, hV1, q1, g1⟩ := z
  exact ⟨I1.kIn, run_sf ok tk S hk I1 r (spK_of hR1 q1 g1)⟩
theorem se_call0 (S : CF B.G k f c) (hk : k ≤ B.k) (hg : glb B x) (hm : B.G.mg x = some (.ref f)) (hkp : PySem.W.keepIn B.G.K (.ref f) = true) (hdb : (x == ("__debug__" : Str)) = false) :
    SE B (.Call (.Name x p) [] [] pos) (cArgs c cNil) := by
  intro X ok W tk
  refine ⟨fun pins s σ H Q I h => ?_⟩
  obtain ⟨F, m, env, st, hR, hV, g⟩ := h
  refine wpAny_Call_Name_kw (ld_glob I (glb_ok hg ok) (by rw [ok.hmg]; exact hm) ?_ hdb)
  have hkp' : PySem.W.keepIn X.K (.ref f) = true := by rw [ok.hK]; exact hkp
  exact PySem.W.callWith_K0 I.kIn hkp' (run_sf (us := []) ok tk S hk I .nil (spK_of hR .nil g))
end
end KB
/-! The law's own call, behind the top. -/
namespace KB
open PySem L2 PySem.Spec PyProof.Rows

abbrev lawCall (P : Program) (w : World) (fa a : Addr) (s : Shared) : Prop :=
  codeAny (model P w) callerA (.call (.ref fa) ⟨[.ref a], []⟩) (fun r s' => r = .ok (.ret (.bool true)) ∧ OldK s.heap s'.heap ∧ s'.os = s.os ∧ AllBare s'.gens) s
/-- the heap that is tracked at the law's entry: the script at most -/
structure Scr (P : Program) (w : World) (K : PySem.W.Frag) (a : Addr) (vs : List Value) (ns : List Int) (h : Heap) (H : Hp) : Prop where
  one : ∀ b u, H b = some u → b = a ∧ u = .frz { cls := .type "list", data := .seq vs.toArray } (.lst (ns.map V.int)) ∧ K.lookup a = none
  seq : SqL K H a (ns.map V.int)
  hok : HOk P w H h
theorem scr_at {P : Program} {w : World} {K : PySem.W.Frag} {a : Addr} {vs : List Value} {ns : List Int} {h : Heap} (inK : K.In h) (ha : h.get? a = some { cls := .type "list", data := .seq vs.toArray }) (hi : IntsAre vs ns) (hl : ns.length ≤ sizeLine) :
    ∃ H, Scr P w K a vs ns h H := by
  have vals := L2.vals_ints hi
  cases hk : K.lookup a with
  | some o =>
    have z := inK a o hk
    rw [ha] at z
    cases z
    have none_ : ∀ {u : HO}, (none : Option HO) = some u → False := fun z => by cases z
    refine ⟨fun _ => none, ⟨fun b u z => (none_ z).elim, .inr ⟨_, vs.toArray, _, hk, rfl, rfl, rfl, ?_, by simpa using vals⟩, fun b u z => (none_ z).elim⟩⟩
    rw [List.size_toArray, hi.length]
    exact hl
  | none =>
    refine ⟨upd (fun _ => none) a (.frz { cls := .type "list", data := .seq vs.toArray } (.lst (ns.map V.int))), ⟨fun b u z => ?_, .inl (.inr ⟨_, upd_same⟩), fun b u z => ?_⟩⟩
    · by_cases e : b = a
      · subst e
        rw [upd_same] at z
        cases z
        exact ⟨rfl, rfl, hk⟩
      · rw [upd_ne e] at z
        cases z
    · by_cases e : b = a
      · subst e
        rw [upd_same] at z
        cases z
        exact ⟨ha, by rw [List.length_map]; exact hl, vs, _, vals, ha⟩
      · rw [upd_ne e] at z
        cases z
theorem law_end {P : Program} {w : World} {K : PySem.W.Frag} {mg mb : Str → Option Value} {T : Tab} {k : Nat} {fa a : Addr} {fd : FuncData} {x : Str} {c : MF} {s : Shared} {vs : List Value} {ns : List Int}
    (inK : K.In s.heap) (gl : s.heap.Ns mainGlobals mg) (bl : s.heap.Ns builtinsNs mb) (hbb : ∀ x : Str, x ≠ "__name__" → mb x = bootBuiltins x) (nl : s.heap.NoLimit) (hg : s.gens = #[])
    (ha : s.heap.get? a = some { cls := .type "list", data := .seq vs.toArray }) (hi : IntsAre vs ns) (hl : ns.length ≤ sizeLine) (room : Room k callerA)
    (def_ : ∀ base : Heap, K.In base → base.Ns mainGlobals mg → SF ⟨P, w, K, mg, base, T⟩ k fa fd [x] c) (bind : ∀ (s : Shared) (u : Value), BindsTo s fd ⟨[u], []⟩ [(x, u)])
    (ans : ∃ st, c [.d (.scr ns)] [] = .ok (.d (.bl true)) st) : lawCall P w fa a s := by
  obtain ⟨H, sc⟩ := scr_at (P := P) (w := w) inK ha hi hl
  obtain ⟨st, ans⟩ := ans
  -- every namespace stays in sight when the script is hidden
  have dictFree : ∀ {b : Addr} {o : Obj} {es : Array DictEntry} {n : Nat}, s.heap.get? b = some o → o.data = .dict es n → H b = none := by
    intro b o es n e d
    cases z : H b with
    | none => rfl
    | some u =>
      obtain ⟨e1, _, _⟩ := sc.one b u z
      subst e1
      rw [ha] at e
      cases e
      cases d
  have seen : ∀ {b : Addr} {M : Str → Option Value}, s.heap.Ns b M → (hidT s.heap H).Ns b M := by
    rintro b M ⟨o, es, n, e, d, r⟩
    exact ⟨o, es, n, hidT_get e (dictFree e d), d, r⟩
  have inB : K.In (hidT s.heap H) := by
    intro b o e
    refine hidT_get (inK b o e) ?_
    cases z : H b with
    | none => rfl
    | some u =>
      obtain ⟨e1, _, e2⟩ := sc.one b u z
      subst e1
      rw [e2] at e
      cases e
  have limB : (hidT s.heap H).NoLimit := by
    obtain ⟨M, h1, h2⟩ := nl
    exact ⟨M, seen h1, h2⟩
  have entry : Env0 P w K mg (hidT s.heap H) callerA [] s H :=
    ⟨rfl, ⟨inB, seen gl, ⟨mb, seen bl, hbb⟩, limB⟩, fun b o e => of_hidT e, Nat.le_of_eq (hidT_size _ _), trivial, fun b hb => (nomatch (show b ∈ ([] : List Addr) from hb)), sc.hok, .of_eq hg⟩
  have wish : spK ⟨P, w, K, mg, hidT s.heap H, T⟩ c [.ref a] H (fun v _ => v = .bl true) fun _ _ _ => False := by
    refine ⟨H, [], [], [.d (.scr ns)], ⟨Same.refl _, rfl, fun i o e => ?_, fun i j b e => ?_⟩, .cons (.d (.scr sc.seq)) .nil, ?_⟩
    · simp at e
    · simp at e
    · rw [ans]
      intro F' m' H' v _ _ _ q
      cases q with
      | d q =>
        cases q
        rfl
  refine codeAny_mono ((def_ _ inB (seen gl)).run callerA [] s H ⟨[.ref a], []⟩ [.ref a] [.ref a] _ _ room rfl entry (bind s (.ref a)) (.cons rfl .nil) wish) fun r s' e => ?_
  cases r with
  | error z =>
    obtain ⟨_, _, _, _, _, _, _, _, _, _, _, _, z⟩ := e
    exact z.elim
  | ok fl =>
    cases fl with
    | next => exact e.elim
    | brk => exact e.elim
    | cont => exact e.elim
    | ret u =>
      obtain ⟨v, H', os, bare, un, hok', rv, q⟩ := e
      subst q
      cases (show u = Value.bool true from rv)
      refine ⟨rfl, OldK.of_keep fun b o g => ?_, os, bare⟩
      cases z : H b with
      | none => exact un.keep b o g z (fun y => nomatch (show b ∈ ([] : List Addr) from y)) (fun y => nomatch (show b ∈ ([] : List Addr) from y))
      | some t =>
        obtain ⟨e1, e2, _⟩ := sc.one b t z
        subst e1 e2
        rw [ha] at g
        cases g
        exact (hok' _ _ (un.frzs _ _ _ z)).1
theorem walkK {l : PySem.W.OpenLaw} {n k : Nat} {q : Program} {loose : List Str} {XP : (Str → Option Value) → Heap → Prop} {YP : World → Heap → Prop} {d : DefRec} {K : Params → PySem.W.Frag} {x : Str}
    (hn : l.most = some n) (hn2 : n ≤ sizeLine) (hd0 : d.params.defaults = []) (room : Room k callerA) (hY : ∀ (w : World) (h : Heap), YP w h → (K w.params).In h)
    (F : ∀ (w : World) (mg : Str → Option Value) (fa : Addr) (h : Heap), (K w.params).In h → h.Ns mainGlobals mg → mg d.name = some (.ref fa) →
      ∃ (fd : FuncData) (T : Tab) (c : MF), (∀ (s : Shared) (u : Value), BindsTo s fd ⟨[u], []⟩ [(x, u)]) ∧ (∀ base : Heap, (K w.params).In base → base.Ns mainGlobals mg → SF ⟨l.prog, w, K w.params, mg, base, T⟩ k fa fd [x] c) ∧
        ∀ ns : List Int, ns.length ≤ n → (∀ z ∈ ns, Builtin.Int.intBits z ≤ 1048576) → ∃ st, c [.d (.scr ns)] [] = .ok (.d (.bl true)) st) :
    PySem.W.WalkO q loose XP YP l.row.toRowW d [] (fun f vs => PySem.call f vs) := by
  refine Att.attach_callB hn hd0 fun w s0 s mg mb fa o pm cd doc a vs ns G Y ho hd hcd hmg hobj hints hlen hbits hg => ?_
  obtain ⟨fd, T, c, h1, h2, h3⟩ := F w mg fa _ (hY w _ Y) G.T.g hmg
  exact law_end (hY w _ Y) G.T.g G.T.b G.T.builtins G.T.nolimit hg hobj hints (Nat.le_trans hlen hn2) room h2 h1 (h3 ns hlen hbits)
end KB
/-! Classes of the text: fields, making, methods. -/
namespace KB
open PySem L2

/-! ### fields -/
def TInj (T : Tab) : Prop := ∀ i j, T.att i = T.att j → i = j
def lookN : List Nat → List D → Nat → Option D
  | f :: fs, x :: xs, i => if f = i then some x else lookN fs xs i
  | _, _, _ => none
def lookF (fus : List (Nat × U)) (i : Nat) : Option U := match fus with
  | [] => none
  | (f, u) :: r => if f = i then some u else lookF r i
def putFU (i : Nat) (u : U) : List (Nat × U) → List (Nat × U)
  | [] => [(i, u)]
  | (g, x) :: r => if g = i then (g, u) :: r else (g, x) :: putFU i u r
section
variable {K : PySem.W.Frag} {T : Tab} {F : Hp} {m : List Addr} {st : Sto} {H : Hp} {x : V} {u : U}
theorem lookN_ok (hT : TInj T) : ∀ {fs : List Nat} {vs : List V} {xs : List D} {i : Nat} {z : D}, RDs K T F vs xs → lookN fs xs i = some z → ∃ v, ((fs.map T.att).zip vs).lookup (T.att i) = some v ∧ RD K T F v z
  | [], _, _, _, _, _, h => by simp [lookN] at h
  | f :: fs, _, _, i, z, .nil, h => by simp [lookN] at h
  | f :: fs, _, _, i, z, .cons (v := v) (vs := vs) q r, h => by
    unfold lookN at h
    by_cases e : f = i
    · rw [if_pos e] at h
      cases h
      subst e
      exact ⟨v, by simp [List.lookup], q⟩
    · rw [if_neg e] at h
      obtain ⟨w, h1, h2⟩ := lookN_ok hT r h
      refine ⟨w, ?_, h2⟩
      have : (T.att i == T.att f) = false := by
        rw [beq_eq_false_iff_ne]
        exact fun z => e (hT _ _ z).symm
      simp only [List.map_cons, List.zip_cons_cons, List.lookup, this]
      exact h1
abbrev PFs (K : PySem.W.Frag) (T : Tab) (F : Hp) (m : List Addr) : List (Str × V) → List (Nat × U) → Prop := Paired (fun p q => p.1 = T.att q.1 ∧ RU K T F m p.2 q.2)
theorem lookF_ok (hT : TInj T) : ∀ {fvs : List (Str × V)} {fus : List (Nat × U)} {i : Nat} {z : U}, PFs K T F m fvs fus → lookF fus i = some z → ∃ v, fvs.lookup (T.att i) = some v ∧ RU K T F m v z
  | _, _, _, _, .nil, h => by simp [lookF] at h
  | (n, v) :: ps, (f, u) :: qs, i, z, .cons ⟨h1, h2⟩ t, h => by
    have h1' : n = T.att f := h1
    subst h1'
    unfold lookF at h
    by_cases e : f = i
    · rw [if_pos e] at h
      cases h
      subst e
      exact ⟨v, by simp [List.lookup], h2⟩
    · rw [if_neg e] at h
      obtain ⟨w, h3, h4⟩ := lookF_ok hT t h
      refine ⟨w, ?_, h4⟩
      have : (T.att i == T.att f) = false := by
        rw [beq_eq_false_iff_ne]
        exact fun z => e (hT _ _ z).symm
      simp only [List.lookup, this]
      exact h3
theorem putF_ok (hT : TInj T) {i : Nat} {v : V} {u : U} (q : RU K T F m v u) : ∀ {fvs : List (Str × V)} {fus : List (Nat × U)}, PFs K T F m fvs fus → PFs K T F m (putF (T.att i) v fvs) (putFU i u fus)
  | _, _, .nil => .cons ⟨rfl, q⟩ .nil
  | (n, w) :: ps, (f, z) :: qs, .cons ⟨h1, h2⟩ t => by
    have h1' : n = T.att f := h1
    subst h1'
    unfold putF putFU
    by_cases e : f = i
    · subst e
      rw [if_pos rfl, if_pos rfl]
      exact .cons ⟨rfl, q⟩ t
    · rw [if_neg (fun z => e (hT _ _ z)), if_neg e]
      exact .cons ⟨rfl, h2⟩ (putF_ok hT q t)
end
/-- what the text's classes are asked for: na: class and attribute (no class of it has the name) -/
abbrev Na := List (Nat × Nat)
def NaOk (K : PySem.W.Frag) (T : Tab) (na : Na) : Prop := ∀ p ∈ na, (p.1 < 20 → Cls K (T.cls p.1) ∧ NoAttr K (T.cls p.1) (T.att p.2)) ∧ (¬ p.1 < 20 → XfC K (T.cls p.1) ∧ PySem.W.findIn K (.ref (T.cls p.1)) (T.att p.2) = some none)
def inNa (na : Na) (c i : Nat) : Bool := decide (c < 20) && na.any fun p => decide (p.1 = c) && decide (p.2 = i)
def inNx (na : Na) (c i : Nat) : Bool := !decide (c < 20) && na.any fun p => decide (p.1 = c) && decide (p.2 = i)
theorem inNa_ok {K : PySem.W.Frag} {T : Tab} {na : Na} (hn : NaOk K T na) {c i : Nat} (h : inNa na c i = true) : Cls K (T.cls c) ∧ NoAttr K (T.cls c) (T.att i) := by
  unfold inNa at h
  rw [Bool.and_eq_true, decide_eq_true_iff] at h
  obtain ⟨p, hp, h2⟩ := List.any_eq_true.mp h.2
  rw [Bool.and_eq_true, decide_eq_true_iff, decide_eq_true_iff] at h2
  have := (hn p hp).1 (by rw [h2.1]; exact h.1)
  rw [h2.1, h2.2] at this
  exact this
theorem inNx_ok {K : PySem.W.Frag} {T : Tab} {na : Na} (hn : NaOk K T na) {c i : Nat} (h : inNx na c i = true) : XfC K (T.cls c) ∧ PySem.W.findIn K (.ref (T.cls c)) (T.att i) = some none := by
  unfold inNx at h
  rw [Bool.and_eq_true, Bool.not_eq_true', decide_eq_false_iff_not] at h
  obtain ⟨p, hp, h2⟩ := List.any_eq_true.mp h.2
  rw [Bool.and_eq_true, decide_eq_true_iff, decide_eq_true_iff] at h2
  have := (hn p hp).2 (by rw [h2.1]; exact h.1)
  rw [h2.1, h2.2] at this
  exact this
def attU (na : Na) (i : Nat) : U → Sto → Re U := fun u st => match u with
  | .d (.obj c fs xs) => if inNa na c i then (match lookN fs xs i with
    | some x => .ok (.d x) st
    | none => .bad) else .bad
  | .d (.exc c fs xs) => if inNx na c i then (match lookN fs xs i with
    | some x => .ok (.d x) st
    | none => .bad) else .bad
  | .c n => match st[n]? with
    | some (.ins c fus) => if inNa na c i then (match lookF fus i with
      | some u => .ok u st
      | none => .bad) else .bad
    | _ => .bad
  | _ => .bad
def setF (na : Na) (i : Nat) (v : U) : U → Sto → Option Sto
  | .c n, st => match st[n]? with
    | some (.ins c fus) => if inNa na c i && decide (fus.length < 1000) then some (st.set n (.ins c (putFU i v fus))) else none
    | _ => none
  | _, _ => none
/-- no call of nothing: super() is not meant -/
def noSup : Expr → Bool
  | .Call (.Name _ _) [] [] _ => false
  | _ => true
theorem base_no {e : Expr} (h : noSup e = true) (f : Str) (env : Env) (w : Sem Value) : attributeBase e f env w = w := by
  unfold attributeBase
  split
  · cases h
  · rfl
section
variable {B : Blk} {o e a : Expr} {es : List Expr} {c co : ME} {cs : MA} {f : Str} {i : Nat} {na : Na} {pos p1 p2 : Pos}
theorem se_att (hT : TInj B.G.T) (hn : NaOk B.G.K B.G.T na) (hf : B.G.T.att i = f) (hs : noSup e = true) (h : SE B e c) : SE B (.Attribute e f pos) (cOp1 (attU na i) c) := by
  intro X ok W tk
  refine ⟨fun pins s σ H Q I hh => ?_⟩
  obtain ⟨F, m, env, st, hR, hV, g⟩ := hh
  refine attr_of (base_no hs f X.env _) (thn ((h X ok W tk).run pins s σ H _ I ⟨F, m, env, st, hR, hV, goE_bind hV g⟩) fun v s1 z => ?_)
  obtain ⟨x, H1, I1, rx, F1, m1, st1, u, s1', p1, hR1, hV1, q1, g1⟩ := z
  unfold attU at g1
  split at g1
  · rename_i cc fs xs
    split at g1
    · rename_i hi
      split at g1
      · rename_i z hz
        cases q1 with
        | d q1 =>
          cases q1 with
          | @obj aa dx _ _ vs _ h1 h2 h3 =>
            obtain ⟨v', h4, h5⟩ := lookN_ok hT h3 hz
            obtain ⟨k1, k2⟩ := inNa_ok hn hi
            rw [hf] at h4 k2
            rw [← ok.hK] at k1 k2
            obtain rfl : v = Value.ref aa := rx
            exact getattr_ok I1 (hR1.sub _ _ h1) k1 k2 h4 fun u' s2 I2 ru => ⟨v', H1, I2, ru, g1 F1 m1 H1 v' (Same.refl _) (pre_refl _) hR1 (.d h5)⟩
      · exact g1.elim
    · exact g1.elim
  · rename_i cc fs xs
    split at g1
    · rename_i hi
      split at g1
      · rename_i z hz
        cases q1 with
        | d q1 =>
          cases q1 with
          | @exc aa dd _ _ vs _ h1 h2 h3 =>
            obtain ⟨v', h4, h5⟩ := lookN_ok hT h3 hz
            obtain ⟨k1, k2⟩ := inNx_ok hn hi
            rw [hf] at h4 k2
            rw [← ok.hK] at k1 k2
            obtain rfl : v = Value.ref aa := rx
            rcases h2 with ⟨e1, e2, e3⟩ | ⟨d, rfl, hd, hl⟩
            · subst e1 e2
              cases h4
            · obtain ⟨oe, fvs, y1, y2, y3⟩ := exH_at I1.hok (hR1.sub _ _ h1)
              have hx : ObjOk X.prog X.w H1 s1.heap d (.xd ((fs.map B.G.T.att).zip vs)) := I1.hok d _ (hR1.sub _ _ hd)
              obtain ⟨mA, hns, hr⟩ := hx
              obtain ⟨od, ho, hlk⟩ := lookIn_ns hns
              obtain ⟨w, hu, ru⟩ := RelO.some_of (v := v') (o := mA f) (by rw [← h4]; exact hr f)
              have J : PySem.W.InstAt s1.heap aa oe (B.G.T.cls cc) (some od) := ⟨y1, y2.1, by unfold PySem.W.notCls; rw [y3] <;> rfl, by rw [y2.2]; exact ho⟩
              exact HandSPX.exc_get I1.kIn J k1.ga k1.gg k1.exC (PySem.W.findObj_own k1.hdC k2 rfl (by rw [hlk, hu])) (handed_of ru) ⟨v', H1, I1.tok _, ru, g1 F1 m1 H1 v' (Same.refl _) (pre_refl _) hR1 (.d h5)⟩
      · exact g1.elim
    · exact g1.elim
  · rename_i n
    split at g1
    · rename_i cc fus hs
      split at g1
      · rename_i hi
        split at g1
        · rename_i z hz
          cases q1 with
          | c hn1 =>
            obtain ⟨aa, ho, h1, h2, h3, h4⟩ := hR1.obj _ _ hs
            rw [hn1] at h1
            cases h1
            cases h4 with
            | @ins _ dx fvs _ rr =>
              obtain ⟨v', h5, h6⟩ := lookF_ok hT rr hz
              obtain ⟨k1, k2⟩ := inNa_ok hn hi
              rw [hf] at h5 k2
              rw [← ok.hK] at k1 k2
              obtain rfl : v = Value.ref _ := rx
              exact getattr_ok I1 h2 k1 k2 h5 fun u' s2 I2 ru => ⟨v', H1, I2, ru, g1 F1 m1 H1 v' (Same.refl _) (pre_refl _) hR1 h6⟩
        · exact g1.elim
      · exact g1.elim
    · exact g1.elim
  · exact g1.elim
/-- o.f = e -/
def sFld (na : Na) (i : Nat) (o c : ME) : MS := sVal c fun v => sVal o fun ov env st => match setF na i v ov st with
  | some st' => .ok .nx env st'
  | none => .bad
theorem ss_fld (hT : TInj B.G.T) (hn : NaOk B.G.K B.G.T na) (hf : B.G.T.att i = f) (ho : SE B o co) (h : SE B e c) : SS B (.Assign [.Attribute o f p1] e pos) (sFld na i co c) := by
  intro X ok W tk
  have r := ps_fld (pos := pos) (f := f) (ho X ok W tk) (h X ok W tk) (swaps_att e o f p1 pos.line X.env)
  rw [ok.hK] at r
  refine PS.imp r ?_
  rintro Z σ H ⟨F, m, env, st, hR, hV, g⟩
  refine ⟨F, m, env, st, hR, hV, (goES hV g).imp ?_⟩
  rintro v H1 ⟨F1, m1, st1, uv, s1, q1, hR1, hV1, r1, g1⟩
  refine ⟨F1, m1, env, st1, hR1, hV1, (goES hV1 g1).imp ?_⟩
  rintro ov H2 ⟨F2, m2, st2, uo, s2, q2, hR2, hV2, r2, g2⟩
  split at g2
  · rename_i st' hs
    unfold setF at hs
    split at hs
    · rename_i n
      split at hs
      · rename_i cc fus he
        split at hs
        · rename_i hb
          cases hs
          rw [Bool.and_eq_true, decide_eq_true_iff] at hb
          cases r2 with
          | c hn1 =>
            obtain ⟨aa, ho', h1, h2, h3, h4⟩ := hR2.obj _ _ he
            rw [hn1] at h1
            cases h1
            have hlt := (List.getElem?_eq_some_iff.mp he).1
            cases h4 with
            | @ins _ dx fvs _ rr =>
              obtain ⟨k1, k2⟩ := inNa_ok hn hb.1
              rw [hf] at k2
              refine ⟨_, _, dx, fvs, rfl, h2, k1, k2, by rw [Paired.length rr]; exact hb.2, ?_⟩
              have w := putF_ok (i := i) hT (r1.mono s2 q2) rr
              rw [hf] at w
              exact g2 F2 m2 _ σ (Same.refl _) (pre_refl _) (hR2.write hlt hn1 (.ins w)) hV2
        · cases hs
      · cases hs
    · cases hs
  · exact g2.elim
end
/-! ### C(..) -/
/-- a new instance of the class c, its __init__ -/
def mkU (c : Nat) (fz : Bool) (init : MF) : MF := fun us st => match init (.c st.length :: us) (st ++ [.ins c []]) with
  | .ok (.d .non) st' => fin fz (.c st.length) st st'
  | .ok _ _ => .bad
  | .exc e st' => finX e st st'
  | .bad => .bad
theorem Rl.beside {K : PySem.W.Frag} {T : Tab} {F : Hp} {m : List Addr} {st : Sto} {H : Hp} (r : Rl K T F m st H) {p : Addr} (h : H p = none) (o : HO) : Rl K T F m st (upd H p o) where
  sub := fun b u e => by
    rw [upd_ne (fun z => by rw [z, r.free h] at e; cases e)]
    exact r.sub b u e
  len := r.len
  obj := fun i u e => by
    obtain ⟨a, ho, e1, e2, e3, e4⟩ := r.obj i u e
    exact ⟨a, ho, e1, by rw [upd_ne (r.notin h e1)]; exact e2, e3, e4⟩
  inj := r.inj
theorem under_guards {A : Around} {C : Addr} {us : List Value} {kw : List (Str × Value)} (h : A.guards = some []) : (A.under (.builtin "type.__call__" ⟨.ref C :: us, kw⟩)).guards = some [] := by
  simp only [Around.under, Code.guards, h]
  first | rfl | simp [Code.isGuard, guardIds, pushGuards]
section
variable {B : Blk} {x : Str} {e : Expr} {es : List Expr} {cs : MA} {p pos : Pos} {k : Nat} {C f : Addr} {cI : MF} {c : Nat}
theorem run_mk {X : Cx} (ok : B.ok X) {W : WX} (tk : Takes X W) (S : CF B.G k f cI) (hk : k + 1 ≤ B.k) (M : Mk B.G.K (B.G.T.cls c) f) {pins : List (Addr × Obj)} {σ : St} {H : Hp} {s : Shared} {Q : VK} {us : List Value} {vs : List V} {F : Hp} {m : List Addr} {st : Sto} {as : List U} {fz : Bool}
    (I : Inv X pins σ H s) (r : Vals vs us) (hR : Rl B.G.K B.G.T F m st H) (q : RUs B.G.K B.G.T F m vs as) (g : GoE B.G.K B.G.T W F m σ (mkU c fz cI as st) Q) :
    wpAny (model X.prog X.w) X.A (call (.ref (B.G.T.cls c)) us) (EP X pins σ Q) X.xe s := by
  have hx := I.hok.fresh (Nat.le_succ s.heap.objs.size)
  have hd := I.hok.fresh (Nat.le_refl s.heap.objs.size)
  have I2 := Inv.made (C := B.G.T.cls c) I
  have hd1 : s.heap.objs.size ≠ s.heap.objs.size + 1 := Nat.ne_of_lt (Nat.lt_succ_self _)
  have hxd : (upd H s.heap.objs.size (.own (s.heap.objs.size + 1))) (s.heap.objs.size + 1) = none := by rw [upd_ne (Ne.symm hd1)]; exact hx
  have hR2 := (hR.beside hd (.own (s.heap.objs.size + 1))).cell (o := .ins c []) hxd (.ins (dx := s.heap.objs.size) (T := B.G.T) (c := c) .nil)
  have hm : m <+: m ++ [s.heap.objs.size + 1] := ⟨_, rfl⟩
  have qa : RU B.G.K B.G.T F (m ++ [s.heap.objs.size + 1]) (.ref (s.heap.objs.size + 1)) (.c st.length) := .c (by rw [← hR.len, List.getElem?_append_right (Nat.le_refl _), Nat.sub_self]; rfl)
  have wish : spK B.G cI (V.ref (s.heap.objs.size + 1) :: vs) (upd (upd H s.heap.objs.size (.own (s.heap.objs.size + 1))) (s.heap.objs.size + 1) (.ins (B.G.T.cls c) s.heap.objs.size [])) (fun v H2 => v = .non ∧ Q (.ref (s.heap.objs.size + 1)) H2) (WE W σ) := by
    refine ⟨F, _, _, .c st.length :: as, hR2, .cons qa (q.mono (Same.refl _) hm), ?_⟩
    unfold mkU at g
    cases h : cI (.c st.length :: as) (st ++ [.ins c []]) with
    | bad =>
      rw [h] at g
      exact g
    | exc z st' =>
      rw [h] at g
      exact fun F' m' H' cc d a b R qx => finX_go (σ := σ) hR R a (List.IsPrefix.trans hm b) qx g
    | ok u st' =>
      rw [h] at g
      intro F' m' H' v a b R qv
      split at g
      · rename_i e1
        cases e1
        cases qv with
        | d qv =>
          cases qv
          exact ⟨rfl, fin_go hR R a (List.IsPrefix.trans hm b) (qa.mono a b) g⟩
      · exact g.elim
      · rename_i e1
        cases e1
      · rename_i e1
        cases e1
  have r2 : Vals (V.ref (s.heap.objs.size + 1) :: vs) (Value.ref (s.heap.objs.size + 1) :: us) := .cons rfl r
  have inK : B.G.K.In ((s.heap.push PySem.W.emptyDict).push (PySem.W.instObj (B.G.T.cls c) s.heap.objs.size)) := by
    have := I2.kIn
    rw [ok.hK] at this
    exact this
  have en := I2.env0.make (B.G.T.cls c) us []
  rw [ok.hP, ok.hw, ok.hK, ok.hmg, ok.hbase] at en
  have cr := S.run _ X.stack _ _ (Value.ref (s.heap.objs.size + 1) :: us) _ _ (WE W σ) ((ok.room.mono hk).make (B.G.T.cls c) us []) (under_guards ok.grd) en inK r2 wish
  rw [← ok.hP, ← ok.hw] at cr
  have inX : B.G.K.In s.heap := by rw [← ok.hK]; exact I.kIn
  refine wpAny_call (make_map inX M.makes M.init (beq_iff_eq.mp M.fn) (codeAny_mono cr fun res s' hq => ?_))
  cases res with
  | error z => exact passAt tk σ pins _ _ z s' I2 hq
  | ok fl =>
    cases fl with
    | ret u =>
      obtain ⟨v, H', I3, rv, ev, q3⟩ := I2.after hq
      subst ev
      exact ⟨rv, ⟨V.ref (s.heap.objs.size + 1), H', I3, rfl, q3⟩⟩
    | next => exact hq.elim
    | brk => exact hq.elim
    | cont => exact hq.elim
theorem se_mk {fz : Bool} (S : CF B.G k f cI) (hk : k + 1 ≤ B.k) (M : Mk B.G.K (B.G.T.cls c) f) (hg : glb B x) (hm : B.G.mg x = some (.ref (B.G.T.cls c))) (hdb : (x == ("__debug__" : Str)) = false)
    (hs : noStar e = true) (hss : es.all noStar = true) (ha : SA B (e :: es) cs) : SE B (.Call (.Name x p) (e :: es) [] pos) (cArgs (mkU c fz cI) cs) := by
  intro X ok W tk
  refine ⟨fun pins s σ H Q I h => ?_⟩
  obtain ⟨F, m, env, st, hR, hV, g⟩ := h
  refine wpAny_Call_Name_kw (ld_glob I (glb_ok hg ok) (by rw [ok.hmg]; exact hm) ?_ hdb)
  have hkp' : PySem.W.keepIn X.K (.ref (B.G.T.cls c)) = true := by rw [ok.hK]; exact M.kp
  refine PySem.W.callWith_K (h₀ := X.base) I.ok.mod.kin hkp'
    (thn ((ha X ok W tk).run pos pins s σ H _ I ⟨F, m, env, st, hR, hV, goAE_bind hV g⟩) fun us s1 z => ?_) (star_of hs es X.env) (back_no pos X.env hss)
  obtain ⟨vs, H1, I1, r, F1, m1, st1, as, a1, b1, hR1, hV1, q1, g1⟩ := z
  exact ⟨I1.kIn, run_mk ok tk S hk M I1 r hR1 q1 g1⟩
theorem se_mk0 {fz : Bool} (S : CF B.G k f cI) (hk : k + 1 ≤ B.k) (M : Mk B.G.K (B.G.T.cls c) f) (hg : glb B x) (hm : B.G.mg x = some (.ref (B.G.T.cls c))) (hdb : (x == ("__debug__" : Str)) = false) :
    SE B (.Call (.Name x p) [] [] pos) (cArgs (mkU c fz cI) cNil) := by
  intro X ok W tk
  refine ⟨fun pins s σ H Q I h => ?_⟩
  obtain ⟨F, m, env, st, hR, hV, g⟩ := h
  refine wpAny_Call_Name_kw (ld_glob I (glb_ok hg ok) (by rw [ok.hmg]; exact hm) ?_ hdb)
  have hkp' : PySem.W.keepIn X.K (.ref (B.G.T.cls c)) = true := by rw [ok.hK]; exact M.kp
  exact PySem.W.callWith_K0 I.kIn hkp' (run_mk (us := []) ok tk S hk M I .nil hR .nil g)
end
end KB
/-! Methods. -/
namespace KB
open PySem L2

/-! ### own methods -/
def clsU (st : Sto) : U → Option Nat
  | .d (.obj c _ _) => some c
  | .c n => match st[n]? with
    | some (.ins c _) => some c
    | _ => none
  | _ => none
def lookM (tbl : List (Nat × MF)) (c : Nat) : Option MF := match tbl with
  | [] => none
  | (d, f) :: r => if d = c then some f else lookM r c
def cMth (tbl : List (Nat × MF)) (co : ME) (cs : MA) : ME := fun env st => (co env st).bind fun u st1 => match (clsU st1 u).bind (lookM tbl) with
  | some f => (cs env st1).bind fun us st2 => f (u :: us) st2
  | none => .bad
structure MtOk (G : Glo) (k : Nat) (m : Str) (c : Nat) (f : MF) : Prop where
  cl : Cls G.K (G.T.cls c)
  ex : ∃ fa, Meth G.K (G.T.cls c) m fa ∧ CF G k fa f
def MtsOk (G : Glo) (k : Nat) (m : Str) (tbl : List (Nat × MF)) : Prop := ∀ p ∈ tbl, MtOk G k m p.1 p.2
theorem lookM_mem {tbl : List (Nat × MF)} {c : Nat} {f : MF} (h : lookM tbl c = some f) : (c, f) ∈ tbl := by
  induction tbl with
  | nil => simp [lookM] at h
  | cons p r ih =>
    obtain ⟨d, g⟩ := p
    unfold lookM at h
    by_cases e : d = c
    · rw [if_pos e] at h
      cases h
      subst e
      exact List.mem_cons_self ..
    · rw [if_neg e] at h
      exact List.mem_cons_of_mem _ (ih h)
section
variable {K : PySem.W.Frag} {T : Tab} {F : Hp} {m : List Addr} {st : Sto} {H : Hp} {x : V} {u : U}
theorem no_look {nm : Str} (hn : ∀ j, T.att j ≠ nm) : ∀ {ks : List Nat} {vs : List V}, ((ks.map T.att).zip vs).lookup nm = none
  | [], _ => rfl
  | k :: ks, [] => rfl
  | k :: ks, v :: vs => by
    have : (nm == T.att k) = false := by
      rw [beq_eq_false_iff_ne]
      exact fun z => hn k z.symm
    simp only [List.map_cons, List.zip_cons_cons, List.lookup, this]
    exact no_look hn
theorem no_lookF {nm : Str} (hn : ∀ j, T.att j ≠ nm) : ∀ {fvs : List (Str × V)} {fus : List (Nat × U)}, PFs K T F m fvs fus → fvs.lookup nm = none
  | _, _, .nil => rfl
  | (n, v) :: ps, (f, u) :: qs, .cons ⟨h1, h2⟩ t => by
    have h1' : n = T.att f := h1
    subst h1'
    have : (nm == T.att f) = false := by
      rw [beq_eq_false_iff_ne]
      exact fun z => hn f z.symm
    simp only [List.lookup, this]
    exact no_lookF hn t
theorem clsU_ok {nm : Str} (hn : ∀ j, T.att j ≠ nm) (hR : Rl K T F m st H) (r : RU K T F m x u) {c : Nat} (e : clsU st u = some c) : ∃ a dx fs, x = .ref a ∧ H a = some (.ins (T.cls c) dx fs) ∧ fs.lookup nm = none := by
  unfold clsU at e
  split at e
  · cases e
    cases r with
    | d r =>
      cases r with
      | obj h1 h2 h3 => exact ⟨_, _, _, rfl, hR.sub _ _ h1, no_look hn⟩
  · split at e
    · rename_i hs
      cases e
      cases r with
      | c h =>
        obtain ⟨a, ho, h1, h2, h3, h4⟩ := hR.obj _ _ hs
        rw [h] at h1
        cases h1
        cases h4 with
        | ins rr => exact ⟨_, _, _, rfl, h2, no_lookF hn rr⟩
    · cases e
  · cases e
end
theorem all_no (pos : Pos) (env : Env) : ∀ {es : List Expr}, es.all noStar = true → (backTo pos (starEach es env)).all (fun x => !x.1) = true
  | [], _ => rfl
  | e :: es, h => by
    rw [List.all_cons, Bool.and_eq_true] at h
    rw [star_of h.1]
    show (true && (backTo pos (starEach es env)).all (fun x => !x.1)) = true
    rw [all_no pos env h.2]
    rfl
theorem form_ok {es : List Expr} (pos : Pos) (env : Env) (hs : es.all noStar = true) (hl : es.length < 30) : methodCallForm (es.length + ([] : List Keyword).length) (backTo pos (starEach es env)) (backToKw pos (keywordEach [] env)) = true := by
  unfold methodCallForm
  rw [all_no pos env hs]
  show (true && true && decide (es.length + 0 + 0 < 30)) = true
  simp [hl]
theorem mcall_eq {o : Expr} {m : Str} {apos pos : Pos} {es : List Expr} {env : Env} (ho : noSup o = true) (hs : es.all noStar = true) (hl : es.length < 30) (hp : (apos.endLine == pos.line) = true) :
    eval (.Call (.Attribute o m apos) es [] pos) env = (do
      let ov ← eval o env
      standAt apos.atName
      let (f, first) ← holding [ov] (getMethod ov m (L2.plainOf o env))
      callWith pos f first (backTo pos (starEach es env)) (backToKw pos (keywordEach [] env))) := by
  rw [arm_eval_Call, base_no ho]
  congr 1
  funext ov
  congr 1
  funext _
  exact mcall_line (form_ok pos env hs hl) hp
section
variable {B : Blk} {o : Expr} {es : List Expr} {co : ME} {cs : MA} {m : Str} {apos pos p1 : Pos} {k : Nat}
theorem mth_go {tbl : List (Nat × MF)} (hT : ∀ j, B.G.T.att j ≠ m) (ht : MtsOk B.G k m tbl) {K : PySem.W.Frag} {F1 : Hp} {m1 : List Addr} {st1 : Sto} {H1 : Hp} {x : V} {u : U} {f : MF} (hR1 : Rl B.G.K B.G.T F1 m1 st1 H1) (q1 : RU B.G.K B.G.T F1 m1 x u) (hf : (clsU st1 u).bind (lookM tbl) = some f) :
    ∃ a C dx fs fa, x = .ref a ∧ H1 a = some (.ins C dx fs) ∧ fs.lookup m = none ∧ Cls B.G.K C ∧ Meth B.G.K C m fa ∧ CF B.G k fa f := by
  obtain ⟨c, h1, h2⟩ := Option.bind_eq_some_iff.mp hf
  obtain ⟨a, dx, fs, rfl, ea, lk⟩ := clsU_ok hT hR1 q1 h1
  obtain ⟨cl, fa, mt, S⟩ := ht _ (lookM_mem h2)
  exact ⟨a, _, dx, fs, fa, rfl, ea, lk, cl, mt, S⟩
theorem se_mth {tbl : List (Nat × MF)} {e : Expr} (hT : ∀ j, B.G.T.att j ≠ m) (ht : MtsOk B.G k m tbl) (hk : k ≤ B.k) (ho : noSup o = true) (hs : (e :: es).all noStar = true) (hl : (e :: es).length < 30) (hp : (apos.endLine == pos.line) = true) (h : SE B o co) (ha : SA B (e :: es) cs) :
    SE B (.Call (.Attribute o m apos) (e :: es) [] pos) (cMth tbl co cs) := by
  intro X ok W tk
  refine ⟨fun pins s σ H Q I hh => ?_⟩
  obtain ⟨F, mm, env, st, hR, hV, g⟩ := hh
  refine PySem.W.methodCall_KW (pl := L2.plainOf o X.env) (thn ((h X ok W tk).run pins s σ H _ I ⟨F, mm, env, st, hR, hV, goE_bind hV g⟩) fun ov s1 z => ?_) (mcall_eq ho hs hl hp)
  obtain ⟨x, H1, I1, rx, F1, m1, st1, u, a1, b1, hR1, hV1, q1, g1⟩ := z
  split at g1
  · rename_i f hf
    obtain ⟨a, C, dx, fs, fa, rfl, ea, lk, cl, mt, S⟩ := mth_go (K := B.G.K) hT ht hR1 q1 hf
    obtain rfl : ov = Value.ref a := rx
    have cl' : Cls X.K C := by rw [ok.hK]; exact cl
    have mt' : Meth X.K C m fa := by rw [ok.hK]; exact mt
    refine getmeth_ok I1 ea cl' mt' lk ?_
    rw [List.all_cons, Bool.and_eq_true] at hs
    refine PySem.W.callWith_K (first := [.ref a]) (h₀ := X.base) I.ok.mod.kin mt'.kp
      (thn ((ha X ok W tk).run pos pins s1 σ H1 _ I1 ⟨F1, m1, env, st1, hR1, hV1, goAE_bind hV1 g1⟩) fun us s2 z => ?_) (star_of hs.1 es X.env) (back_no pos X.env hs.2)
    obtain ⟨vs, H2, I2, r2, F2, m2, st2, as, a2, b2, hR2, hV2, q2, g2⟩ := z
    exact ⟨I2.kIn, run_sf (us := .ref a :: us) (vs := .ref a :: vs) ok tk S hk I2 (.cons rfl r2) (spK_of hR2 (.cons (q1.mono a2 b2) q2) g2)⟩
  · exact g1.elim
theorem se_mth0 {tbl : List (Nat × MF)} (hT : ∀ j, B.G.T.att j ≠ m) (ht : MtsOk B.G k m tbl) (hk : k ≤ B.k) (ho : noSup o = true) (hp : (apos.endLine == pos.line) = true) (h : SE B o co) :
    SE B (.Call (.Attribute o m apos) [] [] pos) (cMth tbl co cNil) := by
  intro X ok W tk
  refine ⟨fun pins s σ H Q I hh => ?_⟩
  obtain ⟨F, mm, env, st, hR, hV, g⟩ := hh
  refine PySem.W.methodCall_KW (pl := L2.plainOf o X.env) (thn ((h X ok W tk).run pins s σ H _ I ⟨F, mm, env, st, hR, hV, goE_bind hV g⟩) fun ov s1 z => ?_) (mcall_eq ho rfl (by show 0 < 30; decide) hp)
  obtain ⟨x, H1, I1, rx, F1, m1, st1, u, a1, b1, hR1, hV1, q1, g1⟩ := z
  split at g1
  · rename_i f hf
    obtain ⟨a, C, dx, fs, fa, rfl, ea, lk, cl, mt, S⟩ := mth_go (K := B.G.K) hT ht hR1 q1 hf
    obtain rfl : ov = Value.ref a := rx
    have cl' : Cls X.K C := by rw [ok.hK]; exact cl
    have mt' : Meth X.K C m fa := by rw [ok.hK]; exact mt
    refine getmeth_ok I1 ea cl' mt' lk ?_
    exact PySem.W.callWith_K0 (first := [.ref a]) I1.kIn mt'.kp (run_sf (us := [.ref a]) (vs := [.ref a]) ok tk S hk I1 (.cons rfl .nil) (spK_of hR1 (.cons q1 .nil) g1))
  · exact g1.elim

/-! ### C.m(self, ..): a def of the class at C, by the class's name -/
structure CfOk (K : PySem.W.Frag) (C : Addr) (m : Str) (f : Addr) : Prop where
  rd : PySem.W.readsIn K C (.type "type") = true
  ga : PySem.W.specialIn K (.ref C) "__getattribute__" = some (some (.builtin "type.__getattribute__"))
  at_ : PySem.W.findCls K (.ref C) (.type "type") m = some (.val (.ref f))
  kp : PySem.W.keepIn K (.ref f) = true
theorem se_cls {x : Str} {e : Expr} {C f : Addr} {c : MF} {xp : Pos} (S : CF B.G k f c) (hk : k ≤ B.k) (hg : glb B x) (hm : B.G.mg x = some (.ref C)) (hdb : (x == ("__debug__" : Str)) = false) (cf : CfOk B.G.K C m f)
    (hs : (e :: es).all noStar = true) (hl : (e :: es).length < 30) (hp : (apos.endLine == pos.line) = true) (ha : SA B (e :: es) cs) :
    SE B (.Call (.Attribute (.Name x xp) m apos) (e :: es) [] pos) (cArgs c cs) := by
  intro X ok W tk
  refine ⟨fun pins s σ H Q I hh => ?_⟩
  obtain ⟨F, mm, env, st, hR, hV, g⟩ := hh
  have rd' : ClX.CRead X.K C (.type "type") := by rw [ok.hK]; exact ⟨cf.rd, cf.ga⟩
  have cv' : ClX.CVal X.K C (.type "type") m (.ref f) (.ref f) := by rw [ok.hK]; exact ⟨cf.at_, rfl⟩
  have kp' : PySem.W.keepIn X.K (.ref f) = true := by rw [ok.hK]; exact cf.kp
  refine PySem.W.methodCall_KW (pl := L2.plainOf (.Name x xp) X.env) (ld_glob I (glb_ok hg ok) (by rw [ok.hmg]; exact hm) ?_ hdb) (mcall_eq rfl hs hl hp)
  refine PySem.W.method_cls I.kIn rd'.ga (ClX.getcval_ok I rd' cv' fun s1 J => ?_)
  rw [List.all_cons, Bool.and_eq_true] at hs
  refine PySem.W.callWith_K (h₀ := X.base) I.ok.mod.kin kp'
    (thn ((ha X ok W tk).run pos pins s1 σ H _ J ⟨F, mm, env, st, hR, hV, goAE_bind hV g⟩) fun us s2 z => ?_) (star_of hs.1 es X.env) (back_no pos X.env hs.2)
  obtain ⟨vs, H1, I1, r, F1, m1, st1, as, a1, b1, hR1, hV1, q1, g1⟩ := z
  exact ⟨I1.kIn, run_sf ok tk S hk I1 r (spK_of hR1 q1 g1)⟩

/-! ### methods of lists -/
def okM (K : PySem.W.Frag) (T : Tab) (f : U → List U → Sto → Re U) : V → List V → Hp → VK → Prop := fun x xs H Q => ∃ F m st u us, Rl K T F m st H ∧ RU K T F m x u ∧ RUs K T F m xs us ∧ GoE K T (fun _ _ _ _ => False) F m [] (f u us st) Q
def CalmM (f : U → List U → Sto → Re U) : Prop := ∀ u us st e s', f u us st ≠ .exc e s'
def cLm (f : U → List U → Sto → Re U) (co : ME) (cs : MA) : ME := fun env st => (co env st).bind fun u st1 => if (scrU st1 u).isSome then (cs env st1).bind fun us st2 => f u us st2 else .bad
def appU : U → List U → Sto → Re U := fun u us st => match u, us with
  | .c n, [w] => (match st[n]? with
    | some (.lst xs) => if xs.length < lim then .ok (.d .non) (st.set n (.lst (xs ++ [w]))) else .bad
    | _ => .bad)
  | _, _ => .bad
theorem appU_calm : CalmM appU := by
  intro u us st e s'
  unfold appU
  split
  · split
    · split <;> exact fun z => nomatch z
    · exact fun z => nomatch z
  · exact fun z => nomatch z
theorem mr_app {X : Cx} {T : Tab} : MtR X "list.append" (okM X.K T appU) := by
  intro pins s σ H x xs v us Q I rx rv h
  obtain ⟨F, m, st, u, as, hR, q, qs, g⟩ := h
  unfold appU at g
  split at g
  · rename_i n w
    cases q with
    | c hn =>
      cases qs with
      | cons qw q0 =>
        cases q0
        split at g
        · rename_i ys hs
          split at g
          · rename_i hl
            obtain ⟨a, ho, h1, h2, h3, h4⟩ := hR.obj _ _ hs
            rw [hn] at h1
            cases h1
            have hlt := (List.getElem?_eq_some_iff.mp hs).1
            cases h4 with
            | lst rr =>
              exact mt_append pins s σ H _ _ v us Q I rx rv ⟨_, _, _, rfl, rfl, h2, by rw [rr.len, ← lim_eq]; exact hl, g F m _ _ (Same.refl _) (pre_refl _) (hR.write hlt hn (.lst (rr.app (.cons qw .nil)))) (.d .non)⟩
          · exact g.elim
        · exact g.elim
  · exact g.elim
/-- l.extend(items of another list) -/
def extU : U → List U → Sto → Re U := fun u us st => match u, us with
  | .c n, [w] => (match st[n]?, lstU st w with
    | some (.lst xs), some ys => if xs.length + ys.length ≤ lim then .ok (.d .non) (st.set n (.lst (xs ++ ys))) else .bad
    | _, _ => .bad)
  | _, _ => .bad
theorem extU_calm : CalmM extU := by
  intro u us st e s'
  unfold extU
  split
  · split
    · split <;> exact fun z => nomatch z
    · exact fun z => nomatch z
  · exact fun z => nomatch z
theorem mr_ext {X : Cx} {T : Tab} : MtR X "list.extend" (okM X.K T extU) := by
  intro pins s σ H x xs v us Q I rx rv h
  obtain ⟨F, m, st, u, as, hR, q, qs, g⟩ := h
  unfold extU at g
  split at g
  · rename_i n w
    cases q with
    | c hn =>
      cases qs with
      | cons qw q0 =>
        cases q0
        split at g
        · rename_i zs ys hs hw
          split at g
          · rename_i hl
            obtain ⟨a, ho, h1, h2, h3, h4⟩ := hR.obj _ _ hs
            rw [hn] at h1
            cases h1
            obtain ⟨b, ws, e1, h5, h6⟩ := lstU_ok hR qw hw
            subst e1
            have hlt := (List.getElem?_eq_some_iff.mp hs).1
            cases h4 with
            | lst rr =>
              exact mt_extend pins s σ H _ _ v us Q I rx rv ⟨_, _, _, _, rfl, rfl, h2, h5, by rw [rr.len, h6.len, ← lim_eq]; exact hl, g F m _ _ (Same.refl _) (pre_refl _) (hR.write hlt hn (.lst (rr.app h6))) (.d .non)⟩
          · exact g.elim
        · exact g.elim
  · exact g.elim
theorem se_lm {f : U → List U → Sto → Re U} {id : String} {e : Expr} (hf : CalmM f) (slot : Slot "list" m id) (hty : typeOf (.builtin id) = pure (.type "method_descriptor")) (hm : ∀ X, B.ok X → MtR X id (okM B.G.K B.G.T f)) (ho : noSup o = true) (hs : (e :: es).all noStar = true) (hl : (e :: es).length < 30) (hp : (apos.endLine == pos.line) = true) (h : SE B o co) (ha : SA B (e :: es) cs) :
    SE B (.Call (.Attribute o m apos) (e :: es) [] pos) (cLm f co cs) := by
  intro X ok W tk
  have hs2 := hs
  rw [List.all_cons, Bool.and_eq_true] at hs2
  refine PE.imp (pe_bm PySem.F.plainAttrs_list slot hty (hm X ok) (h X ok W tk) (ha X ok W tk) (base_no ho _ _ _) (form_ok pos X.env hs hl) hp (star_of hs2.1 es X.env) (back_no pos X.env hs2.2)) ?_
  rintro σ H Q ⟨F, mm, env, st, hR, hV, g⟩
  refine ⟨F, mm, env, st, hR, hV, (goE_bind hV g).imp ?_⟩
  rintro x H1 ⟨F1, m1, st1, u, s1, q1, hR1, hV1, r1, g1⟩
  split at g1
  · rename_i hi
    obtain ⟨us, hu⟩ := Option.isSome_iff_exists.mp hi
    obtain ⟨a, vs, rfl, h2, h3⟩ := scrU_ok hR1 r1 hu
    refine ⟨.inl ⟨rfl, vs, by rw [ok.hK]; exact h2⟩, F1, m1, env, st1, hR1, hV1, (goAE_bind hV1 g1).imp ?_⟩
    rintro xs H2 ⟨F2, m2, st2, ws, s2, q2, hR2, hV2, r2, g2⟩
    exact ⟨F2, m2, st2, u, ws, hR2, r1.mono s2 q2, r2, g2.calm (hf u ws st2)⟩
  · exact g1.elim
end
end KB
/-! Errors: raised, caught. -/
namespace KB
open PySem L2

/-! ### a caught error is tracked from then on -/
theorem inv_track {X : Cx} {pins : List (Addr × Obj)} {σ : St} {H : Hp} {s : Shared} {a : Addr} {oe : Obj} {vs : Array Value} {cls : Value} {d : Option Addr} (I : Inv X pins σ H s) (ha : s.heap.get? a = some oe) (hz : Zc cls d oe) (hd : oe.data = .fields vs) (na : H a = none)
    (nL : a ≠ X.env.locals) (n0 : X.s_0.heap.get? a = none) (np : ∀ p ∈ X.pn ++ pins, p.1 ≠ a) : Inv X pins σ (upd H a (exH cls d a)) s := by
  have sm : ∀ {b : Addr} {u : HO}, H b = some u → b ≠ a := fun {b u} e => ne_of_none e na
  have n0' : ∀ {b : Addr} {o : Obj}, X.s_0.heap.get? b = some o → b ≠ a := fun {b o} e z => by
    rw [z, n0] at e
    cases e
  refine ⟨I.ok, I.os, I.bare, ⟨I.base.keep, I.base.slot, fun b o e n hx => by rw [upd_ne (n0' e)]; exact I.base.free b o e n hx, I.base.there, fun b xs e => by rw [upd_ne (sm (I.base.tups b xs e))]; exact I.base.tups b xs e, fun b o u e => by rw [upd_ne (sm (I.base.frzs b o u e))]; exact I.base.frzs b o u e, fun b ps e => ?_⟩,
    I.loc, I.cell, by rw [upd_ne (Ne.symm nL)]; exact I.free, fun x c e => ?_, fun p hp => ?_, fun b u e => ?_, I.len⟩
  · obtain ⟨more, z⟩ := I.base.tbls b ps e
    exact ⟨more, by rw [upd_ne (sm z)]; exact z⟩
  · have hc := I.freeC x c e
    have nc : c ≠ a := fun z => by
      obtain ⟨v, w, hw, hv⟩ := I.cell x c e
      rw [z, ha] at hw
      cases hw
      rw [hd] at hv
      cases hv
    rw [upd_ne nc]
    exact hc
  · obtain ⟨q1, q2, q3⟩ := I.pin p hp
    exact ⟨q1, by rw [upd_ne (np p hp)]; exact q2, q3⟩
  · by_cases hb : b = a
    · subst hb
      rw [upd_same] at e
      cases e
      exact ⟨⟨oe, vs, ha, hz, hd⟩, ⟨oe, ha⟩, fun h1 h2 ⟨o2, v2, y1, y2, y3⟩ k => ⟨o2, v2, k _ y1, y2, y3⟩⟩
    · rw [upd_ne hb] at e
      exact (I.hok b u e).stay (fun c v _ q => q) (fun c q => by rw [upd_ne (sm q)]; exact q) fun c xs q => by rw [upd_ne (sm q)]; exact q
theorem inv_suite {X : Cx} {pins : List (Addr × Obj)} {σ : St} {H : Hp} {s : Shared} (I : Inv X pins σ H s) (a : Addr) : Inv (X.suite a (X.pn ++ pins)) [] σ H s :=
  ⟨I.ok.suite _ _, I.os, I.bare, I.base, I.loc, I.cell, I.free, I.freeC, fun p hp => I.pin p (by rw [List.append_nil] at hp; exact hp), I.hok, I.len⟩
theorem inv_unsuite {X : Cx} {pins pn' : List (Addr × Obj)} {σ : St} {H : Hp} {s : Shared} {a : Addr} (I : Inv (X.suite a (X.pn ++ pins)) pn' σ H s) (ok : X.Ok) : Inv X pins σ H s :=
  ⟨ok, I.os, I.bare, I.base, I.loc, I.cell, I.free, I.freeC, fun p hp => I.pin p (List.mem_append_left _ hp), I.hok, I.len⟩
/-- what the clause 'except x as n' wishes: the error is kept -/
def wAsT (K : PySem.W.Frag) (c : Value) (i : Nat) (ts : TS) (Wout : WX) (D : Ends) : WX := fun cls d σ H =>
  ∃ b, PySem.W.exmOne K cls c = some b ∧ (b = true → ∀ a, H a = none → ts { nx := fun σ' H' => D.nx (σ'.set i none) H', rt := D.rt, bk := fun σ' H' => D.bk (σ'.set i none) H', ct := fun σ' H' => D.ct (σ'.set i none) H' } (σ.set i (some (.ref a))) (upd H a (exH cls d a))) ∧
    (b = false → Wout cls d σ H)
section
variable {X : Cx} {x n : Str} {c : Value} {i : Nat} {body suite : List Stmt} {b₀ : Stmt} {np pos pos' : Pos} {tb : WX → TS} {ts : TS} {Wout : WX}
theorem ps_try_asT (hex : X.ex = []) (hs : X.stack = X.env :: X.outer) (hf : X.env.frame = some X.env.locals) (hN : X.N.Nodup) (hi : X.N[i]? = some n) (hln : X.env.kindOf n = some .local) (hc : Names X x c) (tk : Takes X Wout)
    (hb : ∀ (W : WX) (pn : List (Addr × Obj)) (xe : Value → Shared → Prop), Takes (X.tr pn xe) W → PassesOwn (model X.prog X.w) X.A X.env xe → PSs (X.tr pn xe) body (tb W))
    (hsu : ∀ (a : Addr) (pn : List (Addr × Obj)), PSs (X.suite a pn) (b₀ :: suite) ts) :
    PS X (.Try body [.ExceptHandler (some (.Name x np)) (some n) (b₀ :: suite) pos'] [] [] pos) (fun D σ H => tb (wAsT X.K c i ts Wout D) D σ H) := by
  refine ⟨fun pins s σ H D I h => ?_⟩
  have ok := I.ok
  have hfr : X.A.frames = some (X.env :: X.outer) := by rw [ok.frames, hs]
  have hloc : Loc X.env.scope n := .inl hln
  refine wpAny_Try_except ?_
  refine wpAny_mono ((hb (wAsT X.K c i ts Wout D) (X.pn ++ pins) (fun e s₁ => wpAny (model X.prog X.w) X.A (noteFrame e X.env) (fun _ s₂ => wpAny (model X.prog X.w) X.A (setFlight e none) (fun _ s₃ =>
    wpAny (model X.prog X.w) X.A (handleBy e X.env [.ExceptHandler (some (.Name x np)) (some n) (b₀ :: suite) pos']) (L2.SP X pins D) X.xe s₃) X.xe s₂) X.xe s₁) (fun u s' xx => ?_) PassesOwn.looking).run [] s σ H D (I.toTry _) h) (fun f s1 hsp => ?_) (fun e s1 he => he)
  · -- the catch
    obtain ⟨a, B, sI, pins', σ', H', cls, d, rfl, J', nb, up, sky, na, os, ag, b, hb1, hyes, hno⟩ := xx
    have J : Inv X pins σ' H' sI := J'.ofTry ok
    have sky' : Sky B (X.env :: X.outer) a (Zc cls d) X.env.locals s'.heap := by rw [← hs]; exact sky
    have hBa : B.get? a = none := by
      rcases sky with q | q | q
      · exact q.2.1
      · exact q.2.1
      · exact q.2.1
    show wpAny (model X.prog X.w) X.A (noteFrame (.ref a) X.env) _ _ _
    refine Sky.land Zc.steady hfr hf sky' fun h3 fl3 up3 => ?_
    have J3 : Inv X pins σ' H' { s' with heap := h3 } := J.landed nb fl3.1 (up.trans up3) os ag
    obtain ⟨oe3, vs3, he3, hz3, hd3⟩ := fl3.there
    have notFr : ∀ {h : Heap} {o : Obj} {vs : Array Value}, h.FunFrames B (X.env :: X.outer) → h.get? a = some o → o.data = .fields vs → a ∉ frs (X.env :: X.outer) := fun {h o vs} ff e dd hm => by
      obtain ⟨_, o', e', hnf⟩ := ff.mem hm
      rw [e] at e'; cases e'
      exact hnf _ dd
    have nfr := notFr fl3.2.2.1 he3 hd3
    have nL : a ≠ X.env.locals := fun z => nfr (List.mem_filterMap.mpr ⟨X.env, List.mem_cons_self, by rw [hf, z]⟩)
    have nF : a ∉ X.fs := fun hm => by
      obtain ⟨e, he, q⟩ := List.mem_filterMap.mp hm
      exact nfr (List.mem_filterMap.mpr ⟨e, List.mem_cons_of_mem _ he, q⟩)
    have nsI : sI.heap.get? a = none := by
      cases q : sI.heap.get? a with
      | none => rfl
      | some o =>
        have z := nb a o q (by rw [hs]; exact nfr)
        rw [hBa] at z
        cases z
    have n0 : X.s_0.heap.get? a = none := by
      cases q : X.s_0.heap.get? a with
      | none => rfl
      | some o =>
        obtain ⟨o', z⟩ := J.base.there a o q (by rw [hex]; simp)
        rw [nsI] at z
        cases z
    have npi : ∀ p ∈ X.pn ++ pins, p.1 ≠ a := fun p hp z => by
      have q := (J.pin p hp).1
      rw [z, nsI] at q
      cases q
    have S3 := J3.suite he3 hd3 na nL nF
    refine wpAny_handleBy_cons (codeAny_handlers_test ?_) (by intro q; cases q)
    have LT : PySem.W.Looks (model X.prog X.w) h3 (typeOf (.ref a)) cls := fun A Q E s k q => wpAny_typeOf_ref (k _ _ he3) (by rw [hz3.1]; exact q)
    have LM := PySem.W.exm_one (M := model X.prog X.w) (J3.kIn) LT hb1
    have test : ∀ {Q : Value → Shared → Prop} {E : Value → Shared → Prop}, Q c { s' with heap := h3 } → wpAny (model X.prog X.w) (X.A.mark (some (.ref a))) (eval (.Name x np) X.env) Q E { s' with heap := h3 } := fun {Q E} q => by
      obtain ⟨hg, hdbg, hm | ⟨hm, hv, hnn⟩⟩ := hc
      · exact ld_glob (X := X.suite a ((a, oe3) :: (X.pn ++ pins))) S3 hg hm q hdbg
      · exact ld_blt (X := X.suite a ((a, oe3) :: (X.pn ++ pins))) S3 hg hm hv q hnn hdbg
    refine test (LM.here ?_)
    cases b with
    | true =>
      refine codeAny_handlers_suite_as ?_
      refine HandSPX.lands_againZ fl3 fun h4 fl4 up4 => ?_
      have J4 : Inv X pins σ' H' { s' with heap := h4 } := J.landed nb fl4.1 ((up.trans up3).trans up4) os ag
      obtain ⟨oe4, vs4, he4, hz4, hd4⟩ := fl4.there
      have T4 := inv_suite (inv_track J4 he4 hz4 hd4 na nL n0 npi) a
      refine store_ok (X := X.suite a (X.pn ++ pins)) (v := .ref a) T4 hN hi hloc rfl (fun s5 S5 => ?_) (.inr hln)
      refine wpAny_mono ((hsu a (X.pn ++ pins)).run [] s5 _ _ _ S5 (hyes rfl a na)) (fun f s6 hsp => ?_) (fun _ _ z => False.elim z)
      have end_ : ∀ {σ6 : St} {H6 : Hp} {Q : Shared → Prop}, Inv (X.suite a (X.pn ++ pins)) [] σ6 H6 s6 → (∀ s7, Inv X pins (σ6.set i none) H6 s7 → Q s7) →
          wpAny (model X.prog X.w) X.A (do bindName X.env n .none; unbindBehindTheSuite X.env n pos') (fun _ s7 => Q s7) X.xe s6 := fun {σ6 H6 Q} S6 hq => gone_ok (inv_unsuite S6 ok) hN hi hln hq
      cases f with
      | next =>
        obtain ⟨σ6, H6, S6, q6⟩ := hsp
        exact end_ S6 fun s7 J7 => ⟨_, _, J7, q6⟩
      | brk =>
        obtain ⟨σ6, H6, S6, q6⟩ := hsp
        exact end_ S6 fun s7 J7 => ⟨_, _, J7, q6⟩
      | cont =>
        obtain ⟨σ6, H6, S6, q6⟩ := hsp
        exact end_ S6 fun s7 J7 => ⟨_, _, J7, q6⟩
      | ret u =>
        obtain ⟨v6, σ6, H6, S6, r6, q6⟩ := hsp
        exact end_ S6 fun s7 J7 => ⟨_, _, _, J7, r6, q6⟩
    | false =>
      show wpAny _ X.A (handleBy (.ref a) X.env []) _ _ _
      refine wpAny_handleBy_nil ?_
      obtain ⟨k1, k2, k3, oe, vs, T, oT, ts', he, hz, hd, h1, hr⟩ := id fl3
      unfold PySem.passOn
      refine wpAny_bind (wpAny_field he hd h1 ?_)
      rw [if_neg (show ¬ ((Value.ref T == Value.none) = true) from by simp)]
      have fin : wpAny (model X.prog X.w) X.A (setFlight (.ref a) X.env.frame) (fun _ s4 => wpAny (model X.prog X.w) X.A (throw (.ref a) : Sem Flow) (L2.SP X pins D) X.xe s4) X.xe { s' with heap := h3 } := by
        rw [hf]
        refine HandSPX.setFlight_upZ fl3 fun h4 hh4 up4 => wpAny_throw (tk _ _ ?_)
        exact ⟨a, B, sI, pins, σ', H', cls, d, rfl, J, nb, (up.trans up3).trans up4, .inr (.inr (by rw [hs]; exact hh4)), na, os, ag, hno rfl⟩
      first
        | exact wpAny_bind (wpAny_pure (wpAny_bind fin))
        | exact wpAny_bind fin
  · cases f with
    | next =>
      obtain ⟨σ', H', J', q⟩ := hsp
      exact wpAny_execs_nil ⟨σ', H', J'.ofTry ok, q⟩
    | brk =>
      obtain ⟨σ', H', J', q⟩ := hsp
      exact ⟨σ', H', J'.ofTry ok, q⟩
    | cont =>
      obtain ⟨σ', H', J', q⟩ := hsp
      exact ⟨σ', H', J'.ofTry ok, q⟩
    | ret u =>
      obtain ⟨v, σ', H', J', r, q⟩ := hsp
      exact ⟨v, σ', H', J'.ofTry ok, r, q⟩
end

/-! ### raise -/
def sRaiseC (c : Nat) : MS := fun env st => .exc ⟨c, [], []⟩ env st
def sRaiseO (c f : Nat) (ce : ME) : MS := sVal ce fun u env st => match u with
  | .d (.int i) => if i.natAbs.log2 < 1920 then .exc ⟨c, [f], [.int i]⟩ env st else .bad
  | _ => .bad
/-- what is known of a class of errors without own __init__ -/
structure ErrC (K : PySem.W.Frag) (C : Addr) : Prop where
  q : PySem.W.excIn K C PySem.HandSPX.veTail "ValueError.__new__" = true
  kp : PySem.W.keepIn K (.ref C) = true
  sb : PySem.W.subIn K (.ref C) (.type "BaseException") = some true
  ty : PySem.W.typeIn K (.ref C) = some (.type "type")
section
variable {B : Blk} {x m : Str} {j c : Nat} {p p2 pos pos' : Pos}
theorem ss_raiseC (hg : glb B x) (hm : B.G.mg x = some (.ref (B.G.T.cls c))) (hdb : (x == ("__debug__" : Str)) = false) (hk : ErrC B.G.K (B.G.T.cls c)) :
    SS B (.Raise (some (.Call (.Name x p) [.Constant (.str m) j p2] [] pos)) none pos') (sRaiseC c) := by
  intro X ok W tk
  have hk' := hk
  rw [← ok.hK] at hk'
  refine PS.imp (ps_raise ok.calm tk (pmk_own F.excBase_ValueError hk'.q (by rw [ok.hmg]; exact hm) hk'.kp (raises_own hk'.sb hk'.ty) (glb_ok hg ok) hdb)) ?_
  rintro Z σ H ⟨F, m, env, st, hR, hV, g⟩
  exact g F m H σ _ none (Same.refl _) (pre_refl _) hR hV ⟨rfl, [], .inl ⟨rfl, rfl, rfl⟩, .nil, fun a e => nomatch e⟩
end
/-! __init__ of an own class of errors: Base.__init__(self, f".."); self.f = x -/
def spI (K : PySem.W.Frag) (f : Str) : Sp := fun vs H Q _ => ∃ (a C : Addr) (i : Int), vs = [.ref a, .int i] ∧ i.natAbs.log2 < 1920 ∧ OexC K C ∧ PySem.W.findIn K (.ref C) f = some none ∧ H a = some (exo a C none) ∧
  ∀ dx, H dx = none → dx ≠ a → Q .non (upd (upd H dx (exd dx [(f, .int i)])) a (exo a C (some dx)))
structure BaseI (K : PySem.W.Frag) (C : Addr) : Prop where
  rd : PySem.W.readsIn K C (.type "type") = true
  ga : PySem.W.specialIn K (.ref C) "__getattribute__" = some (some (.builtin "type.__getattribute__"))
  at_ : PySem.W.findCls K (.ref C) (.type "type") "__init__" = some (.val (.builtin "ValueError.__init__"))
theorem pe_cinit {X : Cx} {cb : Str} {Cb : Addr} {e : Expr} {es : List Expr} {ta : TA} {p1 p2 pos : Pos} (hg : Gl X cb) (hm : X.mg cb = some (.ref Cb)) (hdb : (cb == ("__debug__" : Str)) = false) (b : BaseI X.K Cb) (ha : PA X (e :: es) ta)
    (hs : (e :: es).all noStar = true) (hl : (e :: es).length < 30) (hp : (p2.endLine == pos.line) = true) : PE X (.Call (.Attribute (.Name cb p1) "__init__" p2) (e :: es) [] pos) (tVeI X.K ta) := by
  refine ⟨fun pins s σ H Q I h => ?_⟩
  refine PySem.W.methodCall_KW (pl := L2.plainOf (.Name cb p1) X.env) (ld_glob I hg hm ?_ hdb) (mcall_eq rfl hs hl hp)
  refine PySem.W.method_cls I.kIn b.ga (PySem.W.cls_value I.kIn b.rd b.at_ rfl ?_)
  rw [List.all_cons, Bool.and_eq_true] at hs
  refine PyProof.Rows.callWith_method1 (thn (ha.run pos pins _ σ H _ (I.tok _) h) fun us s1 ⟨vs, H1, I1, r1, a, C, ws, ev, hl, T, ea, q⟩ => ?_) (star_of hs.1 es X.env) (back_no pos X.env hs.2)
  subst ev
  cases r1 with
  | @cons _ u0 _ ur ra rw' =>
    obtain rfl : u0 = Value.ref a := ra
    have hlen : ur.length ≤ sizeLine := by
      rw [← Paired.length rw', sizeLine_eq]
      omega
    exact oinit_ok T I1 ea hlen fun s' J => ⟨.non, H1, J, rfl, q⟩

theorem spI_len {K : PySem.W.Frag} {f : Str} : ∀ vs H Q E, spI K f vs H Q E → vs.length = 2 := by
  rintro vs H Q E ⟨a, C, i, rfl, _⟩
  rfl
/-- the def's body as it must stand -/
structure InitF (body : List Stmt) (cb z x f : Str) : Prop where
  ex : ∃ (p1 p2 p3 p4 p5 p6 p7 p8 p9 p10 p11 p12 p13 : Pos) (j : Nat), (p2.endLine == p8.line) = true ∧ body = [.Expr (.Call (.Attribute (.Name cb p1) "__init__" p2) [.Name "self" p3, .JoinedStr [.Constant (.str z) j p4, .FormattedValue (.Name x p5) (-1) none p6] p7] [] p8) p9,
    .Assign [.Attribute (.Name "self" p10) f p11] (.Name x p12) p13]
def initFB : List Stmt → Option (Str × Str × Str × Str)
  | [.Expr (.Call (.Attribute (.Name cb _) m p2) [.Name s1 _, .JoinedStr [.Constant (.str z) _ _, .FormattedValue (.Name x _) c none _] _] [] p8) _, .Assign [.Attribute (.Name s2 _) f _] (.Name x2 _) _] =>
    if m = "__init__" ∧ s1 = "self" ∧ s2 = "self" ∧ x2 = x ∧ c = -1 ∧ (p2.endLine == p8.line) = true then some (cb, z, x, f) else none
  | _ => none
theorem initF_of {body : List Stmt} {cb z x f : Str} (h : initFB body = some (cb, z, x, f)) : InitF body cb z x f := by
  unfold initFB at h
  split at h
  · split at h
    · rename_i hc
      obtain ⟨rfl, rfl, rfl, rfl, rfl, hp⟩ := hc
      cases h
      exact ⟨_, _, _, _, _, _, _, _, _, _, _, _, _, _, hp, rfl⟩
    · cases h
  · cases h
theorem init_fn {CX : CXT} {P : Program} {w : World} {K : PySem.W.Frag} {mg : Str → Option Value} {base : Heap} {k : Nat} {fI Cb : Addr} {fd : FuncData} {qual cb z x f : Str} {st : Stmt} (F : L2.Fun K "__init__" qual st fI fd) (S : FnScope ["self", x] ["self", x] (defScope st)) (hb : InitF (defBody st) cb z x f)
    (hg : (defScope st).names.lookup cb = some .globalImplicit) (hm : mg cb = some (.ref Cb)) (hdb : (cb == ("__debug__" : Str)) = false) (hx1 : (x == ("__debug__" : Str)) = false) (hx2 : (x == ("__classdict__" : Str)) = false) (b : BaseI K Cb) (hz : z.length ≤ 1000) :
    FnOk P w K mg base CX (k + 1) fI fd ["self", x] (spI K f) := by
  obtain ⟨oc, od, kV, doc, pm, an, cdv, ct, osl, rfl, lk, hcd⟩ := F.ex
  refine fn_of lk hcd S spI_len fun A outer s H vs Q E hr hsp => ?_
  obtain ⟨a, C, i, rfl, hi, T, hno, ha, hq⟩ := hsp
  obtain ⟨p1, p2, p3, p4, p5, p6, p7, p8, p9, p10, p11, p12, p13, j, hp, hbd⟩ := hb.ex
  rw [hbd]
  have vs_ : Vis (defScope st) "self" := by
    rcases S.par "self" (List.mem_cons_self ..) with h | h
    · exact .inl h
    · exact .inr (.inl h)
  have vx_ : Vis (defScope st) x := by
    rcases S.par x (List.mem_cons_of_mem _ (List.mem_cons_self ..)) with h | h
    · exact .inl h
    · exact .inr (.inl h)
  obtain ⟨X, hX⟩ : ∃ X, X = cxOf CX P w K mg base ["self", x] qual (defScope st) fI cdv A outer s H E := ⟨_, rfl⟩
  have e1 : PE X (.Name "self" p3) _ := pe_var (i := 0) (pos := p3) (by subst hX; rfl) (by subst hX; exact vs_) (by decide +kernel) (by decide +kernel)
  have e2 : PE X (.Name "self" p10) _ := pe_var (i := 0) (pos := p10) (by subst hX; rfl) (by subst hX; exact vs_) (by decide +kernel) (by decide +kernel)
  have e3 : PE X (.Name x p5) _ := pe_var (i := 1) (pos := p5) (by subst hX; rfl) (by subst hX; exact vx_) hx1 hx2
  have e4 : PE X (.Name x p12) _ := pe_var (i := 1) (pos := p12) (by subst hX; rfl) (by subst hX; exact vx_) hx1 hx2
  have hg' : Gl X cb := by
    subst hX
    exact hg
  have hm' : X.mg cb = some (.ref Cb) := by
    subst hX
    exact hm
  have b' : BaseI X.K Cb := by
    subst hX
    exact b
  have c1 := pe_cinit (p1 := p1) (p2 := p2) (pos := p8) hg' hm' hdb b' (pa_cons e1 (pa_cons (pe_joined (pos := p7) (.cons (pe_str (x := z) (j := j) (pos := p4)) (.cons (pe_fmt (pos := p6) e3) .nil))) pa_nil rfl) rfl) rfl (by show 2 < 30; decide) hp
  have s1 := ps_expr (pos := p9) c1
  have s2 := ps_ost (pos := p13) (p' := p11) (f := f) e2 e4
  have hs := pss_cons s1 (pss_one s2)
  subst hX
  refine ⟨_, hs, ?_⟩
  have len : (Str.ofString (toString i)).length ≤ 1921 := by
    have e := int_text_length_le (k := 1920) (by decide) hi
    rw [ofString_length]
    omega
  have len2 : z.length + (Str.ofString (toString i)).length ≤ sizeLine := by
    rw [sizeLine_eq]
    omega
  have l1 : (Str.empty ++ z).length ≤ sizeLine := by
    rw [Str.empty_append, sizeLine_eq]
    omega
  have l2 : (Str.empty ++ z ++ (toString i : Str)).length ≤ sizeLine := by
    rw [Str.empty_append, Str.length_append]
    exact len2
  refine ⟨.ref a, rfl, ?_⟩
  show tJs _ _ _ _ _
  refine ⟨z, rfl, l1, .int i, rfl, .inr ⟨i, rfl, hi, (toString i : Str), rfl, l2, ?_⟩⟩
  refine ⟨a, C, [.str _], rfl, by show 1 ≤ 1000; decide, T, ha, ?_⟩
  refine ⟨.int i, rfl, .ref a, rfl, a, C, rfl, T, hno, .inl ⟨ha, fun dx h1 h2 => ?_⟩⟩
  exact hq dx h1 h2

/-! raise C(e), C with such an __init__ -/
structure InitOk (G : Glo) (k : Nat) (c f : Nat) : Prop where
  cl : OexC G.K (G.T.cls c)
  no : PySem.W.findIn G.K (.ref (G.T.cls c)) (G.T.att f) = some none
  ex : ∃ fI fd x, PySem.W.findIn G.K (.ref (G.T.cls c)) "__init__" = some (some (.ref fI)) ∧ PySem.W.typeIn G.K (.ref fI) = some (.type "function") ∧ FnOk G.P G.w G.K G.mg G.base (L2.CX G.P G.w) k fI fd ["self", x] (spI G.K (G.T.att f)) ∧ Binds G.K fd ["self", x] []
theorem ss_raiseO {B : Blk} {x : Str} {e : Expr} {ce : ME} {c f k : Nat} {p pos pos' : Pos} (ik : InitOk B.G k c f) (hk : k + 1 ≤ B.k) (hg : glb B x) (hm : B.G.mg x = some (.ref (B.G.T.cls c))) (hdb : (x == ("__debug__" : Str)) = false) (hs : noStar e = true) (he : SE B e ce) :
    SS B (.Raise (some (.Call (.Name x p) [e] [] pos)) none pos') (sRaiseO c f ce) := by
  intro X ok W tk
  obtain ⟨fI, fd, xx, i1, i2, Fn, bd⟩ := ik.ex
  have T : OexC X.K (B.G.T.cls c) := by rw [ok.hK]; exact ik.cl
  have Fn' : FnOk X.prog X.w X.K X.mg X.base (L2.CX B.G.P B.G.w) k fI fd ["self", xx] (spI B.G.K (B.G.T.att f)) := by
    rw [ok.hP, ok.hw, ok.hK, ok.hmg, ok.hbase]
    exact Fn
  have pa := pa_cons (es := []) (he X ok W tk) (pa_nil (X := X)) (star_of hs [] X.env)
  have mk := pmk_oex (p := p) (pos := pos) (es := []) T (by rw [ok.hK]; exact i1) (by rw [ok.hK]; exact i2) Fn' (ok.room.mono hk) (by rw [ok.hK]; exact bd) (dvs := []) .nil
    (fun pins σ H s e s' I ⟨a, B, H', cls, d, _, _, _, _, _, _, _, z⟩ => z.elim) (glb_ok hg ok) (by rw [ok.hmg]; exact hm) pa hdb (star_of hs [] X.env) (back_no pos X.env rfl)
  refine PS.imp (ps_raise ok.calm tk mk) ?_
  rintro Z σ H ⟨F, m, env, st, hR, hV, g⟩
  refine ⟨F, m, env, st, hR, hV, (goES hV g).imp ?_⟩
  rintro v H1 ⟨F1, m1, st1, u, s1, q1, hR1, hV1, r1, g1⟩
  split at g1
  · rename_i i
    split at g1
    · rename_i hi
      cases r1 with
      | d r1 =>
        cases r1
        refine ⟨by show 1 ≤ 1000; decide, fun a ha => ⟨a, _, i, rfl, hi, ik.cl, ik.no, upd_same, fun dx h1 h2 => ?_⟩⟩
        have h3 : H1 dx = none := by
          rw [upd_ne h2] at h1
          exact h1
        refine ⟨rfl, dx, _, upd_same, by rw [upd_ne h2, upd_same], h3, ?_⟩
        have e2 : upd (del (upd (upd (upd H1 a (exo a (B.G.T.cls c) none)) dx (exd dx [(B.G.T.att f, .int i)])) a (exo a (B.G.T.cls c) (some dx))) a) dx (.xd [(B.G.T.att f, .int i)]) = upd H1 dx (.xd [(B.G.T.att f, .int i)]) := by
          funext b
          by_cases hb : b = dx
          · rw [hb, upd_same, upd_same]
          · rw [upd_ne hb, upd_ne hb]
            by_cases hba : b = a
            · rw [hba, del_same, ha]
            · rw [del_ne hba, upd_ne hba, upd_ne hb, upd_ne hba]
        rw [e2]
        exact g1 F1 m1 _ σ _ (some dx) (Same.refl _) (pre_refl _) (hR1.beside h3 _) hV1 ⟨rfl, [.int i], .inr ⟨dx, rfl, upd_same, rfl⟩, .cons (.int i) .nil, fun b eb => by cases eb; exact hR1.free h3⟩
    · exact g1.elim
  · exact g1.elim

/-! ### try -/
/-- what an except suite does: no loops, no calls -/
def SH (B : Blk) (ss : List Stmt) (c : MS) : Prop := ∀ X, B.ok X → ∀ (a : Addr) (pn : List (Addr × Obj)), PSs (X.suite a pn) ss (okS B.G.K B.G.T W0 c)
section
variable {B : Blk} {x y : Str} {z : Const} {i j : Nat} {d : D} {p p1 p2 pos : Pos}
theorem sh_set {e : Expr} {c : ME} (hi : B.N[i]? = some x) (hs : stor B x) (h : ∀ X, B.ok X → ∀ (a : Addr) (pn : List (Addr × Obj)), PE (X.suite a pn) e (okE B.G.K B.G.T W0 c)) (hn : noComp e = true) : SH B [.Assign [.Name x p1] e pos] (sSeq (sAsg (.nm i) c) sNil) := by
  intro X ok a pn
  have hN : (X.suite a pn).N.Nodup := by
    show X.N.Nodup
    rw [ok.hN]
    exact ok.nd
  have hx : Loc X.env.scope x ∧ (X.fn x = true ∨ X.env.scope.names.lookup x = some .local) := by
    rcases hs with z | ⟨z, y⟩
    · exact ⟨.inl (by rw [ok.hsc]; exact z), .inr (by rw [ok.hsc]; exact z)⟩
    · exact ⟨.inr (by rw [ok.hsc]; exact y), .inl (ok.fn z x)⟩
  refine PSs.imp (pss_one (ps_set (X := X.suite a pn) (i := i) hN (by show X.N[i]? = _; rw [ok.hN]; exact hi) hx.1 (h X ok a pn) (swaps_no hn _ _ _) hx.2)) ?_
  rintro Z σ H ⟨F, m, env, st, hR, hV, g⟩
  refine ⟨F, m, env, st, hR, hV, ?_⟩
  have g' : GoS B.G.K B.G.T W0 F m (sVal c (fun u env st => .ok .nx (env.set i (some u)) st) env st) Z := by
    unfold sSeq sAsg at g
    unfold sVal at g ⊢
    cases e1 : c env st with
    | ok u st' =>
      rw [e1] at g
      exact g
    | exc e st' =>
      rw [e1] at g
      exact g
    | bad =>
      rw [e1] at g
      exact g
  refine (goES hV g').imp ?_
  rintro y H1 ⟨F1, m1, st1, u, s1, p1, hR1, hV1, q1, g1⟩
  exact g1 F1 m1 H1 _ (Same.refl _) (pre_refl _) hR1 (hV1.set q1 i)
theorem sh_none {j : Nat} (hi : B.N[i]? = some x) (hs : stor B x) : SH B [.Assign [.Name x p1] (.Constant .none j p2) pos] (sSeq (sAsg (.nm i) (cPure (.d .non))) sNil) :=
  sh_set hi hs (fun X ok a pn => PE.imp pe_non fun σ H Q ⟨F, m, env, st, hR, hV, g⟩ => g F m H .non (Same.refl _) (pre_refl _) hR (.d .non)) rfl
theorem sh_var (hi : B.N[i]? = some x) (hs : stor B x) (hN : B.N[j]? = some y) (hv : Vis B.sc y) (hd : (y == ("__debug__" : Str)) = false) (hcd : (y == ("__classdict__" : Str)) = false) :
    SH B [.Assign [.Name x p1] (.Name y p2) pos] (sSeq (sAsg (.nm i) (cVar j)) sNil) := by
  refine sh_set hi hs (fun X ok a pn => PE.imp (pe_var (X := X.suite a pn) (i := j) (by show X.N[j]? = _; rw [ok.hN]; exact hN) (by show Vis X.env.scope y; rw [ok.hsc]; exact hv) hd hcd) ?_) rfl
  rintro σ H Q ⟨F, m, env, st, hR, hV, g⟩
  unfold cVar at g
  split at g
  · rename_i u e
    obtain ⟨v, h1, h2⟩ := hV.at_ j u e
    exact ⟨v, h1, g F m H v (Same.refl _) (pre_refl _) hR h2⟩
  · exact g.elim
theorem sh_retN {j : Nat} : SH B [.Return (some (.Constant .none j p)) pos] (sSeq (sRet (cPure (.d .non))) sNil) := by
  intro X ok a pn
  refine PSs.imp (pss_one (ps_ret (X := X.suite a pn) pe_non)) ?_
  rintro Z σ H ⟨F, m, env, st, hR, hV, g⟩
  exact g F m H .non (Same.refl _) (pre_refl _) hR (.d .non)
end
abbrev Exms := List (Nat × Cl × Bool)
def lookX (ks : Exms) (c : Nat) (k : Cl) : Option Bool := (ks.find? fun x => decide (x.1 = c) && decide (x.2.1 = k)).map (·.2.2)
def ExmOk (K : PySem.W.Frag) (T : Tab) (ks : Exms) : Prop := ∀ x ∈ ks, PySem.W.exmOne K (.ref (T.cls x.1)) (clV T x.2.1) = some x.2.2
theorem lookX_ok {K : PySem.W.Frag} {T : Tab} {ks : Exms} (h : ExmOk K T ks) {c : Nat} {k : Cl} {b : Bool} (e : lookX ks c k = some b) : PySem.W.exmOne K (.ref (T.cls c)) (clV T k) = some b := by
  unfold lookX at e
  obtain ⟨x, hx, hb⟩ := Option.map_eq_some_iff.mp e
  have h1 := List.find?_some hx
  rw [Bool.and_eq_true, decide_eq_true_iff, decide_eq_true_iff] at h1
  have h2 := h x (List.mem_of_find?_eq_some hx)
  rw [h1.1, h1.2, hb] at h2
  exact h2
def noX : Rs → Rs
  | .exc _ _ _ => .bad
  | r => r
theorem noX_go {K : PySem.W.Frag} {T : Tab} {W W' : WX} {F : Hp} {m : List Addr} {Z : Ends} {r : Rs} (g : GoS K T W F m (noX r) Z) : GoS K T W' F m r Z := by
  cases r with
  | ok f e s => cases f <;> exact g
  | exc x e s => exact g.elim
  | bad => exact g
def sTry (ks : Exms) (k : Cl) (body h : MS) : MS := fun env st => match body env st with
  | .exc x e s => (match lookX ks x.c k with
    | some true => noX (h e s)
    | some false => .exc x e s
    | none => .bad)
  | r => r
def unsetR (i : Nat) : Rs → Rs
  | .ok f e s => .ok f (e.set i none) s
  | _ => .bad
def sTryAs (ks : Exms) (k : Cl) (i : Nat) (body h : MS) : MS := fun env st => match body env st with
  | .exc x e s => (match lookX ks x.c k with
    | some true => unsetR i (h (e.set i (some (.d (.exc x.c x.fs x.xs)))) s)
    | some false => .exc x e s
    | none => .bad)
  | r => r
theorem Okc.tr {G : Glo} {N : List Str} {sc : Scope} {k : Nat} {top : Bool} {X : Cx} (ok : Okc G N sc k top X) (pn : List (Addr × Obj)) (xe : Value → Shared → Prop) (h : PassesOwn (model X.prog X.w) X.A X.env xe) : Okc G N sc k top (X.tr pn xe) :=
  ⟨ok.hP, ok.hw, ok.hK, ok.hmg, ok.hbase, ok.hN, ok.nd, ok.hsc, ok.room, ok.grd, ok.calm, h, ok.fn, ok.ex, ok.stk⟩
/-- the class that is named -/
def NmOk (B : Blk) (x : Str) (k : Cl) : Prop := glb B x ∧ (x == ("__debug__" : Str)) = false ∧ ((∃ i, k = .own i ∧ B.G.mg x = some (.ref (B.G.T.cls i))) ∨ (∃ n, k = .ty n ∧ B.G.mg x = none ∧ bootBuiltins x = some (.type n) ∧ x ≠ "__name__"))
theorem nmOk_names {B : Blk} {x : Str} {k : Cl} (h : NmOk B x k) {X : Cx} (ok : B.ok X) : Names X x (clV B.G.T k) := by
  obtain ⟨h1, h2, h3⟩ := h
  refine ⟨glb_ok h1 ok, h2, ?_⟩
  rcases h3 with ⟨i, rfl, h3⟩ | ⟨n, rfl, h3, h4, h5⟩
  · exact .inl (by rw [ok.hmg]; exact h3)
  · exact .inr ⟨by rw [ok.hmg]; exact h3, h4, h5⟩
section
variable {B : Blk} {x n : Str} {ks : Exms} {k : Cl} {i : Nat} {body suite : List Stmt} {b₀ : Stmt} {cb ch : MS} {np pos pos' : Pos}
theorem try_body {K : PySem.W.Frag} {T : Tab} {W W' : WX} {F : Hp} {m : List Addr} {Z : Ends} {r r' : Rs} (g : GoS K T W F m r' Z) (h1 : ∀ f e s, r = .ok f e s → r' = .ok f e s) (hb : r = .bad → r' = .bad)
    (hx : ∀ x e s, r = .exc x e s → ∀ F' m' H σ c d, Same F F' → m <+: m' → Rl K T F' m' s H → Rv K T F' m' e σ → RX K T F' H x c d → W' c d σ H) : GoS K T W' F m r Z := by
  cases r with
  | ok f e s =>
    rw [h1 f e s rfl] at g
    cases f <;> exact g
  | exc x e s => exact hx x e s rfl
  | bad =>
    rw [hb rfl] at g
    exact g
theorem ss_try (ht : B.top = true) (hx : ExmOk B.G.K B.G.T ks) (hn : NmOk B x k) (hb : SSs B body cb) (hh : SH B (b₀ :: suite) ch) :
    SS B (.Try body [.ExceptHandler (some (.Name x np)) none (b₀ :: suite) pos'] [] [] pos) (sTry ks k cb ch) := by
  intro X ok W tk
  obtain ⟨hs, hf⟩ := ok.stk ht
  refine PS.imp (ps_try_only hs hf (nmOk_names hn ok) tk (fun W' pn xe tk' po => hb _ (ok.tr pn xe po) W' tk') (fun a oe cls d pn hz hfs => hh X ok a _)) ?_
  rintro Z σ H ⟨F, m, env, st, hR, hV, g⟩
  refine ⟨F, m, env, st, hR, hV, ?_⟩
  unfold sTry at g
  refine try_body g (fun f e s z => by rw [z]) (fun z => by rw [z]) ?_
  intro ex e s z F' m' H' σ' c d s1 q1 hR1 hV1 rx
  rw [z] at g
  simp only at g
  obtain ⟨rfl, vs, hxd, rds, hfr⟩ := rx
  cases hl : lookX ks ex.c k with
  | none =>
    rw [hl] at g
    exact g.elim
  | some b =>
    rw [hl] at g
    refine ⟨b, by rw [ok.hK]; exact lookX_ok hx hl, fun eb a ha => ?_, fun eb => ?_⟩
    · subst eb
      exact ⟨F', m', e, s, hR1, hV1, noX_go (GoS.up s1 q1 g)⟩
    · subst eb
      exact g F' m' H' σ' _ d s1 q1 hR1 hV1 ⟨rfl, vs, hxd, rds, hfr⟩
theorem ss_tryAs (ht : B.top = true) (hx : ExmOk B.G.K B.G.T ks) (hn : NmOk B x k) (hi : B.N[i]? = some n) (hln : B.sc.names.lookup n = some .local) (hb : SSs B body cb) (hh : SH B (b₀ :: suite) ch) :
    SS B (.Try body [.ExceptHandler (some (.Name x np)) (some n) (b₀ :: suite) pos'] [] [] pos) (sTryAs ks k i cb ch) := by
  intro X ok W tk
  obtain ⟨hs, hf⟩ := ok.stk ht
  refine PS.imp (ps_try_asT (ok.ex ht) hs hf (by rw [ok.hN]; exact ok.nd) (by rw [ok.hN]; exact hi) (by unfold Env.kindOf; rw [ok.hsc]; exact hln) (nmOk_names hn ok) tk (fun W' pn xe tk' po => hb _ (ok.tr pn xe po) W' tk') (fun a pn => hh X ok a _)) ?_
  rintro Z σ H ⟨F, m, env, st, hR, hV, g⟩
  refine ⟨F, m, env, st, hR, hV, ?_⟩
  unfold sTryAs at g
  refine try_body g (fun f e s z => by rw [z]) (fun z => by rw [z]) ?_
  intro ex e s z F' m' H' σ' c d s1 q1 hR1 hV1 rx
  rw [z] at g
  simp only at g
  obtain ⟨rfl, vs, hxd, rds, hfr⟩ := rx
  cases hl : lookX ks ex.c k with
  | none =>
    rw [hl] at g
    exact g.elim
  | some b =>
    rw [hl] at g
    refine ⟨b, by rw [ok.hK]; exact lookX_ok hx hl, fun eb a ha => ?_, fun eb => ?_⟩
    · subst eb
      simp only at g
      -- the dict stays, the error stays
      obtain ⟨F2, sF2, hR2, hxd2, na2⟩ : ∃ F2, Same F' F2 ∧ Rl B.G.K B.G.T F2 m' s H' ∧ XdOk B.G.T F2 d ex.fs vs ∧ H' a = none := by
        rcases hxd with hxd | ⟨dd, e1, e2, e3⟩
        · exact ⟨F', Same.refl _, hR1, .inl hxd, ha⟩
        · have fd := hfr dd e1
          have nd : ∀ (j : Nat), m'[j]? ≠ some dd := fun j hj => by
            obtain ⟨hlt, _⟩ := List.getElem?_eq_some_iff.mp hj
            obtain ⟨a2, ho, y1, y2, _, y4⟩ := hR1.obj j _ (List.getElem?_eq_getElem (by rw [← hR1.len]; exact hlt))
            rw [hj] at y1
            cases y1
            rw [e2] at y2
            cases y2
            cases y4
          exact ⟨upd F' dd (.xd ((ex.fs.map B.G.T.att).zip vs)), same_upd fd, hR1.frz e2 fd nd, .inr ⟨dd, e1, upd_same, e3⟩, ha⟩
      have hR3 := hR2.froze na2 (exH (.ref (B.G.T.cls ex.c)) d a)
      have sF3 := same_upd (o := exH (.ref (B.G.T.cls ex.c)) d a) (hR2.free na2)
      have rE : RU B.G.K B.G.T (upd F2 a (exH (.ref (B.G.T.cls ex.c)) d a)) m' (.ref a) (.d (.exc ex.c ex.fs ex.xs)) := .d (.exc upd_same (hxd2.mono sF3) ((rds.mono sF2).mono sF3))
      refine ⟨_, m', _, s, hR3, ((hV1.mono sF2 (pre_refl _)).mono sF3 (pre_refl _)).set rE i, ?_⟩
      have g2 := GoS.up (s1.trans (sF2.trans sF3)) q1 g
      cases hr : ch (e.set i (some (.d (.exc ex.c ex.fs ex.xs)))) s with
      | bad =>
        rw [hr] at g2
        exact g2.elim
      | exc y e2 s2 =>
        rw [hr] at g2
        exact g2.elim
      | ok f e2 s2 =>
        rw [hr] at g2
        cases f with
        | nx => exact fun F3 m3 H3 σ3 x1 x2 x3 x4 => g2 F3 m3 H3 _ x1 x2 x3 (x4.unset i none)
        | bk => exact fun F3 m3 H3 σ3 x1 x2 x3 x4 => g2 F3 m3 H3 _ x1 x2 x3 (x4.unset i none)
        | ct => exact fun F3 m3 H3 σ3 x1 x2 x3 x4 => g2 F3 m3 H3 _ x1 x2 x3 (x4.unset i none)
        | rt u => exact g2
    · subst eb
      exact g F' m' H' σ' _ d s1 q1 hR1 hV1 ⟨rfl, vs, hxd, rds, hfr⟩
end
end KB
/-! sum of lists: the lists one behind the other. -/
namespace KB
open PySem L2
def preL (xs : Nat → List Value) (n : Nat) : List Value := (List.range n).flatMap xs
theorem preL_succ {xs : Nat → List Value} {n : Nat} : preL xs (n + 1) = preL xs n ++ xs n := by
  unfold preL
  rw [List.range_succ, List.flatMap_append]
  simp
section
variable {prog : Program} {w : World} {A : Around} {E : Value → Shared → Prop} {R : Result → Shared → Prop} {I ax S : Addr} {items : Array Value} {addr : Nat → Addr} {xs : Nat → List Value}
theorem sum_turns (hh : A.in1.handled = none) (hne : ax ≠ I) (hval : ∀ i v, items[i]? = some v → v = Value.ref (addr i)) (hSI : S ≠ I) (hSa : S ≠ ax) (hadr : ∀ j, j < items.size → addr j ≠ I ∧ addr j ≠ S)
    (hz : ∀ i, i ≤ items.size → (preL xs i).length ≤ sizeLine) :
    ∀ (k i : Nat) (s : Shared) (acc : Addr) (c ca : Nat), items.size - i = k → i ≤ items.size → (s.heap.IsListIter I ax i ∧ s.heap.IsList ax items) → s.heap.get? S = some { cls := .type "list", dict := none, data := .seq #[.ref acc] c, slots := #[] } →
    PySem.IsL s.heap acc (preL xs i).toArray ca → acc ≠ I → acc ≠ S → (∀ j, j < items.size → ∃ c, PySem.IsL s.heap (addr j) (xs j).toArray c) →
    (∀ h' tk p c', (∀ b o, b ≠ I → b ≠ S → s.heap.get? b = some o → h'.get? b = some o) → PySem.IsL h' p (preL xs items.size).toArray c' → (i < items.size → S < p) → (i = items.size → p = acc) → R (.ok (.ret (.ref p))) { s with heap := h', toks := tk }) →
    codeAny (model prog w) A (.builtin "sum.loop" ⟨[.ref I, .ref S, rawInt 2, rawInt 0], []⟩) R s := by
  have W := Walks.list (prog := prog) (w := w) (A := A.in1) hh I ax hne items
  intro k
  induction k with
  | zero =>
    intro i s acc c ca hk hi hst hS ha hI hS2 hit hR
    have hin : i = items.size := by omega
    subst hin
    refine codeAny_builtin F.entry_sum_loop ?_
    rw [Around.under_plainId F.plain_sum_loop _]
    show wpAny _ A.in1 (seqItems? (.ref S) >>= _) _ _ s
    refine wpAny_bind (wpAny_seqItems hS rfl ?_)
    show wpAny _ A.in1 (tryCatch (pyNext (.ref I)) _ >>= _) _ _ s
    refine wpAny_bind (wpAny_tryCatch (W.done s _ _ hst fun h' tk hk' => ?_))
    exact wpAny_pure (hR h' tk acc ca (fun b o hb _ e => hk' b o (by simpa using hb) e) (hk' acc _ (by simpa using hI) ha) (fun z => absurd z (Nat.lt_irrefl _)) fun _ => rfl)
  | succ k ih =>
    intro i s acc c ca hk hi hst hS ha hI hS2 hit hR
    have hlt : i < items.size := by omega
    refine codeAny_builtin F.entry_sum_loop ?_
    rw [Around.under_plainId F.plain_sum_loop _]
    show wpAny _ A.in1 (seqItems? (.ref S) >>= _) _ _ s
    refine wpAny_bind (wpAny_seqItems hS rfl ?_)
    show wpAny _ A.in1 (tryCatch (pyNext (.ref I)) _ >>= _) _ _ s
    refine wpAny_bind (wpAny_tryCatch (W.item i s _ _ hlt hst fun v h' tk hP hst' hk' => ?_))
    obtain rfl := hval i v hP
    have hkS : ∀ b o, b ≠ I → s.heap.get? b = some o → h'.get? b = some o := fun b o hb e => hk' b o (by simpa using hb) e
    have hS' := hkS S _ hSI hS
    have ha' := hkS acc _ hI ha
    obtain ⟨ci, hi'⟩ := hit i hlt
    have hi2 := hkS (addr i) _ (hadr i hlt).1 hi'
    show wpAny _ A.in1 ((holding [Value.ref (addr i)] (binaryOp .Add (.ref acc) (.ref (addr i)))).attempt >>= _) _ _ _
    refine wpAny_bind (wpAny_attempt (wpAny_holding (PySem.P.add_list ha' hi2 ?_ ?_)))
    · have lS : S < h'.objs.size := Heap.lt_size hS'
      have lI : I < h'.objs.size := by
        obtain ⟨o, e, _⟩ := hst'.1
        exact Heap.lt_size e
      show wpAny _ A.in1 (updateSeq S (fun _ => #[.ref h'.objs.size]) >>= _) _ _ _
      refine wpAny_bind ?_
      have hSp : (h'.push { cls := .type "list", data := .seq ((preL xs i).toArray ++ (xs i).toArray) }).get? S = _ := Heap.get?_push_of_some _ hS'
      refine wpAny_updateSeq hSp rfl ?_
      have hS3 := Heap.get?_update_self (Obj.mapSeq fun _ => #[Value.ref h'.objs.size]) hSp rfl
      refine wpAny_bind (wpAny_letGo ?_)
      refine wpAny_bind ?_
      have keep : ∀ b o, b ≠ S → h'.get? b = some o → (((h'.push { cls := .type "list", data := .seq ((preL xs i).toArray ++ (xs i).toArray) }).update S (Obj.mapSeq fun _ => #[Value.ref h'.objs.size])).update S (Obj.mapSeq fun _ => #[Value.ref h'.objs.size])).get? b = some o := fun b o hb e =>
        (Heap.get?_update_other _ _ (Ne.symm hb)).trans ((Heap.get?_update_other _ _ (Ne.symm hb)).trans (Heap.get?_push_of_some _ e))
      have hnew : (((h'.push { cls := .type "list", data := .seq ((preL xs i).toArray ++ (xs i).toArray) }).update S (Obj.mapSeq fun _ => #[Value.ref h'.objs.size])).update S (Obj.mapSeq fun _ => #[Value.ref h'.objs.size])).get? h'.objs.size = some { cls := .type "list", data := .seq ((preL xs i).toArray ++ (xs i).toArray) } :=
        (Heap.get?_update_other _ _ (Nat.ne_of_lt lS)).trans ((Heap.get?_update_other _ _ (Nat.ne_of_lt lS)).trans (Heap.get?_push_size _ rfl))
      have ea : (preL xs i).toArray ++ (xs i).toArray = (preL xs (i + 1)).toArray := by
        rw [preL_succ]
        simp
      refine wpAny_updateSeq hS3 rfl (wpAny_pure ⟨plainId_quiet F.plain_sum_loop _, ih (i + 1) _ h'.objs.size _ 0 (by omega) hlt ⟨hst'.1.at fun o e => keep I o (Ne.symm hSI) e, hst'.2.at fun o e => keep ax o (Ne.symm hSa) e⟩ (Heap.get?_update_self _ hS3 rfl) (by rw [← ea]; exact hnew) (Nat.ne_of_gt lI) (Nat.ne_of_gt lS) (fun j hj => ?_) fun h'' tk'' p c' hk'' hp h1 h2 => ?_⟩)
      · obtain ⟨c, e⟩ := hit j hj
        exact ⟨c, keep _ _ (hadr j hj).2 (hkS _ _ (hadr j hj).1 e)⟩
      · refine hR h'' tk'' p c' (fun b o hb hb2 e => hk'' b o hb hb2 (keep b o hb2 (hkS b o hb e))) hp (fun _ => ?_) fun z => absurd z (Nat.ne_of_lt hlt)
        by_cases z : i + 1 < items.size
        · exact h1 z
        · rw [h2 (by omega)]
          exact lS
    · have := hz (i + 1) hlt
      rw [preL_succ, List.length_append] at this
      simpa using this
theorem args_sum2 (a b : Value) : argsOk "sum" ⟨[a, b], []⟩ := by unfold argsOk; kernel_rfl
theorem sum_call {s : Shared} {l b : Addr} {n0 : Nat} {Q : Value → Shared → Prop} (hh : A.in1.handled = none) (hl : s.heap.IsList l items) (hb : PySem.IsL s.heap b #[] n0)
    (hval : ∀ i v, items[i]? = some v → v = Value.ref (addr i)) (hit : ∀ j, j < items.size → ∃ c, PySem.IsL s.heap (addr j) (xs j).toArray c) (hz : ∀ i, i ≤ items.size → (preL xs i).length ≤ sizeLine) (hn : 0 < items.size)
    (h : ∀ h' tk p c', (∀ b o, s.heap.get? b = some o → h'.get? b = some o) → s.heap.objs.size ≤ p → PySem.IsL h' p (preL xs items.size).toArray c' → Q (.ref p) { s with heap := h', toks := tk }) :
    wpAny (model prog w) A (call (.builtin "sum") [.ref l, .ref b]) Q E s := by
  refine call_function_tree F.kind_sum F.plain_sum F.entry_sum (args_sum2 _ _) ?_
  unfold Builtin.«sum»
  simp only [List.length_cons, List.length_nil]
  rw [if_neg (by decide)]
  refine wpAny_bind (wpAny_of_eq (show Builtin.Builtins.bindParams "sum" ["start"] 0 ⟨[.ref b], []⟩ = pure [some (.ref b)] from rfl) ?_)
  have hlt : l < s.heap.objs.size := by
    obtain ⟨_, e, _⟩ := hl
    exact Heap.lt_size e
  refine wpAny_bind (wpAny_pyIter_list hl ?_)
  have hb2 : (s.heap.push { cls := .type "list_iterator", data := .fields #[.ref l, .int 0 0] }).get? b = _ := Heap.get?_push_of_some _ hb
  have hlb : b < s.heap.objs.size := Heap.lt_size hb
  have tb : Shared.TypeIs { s with heap := s.heap.push { cls := .type "list_iterator", data := .fields #[.ref l, .int 0 0] } } (.ref b) "list" := ⟨_, hb2, rfl⟩
  refine wpAny_bind (wpAny_pure ?_)
  simp only [List.forIn_cons, List.forIn_nil]
  refine wpAny_bind (wpAny_bind (wpAny_bind (wpAny_isInstance (T := "list") (b := false) tb F.sub_list_str ?_)))
  simp only [Bool.false_eq_true, if_false]
  refine wpAny_pure (wpAny_bind (wpAny_bind (wpAny_isInstance (T := "list") (b := false) tb F.sub_list_bytes ?_)))
  simp only [Bool.false_eq_true, if_false]
  refine wpAny_pure (wpAny_bind (wpAny_bind (wpAny_isInstance (T := "list") (b := false) tb F.sub_list_bytearray ?_)))
  simp only [Bool.false_eq_true, if_false]
  refine wpAny_pure (wpAny_pure ?_)
  refine wpAny_bind (wpAny_newObj_type ?_)
  have hsz : (s.heap.push { cls := .type "list_iterator", data := .fields #[.ref l, .int 0 0] }).objs.size = s.heap.objs.size + 1 := by rw [Heap.size_push]
  have hadr0 : ∀ j, j < items.size → addr j < s.heap.objs.size := fun j hj => by
    obtain ⟨c, e⟩ := hit j hj
    exact Heap.lt_size e
  have keep : ∀ c o, s.heap.get? c = some o → ((s.heap.push { cls := .type "list_iterator", data := .fields #[.ref l, .int 0 0] }).push { cls := .type "list", data := .seq #[.ref b] }).get? c = some o := fun c o e => Heap.get?_push_of_some _ (Heap.get?_push_of_some _ e)
  refine wpAny_pure ⟨plainId_quiet F.plain_sum_loop _, sum_turns (A := A) (I := s.heap.objs.size) (ax := l) (S := (s.heap.push { cls := .type "list_iterator", data := .fields #[.ref l, .int 0 0] }).objs.size) hh (Nat.ne_of_lt hlt) hval (by rw [hsz]; exact Nat.succ_ne_self _) (by rw [hsz]; exact Nat.ne_of_gt (Nat.lt_succ_of_lt hlt))
    (fun j hj => ⟨Nat.ne_of_lt (hadr0 j hj), by rw [hsz]; exact Nat.ne_of_lt (Nat.lt_succ_of_lt (hadr0 j hj))⟩) hz items.size 0 _ b 0 n0 rfl (Nat.zero_le _) ⟨⟨_, Heap.get?_push_of_some _ (Heap.get?_push_size _ rfl), rfl, rfl⟩, (hl.push _).push _⟩ (Heap.get?_push_size _ rfl) (keep b _ hb) (Nat.ne_of_lt hlb) (by rw [hsz]; exact Nat.ne_of_lt (Nat.lt_succ_of_lt hlb))
    (fun j hj => by obtain ⟨c, e⟩ := hit j hj; exact ⟨c, keep _ _ e⟩) fun h' tk p c' hk hp h1 _ => ?_⟩
  refine h h' tk p c' (fun c o e => hk c o (Nat.ne_of_lt (Heap.lt_size e)) (by rw [hsz]; exact Nat.ne_of_lt (Nat.lt_succ_of_lt (Heap.lt_size e))) (keep c o e)) ?_ hp
  have := h1 hn
  rw [hsz] at this
  exact Nat.le_of_lt (Nat.lt_of_succ_lt this)
end
section
variable {X : Cx}
inductive LsOf (H : Hp) : List V → List (List V) → Prop where
  | nil : LsOf H [] []
  | cons {a : Addr} {xs : List V} {vs : List V} {xss : List (List V)} : H a = some (.lst xs) → LsOf H vs xss → LsOf H (.ref a :: vs) (xs :: xss)
theorem LsOf.at {H : Hp} : ∀ {vs : List V} {xss : List (List V)}, LsOf H vs xss → vs.length = xss.length ∧ ∀ j (h : j < vs.length), ∃ a xs, vs[j]? = some (.ref a) ∧ xss[j]? = some xs ∧ H a = some (.lst xs)
  | _, _, .nil => ⟨rfl, fun j h => by cases h⟩
  | _, _, .cons e r => by
    obtain ⟨h1, h2⟩ := r.at
    refine ⟨by simp [h1], fun j h => ?_⟩
    cases j with
    | zero => exact ⟨_, _, rfl, rfl, e⟩
    | succ j => exact h2 j (by simpa using h)
theorem vals_at {vs : List V} {us : List Value} (h : Vals vs us) : ∀ {j : Nat} {v : V}, vs[j]? = some v → ∃ u, us[j]? = some u ∧ RelV v u := by
  induction h with
  | nil => intro j v e; simp at e
  | cons r _ ih =>
    intro j v e
    cases j with
    | zero =>
      simp only [List.getElem?_cons_zero, Option.some.injEq] at e
      subst e
      exact ⟨_, rfl, r⟩
    | succ j => exact ih e
def rSumL (K : PySem.W.Frag) : List V → Hp → VK → Prop := fun vs H Q => ∃ (a b : Addr) (rs : List V) (xss : List (List V)), vs = [V.ref a, V.ref b] ∧ SqL K H a rs ∧ H b = some (.lst []) ∧ rs ≠ [] ∧ LsOf H rs xss ∧ xss.flatten.length ≤ sizeLine ∧
  ∀ p, H p = none → Q (.ref p) (upd H p (.lst xss.flatten))
theorem flat_take {xss : List (List V)} {i : Nat} : (xss.take i).flatten.length ≤ xss.flatten.length := by
  have : xss.flatten = (xss.take i).flatten ++ (xss.drop i).flatten := by rw [← List.flatten_append, List.take_append_drop]
  rw [this, List.length_append]
  omega
theorem cr_sumL (hc : X.calm = true) : CallR X (.builtin "sum") (rSumL X.K) := by
  intro pins s σ H vs us Q I r h
  obtain ⟨a, b, rs, xss, rfl, hs, hb, hne, hL, hz, q⟩ := h
  obtain ⟨its, rv, hl, _⟩ := I.list hs
  obtain ⟨_, bs, n0, rb, lb, eb⟩ := I.lstM hb
  cases rb
  obtain ⟨hlen, hat⟩ := hL.at
  have rlen := rv.length
  have ex : ∀ j, ∃ p : Addr × List Value, j < its.length → its[j]? = some (.ref p.1) ∧ (∃ c, PySem.IsL s.heap p.1 p.2.toArray c) ∧ ∃ xs, xss[j]? = some xs ∧ Vals xs p.2 := by
    intro j
    by_cases hj : j < its.length
    · obtain ⟨c, xs, e1, e2, e3⟩ := hat j (by omega)
      obtain ⟨u, e4, e5⟩ := vals_at rv e1
      cases e5
      obtain ⟨_, ys, n, f1, f2, f3⟩ := I.lstM e3
      exact ⟨(c, ys), fun _ => ⟨e4, ⟨n, f3⟩, xs, e2, f1⟩⟩
    · exact ⟨(0, []), fun z => absurd z hj⟩
  obtain ⟨f, hf⟩ : ∃ f : Nat → Addr × List Value, ∀ j, j < its.length → its[j]? = some (.ref (f j).1) ∧ (∃ c, PySem.IsL s.heap (f j).1 (f j).2.toArray c) ∧ ∃ xs, xss[j]? = some xs ∧ Vals xs (f j).2 := ⟨fun j => (ex j).choose, fun j => (ex j).choose_spec⟩
  have hv : ∀ i, i ≤ its.length → Vals (xss.take i).flatten (preL (fun j => (f j).2) i) := by
    intro i
    induction i with
    | zero => intro _; exact .nil
    | succ i ih =>
      intro hi
      obtain ⟨xs, e1, e2⟩ := (hf i hi).2.2
      rw [preL_succ, List.take_succ, e1, List.flatten_append]
      refine (ih (by omega)).append ?_
      simpa using e2
  have hq : ∀ i, i ≤ its.length → (preL (fun j => (f j).2) i).length ≤ sizeLine := fun i hi => by
    rw [← (hv i hi).length]
    exact Nat.le_trans flat_take hz
  have hall : Vals xss.flatten (preL (fun j => (f j).2) its.length) := by
    have := hv its.length (Nat.le_refl _)
    rw [List.take_of_length_le (by omega)] at this
    exact this
  rw [show us = [.ref a, .ref b] from by
    cases r with
    | cons r1 r2 =>
      cases r1
      cases r2 with
      | cons r3 r4 =>
        cases r3
        cases r4
        rfl]
  refine sum_call (items := its.toArray) (addr := fun j => (f j).1) (xs := fun j => (f j).2) (I.ok.hd hc) hl.isList eb (fun i v e => ?_) (fun j hj => (hf j hj).2.1) hq ?_ fun h' tk p c' hk hp hL' => ?_
  · have hi : i < its.length := by
      have := (Array.getElem?_eq_some_iff.mp e).1
      simpa using this
    have := (hf i hi).1
    simp only [List.getElem?_toArray] at e
    rw [e] at this
    exact Option.some.inj this
  · have : its.length ≠ 0 := by
      intro z
      rw [z] at rlen
      exact hne (List.eq_nil_of_length_eq_zero rlen)
    show 0 < its.toArray.size
    rw [List.size_toArray]
    omega
  · exact ⟨.ref p, upd H p (.lst xss.flatten), I.laid hk hp ⟨hz, _, c', hall, by simpa using hL'⟩, rfl, q p (I.hok.fresh hp)⟩
end
end KB
/-! More of the built-in functions. -/
namespace KB
open PySem L2

def iop2 (g : Int → Int → Int) : U → U → Sto → Re U := fun u w st => match u, w with
  | .d (.int i), .d (.int j) => .ok (.d (.int (g i j))) st
  | _, _ => .bad
theorem iop2_calm {g : Int → Int → Int} : Calm2 (iop2 g) := by
  intro u w st e s'
  unfold iop2
  split <;> exact fun z => nomatch z
def maxU := iop2 fun i j => if j > i then j else i
def minU := iop2 fun i j => if j < i then j else i
theorem iop2_go {K : PySem.W.Frag} {T : Tab} {g : Int → Int → Int} {x y : V} {H : Hp} {Q : VK} (h : ok2 K T (iop2 g) x y H Q) : ∃ i j, x = .int i ∧ y = .int j ∧ Q (.int (g i j)) H := by
  obtain ⟨F, m, st, u, w, hR, q1, q2, k⟩ := h
  unfold iop2 at k
  split at k
  · cases q1 with
    | d q1 =>
      cases q2 with
      | d q2 =>
        cases q1
        cases q2
        exact ⟨_, _, rfl, rfl, k F m H _ (Same.refl _) (pre_refl _) hR (.d (.int _))⟩
  · exact k.elim
section
variable {X : Cx} {T : Tab}
theorem cr_max2 (hc : X.calm = true) : CallR X (.builtin "max") (okN X.K T (list2 maxU)) := by
  intro pins s σ H xs us Q I r h
  obtain ⟨x, y, e, hq⟩ := okN_two h
  subst e
  obtain ⟨i, j, h1, h2, h3⟩ := iop2_go hq
  subst h1 h2
  exact call_max2 hc pins s σ H _ us Q I r ⟨i, j, rfl, h3⟩
theorem cr_min2 (hc : X.calm = true) : CallR X (.builtin "min") (okN X.K T (list2 minU)) := by
  intro pins s σ H xs us Q I r h
  obtain ⟨x, y, e, hq⟩ := okN_two h
  subst e
  obtain ⟨i, j, h1, h2, h3⟩ := iop2_go hq
  subst h1 h2
  exact call_min2 hc pins s σ H _ us Q I r ⟨i, j, rfl, h3⟩
end
/-- str of a whole number -/
def strU : U → Sto → Re U := fun u st => match u with
  | .d (.int i) => if i.natAbs.log2 < 1920 then .ok (.d (.str (toString i))) st else .bad
  | _ => .bad
theorem strU_calm : Calm1 strU := by
  intro u st e s'
  unfold strU
  split
  · split <;> exact fun z => nomatch z
  · exact fun z => nomatch z
/-- int of a whole number, a truth, figures -/
def intU : U → Sto → Re U := fun u st => match u with
  | .d (.int i) => .ok (.d (.int i)) st
  | .d (.bl b) => .ok (.d (.int (if b then 1 else 0))) st
  | .d (.str a) => (match PySem.intText? a with
    | some n => if a.length ≤ 640 then .ok (.d (.int n)) st else .bad
    | none => .bad)
  | _ => .bad
theorem intU_calm : Calm1 intU := by
  intro u st e s'
  unfold intU
  split
  · exact fun z => nomatch z
  · exact fun z => nomatch z
  · split
    · split <;> exact fun z => nomatch z
    · exact fun z => nomatch z
  · exact fun z => nomatch z
/-- list(..), tuple(..) of a list or a tuple -/
def listU (fz : Bool) : U → Sto → Re U := fun u st => match scrU st u, tupU u with
  | some us, _ => newL fz us st
  | none, some us => newL fz us st
  | none, none => .bad
def tupleU : U → Sto → Re U := fun u st => match scrU st u, tupU u with
  | some us, _ => newT us st
  | none, some us => .ok u st
  | none, none => .bad
theorem listU_calm {fz : Bool} : Calm1 (listU fz) := by
  intro u st e s'
  unfold listU
  split
  · exact newL_calm e s'
  · exact newL_calm e s'
  · exact fun z => nomatch z
theorem tupleU_calm : Calm1 tupleU := by
  intro u st e s'
  unfold tupleU
  split
  · exact newT_calm e s'
  · exact fun z => nomatch z
  · exact fun z => nomatch z
/-- sum of whole numbers -/
def intsU : List U → Option (List Int)
  | [] => some []
  | .d (.int i) :: us => (intsU us).map (i :: ·)
  | _ => none
theorem intsU_ok {K : PySem.W.Frag} {T : Tab} {F : Hp} {m : List Addr} : ∀ {us : List U} {vs : List V} {ns : List Int}, RUs K T F m vs us → intsU us = some ns → vs = ns.map V.int
  | _, _, _, .nil, e => by
    simp only [intsU] at e
    cases e
    rfl
  | u :: us, _, ns, .cons q r, e => by
    unfold intsU at e
    split at e
    · rename_i h
      cases h
    · rename_i i us' h
      cases h
      obtain ⟨ms, h1, h2⟩ := Option.map_eq_some_iff.mp e
      subst h2
      rw [intsU_ok r h1]
      cases q with
      | d q =>
        cases q
        rfl
    · cases e
def sumU : U → Sto → Re U := fun u st => match scrU st u with
  | some us => (match intsU us with
    | some ns => .ok (.d (.int ns.sum)) st
    | none => .bad)
  | none => .bad
theorem sumU_calm : Calm1 sumU := by
  intro u st e s'
  unfold sumU
  split
  · split <;> exact fun z => nomatch z
  · exact fun z => nomatch z
section
variable {X : Cx} {T : Tab}
theorem cr_str : CallR X (.type "str") (okN X.K T (list1 strU)) := by
  intro pins s σ H xs us Q I r h
  obtain ⟨x, e, hq⟩ := okN_one h
  subst e
  obtain ⟨F, m, st, u, hR, q1, k⟩ := hq
  unfold strU at k
  split at k
  · split at k
    · rename_i hi
      cases q1 with
      | d q1 =>
        cases q1
        exact call_str_int pins s σ H _ us Q I r ⟨_, rfl, hi, k F m H _ (Same.refl _) (pre_refl _) hR (.d (.str _))⟩
    · exact k.elim
  · exact k.elim
theorem cr_int : CallR X (.type "int") (okN X.K T (list1 intU)) := by
  intro pins s σ H xs us Q I r h
  obtain ⟨x, e, hq⟩ := okN_one h
  subst e
  obtain ⟨F, m, st, u, hR, q1, k⟩ := hq
  unfold intU at k
  split at k
  · cases q1 with
    | d q1 =>
      cases q1
      exact call_int1 pins s σ H _ us Q I r (.inl ⟨_, rfl, k F m H _ (Same.refl _) (pre_refl _) hR (.d (.int _))⟩)
  · cases q1 with
    | d q1 =>
      cases q1
      exact call_int1 pins s σ H _ us Q I r (.inr ⟨_, rfl, k F m H _ (Same.refl _) (pre_refl _) hR (.d (.int _))⟩)
  · split at k
    · rename_i n hn
      split at k
      · rename_i hl
        cases q1 with
        | d q1 =>
          cases q1
          exact call_int_str pins s σ H _ us Q I r ⟨_, _, rfl, hn, hl, k F m H _ (Same.refl _) (pre_refl _) hR (.d (.int _))⟩
      · exact k.elim
    · exact k.elim
  · exact k.elim
theorem cr_list {fz : Bool} : CallR X (.type "list") (okN X.K T (list1 (listU fz))) := by
  intro pins s σ H xs us Q I r h
  obtain ⟨x, e, hq⟩ := okN_one h
  subst e
  obtain ⟨F, m, st, u, hR, q1, k⟩ := hq
  unfold listU at k
  split at k
  · rename_i ws _ e1
    obtain ⟨p, vs, rfl, h1, h2⟩ := scrU_ok hR q1 e1
    exact call_list_of pins s σ H _ us Q I r ⟨p, vs, rfl, .inl h1, newL_go hR h2 k⟩
  · rename_i ws e0 e1
    obtain ⟨p, vs, rfl, h1, h2⟩ := tupU_ok hR q1 e1
    exact call_list_of pins s σ H _ us Q I r ⟨p, vs, rfl, .inr h1, newL_go hR h2 k⟩
  · exact k.elim
theorem cr_tuple : CallR X (.type "tuple") (okN X.K T (list1 tupleU)) := by
  intro pins s σ H xs us Q I r h
  obtain ⟨x, e, hq⟩ := okN_one h
  subst e
  obtain ⟨F, m, st, u, hR, q1, k⟩ := hq
  unfold tupleU at k
  split at k
  · rename_i ws _ e1
    obtain ⟨p, vs, rfl, h1, h2⟩ := scrU_ok hR q1 e1
    exact call_tuple_of pins s σ H _ us Q I r ⟨p, vs, rfl, .inl ⟨h1, newT_go hR h2 k⟩⟩
  · rename_i ws e0 e1
    obtain ⟨p, vs, rfl, h1, h2⟩ := tupU_ok hR q1 e1
    exact call_tuple_of pins s σ H _ us Q I r ⟨p, vs, rfl, .inr ⟨h1, k F m H _ (Same.refl _) (pre_refl _) hR q1⟩⟩
  · exact k.elim
theorem cr_sumU (hc : X.calm = true) : CallR X (.builtin "sum") (okN X.K T (list1 sumU)) := by
  intro pins s σ H xs us Q I r h
  obtain ⟨x, e, hq⟩ := okN_one h
  subst e
  obtain ⟨F, m, st, u, hR, q1, k⟩ := hq
  unfold sumU at k
  split at k
  · rename_i ws e1
    split at k
    · rename_i ns e2
      obtain ⟨p, vs, rfl, h1, h2⟩ := scrU_ok hR q1 e1
      have := intsU_ok h2 e2
      subst this
      exact cr_sum hc pins s σ H _ us Q I r ⟨p, ns, rfl, h1, k F m H _ (Same.refl _) (pre_refl _) hR (.d (.int _))⟩
    · exact k.elim
  · exact k.elim
end

/-! ### sum, with a list to begin with -/
def lstsU (st : Sto) : List U → Option (List (List U))
  | [] => some []
  | u :: us => (lstU st u).bind fun xs => (lstsU st us).map (xs :: ·)
def sum2U : U → U → Sto → Re U := fun u w st => match scrU st u, lstU st w with
  | some us, some [] => (match lstsU st us with
    | some xss => if us ≠ [] ∧ xss.flatten.length ≤ lim then newL true xss.flatten st else .bad
    | none => .bad)
  | _, _ => .bad
def sumN : List U → Sto → Re U := fun us st => match us with
  | [u] => sumU u st
  | [u, w] => sum2U u w st
  | _ => .bad
theorem sum2U_calm : Calm2 sum2U := by
  intro u w st e s'
  unfold sum2U
  split
  · split
    · split
      · exact newL_calm e s'
      · exact fun z => nomatch z
    · exact fun z => nomatch z
  · exact fun z => nomatch z
theorem sumN_calm : CalmN sumN := by
  intro us st e s'
  unfold sumN
  split
  · exact sumU_calm _ _ e s'
  · exact sum2U_calm _ _ _ e s'
  · exact fun z => nomatch z
section
variable {X : Cx} {T : Tab}
theorem lstsU_ok {F : Hp} {m : List Addr} {st : Sto} {H : Hp} (hR : Rl X.K T F m st H) : ∀ {us : List U} {vs : List V} {xss : List (List U)}, RUs X.K T F m vs us → lstsU st us = some xss → ∃ yss, LsOf H vs yss ∧ RUs X.K T F m yss.flatten xss.flatten
  | _, _, _, .nil, e => by
    simp only [lstsU] at e
    cases e
    exact ⟨[], .nil, .nil⟩
  | u :: us, _, xss, .cons q r, e => by
    simp only [lstsU] at e
    obtain ⟨xs, h1, h2⟩ := Option.bind_eq_some_iff.mp e
    obtain ⟨yss, h3, h4⟩ := Option.map_eq_some_iff.mp h2
    subst h4
    obtain ⟨a, vs, rfl, g1, g2⟩ := lstU_ok hR q h1
    obtain ⟨zss, g3, g4⟩ := lstsU_ok hR r h3
    exact ⟨vs :: zss, .cons g1 g3, by simpa using g2.app g4⟩
theorem cr_sumN (hc : X.calm = true) : CallR X (.builtin "sum") (okN X.K T sumN) := by
  intro pins s σ H xs us Q I r h
  obtain ⟨F, m, st, ws, hR, hrs, k⟩ := h
  match ws, hrs, k with
  | [], _, k => exact k.elim
  | [u], hrs, k => exact cr_sumU hc pins s σ H xs us Q I r ⟨F, m, st, [u], hR, hrs, k⟩
  | [u, w], .cons q1 (.cons q2 .nil), k =>
    simp only [sumN] at k
    unfold sum2U at k
    split at k
    · rename_i us0 e1 e2
      split at k
      · rename_i xss e3
        split at k
        · rename_i hl
          obtain ⟨a, vs, rfl, g1, g2⟩ := scrU_ok hR q1 e1
          obtain ⟨b, vs2, rfl, g3, g4⟩ := lstU_ok hR q2 e2
          cases g4
          obtain ⟨yss, g5, g6⟩ := lstsU_ok hR g2 e3
          refine cr_sumL hc pins s σ H _ us Q I r ⟨a, b, vs, yss, rfl, g1, g3, fun z => ?_, g5, by rw [g6.len, ← lim_eq]; exact hl.2, newL_go hR g6 k⟩
          subst z
          cases g2
          exact hl.1 rfl
        · exact k.elim
      · exact k.elim
    · exact k.elim
  | _ :: _ :: _ :: _, _, k => exact k.elim
end
/-! ### a built-in's function, by its name -/
def bltT (fz : Bool) (x : Str) : Option (List U → Sto → Re U) :=
  if x = "str" then some (list1 strU) else if x = "int" then some (list1 intU) else if x = "list" then some (list1 (listU fz)) else if x = "tuple" then some (list1 tupleU) else none
theorem bltT_ok {fz : Bool} {x : Str} {f : List U → Sto → Re U} (h : bltT fz x = some f) : ∃ id, CalmN f ∧ bootBuiltins x = some (.type id) ∧ x ≠ "__name__" ∧ (x == ("__debug__" : Str)) = false ∧ ∀ (B : Blk) (X : Cx), B.ok X → CallR X (.type id) (okN B.G.K B.G.T f) := by
  unfold bltT at h
  repeat' split at h
  all_goals first | (cases h; done) | skip
  · rename_i e
    subst e
    cases h
    exact ⟨"str", list1_calm strU_calm, by decide +kernel, by decide +kernel, by decide +kernel, fun B X o => by rw [← o.hK]; exact cr_str⟩
  · rename_i e
    subst e
    cases h
    exact ⟨"int", list1_calm intU_calm, by decide +kernel, by decide +kernel, by decide +kernel, fun B X o => by rw [← o.hK]; exact cr_int⟩
  · rename_i e
    subst e
    cases h
    exact ⟨"list", list1_calm listU_calm, by decide +kernel, by decide +kernel, by decide +kernel, fun B X o => by rw [← o.hK]; exact cr_list⟩
  · rename_i e
    subst e
    cases h
    exact ⟨"tuple", list1_calm tupleU_calm, by decide +kernel, by decide +kernel, by decide +kernel, fun B X o => by rw [← o.hK]; exact cr_tuple⟩
/-- a builtin's function -/
def bltF (x : Str) : Option (List U → Sto → Re U) :=
  if x = "len" then some (list1 lenU) else if x = "repr" then some (list1 reprU) else if x = "all" then some (list1 allU) else if x = "any" then some (list1 anyU) else if x = "max" then some (list2 maxU) else if x = "min" then some (list2 minU) else if x = "sum" then some sumN else none
theorem bltF_ok {x : Str} {f : List U → Sto → Re U} (h : bltF x = some f) : ∃ id, CalmN f ∧ bootBuiltins x = some (.builtin id) ∧ x ≠ "__name__" ∧ (x == ("__debug__" : Str)) = false ∧ ∀ (B : Blk) (X : Cx), B.ok X → CallR X (.builtin id) (okN B.G.K B.G.T f) := by
  unfold bltF at h
  repeat' split at h
  all_goals first | (cases h; done) | skip
  · rename_i e
    subst e
    cases h
    exact ⟨"len", list1_calm lenU_calm, by decide +kernel, by decide +kernel, by decide +kernel, fun B X o => by rw [← o.hK]; exact cr_len⟩
  · rename_i e
    subst e
    cases h
    exact ⟨"repr", list1_calm reprU_calm, by decide +kernel, by decide +kernel, by decide +kernel, fun B X o => by rw [← o.hK]; exact cr_repr o.grd (by have := o.room.un; omega)⟩
  · rename_i e
    subst e
    cases h
    exact ⟨"all", list1_calm quanU_calm, by decide +kernel, by decide +kernel, by decide +kernel, fun B X o => by rw [← o.hK]; exact cr_allU o.calm⟩
  · rename_i e
    subst e
    cases h
    exact ⟨"any", list1_calm quanU_calm, by decide +kernel, by decide +kernel, by decide +kernel, fun B X o => by rw [← o.hK]; exact cr_anyU o.calm⟩
  · rename_i e
    subst e
    cases h
    exact ⟨"max", list2_calm iop2_calm, by decide +kernel, by decide +kernel, by decide +kernel, fun B X o => by rw [← o.hK]; exact cr_max2 o.calm⟩
  · rename_i e
    subst e
    cases h
    exact ⟨"min", list2_calm iop2_calm, by decide +kernel, by decide +kernel, by decide +kernel, fun B X o => by rw [← o.hK]; exact cr_min2 o.calm⟩
  · rename_i e
    subst e
    cases h
    exact ⟨"sum", sumN_calm, by decide +kernel, by decide +kernel, by decide +kernel, fun B X o => by rw [← o.hK]; exact cr_sumN o.calm⟩
end KB
/-! a, b = x, y. -/
namespace KB
open PySem L2
def sPar (i j : Nat) (cs : MA) : MS := fun env st => match cs env st with
  | .ok [u, w] st' => .ok .nx ((env.set i (some u)).set j (some w)) st'
  | .ok _ _ => .bad
  | .exc e st' => .exc e env st'
  | .bad => .bad
section
variable {K : PySem.W.Frag} {T : Tab} {W : WX} {F : Hp} {m : List Addr} {σ : St} {Z : Ends}
theorem goPar {env : Lo} {st : Sto} {cs : MA} {i j : Nat} (hV : Rv K T F m env σ) (g : GoS K T W F m (sPar i j cs env st) Z) :
    GoA K T W F m σ (cs env st) (fun vs H1 => ∃ v w, vs = [v, w] ∧ Z.nx ((σ.set i (some v)).set j (some w)) H1) := by
  unfold sPar at g
  cases h : cs env st with
  | ok us st1 =>
    rw [h] at g
    match us, g with
    | [u, w], g =>
      intro F' m' H1 vs a b R q
      cases q with
      | cons q1 q2 =>
        cases q2 with
        | cons q2 q3 =>
          cases q3
          exact ⟨_, _, rfl, g F' m' H1 _ a b R (((hV.mono a b).set q1 i).set q2 j)⟩
    | [], g => exact g.elim
    | [_], g => exact g.elim
    | _ :: _ :: _ :: _, g => exact g.elim
  | exc e st1 =>
    rw [h] at g
    exact fun F' m' H c d a b R x => g F' m' H σ c d a b R (hV.mono a b) x
  | bad =>
    rw [h] at g
    exact g
end
def swP (sc : Scope) (x y : Str) (px py : Pos) (a b : Expr) : Bool :=
  (if sc.kind.isAnnotationScope then ScopeKind.function else sc.kind) == .function && (sc.names.lookup x == some .local && (sc.names.lookup y == some .local && (py.line == px.line && (noStar a && (noStar b && (decide (x ≠ y) && ([a, b].all (foldedForSure 8) == false && [a, b].all (constantsAlone 8) == false)))))))
theorem swP_ok {sc : Scope} {x y : Str} {px py pt : Pos} {a b : Expr} {kt k2 : Nat} {pt2 : Pos} {env : Env} (h : swP sc x y px py a b = true) (he : env.scope = sc) :
    swappedStores [.Tuple [.Name x px, .Name y py] kt pt] (.Tuple [a, b] k2 pt2) env = pure (some [x, y]) := by
  subst he
  simp only [swP, Bool.and_eq_true, decide_eq_true_eq] at h
  obtain ⟨h1, h2, h3, h4, h5, h6, h7, h8, h9⟩ := h
  have e1 : (env.blockKind != .function) = false := by
    unfold Env.blockKind
    rw [bne, h1]
    rfl
  have e2 : (env.kindOf x == some NameKind.local) = true := h2
  have e3 : (env.kindOf y == some NameKind.local) = true := h3
  have e8 : [a, b].all (foldedForSure 8) = false := eq_of_beq h8
  have e9 : [a, b].all (constantsAlone 8) = false := eq_of_beq h9
  have ed : [x, y].eraseDups = [x, y] := by
    have : (x == y) = false := by simpa using h7
    have h' : (y == x) = false := by simpa using fun z => h7 z.symm
    simp [List.eraseDups_cons, h']
  have ea : ∀ f : Expr → Bool, f a = false → f b = false → [a, b].any f = false := by
    intro f z1 z2
    simp [z1, z2]
  unfold swappedStores
  simp only [List.length_cons, List.length_nil, e1, List.head?_cons, Option.map_some, Option.getD_some, List.filterMap_cons, List.filterMap_nil, e2, e3, Expr.pos, h4, e8, e9, beq_self_eq_true, Bool.and_true, Bool.true_and, if_true, ed]
  rw [ea]
  · rfl
  · cases a <;> first | rfl | cases h5
  · cases b <;> first | rfl | cases h6
section
variable {B : Blk} {pos px py pt pt2 : Pos} {kt k2 : Nat}
theorem ss_par {i j : Nat} {x y : Str} {a b : Expr} {cs : MA} (hi : B.N[i]? = some x) (hj : B.N[j]? = some y) (hw : swP B.sc x y px py a b = true) (h : SA B [a, b] cs) :
    SS B (.Assign [.Tuple [.Name x px, .Name y py] kt pt] (.Tuple [a, b] k2 pt2) pos) (sPar i j cs) := by
  intro X ok W tk
  have hN : X.N.Nodup := by
    rw [ok.hN]
    exact ok.nd
  have hw' := hw
  simp only [swP, Bool.and_eq_true, decide_eq_true_eq] at hw'
  obtain ⟨h1, h2, h3, h4, h5, h6, h7, h8, h9⟩ := hw'
  have hij : i ≠ j := by
    intro e
    rw [e, hj] at hi
    exact h7 (Option.some.inj hi).symm
  refine PS.imp (ps_par ok.calm hN (by rw [ok.hN]; exact hi) (by rw [ok.hN]; exact hj) hij (by rw [ok.hsc]; exact eq_of_beq h2) (by rw [ok.hsc]; exact eq_of_beq h3) (h X ok W tk) (swP_ok hw ok.hsc)) ?_
  rintro Z σ H ⟨F, m, env, st, hR, hV, g⟩
  exact ⟨F, m, env, st, hR, hV, goPar hV g⟩
end
end KB
/-! The text is read: from its trees to computations, once and for all. -/
namespace KB
open PySem L2

/-! ### tables of operators -/
def binF (fz : Bool) : Operator → Option (U → U → Sto → Re U)
  | .Add => some (addU fz)
  | .Sub => some subU
  | .Mult => some (mulU fz)
  | .FloorDiv => some fdivU
  | .Mod => some modU
  | .Pow => some powU
  | .LShift => some shlU
  | .RShift => some shrU
  | .BitAnd => some andU
  | .BitOr => some orU
  | .BitXor => some xorU
  | _ => none
theorem binF_ok {fz : Bool} {op : Operator} {f : U → U → Sto → Re U} (h : binF fz op = some f) : Calm2 f ∧ ∀ (X : Cx) (T : Tab), OpR X (binaryOp op) (ok2 X.K T f) := by
  cases op <;> simp only [binF] at h <;> first | (cases h; done) | skip
  all_goals cases h
  · exact ⟨addU_calm, fun X T => or_add⟩
  · exact ⟨intOp_calm, fun X T => or_sub⟩
  · exact ⟨mulU_calm, fun X T => or_mul⟩
  · exact ⟨intOp_calm, fun X T => or_mod⟩
  · exact ⟨intOp_calm, fun X T => or_pow⟩
  · exact ⟨intOp_calm, fun X T => or_shl⟩
  · exact ⟨intOp_calm, fun X T => or_shr⟩
  · exact ⟨intOp_calm, fun X T => or_or⟩
  · exact ⟨intOp_calm, fun X T => or_xor⟩
  · exact ⟨intOp_calm, fun X T => or_and⟩
  · exact ⟨intOp_calm, fun X T => or_fdiv⟩
def cmpF : CmpOp → Option (U → U → Sto → Re U)
  | .Eq => some eqU
  | .NotEq => some neU
  | .Lt => some ltU
  | .LtE => some leU
  | .Gt => some gtU
  | .GtE => some geU
  | .In => some (inU false)
  | .NotIn => some (inU true)
  | .Is => some (isU false)
  | .IsNot => some (isU true)
theorem cmpF_ok {op : CmpOp} {f : U → U → Sto → Re U} (h : cmpF op = some f) : Calm2 f ∧ ∀ (X : Cx) (T : Tab), X.A.units + 64 < cLine → OpR X (compareOp op) (ok2 X.K T f) := by
  cases op <;> simp only [cmpF] at h <;> cases h
  · exact ⟨eqU_calm, fun X T hu => or_eq hu⟩
  · exact ⟨neU_calm, fun X T hu => or_ne hu⟩
  · exact ⟨cmpOp_calm, fun X T hu => or_lt⟩
  · exact ⟨cmpOp_calm, fun X T hu => or_le⟩
  · exact ⟨cmpOp_calm, fun X T hu => or_gt⟩
  · exact ⟨cmpOp_calm, fun X T hu => or_ge⟩
  · exact ⟨isU_calm, fun X T hu => or_is false⟩
  · exact ⟨isU_calm, fun X T hu => or_is true⟩
  · exact ⟨inU_calm, fun X T hu => or_in false (by omega)⟩
  · exact ⟨inU_calm, fun X T hu => or_in true (by omega)⟩

/-! ### what is known of the globals -/
inductive Gv where
  | con (z : D) | fn (c : Bool → MF) | blt | cls (i : Nat) (mk : Option MF) | err (i : Nat) (f : Option Nat)
/-- cfs: C.m by the class's name; meths: methods by name and class; atts: the attributes; na: which class has which; fro: the classes whose new instances are closed at once -/
structure Dn where
  globs : List (Str × Gv)
  kits : Kits
  own : List Nat
  atts : List Str := []
  na : Na := []
  meths : List (Str × Nat × (Bool → MF)) := []
  cfs : List (Str × Str × (Bool → MF)) := []
  exms : Exms := []
def posOf : List Str → Str → Option Nat
  | [], _ => none
  | y :: ys, x => if y = x then some 0 else (posOf ys x).map (· + 1)
def GvOk (G : Glo) (k : Nat) (x : Str) : Gv → Prop
  | .con z => ∃ v u, G.mg x = some u ∧ RelV v u ∧ ∀ F, RD G.K G.T F v z
  | .fn c => ∃ f, (∀ fz, CF G k f (c fz)) ∧ G.mg x = some (.ref f) ∧ PySem.W.keepIn G.K (.ref f) = true
  | .blt => G.mg x = none
  | .cls i mk => G.mg x = some (.ref (G.T.cls i)) ∧ ∀ cI, mk = some cI → ∃ j f, j + 1 ≤ k ∧ CF G j f cI ∧ Mk G.K (G.T.cls i) f
  | .err i f => G.mg x = some (.ref (G.T.cls i)) ∧ (f = none → ErrC G.K (G.T.cls i)) ∧ ∀ fi, f = some fi → ∃ j, j + 1 ≤ k ∧ InitOk G j i fi
def MOk (G : Glo) (k : Nat) (p : Str × Nat × (Bool → MF)) : Prop := (∀ j, G.T.att j ≠ p.1) ∧ ∀ fz, MtOk G k p.1 p.2.1 (p.2.2 fz)
def COk (G : Glo) (k : Nat) (p : Str × Str × (Bool → MF)) : Prop := ∃ C f, (∀ fz, CF G k f (p.2.2 fz)) ∧ G.mg p.1 = some (.ref C) ∧ CfOk G.K C p.2.1 f
structure DnOk (G : Glo) (k : Nat) (D : Dn) : Prop where
  glob : ∀ p ∈ D.globs, GvOk G k p.1 p.2
  kit : KitOk G.K G.T D.kits D.own
  inj : TInj G.T
  att : ∀ i f, posOf D.atts f = some i → G.T.att i = f
  na : NaOk G.K G.T D.na
  mt : ∀ p ∈ D.meths, MOk G k p
  cf : ∀ p ∈ D.cfs, COk G k p
  xm : ExmOk G.K G.T D.exms
theorem MtOk.mono {G : Glo} {j k : Nat} (h : j ≤ k) {m : Str} {c : Nat} {f : MF} (q : MtOk G j m c f) : MtOk G k m c f := by
  obtain ⟨cl, fa, mt, S⟩ := q
  exact ⟨cl, fa, mt, S.mono h⟩
theorem GvOk.mono {G : Glo} {j k : Nat} (h : j ≤ k) {x : Str} {g : Gv} (q : GvOk G j x g) : GvOk G k x g := by
  cases g with
  | fn c =>
    obtain ⟨f, S, z⟩ := q
    exact ⟨f, fun fz => (S fz).mono h, z⟩
  | cls i mk =>
    refine ⟨q.1, fun cI e => ?_⟩
    obtain ⟨j', f, h1, h2⟩ := q.2 cI e
    exact ⟨j', f, Nat.le_trans h1 h, h2⟩
  | err i f =>
    refine ⟨q.1, q.2.1, fun fi e => ?_⟩
    obtain ⟨j', h1, h2⟩ := q.2.2 fi e
    exact ⟨j', Nat.le_trans h1 h, h2⟩
  | _ => exact q
theorem DnOk.mono {G : Glo} {j k : Nat} {D : Dn} (q : DnOk G j D) (h : j ≤ k) : DnOk G k D :=
  ⟨fun p hp => (q.glob p hp).mono h, q.kit, q.inj, q.att, q.na, fun p hp => ⟨(q.mt p hp).1, fun fz => ((q.mt p hp).2 fz).mono h⟩, fun p hp => by
    obtain ⟨C, f, S, z⟩ := q.cf p hp
    exact ⟨C, f, fun fz => (S fz).mono h, z⟩, q.xm⟩
/-- one global more -/
def Dn.add (D : Dn) (x : Str) (g : Gv) : Dn := { D with globs := (x, g) :: D.globs }
theorem DnOk.add {G : Glo} {k : Nat} {D : Dn} {x : Str} {g : Gv} (q : DnOk G k D) (h : GvOk G k x g) : DnOk G k (D.add x g) :=
  ⟨fun p hp => by
    rcases List.mem_cons.mp hp with e | hp
    · subst e
      exact h
    · exact q.glob p hp, q.kit, q.inj, q.att, q.na, q.mt, q.cf, q.xm⟩
def Dn.addM (D : Dn) (m : Str) (c : Nat) (f : Bool → MF) : Dn := { D with meths := (m, c, f) :: D.meths }
theorem DnOk.addM {G : Glo} {k : Nat} {D : Dn} {m : Str} {c : Nat} {f : Bool → MF} (q : DnOk G k D) (h : MOk G k (m, c, f)) : DnOk G k (D.addM m c f) :=
  ⟨q.glob, q.kit, q.inj, q.att, q.na, fun p hp => by
    rcases List.mem_cons.mp hp with e | hp
    · subst e
      exact h
    · exact q.mt p hp, q.cf, q.xm⟩
def Dn.addC (D : Dn) (x m : Str) (f : Bool → MF) : Dn := { D with cfs := (x, m, f) :: D.cfs }
theorem DnOk.addC {G : Glo} {k : Nat} {D : Dn} {x m : Str} {f : Bool → MF} (q : DnOk G k D) (h : COk G k (x, m, f)) : DnOk G k (D.addC x m f) :=
  ⟨q.glob, q.kit, q.inj, q.att, q.na, q.mt, fun p hp => by
    rcases List.mem_cons.mp hp with e | hp
    · subst e
      exact h
    · exact q.cf p hp, q.xm⟩
/-- the methods of a name -/
def tblOf (D : Dn) (m : Str) (fz : Bool) : List (Nat × MF) := D.meths.filterMap fun p => if p.1 = m then some (p.2.1, p.2.2 fz) else none
def cfOf (D : Dn) (x m : Str) : Option (Bool → MF) := (D.cfs.find? fun p => decide (p.1 = x) && decide (p.2.1 = m)).map (·.2.2)
/-! ### expressions -/
structure Rd where
  e : Scope → Bool → Bool → Expr → Option ME
  t : Scope → Bool → Expr → Option MT
theorem posOf_ok : ∀ {N : List Str} {x : Str} {i : Nat}, posOf N x = some i → N[i]? = some x
  | y :: ys, x, i, h => by
    unfold posOf at h
    split at h
    · rename_i e
      cases h
      subst e
      rfl
    · obtain ⟨j, h1, h2⟩ := Option.map_eq_some_iff.mp h
      subst h2
      simpa using posOf_ok h1
def isDbg (x : Str) : Bool := (x == ("__debug__" : Str)) || (x == ("__classdict__" : Str))
theorem isDbg_no {x : Str} (h : isDbg x = false) : (x == ("__debug__" : Str)) = false ∧ (x == ("__classdict__" : Str)) = false := by
  unfold isDbg at h
  rwa [Bool.or_eq_false_iff] at h
section
variable (D : Dn) (N : List Str) (R : Rd) (sc : Scope) (top fz : Bool)
def visB (x : Str) : Bool := match sc.names.lookup x with
  | some .local => true
  | some .cell => true
  | some .free => true
  | _ => false
def glbB (x : Str) : Bool := match sc.names.lookup x with
  | some .globalImplicit => true
  | _ => false
def denName (x : Str) : Option ME :=
  if isDbg x then none else if visB sc x then (posOf N x).map cVar else if glbB sc x then (match D.globs.lookup x with
    | some (.con z) => some (cPure (.d z))
    | _ => none) else none
def denCon : Const → Option ME
  | .int i => some (cPure (.d (.int i)))
  | .bool b => some (cPure (.d (.bl b)))
  | .str s => some (cPure (.d (.str s)))
  | .none => some (cPure (.d .non))
  | _ => none
def denA : List Expr → Option MA
  | [] => some cNil
  | e :: es => if noStar e then (match R.e sc top true e, denA es with
    | some c, some cs => some (cCons c cs)
    | _, _ => none) else none
def denCl : Expr → Option Cl
  | .Name x _ => if isDbg x then none else if glbB sc x then (match D.globs.lookup x with
    | some (.cls i _) => some (.own i)
    | some (.err i _) => some (.own i)
    | some .blt => if x = "ValueError" then some (.ty "ValueError") else if x = "int" then some (.ty "int") else if x = "str" then some (.ty "str") else if x = "bool" then some (.ty "bool") else if x = "list" then some (.ty "list") else if x = "tuple" then some (.ty "tuple") else if x = "dict" then some (.ty "dict") else none
    | _ => none) else none
  | _ => none
def denCls : List Expr → Option (List Cl)
  | [] => some []
  | e :: es => if noStar e then (match denCl D sc e, denCls es with
    | some c, some cs => some (c :: cs)
    | _, _ => none) else none
def denIsi (a b : Expr) : Option ME :=
  if noStar a && noStar b then (match R.e sc top true a with
    | some c => (match b with
      | .Tuple es _ _ => (match denCls D sc es with
        | some ks => if ks.length ≤ 1000 then some (cOp1 (isiU D.kits D.own ks) c) else none
        | none => none)
      | b => (match denCl D sc b with
        | some k => some (cOp1 (isiU D.kits D.own [k]) c)
        | none => none))
    | none => none) else none
def denCall (x : Str) (args : List Expr) : Option ME :=
  if isDbg x then none else if glbB sc x then (match D.globs.lookup x with
    | some (.fn c) => (match denA R sc top args with
      | some cs => some (cArgs (c fz) cs)
      | none => none)
    | some (.cls i (some cI)) => (match denA R sc top args with
      | some cs => some (cArgs (mkU i fz cI) cs)
      | none => none)
    | some .blt => if x = "isinstance" then (match args with
        | [a, b] => denIsi D R sc top a b
        | _ => none) else (match args with
        | [] => none
        | _ :: _ => (match bltF x, bltT fz x, denA R sc top args with
          | some f, _, some cs => some (cArgs f cs)
          | none, some f, some cs => some (cArgs f cs)
          | _, _, _ => none))
    | _ => none) else none
/-- o.m(..) -/
def denM (o : Expr) (m : Str) (args : List Expr) : Option ME :=
  match R.e sc top true o, denA R sc top args with
  | some co, some cs => if m = "append" then (match args with
      | [] => none
      | _ :: _ => some (cLm appU co cs))
    else if m = "extend" then (match args with
      | [] => none
      | _ :: _ => some (cLm extU co cs))
    else if (tblOf D m fz).isEmpty then none else some (cMth (tblOf D m fz) co cs)
  | _, _ => none
def denMeth (o : Expr) (m : Str) (args : List Expr) (apos pos : Pos) : Option ME :=
  if (apos.endLine == pos.line) && (decide (args.length < 30) && noSup o) then (match o with
    | .Name x _ => if !isDbg x && glbB sc x then (match cfOf D x m, args with
        | some c, _ :: _ => (denA R sc top args).map (cArgs (c fz))
        | _, _ => none) else denM D R sc top fz o m args
    | o => denM D R sc top fz o m args) else none
def denP : List (Option Expr) → List Expr → Option (List (ME × ME))
  | [], [] => some []
  | some k :: ks, v :: vs => (match R.e sc top true k, R.e sc top true v, denP ks vs with
    | some a, some b, some r => some ((a, b) :: r)
    | _, _, _ => none)
  | _, _ => none
def denO : Option Expr → Option (Option ME)
  | none => some none
  | some e => (R.e sc top true e).map some
end
/-! targets -/
section
variable (N : List Str) (sc : Scope) (top : Bool)
def storB (x : Str) : Bool := match sc.names.lookup x with
  | some .local => true
  | some .cell => top
  | _ => false
def allE (f : Expr → Option Tgt) : List Expr → Option (List Tgt)
  | [] => some []
  | e :: es => match f e, allE f es with
    | some t, some ts => some (t :: ts)
    | _, _ => none
def denGo (f : Expr → Option Tgt) : Expr → Option Tgt
  | .Name x _ => if storB sc top x then (posOf N x).map .nm else none
  | .Tuple es _ _ => if es.all noStar then (match allE f es with
    | some ts => if es.length = ts.length then some (.tp ts) else none
    | none => none) else none
  | _ => none
def denG : Nat → Expr → Option Tgt
  | 0 => fun _ => none
  | n + 1 => denGo N sc top (denG n)
end
section
variable (D : Dn) (N : List Str) (R : Rd) (sc : Scope) (top fz : Bool)
def isBlt (x : Str) : Bool := glbB sc x && (match D.globs.lookup x with
  | some .blt => true
  | _ => false)
def denRg : List Expr → Option MI
  | [a] => if noStar a then (denA R sc top [a]).map iRange1 else none
  | [a, b] => if noStar a && noStar b then (denA R sc top [a, b]).map iRange2 else none
  | [a, b, d] => if noStar a && (noStar b && noStar d) then (denA R sc top [a, b, d]).map iRange3 else none
  | _ => none
def denEn : Expr → List Expr → Option MI
  | .Tuple _ _ _, [a] => if noStar a then (denA R sc top [a]).map iEnumr else none
  | _, _ => none
def denRv : List Expr → Option MI
  | [a] => if noStar a then (denA R sc top [a]).map iRevr else none
  | _ => none
/-- what is walked -/
def denI (tg it : Expr) : Option MI :=
  match it with
  | .Call (.Name x _) args [] _ =>
    if x = "range" && isBlt D sc x then denRg R sc top args
    else if x = "enumerate" && isBlt D sc x then denEn R sc top tg args
    else if x = "reversed" && isBlt D sc x then denRv R sc top args
    else (R.e sc top true it).map iSeq
  | it => (R.e sc top true it).map iSeq
def ownOf (scope : Scope) : List (Str × Nat) := scope.names.filterMap fun y => match y.2 with
  | .local => (posOf N y.1).map (y.1, ·)
  | .cell => (posOf N y.1).map (y.1, ·)
  | _ => none
def denTs (scope : Scope) : List Expr → Option MT
  | [] => some tYesU
  | [e] => R.t (relS scope sc) false e
  | _ => none
/-- the parts of a comprehension -/
def denLc (elt : Expr) (tg it : Expr) (ifs : List Expr) (scope : Scope) : Option ME :=
  if noSet it && blkC N sc scope (ownOf N scope) then (match denI D R sc top tg it, denG N (relS scope sc) false 20 tg, denTs R sc scope ifs, R.e (relS scope sc) false true elt with
    | some src, some t, some tt, some te => if t.slots.all (fun j => ((ownOf N scope).map (·.2)).contains j) then some (cLc fz src t tt te ((ownOf N scope).map (·.2))) else none
    | _, _, _, _ => none) else none
def denE : Expr → Option ME
  | .Name x _ => denName D N sc x
  | .Constant k _ _ => denCon k
  | .BinOp a op b _ => (match R.e sc top true a, R.e sc top true b, binF fz op with
    | some ca, some cb, some f => some (cOp2 f ca cb)
    | _, _, _ => none)
  | .UnaryOp .Not a _ => (R.e sc top true a).map cNot
  | .UnaryOp .USub a _ => (R.e sc top true a).map (cOp1 negU)
  | .BoolOp _ [a] _ => R.e sc top fz a
  | .BoolOp .And (a :: b :: rest) p => (match R.e sc top true a, R.e sc top true (.BoolOp .And (b :: rest) p) with
    | some x, some y => some (cAnd x y)
    | _, _ => none)
  | .BoolOp .Or (a :: b :: rest) p => (match R.e sc top true a, R.e sc top true (.BoolOp .Or (b :: rest) p) with
    | some x, some y => some (cOr x y)
    | _, _ => none)
  | .Compare a [op] [b] _ => if behindInMarks op b then none else (match R.e sc top true a, R.e sc top true b, cmpF op with
    | some x, some y, some f => some (cOp2 f x y)
    | _, _, _ => none)
  | .Compare a [op, op2] [b, d] _ => if lastMarks [op, op2] [b, d] then none else (match R.e sc top true a, R.e sc top true b, R.e sc top true d, cmpF op, cmpF op2 with
    | some x, some y, some z, some f, some g => some (cChain f g x y z)
    | _, _, _, _, _ => none)
  | .IfExp d a b _ => (match R.t sc top d, R.e sc top fz a, R.e sc top fz b with
    | some t, some x, some y => some (cIf t x y)
    | _, _, _ => none)
  | .Call (.Name x _) args [] _ => denCall D R sc top fz x args
  | .Call (.Attribute o m apos) args [] pos => denMeth D R sc top fz o m args apos pos
  | .Attribute e f _ => if noSup e then (match posOf D.atts f, R.e sc top true e with
    | some i, some c => some (cOp1 (attU D.na i) c)
    | _, _ => none) else none
  | .Subscript a (.Slice none none (some (.UnaryOp .USub (.Constant (.int 1) _ _) _)) _) _ => (R.e sc top true a).map (cOp1 (revU fz))
  | .Subscript a (.Slice lo hi none _) _ => (match R.e sc top true a, denO R sc top lo, denO R sc top hi with
    | some x, some l, some h => some (cSlice fz x l h)
    | _, _, _ => none)
  | .Subscript a b _ => if noSl b then (match R.e sc top true a, R.e sc top true b with
    | some x, some y => some (cOp2 ixU x y)
    | _, _ => none) else none
  | .List es _ => (denA R sc top es).map (cLst fz)
  | .Tuple es _ _ => (denA R sc top es).map cTup
  | .Dict [] [] _ => some (cDct fz [])
  | .Dict ks vs _ => if ks.length ≤ 15 && !ks.isEmpty then (denP R sc top ks vs).map (cDct fz) else none
  | .ListComp elt [⟨tg, it, ifs, 0⟩] scope _ => denLc D N R sc top fz elt tg it ifs scope
  | _ => none
/-- the value alone is asked for its truth -/
def plainT : Expr → Bool
  | .UnaryOp .Not _ _ => false
  | .BoolOp _ _ _ => false
  | .IfExp _ _ _ _ => false
  | .Compare _ _ _ _ => false
  | _ => true
def denT : Expr → Option MT
  | .UnaryOp .Not a _ => (R.t sc top a).map tNo
  | .BoolOp .And [a] _ => R.t sc top a
  | .BoolOp .Or [a] _ => R.t sc top a
  | .BoolOp .And (a :: b :: rest) p => (match R.t sc top a, R.t sc top (.BoolOp .And (b :: rest) p) with
    | some x, some y => some (tAn x y)
    | _, _ => none)
  | .BoolOp .Or (a :: b :: rest) p => (match R.t sc top a, R.t sc top (.BoolOp .Or (b :: rest) p) with
    | some x, some y => some (tOu x y)
    | _, _ => none)
  | .Compare a [op] [b] _ => if behindInMarks op b then none else (match R.e sc top true a, R.e sc top true b, cmpF op with
    | some x, some y, some f => some (tB1 (cOp2 f x y))
    | _, _, _ => none)
  | .Compare a [op, op2] [b, d] _ => if lastMarks [op, op2] [b, d] then none else (match R.e sc top true a, R.e sc top true b, R.e sc top true d, cmpF op, cmpF op2 with
    | some x, some y, some z, some f, some g => some (tB1 (cChain f g x y z))
    | _, _, _, _, _ => none)
  | e => if plainT e then (R.e sc top true e).map tTr else none
end
def rd (D : Dn) (N : List Str) : Nat → Rd
  | 0 => ⟨fun _ _ _ _ => none, fun _ _ _ => none⟩
  | n + 1 => ⟨fun sc top fz e => denE D N (rd D N n) sc top fz e, fun sc top e => denT (rd D N n) sc top e⟩
end KB
/-! .. and rightly so: expressions. -/
namespace KB
open PySem L2

structure RdOk (G : Glo) (k : Nat) (N : List Str) (R : Rd) : Prop where
  e : ∀ sc top fz e c, R.e sc top fz e = some c → SE ⟨G, N, sc, k, top⟩ e c
  t : ∀ sc top e t, R.t sc top e = some t → ST ⟨G, N, sc, k, top⟩ e t ∧ ∀ op vs p, e = .BoolOp op vs p → SW ⟨G, N, sc, k, top⟩ e t
theorem look_mem {D : Dn} {x : Str} {g : Gv} (h : D.globs.lookup x = some g) : (x, g) ∈ D.globs := PySem.mem_of_lookup h
theorem visB_ok {sc : Scope} {x : Str} (h : visB sc x = true) : Vis sc x := by
  unfold visB at h
  split at h
  · rename_i e
    exact .inl e
  · rename_i e
    exact .inr (.inl e)
  · rename_i e
    exact .inr (.inr e)
  · cases h
theorem glbB_ok {G : Glo} {N : List Str} {k : Nat} {top : Bool} {sc : Scope} {x : Str} (h : glbB sc x = true) : glb ⟨G, N, sc, k, top⟩ x := by
  unfold glbB at h
  split at h
  · rename_i e
    exact e
  · cases h
section
variable {D : Dn} {N : List Str} {R : Rd} {G : Glo} {k : Nat} (dk : DnOk G k D) (rk : RdOk G k N R) {sc : Scope} {top fz : Bool}
include dk in
theorem denName_ok {x : Str} {p : Pos} {c : ME} (h : denName D N sc x = some c) : SE ⟨G, N, sc, k, top⟩ (.Name x p) c := by
  unfold denName at h
  split at h
  · cases h
  · rename_i hd
    obtain ⟨d1, d2⟩ := isDbg_no (by simpa using hd)
    split at h
    · rename_i hv
      obtain ⟨i, h1, h2⟩ := Option.map_eq_some_iff.mp h
      subst h2
      exact se_var (posOf_ok h1) (visB_ok hv) d1 d2
    · split at h
      · rename_i hg
        split at h
        · rename_i z hl
          cases h
          obtain ⟨v, u, h1, h2, h3⟩ := dk.glob _ (look_mem hl)
          exact se_glob (glbB_ok hg) h1 h2 h3 d1
        · cases h
      · cases h
theorem denCon_ok {B : Blk} {kc : Const} {j : Nat} {p : Pos} {c : ME} (h : denCon kc = some c) : SE B (.Constant kc j p) c := by
  unfold denCon at h
  split at h
  · cases h
    exact se_int
  · cases h
    exact se_bool
  · cases h
    exact se_str
  · cases h
    exact se_none
  · cases h
include rk in
theorem denA_ok : ∀ {es : List Expr} {cs : MA}, denA R sc top es = some cs → SA ⟨G, N, sc, k, top⟩ es cs ∧ es.all noStar = true
  | [], cs, h => by
    simp only [denA] at h
    cases h
    exact ⟨sa_nil, rfl⟩
  | e :: es, cs, h => by
    simp only [denA] at h
    split at h
    · rename_i hs
      split at h
      · rename_i c cs' h1 h2
        cases h
        obtain ⟨q1, q2⟩ := denA_ok h2
        exact ⟨sa_cons hs (rk.e _ _ _ _ _ h1) q1, by rw [List.all_cons, hs, q2]; rfl⟩
      · cases h
    · cases h
include dk in
theorem denCl_ok {e : Expr} {c : Cl} (h : denCl D sc e = some c) : SC ⟨G, N, sc, k, top⟩ e c := by
  unfold denCl at h
  split at h
  · rename_i x p
    split at h
    · cases h
    · rename_i hd
      obtain ⟨d1, d2⟩ := isDbg_no (by simpa using hd)
      split at h
      · rename_i hg
        split at h
        · rename_i i hl
          cases h
          exact sc_own (glbB_ok hg) (dk.glob _ (look_mem hl)).1 d1
        · rename_i i hl
          cases h
          exact sc_own (glbB_ok hg) (dk.glob _ (look_mem hl)).1 d1
        · rename_i hl
          have hm : G.mg x = none := dk.glob _ (look_mem hl)
          split at h
          · rename_i e
            subst e
            cases h
            exact sc_ty (glbB_ok hg) hm (by decide +kernel) (by decide +kernel) d1
          split at h
          · rename_i e
            subst e
            cases h
            exact sc_ty (glbB_ok hg) hm (by decide +kernel) (by decide +kernel) d1
          · split at h
            · rename_i e
              subst e
              cases h
              exact sc_ty (glbB_ok hg) hm (by decide +kernel) (by decide +kernel) d1
            · split at h
              · rename_i e
                subst e
                cases h
                exact sc_ty (glbB_ok hg) hm (by decide +kernel) (by decide +kernel) d1
              · split at h
                · rename_i e
                  subst e
                  cases h
                  exact sc_ty (glbB_ok hg) hm (by decide +kernel) (by decide +kernel) d1
                · split at h
                  · rename_i e
                    subst e
                    cases h
                    exact sc_ty (glbB_ok hg) hm (by decide +kernel) (by decide +kernel) d1
                  · split at h
                    · rename_i e
                      subst e
                      cases h
                      exact sc_ty (glbB_ok hg) hm (by decide +kernel) (by decide +kernel) d1
                    · cases h
        · cases h
      · cases h
  · cases h
include dk in
theorem denCls_ok : ∀ {es : List Expr} {cs : List Cl}, denCls D sc es = some cs → SCs ⟨G, N, sc, k, top⟩ es cs
  | [], cs, h => by
    simp only [denCls] at h
    cases h
    exact .nil
  | e :: es, cs, h => by
    simp only [denCls] at h
    split at h
    · rename_i hs
      split at h
      · rename_i c cs' h1 h2
        cases h
        exact .cons hs (denCl_ok dk h1) (denCls_ok h2)
      · cases h
    · cases h
include dk rk in
theorem denIsi_ok {a b : Expr} {p pos : Pos} {c : ME} (hg : glb ⟨G, N, sc, k, top⟩ "isinstance") (hm : G.mg "isinstance" = none) (h : denIsi D R sc top a b = some c) : SE ⟨G, N, sc, k, top⟩ (.Call (.Name "isinstance" p) [a, b] [] pos) c := by
  unfold denIsi at h
  split at h
  · rename_i hs
    rw [Bool.and_eq_true] at hs
    split at h
    · rename_i c1 h1
      split at h
      · rename_i es x1 p2
        split at h
        · rename_i ks h2
          split at h
          · rename_i hl
            cases h
            exact se_isiT dk.kit hg hm hs.1 hl (rk.e _ _ _ _ _ h1) (denCls_ok dk h2)
          · cases h
        · cases h
      · split at h
        · rename_i kk h2
          cases h
          exact se_isi dk.kit hg hm hs.1 hs.2 (rk.e _ _ _ _ _ h1) (denCl_ok dk h2)
        · cases h
    · cases h
  · cases h
include dk rk in
theorem denCall_ok {x : Str} {args : List Expr} {p pos : Pos} {c : ME} (h : denCall D R sc top fz x args = some c) : SE ⟨G, N, sc, k, top⟩ (.Call (.Name x p) args [] pos) c := by
  unfold denCall at h
  split at h
  · cases h
  · rename_i hd
    obtain ⟨d1, d2⟩ := isDbg_no (by simpa using hd)
    split at h
    · rename_i hg
      split at h
      · rename_i cf hl
        obtain ⟨f, S, h1, h2⟩ := dk.glob _ (look_mem hl)
        split at h
        · rename_i cs ha
          cases h
          obtain ⟨q1, q2⟩ := denA_ok rk ha
          cases args with
          | nil =>
            simp only [denA] at ha
            cases ha
            exact se_call0 (S fz) (Nat.le_refl _) (glbB_ok hg) h1 h2 d1
          | cons a as =>
            rw [List.all_cons, Bool.and_eq_true] at q2
            exact se_call (S fz) (Nat.le_refl _) (glbB_ok hg) h1 h2 d1 q2.1 q2.2 q1
        · cases h
      · rename_i i cI hl
        obtain ⟨h1, hk⟩ := dk.glob _ (look_mem hl)
        obtain ⟨j, f, hj, S, h3⟩ := hk cI rfl
        split at h
        · rename_i cs ha
          cases h
          obtain ⟨q1, q2⟩ := denA_ok rk ha
          cases args with
          | nil =>
            simp only [denA] at ha
            cases ha
            exact se_mk0 S hj h3 (glbB_ok hg) h1 d1
          | cons a as =>
            rw [List.all_cons, Bool.and_eq_true] at q2
            exact se_mk S hj h3 (glbB_ok hg) h1 d1 q2.1 q2.2 q1
        · cases h
      · rename_i hl
        have hm : G.mg x = none := dk.glob _ (look_mem hl)
        split at h
        · rename_i e
          subst e
          split at h
          · exact denIsi_ok dk rk (glbB_ok hg) hm h
          · cases h
        · split at h
          · cases h
          · rename_i a as
            split at h
            · rename_i f cs _ hf ha
              cases h
              obtain ⟨q1, q2⟩ := denA_ok rk ha
              rw [List.all_cons, Bool.and_eq_true] at q2
              obtain ⟨id, z1, z2, z3, z4, z5⟩ := bltF_ok hf
              exact se_callB z1 (z5 _) (glbB_ok hg) hm z2 z3 z4 q2.1 q2.2 q1
            · rename_i f cs _ hf ha
              cases h
              obtain ⟨q1, q2⟩ := denA_ok rk ha
              rw [List.all_cons, Bool.and_eq_true] at q2
              obtain ⟨id, z1, z2, z3, z4, z5⟩ := bltT_ok hf
              exact se_callTy z1 (z5 _) (glbB_ok hg) hm z2 z3 z4 q2.1 q2.2 q1
            · cases h
      · cases h
    · cases h
theorem tblOf_ok (dk : DnOk G k D) {m : Str} (hne : (tblOf D m fz).isEmpty = false) : (∀ j, G.T.att j ≠ m) ∧ MtsOk G k m (tblOf D m fz) := by
  have each : ∀ q ∈ tblOf D m fz, (∀ j, G.T.att j ≠ m) ∧ MtOk G k m q.1 q.2 := by
    intro q hq
    obtain ⟨p, hp, h2⟩ := List.mem_filterMap.mp hq
    split at h2
    · rename_i e
      cases h2
      have := dk.mt p hp
      rw [MOk, e] at this
      exact ⟨this.1, this.2 fz⟩
    · cases h2
  refine ⟨?_, fun q hq => (each q hq).2⟩
  cases h : tblOf D m fz with
  | nil =>
    rw [h] at hne
    cases hne
  | cons q r => exact (each q (by rw [h]; exact List.mem_cons_self ..)).1
include dk rk in
theorem denM_ok {o : Expr} {m : Str} {args : List Expr} {apos pos : Pos} {c : ME} (hp : (apos.endLine == pos.line) = true) (hl : args.length < 30) (ho : noSup o = true) (h : denM D R sc top fz o m args = some c) : SE ⟨G, N, sc, k, top⟩ (.Call (.Attribute o m apos) args [] pos) c := by
  unfold denM at h
  split at h
  · rename_i co cs h1 h2
    obtain ⟨q1, q2⟩ := denA_ok rk h2
    have q0 := rk.e _ _ _ _ _ h1
    split at h
    · rename_i e
      subst e
      split at h
      · cases h
      · cases h
        exact se_lm appU_calm PySem.F.slot_list_append PySem.F.type_list_append (fun X o => by rw [← o.hK]; exact mr_app) ho q2 hl hp q0 q1
    · split at h
      · rename_i e
        subst e
        split at h
        · cases h
        · cases h
          exact se_lm extU_calm PySem.F.slot_list_extend PySem.F.type_list_extend (fun X o => by rw [← o.hK]; exact mr_ext) ho q2 hl hp q0 q1
      · split at h
        · cases h
        · rename_i hne
          cases h
          obtain ⟨t1, t2⟩ := tblOf_ok dk (by simpa using hne)
          cases args with
          | nil =>
            simp only [denA] at h2
            cases h2
            exact se_mth0 t1 t2 (Nat.le_refl _) ho hp q0
          | cons a as => exact se_mth t1 t2 (Nat.le_refl _) ho q2 hl hp q0 q1
  · cases h
include dk rk in
theorem denMeth_ok {o : Expr} {m : Str} {args : List Expr} {apos pos : Pos} {c : ME} (h : denMeth D R sc top fz o m args apos pos = some c) : SE ⟨G, N, sc, k, top⟩ (.Call (.Attribute o m apos) args [] pos) c := by
  unfold denMeth at h
  split at h
  · rename_i hc
    rw [Bool.and_eq_true, Bool.and_eq_true, decide_eq_true_iff] at hc
    obtain ⟨hp, hl, ho⟩ := hc
    split at h
    · rename_i x xp
      split at h
      · rename_i hg
        rw [Bool.and_eq_true] at hg
        split at h
        · rename_i c0 a as hcf
          obtain ⟨cs, h1, h2⟩ := Option.map_eq_some_iff.mp h
          subst h2
          obtain ⟨q1, q2⟩ := denA_ok rk h1
          obtain ⟨p, hp1, hp2⟩ := Option.map_eq_some_iff.mp hcf
          have hf := List.find?_some hp1
          rw [Bool.and_eq_true, decide_eq_true_iff, decide_eq_true_iff] at hf
          obtain ⟨C, f, S, hm, cf⟩ := dk.cf p (List.mem_of_find?_eq_some hp1)
          rw [hf.1] at hm
          rw [hf.2] at cf
          rw [hp2] at S
          exact se_cls (S fz) (Nat.le_refl _) (glbB_ok hg.2) hm (isDbg_no (by simpa using hg.1)).1 cf q2 hl hp q1
        · cases h
      · exact denM_ok dk rk hp hl ho h
    · exact denM_ok dk rk hp hl ho h
  · cases h
include rk in
theorem denP_ok : ∀ {ks : List (Option Expr)} {vs : List Expr} {r : List (ME × ME)}, denP R sc top ks vs = some r → SPs ⟨G, N, sc, k, top⟩ ks vs r
  | [], [], r, h => by
    simp only [denP] at h
    cases h
    exact .nil
  | some kx :: ks, v :: vs, r, h => by
    simp only [denP] at h
    split at h
    · rename_i a b r' h1 h2 h3
      cases h
      exact .cons (rk.e _ _ _ _ _ h1) (rk.e _ _ _ _ _ h2) (denP_ok h3)
    · cases h
  | [], v :: vs, r, h => by
    simp only [denP] at h
    cases h
  | none :: ks, vs, r, h => by
    simp only [denP] at h
    cases h
  | some kx :: ks, [], r, h => by
    simp only [denP] at h
    cases h
include rk in
theorem denO_ok {e : Option Expr} {c : Option ME} (h : denO R sc top e = some c) : SP ⟨G, N, sc, k, top⟩ e c := by
  cases e with
  | none =>
    simp only [denO] at h
    cases h
    exact .none
  | some e =>
    simp only [denO] at h
    obtain ⟨c', h1, h2⟩ := Option.map_eq_some_iff.mp h
    subst h2
    exact .some (rk.e _ _ _ _ _ h1)
theorem storB_ok {x : Str} (h : storB sc top x = true) : stor ⟨G, N, sc, k, top⟩ x := by
  unfold storB at h
  split at h
  · rename_i e
    exact .inl e
  · rename_i e
    exact .inr ⟨h, e⟩
  · cases h
theorem asg_no (env : Env) : ∀ {es : List Expr}, es.all noStar = true → (assignEach es env).length = es.length ∧ (assignEach es env).findIdx? (·.1) = none
  | [], _ => ⟨rfl, rfl⟩
  | e :: es, h => by
    rw [List.all_cons, Bool.and_eq_true] at h
    obtain ⟨a, b⟩ := asg_no env h.2
    have e1 : assignEach (e :: es) env = (false, assign e env) :: assignEach es env := by
      cases e <;> first | rfl | (cases h.1)
    rw [e1]
    refine ⟨by rw [List.length_cons, List.length_cons, a], ?_⟩
    rw [List.findIdx?_cons, b]
    rfl
theorem denGo_ok {f : Expr → Option Tgt} (hf : ∀ e t, f e = some t → SG ⟨G, N, sc, k, top⟩ e t) {e : Expr} {t : Tgt} (h : denGo N sc top f e = some t) : SG ⟨G, N, sc, k, top⟩ e t := by
  have all : ∀ {es : List Expr} {ts : List Tgt}, es.all noStar = true → allE f es = some ts → SGs ⟨G, N, sc, k, top⟩ es ts := by
    intro es
    induction es with
    | nil =>
      intro ts _ h
      simp only [allE] at h
      cases h
      exact sgs_nil
    | cons e es ih =>
      intro ts hs h
      rw [List.all_cons, Bool.and_eq_true] at hs
      simp only [allE] at h
      split at h
      · rename_i t ts' h1 h2
        cases h
        exact sgs_cons hs.1 (hf _ _ h1) (ih hs.2 h2)
      · cases h
  unfold denGo at h
  split at h
  · split at h
    · rename_i hs
      obtain ⟨i, h1, h2⟩ := Option.map_eq_some_iff.mp h
      subst h2
      exact sg_name (posOf_ok h1) (storB_ok hs)
    · cases h
  · split at h
    · rename_i hs
      split at h
      · rename_i ts h1
        split at h
        · rename_i hl
          cases h
          exact sg_tup (all hs h1) hl fun env => asg_no env hs
        · cases h
      · cases h
    · cases h
  · cases h
theorem denG_ok : ∀ (n : Nat) {e : Expr} {t : Tgt}, denG N sc top n e = some t → SG ⟨G, N, sc, k, top⟩ e t
  | 0, e, t, h => by
    simp only [denG] at h
    cases h
  | n + 1, e, t, h => denGo_ok (fun e t h => denG_ok n h) h
include dk in
theorem isBlt_ok {x : Str} (h : isBlt D sc x = true) : glb ⟨G, N, sc, k, top⟩ x ∧ G.mg x = none := by
  unfold isBlt at h
  rw [Bool.and_eq_true] at h
  refine ⟨glbB_ok h.1, ?_⟩
  have h2 := h.2
  split at h2
  · rename_i hl
    exact dk.glob _ (look_mem hl)
  · cases h2
include rk in
theorem denRg_ok {tg : Expr} {args : List Expr} {p pos : Pos} {c : MI} (b1 : glb ⟨G, N, sc, k, top⟩ "range") (b2 : G.mg "range" = none) (h : denRg R sc top args = some c) : SI ⟨G, N, sc, k, top⟩ tg (.Call (.Name "range" p) args [] pos) c := by
  unfold denRg at h
  split at h
  · split at h
    · rename_i hs
      obtain ⟨cs, h1, h2⟩ := Option.map_eq_some_iff.mp h
      subst h2
      exact si_range1 b1 b2 hs (denA_ok rk h1).1
    · cases h
  · split at h
    · rename_i hs
      rw [Bool.and_eq_true] at hs
      obtain ⟨cs, h1, h2⟩ := Option.map_eq_some_iff.mp h
      subst h2
      exact si_range2 b1 b2 hs.1 hs.2 (denA_ok rk h1).1
    · cases h
  · split at h
    · rename_i hs
      rw [Bool.and_eq_true, Bool.and_eq_true] at hs
      obtain ⟨cs, h1, h2⟩ := Option.map_eq_some_iff.mp h
      subst h2
      exact si_range3 b1 b2 hs.1 hs.2.1 hs.2.2 (denA_ok rk h1).1
    · cases h
  · cases h
include rk in
theorem denEn_ok {tg : Expr} {args : List Expr} {p pos : Pos} {c : MI} (b1 : glb ⟨G, N, sc, k, top⟩ "enumerate") (b2 : G.mg "enumerate" = none) (h : denEn R sc top tg args = some c) : SI ⟨G, N, sc, k, top⟩ tg (.Call (.Name "enumerate" p) args [] pos) c := by
  unfold denEn at h
  split at h
  · split at h
    · rename_i hs
      obtain ⟨cs, h1, h2⟩ := Option.map_eq_some_iff.mp h
      subst h2
      exact si_enum b1 b2 hs (denA_ok rk h1).1
    · cases h
  · cases h
include rk in
theorem denRv_ok {tg : Expr} {args : List Expr} {p pos : Pos} {c : MI} (b1 : glb ⟨G, N, sc, k, top⟩ "reversed") (b2 : G.mg "reversed" = none) (h : denRv R sc top args = some c) : SI ⟨G, N, sc, k, top⟩ tg (.Call (.Name "reversed" p) args [] pos) c := by
  unfold denRv at h
  split at h
  · split at h
    · rename_i hs
      obtain ⟨cs, h1, h2⟩ := Option.map_eq_some_iff.mp h
      subst h2
      exact si_rev b1 b2 hs (denA_ok rk h1).1
    · cases h
  · cases h
include dk rk in
theorem denI_ok {tg it : Expr} {c : MI} (h : denI D R sc top tg it = some c) : SI ⟨G, N, sc, k, top⟩ tg it c := by
  unfold denI at h
  split at h
  · rename_i x p args pos
    split at h
    · rename_i hb
      rw [Bool.and_eq_true, decide_eq_true_iff] at hb
      obtain ⟨e, hb⟩ := hb
      subst e
      obtain ⟨b1, b2⟩ := isBlt_ok (N := N) (top := top) dk hb
      exact denRg_ok rk b1 b2 h
    · split at h
      · rename_i hb
        rw [Bool.and_eq_true, decide_eq_true_iff] at hb
        obtain ⟨e, hb⟩ := hb
        subst e
        obtain ⟨b1, b2⟩ := isBlt_ok (N := N) (top := top) dk hb
        exact denEn_ok rk b1 b2 h
      · split at h
        · rename_i hb
          rw [Bool.and_eq_true, decide_eq_true_iff] at hb
          obtain ⟨e, hb⟩ := hb
          subst e
          obtain ⟨b1, b2⟩ := isBlt_ok (N := N) (top := top) dk hb
          exact denRv_ok rk b1 b2 h
        · obtain ⟨c', h1, h2⟩ := Option.map_eq_some_iff.mp h
          subst h2
          exact si_seq (rk.e _ _ _ _ _ h1)
  · obtain ⟨c', h1, h2⟩ := Option.map_eq_some_iff.mp h
    subst h2
    exact si_seq (rk.e _ _ _ _ _ h1)
include rk in
theorem denTs_ok {scope : Scope} {es : List Expr} {t : MT} (h : denTs R sc scope es = some t) : SPT (compB ⟨G, N, sc, k, top⟩ scope) es t := by
  unfold denTs at h
  split at h
  · cases h
    exact .nil
  · exact .one (rk.t _ _ _ _ h).1
  · cases h
include dk rk in
theorem denLc_ok {elt tg it : Expr} {ifs : List Expr} {scope : Scope} {pos : Pos} {c : ME} (h : denLc D N R sc top fz elt tg it ifs scope = some c) : SE ⟨G, N, sc, k, top⟩ (.ListComp elt [⟨tg, it, ifs, 0⟩] scope pos) c := by
  unfold denLc at h
  split at h
  · rename_i hb
    rw [Bool.and_eq_true] at hb
    split at h
    · rename_i src t tt te h1 h2 h3 h4
      split at h
      · rename_i hv
        cases h
        exact se_lc (denI_ok dk rk h1) hb.2 (denG_ok (k := k) 20 h2) (denTs_ok rk h3) (rk.e _ _ _ _ _ h4) hb.1 hv
      · cases h
    · cases h
  · cases h
include dk rk in
theorem denE_ok {e : Expr} {c : ME} (h : denE D N R sc top fz e = some c) : SE ⟨G, N, sc, k, top⟩ e c := by
  unfold denE at h
  split at h
  · exact denName_ok dk h
  · exact denCon_ok h
  · split at h
    · rename_i h1 h2 h3
      cases h
      exact se_bin (binF_ok h3).1 (fun X o => by have := (binF_ok h3).2 X G.T; rw [o.hK] at this; exact this) (rk.e _ _ _ _ _ h1) (rk.e _ _ _ _ _ h2)
    · cases h
  · obtain ⟨c', h1, h2⟩ := Option.map_eq_some_iff.mp h
    subst h2
    exact se_not (rk.e _ _ _ _ _ h1)
  · obtain ⟨c', h1, h2⟩ := Option.map_eq_some_iff.mp h
    subst h2
    exact se_un negU_calm (fun X o => by rw [← o.hK]; exact ur_neg) (rk.e _ _ _ _ _ h1)
  · exact se_one (rk.e _ _ _ _ _ h)
  · split at h
    · rename_i h1 h2
      cases h
      exact se_and (rk.e _ _ _ _ _ h1) (rk.e _ _ _ _ _ h2)
    · cases h
  · split at h
    · rename_i h1 h2
      cases h
      exact se_or (rk.e _ _ _ _ _ h1) (rk.e _ _ _ _ _ h2)
    · cases h
  · split at h
    · cases h
    · rename_i hm
      split at h
      · rename_i h1 h2 h3
        cases h
        exact se_cmp (cmpF_ok h3).1 (fun X o => by have := (cmpF_ok h3).2 X G.T o.room.units; rw [o.hK] at this; exact this) (by simpa using hm) (rk.e _ _ _ _ _ h1) (rk.e _ _ _ _ _ h2)
      · cases h
  · split at h
    · cases h
    · rename_i hm
      split at h
      · rename_i h1 h2 h3 h4 h5
        cases h
        exact se_chain (cmpF_ok h4).1 (cmpF_ok h5).1 (fun X o => by have := (cmpF_ok h4).2 X G.T o.room.units; rw [o.hK] at this; exact this) (fun X o => by have := (cmpF_ok h5).2 X G.T o.room.units; rw [o.hK] at this; exact this) (by simpa using hm) (rk.e _ _ _ _ _ h1) (rk.e _ _ _ _ _ h2) (rk.e _ _ _ _ _ h3)
      · cases h
  · split at h
    · rename_i h1 h2 h3
      cases h
      exact se_if (rk.t _ _ _ _ h1).1 (rk.e _ _ _ _ _ h2) (rk.e _ _ _ _ _ h3)
    · cases h
  · exact denCall_ok dk rk h
  · exact denMeth_ok dk rk h
  · split at h
    · rename_i hs
      split at h
      · rename_i h1 h2
        cases h
        exact se_att dk.inj dk.na (dk.att _ _ h1) hs (rk.e _ _ _ _ _ h2)
      · cases h
    · cases h
  · obtain ⟨c', h1, h2⟩ := Option.map_eq_some_iff.mp h
    subst h2
    exact se_rev (rk.e _ _ _ _ _ h1)
  · split at h
    · rename_i h1 h2 h3
      cases h
      exact se_slice (rk.e _ _ _ _ _ h1) (denO_ok rk h2) (denO_ok rk h3)
    · cases h
  · split at h
    · rename_i hn
      split at h
      · rename_i h1 h2
        cases h
        exact se_ix (noSl_ne hn) (rk.e _ _ _ _ _ h1) (rk.e _ _ _ _ _ h2)
      · cases h
    · cases h
  · obtain ⟨c', h1, h2⟩ := Option.map_eq_some_iff.mp h
    subst h2
    exact se_lst (denA_ok rk h1).1
  · obtain ⟨c', h1, h2⟩ := Option.map_eq_some_iff.mp h
    subst h2
    exact se_tup (denA_ok rk h1).1
  · cases h
    exact se_dct0
  · split at h
    · rename_i hl
      rw [Bool.and_eq_true, decide_eq_true_iff] at hl
      obtain ⟨c', h1, h2⟩ := Option.map_eq_some_iff.mp h
      subst h2
      exact se_dct (denP_ok rk h1) (by
        intro z
        rw [z] at hl
        simp at hl) hl.1
    · cases h
  · exact denLc_ok dk rk h
  · cases h
theorem plain_true {e : Expr} (h : plainT e = true) (env : Env) (w : Sem Value) : isTrue e env w = (do
    let v ← w
    standAt e.pos
    holding [v] (truthy v)) := by
  cases e <;> first | rfl | skip
  case UnaryOp op a p => cases op <;> first | rfl | (cases h)
  all_goals (cases h)
include rk in
theorem denT_ok {e : Expr} {t : MT} (h : denT R sc top e = some t) : ST ⟨G, N, sc, k, top⟩ e t ∧ ∀ op vs p, e = .BoolOp op vs p → SW ⟨G, N, sc, k, top⟩ e t := by
  unfold denT at h
  split at h
  · obtain ⟨c', h1, h2⟩ := Option.map_eq_some_iff.mp h
    subst h2
    exact ⟨st_not (rk.t _ _ _ _ h1).1, fun _ _ _ z => nomatch z⟩
  · have z := sw_and1 (pos := ‹Pos›) (rk.t _ _ _ _ h).1
    exact ⟨st_w z, fun _ _ _ _ => z⟩
  · have z := sw_or1 (pos := ‹Pos›) (rk.t _ _ _ _ h).1
    exact ⟨st_w z, fun _ _ _ _ => z⟩
  · split at h
    · rename_i h1 h2
      cases h
      have z := sw_and (rk.t _ _ _ _ h1).1 ((rk.t _ _ _ _ h2).2 _ _ _ rfl)
      exact ⟨st_w z, fun _ _ _ _ => z⟩
    · cases h
  · split at h
    · rename_i h1 h2
      cases h
      have z := sw_or (rk.t _ _ _ _ h1).1 ((rk.t _ _ _ _ h2).2 _ _ _ rfl)
      exact ⟨st_w z, fun _ _ _ _ => z⟩
    · cases h
  · split at h
    · cases h
    · rename_i hm
      split at h
      · rename_i h1 h2 h3
        cases h
        exact ⟨st_cmp (cmpF_ok h3).1 (fun X o => by have := (cmpF_ok h3).2 X G.T o.room.units; rw [o.hK] at this; exact this) (by simpa using hm) (rk.e _ _ _ _ _ h1) (rk.e _ _ _ _ _ h2), fun _ _ _ z => nomatch z⟩
      · cases h
  · split at h
    · cases h
    · rename_i hm
      split at h
      · rename_i h1 h2 h3 h4 h5
        cases h
        exact ⟨st_chain (cmpF_ok h4).1 (cmpF_ok h5).1 (fun X o => by have := (cmpF_ok h4).2 X G.T o.room.units; rw [o.hK] at this; exact this) (fun X o => by have := (cmpF_ok h5).2 X G.T o.room.units; rw [o.hK] at this; exact this) (by simpa using hm) (rk.e _ _ _ _ _ h1) (rk.e _ _ _ _ _ h2) (rk.e _ _ _ _ _ h3), fun _ _ _ z => nomatch z⟩
      · cases h
  · split at h
    · rename_i hp
      obtain ⟨c', h1, h2⟩ := Option.map_eq_some_iff.mp h
      subst h2
      exact ⟨st_truth (rk.e _ _ _ _ _ h1) fun X w _ => plain_true hp X.env w, fun op vs p z => by subst z; cases hp⟩
    · cases h
end
theorem rd_ok {D : Dn} {N : List Str} {G : Glo} {k : Nat} (dk : DnOk G k D) : ∀ n : Nat, RdOk G k N (rd D N n)
  | 0 => ⟨fun _ _ _ _ _ h => (nomatch h), fun _ _ _ _ h => (nomatch h)⟩
  | n + 1 => ⟨fun _ _ _ _ _ h => denE_ok dk (rd_ok dk n) h, fun _ _ _ _ h => denT_ok (rd_ok dk n) h⟩
end KB
/-! More statements; the statements are read. -/
namespace KB
open PySem L2

/-! ### op= -/
def iaddU := intOp (fun _ _ => true) fun i j => i + j
def isubU := intOp (fun _ _ => true) fun i j => i - j
def imulU := intOp cMulOk fun i j => i * j
def augF : Operator → Option (U → U → Sto → Re U)
  | .Add => some iaddU
  | .Sub => some isubU
  | .Mult => some imulU
  | _ => none
theorem cMulOk_ok {i j : Int} (h : cMulOk i j = true) : CMul i j := by
  unfold cMulOk at h
  rw [Bool.or_eq_true] at h
  rcases h with h | h
  · exact .inl (smallF_ok h)
  · exact .inr (smallF_ok h)
theorem augF_ok {op : Operator} {f : U → U → Sto → Re U} (h : augF op = some f) : Calm2 f ∧ ∀ (X : Cx) (T : Tab), OpR X (inplaceOp op) (ok2 X.K T f) := by
  cases op <;> simp only [augF] at h <;> first | (cases h; done) | skip
  all_goals cases h
  · exact ⟨intOp_calm, fun X T => op_intOp0 iop_add⟩
  · exact ⟨intOp_calm, fun X T => op_intOp0 iop_sub⟩
  · exact ⟨intOp_calm, fun X T => op_intOp iop_mul fun i j h => cMulOk_ok h⟩
section
variable {B : Blk} {e o i : Expr} {c co ci : ME} {body : List Stmt} {b : MS} {t : MT} {pos p1 p2 : Pos} {op : Operator} {f : U → U → Sto → Re U}
theorem ss_aug {n : Nat} {x : Str} (hf : Calm2 f) (ho : ∀ X, B.ok X → OpR X (inplaceOp op) (ok2 B.G.K B.G.T f)) (hi : B.N[n]? = some x) (hs : stor B x) (h : SE B e c) : SS B (.AugAssign (.Name x p1) op e pos) (sAug n f c) := by
  intro X ok W tk
  have hN : X.N.Nodup := by rw [ok.hN]; exact ok.nd
  have hx : Loc X.env.scope x ∧ (X.fn x = true ∨ X.env.scope.names.lookup x = some .local) := by
    rcases hs with z | ⟨z, y⟩
    · exact ⟨.inl (by rw [ok.hsc]; exact z), .inr (by rw [ok.hsc]; exact z)⟩
    · exact ⟨.inr (by rw [ok.hsc]; exact y), .inl (ok.fn z x)⟩
  refine PS.imp (ps_aug (i := n) hN (by rw [ok.hN]; exact hi) hx.1 (h X ok W tk) (ho X ok) hx.2) ?_
  rintro Z σ H ⟨F, m, env, st, hR, hV, g⟩
  unfold sAug at g
  split at g
  · rename_i u hu
    obtain ⟨v, h1, h2⟩ := hV.at_ n u hu
    refine ⟨v, h1, F, m, env, st, hR, hV, (goES hV g).imp ?_⟩
    rintro y H1 ⟨F1, m1, st1, w, s1, q1, hR1, hV1, r1, g1⟩
    split at g1
    · rename_i r st' hr
      refine ⟨F1, m1, st1, u, w, hR1, h2.mono s1 q1, r1, ?_⟩
      rw [hr]
      intro F2 m2 H2 z s2 q2 hR2 rz
      exact g1 F2 m2 H2 _ s2 q2 hR2 ((hV1.mono s2 q2).set rz n)
    · exact g1.elim
  · exact g.elim

/-! ### o[i] op= e -/
/-- o[i] for a list that is no script, the place at or above 0; for a dict -/
def getU : U → U → Sto → Option U
  | .c n, i, st => match st[n]? with
    | some (.lst us) => (match i with
      | .d (.int k) => if 0 ≤ k ∧ k < 16777216 then us[k.toNat]? else none
      | _ => none)
    | some (.dct kvs) => (match keyU i with
      | some k => valK kvs k
      | none => none)
    | _ => none
  | _, _, _ => none
def okGet (K : PySem.W.Frag) (T : Tab) : V → V → Hp → VK → Prop := fun o i H Q => ∃ F m st uo ui r, Rl K T F m st H ∧ RU K T F m o uo ∧ RU K T F m i ui ∧ getU uo ui st = some r ∧ ∀ v, RU K T F m v r → Q v H
theorem pget_ok {X : Cx} {T : Tab} (hu : X.A.units + 1 < cLine) : PGet X (okGet X.K T) := by
  intro pins s σ H o i ov iv Q I ro ri h
  obtain ⟨F, m, st, uo, ui, r, hR, qo, qi, hs, k⟩ := h
  unfold getU at hs
  split at hs
  · rename_i n _ _
    cases qo with
    | c hn =>
      split at hs
      · rename_i us he
        obtain ⟨a, ho, h1, h2, h3, h4⟩ := hR.obj _ _ he
        rw [hn] at h1
        cases h1
        split at hs
        · cases qi with
          | d qi =>
            cases qi
            split at hs
            · rename_i hk
              cases h4 with
              | lst rr =>
                obtain ⟨v, hv, rv⟩ := rr.get hs
                cases ro
                obtain ⟨tk, rfl⟩ := ri
                obtain ⟨its, r', pl, hz⟩ := I.list (SqL.of h2)
                obtain ⟨w, ew, rw'⟩ := r'.get hv
                have l63 := line63
                exact wpAny_getItem_list pl.isList hk.1 (by omega) (by simpa using ew) ⟨v, H, I, rw', k v rv⟩
            · cases hs
        · cases hs
      · rename_i kvs he
        obtain ⟨a, ho, h1, h2, h3, h4⟩ := hR.obj _ _ he
        rw [hn] at h1
        cases h1
        split at hs
        · rename_i key hk
          have ei := keyU_ok qi hk
          subst ei
          cases h4 with
          | dct rr =>
            obtain ⟨v, h5, h6⟩ := (valK_ok rr key).1 r hs
            cases ro
            exact d_getItem hu I (by rw [← h5]; exact DGet.k h2) ri fun w' s' J rw' => ⟨v, H, J, rw', k v h6⟩
        · cases hs
      · cases hs
  · cases hs
def sPutA (f : U → U → Sto → Re U) (o i c : ME) : MS := sVal o fun ov => sVal i fun iv env st => match getU ov iv st with
  | some old => sVal c (fun v env st2 => match f old v st2 with
    | .ok new st3 => (match setU ov iv new st3 with
      | some st4 => .ok .nx env st4
      | none => .bad)
    | _ => .bad) env st
  | none => .bad
theorem ss_putA {p3 : Pos} (hf : Calm2 f) (hop : ∀ X, B.ok X → OpR X (inplaceOp op) (ok2 B.G.K B.G.T f)) (hi0 : noSl i = true) (h : SE B e c) (ho : SE B o co) (hi : SE B i ci) : SS B (.AugAssign (.Subscript o i p3) op e pos) (sPutA f co ci c) := by
  intro X ok W tk
  have hS : PSet X (okSet X.K B.G.T) := ps_okSet (by have := ok.room.units; omega)
  rw [ok.hK] at hS
  have hG : PGet X (okGet X.K B.G.T) := pget_ok (by have := ok.room.units; omega)
  rw [ok.hK] at hG
  refine PS.imp (ps_augS (ho X ok W tk) (hi X ok W tk) hG (h X ok W tk) (hop X ok) hS (aug_plain hi0)) ?_
  rintro Z σ H ⟨F, m, env, st, hR, hV, g⟩
  refine ⟨F, m, env, st, hR, hV, (goES hV g).imp ?_⟩
  rintro ov H1 ⟨F1, m1, st1, uo, s1, q1, hR1, hV1, r1, g1⟩
  refine ⟨F1, m1, env, st1, hR1, hV1, (goES hV1 g1).imp ?_⟩
  rintro iv H2 ⟨F2, m2, st2, ui, s2, q2, hR2, hV2, r2, g2⟩
  split at g2
  · rename_i old hold
    refine ⟨F2, m2, st2, uo, ui, old, hR2, r1.mono s2 q2, r2, hold, fun v rv => ?_⟩
    refine ⟨F2, m2, env, st2, hR2, hV2, (goES hV2 g2).imp ?_⟩
    rintro y H3 ⟨F3, m3, st3, w, s3, q3, hR3, hV3, r3, g3⟩
    split at g3
    · rename_i new st4 hn
      refine ⟨F3, m3, st3, old, w, hR3, rv.mono s3 q3, r3, ?_⟩
      rw [hn]
      intro F4 m4 H4 z s4 q4 hR4 rz
      split at g3
      · rename_i st5 hset
        exact ⟨F4, m4, st4, uo, ui, new, st5, hR4, ((r1.mono s2 q2).mono s3 q3).mono s4 q4, (r2.mono s3 q3).mono s4 q4, rz, hset, fun H' hR' => g3 F4 m4 H' σ s4 q4 hR' (hV3.mono s4 q4)⟩
      · exact g3.elim
    · exact g3.elim
  · exact g2.elim

/-! ### while -/
theorem goS_nx {K : PySem.W.Frag} {T : Tab} {W : WX} {F : Hp} {m : List Addr} {Z : Ends} {env : Lo} {st : Sto} {σ : St} {H : Hp} (g : GoS K T W F m (.ok .nx env st) Z) (hR : Rl K T F m st H) (hV : Rv K T F m env σ) : Z.nx σ H :=
  g F m H σ (Same.refl _) (pre_refl _) hR hV
theorem ss_while (ht : ST B e t) (hb : SSs B body b) (n : Nat) : SS B (.While e body [] pos) (whileU t b n) := by
  intro X ok W tk
  refine PS.imp (ps_while ok.own (ht X ok W tk) (hb X ok W tk)) ?_
  rintro Z σ H ⟨F, m, env, st, hR, hV, g⟩
  refine ⟨fun j σ H => ∃ F m env st, Rl B.G.K B.G.T F m st H ∧ Rv B.G.K B.G.T F m env σ ∧ GoS B.G.K B.G.T W F m (whileU t b j env st) Z, ⟨n, F, m, env, st, hR, hV, g⟩, ?_⟩
  rintro j σ1 H1 ⟨F1, m1, env1, st1, hR1, hV1, g1⟩
  cases j with
  | zero => exact g1.elim
  | succ j =>
    refine ⟨F1, m1, env1, st1, hR1, hV1, ?_⟩
    unfold whileU at g1
    cases h : t env1 st1 with
    | bad =>
      rw [h] at g1
      exact g1.elim
    | exc z st2 =>
      rw [h] at g1
      exact fun F' m' H' cc d x y hR' r => g1 F' m' H' σ1 cc d x y hR' (hV1.mono x y) r
    | ok k st2 =>
      rw [h] at g1
      intro F2 m2 H2 s2 q2 hR2
      cases k with
      | false => exact g1 F2 m2 H2 σ1 s2 q2 hR2 (hV1.mono s2 q2)
      | true =>
        rw [if_pos rfl]
        simp only at g1
        refine ⟨fun σ H => ∃ F m env st, Rl B.G.K B.G.T F m st H ∧ Rv B.G.K B.G.T F m env σ ∧ GoS B.G.K B.G.T W F m (whileU t b j env st) Z, fun σ' H' z => ⟨j, Nat.lt_succ_self _, z⟩, F2, m2, env1, st2, hR2, hV1.mono s2 q2, ?_⟩
        have g2 : GoS B.G.K B.G.T W F2 m2 _ Z := GoS.up s2 q2 g1
        cases hb : b env1 st2 with
        | bad =>
          rw [hb] at g2
          exact g2.elim
        | exc z en st3 =>
          rw [hb] at g2
          exact g2
        | ok fl en st3 =>
          rw [hb] at g2
          cases fl with
          | nx => exact fun F' m' H' σ' x y hR' hV' => ⟨F', m', en, st3, hR', hV', GoS.up x y g2⟩
          | ct => exact fun F' m' H' σ' x y hR' hV' => ⟨F', m', en, st3, hR', hV', GoS.up x y g2⟩
          | bk => exact g2
          | rt u => exact g2
end

/-- a place that is not reached -/
def sBad : MS := fun _ _ => .bad
theorem ss_bad {B : Blk} {s : Stmt} : SS B s sBad := by
  intro X ok W tk
  refine ⟨fun pins s σ H Z I h => ?_⟩
  obtain ⟨F, m, env, st, hR, hV, g⟩ := h
  exact g.elim
/-! ### statements -/
section
variable (D : Dn) (N : List Str) (R : Rd) (sc : Scope) (M : List Str) (rf : Bool)
def denLst (S : Stmt → Option MS) : List Stmt → Option MS
  | [] => some sNil
  | s :: ss => match S s, denLst S ss with
    | some a, some b => some (sSeq a b)
    | _, _ => none
/-- name = e -/
def denSet (x : Str) (p1 : Pos) (e : Expr) : Option MS :=
  if storB sc true x then (match posOf N x with
    | some i => (match e with
      | .ListComp elt [⟨tg, it, ifs, 0⟩] scope vpos =>
        if swB sc scope x p1 vpos then (if sc.names.lookup x = some .local then (denLc D N R sc true (!M.contains x) elt tg it ifs scope).map (sAsg (.nm i)) else none)
        else (denLc D N R sc true (!M.contains x) elt tg it ifs scope).map (sAsg (.nm i))
      | e => if noComp e then (R.e sc true (!M.contains x) e).map (sAsg (.nm i)) else none)
    | none => none) else none
/-- raise C("..") | raise C(e) -/
def denRaise : Expr → Option MS
  | .Call (.Name x _) [a] [] _ => if isDbg x then none else if glbB sc x then (match D.globs.lookup x with
    | some (.err i none) => (match a with
      | .Constant (.str _) _ _ => some (sRaiseC i)
      | _ => none)
    | some (.err i (some f)) => if noStar a then (R.e sc true true a).map (sRaiseO i f) else none
    | _ => none) else none
  | _ => none
/-- the class of an except clause -/
def denNm (x : Str) : Option Cl := if isDbg x then none else if glbB sc x then (match D.globs.lookup x with
    | some (.err i _) => some (.own i)
    | some (.cls i _) => some (.own i)
    | some .blt => if x = "ValueError" then some (.ty "ValueError") else none
    | _ => none) else none
/-- an except suite -/
def denH : List Stmt → Option MS
  | [.Assign [.Name x _] (.Constant .none _ _) _] => if storB sc true x then (posOf N x).map fun i => sSeq (sAsg (.nm i) (cPure (.d .non))) sNil else none
  | [.Assign [.Name x _] (.Name y _) _] => if storB sc true x && (visB sc y && !isDbg y) then (match posOf N x, posOf N y with
    | some i, some j => some (sSeq (sAsg (.nm i) (cVar j)) sNil)
    | _, _ => none) else none
  | [.Return (some (.Constant .none _ _)) _] => some (sSeq (sRet (cPure (.d .non))) sNil)
  | _ => none
def denStm (Ss : List Stmt → Option MS) : Stmt → Option MS
  | .Pass _ => some sNil
  | .Expr e _ => if noComp e then (R.e sc true true e).map sExp else none
  | .Return none _ => some sRetN
  | .Return (some e) _ => (R.e sc true rf e).map sRet
  | .If e p q _ => (match R.t sc true e, Ss p, Ss q with
    | some t, some a, some b => some (sIf t a b)
    | _, _, _ => none)
  | .Assign [.Name x p1] e _ => denSet D N R sc M x p1 e
  | .Assign [.Tuple [.Name x px, .Name y py] kt pt] (.Tuple [a, b] k2 pt2) _ => if swP sc x y px py a b && (noStar a && noStar b) then (match posOf N x, posOf N y, R.e sc true (!M.contains x) a, R.e sc true (!M.contains y) b with
    | some i, some j, some c, some d => some (sPar i j (cCons c (cCons d cNil)))
    | _, _, _, _ => none) else none
  | .Assign [.Tuple es k p1] e _ => if noTup e then (match denG N sc true 20 (.Tuple es k p1), R.e sc true true e with
    | some t, some c => some (sAsg t c)
    | _, _ => none) else none
  | .Assign [.Subscript o i _] e _ => if noSl i then (match R.e sc true true e, R.e sc true true o, R.e sc true true i with
    | some c, some co, some ci => some (sPut co ci c)
    | _, _, _ => none) else none
  | .Assign [.Attribute o f _] e _ => (match posOf D.atts f, R.e sc true (!M.contains f) e, R.e sc true true o with
    | some i, some c, some co => some (sFld D.na i co c)
    | _, _, _ => none)
  | .AugAssign (.Name x _) op e _ => if storB sc true x then (match posOf N x, augF op, R.e sc true true e with
    | some i, some f, some c => some (sAug i f c)
    | _, _, _ => none) else none
  | .AugAssign (.Subscript o i _) op e _ => if noSl i then (match augF op, R.e sc true true e, R.e sc true true o, R.e sc true true i with
    | some f, some c, some co, some ci => some (sPutA f co ci c)
    | _, _, _, _ => none) else none
  | .For tg it body [] _ => if noSet it then (match denI D R sc true tg it, denG N sc true 20 tg, Ss body with
    | some src, some t, some b => some (sFor src t b)
    | _, _, _ => none) else none
  | .Raise (some e) none _ => some ((denRaise D R sc e).getD sBad)
  | .Try b [.ExceptHandler (some (.Name x _)) none (b₀ :: suite) _] [] [] _ => (match denNm D sc x, Ss b, denH N sc (b₀ :: suite) with
    | some k, some cb, some ch => some (sTry D.exms k cb ch)
    | _, _, _ => none)
  | .Try b [.ExceptHandler (some (.Name x _)) (some n) (b₀ :: suite) _] [] [] _ => (match denNm D sc x, Ss b, denH N sc (b₀ :: suite), posOf N n with
    | some k, some cb, some ch, some i => if sc.names.lookup n = some .local then some (sTryAs D.exms k i cb ch) else none
    | _, _, _, _ => none)
  | .While e body [] _ => (match R.t sc true e, Ss body with
    | some t, some b => some (whileU t b 1000000)
    | _, _ => none)
  | _ => none
def stm : Nat → Stmt → Option MS
  | 0 => fun _ => none
  | n + 1 => denStm D N R sc M rf (denLst (stm n))
end
section
variable {D : Dn} {N : List Str} {R : Rd} {G : Glo} {k : Nat} (dk : DnOk G k D) (rk : RdOk G k N R) {sc : Scope} {M : List Str} {rf : Bool}
include dk rk in
theorem denRaise_ok {e : Expr} {pos : Pos} {c : MS} (h : denRaise D R sc e = some c) : SS ⟨G, N, sc, k, true⟩ (.Raise (some e) none pos) c := by
  unfold denRaise at h
  split at h
  · split at h
    · cases h
    · rename_i hd
      obtain ⟨d1, d2⟩ := isDbg_no (by simpa using hd)
      split at h
      · rename_i hg
        split at h
        · rename_i i hl
          obtain ⟨z1, z2, z3⟩ := dk.glob _ (look_mem hl)
          split at h
          · cases h
            exact ss_raiseC (glbB_ok hg) z1 d1 (z2 rfl)
          · cases h
        · rename_i i f hl
          obtain ⟨z1, z2, z3⟩ := dk.glob _ (look_mem hl)
          obtain ⟨j, y1, y2⟩ := z3 f rfl
          split at h
          · rename_i hs
            obtain ⟨c', h1, h2⟩ := Option.map_eq_some_iff.mp h
            subst h2
            exact ss_raiseO y2 y1 (glbB_ok hg) z1 d1 hs (rk.e _ _ _ _ _ h1)
          · cases h
        · cases h
      · cases h
  · cases h
include dk in
theorem denNm_ok {x : Str} {kk : Cl} (h : denNm D sc x = some kk) : NmOk ⟨G, N, sc, k, true⟩ x kk := by
  unfold denNm at h
  split at h
  · cases h
  · rename_i hd
    obtain ⟨d1, d2⟩ := isDbg_no (by simpa using hd)
    split at h
    · rename_i hg
      split at h
      · rename_i i f hl
        cases h
        exact ⟨glbB_ok hg, d1, .inl ⟨i, rfl, (dk.glob _ (look_mem hl)).1⟩⟩
      · rename_i i mk hl
        cases h
        exact ⟨glbB_ok hg, d1, .inl ⟨i, rfl, (dk.glob _ (look_mem hl)).1⟩⟩
      · rename_i hl
        have hm : G.mg x = none := dk.glob _ (look_mem hl)
        split at h
        · rename_i e
          subst e
          cases h
          exact ⟨glbB_ok hg, d1, .inr ⟨"ValueError", rfl, hm, by decide +kernel, by decide +kernel⟩⟩
        · cases h
      · cases h
    · cases h
theorem denH_ok {ss : List Stmt} {c : MS} (h : denH N sc ss = some c) : SH ⟨G, N, sc, k, true⟩ ss c := by
  unfold denH at h
  split at h
  · split at h
    · rename_i hs
      obtain ⟨i, h1, h2⟩ := Option.map_eq_some_iff.mp h
      subst h2
      exact sh_none (posOf_ok h1) (storB_ok hs)
    · cases h
  · split at h
    · rename_i hs
      rw [Bool.and_eq_true, Bool.and_eq_true, Bool.not_eq_true'] at hs
      obtain ⟨d1, d2⟩ := isDbg_no hs.2.2
      split at h
      · rename_i h1 h2
        cases h
        exact sh_var (posOf_ok h1) (storB_ok hs.1) (posOf_ok h2) (visB_ok hs.2.1) d1 d2
      · cases h
    · cases h
  · cases h
    exact sh_retN
  · cases h
theorem denLst_ok {B : Blk} {S : Stmt → Option MS} (hS : ∀ s c, S s = some c → SS B s c) : ∀ {ss : List Stmt} {c : MS}, denLst S ss = some c → SSs B ss c
  | [], c, h => by
    simp only [denLst] at h
    cases h
    exact sss_nil
  | s :: ss, c, h => by
    simp only [denLst] at h
    split at h
    · rename_i a b h1 h2
      cases h
      exact sss_cons (hS _ _ h1) (denLst_ok hS h2)
    · cases h
include dk rk in
theorem denSet_ok {x : Str} {p1 pos : Pos} {e : Expr} {c : MS} (h : denSet D N R sc M x p1 e = some c) : SS ⟨G, N, sc, k, true⟩ (.Assign [.Name x p1] e pos) c := by
  unfold denSet at h
  split at h
  · rename_i hs
    split at h
    · rename_i i hi
      split at h
      · rename_i elt tg it ifs scope vpos
        split at h
        · rename_i hw
          split at h
          · rename_i hl
            obtain ⟨c', h1, h2⟩ := Option.map_eq_some_iff.mp h
            subst h2
            unfold denLc at h1
            split at h1
            · rename_i hb
              rw [Bool.and_eq_true] at hb
              split at h1
              · rename_i src t tt te z1 z2 z3 z4
                split at h1
                · rename_i hv
                  cases h1
                  exact ss_setLc (posOf_ok hi) hl (fun env he => by rw [swaps_lc he, hw]) (denI_ok dk rk z1) hb.2 (denG_ok (k := k) 20 z2) (denTs_ok rk z3) (rk.e _ _ _ _ _ z4) hb.1 hv
                · cases h1
              · cases h1
            · cases h1
          · cases h
        · rename_i hw
          obtain ⟨c', h1, h2⟩ := Option.map_eq_some_iff.mp h
          subst h2
          exact ss_set_ (posOf_ok hi) (storB_ok hs) (denLc_ok dk rk h1) fun env he => by rw [swaps_lc he, (by simpa using hw : swB sc scope x p1 vpos = false)]
      · split at h
        · rename_i hn
          obtain ⟨c', h1, h2⟩ := Option.map_eq_some_iff.mp h
          subst h2
          exact ss_set (posOf_ok hi) (storB_ok hs) (rk.e _ _ _ _ _ h1) hn
        · cases h
    · cases h
  · cases h
include dk rk in
theorem denStm_ok {Ss : List Stmt → Option MS} (hS : ∀ s c, Ss s = some c → SSs ⟨G, N, sc, k, true⟩ s c) {s : Stmt} {c : MS} (h : denStm D N R sc M rf Ss s = some c) : SS ⟨G, N, sc, k, true⟩ s c := by
  unfold denStm at h
  split at h
  · cases h
    exact ss_pass
  · split at h
    · rename_i hn
      obtain ⟨c', h1, h2⟩ := Option.map_eq_some_iff.mp h
      subst h2
      exact ss_expr (rk.e _ _ _ _ _ h1) hn
    · cases h
  · cases h
    exact ss_retN
  · obtain ⟨c', h1, h2⟩ := Option.map_eq_some_iff.mp h
    subst h2
    exact ss_ret (rk.e _ _ _ _ _ h1)
  · split at h
    · rename_i h1 h2 h3
      cases h
      exact ss_if (rk.t _ _ _ _ h1).1 (hS _ _ h2) (hS _ _ h3)
    · cases h
  · exact denSet_ok dk rk h
  · split at h
    · rename_i hn
      rw [Bool.and_eq_true, Bool.and_eq_true] at hn
      split at h
      · rename_i h1 h2 h3 h4
        cases h
        exact ss_par (posOf_ok h1) (posOf_ok h2) hn.1 (sa_cons hn.2.1 (rk.e _ _ _ _ _ h3) (sa_cons hn.2.2 (rk.e _ _ _ _ _ h4) sa_nil))
      · cases h
    · cases h
  · split at h
    · rename_i hn
      split at h
      · rename_i h1 h2
        cases h
        exact ss_setT (denG_ok (k := k) 20 h1) (rk.e _ _ _ _ _ h2) hn
      · cases h
    · cases h
  · split at h
    · rename_i hn
      split at h
      · rename_i h1 h2 h3
        cases h
        exact ss_put hn (rk.e _ _ _ _ _ h1) (rk.e _ _ _ _ _ h2) (rk.e _ _ _ _ _ h3)
      · cases h
    · cases h
  · split at h
    · rename_i h1 h2 h3
      cases h
      exact ss_fld dk.inj dk.na (dk.att _ _ h1) (rk.e _ _ _ _ _ h3) (rk.e _ _ _ _ _ h2)
    · cases h
  · split at h
    · rename_i hs
      split at h
      · rename_i h1 h2 h3
        cases h
        exact ss_aug (augF_ok h2).1 (fun X o => by have := (augF_ok h2).2 X G.T; rw [o.hK] at this; exact this) (posOf_ok h1) (storB_ok hs) (rk.e _ _ _ _ _ h3)
      · cases h
    · cases h
  · split at h
    · rename_i hn
      split at h
      · rename_i h1 h2 h3 h4
        cases h
        exact ss_putA (augF_ok h1).1 (fun X o => by have := (augF_ok h1).2 X G.T; rw [o.hK] at this; exact this) hn (rk.e _ _ _ _ _ h2) (rk.e _ _ _ _ _ h3) (rk.e _ _ _ _ _ h4)
      · cases h
    · cases h
  · split at h
    · rename_i hn
      split at h
      · rename_i h1 h2 h3
        cases h
        exact ss_for (denI_ok dk rk h1) (denG_ok (k := k) 20 h2) (hS _ _ h3) hn
      · cases h
    · cases h
  · rename_i e pos
    cases h
    cases hr : denRaise D R sc e with
    | some c => exact denRaise_ok dk rk hr
    | none => exact ss_bad
  · split at h
    · rename_i h1 h2 h3
      cases h
      exact ss_try rfl dk.xm (denNm_ok dk h1) (hS _ _ h2) (denH_ok h3)
    · cases h
  · split at h
    · rename_i h1 h2 h3 h4
      split at h
      · rename_i hl
        cases h
        exact ss_tryAs rfl dk.xm (denNm_ok dk h1) (posOf_ok h4) hl (hS _ _ h2) (denH_ok h3)
      · cases h
    · cases h
  · split at h
    · rename_i h1 h2
      cases h
      exact ss_while (rk.t _ _ _ _ h1).1 (hS _ _ h2) 1000000
    · cases h
  · cases h
include dk rk in
theorem stm_ok : ∀ (n : Nat) {s : Stmt} {c : MS}, stm D N R sc M rf n s = some c → SS ⟨G, N, sc, k, true⟩ s c
  | 0, s, c, h => by
    simp only [stm] at h
    cases h
  | n + 1, s, c, h => denStm_ok dk rk (fun s c h => denLst_ok (fun s c h => stm_ok n h) h) h
end
/-- a def's body is read; M: the names whose new lists and dicts are changed later -/
def body (D : Dn) (N : List Str) (sc : Scope) (M : List Str) (rf : Bool) (ss : List Stmt) : Option MS := denLst (stm D N (rd D N 60) sc M rf 30) ss
theorem def_ok {G : Glo} {k : Nat} {f : Addr} {name qual : Str} {params : Arguments} {bd : List Stmt} {scope : Scope} {dV kV doc pm cdv ct oc : Value} {an od : Option Addr} {osl : Array (Option Value)} {N ps M : List Str} {D : Dn} {b : Bool → MS}
    (dk : DnOk G k D) (lk : G.K.lookup f = some ⟨oc, od, .func (PySem.W.fnOf name qual params bd scope dV kV doc pm an cdv ct), osl⟩) (hcd : PySem.W.codeIn G.K cdv qual = true) (S : FnScope N ps scope) (hb : ∀ rf, body D N scope M rf bd = some (b rf)) :
    ∀ fz, SF G (k + 1) f (PySem.W.fnOf name qual params bd scope dV kV doc pm an cdv ct) ps (callF ps.length N.length fz (b fz)) :=
  fun fz => sf_def lk hcd S (denLst_ok (fun s c h => stm_ok dk (rd_ok dk 60) 30 h) (hb fz))
end KB
/-! What every law's end uses. -/
namespace KB
open PySem L2

def kitsB : Kits := [(.ty "NoneType", .ty "int", false), (.ty "NoneType", .ty "str", false), (.ty "NoneType", .ty "bool", false), (.ty "NoneType", .ty "list", false), (.ty "NoneType", .ty "tuple", false), (.ty "NoneType", .ty "dict", false), (.ty "bool", .ty "int", true), (.ty "bool", .ty "str", false), (.ty "bool", .ty "bool", true), (.ty "bool", .ty "list", false), (.ty "bool", .ty "tuple", false), (.ty "bool", .ty "dict", false), (.ty "int", .ty "int", true), (.ty "int", .ty "str", false), (.ty "int", .ty "bool", false), (.ty "int", .ty "list", false), (.ty "int", .ty "tuple", false), (.ty "int", .ty "dict", false), (.ty "str", .ty "int", false), (.ty "str", .ty "str", true), (.ty "str", .ty "bool", false), (.ty "str", .ty "list", false), (.ty "str", .ty "tuple", false), (.ty "str", .ty "dict", false), (.ty "list", .ty "int", false), (.ty "list", .ty "str", false), (.ty "list", .ty "bool", false), (.ty "list", .ty "list", true), (.ty "list", .ty "tuple", false), (.ty "list", .ty "dict", false), (.ty "tuple", .ty "int", false), (.ty "tuple", .ty "str", false), (.ty "tuple", .ty "bool", false), (.ty "tuple", .ty "list", false), (.ty "tuple", .ty "tuple", true), (.ty "tuple", .ty "dict", false), (.ty "dict", .ty "int", false), (.ty "dict", .ty "str", false), (.ty "dict", .ty "bool", false), (.ty "dict", .ty "list", false), (.ty "dict", .ty "tuple", false), (.ty "dict", .ty "dict", true)]
def kitOkB (x : Cl × Cl × Bool) : Bool := match x with
  | (.ty a, .ty b, r) => decide (kitB a b = some r)
  | _ => false
theorem kitsB_row {K : PySem.W.Frag} {T : Tab} {x : Cl × Cl × Bool} (h : kitOkB x = true) : PySem.W.kitOne K (clV T x.1) (clV T x.2.1) = some x.2.2 := by
  unfold kitOkB at h
  split at h
  · exact kit_ty (of_decide_eq_true h)
  · cases h
theorem kitsB_all : kitsB.all kitOkB = true := by decide +kernel
theorem kitsB_kit {K : PySem.W.Frag} {T : Tab} : ∀ x ∈ kitsB, PySem.W.kitOne K (clV T x.1) (clV T x.2.1) = some x.2.2 := fun x hx => kitsB_row (List.all_eq_true.mp kitsB_all x hx)
theorem kitsB_ok {K : PySem.W.Frag} {T : Tab} : KitOk K T kitsB [] := ⟨kitsB_kit, (fun c hc => nomatch hc), fun c hc => nomatch hc⟩
theorem kit_own_ {K : PySem.W.Frag} {t : Value} {C : Addr} {b : Bool} (hd : PySem.W.hasDictIn K C = true) (ty : PySem.W.typeIn K (.ref C) = some (.type "type")) (self : PySem.W.subIn K (.ref C) (.ref C) = some true) (h : PySem.W.subIn K t (.ref C) = some b) : PySem.W.kitOne K t (.ref C) = some b := by
  unfold PySem.W.kitOne
  split
  · rename_i e
    have e2 : t = .ref C := beq_iff_eq.mp e
    rw [e2, self] at h
    exact h
  · obtain ⟨cd, hc, _⟩ := PySem.W.any_some hd
    unfold PySem.W.kitCls
    simp only [hc, ty, Option.isSome_some, Bool.true_and, beq_self_eq_true, if_true, h]
theorem kit_own_ty {K : PySem.W.Frag} {A : Addr} {T : String} {b : Bool} (hT : PySem.W.kitMeta T = true) (h : PySem.W.subIn K (.ref A) (.type T) = some b) : PySem.W.kitOne K (.ref A) (.type T) = some b := by
  unfold PySem.W.kitOne
  rw [if_neg (by simp)]
  unfold PySem.W.kitCls
  simp only [hT, if_true, h]
theorem kits_app {K : PySem.W.Frag} {T : Tab} {a b : Kits} (h1 : ∀ x ∈ a, PySem.W.kitOne K (clV T x.1) (clV T x.2.1) = some x.2.2) (h2 : ∀ x ∈ b, PySem.W.kitOne K (clV T x.1) (clV T x.2.1) = some x.2.2) : ∀ x ∈ a ++ b, PySem.W.kitOne K (clV T x.1) (clV T x.2.1) = some x.2.2 := fun x hx => by
  rcases List.mem_append.mp hx with h | h
  · exact h1 x h
  · exact h2 x h
theorem errOk_of {K : PySem.W.Frag} {C : Addr} (hd : PySem.W.hasDictIn K C = true) (ga : PySem.W.findIn K (.ref C) "__getattribute__" = some (some (.builtin "BaseException.__getattribute__"))) (gt : PySem.W.findIn K (.ref C) "__getattr__" = some none) (sb : PySem.W.subIn K (.ref C) (.type "BaseException") = some true)
    (ha : PySem.W.findIn K (.ref C) "__class__" = some (some (.builtin "object.__class__"))) (hn : PySem.W.specialIn K (.builtin "object.__class__") "__get__" = some (some (.builtin "getset_descriptor.__get__"))) (htk : PySem.W.takesIn K (.builtin "object.__class__") = some true) (hm : PySem.W.mroIn K C (.type "object") = some true) : ErrOk K C := by
  obtain ⟨cd, hc, _⟩ := PySem.W.any_some hd
  exact ⟨by rw [hc]; rfl, ga, gt, sb, ha, hn, htk, hm⟩
/-- the attributes' names by number -/
def attOf (l : List Str) (n : Nat) : Str := match l[n]? with
  | some x => x
  | none => ⟨Array.replicate (n + 100) 0⟩
theorem attOf_len {l : List Str} (h : l.all (fun x => decide (x.length < 100)) = true) (n : Nat) : (attOf l n).length = n + 100 ∧ l[n]? = none ∨ ∃ x, l[n]? = some x ∧ attOf l n = x ∧ x.length < 100 := by
  unfold attOf
  cases e : l[n]? with
  | none => exact .inl ⟨by simp [Str.length], rfl⟩
  | some x => exact .inr ⟨x, rfl, rfl, of_decide_eq_true (List.all_eq_true.mp h x (List.mem_of_getElem? e))⟩
theorem attOf_inj {l : List Str} (hd : l.Nodup) (h : l.all (fun x => decide (x.length < 100)) = true) : ∀ i j, attOf l i = attOf l j → i = j := by
  intro i j e
  have el := congrArg Str.length e
  rcases attOf_len h i with ⟨a1, a2⟩ | ⟨x, a1, a2, a3⟩ <;> rcases attOf_len h j with ⟨b1, b2⟩ | ⟨y, b1, b2, b3⟩
  · omega
  · rw [b2] at el
    omega
  · rw [a2] at el
    omega
  · rw [a2, b2] at e
    subst e
    obtain ⟨hi, ei⟩ := List.getElem?_eq_some_iff.mp a1
    exact (List.getElem?_inj hi hd).mp (a1.trans b1.symm)
theorem attOf_no {l : List Str} (h : l.all (fun x => decide (x.length < 100)) = true) {m : Str} (hm : m ∉ l) (hl : m.length < 100) : ∀ j, attOf l j ≠ m := by
  intro j e
  rcases attOf_len h j with ⟨a1, a2⟩ | ⟨x, a1, a2, a3⟩
  · rw [e] at a1
    omega
  · rw [e] at a2
    subst a2
    exact hm (List.mem_of_getElem? a1)
theorem attOf_pos {l : List Str} {f : Str} {i : Nat} (h : posOf l f = some i) : attOf l i = f := by
  unfold attOf
  rw [posOf_ok h]
def clsOf (l : List Addr) (n : Nat) : Addr := l.getD n 0
section
variable {G : Glo} {k : Nat} {D : Dn} {x y qual : Str} {st : Stmt} {f : Addr} {fd : FuncData} {N ps M : List Str} {b : Bool → MS}
theorem fn_sf (F : Fun G.K x qual st f fd) (S : FnScope N ps (defScope st)) (dk : DnOk G k D) (hb : ∀ rf, body D N (defScope st) M rf (defBody st) = some (b rf)) : ∀ fz, SF G (k + 1) f fd ps (callF ps.length N.length fz (b fz)) := by
  obtain ⟨oc, od, kV, doc, pm, an, cdv, ct, osl, rfl, lk, hcd⟩ := F.ex
  exact def_ok dk lk hcd S hb
/-- a def more -/
theorem dk_fn {c : Bool → MF} (dk : DnOk G k D) (F : Fun G.K x qual st f fd) (S : FnScope N ps (defScope st)) (hb : ∀ rf, body D N (defScope st) M rf (defBody st) = some (b rf)) (hm : G.mg y = some (.ref f)) (hbd : Binds G.K fd ps [])
    (hc : ∀ fz, c fz = callF ps.length N.length fz (b fz)) : DnOk G (k + 1) (D.add y (.fn c)) :=
  (dk.mono (Nat.le_succ k)).add ⟨f, fun fz => by rw [hc fz]; exact cf_of (fn_sf F S dk hb fz) hbd, hm, F.kp⟩
/-- a def's methods: one class at a time -/
theorem dk_mt {c : Bool → MF} {m : Str} {i : Nat} (dk : DnOk G k D) (S : ∀ fz, CF G k f (c fz)) (hn : ∀ j, G.T.att j ≠ m) (cl : Cls G.K (G.T.cls i)) (mt : Meth G.K (G.T.cls i) m f) : DnOk G k (D.addM m i c) :=
  dk.addM ⟨hn, fun fz => ⟨cl, f, mt, S fz⟩⟩
theorem dk_cls {cI : MF} {i j : Nat} (dk : DnOk G k D) (S : CF G j f cI) (hj : j + 1 ≤ k) (hm : G.mg x = some (.ref (G.T.cls i))) (M : Mk G.K (G.T.cls i) f) : DnOk G k (D.add x (.cls i (some cI))) :=
  dk.add ⟨hm, fun c e => by cases e; exact ⟨j, f, hj, S, M⟩⟩
theorem dk_cf {c : Bool → MF} {m : Str} {C : Addr} (dk : DnOk G k D) (S : ∀ fz, CF G k f (c fz)) (hm : G.mg x = some (.ref C)) (cf : CfOk G.K C m f) : DnOk G k (D.addC x m c) :=
  dk.addC ⟨C, f, S, hm, cf⟩
theorem cf_bad {c : MF} (h : ∀ us st, c us st = .bad) : CF G k f c := by
  refine ⟨fun A outer s H us vs Q E hr hg en inK r hs => ?_⟩
  obtain ⟨F, m, st, as, hR, q, g⟩ := hs
  rw [h] at g
  exact g.elim
/-- a def that calls itself: so deep at most -/
theorem dk_rec {c : Nat → Bool → MF} {b : (Bool → MF) → Bool → MS} (dk : DnOk G k D) (F : Fun G.K x qual st f fd) (S : FnScope N ps (defScope st)) (hb : ∀ r rf, body (D.add y (.fn r)) N (defScope st) M rf (defBody st) = some (b r rf)) (hm : G.mg y = some (.ref f)) (hbd : Binds G.K fd ps [])
    (h0 : ∀ fz us st, c 0 fz us st = .bad) (hc : ∀ n fz, c (n + 1) fz = callF ps.length N.length fz (b (c n) fz)) : ∀ n, DnOk G (k + n) (D.add y (.fn (c n)))
  | 0 => dk.add ⟨f, fun fz => cf_bad (h0 fz), hm, F.kp⟩
  | n + 1 => by
    have ih := dk_rec dk F S hb hm hbd h0 hc n
    refine (dk.mono (by omega)).add ⟨f, fun fz => ?_, hm, F.kp⟩
    rw [hc n fz]
    exact cf_of (fn_sf F S ih (hb (c n)) fz) hbd
/-- a method that calls itself -/
theorem dk_recM {c : Nat → Bool → MF} {b : (Bool → MF) → Bool → MS} {m : Str} {i : Nat} (dk : DnOk G k D) (F : Fun G.K x qual st f fd) (S : FnScope N ps (defScope st)) (hb : ∀ r rf, body (D.addM m i r) N (defScope st) M rf (defBody st) = some (b r rf)) (hbd : Binds G.K fd ps [])
    (hn : ∀ j, G.T.att j ≠ m) (cl : Cls G.K (G.T.cls i)) (mt : Meth G.K (G.T.cls i) m f)
    (h0 : ∀ fz us st, c 0 fz us st = .bad) (hc : ∀ n fz, c (n + 1) fz = callF ps.length N.length fz (b (c n) fz)) : ∀ n, DnOk G (k + n) (D.addM m i (c n))
  | 0 => dk.addM ⟨hn, fun fz => ⟨cl, f, mt, cf_bad (h0 fz)⟩⟩
  | n + 1 => by
    have ih := dk_recM dk F S hb hbd hn cl mt h0 hc n
    refine (dk.mono (by omega)).addM ⟨hn, fun fz => ⟨cl, f, mt, ?_⟩⟩
    show CF G _ f (c (n + 1) fz)
    rw [hc n fz]
    exact cf_of (fn_sf F S ih (hb (c n)) fz) hbd
theorem dk_err {i : Nat} (dk : DnOk G k D) (hm : G.mg x = some (.ref (G.T.cls i))) (h : ErrC G.K (G.T.cls i)) : DnOk G k (D.add x (.err i none)) :=
  dk.add ⟨hm, fun _ => h, fun fi e => nomatch e⟩
theorem dk_errI {i j fi : Nat} (dk : DnOk G k D) (hm : G.mg x = some (.ref (G.T.cls i))) (hj : j + 1 ≤ k) (h : InitOk G j i fi) : DnOk G k (D.add x (.err i (some fi))) :=
  dk.add ⟨hm, fun e => (nomatch e), fun f e => by cases e; exact ⟨j, hj, h⟩⟩
theorem gv_cls {i : Nat} (hm : G.mg x = some (.ref (G.T.cls i))) : GvOk G k x (.cls i none) := ⟨hm, fun c e => nomatch e⟩
theorem gv_int {i : Int} {t : Tok} (h : G.mg x = some (.int i t)) : GvOk G k x (.con (.int i)) := ⟨.int i, _, h, ⟨t, rfl⟩, fun _ => .int i⟩
theorem gv_str {z : Str} {t : Tok} (h : G.mg x = some (.str z t)) : GvOk G k x (.con (.str z)) := ⟨.str z, _, h, ⟨t, rfl⟩, fun _ => .str z⟩
end
end KB
/-! What a computation ends with: the words for the plain laws. -/
namespace KB
open PySem L2

def EQ {α : Type} (r : Re α) (Q : α → Sto → Prop) (X : Ex → Sto → Prop) : Prop := match r with
  | .ok a st => Q a st
  | .exc e st => X e st
  | .bad => False
def SQ (r : Rs) (Q : Fl → Lo → Sto → Prop) (X : Ex → Lo → Sto → Prop) : Prop := match r with
  | .ok f env st => Q f env st
  | .exc e env st => X e env st
  | .bad => False
section
variable {α β : Type} {Q : α → Sto → Prop} {Q' : β → Sto → Prop} {QU QV : U → Sto → Prop} {QB : Bool → Sto → Prop} {QA : List U → Sto → Prop} {QI : List U × Gd → Sto → Prop} {X : Ex → Sto → Prop} {QS : Fl → Lo → Sto → Prop} {XS : Ex → Lo → Sto → Prop} {env : Lo} {st : Sto}
@[simp] theorem EQ_ok {a : α} : EQ (.ok a st) Q X = Q a st := rfl
@[simp] theorem EQ_exc {e : Ex} : EQ (.exc e st : Re α) Q X = X e st := rfl
@[simp] theorem EQ_bad : EQ (.bad : Re α) Q X = False := rfl
@[simp] theorem EQ_bind {r : Re α} {k : α → Sto → Re β} : EQ (r.bind k) Q' X = EQ r (fun a st => EQ (k a st) Q' X) X := by
  cases r <;> rfl
@[simp] theorem SQ_ok {f : Fl} : SQ (.ok f env st) QS XS = QS f env st := rfl
@[simp] theorem SQ_exc {e : Ex} : SQ (.exc e env st) QS XS = XS e env st := rfl
@[simp] theorem SQ_bad : SQ .bad QS XS = False := rfl
theorem EQ.imp {r : Re α} {Q2 : α → Sto → Prop} {X2 : Ex → Sto → Prop} (h : EQ r Q X) (h1 : ∀ a st, Q a st → Q2 a st) (h2 : ∀ e st, X e st → X2 e st) : EQ r Q2 X2 := by
  cases r with
  | ok a st => exact h1 _ _ h
  | exc e st => exact h2 _ _ h
  | bad => exact h
theorem SQ.imp {r : Rs} {Q2 : Fl → Lo → Sto → Prop} {X2 : Ex → Lo → Sto → Prop} (h : SQ r QS XS) (h1 : ∀ f e st, QS f e st → Q2 f e st) (h2 : ∀ x e st, XS x e st → X2 x e st) : SQ r Q2 X2 := by
  cases r with
  | ok f e st => exact h1 _ _ _ h
  | exc x e st => exact h2 _ _ _ h
  | bad => exact h
theorem EQ_ite {c : Prop} [Decidable c] {a b : Re α} : EQ (if c then a else b) Q X = if c then EQ a Q X else EQ b Q X := by
  split <;> rfl
theorem SQ_ite {c : Prop} [Decidable c] {a b : Rs} : SQ (if c then a else b) QS XS = if c then SQ a QS XS else SQ b QS XS := by
  split <;> rfl
/-! expressions -/
theorem q_pure {u : U} : EQ (cPure u env st) QU X = QU u st := rfl
theorem q_var {i : Nat} {u : U} (h : env[i]? = some (some u)) : EQ (cVar i env st) QU X = QU u st := by
  unfold cVar
  rw [h]
  rfl
theorem q_op1 {f : U → Sto → Re U} {a : ME} : EQ (cOp1 f a env st) QU X = EQ (a env st) (fun u st => EQ (f u st) QU X) X := EQ_bind
theorem q_op2 {f : U → U → Sto → Re U} {a b : ME} : EQ (cOp2 f a b env st) QU X = EQ (a env st) (fun u st => EQ (b env st) (fun w st => EQ (f u w st) QU X) X) X := by
  unfold cOp2
  simp only [EQ_bind]
theorem q_nil : EQ (cNil env st) QA X = QA [] st := rfl
theorem q_cons {a : ME} {r : MA} : EQ (cCons a r env st) QA X = EQ (a env st) (fun u st => EQ (r env st) (fun us st => QA (u :: us) st) X) X := by
  unfold cCons
  simp only [EQ_bind, EQ_ok]
theorem q_args {f : List U → Sto → Re U} {a : MA} : EQ (cArgs f a env st) QU X = EQ (a env st) (fun us st => EQ (f us st) QU X) X := EQ_bind
theorem q_and {a b : ME} : EQ (cAnd a b env st) QU X = EQ (a env st) (fun u st => match u with
  | .d (.bl k) => if k then EQ (b env st) QU X else QU (.d (.bl false)) st
  | _ => False) X := by
  unfold cAnd
  rw [EQ_bind]
  congr 1
  funext u st
  split
  · rename_i k
    cases k <;> rfl
  · rename_i h
    simp only [EQ_bad]
theorem q_or {a b : ME} : EQ (cOr a b env st) QU X = EQ (a env st) (fun u st => match u with
  | .d (.bl k) => if k then QU (.d (.bl true)) st else EQ (b env st) QU X
  | _ => False) X := by
  unfold cOr
  rw [EQ_bind]
  congr 1
  funext u st
  split
  · rename_i k
    cases k <;> rfl
  · rename_i h
    simp only [EQ_bad]
theorem q_not {a : ME} : EQ (cNot a env st) QU X = EQ (a env st) (fun u st => match u with
  | .d (.bl k) => QU (.d (.bl (!k))) st
  | _ => False) X := by
  unfold cNot
  rw [EQ_bind]
  congr 1
  funext u st
  split
  · rfl
  · rename_i h
    simp only [EQ_bad]
theorem q_chain {f g : U → U → Sto → Re U} {a b c : ME} : EQ (cChain f g a b c env st) QU X = EQ (a env st) (fun x st => EQ (b env st) (fun y st => EQ (f x y st) (fun z st => match z with
  | .d (.bl k) => if k then EQ (c env st) (fun w st => EQ (g y w st) QU X) X else QU (.d (.bl false)) st
  | _ => False) X) X) X := by
  unfold cChain
  simp only [EQ_bind]
  congr 1
  funext x st
  congr 1
  funext y st
  congr 1
  funext z st
  split
  · rename_i k
    cases k
    · rfl
    · exact EQ_bind
  · rename_i h
    simp only [EQ_bad]
theorem q_if {t : MT} {a b : ME} : EQ (cIf t a b env st) QU X = EQ (t env st) (fun k st => if k then EQ (a env st) QU X else EQ (b env st) QU X) X := by
  unfold cIf
  rw [EQ_bind]
  congr 1
  funext k st
  cases k <;> rfl
theorem q_lst {fz : Bool} {cs : MA} : EQ (cLst fz cs env st) QU X = EQ (cs env st) (fun us st => us.length ≤ lim ∧ EQ (newL fz us st) QU X) X := by
  unfold cLst cArgs
  rw [EQ_bind]
  congr 1
  funext us st
  split
  · rename_i h
    simp [h]
  · rename_i h
    simp [h]
theorem q_tup {cs : MA} : EQ (cTup cs env st) QU X = EQ (cs env st) (fun us st => us.length ≤ lim ∧ EQ (newT us st) QU X) X := by
  unfold cTup cArgs
  rw [EQ_bind]
  congr 1
  funext us st
  split
  · rename_i h
    simp [h]
  · rename_i h
    simp [h]
/-! tests -/
theorem q_tB1 {c : ME} : EQ (tB1 c env st) QB X = EQ (c env st) (fun u st => match u with
  | .d (.bl b) => QB b st
  | _ => False) X := by
  unfold tB1
  rw [EQ_bind]
  congr 1
  funext u st
  split
  · rfl
  · rename_i h
    simp only [EQ_bad]
theorem q_tTr {c : ME} : EQ (tTr c env st) QB X = EQ (c env st) (fun u st => match truU st u with
  | some b => QB b st
  | none => False) X := by
  unfold tTr
  rw [EQ_bind]
  congr 1
  funext u st
  split <;> first | rfl | (rename_i h; rw [h]; rfl)
theorem q_tNo {t : MT} : EQ (tNo t env st) QB X = EQ (t env st) (fun b st => QB (!b) st) X := by
  unfold tNo
  simp only [EQ_bind, EQ_ok]
theorem q_tAn {t u : MT} : EQ (tAn t u env st) QB X = EQ (t env st) (fun b st => if b then EQ (u env st) QB X else QB false st) X := by
  unfold tAn
  rw [EQ_bind]
  congr 1
  funext b st
  cases b <;> rfl
theorem q_tOu {t u : MT} : EQ (tOu t u env st) QB X = EQ (t env st) (fun b st => if b then QB true st else EQ (u env st) QB X) X := by
  unfold tOu
  rw [EQ_bind]
  congr 1
  funext b st
  cases b <;> rfl
theorem q_tYes : EQ (tYesU env st) QB X = QB true st := rfl
/-! whole numbers -/
theorem q_intOp {C : Int → Int → Bool} {g : Int → Int → Int} {i j : Int} : EQ (intOp C g (.d (.int i)) (.d (.int j)) st) QU X = (C i j = true ∧ QU (.d (.int (g i j))) st) := by
  unfold intOp
  simp only
  split
  · rename_i h
    simp [h]
  · rename_i h
    simp [h]
theorem q_cmpOp {g : Int → Int → Bool} {i j : Int} : EQ (cmpOp g (.d (.int i)) (.d (.int j)) st) QU X = QU (.d (.bl (g i j))) st := rfl
theorem q_sub {i j : Int} : EQ (subU (.d (.int i)) (.d (.int j)) st) QU X = QU (.d (.int (i - j))) st := by
  unfold subU
  rw [q_intOp]
  simp
theorem q_fdiv {i j : Int} : EQ (fdivU (.d (.int i)) (.d (.int j)) st) QU X = (cDivOk i j = true ∧ QU (.d (.int (i / j))) st) := q_intOp
theorem q_mod {i j : Int} : EQ (modU (.d (.int i)) (.d (.int j)) st) QU X = (0 < j ∧ QU (.d (.int (i % j))) st) := by
  unfold modU
  rw [q_intOp]
  simp [cModOk]
theorem q_pow {i j : Int} : EQ (powU (.d (.int i)) (.d (.int j)) st) QU X = (cPow2Ok i j = true ∧ QU (.d (.int (i ^ j.toNat))) st) := q_intOp
theorem q_lt {i j : Int} : EQ (ltU (.d (.int i)) (.d (.int j)) st) QU X = QU (.d (.bl (decide (i < j)))) st := rfl
theorem q_le {i j : Int} : EQ (leU (.d (.int i)) (.d (.int j)) st) QU X = QU (.d (.bl (decide (i ≤ j)))) st := rfl
theorem q_gt {i j : Int} : EQ (gtU (.d (.int i)) (.d (.int j)) st) QU X = QU (.d (.bl (decide (j < i)))) st := rfl
theorem q_ge {i j : Int} : EQ (geU (.d (.int i)) (.d (.int j)) st) QU X = QU (.d (.bl (decide (j ≤ i)))) st := rfl
theorem q_add {fz : Bool} {i j : Int} : EQ (addU fz (.d (.int i)) (.d (.int j)) st) QU X = QU (.d (.int (i + j))) st := rfl
theorem q_adds {fz : Bool} {x y : Str} : EQ (addU fz (.d (.str x)) (.d (.str y)) st) QU X = (x.length + y.length ≤ lim ∧ QU (.d (.str (x ++ y))) st) := by
  unfold addU
  simp only
  split
  · rename_i h
    simp [h]
  · rename_i h
    simp [h]
theorem q_mul {fz : Bool} {i j : Int} : EQ (mulU fz (.d (.int i)) (.d (.int j)) st) QU X = (cMulOk i j = true ∧ QU (.d (.int (i * j))) st) := by
  unfold mulU
  simp only
  split
  · rename_i h
    simp [h]
  · rename_i h
    simp [h]
/-! statements -/
theorem q_sNil : SQ (sNil env st) QS XS = QS .nx env st := rfl
theorem q_seq {a b : MS} : SQ (sSeq a b env st) QS XS = SQ (a env st) (fun f env st => match f with
  | .nx => SQ (b env st) QS XS
  | f => QS f env st) XS := by
  unfold sSeq
  cases h : a env st with
  | ok f e s => cases f <;> rfl
  | exc x e s => rfl
  | bad => rfl
theorem q_val {c : ME} {k : U → Lo → Sto → Rs} : SQ (sVal c k env st) QS XS = EQ (c env st) (fun u st => SQ (k u env st) QS XS) (fun e st => XS e env st) := by
  unfold sVal
  cases c env st <;> rfl
theorem q_sExp {c : ME} : SQ (sExp c env st) QS XS = EQ (c env st) (fun _ st => QS .nx env st) (fun e st => XS e env st) := q_val
theorem q_ret {c : ME} : SQ (sRet c env st) QS XS = EQ (c env st) (fun u st => QS (.rt u) env st) (fun e st => XS e env st) := q_val
theorem q_retN : SQ (sRetN env st) QS XS = QS (.rt (.d .non)) env st := rfl
theorem q_asg {i : Nat} {c : ME} : SQ (sAsg (.nm i) c env st) QS XS = EQ (c env st) (fun u st => QS .nx (env.set i (some u)) st) (fun e st => XS e env st) := q_val
theorem q_sIf {t : MT} {a b : MS} : SQ (sIf t a b env st) QS XS = EQ (t env st) (fun k st => if k then SQ (a env st) QS XS else SQ (b env st) QS XS) (fun e st => XS e env st) := by
  unfold sIf
  cases t env st with
  | ok k s => cases k <;> rfl
  | exc e s => rfl
  | bad => rfl
theorem q_put {o i c : ME} : SQ (sPut o i c env st) QS XS = EQ (c env st) (fun v st => EQ (o env st) (fun ov st => EQ (i env st) (fun iv st => match setU ov iv v st with
  | some st' => QS .nx env st'
  | none => False) (fun e st => XS e env st)) (fun e st => XS e env st)) (fun e st => XS e env st) := by
  unfold sPut
  rw [q_val]
  congr 1
  funext v st
  rw [q_val]
  congr 1
  funext ov st
  rw [q_val]
  congr 1
  funext iv st
  split <;> first | rfl | (rename_i h; rw [h]; rfl)
/-! defs -/
theorem q_call {np nN : Nat} {fz : Bool} {b : MS} {us : List U} (hl : us.length = np) (h : SQ (b (env0 us nN) st) (fun f _ st' => match f with
  | .rt u => EQ (fin fz u st st') QU X
  | .nx => EQ (fin fz (.d .non) st st') QU X
  | _ => False) (fun e _ st' => EQ (finX e st st') QU X)) : EQ (callF np nN fz b us st) QU X := by
  unfold callF
  rw [if_pos hl]
  cases e : b (env0 us nN) st with
  | ok f en s =>
    rw [e] at h
    cases f <;> exact h
  | exc x en s =>
    rw [e] at h
    exact h
  | bad =>
    rw [e] at h
    exact h
theorem q_fin {fz : Bool} {u : U} {st' : Sto} (h : st'.length ≤ st.length) : EQ (fin fz u st st') QU X = QU u st' := by
  unfold fin
  rw [if_pos h]
  rfl
theorem q_finX {e : Ex} {st' : Sto} (h : st'.length ≤ st.length) : EQ (finX e st st') QU X = X e st' := by
  unfold finX
  rw [if_pos h]
  rfl
/-! loops -/
/-- a loop by an invariant over the items that are left -/
theorem q_loop {t : Tgt} {b : MS} {gd : Gd} (I : List U → Lo → Sto → Prop) (hg : ∀ us env st, I us env st → gdOk st gd = true)
    (hs : ∀ u us env st, I (u :: us) env st → ∃ env1, setT t u env = some env1 ∧ SQ (b env1 st) (fun f env2 st2 => match f with
      | .nx => I us env2 st2
      | .ct => I us env2 st2
      | .bk => QS .nx env2 st2
      | .rt v => QS (.rt v) env2 st2) XS) (he : ∀ env st, I [] env st → QS .nx env st) : ∀ {us : List U} {env : Lo} {st : Sto}, I us env st → SQ (loopU t b gd us env st) QS XS
  | [], env, st, h => by
    unfold loopU
    rw [if_pos (hg _ _ _ h)]
    exact he _ _ h
  | u :: us, env, st, h => by
    unfold loopU
    rw [if_pos (hg _ _ _ h)]
    obtain ⟨env1, h1, h2⟩ := hs _ _ _ _ h
    rw [h1]
    simp only
    cases e : b env1 st with
    | ok f e2 s2 =>
      rw [e] at h2
      cases f with
      | nx => exact q_loop I hg hs he h2
      | ct => exact q_loop I hg hs he h2
      | bk => exact h2
      | rt v => exact h2
    | exc x e2 s2 =>
      rw [e] at h2
      exact h2
    | bad =>
      rw [e] at h2
      exact h2
theorem q_for {src : MI} {t : Tgt} {b : MS} : SQ (sFor src t b env st) QS XS = EQ (src env st) (fun p st => SQ (loopU t b p.2 p.1 env st) QS XS) (fun e st => XS e env st) := by
  unfold sFor
  cases src env st with
  | ok p s => cases p; rfl
  | exc e s => rfl
  | bad => rfl
theorem q_range1 {cs : MA} : EQ (iRange1 cs env st) QI X = EQ (cs env st) (fun us st => match us with
  | [.d (.int j)] => inR j = true ∧ QI (rngU 0 j.toNat, none) st
  | _ => False) X := by
  unfold iRange1
  rw [EQ_bind]
  congr 1
  funext us st
  split
  · split
    · rename_i h
      simp [h]
    · rename_i h
      simp [h]
  · rename_i h
    simp only [EQ_bad]
theorem q_enum {cs : MA} : EQ (iEnumr cs env st) QI X = EQ (cs env st) (fun us st => match us with
  | [u] => (match scrU st u with
    | some xs => QI (enumU xs, some (u, xs)) st
    | none => False)
  | _ => False) X := by
  unfold iEnumr
  rw [EQ_bind]
  congr 1
  funext us st
  split
  · split <;> first | rfl | (rename_i h; simp only [h]; rfl)
  · rename_i h
    simp only [EQ_bad]
end
end KB
/-! What the laws share: more words, and the three defs that every law has. -/
namespace KB
open PySem L2
section
variable {α β : Type} {Q : α → Sto → Prop} {QU : U → Sto → Prop} {X : Ex → Sto → Prop} {env : Lo} {st : Sto}
theorem q_cvar {i : Nat} : EQ (cVar i env st) QU X = match env[i]? with
  | some (some u) => QU u st
  | _ => False := by
  unfold cVar
  split
  · rename_i h
    first
      | rfl
      | (rw [h]
         rfl)
  · rename_i h
    first
      | rfl
      | (split
         · rename_i h2
           exact absurd h2 (h _)
         · rfl)
theorem q_list1 {f : U → Sto → Re U} {u : U} : EQ (list1 f [u] st) QU X = EQ (f u st) QU X := rfl
theorem q_eqi {i j : Int} : EQ (eqU (.d (.int i)) (.d (.int j)) st) QU X = QU (.d (.bl (i == j))) st := rfl
theorem q_nei {i j : Int} : EQ (neU (.d (.int i)) (.d (.int j)) st) QU X = QU (.d (.bl (!(i == j)))) st := rfl
theorem atI_in {β : Type} {xs : List β} {v : Int} (h0 : 0 ≤ v) (h1 : v < xs.length) : ∃ x, atI xs v = some x ∧ xs[v.toNat]? = some x := by
  have hl : v.toNat < xs.length := by omega
  refine ⟨xs[v.toNat], ?_, List.getElem?_eq_getElem hl⟩
  unfold atI ixN
  rw [if_pos h0, if_pos h1]
  simp [hl]
/-- xs[v], v within -/
theorem q_ixl {xs : List D} {v : Int} (h0 : 0 ≤ v) (h1 : v < xs.length) (h : ∀ x ∈ xs, QU (.d x) st) : EQ (ixU (.d (.lst xs)) (.d (.int v)) st) QU X := by
  obtain ⟨x, hx, hy⟩ := atI_in (xs := xs.map U.d) h0 (by simpa using h1)
  rw [List.getElem?_map] at hy
  obtain ⟨y, h2, h3⟩ := Option.map_eq_some_iff.mp hy
  subst h3
  unfold ixU
  simp only [scrU, lstU, hx]
  exact h y (List.mem_of_getElem? h2)
/-- z[v], v within -/
theorem q_ixs {z : Str} {v : Int} (hz : z.length ≤ lim) (h0 : 0 ≤ v) (h1 : v < z.length) (h : ∀ c ∈ z.cps.toList, QU (.d (.str ⟨#[c]⟩)) st) : EQ (ixU (.d (.str z)) (.d (.int v)) st) QU X := by
  obtain ⟨c, hx, hy⟩ := atI_in (xs := z.cps.toList) h0 (by simpa [Str.length] using h1)
  unfold ixU
  simp only [hx, if_pos hz]
  exact h c (List.mem_of_getElem? hy)
end
end KB
namespace KL
open PySem L2 KB
def b_law_mixed (rf : Bool) : MS := (sSeq (sAsg (.nm 2) (cOp2 modU (cOp2 (mulU true) (cOp2 (addU true) (cOp2 (addU true) (cOp2 (addU true) (cOp2 modU (cVar 0) (cPure (.d (.int 2147483647)))) (cOp2 (mulU true) (cOp2 (mulU true) (cPure (.d (.int 7919))) (cVar 1)) (cVar 1))) (cOp2 (mulU true) (cPure (.d (.int 104729))) (cVar 1))) (cPure (.d (.int 11)))) (cPure (.d (.int 48271)))) (cPure (.d (.int 2147483647))))) (sSeq (sRet (cOp2 modU (cOp2 (mulU true) (cVar 2) (cOp2 (addU true) (cPure (.d (.int 69621))) (cOp2 (mulU true) (cPure (.d (.int 2))) (cVar 1)))) (cPure (.d (.int 2147483629))))) sNil))
def q_law_mixed (fz : Bool) : MF := callF 2 3 fz (b_law_mixed fz)
def b_law_state (rf : Bool) : MS := (sSeq (sRet (cDct rf [((cPure (.d (.str "cells"))), (cVar 0)), ((cPure (.d (.str "at"))), (cPure (.d (.int 0)))), ((cPure (.d (.str "rest"))), (cPure (.d (.int 0)))), ((cPure (.d (.str "k"))), (cVar 1))])) sNil)
def q_law_state (fz : Bool) : MF := callF 2 2 fz (b_law_state fz)
def b_law_take (rf : Bool) : MS := (sSeq (sAsg (.nm 2) (cOp2 ixU (cVar 0) (cPure (.d (.str "at"))))) (sSeq (sPut (cVar 0) (cPure (.d (.str "at"))) (cOp2 (addU true) (cVar 2) (cPure (.d (.int 1))))) (sSeq (sAsg (.nm 3) (cOp2 ixU (cOp2 ixU (cVar 0) (cPure (.d (.str "cells")))) (cOp2 modU (cOp2 fdivU (cVar 2) (cPure (.d (.int 60)))) (cArgs (list1 lenU) (cCons (cOp2 ixU (cVar 0) (cPure (.d (.str "cells")))) cNil))))) (sSeq (sIf (tB1 (cOp2 eqU (cOp2 modU (cVar 2) (cPure (.d (.int 60)))) (cPure (.d (.int 0))))) (sSeq (sPut (cVar 0) (cPure (.d (.str "rest"))) (cIf (tB1 (cOp2 geU (cVar 3) (cOp2 powU (cPure (.d (.int 10))) (cPure (.d (.int 18)))))) (cVar 3) (cPure (.d (.int 0))))) sNil) sNil) (sSeq (sIf (tB1 (cOp2 gtU (cOp2 ixU (cVar 0) (cPure (.d (.str "rest")))) (cPure (.d (.int 0))))) (sSeq (sAsg (.nm 5) (cOp2 modU (cOp2 ixU (cVar 0) (cPure (.d (.str "rest")))) (cVar 1))) (sSeq (sPut (cVar 0) (cPure (.d (.str "rest"))) (cOp2 fdivU (cOp2 ixU (cVar 0) (cPure (.d (.str "rest")))) (cVar 1))) (sSeq (sRet (cVar 5)) sNil))) sNil) (sSeq (sAsg (.nm 4) (cOp2 (addU true) (cVar 2) (cOp2 (mulU true) (cPure (.d (.int 60))) (cOp2 ixU (cVar 0) (cPure (.d (.str "k"))))))) (sSeq (sRet (cOp2 modU (cOp2 fdivU (cOp2 (addU true) (cOp2 (mulU true) (cArgs (q_law_mixed true) (cCons (cVar 3) (cCons (cVar 4) cNil))) (cPure (.d (.int 2147483629)))) (cArgs (q_law_mixed true) (cCons (cVar 3) (cCons (cOp2 (addU true) (cVar 4) (cPure (.d (.int 9001)))) cNil)))) (cPure (.d (.int 11)))) (cVar 1))) sNil)))))))
def q_law_take (fz : Bool) : MF := callF 2 6 fz (b_law_take fz)
end KL

namespace KL
open PySem L2 KB
section
variable {QU : U → Sto → Prop} {X : Ex → Sto → Prop} {st : Sto} {fz : Bool}
theorem smallF_of {i : Int} (h : -18446744073709551616 < i) (h2 : i < 18446744073709551616) : smallF i = true := by
  unfold smallF
  simp [h, h2]
theorem mul_l {i j : Int} (h : smallF i = true) : cMulOk i j = true := by
  unfold cMulOk
  rw [h]
  rfl
theorem mul_r {i j : Int} (h : smallF j = true) : cMulOk i j = true := by
  unfold cMulOk
  rw [h, Bool.or_true]
def kOk (k : Int) : Prop := 0 ≤ k ∧ k < 1000000000000
theorem mixed_rule {c k : Int} (hk : kOk k) (h : ∀ v, QU (.d (.int v)) st) : EQ (q_law_mixed fz [.d (.int c), .d (.int k)] st) QU X := by
  unfold kOk at hk
  refine q_call rfl ?_
  simp only [b_law_mixed, q_pure, q_cvar, q_op1, q_op2, q_nil, q_cons, q_args, q_and, q_or, q_not, q_chain, q_if, q_lst, q_tup, q_tB1, q_tTr, q_tNo, q_tAn, q_tOu, q_tYes, q_sub, q_fdiv, q_mod, q_pow, q_lt, q_le, q_gt, q_ge, q_add, q_mul, q_eqi, q_nei, q_sNil, q_seq, q_sExp, q_ret, q_retN, q_asg, q_sIf, q_put, q_for, q_range1, q_enum, EQ_ok, SQ_ok, EQ_bad, SQ_bad, env0, List.map_cons, List.map_nil, List.length_cons, List.length_nil, List.length_set, List.length_append, Nat.reduceAdd, Nat.reduceSub, Nat.reduceLT, Nat.reduceLeDiff, Nat.zero_add, List.replicate, List.cons_append, List.nil_append, List.getElem?_cons_zero, List.getElem?_cons_succ, List.set_cons_zero, List.set_cons_succ, newL, newT, closed, Option.map_some, Option.map_none, lim, true_and, and_true, if_true, if_false, Bool.false_eq_true, reduceIte, ite_true, ite_false, q_list1, Bool.not_true, Bool.not_false, Nat.le_refl, Int.reduceLT, Int.reduceLE, Int.reducePow, Int.reduceToNat, Int.reduceNeg, List.nil_append, List.append_nil, beq_self_eq_true, decide_true, decide_false, Bool.and_true, Bool.true_and, Bool.and_false, Bool.false_and, Bool.or_true, Bool.true_or, Bool.or_false, Bool.false_or]
  refine ⟨mul_l (by decide), mul_r (smallF_of (by omega) (by omega)), mul_l (by decide), mul_r (by decide), mul_l (by decide), mul_r (smallF_of (by omega) (by omega)), ?_⟩
  rw [q_fin (Nat.le_refl _)]
  exact h _
/-! the tape of a law: a dict in a cell -/
def stO (cs : List Int) (a r k : Int) : O := .dct [(.inr "cells", .d (.lst (cs.map .int))), (.inr "at", .d (.int a)), (.inr "rest", .d (.int r)), (.inr "k", .d (.int k))]
section
variable {cs : List Int} {a r k : Int} {n : Nat}
theorem ix_dct {kus : List (Key × U)} {u v : U} {key : Key} (h : st[n]? = some (.dct kus)) (hk : keyU u = some key) (hv : valK kus key = some v) : ixU (.c n) u st = .ok v st := by
  unfold ixU
  simp only [scrU, lstU, h, tupU, dctU, hk, hv]
theorem v_cells : valK [(.inr "cells", .d (.lst (cs.map .int))), (.inr "at", .d (.int a)), (.inr "rest", .d (.int r)), (.inr "k", .d (.int k))] (.inr "cells") = some (.d (.lst (cs.map .int))) := rfl
theorem v_at : valK [(.inr "cells", .d (.lst (cs.map .int))), (.inr "at", .d (.int a)), (.inr "rest", .d (.int r)), (.inr "k", .d (.int k))] (.inr "at") = some (.d (.int a)) := rfl
theorem v_rest : valK [(.inr "cells", .d (.lst (cs.map .int))), (.inr "at", .d (.int a)), (.inr "rest", .d (.int r)), (.inr "k", .d (.int k))] (.inr "rest") = some (.d (.int r)) := rfl
theorem v_k : valK [(.inr "cells", .d (.lst (cs.map .int))), (.inr "at", .d (.int a)), (.inr "rest", .d (.int r)), (.inr "k", .d (.int k))] (.inr "k") = some (.d (.int k)) := rfl
theorem ix_cells (h : st[n]? = some (stO cs a r k)) : ixU (.c n) (.d (.str "cells")) st = .ok (.d (.lst (cs.map .int))) st := ix_dct h rfl v_cells
theorem ix_at (h : st[n]? = some (stO cs a r k)) : ixU (.c n) (.d (.str "at")) st = .ok (.d (.int a)) st := ix_dct h rfl v_at
theorem ix_rest (h : st[n]? = some (stO cs a r k)) : ixU (.c n) (.d (.str "rest")) st = .ok (.d (.int r)) st := ix_dct h rfl v_rest
theorem ix_k (h : st[n]? = some (stO cs a r k)) : ixU (.c n) (.d (.str "k")) st = .ok (.d (.int k)) st := ix_dct h rfl v_k
theorem set_dct {kus : List (Key × U)} {u v : U} {key : Key} (h : st[n]? = some (.dct kus)) (hk : keyU u = some key) (hl : kus.length < lim) : setU (.c n) u v st = some (st.set n (.dct (putU kus key v))) := by
  unfold setU
  simp only [h, hk, if_pos hl]
theorem p_at {b : Int} : putU [(.inr "cells", .d (.lst (cs.map .int))), (.inr "at", .d (.int a)), (.inr "rest", .d (.int r)), (.inr "k", .d (.int k))] (.inr "at") (.d (.int b)) = [(.inr "cells", .d (.lst (cs.map .int))), (.inr "at", .d (.int b)), (.inr "rest", .d (.int r)), (.inr "k", .d (.int k))] := rfl
theorem p_rest {b : Int} : putU [(.inr "cells", .d (.lst (cs.map .int))), (.inr "at", .d (.int a)), (.inr "rest", .d (.int r)), (.inr "k", .d (.int k))] (.inr "rest") (.d (.int b)) = [(.inr "cells", .d (.lst (cs.map .int))), (.inr "at", .d (.int a)), (.inr "rest", .d (.int b)), (.inr "k", .d (.int k))] := rfl
theorem put_at {b : Int} (h : st[n]? = some (stO cs a r k)) : setU (.c n) (.d (.str "at")) (.d (.int b)) st = some (st.set n (stO cs b r k)) := by
  rw [set_dct (key := .inr "at") h rfl (by show 4 < 16777216; decide), p_at]
  rfl
theorem put_rest {b : Int} (h : st[n]? = some (stO cs a r k)) : setU (.c n) (.d (.str "rest")) (.d (.int b)) st = some (st.set n (stO cs a b k)) := by
  rw [set_dct (key := .inr "rest") h rfl (by show 4 < 16777216; decide), p_rest]
  rfl
theorem lst_at {x : O} {o : O} (h : st[n]? = some o) : (st.set n x)[n]? = some x := by
  have hl := (List.getElem?_eq_some_iff.mp h).1
  simp [hl]
theorem q_lenL {xs : List D} : EQ (lenU (.d (.lst xs)) st) QU X = QU (.d (.int (xs.length : Nat))) st := by
  unfold lenU
  simp [scrU, lstU]
/-- what stands between two takes -/
structure TapeAt (st : Sto) (n : Nat) (b : Int) : Prop where
  ex : ∃ cs a r k, st[n]? = some (stO cs a r k) ∧ cs ≠ [] ∧ 0 ≤ a ∧ a ≤ b ∧ 0 ≤ k ∧ k ≤ 1000000
theorem TapeAt.mono {b c : Int} (h : TapeAt st n b) (hb : b ≤ c) : TapeAt st n c := by
  obtain ⟨cs, a, r, k, h1, h2, h3, h4, h5⟩ := h.ex
  exact ⟨cs, a, r, k, h1, h2, h3, by omega, h5⟩
/-- only the cell n may be another -/
structure Keep (n : Nat) (st st' : Sto) : Prop where
  len : st'.length = st.length
  oth : ∀ m, m ≠ n → st'[m]? = st[m]?
theorem Keep.refl : Keep n st st := ⟨rfl, fun _ _ => rfl⟩
theorem Keep.trans {s1 s2 s3 : Sto} (a : Keep n s1 s2) (b : Keep n s2 s3) : Keep n s1 s3 := ⟨b.len.trans a.len, fun m h => (b.oth m h).trans (a.oth m h)⟩
theorem Keep.set {o : O} : Keep n st (st.set n o) := ⟨by simp, fun m h => by rw [List.getElem?_set, if_neg (Ne.symm h)]⟩
theorem take_rule {m : Int} {b : Int} (h : TapeAt st n b) (hb : b ≤ 1000000) (hm : 0 < m) (hm2 : m.natAbs.log2 < 9000) (hQ : ∀ v st', 0 ≤ v → v < m → TapeAt st' n (b + 1) → Keep n st st' → QU (.d (.int v)) st') : EQ (q_law_take fz [.c n, .d (.int m)] st) QU X := by
  obtain ⟨cs, a, r, k, h1, h2, h3, h4, h5, h6⟩ := h.ex
  refine q_call rfl ?_
  have g1 : ∀ o, (st.set n o)[n]? = some o := fun o => lst_at h1
  have hcs : 0 < cs.length := List.length_pos_iff.mpr h2
  have done : ∀ (v r' : Int), 0 ≤ v → v < m → QU (.d (.int v)) (st.set n (stO cs (a + 1) r' k)) := fun v r' z1 z2 => hQ _ _ z1 z2 ⟨cs, a + 1, r', k, g1 _, h2, by omega, by omega, h5, h6⟩ .set
  have cm : ∀ w : Int, 0 ≤ w % m ∧ w % m < m := fun w => ⟨Int.emod_nonneg _ (by omega), Int.emod_lt_of_pos _ hm⟩
  have dv : cDivOk r m = true := by
    unfold cDivOk
    simp [hm, hm2]
  simp only [b_law_take, q_pure, q_cvar, q_op1, q_op2, q_nil, q_cons, q_args, q_and, q_or, q_not, q_chain, q_if, q_lst, q_tup, q_tB1, q_tTr, q_tNo, q_tAn, q_tOu, q_tYes, q_sub, q_fdiv, q_mod, q_pow, q_lt, q_le, q_gt, q_ge, q_add, q_mul, q_eqi, q_nei, q_sNil, q_seq, q_sExp, q_ret, q_retN, q_asg, q_sIf, q_put, q_for, q_range1, q_enum, EQ_ok, SQ_ok, EQ_bad, SQ_bad, env0, List.map_cons, List.map_nil, List.length_cons, List.length_nil, List.length_set, List.length_append, Nat.reduceAdd, Nat.reduceSub, Nat.reduceLT, Nat.reduceLeDiff, Nat.zero_add, List.replicate, List.cons_append, List.nil_append, List.getElem?_cons_zero, List.getElem?_cons_succ, List.set_cons_zero, List.set_cons_succ, newL, newT, closed, Option.map_some, Option.map_none, lim, true_and, and_true, if_true, if_false, Bool.false_eq_true, reduceIte, ite_true, ite_false, q_list1, Bool.not_true, Bool.not_false, Nat.le_refl, Int.reduceLT, Int.reduceLE, Int.reducePow, Int.reduceToNat, Int.reduceNeg, List.nil_append, List.append_nil, beq_self_eq_true, decide_true, decide_false, Bool.and_true, Bool.true_and, Bool.and_false, Bool.false_and, Bool.or_true, Bool.true_or, Bool.or_false, Bool.false_or, ix_at h1, put_at h1]
  simp only [ix_cells (g1 _), q_pure, q_cvar, q_op1, q_op2, q_nil, q_cons, q_args, q_and, q_or, q_not, q_chain, q_if, q_lst, q_tup, q_tB1, q_tTr, q_tNo, q_tAn, q_tOu, q_tYes, q_sub, q_fdiv, q_mod, q_pow, q_lt, q_le, q_gt, q_ge, q_add, q_mul, q_eqi, q_nei, q_sNil, q_seq, q_sExp, q_ret, q_retN, q_asg, q_sIf, q_put, q_for, q_range1, q_enum, EQ_ok, SQ_ok, EQ_bad, SQ_bad, env0, List.map_cons, List.map_nil, List.length_cons, List.length_nil, List.length_set, List.length_append, Nat.reduceAdd, Nat.reduceSub, Nat.reduceLT, Nat.reduceLeDiff, Nat.zero_add, List.replicate, List.cons_append, List.nil_append, List.getElem?_cons_zero, List.getElem?_cons_succ, List.set_cons_zero, List.set_cons_succ, newL, newT, closed, Option.map_some, Option.map_none, lim, true_and, and_true, if_true, if_false, Bool.false_eq_true, reduceIte, ite_true, ite_false, q_list1, Bool.not_true, Bool.not_false, Nat.le_refl, Int.reduceLT, Int.reduceLE, Int.reducePow, Int.reduceToNat, Int.reduceNeg, List.nil_append, List.append_nil, beq_self_eq_true, decide_true, decide_false, Bool.and_true, Bool.true_and, Bool.and_false, Bool.false_and, Bool.or_true, Bool.true_or, Bool.or_false, Bool.false_or, q_lenL, List.length_map]
  have d60 : ∀ w : Int, cDivOk w 60 = true := fun w => by
    unfold cDivOk
    decide
  have d11 : ∀ w : Int, cDivOk w 11 = true := fun w => by
    unfold cDivOk
    decide
  have dm : ∀ w : Int, cDivOk w m = true := fun w => by
    unfold cDivOk
    simp [hm, hm2]
  have ends : ∀ o : O, EQ (fin fz (.d (.int 0)) st (st.set n o)) (fun _ _ => True) (fun _ _ => True) := fun o => by
    rw [q_fin (by simp)]
    trivial
  have fz_ : ∀ (u : U) (o : O), EQ (fin fz u st (st.set n o)) QU X = QU u (st.set n o) := fun u o => q_fin (by simp)
  refine ⟨d60 _, by omega, ?_⟩
  refine q_ixl (Int.emod_nonneg _ (by omega)) (by rw [List.length_map]; exact Int.emod_lt_of_pos _ (by omega)) ?_
  intro x hx
  obtain ⟨c, _, rfl⟩ := List.mem_map.mp hx
  have kk : kOk (a + 60 * k) := ⟨by omega, by omega⟩
  have kk2 : kOk (a + 60 * k + 9001) := ⟨by omega, by omega⟩
  have tail : ∀ r' : Int, 0 < r' → QU (.d (.int (r' % m))) (st.set n (stO cs (a + 1) (r' / m) k)) := fun r' _ => done _ _ (cm _).1 (cm _).2
  have p18 : cPow2Ok 10 18 = true := by decide +kernel
  rcases Bool.eq_false_or_eq_true (a % 60 == 0) with e1 | e1
  all_goals simp only [e1, p18, put_rest (g1 _), List.set_set, ix_rest (g1 _), ix_k (g1 _), q_pure, q_cvar, q_op1, q_op2, q_nil, q_cons, q_args, q_and, q_or, q_not, q_chain, q_if, q_lst, q_tup, q_tB1, q_tTr, q_tNo, q_tAn, q_tOu, q_tYes, q_sub, q_fdiv, q_mod, q_pow, q_lt, q_le, q_gt, q_ge, q_add, q_mul, q_eqi, q_nei, q_sNil, q_seq, q_sExp, q_ret, q_retN, q_asg, q_sIf, q_put, q_for, q_range1, q_enum, EQ_ok, SQ_ok, EQ_bad, SQ_bad, env0, List.map_cons, List.map_nil, List.length_cons, List.length_nil, List.length_set, List.length_append, Nat.reduceAdd, Nat.reduceSub, Nat.reduceLT, Nat.reduceLeDiff, Nat.zero_add, List.replicate, List.cons_append, List.nil_append, List.getElem?_cons_zero, List.getElem?_cons_succ, List.set_cons_zero, List.set_cons_succ, newL, newT, closed, Option.map_some, Option.map_none, lim, true_and, and_true, if_true, if_false, Bool.false_eq_true, reduceIte, ite_true, ite_false, q_list1, Bool.not_true, Bool.not_false, Nat.le_refl, Int.reduceLT, Int.reduceLE, Int.reducePow, Int.reduceToNat, Int.reduceNeg, List.nil_append, List.append_nil, beq_self_eq_true, decide_true, decide_false, Bool.and_true, Bool.true_and, Bool.and_false, Bool.false_and, Bool.or_true, Bool.true_or, Bool.or_false, Bool.false_or]
  rcases Bool.eq_false_or_eq_true (decide ((10 : Int) ^ 18 ≤ c)) with e2 | e2
  all_goals try simp only [e2, p18, put_rest (g1 _), List.set_set, ix_rest (g1 _), ix_k (g1 _), q_pure, q_cvar, q_op1, q_op2, q_nil, q_cons, q_args, q_and, q_or, q_not, q_chain, q_if, q_lst, q_tup, q_tB1, q_tTr, q_tNo, q_tAn, q_tOu, q_tYes, q_sub, q_fdiv, q_mod, q_pow, q_lt, q_le, q_gt, q_ge, q_add, q_mul, q_eqi, q_nei, q_sNil, q_seq, q_sExp, q_ret, q_retN, q_asg, q_sIf, q_put, q_for, q_range1, q_enum, EQ_ok, SQ_ok, EQ_bad, SQ_bad, env0, List.map_cons, List.map_nil, List.length_cons, List.length_nil, List.length_set, List.length_append, Nat.reduceAdd, Nat.reduceSub, Nat.reduceLT, Nat.reduceLeDiff, Nat.zero_add, List.replicate, List.cons_append, List.nil_append, List.getElem?_cons_zero, List.getElem?_cons_succ, List.set_cons_zero, List.set_cons_succ, newL, newT, closed, Option.map_some, Option.map_none, lim, true_and, and_true, if_true, if_false, Bool.false_eq_true, reduceIte, ite_true, ite_false, q_list1, Bool.not_true, Bool.not_false, Nat.le_refl, Int.reduceLT, Int.reduceLE, Int.reducePow, Int.reduceToNat, Int.reduceNeg, List.nil_append, List.append_nil, beq_self_eq_true, decide_true, decide_false, Bool.and_true, Bool.true_and, Bool.and_false, Bool.false_and, Bool.or_true, Bool.true_or, Bool.or_false, Bool.false_or]
  all_goals
    repeat' split
    all_goals first
      | exact ⟨hm, dm _, by rw [fz_]; exact done _ _ (cm _).1 (cm _).2⟩
      | (refine ⟨mul_l (by decide), mixed_rule kk fun v => ?_⟩
         rw [q_mul]
         refine ⟨mul_r (by decide), mixed_rule kk2 fun w => ?_⟩
         simp only [q_add, q_fdiv, q_mod, fz_]
         exact ⟨d11 _, hm, done _ _ (cm _).1 (cm _).2⟩)
end
end
end KL
/-! More words: comprehensions, dict displays, repr and ==. -/
namespace KB
open PySem L2 KL
section
variable {α β : Type} {Q : α → Sto → Prop} {QU : U → Sto → Prop} {X : Ex → Sto → Prop} {env : Lo} {st : Sto}
theorem app_get {x : O} : (st ++ [x])[st.length]? = some x := by simp
theorem app_set {x y : O} : (st ++ [x]).set st.length y = st ++ [y] := by
  rw [List.set_append_right _ _ (Nat.le_refl _), Nat.sub_self]
  rfl
theorem trim_app {l : Sto} : trimOk st (st ++ l) = true := by
  unfold trimOk
  simp
theorem trim_keep {s l : Sto} (h : s.length = st.length) (hc : s.all (lowO st.length) = true) : trimOk st (s ++ l) = true := by
  unfold trimOk
  rw [← h, List.take_left, h, hc, Bool.or_true]
/-! comprehensions of closed parts -/
theorem lc_turns {t : Tgt} {tt : MT} {te : ME} {gd : Gd} {env0 : Lo} {st1 : Sto} (f : U → Option D) (hg : ∀ acc, gdOk (st1 ++ [.lst acc]) gd = true) : ∀ (us : List U) (acc : List U),
    acc.length + us.length ≤ lim → (∀ u ∈ us, ∃ env1, setT t u env0 = some env1 ∧ ∀ acc, EQ (tt env1 (st1 ++ [.lst acc])) (fun b s => s = st1 ++ [.lst acc] ∧ (if b = true then EQ (te env1 (st1 ++ [.lst acc])) (fun y s2 => s2 = st1 ++ [.lst acc] ∧ ∃ d, y = .d d ∧ f u = some d) (fun _ _ => False) else f u = none)) fun _ _ => False) →
    lcU t tt te gd st1.length env0 us (st1 ++ [.lst acc]) = .ok () (st1 ++ [.lst (acc ++ (us.filterMap f).map .d)])
  | [], acc, _, _ => by
    unfold lcU
    rw [if_pos (hg _)]
    simp
  | u :: us, acc, hl, h => by
    obtain ⟨env1, h1, h2⟩ := h u (List.mem_cons_self ..)
    have h3 := h2 acc
    unfold lcU
    rw [if_pos (hg _), h1]
    simp only
    rw [List.length_cons] at hl
    cases e : tt env1 (st1 ++ [.lst acc]) with
    | bad =>
      rw [e] at h3
      exact h3.elim
    | exc z s =>
      rw [e] at h3
      exact h3.elim
    | ok b s =>
      rw [e] at h3
      obtain ⟨h4, h5⟩ := h3
      subst h4
      cases b with
      | false =>
        have h6 : f u = none := h5
        simp only
        rw [lc_turns f hg us acc (by omega) fun w hw => h w (List.mem_cons_of_mem _ hw)]
        simp [List.filterMap_cons, h6]
      | true =>
        simp only [if_true] at h5
        simp only
        cases e2 : te env1 (st1 ++ [.lst acc]) with
        | bad =>
          rw [e2] at h5
          exact h5.elim
        | exc z s =>
          rw [e2] at h5
          exact h5.elim
        | ok y s =>
          rw [e2] at h5
          obtain ⟨h6, d, h7, h8⟩ := h5
          subst h6 h7
          simp only [app_get]
          have h10 : acc.length < lim := by omega
          rw [if_pos h10, app_set, lc_turns f hg us _ (by rw [List.length_append, List.length_singleton]; omega) fun w hw => h w (List.mem_cons_of_mem _ hw)]
          simp [List.filterMap_cons, h8]
theorem q_lc {src : MI} {t : Tgt} {tt : MT} {te : ME} {own : List Nat} (f : U → Option D) (h : EQ (src env st) (fun p st1 => (∀ acc, gdOk (st1 ++ [.lst acc]) p.2 = true) ∧ p.1.length ≤ lim ∧
    (∀ u ∈ p.1, ∃ env1, setT t u (wipeL env own) = some env1 ∧ ∀ acc, EQ (tt env1 (st1 ++ [.lst acc])) (fun b s => s = st1 ++ [.lst acc] ∧ (if b = true then EQ (te env1 (st1 ++ [.lst acc])) (fun y s2 => s2 = st1 ++ [.lst acc] ∧ ∃ d, y = .d d ∧ f u = some d) (fun _ _ => False) else f u = none)) fun _ _ => False) ∧
    QU (.d (.lst (p.1.filterMap f))) st1) X) : EQ (cLc true src t tt te own env st) QU X := by
  unfold cLc
  cases e : src env st with
  | bad =>
    rw [e] at h
    exact h
  | exc z s =>
    rw [e] at h
    exact h
  | ok p st1 =>
    rw [e] at h
    obtain ⟨us, gd⟩ := p
    obtain ⟨h1, h2, h3, h4⟩ := h
    simp only
    rw [lc_turns f h1 us [] (by simpa using h2) h3]
    simp only [lcEnd, app_get, List.nil_append, closed_map, Bool.true_and, trim_app, if_true, List.take_left]
    exact h4
/-! a fresh dict -/
theorem q_dct {fz : Bool} {cs : List (ME × ME)} : EQ (cDct fz cs env st) QU X = EQ (cFlat cs env (st ++ [.dct []])) (fun us st2 => match st2[st.length]?, pairsU us with
  | some (.dct []), some kus => kus.length ≤ 15 ∧ EQ (dcEnd fz st (st2.set st.length (.dct (mergeU [] kus)))) QU X
  | _, _ => False) X := by
  unfold cDct
  rw [EQ_bind]
  congr 1
  funext us st2
  split
  · rename_i kus h1 h2
    split
    · rename_i h
      simp [h, h1, h2]
    · rename_i h
      simp [h, h1, h2]
  · rename_i h
    first
      | rfl
      | (split
         · rename_i h1 h2
           exact absurd h2 (h _ h1)
         · rfl)
theorem q_dcEnd0 {kus : List (Key × U)} : EQ (dcEnd false st (st ++ [.dct kus])) QU X = QU (.c st.length) (st ++ [.dct kus]) := by
  unfold dcEnd
  rw [app_get]
  simp only
  split <;> rfl
theorem q_dcEnd1 {kus : List (Key × U)} {ds : List D} (h : closed (kus.map (·.2)) = some ds) : EQ (dcEnd true st (st ++ [.dct kus])) QU X = QU (.d (.dct (kus.map (·.1)) ds)) st := by
  unfold dcEnd
  rw [app_get]
  simp only [h, Bool.true_and, trim_app, if_true, List.take_left]
  rfl
/-! repr, == -/
theorem q_repr {u : U} {p : PyData} {z : Str} (h : pyU st 4 u = some p) (h2 : ((p.showable && !p.hasDict) && (decide (p.depth ≤ 100) && decide (p.shown.length ≤ lim))) = true) (h3 : p.shown = z) : EQ (reprU u st) QU X = QU (.d (.str z)) st := by
  unfold reprU
  rw [h]
  simp only
  rw [if_pos h2, h3]
  rfl
theorem q_ne {u w : U} {p q : PyData} (h1 : pyU st 4 u = some p) (h2 : pyU st 4 w = some q) (h3 : (SeqAt.shaped p && SeqAt.shaped q) = true) : EQ (neU u w st) QU X = QU (.d (.bl (!PyData.eqv p q))) st := by
  unfold neU
  split
  · cases h1
    cases h2
    simp only [PyData.eqv]
    rfl
  · rw [h1, h2]
    simp only
    rw [if_pos h3]
    rfl
theorem q_eq {u w : U} {p q : PyData} (h1 : pyU st 4 u = some p) (h2 : pyU st 4 w = some q) (h3 : (SeqAt.shaped p && SeqAt.shaped q) = true) : EQ (eqU u w st) QU X = QU (.d (.bl (PyData.eqv p q))) st := by
  unfold eqU
  split
  · cases h1
    cases h2
    simp only [PyData.eqv]
    rfl
  · rw [h1, h2]
    simp only
    rw [if_pos h3]
    rfl
theorem q_nes {x y : Str} : EQ (neU (.d (.str x)) (.d (.str y)) st) QU X = QU (.d (.bl (!(x == y)))) st := rfl
theorem q_eqs {x y : Str} : EQ (eqU (.d (.str x)) (.d (.str y)) st) QU X = QU (.d (.bl (x == y))) st := rfl
theorem q_finD {x : D} {fz : Bool} {st' : Sto} (h : ∀ s, QU (.d x) s) : EQ (fin fz (.d x) st st') QU X := by
  unfold fin
  split
  · exact h _
  · split
    · simp only [lowU, if_true]
      exact h _
    · exact h _
/-- a loop that goes on to its end -/
theorem q_loopN {t : Tgt} {b : MS} {gd : Gd} {QS : Fl → Lo → Sto → Prop} {XS : Ex → Lo → Sto → Prop} (I : List U → Lo → Sto → Prop) (hg : ∀ us env st, I us env st → gdOk st gd = true)
    (hs : ∀ u us env st, I (u :: us) env st → ∃ env1, setT t u env = some env1 ∧ SQ (b env1 st) (fun f env2 st2 => f = .nx ∧ I us env2 st2) XS) {us : List U} {env : Lo} {st : Sto} (h : I us env st) (he : ∀ env st, I [] env st → QS .nx env st) : SQ (loopU t b gd us env st) QS XS := by
  refine q_loop I hg (fun u us env st h => ?_) he h
  obtain ⟨env1, h1, h2⟩ := hs u us env st h
  refine ⟨env1, h1, h2.imp (fun f e s z => ?_) fun _ _ _ z => z⟩
  obtain ⟨z1, z2⟩ := z
  subst z1
  exact z2
theorem tru_bl {b : Bool} : truU st (.d (.bl b)) = some b := rfl
theorem tru_int {i : Int} : truU st (.d (.int i)) = some (i != 0) := rfl
theorem tru_non : truU st (.d .non) = some false := rfl
/-- what is walked in order -/
def seqI : U → Sto → Re (List U × Gd) := fun u st => match u with
  | .d (.str z) => .ok (z.cps.toList.map fun k => .d (.str ⟨#[k]⟩), none) st
  | u => match scrU st u, tupU u with
    | some us, _ => .ok (us, some (u, us)) st
    | none, some us => .ok (us, none) st
    | none, none => .bad
theorem q_iseq {c : ME} {QI : List U × Gd → Sto → Prop} : EQ (iSeq c env st) QI X = EQ (c env st) (fun u st => EQ (seqI u st) QI X) X := EQ_bind
theorem seq_str {z : Str} {QI : List U × Gd → Sto → Prop} : EQ (seqI (.d (.str z)) st) QI X = QI (z.cps.toList.map fun k => .d (.str ⟨#[k]⟩), none) st := rfl
theorem seq_lst {xs : List D} {QI : List U × Gd → Sto → Prop} : EQ (seqI (.d (.lst xs)) st) QI X = QI (xs.map .d, some (.d (.lst xs), xs.map .d)) st := rfl
theorem seq_tup {xs : List D} {QI : List U × Gd → Sto → Prop} : EQ (seqI (.d (.tup xs)) st) QI X = QI (xs.map .d, none) st := rfl
theorem gd_lst {xs : List D} {us : List U} (h : us = xs.map .d) : gdOk st (some (.d (.lst xs), us)) = true := by
  subst h
  simp [gdOk, scrU, lstU]
theorem gd_none : gdOk st none = true := rfl
theorem blsU_map : ∀ bs : List Bool, blsU ((bs.map D.bl).map U.d) = some bs
  | [] => rfl
  | b :: bs => by
    have := blsU_map bs
    simp only [List.map_cons, blsU, this, Option.map_some]
theorem q_all {bs : List Bool} : EQ (allU (.d (.lst (bs.map .bl))) st) QU X = QU (.d (.bl (bs.all id))) st := by
  unfold allU quanU
  simp only [scrU, lstU, blsU_map]
  rfl
theorem q_any {bs : List Bool} : EQ (anyU (.d (.lst (bs.map .bl))) st) QU X = QU (.d (.bl (bs.any id))) st := by
  unfold anyU quanU
  simp only [scrU, lstU, blsU_map]
  rfl
theorem q_lens {x : Str} (h : x.length ≤ lim) : EQ (lenU (.d (.str x)) st) QU X = QU (.d (.int (x.length : Nat))) st := by
  unfold lenU
  simp only
  rw [if_pos h]
  rfl
theorem chars_len (x : Str) : x.cps.toList.length = x.length := by simp [Str.length]
/-- a def whose new cells are none -/
theorem q_fin0 {u : U} {fz : Bool} : EQ (fin fz u st st) QU X = QU u st := q_fin (Nat.le_refl _)
theorem q_finX0 {e : Ex} : EQ (finX e st st) QU X = X e st := q_finX (Nat.le_refl _)
/-- == with [] -/
theorem depth_strs : ∀ l : List Str, PyData.depthAll (l.map .str) ≤ 1
  | [] => by simp [PyData.depthAll]
  | x :: l => by
    have := depth_strs l
    simp only [List.map_cons, PyData.depthAll, PyData.depth]
    omega
theorem lay_strs : ∀ l : List Str, l.all PyData.strOk = true → PyData.canLayAll0 (l.map .str) = true
  | [], _ => rfl
  | x :: l, h => by
    rw [List.all_cons, Bool.and_eq_true] at h
    simp [PyData.canLayAll0, PyData.canLay0, h.1, lay_strs l h.2]
theorem pyDs_strs : ∀ l : List Str, pyDs (l.map .str) = some (l.map .str)
  | [] => rfl
  | x :: l => by simp [pyDs, pyD, pyDs_strs l]
theorem q_eqnil {l : List Str} (h : l.all PyData.strOk = true) : EQ (eqU (.d (.lst (l.map .str))) (.d (.lst [])) st) QU X = QU (.d (.bl l.isEmpty)) st := by
  rw [q_eq (p := .list (l.map .str)) (q := .list []) (by simp [pyU, pyD, pyDs_strs]) (by simp [pyU, pyD, pyDs]) ?_]
  · cases l <;> simp [PyData.eqv, PyData.eqvAll]
  · have h1 := depth_strs l
    have h2 := lay_strs l h
    have h3 : PyData.depth (.list (l.map .str)) ≤ 64 := by
      simp only [PyData.depth]
      omega
    simp [SeqAt.shaped, PyData.canLay0, h2, h3, PyData.canLayAll0]
    simp [PyData.depth, PyData.depthAll]
theorem q_dcEndT {kus : List (Key × U)} : EQ (dcEnd true st (st ++ [.dct kus])) QU X = match closed (kus.map (·.2)) with
  | some ds => QU (.d (.dct (kus.map (·.1)) ds)) st
  | none => QU (.c st.length) (st ++ [.dct kus]) := by
  unfold dcEnd
  rw [app_get]
  simp only
  split
  · rename_i ds h
    simp only [h, Bool.true_and, trim_app, if_true, List.take_left]
    rfl
  · rename_i h
    first
      | rfl
      | (simp only [h]
         rfl)
theorem closed_ints (l : List Int) : closed (l.map fun i => U.d (.int i)) = some (l.map .int) := by
  have := closed_map (l.map D.int)
  rwa [List.map_map] at this
/-- the script's first 63 items and one more -/
def cScr (c : Int) : ME := cOp2 (addU true) (cSlice true (cVar 0) none (some (cPure (.d (.int 63))))) (cLst true (cCons (cPure (.d (.int c))) cNil))
theorem q_script {ns : List Int} {c : Int} {env : Lo} (h0 : env[0]? = some (some (.d (.scr ns)))) (hl : ns.length ≤ 63) (h : QU (.d (.lst ((ns ++ [c]).map .int))) st) :
    EQ (cScr c env st) QU X := by
  unfold cScr
  have e1 : cSlice true (cVar 0) none (some (cPure (.d (.int 63)))) env st = .ok (.d (.lst (ns.map .int))) st := by
    unfold cSlice cVar
    rw [h0]
    simp only [Re.bind_ok, cPart, cPure, sliceU, scrU]
    have e3 : cutU (ns.map fun n => U.d (.int n)) none (some 63) = (ns.map D.int).map U.d := by
      unfold cutU
      have z1 : HT.sIx (ns.map fun n => U.d (.int n)).length 0 none = 0 := rfl
      have z2 : HT.sIx (ns.map fun n => U.d (.int n)).length (ns.map fun n => U.d (.int n)).length (some 63) = ns.length := by
        have := HT.sIx_nat (ns.map fun n => U.d (.int n)).length (ns.map fun n => U.d (.int n)).length 63
        rw [List.length_map] at this ⊢
        exact this.trans (Nat.min_eq_right hl)
      rw [z1, z2, List.drop_zero, Nat.sub_zero, List.take_of_length_le (by simp), List.map_map]
      rfl
    rw [e3]
    unfold newL
    rw [closed_map]
  unfold cOp2
  rw [e1]
  simp only [Re.bind_ok]
  have e3 : EQ (cLst true (cCons (cPure (.d (.int c))) cNil) env st) (fun w st => EQ (addU true (.d (.lst (ns.map .int))) w st) QU X) X := by
    simp only [q_lst, q_cons, q_pure, q_nil, newL, closed, Option.map_some, EQ_ok]
    refine ⟨by simp [lim], ?_⟩
    have e4 : addU true (.d (.lst (ns.map .int))) (.d (.lst [.int c])) st = .ok (.d (.lst ((ns ++ [c]).map .int))) st := by
      unfold addU
      simp only [lstU]
      have e5 : ((ns.map D.int).map U.d) ++ ([D.int c].map U.d) = ((ns ++ [c]).map D.int).map U.d := by simp
      rw [e5]
      rw [if_pos (by simp [lim]; omega)]
      unfold newL
      rw [closed_map]
    rw [e4]
    exact h
  rw [EQ_bind]
  exact e3
theorem enum_ints {l : List Int} {u : U} (h : u ∈ enumU ((l.map D.int).map U.d)) : ∃ (k : Nat) (c : Int), u = .d (.tup [.int k, .int c]) ∧ k < l.length ∧ c ∈ l := by
  unfold enumU at h
  obtain ⟨p, hp, hu⟩ := List.mem_map.mp h
  clear h
  obtain ⟨x, i⟩ := p
  obtain ⟨h1, h2, h3⟩ := List.mem_zipIdx hp
  simp at h2 h3
  rw [h3] at hu
  exact ⟨i, l[i], hu.symm, h2, List.getElem_mem _⟩
theorem isi_non {kk : Kits} {ow : List Nat} {cs : List Cl}  : EQ (isiU kk ow cs (.d .non) st) QU X = match kitU kk (.ty "NoneType") cs with
  | some b => QU (.d (.bl b)) st
  | none => False := by
  unfold isiU
  simp only [tyU, ownIn, if_true]
  split <;> first | rfl | (rename_i h; simp only [h]; rfl)
theorem isi_bl {kk : Kits} {ow : List Nat} {cs : List Cl} {b : Bool} : EQ (isiU kk ow cs (.d (.bl b)) st) QU X = match kitU kk (.ty "bool") cs with
  | some b => QU (.d (.bl b)) st
  | none => False := by
  unfold isiU
  simp only [tyU, ownIn, if_true]
  split <;> first | rfl | (rename_i h; simp only [h]; rfl)
theorem isi_int {kk : Kits} {ow : List Nat} {cs : List Cl} {i : Int} : EQ (isiU kk ow cs (.d (.int i)) st) QU X = match kitU kk (.ty "int") cs with
  | some b => QU (.d (.bl b)) st
  | none => False := by
  unfold isiU
  simp only [tyU, ownIn, if_true]
  split <;> first | rfl | (rename_i h; simp only [h]; rfl)
theorem isi_str {kk : Kits} {ow : List Nat} {cs : List Cl} {x : Str} : EQ (isiU kk ow cs (.d (.str x)) st) QU X = match kitU kk (.ty "str") cs with
  | some b => QU (.d (.bl b)) st
  | none => False := by
  unfold isiU
  simp only [tyU, ownIn, if_true]
  split <;> first | rfl | (rename_i h; simp only [h]; rfl)
theorem isi_lst {kk : Kits} {ow : List Nat} {cs : List Cl} {xs : List D} : EQ (isiU kk ow cs (.d (.lst xs)) st) QU X = match kitU kk (.ty "list") cs with
  | some b => QU (.d (.bl b)) st
  | none => False := by
  unfold isiU
  simp only [tyU, ownIn, if_true]
  split <;> first | rfl | (rename_i h; simp only [h]; rfl)
theorem isi_tup {kk : Kits} {ow : List Nat} {cs : List Cl} {xs : List D} : EQ (isiU kk ow cs (.d (.tup xs)) st) QU X = match kitU kk (.ty "tuple") cs with
  | some b => QU (.d (.bl b)) st
  | none => False := by
  unfold isiU
  simp only [tyU, ownIn, if_true]
  split <;> first | rfl | (rename_i h; simp only [h]; rfl)
theorem isi_dct {kk : Kits} {ow : List Nat} {cs : List Cl} {ks : List Key} {xs : List D} : EQ (isiU kk ow cs (.d (.dct ks xs)) st) QU X = match kitU kk (.ty "dict") cs with
  | some b => QU (.d (.bl b)) st
  | none => False := by
  unfold isiU
  simp only [tyU, ownIn, if_true]
  split <;> first | rfl | (rename_i h; simp only [h]; rfl)
end
theorem k_NoneType_int : kitU kitsB (.ty "NoneType") [.ty "int"] = some false := by decide +kernel
theorem k_NoneType_str : kitU kitsB (.ty "NoneType") [.ty "str"] = some false := by decide +kernel
theorem k_NoneType_bool : kitU kitsB (.ty "NoneType") [.ty "bool"] = some false := by decide +kernel
theorem k_NoneType_list : kitU kitsB (.ty "NoneType") [.ty "list"] = some false := by decide +kernel
theorem k_NoneType_tuple : kitU kitsB (.ty "NoneType") [.ty "tuple"] = some false := by decide +kernel
theorem k_NoneType_dict : kitU kitsB (.ty "NoneType") [.ty "dict"] = some false := by decide +kernel
theorem k_bool_int : kitU kitsB (.ty "bool") [.ty "int"] = some true := by decide +kernel
theorem k_bool_str : kitU kitsB (.ty "bool") [.ty "str"] = some false := by decide +kernel
theorem k_bool_bool : kitU kitsB (.ty "bool") [.ty "bool"] = some true := by decide +kernel
theorem k_bool_list : kitU kitsB (.ty "bool") [.ty "list"] = some false := by decide +kernel
theorem k_bool_tuple : kitU kitsB (.ty "bool") [.ty "tuple"] = some false := by decide +kernel
theorem k_bool_dict : kitU kitsB (.ty "bool") [.ty "dict"] = some false := by decide +kernel
theorem k_int_int : kitU kitsB (.ty "int") [.ty "int"] = some true := by decide +kernel
theorem k_int_str : kitU kitsB (.ty "int") [.ty "str"] = some false := by decide +kernel
theorem k_int_bool : kitU kitsB (.ty "int") [.ty "bool"] = some false := by decide +kernel
theorem k_int_list : kitU kitsB (.ty "int") [.ty "list"] = some false := by decide +kernel
theorem k_int_tuple : kitU kitsB (.ty "int") [.ty "tuple"] = some false := by decide +kernel
theorem k_int_dict : kitU kitsB (.ty "int") [.ty "dict"] = some false := by decide +kernel
theorem k_str_int : kitU kitsB (.ty "str") [.ty "int"] = some false := by decide +kernel
theorem k_str_str : kitU kitsB (.ty "str") [.ty "str"] = some true := by decide +kernel
theorem k_str_bool : kitU kitsB (.ty "str") [.ty "bool"] = some false := by decide +kernel
theorem k_str_list : kitU kitsB (.ty "str") [.ty "list"] = some false := by decide +kernel
theorem k_str_tuple : kitU kitsB (.ty "str") [.ty "tuple"] = some false := by decide +kernel
theorem k_str_dict : kitU kitsB (.ty "str") [.ty "dict"] = some false := by decide +kernel
theorem k_list_int : kitU kitsB (.ty "list") [.ty "int"] = some false := by decide +kernel
theorem k_list_str : kitU kitsB (.ty "list") [.ty "str"] = some false := by decide +kernel
theorem k_list_bool : kitU kitsB (.ty "list") [.ty "bool"] = some false := by decide +kernel
theorem k_list_list : kitU kitsB (.ty "list") [.ty "list"] = some true := by decide +kernel
theorem k_list_tuple : kitU kitsB (.ty "list") [.ty "tuple"] = some false := by decide +kernel
theorem k_list_dict : kitU kitsB (.ty "list") [.ty "dict"] = some false := by decide +kernel
theorem k_tuple_int : kitU kitsB (.ty "tuple") [.ty "int"] = some false := by decide +kernel
theorem k_tuple_str : kitU kitsB (.ty "tuple") [.ty "str"] = some false := by decide +kernel
theorem k_tuple_bool : kitU kitsB (.ty "tuple") [.ty "bool"] = some false := by decide +kernel
theorem k_tuple_list : kitU kitsB (.ty "tuple") [.ty "list"] = some false := by decide +kernel
theorem k_tuple_tuple : kitU kitsB (.ty "tuple") [.ty "tuple"] = some true := by decide +kernel
theorem k_tuple_dict : kitU kitsB (.ty "tuple") [.ty "dict"] = some false := by decide +kernel
theorem k_dict_int : kitU kitsB (.ty "dict") [.ty "int"] = some false := by decide +kernel
theorem k_dict_str : kitU kitsB (.ty "dict") [.ty "str"] = some false := by decide +kernel
theorem k_dict_bool : kitU kitsB (.ty "dict") [.ty "bool"] = some false := by decide +kernel
theorem k_dict_list : kitU kitsB (.ty "dict") [.ty "list"] = some false := by decide +kernel
theorem k_dict_tuple : kitU kitsB (.ty "dict") [.ty "tuple"] = some false := by decide +kernel
theorem k_dict_dict : kitU kitsB (.ty "dict") [.ty "dict"] = some true := by decide +kernel
theorem len1 {α : Type} {l : List α} (h : l.length = 1) : ∃ a0, l = [a0] := match l, h with
  | [a0], _ => ⟨a0, rfl⟩
theorem len2 {α : Type} {l : List α} (h : l.length = 2) : ∃ a0 a1, l = [a0, a1] := match l, h with
  | [a0, a1], _ => ⟨a0, a1, rfl⟩
theorem len3 {α : Type} {l : List α} (h : l.length = 3) : ∃ a0 a1 a2, l = [a0, a1, a2] := match l, h with
  | [a0, a1, a2], _ => ⟨a0, a1, a2, rfl⟩
theorem len4 {α : Type} {l : List α} (h : l.length = 4) : ∃ a0 a1 a2 a3, l = [a0, a1, a2, a3] := match l, h with
  | [a0, a1, a2, a3], _ => ⟨a0, a1, a2, a3, rfl⟩
theorem len5 {α : Type} {l : List α} (h : l.length = 5) : ∃ a0 a1 a2 a3 a4, l = [a0, a1, a2, a3, a4] := match l, h with
  | [a0, a1, a2, a3, a4], _ => ⟨a0, a1, a2, a3, a4, rfl⟩
theorem len6 {α : Type} {l : List α} (h : l.length = 6) : ∃ a0 a1 a2 a3 a4 a5, l = [a0, a1, a2, a3, a4, a5] := match l, h with
  | [a0, a1, a2, a3, a4, a5], _ => ⟨a0, a1, a2, a3, a4, a5, rfl⟩
theorem len7 {α : Type} {l : List α} (h : l.length = 7) : ∃ a0 a1 a2 a3 a4 a5 a6, l = [a0, a1, a2, a3, a4, a5, a6] := match l, h with
  | [a0, a1, a2, a3, a4, a5, a6], _ => ⟨a0, a1, a2, a3, a4, a5, a6, rfl⟩
theorem len8 {α : Type} {l : List α} (h : l.length = 8) : ∃ a0 a1 a2 a3 a4 a5 a6 a7, l = [a0, a1, a2, a3, a4, a5, a6, a7] := match l, h with
  | [a0, a1, a2, a3, a4, a5, a6, a7], _ => ⟨a0, a1, a2, a3, a4, a5, a6, a7, rfl⟩
theorem len9 {α : Type} {l : List α} (h : l.length = 9) : ∃ a0 a1 a2 a3 a4 a5 a6 a7 a8, l = [a0, a1, a2, a3, a4, a5, a6, a7, a8] := match l, h with
  | [a0, a1, a2, a3, a4, a5, a6, a7, a8], _ => ⟨a0, a1, a2, a3, a4, a5, a6, a7, a8, rfl⟩
theorem len10 {α : Type} {l : List α} (h : l.length = 10) : ∃ a0 a1 a2 a3 a4 a5 a6 a7 a8 a9, l = [a0, a1, a2, a3, a4, a5, a6, a7, a8, a9] := match l, h with
  | [a0, a1, a2, a3, a4, a5, a6, a7, a8, a9], _ => ⟨a0, a1, a2, a3, a4, a5, a6, a7, a8, a9, rfl⟩
theorem len11 {α : Type} {l : List α} (h : l.length = 11) : ∃ a0 a1 a2 a3 a4 a5 a6 a7 a8 a9 a10, l = [a0, a1, a2, a3, a4, a5, a6, a7, a8, a9, a10] := match l, h with
  | [a0, a1, a2, a3, a4, a5, a6, a7, a8, a9, a10], _ => ⟨a0, a1, a2, a3, a4, a5, a6, a7, a8, a9, a10, rfl⟩
theorem len12 {α : Type} {l : List α} (h : l.length = 12) : ∃ a0 a1 a2 a3 a4 a5 a6 a7 a8 a9 a10 a11, l = [a0, a1, a2, a3, a4, a5, a6, a7, a8, a9, a10, a11] := match l, h with
  | [a0, a1, a2, a3, a4, a5, a6, a7, a8, a9, a10, a11], _ => ⟨a0, a1, a2, a3, a4, a5, a6, a7, a8, a9, a10, a11, rfl⟩
theorem len13 {α : Type} {l : List α} (h : l.length = 13) : ∃ a0 a1 a2 a3 a4 a5 a6 a7 a8 a9 a10 a11 a12, l = [a0, a1, a2, a3, a4, a5, a6, a7, a8, a9, a10, a11, a12] := match l, h with
  | [a0, a1, a2, a3, a4, a5, a6, a7, a8, a9, a10, a11, a12], _ => ⟨a0, a1, a2, a3, a4, a5, a6, a7, a8, a9, a10, a11, a12, rfl⟩
theorem len14 {α : Type} {l : List α} (h : l.length = 14) : ∃ a0 a1 a2 a3 a4 a5 a6 a7 a8 a9 a10 a11 a12 a13, l = [a0, a1, a2, a3, a4, a5, a6, a7, a8, a9, a10, a11, a12, a13] := match l, h with
  | [a0, a1, a2, a3, a4, a5, a6, a7, a8, a9, a10, a11, a12, a13], _ => ⟨a0, a1, a2, a3, a4, a5, a6, a7, a8, a9, a10, a11, a12, a13, rfl⟩
theorem len15 {α : Type} {l : List α} (h : l.length = 15) : ∃ a0 a1 a2 a3 a4 a5 a6 a7 a8 a9 a10 a11 a12 a13 a14, l = [a0, a1, a2, a3, a4, a5, a6, a7, a8, a9, a10, a11, a12, a13, a14] := match l, h with
  | [a0, a1, a2, a3, a4, a5, a6, a7, a8, a9, a10, a11, a12, a13, a14], _ => ⟨a0, a1, a2, a3, a4, a5, a6, a7, a8, a9, a10, a11, a12, a13, a14, rfl⟩
theorem len16 {α : Type} {l : List α} (h : l.length = 16) : ∃ a0 a1 a2 a3 a4 a5 a6 a7 a8 a9 a10 a11 a12 a13 a14 a15, l = [a0, a1, a2, a3, a4, a5, a6, a7, a8, a9, a10, a11, a12, a13, a14, a15] := match l, h with
  | [a0, a1, a2, a3, a4, a5, a6, a7, a8, a9, a10, a11, a12, a13, a14, a15], _ => ⟨a0, a1, a2, a3, a4, a5, a6, a7, a8, a9, a10, a11, a12, a13, a14, a15, rfl⟩
theorem len17 {α : Type} {l : List α} (h : l.length = 17) : ∃ a0 a1 a2 a3 a4 a5 a6 a7 a8 a9 a10 a11 a12 a13 a14 a15 a16, l = [a0, a1, a2, a3, a4, a5, a6, a7, a8, a9, a10, a11, a12, a13, a14, a15, a16] := match l, h with
  | [a0, a1, a2, a3, a4, a5, a6, a7, a8, a9, a10, a11, a12, a13, a14, a15, a16], _ => ⟨a0, a1, a2, a3, a4, a5, a6, a7, a8, a9, a10, a11, a12, a13, a14, a15, a16, rfl⟩
theorem len18 {α : Type} {l : List α} (h : l.length = 18) : ∃ a0 a1 a2 a3 a4 a5 a6 a7 a8 a9 a10 a11 a12 a13 a14 a15 a16 a17, l = [a0, a1, a2, a3, a4, a5, a6, a7, a8, a9, a10, a11, a12, a13, a14, a15, a16, a17] := match l, h with
  | [a0, a1, a2, a3, a4, a5, a6, a7, a8, a9, a10, a11, a12, a13, a14, a15, a16, a17], _ => ⟨a0, a1, a2, a3, a4, a5, a6, a7, a8, a9, a10, a11, a12, a13, a14, a15, a16, a17, rfl⟩
theorem len19 {α : Type} {l : List α} (h : l.length = 19) : ∃ a0 a1 a2 a3 a4 a5 a6 a7 a8 a9 a10 a11 a12 a13 a14 a15 a16 a17 a18, l = [a0, a1, a2, a3, a4, a5, a6, a7, a8, a9, a10, a11, a12, a13, a14, a15, a16, a17, a18] := match l, h with
  | [a0, a1, a2, a3, a4, a5, a6, a7, a8, a9, a10, a11, a12, a13, a14, a15, a16, a17, a18], _ => ⟨a0, a1, a2, a3, a4, a5, a6, a7, a8, a9, a10, a11, a12, a13, a14, a15, a16, a17, a18, rfl⟩
theorem len20 {α : Type} {l : List α} (h : l.length = 20) : ∃ a0 a1 a2 a3 a4 a5 a6 a7 a8 a9 a10 a11 a12 a13 a14 a15 a16 a17 a18 a19, l = [a0, a1, a2, a3, a4, a5, a6, a7, a8, a9, a10, a11, a12, a13, a14, a15, a16, a17, a18, a19] := match l, h with
  | [a0, a1, a2, a3, a4, a5, a6, a7, a8, a9, a10, a11, a12, a13, a14, a15, a16, a17, a18, a19], _ => ⟨a0, a1, a2, a3, a4, a5, a6, a7, a8, a9, a10, a11, a12, a13, a14, a15, a16, a17, a18, a19, rfl⟩
end KB
namespace KL
open PySem L2 KB
section
variable {QU : U → Sto → Prop} {X : Ex → Sto → Prop} {st : Sto} {fz : Bool}
theorem state_rule {cs : List Int} {k : Int} (h : QU (.c st.length) (st ++ [stO cs 0 0 k])) : EQ (q_law_state false [.d (.lst (cs.map .int)), .d (.int k)] st) QU X := by
  refine q_call rfl ?_
  simp only [b_law_state, q_pure, q_cvar, q_op1, q_op2, q_nil, q_cons, q_args, q_and, q_or, q_not, q_chain, q_if, q_lst, q_tup, q_tB1, q_tTr, q_tNo, q_tAn, q_tOu, q_tYes, q_sub, q_fdiv, q_mod, q_pow, q_lt, q_le, q_gt, q_ge, q_add, q_mul, q_eqi, q_nei, q_sNil, q_seq, q_sExp, q_ret, q_retN, q_asg, q_sIf, q_put, q_for, q_range1, q_enum, EQ_ok, SQ_ok, EQ_bad, SQ_bad, env0, List.map_cons, List.map_nil, List.length_cons, List.length_nil, List.length_set, List.length_append, Nat.reduceAdd, Nat.reduceSub, Nat.reduceLT, Nat.reduceLeDiff, Nat.zero_add, List.replicate, List.cons_append, List.nil_append, List.getElem?_cons_zero, List.getElem?_cons_succ, List.set_cons_zero, List.set_cons_succ, newL, newT, closed, Option.map_some, Option.map_none, lim, true_and, and_true, if_true, if_false, Bool.false_eq_true, reduceIte, ite_true, ite_false, q_list1, Bool.not_true, Bool.not_false, Nat.le_refl, Int.reduceLT, Int.reduceLE, Int.reducePow, Int.reduceToNat, Int.reduceNeg, List.nil_append, List.append_nil, beq_self_eq_true, decide_true, decide_false, Bool.and_true, Bool.true_and, Bool.and_false, Bool.false_and, Bool.or_true, Bool.true_or, Bool.or_false, Bool.false_or, q_dct, cFlat, app_get, pairsU, keyU]
  have e : mergeU [] [(.inr (Str.ofString "cells"), .d (.lst (cs.map .int))), (.inr (Str.ofString "at"), .d (.int 0)), (.inr (Str.ofString "rest"), .d (.int 0)), (.inr (Str.ofString "k"), .d (.int k))] = [(.inr "cells", .d (.lst (cs.map .int))), (.inr "at", .d (.int 0)), (.inr "rest", .d (.int 0)), (.inr "k", .d (.int k))] := rfl
  simp only [e, app_set, q_dcEnd0]
  unfold fin
  simp only [List.length_append, List.length_singleton, trim_app, lowU]
  simp
  exact h
end
end KL
/-! Words for classes, methods, lists that grow. -/
namespace KB
open PySem L2 KL
section
variable {QU : U → Sto → Prop} {X : Ex → Sto → Prop} {env : Lo} {st : Sto} {QS : Fl → Lo → Sto → Prop} {XS : Ex → Lo → Sto → Prop}
theorem q_mkU {c : Nat} {fz : Bool} {init : MF} {us : List U} (h : EQ (init (.c st.length :: us) (st ++ [.ins c []])) (fun u st' => u = .d .non ∧ EQ (fin fz (.c st.length) st st') QU X) (fun e st' => EQ (finX e st st') QU X)) : EQ (mkU c fz init us st) QU X := by
  unfold mkU
  cases e : init (.c st.length :: us) (st ++ [.ins c []]) with
  | bad =>
    rw [e] at h
    exact h
  | exc z s =>
    rw [e] at h
    exact h
  | ok u s =>
    rw [e] at h
    obtain ⟨h1, h2⟩ := h
    subst h1
    exact h2
theorem q_fld {na : Na} {i : Nat} {o c : ME} : SQ (sFld na i o c env st) QS XS = EQ (c env st) (fun v st => EQ (o env st) (fun ov st => match setF na i v ov st with
  | some st' => QS .nx env st'
  | none => False) (fun e st => XS e env st)) (fun e st => XS e env st) := by
  unfold sFld
  rw [q_val]
  congr 1
  funext v st
  rw [q_val]
  congr 1
  funext ov st
  split <;> first | rfl | (rename_i h; rw [h]; rfl)
theorem setF_new {na : Na} {i c : Nat} {v : U} {fus : List (Nat × U)} (h : (inNa na c i && decide (fus.length < 1000)) = true) : setF na i v (.c st.length) (st ++ [.ins c fus]) = some (st ++ [.ins c (putFU i v fus)]) := by
  unfold setF
  simp only [app_get, app_set]
  rw [if_pos h]
theorem allO_closed {n0 : Nat} {s : Sto} {n : Nat} : ∀ {us : List U} {ds : List D}, closed us = some ds → allO (frzU n0 s n) us = some ds
  | [], ds, h => by
    simp only [closed] at h
    cases h
    rfl
  | .d x :: us, ds, h => by
    simp only [closed] at h
    obtain ⟨ys, h1, h2⟩ := Option.map_eq_some_iff.mp h
    subst h2
    simp only [allO, allO_closed h1]
    cases n <;> simp [frzU]
  | .c i :: us, ds, h => by
    simp only [closed] at h
    cases h
  | .t vs :: us, ds, h => by
    simp only [closed] at h
    cases h
theorem q_fin_ins {c : Nat} {fus : List (Nat × U)} {ds : List D} (h : closed (fus.map (·.2)) = some ds) : EQ (fin true (.c st.length) st (st ++ [.ins c fus])) QU X = QU (.d (.obj c (fus.map (·.1)) ds)) st := by
  unfold fin
  rw [if_neg (by simp), if_pos trim_app]
  have h1 : lowU st.length (.c st.length) = false := by simp [lowU]
  have h2 : frzU st.length (st ++ [.ins c fus]) 40 (.c st.length) = some (.obj c (fus.map (·.1)) ds) := by
    simp only [frzU, Nat.lt_irrefl, if_false, app_get, allO_closed h]
    rfl
  simp only [h1, Bool.false_eq_true, if_false, if_true, h2, List.take_left]
  rfl
theorem q_mth {tbl : List (Nat × MF)} {co : ME} {cs : MA} : EQ (cMth tbl co cs env st) QU X = EQ (co env st) (fun u st1 => match (clsU st1 u).bind (lookM tbl) with
  | some f => EQ (cs env st1) (fun us st2 => EQ (f (u :: us) st2) QU X) X
  | none => False) X := by
  unfold cMth
  rw [EQ_bind]
  congr 1
  funext u st1
  split
  · rename_i f h
    first
      | exact EQ_bind
      | (rw [h]
         exact EQ_bind)
  · rename_i h
    first
      | rfl
      | (rw [h]
         rfl)
theorem q_mtd {tbl : List (Nat × MF)} {cs : MA} {u : U} {c : Nat} {f : MF} {st1 : Sto} (h1 : clsU st1 u = some c) (h2 : lookM tbl c = some f) : (match (clsU st1 u).bind (lookM tbl) with
  | some f => EQ (cs env st1) (fun us st2 => EQ (f (u :: us) st2) QU X) X
  | none => False) = EQ (cs env st1) (fun us st2 => EQ (f (u :: us) st2) QU X) X := by
  rw [h1, Option.bind_some, h2]
theorem q_attD {na : Na} {i c : Nat} {fs : List Nat} {xs : List D} {x : D} (h : inNa na c i = true) (h2 : lookN fs xs i = some x) : EQ (attU na i (.d (.obj c fs xs)) st) QU X = QU (.d x) st := by
  unfold attU
  simp only [h, if_true, h2]
  rfl
theorem q_app {n : Nat} {xs : List U} {w : U} (h : st[n]? = some (.lst xs)) (hl : xs.length < lim) : EQ (appU (.c n) [w] st) QU X = QU (.d .non) (st.set n (.lst (xs ++ [w]))) := by
  unfold appU
  simp only [h]
  rw [if_pos hl]
  rfl
theorem q_lm {f : U → List U → Sto → Re U} {co : ME} {cs : MA} : EQ (cLm f co cs env st) QU X = EQ (co env st) (fun u st1 => (scrU st1 u).isSome = true ∧ EQ (cs env st1) (fun us st2 => EQ (f u us st2) QU X) X) X := by
  unfold cLm
  rw [EQ_bind]
  congr 1
  funext u st1
  split
  · rename_i h
    simp only [EQ_bind, h, true_and]
  · rename_i h
    simp [h]
theorem slice_lst {xs : List D} {lo hi : Option Int} : ∃ a b, sliceU true (.d (.lst xs)) lo hi st = .ok (.d (.lst ((xs.drop a).take b))) st := by
  refine ⟨HT.sIx xs.length 0 lo, HT.sIx xs.length xs.length hi - HT.sIx xs.length 0 lo, ?_⟩
  unfold sliceU
  simp only [scrU, lstU, cutU, List.length_map]
  rw [← List.map_drop, ← List.map_take]
  unfold newL
  rw [closed_map]
theorem q_add_lst {xs ys : List D} (h : xs.length + ys.length ≤ lim) : EQ (addU true (.d (.lst xs)) (.d (.lst ys)) st) QU X = QU (.d (.lst (xs ++ ys))) st := by
  unfold addU
  simp only [lstU, List.length_map]
  rw [if_pos h, ← List.map_append]
  unfold newL
  rw [closed_map]
  rfl
/-- xs[v:] + xs[:v] -/
theorem q_rot {i j : Nat} {xs : List D} {v : Int} (h1 : env[i]? = some (some (.d (.lst xs)))) (h2 : env[j]? = some (some (.d (.int v)))) (hl : xs.length ≤ 100) (h : ∀ ys, (∀ y ∈ ys, y ∈ xs) → QU (.d (.lst ys)) st) :
    EQ (cOp2 (addU true) (cSlice true (cVar i) (some (cVar j)) none) (cSlice true (cVar i) none (some (cVar j))) env st) QU X := by
  obtain ⟨a, b, e1⟩ := slice_lst (xs := xs) (lo := some v) (hi := none) (st := st)
  obtain ⟨c, d, e2⟩ := slice_lst (xs := xs) (lo := none) (hi := some v) (st := st)
  have r1 : cVar i env st = .ok (.d (.lst xs)) st := by
    unfold cVar
    rw [h1]
  have r2 : cVar j env st = .ok (.d (.int v)) st := by
    unfold cVar
    rw [h2]
  have f1 : cSlice true (cVar i) (some (cVar j)) none env st = .ok (.d (.lst ((xs.drop a).take b))) st := by
    unfold cSlice
    simp only [r1, r2, Re.bind_ok, cPart, e1]
  have f2 : cSlice true (cVar i) none (some (cVar j)) env st = .ok (.d (.lst ((xs.drop c).take d))) st := by
    unfold cSlice
    simp only [r1, r2, Re.bind_ok, cPart, e2]
  rw [q_op2, f1, EQ_ok, f2, EQ_ok, q_add_lst]
  · refine h _ fun y hy => ?_
    rcases List.mem_append.mp hy with z | z
    · exact List.mem_of_mem_drop (List.mem_of_mem_take z)
    · exact List.mem_of_mem_drop (List.mem_of_mem_take z)
  · have g1 := List.length_take_le b (xs.drop a)
    have g2 := List.length_take_le d (xs.drop c)
    simp only [List.length_take, List.length_drop]
    show _ ≤ 16777216
    omega
end
section
variable {QU : U → Sto → Prop} {X : Ex → Sto → Prop} {env : Lo} {st : Sto} {QS : Fl → Lo → Sto → Prop} {XS : Ex → Lo → Sto → Prop}
theorem q_raiseC {c : Nat} : SQ (sRaiseC c env st) QS XS = XS ⟨c, [], []⟩ env st := rfl
theorem q_raiseO {c f : Nat} {ce : ME} : SQ (sRaiseO c f ce env st) QS XS = EQ (ce env st) (fun u st => match u with
  | .d (.int i) => i.natAbs.log2 < 1920 ∧ XS ⟨c, [f], [.int i]⟩ env st
  | _ => False) (fun e st => XS e env st) := by
  unfold sRaiseO
  rw [q_val]
  congr 1
  funext u st
  split
  · split
    · rename_i h
      simp [h, SQ]
    · rename_i h
      simp [h, SQ]
  · rename_i h
    first
      | rfl
      | (split
         · rename_i i
           exact absurd rfl (h i)
         · rfl)
theorem q_try {ks : Exms} {k : Cl} {body h : MS} : SQ (sTry ks k body h env st) QS XS = SQ (body env st) QS (fun x e s => match lookX ks x.c k with
  | some true => SQ (h e s) QS (fun _ _ _ => False)
  | some false => XS x e s
  | none => False) := by
  unfold sTry
  cases body env st with
  | ok f e s => rfl
  | bad => rfl
  | exc x e s =>
    simp only [SQ_exc]
    cases lookX ks x.c k with
    | none => rfl
    | some b =>
      cases b with
      | false => rfl
      | true =>
        simp only
        cases h e s <;> rfl
theorem q_tryAs {ks : Exms} {k : Cl} {i : Nat} {body h : MS} : SQ (sTryAs ks k i body h env st) QS XS = SQ (body env st) QS (fun x e s => match lookX ks x.c k with
  | some true => SQ (h (e.set i (some (.d (.exc x.c x.fs x.xs)))) s) (fun f e s => QS f (e.set i none) s) (fun _ _ _ => False)
  | some false => XS x e s
  | none => False) := by
  unfold sTryAs
  cases body env st with
  | ok f e s => rfl
  | bad => rfl
  | exc x e s =>
    simp only [SQ_exc]
    cases lookX ks x.c k with
    | none => rfl
    | some b =>
      cases b with
      | false => rfl
      | true =>
        simp only
        cases h (e.set i (some (.d (.exc x.c x.fs x.xs)))) s <;> rfl
theorem q_max {i j : Int} : EQ (maxU (.d (.int i)) (.d (.int j)) st) QU X = QU (.d (.int (if j > i then j else i))) st := rfl
theorem q_min {i j : Int} : EQ (minU (.d (.int i)) (.d (.int j)) st) QU X = QU (.d (.int (if j < i then j else i))) st := rfl
theorem q_list2 {f : U → U → Sto → Re U} {u w : U} : EQ (list2 f [u, w] st) QU X = EQ (f u w st) QU X := rfl
theorem q_str {i : Int} : EQ (strU (.d (.int i)) st) QU X = (i.natAbs.log2 < 1920 ∧ QU (.d (.str (toString i))) st) := by
  unfold strU
  simp only
  split
  · rename_i h
    simp [h]
  · rename_i h
    simp [h]
theorem q_listL {xs : List D} : EQ (listU true (.d (.lst xs)) st) QU X = QU (.d (.lst xs)) st := by
  unfold listU
  simp only [scrU, lstU, newL, closed_map]
  rfl
theorem q_listT {xs : List D} : EQ (listU true (.d (.tup xs)) st) QU X = QU (.d (.lst xs)) st := by
  unfold listU
  simp only [scrU, lstU, tupU, newL, closed_map]
  rfl
theorem q_tupL {xs : List D} : EQ (tupleU (.d (.lst xs)) st) QU X = QU (.d (.tup xs)) st := by
  unfold tupleU
  simp only [scrU, lstU, newT, closed_map]
  rfl
theorem q_tupT {xs : List D} : EQ (tupleU (.d (.tup xs)) st) QU X = QU (.d (.tup xs)) st := by
  unfold tupleU
  simp only [scrU, lstU, tupU]
  rfl
/-- from what holds whatever follows to an equation -/
theorem ok_of {r : Re U} {u : U} {s : Sto} (h : EQ r (fun a b => a = u ∧ b = s) (fun _ _ => False)) : r = .ok u s := by
  cases r with
  | ok a b =>
    obtain ⟨h1, h2⟩ := h
    rw [h1, h2]
  | exc e b => exact h.elim
  | bad => exact h.elim
theorem exc_of {r : Re U} {e : Ex} {s : Sto} (h : EQ r (fun _ _ => False) (fun a b => a = e ∧ b = s)) : r = .exc e s := by
  cases r with
  | ok a b => exact h.elim
  | exc a b =>
    obtain ⟨h1, h2⟩ := h
    rw [h1, h2]
  | bad => exact h.elim
theorem clsU_obj {c : Nat} {fs : List Nat} {xs : List D} : clsU st (.d (.obj c fs xs)) = some c := rfl
theorem log2_le {n k : Nat} (h : n < 2 ^ k) : n.log2 ≤ k := by
  by_cases z : n = 0
  · subst z
    simp
  · exact Nat.le_of_lt ((Nat.log2_lt z).mpr h)
theorem ilog {i : Int} {k : Nat} (h1 : -(2 ^ k : Nat) < i) (h2 : i < (2 ^ k : Nat)) : i.natAbs.log2 ≤ k := log2_le (by omega)
theorem q_dct0 : EQ (cDct true [] env st) QU X = QU (.d (.dct [] [])) st := by
  have : cDct true [] env st = .ok (.d (.dct [] [])) st := by
    unfold cDct
    simp only [cFlat, cNil, Re.bind_ok, pairsU, app_get, List.length_nil, Nat.zero_le, if_true, app_set]
    unfold dcEnd
    simp only [app_get, mergeU, List.foldl_nil, List.map_nil, closed, Bool.true_and, trim_app, if_true, List.take_left]
  rw [this]
  rfl
theorem q_dct0f : EQ (cDct false [] env st) QU X = QU (.c st.length) (st ++ [.dct []]) := by
  have : cDct false [] env st = .ok (.c st.length) (st ++ [.dct []]) := by
    unfold cDct
    simp only [cFlat, cNil, Re.bind_ok, pairsU, app_get, List.length_nil, Nat.zero_le, if_true, app_set]
    unfold dcEnd
    simp only [app_get, mergeU, List.foldl_nil, List.map_nil, closed, Bool.false_and, Bool.false_eq_true, if_false]
  rw [this]
  rfl
theorem q_neg {i : Int} : EQ (negU (.d (.int i)) st) QU X = QU (.d (.int (-i))) st := rfl
theorem q_finS {u : U} {fz : Bool} {n : Nat} {o : O} : EQ (fin fz u st (st.set n o)) QU X = QU u (st.set n o) := q_fin (by simp)
end
end KB
namespace KL
open PySem L2 KB
section
variable {QU : U → Sto → Prop} {X : Ex → Sto → Prop} {st : Sto} {fz : Bool} {n : Nat} {o : O}
/-- the tape, for so many draws more -/
structure TO (r : Nat) (o : O) : Prop where
  ex : ∃ cs a rr k, o = stO cs a rr k ∧ cs ≠ [] ∧ 0 ≤ a ∧ a + r ≤ 1000000 ∧ 0 ≤ k ∧ k ≤ 1000000
theorem TO.mono {r s : Nat} (h : TO r o) (hs : s ≤ r) : TO s o := by
  obtain ⟨cs, a, rr, k, h1, h2, h3, h4, h5⟩ := h.ex
  exact ⟨cs, a, rr, k, h1, h2, h3, by omega, h5⟩
theorem keep_set {st' : Sto} (h : Keep n st st') (hn : st'[n]? = some o) : st' = st.set n o := by
  refine List.ext_getElem? fun j => ?_
  rw [List.getElem?_set]
  by_cases hj : n = j
  · subst hj
    have hl := (List.getElem?_eq_some_iff.mp hn).1
    rw [h.len] at hl
    rw [if_pos rfl, if_pos hl, hn]
  · rw [if_neg hj]
    exact h.oth j (fun z => hj z.symm)
theorem draw {m : Int} {r : Nat} (h : st[n]? = some o) (ho : TO (r + 1) o) (hm : 0 < m) (hm2 : m.natAbs.log2 < 9000) (hQ : ∀ v o', 0 ≤ v → v < m → TO r o' → QU (.d (.int v)) (st.set n o')) : EQ (q_law_take fz [.c n, .d (.int m)] st) QU X := by
  obtain ⟨cs, a, rr, k, h1, h2, h3, h4, h5, h6⟩ := ho.ex
  subst h1
  refine take_rule (b := 999999 - r) ⟨cs, a, rr, k, h, h2, h3, by omega, h5, h6⟩ (by omega) hm hm2 fun v st' v0 v1 t kp => ?_
  obtain ⟨cs2, a2, rr2, k2, g1, g2, g3, g4, g5, g6⟩ := t.ex
  rw [keep_set kp g1]
  exact hQ v _ v0 v1 ⟨cs2, a2, rr2, k2, rfl, g2, g3, by omega, g5, g6⟩
/-- a new tape -/
theorem state_to {c : Int} {k : Nat} (hk : k ≤ 1000000) : TO 1000000 (stO [c] 0 0 k) := ⟨[c], 0, 0, k, rfl, by simp, by omega, by omega, by omega, by omega⟩
end
end KL
/-! Words for repr and == of closed data. -/
namespace KB
open PySem L2
mutual
/-- what repr shows: whole numbers, texts, truths, None, tuples and lists of such -/
def rOk : D → Bool
  | .non => true
  | .bl _ => true
  | .int i => decide (i.natAbs.log2 < 1920)
  | .str x => PyData.strOk x
  | .tup xs => rOks xs
  | .lst xs => rOks xs
  | _ => false
def rOks : List D → Bool
  | [] => true
  | x :: xs => rOk x && rOks xs
end
mutual
def dp : D → Nat
  | .tup xs => dps xs + 1
  | .lst xs => dps xs + 1
  | _ => 0
def dps : List D → Nat
  | [] => 0
  | x :: xs => max (dp x) (dps xs)
end
mutual
/-- how long it is shown, at most -/
def wd : D → Nat
  | .non => 4
  | .bl _ => 5
  | .int i => i.natAbs.log2 + 3
  | .str x => 10 * x.length + 2
  | .tup xs => wds xs + 3
  | .lst xs => wds xs + 3
  | _ => 0
def wds : List D → Nat
  | [] => 0
  | x :: xs => wd x + 2 + wds xs
end
def rpD (d : D) : Str := match pyD d with
  | some p => p.shown
  | none => Str.empty
theorem rOks_all : ∀ xs : List D, rOks xs = xs.all rOk
  | [] => rfl
  | x :: xs => by simp only [rOks, List.all_cons, rOks_all xs]
theorem strOk_lt {x : Str} (h : PyData.strOk x = true) : ∀ c ∈ x.cps.toList, c < 16 ^ 8 := by
  intro c hc
  unfold PyData.strOk at h
  have h2 := Array.all_eq_true'.mp h c (by simpa using hc)
  have : c < 0x110000 := of_decide_eq_true h2
  omega
mutual
theorem pyD_rp : ∀ d : D, rOk d = true → ∃ p, pyD d = some p ∧ p.showable = true ∧ p.hasDict = false ∧ p.depth = dp d ∧ p.shown.length ≤ wd d ∧ p.canLay0 = true
  | .non, _ => ⟨.none, by simp only [pyD], rfl, rfl, by simp only [PyData.depth, dp], by simp only [PyData.shown, wd]; decide, rfl⟩
  | .bl b, _ => ⟨.bool b, by simp only [pyD], rfl, rfl, by simp only [PyData.depth, dp], by simp only [PyData.shown, wd]; cases b <;> decide, rfl⟩
  | .int i, h => by
    simp only [rOk, decide_eq_true_eq] at h
    refine ⟨.int i, by simp only [pyD], by simp only [PyData.showable, decide_eq_true_eq]; exact h, rfl, by simp only [PyData.depth, dp], ?_, rfl⟩
    simp only [PyData.shown, wd]
    have e := int_text_length_le (a := i) (k := i.natAbs.log2 + 1) (by omega) (by omega)
    have e2 : (Str.ofString (toString i)).length = (toString i).length := ofString_length _
    show (Str.ofString (toString i)).length ≤ _
    omega
  | .str x, h => by
    simp only [rOk] at h
    refine ⟨.str x, by simp only [pyD], rfl, rfl, by simp only [PyData.depth, dp], ?_, by simp only [PyData.canLay0]; exact h⟩
    simp only [PyData.shown, wd]
    exact PySem.StrLaws.reprText_len x (strOk_lt h)
  | .tup xs, h => by
    simp only [rOk] at h
    obtain ⟨ps, h1, h2, h3, h4, h5, h6⟩ := pyDs_rp xs h
    refine ⟨.tuple ps, by simp only [pyD, h1, Option.map_some], by simp only [PyData.showable, h2], by simp only [PyData.hasDict, h3], by simp only [PyData.depth, dp, h4], ?_, by simp only [PyData.canLay0, h6]⟩
    simp only [PyData.shown, wd]
    have := tupleText_len_le (PyData.shownAll ps)
    omega
  | .lst xs, h => by
    simp only [rOk] at h
    obtain ⟨ps, h1, h2, h3, h4, h5, h6⟩ := pyDs_rp xs h
    refine ⟨.list ps, by simp only [pyD, h1, Option.map_some], by simp only [PyData.showable, h2], by simp only [PyData.hasDict, h3], by simp only [PyData.depth, dp, h4], ?_, by simp only [PyData.canLay0, h6]⟩
    simp only [PyData.shown, wd]
    have := listText_len_le (PyData.shownAll ps)
    omega
  | .dct _ _, h => by simp [rOk] at h
  | .obj _ _ _, h => by simp [rOk] at h
  | .exc _ _ _, h => by simp [rOk] at h
  | .scr _, h => by simp [rOk] at h
theorem pyDs_rp : ∀ xs : List D, rOks xs = true → ∃ ps, pyDs xs = some ps ∧ PyData.showableAll ps = true ∧ PyData.hasDictAll ps = false ∧ PyData.depthAll ps = dps xs ∧ ((PyData.shownAll ps).map (·.length)).sum + 2 * (PyData.shownAll ps).length ≤ wds xs ∧ PyData.canLayAll0 ps = true
  | [], _ => ⟨[], by simp only [pyDs], rfl, rfl, by simp only [PyData.depthAll, dps], by simp only [PyData.shownAll, wds]; decide, rfl⟩
  | x :: xs, h => by
    simp only [rOks, Bool.and_eq_true] at h
    obtain ⟨p, a1, a2, a3, a4, a5, a6⟩ := pyD_rp x h.1
    obtain ⟨ps, h1, h2, h3, h4, h5, h6⟩ := pyDs_rp xs h.2
    refine ⟨p :: ps, by simp only [pyDs, a1, h1, Option.bind_some, Option.map_some], by simp only [PyData.showableAll, a2, h2, Bool.and_true], by simp only [PyData.hasDictAll, a3, h3, Bool.or_false], by simp only [PyData.depthAll, dps, a4, h4], ?_, by simp only [PyData.canLayAll0, a6, h6, Bool.and_true]⟩
    simp only [PyData.shownAll, wds, List.map_cons, List.sum_cons, List.length_cons]
    omega
end
section
variable {QU : U → Sto → Prop} {X : Ex → Sto → Prop} {st : Sto}
theorem q_repr' {d : D} (h : rOk d = true) (h1 : dp d ≤ 100) (h2 : wd d ≤ lim) : EQ (reprU (.d d) st) QU X = QU (.d (.str (rpD d))) st := by
  obtain ⟨p, e, b1, b2, b3, b4, b5⟩ := pyD_rp d h
  refine q_repr (p := p) (by cases d <;> exact e) ?_ (by unfold rpD; rw [e])
  simp only [b1, b2, Bool.not_false, Bool.and_self, Bool.true_and, Bool.and_eq_true, decide_eq_true_eq]
  exact ⟨by omega, by omega⟩
/-- == of closed data -/
def eqvD (a b : D) : Bool := match pyD a, pyD b with
  | some p, some q => PyData.eqv p q
  | _, _ => false
theorem q_eqD {a b : D} (ha : rOk a = true) (hb : rOk b = true) (da : dp a ≤ 64) (db : dp b ≤ 64) : EQ (eqU (.d a) (.d b) st) QU X = QU (.d (.bl (eqvD a b))) st := by
  obtain ⟨p, e, b1, b2, b3, b4, b5⟩ := pyD_rp a ha
  obtain ⟨q, f, c1, c2, c3, c4, c5⟩ := pyD_rp b hb
  rw [q_eq (p := p) (q := q) (by cases a <;> exact e) (by cases b <;> exact f) (by simp only [SeqAt.shaped, b5, c5, Bool.true_and, Bool.and_eq_true, decide_eq_true_eq]; exact ⟨by omega, by omega⟩)]
  unfold eqvD
  rw [e, f]
theorem q_neD {a b : D} (ha : rOk a = true) (hb : rOk b = true) (da : dp a ≤ 64) (db : dp b ≤ 64) : EQ (neU (.d a) (.d b) st) QU X = QU (.d (.bl (!eqvD a b))) st := by
  obtain ⟨p, e, b1, b2, b3, b4, b5⟩ := pyD_rp a ha
  obtain ⟨q, f, c1, c2, c3, c4, c5⟩ := pyD_rp b hb
  rw [q_ne (p := p) (q := q) (by cases a <;> exact e) (by cases b <;> exact f) (by simp only [SeqAt.shaped, b5, c5, Bool.true_and, Bool.and_eq_true, decide_eq_true_eq]; exact ⟨by omega, by omega⟩)]
  unfold eqvD
  rw [e, f]
theorem eqvD_self {a : D} (ha : rOk a = true) : eqvD a a = true := by
  obtain ⟨p, e, b1, b2, b3, b4, b5⟩ := pyD_rp a ha
  unfold eqvD
  rw [e]
  exact PySem.SeqAt.eqv_refl p b5
end
end KB
/-! Words for cells that hold lists. -/
namespace KB
open PySem L2 KL
section
variable {QU : U → Sto → Prop} {X : Ex → Sto → Prop} {env : Lo} {st : Sto} {QS : Fl → Lo → Sto → Prop} {XS : Ex → Lo → Sto → Prop}
theorem lstC {n : Nat} {xs : List U} (h : st[n]? = some (.lst xs)) : lstU st (.c n) = some xs := by
  simp only [lstU, h]
theorem scrC {n : Nat} {xs : List U} (h : st[n]? = some (.lst xs)) : scrU st (.c n) = some xs := lstC h
theorem lenC {n : Nat} {xs : List U} (h : st[n]? = some (.lst xs)) : lenU (.c n) st = .ok (.d (.int xs.length)) st := by
  unfold lenU
  simp only [scrC h]
theorem atI_at {β : Type} {xs : List β} {v : Int} {x : β} (h0 : 0 ≤ v) (hx : xs[v.toNat]? = some x) : atI xs v = some x := by
  have h1 := (List.getElem?_eq_some_iff.mp hx).1
  obtain ⟨y, e, g⟩ := atI_in (xs := xs) h0 (by omega)
  rw [e, ← g, hx]
theorem ixC {n : Nat} {xs : List U} {v : Int} {x : U} (h : st[n]? = some (.lst xs)) (h0 : 0 ≤ v) (hx : xs[v.toNat]? = some x) : ixU (.c n) (.d (.int v)) st = .ok x st := by
  unfold ixU
  simp only [scrC h, atI_at h0 hx]
theorem ixL {xs : List D} {v : Int} {x : D} (h0 : 0 ≤ v) (hx : xs[v.toNat]? = some x) : ixU (.d (.lst xs)) (.d (.int v)) st = .ok (.d x) st := by
  have : (xs.map U.d)[v.toNat]? = some (.d x) := by
    rw [List.getElem?_map, hx]
    rfl
  unfold ixU
  simp only [scrU, lstU, atI_at h0 this]
theorem ixLast {n : Nat} {xs : List U} {x : U} (h : st[n]? = some (.lst (xs ++ [x]))) : ixU (.c n) (.d (.int (-1))) st = .ok x st := by
  have : atI (xs ++ [x]) (-1) = some x := by
    unfold atI ixN
    rw [if_neg (by decide), if_pos (by simp only [List.length_append, List.length_singleton]; omega)]
    have e : (((xs ++ [x]).length : Nat) + (-1 : Int)).toNat = xs.length := by
      simp only [List.length_append, List.length_singleton]
      omega
    show (xs ++ [x])[(((xs ++ [x]).length : Nat) + (-1 : Int)).toNat]? = some x
    rw [e]
    simp
  unfold ixU
  simp only [scrC h, this]
theorem setC {n : Nat} {xs : List U} {v : Int} {w : U} (h : st[n]? = some (.lst xs)) (h0 : 0 ≤ v) (h1 : v < xs.length) : setU (.c n) (.d (.int v)) w st = some (st.set n (.lst (xs.set v.toNat w))) := by
  unfold setU
  simp only [h]
  unfold ixN
  rw [if_pos h0, if_pos (by omega)]
  rfl
theorem getC {n : Nat} {xs : List U} {v : Int} {x : U} (h : st[n]? = some (.lst xs)) (h0 : 0 ≤ v) (h1 : v < 1000) (hx : xs[v.toNat]? = some x) : getU (.c n) (.d (.int v)) st = some x := by
  unfold getU
  simp only [h]
  rw [if_pos (by omega), hx]
theorem reprC {n : Nat} {xs : List D} (h : st[n]? = some (.lst (xs.map .d))) : reprU (.c n) st = reprU (.d (.lst xs)) st := by
  have e : ∀ l : List D, pyAll (pyU st 3) (l.map .d) = pyDs l := by
    intro l
    induction l with
    | nil => rfl
    | cons a l ih =>
      simp only [List.map_cons, pyAll, pyDs, ih, pyU]
  have : pyU st 4 (.c n) = pyU st 4 (.d (.lst xs)) := by
    simp only [pyU, h, e, pyD]
  unfold reprU
  rw [this]
/-- others != [] of knots -/
theorem neC {n : Nat} {c : Nat} {f : List Nat} {ys : List D} {xs : List U} (h : st[n]? = some (.lst (.d (.obj c f ys) :: xs))) : neU (.c n) (.d (.lst [])) st = .ok (.d (.bl true)) st := by
  have e1 : pyU st 4 (.c n) = none := by
    simp only [pyU, h, pyAll, pyD]
    rfl
  have e2 : lenD st (.c n) (.d (.lst [])) = true := by
    unfold lenD
    rw [lstC h]
    simp [lstU]
  unfold neU
  simp only [e1, e2, if_true]
theorem neC0 {n : Nat} (h : st[n]? = some (.lst [])) : neU (.c n) (.d (.lst [])) st = .ok (.d (.bl false)) st := by
  have e1 : pyU st 4 (.c n) = some (.list []) := by
    simp only [pyU, h, pyAll]
    rfl
  have e2 : pyU st 4 (.d (.lst [])) = some (.list []) := rfl
  unfold neU
  simp only [e1, e2]
  rfl
theorem q_putA {f : U → U → Sto → Re U} {o i c : ME} : SQ (sPutA f o i c env st) QS XS = EQ (o env st) (fun ov st => EQ (i env st) (fun iv st => match getU ov iv st with
  | some old => EQ (c env st) (fun v st2 => match f old v st2 with
    | .ok new st3 => (match setU ov iv new st3 with
      | some st4 => QS .nx env st4
      | none => False)
    | _ => False) (fun e st => XS e env st)
  | none => False) (fun e st => XS e env st)) (fun e st => XS e env st) := by
  unfold sPutA
  rw [q_val]
  congr 1
  funext ov st1
  rw [q_val]
  congr 1
  funext iv st2
  cases getU ov iv st2 with
  | none => rfl
  | some old =>
    simp only
    rw [q_val]
    congr 1
    funext v st3
    cases f old v st3 with
    | ok new st4 =>
      simp only
      cases setU ov iv new st4 <;> rfl
    | exc e s => rfl
    | bad => rfl
theorem mulC {xs : List D} {k : Int} (h0 : 0 ≤ k) (h1 : k < 1000) (h2 : xs.length * k.toNat ≤ 16777216) : mulU false (.d (.lst xs)) (.d (.int k)) st = .ok (.c st.length) (st ++ [.lst ((List.replicate k.toNat (xs.map U.d)).flatten)]) := by
  unfold mulU
  simp only [lstU, List.length_map]
  rw [if_pos ⟨by omega, by omega, h2⟩]
  rfl
/-- the way out of a def with a new list -/
theorem q_fin_lst {l : Sto} {m : Nat} {xs : List D} (hm : st.length ≤ m) (h : (st ++ l)[m]? = some (.lst (xs.map .d))) : EQ (fin true (.c m) st (st ++ l)) QU X = QU (.d (.lst xs)) st := by
  have hl : m < (st ++ l).length := (List.getElem?_eq_some_iff.mp h).1
  unfold fin
  rw [if_neg (by omega), if_pos trim_app]
  have h1 : lowU st.length (.c m) = false := by
    simp only [lowU, decide_eq_false_iff_not]
    omega
  have h2 : frzU st.length (st ++ l) 40 (.c m) = some (.lst xs) := by
    simp only [frzU, h, allO_closed (closed_map ..)]
    rw [if_neg (by omega)]
    rfl
  simp only [h1, Bool.false_eq_true, if_false, if_true, h2, List.take_left]
  rfl
theorem q_fin_keep {l : Sto} {m : Nat} (hm : st.length ≤ m) (hl : m < (st ++ l).length) : EQ (fin false (.c m) st (st ++ l)) QU X = QU (.c m) (st ++ l) := by
  unfold fin
  rw [if_neg (by omega), if_pos trim_app]
  have h1 : lowU st.length (.c m) = false := by
    simp only [lowU, decide_eq_false_iff_not]
    omega
  simp only [h1, Bool.false_eq_true, if_false]
  rfl
/-- a value on the way out of a def that left new cells -/
theorem q_fin_d {l : Sto} {d : D} {fz : Bool} : EQ (fin fz (.d d) st (st ++ l)) QU X = QU (.d d) st := by
  unfold fin
  by_cases hl : (st ++ l).length ≤ st.length
  · rw [if_pos hl]
    have : l = [] := by
      rw [List.length_append] at hl
      exact List.eq_nil_of_length_eq_zero (by omega)
    subst this
    rw [List.append_nil]
    rfl
  · rw [if_neg hl, if_pos trim_app]
    have h1 : lowU st.length (.d d) = true := rfl
    simp only [h1, if_true, List.take_left]
    rfl
/-- while: so many turns more -/
theorem q_while {t : MT} {b : MS} (I : Nat → Lo → Sto → Prop)
    (hs : ∀ m env st, I m env st → EQ (t env st) (fun c s => (c = true → ∃ k, m = k + 1 ∧ SQ (b env s) (fun f e s2 => f = .nx ∧ I k e s2) (fun _ _ _ => False)) ∧ (c = false → QS .nx env s)) (fun _ _ => False)) :
    ∀ (n m : Nat) (env : Lo) (st : Sto), m < n → I m env st → SQ (whileU t b n env st) QS XS
  | 0, m, env, st, hn, h => by omega
  | n + 1, m, env, st, hn, h => by
    have := hs m env st h
    unfold whileU
    cases e : t env st with
    | bad =>
      rw [e] at this
      exact this
    | exc z s =>
      rw [e] at this
      exact this.elim
    | ok c s =>
      rw [e] at this
      cases c with
      | false => exact this.2 rfl
      | true =>
        obtain ⟨k, rfl, hb⟩ := this.1 rfl
        simp only
        cases e2 : b env s with
        | bad =>
          rw [e2] at hb
          exact hb
        | exc z e3 s2 =>
          rw [e2] at hb
          exact hb.elim
        | ok f e3 s2 =>
          rw [e2] at hb
          obtain ⟨h1, h2⟩ := hb
          subst h1
          exact q_while I hs n k e3 s2 (by omega) h2
theorem aug_int {i : Nat} {a b : Int} (h : env[i]? = some (some (.d (.int a)))) : sAug i iaddU (cPure (.d (.int b))) env st = .ok .nx (env.set i (some (.d (.int (a + b))))) st := by
  unfold sAug
  simp only [h]
  rfl
theorem q_revr {cs : MA} {QI : List U × Gd → Sto → Prop} : EQ (iRevr cs env st) QI X = EQ (cs env st) (fun us st => match us with
  | [u] => (match scrU st u with
    | some xs => QI (xs.reverse, some (u, xs)) st
    | none => False)
  | _ => False) X := by
  unfold iRevr
  rw [EQ_bind]
  congr 1
  funext us st
  match us with
  | [] => rfl
  | [u] =>
    simp only
    cases scrU st u <;> rfl
  | _ :: _ :: _ => rfl
theorem q_range3 {cs : MA} {QI : List U × Gd → Sto → Prop} {i j : Int} (h : cs env st = .ok [.d (.int i), .d (.int j), .d (.int (-1))] st) (hi : inR i = true) (hj : inR j = true) : EQ (iRange3 cs env st) QI X = QI (dwnU i (i - j).toNat, none) st := by
  unfold iRange3
  simp only [h, Re.bind_ok, hi, hj]
  rfl
theorem q_par {i j : Nat} {a b : ME} : SQ (sPar i j (cCons a (cCons b cNil)) env st) QS XS = EQ (a env st) (fun u s => EQ (b env s) (fun w s2 => QS .nx ((env.set i (some u)).set j (some w)) s2) (fun e s => XS e env s)) (fun e s => XS e env s) := by
  unfold sPar cCons cNil
  cases a env st with
  | exc e s => rfl
  | bad => rfl
  | ok u s =>
    simp only [Re.bind_ok, EQ_ok]
    cases b env s with
    | exc e s => rfl
    | bad => rfl
    | ok w s2 => rfl
theorem revD {xs : List D} : revU true (.d (.lst xs)) st = .ok (.d (.lst xs.reverse)) st := by
  unfold revU
  simp only [scrU, lstU]
  rw [← List.map_reverse]
  simp only [newL, closed_map]
theorem lsts_map : ∀ xss : List (List D), lstsU st ((xss.map D.lst).map U.d) = some (xss.map fun xs => xs.map U.d)
  | [] => rfl
  | xs :: xss => by
    simp only [List.map_cons, lstsU, lstU, lsts_map xss]
    rfl
theorem sumL {xss : List (List D)} (hne : xss ≠ []) (hl : xss.flatten.length ≤ 16777216) : sumN [.d (.lst (xss.map D.lst)), .d (.lst [])] st = .ok (.d (.lst xss.flatten)) st := by
  have e : (xss.map fun xs => xs.map U.d).flatten = xss.flatten.map U.d := by
    rw [List.map_flatten]
  simp only [sumN, sum2U, scrU, lstU, List.map_nil, lsts_map, e, List.length_map]
  rw [if_pos ⟨by simpa using hne, hl⟩]
  simp only [newL, closed_map]
theorem addC {xs : List D} {n : Nat} {ys : List U} (h : st[n]? = some (.lst ys)) (hl : xs.length + ys.length ≤ 16777216) : addU false (.d (.lst xs)) (.c n) st = .ok (.c st.length) (st ++ [.lst (xs.map .d ++ ys)]) := by
  unfold addU
  simp only [lstU, h, List.length_map]
  rw [if_pos hl]
  rfl
theorem q_lcF {src : MI} {t : Tgt} {tt : MT} {te : ME} {own : List Nat} (f : U → Option D) (h : EQ (src env st) (fun p st1 => (∀ acc, gdOk (st1 ++ [.lst acc]) p.2 = true) ∧ p.1.length ≤ lim ∧
    (∀ u ∈ p.1, ∃ env1, setT t u (wipeL env own) = some env1 ∧ ∀ acc, EQ (tt env1 (st1 ++ [.lst acc])) (fun b s => s = st1 ++ [.lst acc] ∧ (if b = true then EQ (te env1 (st1 ++ [.lst acc])) (fun y s2 => s2 = st1 ++ [.lst acc] ∧ ∃ d, y = .d d ∧ f u = some d) (fun _ _ => False) else f u = none)) fun _ _ => False) ∧
    QU (.c st1.length) (st1 ++ [.lst ((p.1.filterMap f).map .d)])) X) : EQ (cLc false src t tt te own env st) QU X := by
  unfold cLc
  cases e : src env st with
  | bad =>
    rw [e] at h
    exact h
  | exc z s =>
    rw [e] at h
    exact h
  | ok p st1 =>
    rw [e] at h
    obtain ⟨us, gd⟩ := p
    obtain ⟨h1, h2, h3, h4⟩ := h
    simp only
    rw [lc_turns f h1 us [] (by simpa using h2) h3]
    simp only [lcEnd, app_get, List.nil_append, closed_map, Bool.false_and, Bool.false_eq_true, if_false]
    exact h4
theorem isiC {ks : Kits} {ow : List Nat} {cs : List Cl} {n : Nat} {xs : List U} (h : st[n]? = some (.lst xs)) : isiU ks ow cs (.c n) st = isiU ks ow cs (.d (.lst [])) st := by
  unfold isiU
  simp only [tyU, h]
end
end KB
namespace K06
open PySem L2 KB
abbrev kitsO : Kits := [(.ty "NoneType", .own 21, false), (.own 21, .own 21, true), (.ty "NoneType", .own 22, false), (.own 21, .own 22, false), (.ty "NoneType", .own 23, false), (.own 21, .own 23, false), (.ty "NoneType", .own 24, false), (.own 21, .own 24, false), (.ty "NoneType", .own 25, false), (.own 21, .own 25, false), (.ty "NoneType", .own 26, false), (.own 21, .own 26, false), (.ty "NoneType", .own 27, false), (.own 21, .own 27, false), (.ty "NoneType", .own 28, false), (.own 21, .own 28, false), (.ty "NoneType", .own 29, false), (.own 21, .own 29, false), (.ty "NoneType", .own 30, false), (.own 21, .own 30, false), (.ty "NoneType", .own 31, false), (.own 21, .own 31, false), (.ty "NoneType", .ty "ValueError", false), (.own 21, .ty "ValueError", true)]
abbrev kits : Kits := kitsB ++ kitsO
abbrev own : List Nat := [21]
abbrev na : Na := []
abbrev exms : Exms := [(21, .own 20, true)]
def l1_law_number (rf : Bool) : MS := (sSeq (sAsg (.nm 3) (cOp2 (mulU true) (cVar 3) (cPure (.d (.int 10))))) sNil)
def b_law_number (rf : Bool) : MS := (sSeq (sAsg (.nm 1) (cOp2 powU (cPure (.d (.int 10))) (cPure (.d (.int 12))))) (sSeq (sAsg (.nm 2) (cArgs (KL.q_law_take true) (cCons (cVar 0) (cCons (cVar 1) cNil)))) (sSeq (sIf (tB1 (cOp2 geU (cOp2 ixU (cOp2 ixU (cVar 0) (cPure (.d (.str "cells")))) (cPure (.d (.int 0)))) (cOp2 powU (cPure (.d (.int 10))) (cPure (.d (.int 18)))))) (sSeq (sRet (cVar 2)) sNil) sNil) (sSeq (sAsg (.nm 3) (cPure (.d (.int 1)))) (sSeq (sFor (iRange1 (cCons (cArgs (KL.q_law_take true) (cCons (cVar 0) (cCons (cPure (.d (.int 13))) cNil))) cNil)) (.nm 4) (l1_law_number rf)) (sSeq (sAsg (.nm 5) (cLst true (cCons (cVar 2) (cCons (cOp2 modU (cVar 2) (cPure (.d (.int 1000)))) (cCons (cOp2 modU (cVar 3) (cVar 1)) (cCons (cOp2 subU (cVar 3) (cPure (.d (.int 1)))) (cCons (cOp2 modU (cOp2 (mulU true) (cVar 3) (cPure (.d (.int 9)))) (cVar 1)) cNil))))))) (sSeq (sRet (cOp2 ixU (cOp2 (addU true) (cVar 5) (cLst true (cCons (cOp2 modU (cVar 2) (cVar 3)) (cCons (cPure (.d (.int 0))) (cCons (cOp2 subU (cOp2 subU (cVar 1) (cPure (.d (.int 1)))) (cOp2 modU (cVar 3) (cPure (.d (.int 7))))) cNil))))) (cArgs (KL.q_law_take true) (cCons (cVar 0) (cCons (cPure (.d (.int 8))) cNil))))) sNil)))))))
def q_law_number (fz : Bool) : MF := callF 1 6 fz (b_law_number fz)
def w1_law_zone (rf : Bool) : MS := (sSeq (sAsg (.nm 2) (cOp2 (addU true) (cLst true (cCons (cTup (cCons (cPure (.d (.str "single"))) (cCons (cOp2 (addU true) (cOp2 (mulU true) (cPure (.d (.int 10))) (cVar 0)) (cArgs (list1 lenU) (cCons (cVar 2) cNil))) cNil))) cNil)) (cVar 2))) sNil)
def b_law_zone (rf : Bool) : MS := (sSeq (sAsg (.nm 2) (cLst true cNil)) (sSeq (sIf (tB1 (cOp2 eqU (cVar 0) (cPure (.d (.int 0))))) (sSeq (sRet (cOp2 ixU (cLst true (cCons (cLst true cNil) (cCons (cLst true (cCons (cTup (cCons (cPure (.d (.str "eight"))) (cCons (cPure (.d (.int 0))) cNil))) cNil)) (cCons (cLst true (cCons (cTup (cCons (cPure (.d (.str "long"))) (cCons (cPure (.d (.int 0))) (cCons (cVar 1) cNil)))) cNil)) cNil)))) (cArgs (list2 minU) (cCons (cVar 1) (cCons (cPure (.d (.int 2))) cNil))))) sNil) sNil) (sSeq (whileU (tB1 (cOp2 ltU (cArgs (list1 lenU) (cCons (cVar 2) cNil)) (cVar 1))) (w1_law_zone rf) 1000000) (sSeq (sRet (cVar 2)) sNil))))
def q_law_zone (fz : Bool) : MF := callF 2 3 fz (b_law_zone fz)
def l1_law_zones (rf : Bool) : MS := (sSeq (sExp (cLm appU (cVar 1) (cCons (cArgs (q_law_zone true) (cCons (cVar 2) (cCons (cOp2 modU (cVar 0) (cPure (.d (.int 10)))) cNil))) cNil))) (sSeq (sAsg (.nm 0) (cOp2 fdivU (cVar 0) (cPure (.d (.int 10))))) sNil))
def b_law_zones (rf : Bool) : MS := (sSeq (sAsg (.nm 1) (cLst false cNil)) (sSeq (sFor (iRange1 (cCons (cPure (.d (.int 12))) cNil)) (.nm 2) (l1_law_zones rf)) (sSeq (sRet (cVar 1)) sNil)))
def q_law_zones (fz : Bool) : MF := callF 1 3 fz (b_law_zones fz)
def b_is_among (rf : Bool) : MS := (sSeq (sRet (cAnd (cOp1 (isiU kits own [.ty "int"]) (cVar 0)) (cAnd (cNot (cOp1 (isiU kits own [.ty "bool"]) (cVar 0))) (cChain leU leU (cVar 1) (cVar 0) (cVar 2))))) sNil)
def q_is_among (fz : Bool) : MF := callF 3 3 fz (b_is_among fz)
def b_is_number (rf : Bool) : MS := (sSeq (sRet (cArgs (q_is_among rf) (cCons (cVar 0) (cCons (cPure (.d (.int 0))) (cCons (cPure (.d (.int 999999999999))) cNil))))) sNil)
def q_is_number (fz : Bool) : MF := callF 1 1 fz (b_is_number fz)
def b_tied_in (rf : Bool) : MS := (sSeq (sIf (tB1 (cOp2 gtU (cVar 0) (cPure (.d (.int 0))))) (sSeq (sRet (cLc rf (iRange3 (cCons (cOp2 subU (cVar 1) (cPure (.d (.int 1)))) (cCons (cOp1 negU (cPure (.d (.int 1)))) (cCons (cOp1 negU (cPure (.d (.int 1)))) cNil)))) (.nm 2) tYesU (cTup (cCons (cPure (.d (.str "single"))) (cCons (cOp2 (addU true) (cOp2 (mulU true) (cPure (.d (.int 10))) (cVar 0)) (cVar 2)) cNil))) [2])) sNil) sNil) (sSeq (sIf (tB1 (cOp2 eqU (cVar 1) (cPure (.d (.int 0))))) (sSeq (sRet (cLst rf cNil)) sNil) sNil) (sSeq (sRet (cIf (tB1 (cOp2 eqU (cVar 1) (cPure (.d (.int 1))))) (cLst rf (cCons (cTup (cCons (cPure (.d (.str "eight"))) (cCons (cPure (.d (.int 0))) cNil))) cNil)) (cLst rf (cCons (cTup (cCons (cPure (.d (.str "long"))) (cCons (cPure (.d (.int 0))) (cCons (cVar 1) cNil)))) cNil)))) sNil)))
def q_tied_in (fz : Bool) : MF := callF 2 3 fz (b_tied_in fz)
def l1_tied (rf : Bool) : MS := (sSeq (sAsg (.nm 1) (cOp2 (addU false) (cArgs (q_tied_in true) (cCons (cVar 2) (cCons (cOp2 modU (cVar 0) (cPure (.d (.int 10)))) cNil))) (cVar 1))) (sSeq (sAsg (.nm 0) (cOp2 fdivU (cVar 0) (cPure (.d (.int 10))))) sNil))
def b_tied (rf : Bool) : MS := (sSeq (sIf (tNo (tTr (cArgs (q_is_number true) (cCons (cVar 0) cNil)))) (sSeq (sRaiseC 21) sNil) sNil) (sSeq (sAsg (.nm 1) (cLst false cNil)) (sSeq (sFor (iRange1 (cCons (cPure (.d (.int 12))) cNil)) (.nm 2) (l1_tied rf)) (sSeq (sRet (cVar 1)) sNil))))
def q_tied (fz : Bool) : MF := callF 1 3 fz (b_tied fz)
def b_law_alone (rf : Bool) : MS := (sSeq (sAsg (.nm 1) (cOp1 (isiU kits own [.own 30, .own 22, .own 23, .own 24, .own 25, .own 26, .own 27, .own 28, .own 29, .own 31]) (cVar 0))) (sSeq (sRet (cAnd (cOp1 (isiU kits own [.own 21]) (cVar 0)) (cAnd (cOp1 (isiU kits own [.ty "ValueError"]) (cVar 0)) (cNot (cVar 1))))) sNil))
def q_law_alone (fz : Bool) : MF := callF 1 2 fz (b_law_alone fz)
def b_law_caught (rf : Bool) : MS := (sSeq (sAsg (.nm 1) (cPure (.d (.non)))) (sSeq (sTryAs exms (.own 20) 2 (sSeq (sExp (cArgs (q_tied true) (cCons (cVar 0) cNil))) sNil) (sSeq (sAsg (.nm 1) (cVar 2)) sNil)) (sSeq (sRet (cVar 1)) sNil)))
def q_law_caught (fz : Bool) : MF := callF 1 3 fz (b_law_caught fz)
def l1_law (rf : Bool) : MS := (sSeq (sAsg (.nm 15) (cArgs (q_tied_in false) (cCons (cVar 12) (cCons (cOp2 modU (cVar 11) (cPure (.d (.int 10)))) cNil)))) (sSeq (sIf (tB1 (cOp2 neU (cArgs (list1 reprU) (cCons (cVar 15) cNil)) (cArgs (list1 reprU) (cCons (cVar 13) cNil)))) (sSeq (sRet (cPure (.d (.bl false)))) sNil) sNil) (sSeq (sExp (cLm appU (cVar 15) (cCons (cPure (.d (.non))) cNil))) sNil)))
def l2_law (rf : Bool) : MS := (sSeq (sFor (iRange1 (cCons (cPure (.d (.int 2))) cNil)) (.nm 10) (l1_law rf)) (sSeq (sAsg (.nm 11) (cOp2 fdivU (cVar 11) (cPure (.d (.int 10))))) sNil))
def l3_law (rf : Bool) : MS := (sSeq (sAsg (.nm 15) (cArgs (q_tied false) (cCons (cVar 3) cNil))) (sSeq (sIf (tOu (tNo (tTr (cOp1 (isiU kits own [.ty "list"]) (cVar 15)))) (tB1 (cOp2 neU (cArgs (list1 reprU) (cCons (cVar 15) cNil)) (cArgs (list1 reprU) (cCons (cVar 9) cNil))))) (sSeq (sRet (cPure (.d (.bl false)))) sNil) sNil) (sSeq (sExp (cLm appU (cVar 15) (cCons (cPure (.d (.non))) cNil))) sNil)))
def l4_law (rf : Bool) : MS := (sSeq (sAsg (.nm 7) (cArgs (KL.q_law_state false) (cCons (cLst true (cCons (cVar 6) cNil)) (cCons (cVar 5) cNil)))) (sSeq (sAsg (.nm 3) (cArgs (q_law_number true) (cCons (cVar 7) cNil))) (sSeq (sAsg (.nm 8) (cArgs (q_law_zones true) (cCons (cVar 3) cNil))) (sSeq (sAsg (.nm 9) (cArgs (sumN) (cCons (cOp1 (revU true) (cVar 8)) (cCons (cLst true cNil) cNil)))) (sSeq (sFor (iRange1 (cCons (cPure (.d (.int 2))) cNil)) (.nm 10) (l3_law rf)) (sSeq (sExp (cLm appU (cVar 1) (cCons (cTup (cCons (cArgs (q_tied true) (cCons (cVar 3) cNil)) (cCons (cVar 9) cNil))) cNil))) (sSeq (sAsg (.nm 11) (cVar 3)) (sSeq (sFor (iEnumr (cCons (cVar 8) cNil)) (.tp [(.nm 12), (.nm 13)]) (l2_law rf)) (sSeq (sAsg (.nm 14) (cArgs (KL.q_law_take true) (cCons (cVar 7) (cCons (cOp2 powU (cPure (.d (.int 10))) (cPure (.d (.int 12)))) cNil)))) (sSeq (sAsg (.nm 4) (cOp2 ixU (cLst true (cCons (cOp1 negU (cPure (.d (.int 1)))) (cCons (cOp2 powU (cPure (.d (.int 10))) (cPure (.d (.int 12)))) (cCons (cPure (.d (.non))) (cCons (cPure (.d (.bl true))) (cCons (cPure (.d (.str "5"))) (cCons (cLst true (cCons (cPure (.d (.int 5))) cNil)) (cCons (cTup (cCons (cPure (.d (.int 5))) cNil)) (cCons (cDct true []) (cCons (cOp2 (addU true) (cOp2 powU (cPure (.d (.int 10))) (cPure (.d (.int 12)))) (cVar 14)) (cCons (cOp2 subU (cOp1 negU (cPure (.d (.int 1)))) (cVar 14)) (cCons (cPure (.d (.bl false))) cNil)))))))))))) (cArgs (KL.q_law_take true) (cCons (cVar 7) (cCons (cPure (.d (.int 11))) cNil))))) (sSeq (sIf (tNo (tTr (cArgs (q_law_alone true) (cCons (cArgs (q_law_caught true) (cCons (cVar 4) cNil)) cNil)))) (sSeq (sRet (cPure (.d (.bl false)))) sNil) sNil) sNil)))))))))))
def l5_law (rf : Bool) : MS := (sSeq (sIf (tOu (tNo (tTr (cOp1 (isiU kits own [.ty "list"]) (cArgs (q_tied true) (cCons (cVar 3) cNil))))) (tNo (tTr (cArgs (q_law_alone true) (cCons (cArgs (q_law_caught true) (cCons (cVar 4) cNil)) cNil))))) (sSeq (sRet (cPure (.d (.bl false)))) sNil) sNil) sNil)
def b_law (rf : Bool) : MS := (sSeq (sPar 1 2 (cCons (cLst false cNil) (cCons (cOp2 powU (cOp2 powU (cOp2 powU (cPure (.d (.int 10))) (cPure (.d (.int 10)))) (cPure (.d (.int 10)))) (cPure (.d (.int 50)))) cNil))) (sSeq (sFor (iSeq (cTup (cCons (cTup (cCons (cPure (.d (.int 0))) (cCons (cPure (.d (.bl false))) cNil))) (cCons (cTup (cCons (cPure (.d (.int 1))) (cCons (cPure (.d (.bl true))) cNil))) (cCons (cTup (cCons (cPure (.d (.int 2))) (cCons (cVar 2) cNil))) (cCons (cTup (cCons (cPure (.d (.int 3))) (cCons (cOp2 subU (cPure (.d (.int 0))) (cVar 2)) cNil))) cNil)))))) (.tp [(.nm 3), (.nm 4)]) (l5_law rf)) (sSeq (sFor (iEnumr (cCons (cScr 9) cNil)) (.tp [(.nm 5), (.nm 6)]) (l4_law rf)) (sSeq (sRet (cArgs (list1 allU) (cCons (cLc true (iSeq (cVar 1)) (.tp [(.nm 15), (.nm 9)]) tYesU (cOp2 eqU (cArgs (list1 reprU) (cCons (cVar 15) cNil)) (cArgs (list1 reprU) (cCons (cVar 9) cNil))) [15, 9]) cNil))) sNil))))
def q_law (fz : Bool) : MF := callF 1 16 fz (b_law fz)
theorem ji0_NoneType {st : Sto} : isiU kits own [.own 30, .own 22, .own 23, .own 24, .own 25, .own 26, .own 27, .own 28, .own 29, .own 31] (.d .non) st = .ok (.d (.bl false)) st := by kernel_rfl
theorem ji0_BadNumber {fs : List Nat} {x : List D} {st : Sto} : isiU kits own [.own 30, .own 22, .own 23, .own 24, .own 25, .own 26, .own 27, .own 28, .own 29, .own 31] (.d (.exc 21 fs x)) st = .ok (.d (.bl false)) st := by kernel_rfl
theorem ji1_NoneType {st : Sto} : isiU kits own [.own 21] (.d .non) st = .ok (.d (.bl false)) st := by kernel_rfl
theorem ji1_BadNumber {fs : List Nat} {x : List D} {st : Sto} : isiU kits own [.own 21] (.d (.exc 21 fs x)) st = .ok (.d (.bl true)) st := by kernel_rfl
theorem ji2_NoneType {st : Sto} : isiU kits own [.ty "ValueError"] (.d .non) st = .ok (.d (.bl false)) st := by kernel_rfl
theorem ji2_BadNumber {fs : List Nat} {x : List D} {st : Sto} : isiU kits own [.ty "ValueError"] (.d (.exc 21 fs x)) st = .ok (.d (.bl true)) st := by kernel_rfl
theorem ji3_NoneType {st : Sto} : isiU kits own [.ty "bool"] (.d .non) st = .ok (.d (.bl false)) st := by kernel_rfl
theorem ji3_bool {x : Bool} {st : Sto} : isiU kits own [.ty "bool"] (.d (.bl x)) st = .ok (.d (.bl true)) st := by kernel_rfl
theorem ji3_int {x : Int} {st : Sto} : isiU kits own [.ty "bool"] (.d (.int x)) st = .ok (.d (.bl false)) st := by kernel_rfl
theorem ji3_str {x : Str} {st : Sto} : isiU kits own [.ty "bool"] (.d (.str x)) st = .ok (.d (.bl false)) st := by kernel_rfl
theorem ji3_list {x : List D} {st : Sto} : isiU kits own [.ty "bool"] (.d (.lst x)) st = .ok (.d (.bl false)) st := by kernel_rfl
theorem ji3_tuple {x : List D} {st : Sto} : isiU kits own [.ty "bool"] (.d (.tup x)) st = .ok (.d (.bl false)) st := by kernel_rfl
theorem ji3_dict {ks : List Key} {x : List D} {st : Sto} : isiU kits own [.ty "bool"] (.d (.dct ks x)) st = .ok (.d (.bl false)) st := by kernel_rfl
theorem ji3_tuple2 {x : List U} {st : Sto} : isiU kits own [.ty "bool"] (.t x) st = .ok (.d (.bl false)) st := by kernel_rfl
theorem ji4_NoneType {st : Sto} : isiU kits own [.ty "int"] (.d .non) st = .ok (.d (.bl false)) st := by kernel_rfl
theorem ji4_bool {x : Bool} {st : Sto} : isiU kits own [.ty "int"] (.d (.bl x)) st = .ok (.d (.bl true)) st := by kernel_rfl
theorem ji4_int {x : Int} {st : Sto} : isiU kits own [.ty "int"] (.d (.int x)) st = .ok (.d (.bl true)) st := by kernel_rfl
theorem ji4_str {x : Str} {st : Sto} : isiU kits own [.ty "int"] (.d (.str x)) st = .ok (.d (.bl false)) st := by kernel_rfl
theorem ji4_list {x : List D} {st : Sto} : isiU kits own [.ty "int"] (.d (.lst x)) st = .ok (.d (.bl false)) st := by kernel_rfl
theorem ji4_tuple {x : List D} {st : Sto} : isiU kits own [.ty "int"] (.d (.tup x)) st = .ok (.d (.bl false)) st := by kernel_rfl
theorem ji4_dict {ks : List Key} {x : List D} {st : Sto} : isiU kits own [.ty "int"] (.d (.dct ks x)) st = .ok (.d (.bl false)) st := by kernel_rfl
theorem ji4_tuple2 {x : List U} {st : Sto} : isiU kits own [.ty "int"] (.t x) st = .ok (.d (.bl false)) st := by kernel_rfl
theorem ji5_NoneType {st : Sto} : isiU kits own [.ty "list"] (.d .non) st = .ok (.d (.bl false)) st := by kernel_rfl
theorem ji5_bool {x : Bool} {st : Sto} : isiU kits own [.ty "list"] (.d (.bl x)) st = .ok (.d (.bl false)) st := by kernel_rfl
theorem ji5_int {x : Int} {st : Sto} : isiU kits own [.ty "list"] (.d (.int x)) st = .ok (.d (.bl false)) st := by kernel_rfl
theorem ji5_str {x : Str} {st : Sto} : isiU kits own [.ty "list"] (.d (.str x)) st = .ok (.d (.bl false)) st := by kernel_rfl
theorem ji5_list {x : List D} {st : Sto} : isiU kits own [.ty "list"] (.d (.lst x)) st = .ok (.d (.bl true)) st := by kernel_rfl
theorem ji5_tuple {x : List D} {st : Sto} : isiU kits own [.ty "list"] (.d (.tup x)) st = .ok (.d (.bl false)) st := by kernel_rfl
theorem ji5_dict {ks : List Key} {x : List D} {st : Sto} : isiU kits own [.ty "list"] (.d (.dct ks x)) st = .ok (.d (.bl false)) st := by kernel_rfl
theorem ji5_tuple2 {x : List U} {st : Sto} : isiU kits own [.ty "list"] (.t x) st = .ok (.d (.bl false)) st := by kernel_rfl
end K06
namespace K06
open PySem L2 KB
def top (i : Nat) : Stmt := PySem.Challenge.pw_knotbook_k06_numbers_tied.main.body.getD i (.Pass ⟨0, 0, 0, 0⟩)
def atts : List Str := ["height", "turns", "colour", "own_row", "own_worn", "own_hung", "own_head", "own_cords", "own_groups", "heads", "rows_of_cords", "above", "start", "lows", "counts", "spots", "table", "now", "behind", "beyond", "at", "line"]
def D0 : Dn := { globs := [("ZONE", .con (.int 10)), ("MOST_NUMBER", .con (.int 999999999999)), ("ZONES", .con (.int 12)), ("ValueError", .blt), ("all", .blt), ("bool", .blt), ("enumerate", .blt), ("int", .blt), ("isinstance", .blt), ("len", .blt), ("list", .blt), ("min", .blt), ("range", .blt), ("repr", .blt), ("sum", .blt), ("CordError", .cls 20 none), ("BadColour", .cls 22 none), ("BadCord", .cls 23 none), ("BadBook", .cls 24 none), ("BadPlace", .cls 25 none), ("IsWorn", .cls 26 none), ("NoWay", .cls 27 none), ("NoDeed", .cls 28 none), ("BadLine", .cls 29 none), ("BadKnot", .cls 30 none), ("BadText", .cls 31 none)], kits := kits, own := own, atts := atts, na := na, exms := exms }
def D1 : Dn := D0.add "BadNumber" (.err 21 none)
abbrev s_q_law_state : Stmt := top 24
def N_q_law_state : List Str := ["_law_cells", "_law_k"]
theorem sc_q_law_state : FnScope N_q_law_state ["_law_cells", "_law_k"] (defScope s_q_law_state) := ⟨rfl, rfl, rfl, by decide +kernel, rfl, by decide +kernel, by decide +kernel⟩
theorem rd_q_law_state : ∀ rf, body D1 N_q_law_state (defScope s_q_law_state) [] rf (defBody s_q_law_state) = some (KL.b_law_state rf) := fun rf => by kernel_rfl
def D2 : Dn := D1.add "_law_state" (.fn KL.q_law_state)
abbrev s_q_law_mixed : Stmt := top 23
def N_q_law_mixed : List Str := ["_law_cell", "_law_k", "_law_more"]
theorem sc_q_law_mixed : FnScope N_q_law_mixed ["_law_cell", "_law_k"] (defScope s_q_law_mixed) := ⟨rfl, rfl, rfl, by decide +kernel, rfl, by decide +kernel, by decide +kernel⟩
theorem rd_q_law_mixed : ∀ rf, body D2 N_q_law_mixed (defScope s_q_law_mixed) [] rf (defBody s_q_law_mixed) = some (KL.b_law_mixed rf) := fun rf => by kernel_rfl
def D3 : Dn := D2.add "_law_mixed" (.fn KL.q_law_mixed)
abbrev s_q_law_take : Stmt := top 25
def N_q_law_take : List Str := ["_law_state_here", "_law_many", "_law_at", "_law_cell", "_law_k", "_law_found"]
theorem sc_q_law_take : FnScope N_q_law_take ["_law_state_here", "_law_many"] (defScope s_q_law_take) := ⟨rfl, rfl, rfl, by decide +kernel, rfl, by decide +kernel, by decide +kernel⟩
theorem rd_q_law_take : ∀ rf, body D3 N_q_law_take (defScope s_q_law_take) [] rf (defBody s_q_law_take) = some (KL.b_law_take rf) := fun rf => by kernel_rfl
def D4 : Dn := D3.add "_law_take" (.fn KL.q_law_take)
abbrev s_q_law_number : Stmt := top 26
def N_q_law_number : List Str := ["_law_state_here", "_law_most", "_law_any_one", "_law_power", "_law_turn", "_law_some"]
theorem sc_q_law_number : FnScope N_q_law_number ["_law_state_here"] (defScope s_q_law_number) := ⟨rfl, rfl, rfl, by decide +kernel, rfl, by decide +kernel, by decide +kernel⟩
theorem rd_q_law_number : ∀ rf, body D4 N_q_law_number (defScope s_q_law_number) [] rf (defBody s_q_law_number) = some (b_law_number rf) := fun rf => by kernel_rfl
def D5 : Dn := D4.add "_law_number" (.fn q_law_number)
abbrev s_q_law_zone : Stmt := top 27
def N_q_law_zone : List Str := ["_law_zone_here", "_law_digit", "_law_found"]
theorem sc_q_law_zone : FnScope N_q_law_zone ["_law_zone_here", "_law_digit"] (defScope s_q_law_zone) := ⟨rfl, rfl, rfl, by decide +kernel, rfl, by decide +kernel, by decide +kernel⟩
theorem rd_q_law_zone : ∀ rf, body D5 N_q_law_zone (defScope s_q_law_zone) [] rf (defBody s_q_law_zone) = some (b_law_zone rf) := fun rf => by kernel_rfl
def D6 : Dn := D5.add "_law_zone" (.fn q_law_zone)
abbrev s_q_law_zones : Stmt := top 28
def N_q_law_zones : List Str := ["_law_number_here", "_law_found", "_law_zone_here"]
theorem sc_q_law_zones : FnScope N_q_law_zones ["_law_number_here"] (defScope s_q_law_zones) := ⟨rfl, rfl, rfl, by decide +kernel, rfl, by decide +kernel, by decide +kernel⟩
theorem rd_q_law_zones : ∀ rf, body D6 N_q_law_zones (defScope s_q_law_zones) ["_law_found"] rf (defBody s_q_law_zones) = some (b_law_zones rf) := fun rf => by kernel_rfl
def D7 : Dn := D6.add "_law_zones" (.fn q_law_zones)
abbrev s_q_is_among : Stmt := top 16
def N_q_is_among : List Str := ["thing", "least", "most"]
theorem sc_q_is_among : FnScope N_q_is_among ["thing", "least", "most"] (defScope s_q_is_among) := ⟨rfl, rfl, rfl, by decide +kernel, rfl, by decide +kernel, by decide +kernel⟩
theorem rd_q_is_among : ∀ rf, body D7 N_q_is_among (defScope s_q_is_among) [] rf (defBody s_q_is_among) = some (b_is_among rf) := fun rf => by kernel_rfl
def D8 : Dn := D7.add "is_among" (.fn q_is_among)
abbrev s_q_is_number : Stmt := top 17
def N_q_is_number : List Str := ["thing"]
theorem sc_q_is_number : FnScope N_q_is_number ["thing"] (defScope s_q_is_number) := ⟨rfl, rfl, rfl, by decide +kernel, rfl, by decide +kernel, by decide +kernel⟩
theorem rd_q_is_number : ∀ rf, body D8 N_q_is_number (defScope s_q_is_number) [] rf (defBody s_q_is_number) = some (b_is_number rf) := fun rf => by kernel_rfl
def D9 : Dn := D8.add "is_number" (.fn q_is_number)
abbrev s_q_tied_in : Stmt := top 20
def N_q_tied_in : List Str := ["zone", "digit", "at"]
theorem sc_q_tied_in : FnScope N_q_tied_in ["zone", "digit"] (defScope s_q_tied_in) := ⟨rfl, rfl, rfl, by decide +kernel, rfl, by decide +kernel, by decide +kernel⟩
theorem rd_q_tied_in : ∀ rf, body D9 N_q_tied_in (defScope s_q_tied_in) [] rf (defBody s_q_tied_in) = some (b_tied_in rf) := fun rf => by kernel_rfl
def D10 : Dn := D9.add "tied_in" (.fn q_tied_in)
abbrev s_q_tied : Stmt := top 21
def N_q_tied : List Str := ["number", "found", "zone"]
theorem sc_q_tied : FnScope N_q_tied ["number"] (defScope s_q_tied) := ⟨rfl, rfl, rfl, by decide +kernel, rfl, by decide +kernel, by decide +kernel⟩
theorem rd_q_tied : ∀ rf, body D10 N_q_tied (defScope s_q_tied) ["found"] rf (defBody s_q_tied) = some (b_tied rf) := fun rf => by kernel_rfl
def D11 : Dn := D10.add "tied" (.fn q_tied)
abbrev s_q_law_alone : Stmt := top 29
def N_q_law_alone : List Str := ["_law_e", "_law_others"]
theorem sc_q_law_alone : FnScope N_q_law_alone ["_law_e"] (defScope s_q_law_alone) := ⟨rfl, rfl, rfl, by decide +kernel, rfl, by decide +kernel, by decide +kernel⟩
theorem rd_q_law_alone : ∀ rf, body D11 N_q_law_alone (defScope s_q_law_alone) [] rf (defBody s_q_law_alone) = some (b_law_alone rf) := fun rf => by kernel_rfl
def D12 : Dn := D11.add "_law_alone" (.fn q_law_alone)
abbrev s_q_law_caught : Stmt := top 30
def N_q_law_caught : List Str := ["_law_thing", "_law_found", "_law_e"]
theorem sc_q_law_caught : FnScope N_q_law_caught ["_law_thing"] (defScope s_q_law_caught) := ⟨rfl, rfl, rfl, by decide +kernel, rfl, by decide +kernel, by decide +kernel⟩
theorem rd_q_law_caught : ∀ rf, body D12 N_q_law_caught (defScope s_q_law_caught) [] rf (defBody s_q_law_caught) = some (b_law_caught rf) := fun rf => by kernel_rfl
def D13 : Dn := D12.add "_law_caught" (.fn q_law_caught)
abbrev s_q_law : Stmt := top 31
def N_q_law : List Str := ["_law_script", "_law_held", "_law_far", "_law_number_here", "_law_odd", "_law_k", "_law_cell", "_law_state_here", "_law_zones_here", "_law_due", "_law_turn", "_law_rest", "_law_zone_here", "_law_some", "_law_more", "_law_found"]
theorem sc_q_law : FnScope N_q_law ["_law_script"] (defScope s_q_law) := ⟨rfl, rfl, rfl, by decide +kernel, rfl, by decide +kernel, by decide +kernel⟩
theorem rd_q_law : ∀ rf, body D13 N_q_law (defScope s_q_law) ["_law_state_here", "_law_held", "_law_found"] rf (defBody s_q_law) = some (b_law rf) := fun rf => by kernel_rfl
theorem at1 : atts.all (fun x => decide (x.length < 100)) = true := by decide +kernel
theorem at2 : atts.Nodup := by decide +kernel
theorem all_mk {l : PySem.W.OpenLaw} {w : World} {K : PySem.W.Frag} {h : Heap} {mg : Str → Option Value} {fa : Addr} (X : K.In h) (gl : h.Ns mainGlobals mg) (hfa : mg "law" = some (.ref fa))
    {tk_ZONE : Tok} {tk_MOST_NUMBER : Tok} {tk_ZONES : Tok} {C_CordError : Addr} {C_BadNumber : Addr} {C_BadColour : Addr} {C_BadCord : Addr} {C_BadBook : Addr} {C_BadPlace : Addr} {C_IsWorn : Addr} {C_NoWay : Addr} {C_NoDeed : Addr} {C_BadLine : Addr} {C_BadKnot : Addr} {C_BadText : Addr} {f_q_law_state : Addr} {od_q_law_state an_q_law_state : Option Addr} {sl_q_law_state : Array (Option Value)} {oc_q_law_state kV_q_law_state dc_q_law_state pm_q_law_state cd_q_law_state ct_q_law_state : Value} {f_q_law_mixed : Addr} {od_q_law_mixed an_q_law_mixed : Option Addr} {sl_q_law_mixed : Array (Option Value)} {oc_q_law_mixed kV_q_law_mixed dc_q_law_mixed pm_q_law_mixed cd_q_law_mixed ct_q_law_mixed : Value} {f_q_law_take : Addr} {od_q_law_take an_q_law_take : Option Addr} {sl_q_law_take : Array (Option Value)} {oc_q_law_take kV_q_law_take dc_q_law_take pm_q_law_take cd_q_law_take ct_q_law_take : Value} {f_q_law_number : Addr} {od_q_law_number an_q_law_number : Option Addr} {sl_q_law_number : Array (Option Value)} {oc_q_law_number kV_q_law_number dc_q_law_number pm_q_law_number cd_q_law_number ct_q_law_number : Value} {f_q_law_zone : Addr} {od_q_law_zone an_q_law_zone : Option Addr} {sl_q_law_zone : Array (Option Value)} {oc_q_law_zone kV_q_law_zone dc_q_law_zone pm_q_law_zone cd_q_law_zone ct_q_law_zone : Value} {f_q_law_zones : Addr} {od_q_law_zones an_q_law_zones : Option Addr} {sl_q_law_zones : Array (Option Value)} {oc_q_law_zones kV_q_law_zones dc_q_law_zones pm_q_law_zones cd_q_law_zones ct_q_law_zones : Value} {f_q_is_among : Addr} {od_q_is_among an_q_is_among : Option Addr} {sl_q_is_among : Array (Option Value)} {oc_q_is_among kV_q_is_among dc_q_is_among pm_q_is_among cd_q_is_among ct_q_is_among : Value} {f_q_is_number : Addr} {od_q_is_number an_q_is_number : Option Addr} {sl_q_is_number : Array (Option Value)} {oc_q_is_number kV_q_is_number dc_q_is_number pm_q_is_number cd_q_is_number ct_q_is_number : Value} {f_q_tied_in : Addr} {od_q_tied_in an_q_tied_in : Option Addr} {sl_q_tied_in : Array (Option Value)} {oc_q_tied_in kV_q_tied_in dc_q_tied_in pm_q_tied_in cd_q_tied_in ct_q_tied_in : Value} {f_q_tied : Addr} {od_q_tied an_q_tied : Option Addr} {sl_q_tied : Array (Option Value)} {oc_q_tied kV_q_tied dc_q_tied pm_q_tied cd_q_tied ct_q_tied : Value} {f_q_law_alone : Addr} {od_q_law_alone an_q_law_alone : Option Addr} {sl_q_law_alone : Array (Option Value)} {oc_q_law_alone kV_q_law_alone dc_q_law_alone pm_q_law_alone cd_q_law_alone ct_q_law_alone : Value} {f_q_law_caught : Addr} {od_q_law_caught an_q_law_caught : Option Addr} {sl_q_law_caught : Array (Option Value)} {oc_q_law_caught kV_q_law_caught dc_q_law_caught pm_q_law_caught cd_q_law_caught ct_q_law_caught : Value} {f_q_law : Addr} {od_q_law an_q_law : Option Addr} {sl_q_law : Array (Option Value)} {oc_q_law kV_q_law dc_q_law pm_q_law cd_q_law ct_q_law : Value}
    (zc_ZONE : PySem.W.nsIn K mainGlobals "ZONE" = some (some (.int 10 tk_ZONE)))
    (zc_MOST_NUMBER : PySem.W.nsIn K mainGlobals "MOST_NUMBER" = some (some (.int 999999999999 tk_MOST_NUMBER)))
    (zc_ZONES : PySem.W.nsIn K mainGlobals "ZONES" = some (some (.int 12 tk_ZONES)))
    (zb_ValueError : PySem.W.nsIn K mainGlobals "ValueError" = some none)
    (zb_all : PySem.W.nsIn K mainGlobals "all" = some none)
    (zb_bool : PySem.W.nsIn K mainGlobals "bool" = some none)
    (zb_enumerate : PySem.W.nsIn K mainGlobals "enumerate" = some none)
    (zb_int : PySem.W.nsIn K mainGlobals "int" = some none)
    (zb_isinstance : PySem.W.nsIn K mainGlobals "isinstance" = some none)
    (zb_len : PySem.W.nsIn K mainGlobals "len" = some none)
    (zb_list : PySem.W.nsIn K mainGlobals "list" = some none)
    (zb_min : PySem.W.nsIn K mainGlobals "min" = some none)
    (zb_range : PySem.W.nsIn K mainGlobals "range" = some none)
    (zb_repr : PySem.W.nsIn K mainGlobals "repr" = some none)
    (zb_sum : PySem.W.nsIn K mainGlobals "sum" = some none)
    (g_hn : PySem.W.specialIn K (.builtin "object.__class__") "__get__" = some (some (.builtin "getset_descriptor.__get__")))
    (g_htk : PySem.W.takesIn K (.builtin "object.__class__") = some true)
    (aC_CordError : PySem.W.nsIn K mainGlobals "CordError" = some (some (.ref C_CordError)))
    (aC_BadNumber : PySem.W.nsIn K mainGlobals "BadNumber" = some (some (.ref C_BadNumber)))
    (aC_BadColour : PySem.W.nsIn K mainGlobals "BadColour" = some (some (.ref C_BadColour)))
    (aC_BadCord : PySem.W.nsIn K mainGlobals "BadCord" = some (some (.ref C_BadCord)))
    (aC_BadBook : PySem.W.nsIn K mainGlobals "BadBook" = some (some (.ref C_BadBook)))
    (aC_BadPlace : PySem.W.nsIn K mainGlobals "BadPlace" = some (some (.ref C_BadPlace)))
    (aC_IsWorn : PySem.W.nsIn K mainGlobals "IsWorn" = some (some (.ref C_IsWorn)))
    (aC_NoWay : PySem.W.nsIn K mainGlobals "NoWay" = some (some (.ref C_NoWay)))
    (aC_NoDeed : PySem.W.nsIn K mainGlobals "NoDeed" = some (some (.ref C_NoDeed)))
    (aC_BadLine : PySem.W.nsIn K mainGlobals "BadLine" = some (some (.ref C_BadLine)))
    (aC_BadKnot : PySem.W.nsIn K mainGlobals "BadKnot" = some (some (.ref C_BadKnot)))
    (aC_BadText : PySem.W.nsIn K mainGlobals "BadText" = some (some (.ref C_BadText)))
    (hd_BadNumber : PySem.W.hasDictIn K C_BadNumber = true)
    (ty_BadNumber : PySem.W.typeIn K (.ref C_BadNumber) = some (.type "type"))
    (se_BadNumber : PySem.W.subIn K (.ref C_BadNumber) (.ref C_BadNumber) = some true)
    (hd_BadColour : PySem.W.hasDictIn K C_BadColour = true)
    (ty_BadColour : PySem.W.typeIn K (.ref C_BadColour) = some (.type "type"))
    (se_BadColour : PySem.W.subIn K (.ref C_BadColour) (.ref C_BadColour) = some true)
    (hd_BadCord : PySem.W.hasDictIn K C_BadCord = true)
    (ty_BadCord : PySem.W.typeIn K (.ref C_BadCord) = some (.type "type"))
    (se_BadCord : PySem.W.subIn K (.ref C_BadCord) (.ref C_BadCord) = some true)
    (hd_BadBook : PySem.W.hasDictIn K C_BadBook = true)
    (ty_BadBook : PySem.W.typeIn K (.ref C_BadBook) = some (.type "type"))
    (se_BadBook : PySem.W.subIn K (.ref C_BadBook) (.ref C_BadBook) = some true)
    (hd_BadPlace : PySem.W.hasDictIn K C_BadPlace = true)
    (ty_BadPlace : PySem.W.typeIn K (.ref C_BadPlace) = some (.type "type"))
    (se_BadPlace : PySem.W.subIn K (.ref C_BadPlace) (.ref C_BadPlace) = some true)
    (hd_IsWorn : PySem.W.hasDictIn K C_IsWorn = true)
    (ty_IsWorn : PySem.W.typeIn K (.ref C_IsWorn) = some (.type "type"))
    (se_IsWorn : PySem.W.subIn K (.ref C_IsWorn) (.ref C_IsWorn) = some true)
    (hd_NoWay : PySem.W.hasDictIn K C_NoWay = true)
    (ty_NoWay : PySem.W.typeIn K (.ref C_NoWay) = some (.type "type"))
    (se_NoWay : PySem.W.subIn K (.ref C_NoWay) (.ref C_NoWay) = some true)
    (hd_NoDeed : PySem.W.hasDictIn K C_NoDeed = true)
    (ty_NoDeed : PySem.W.typeIn K (.ref C_NoDeed) = some (.type "type"))
    (se_NoDeed : PySem.W.subIn K (.ref C_NoDeed) (.ref C_NoDeed) = some true)
    (hd_BadLine : PySem.W.hasDictIn K C_BadLine = true)
    (ty_BadLine : PySem.W.typeIn K (.ref C_BadLine) = some (.type "type"))
    (se_BadLine : PySem.W.subIn K (.ref C_BadLine) (.ref C_BadLine) = some true)
    (hd_BadKnot : PySem.W.hasDictIn K C_BadKnot = true)
    (ty_BadKnot : PySem.W.typeIn K (.ref C_BadKnot) = some (.type "type"))
    (se_BadKnot : PySem.W.subIn K (.ref C_BadKnot) (.ref C_BadKnot) = some true)
    (hd_BadText : PySem.W.hasDictIn K C_BadText = true)
    (ty_BadText : PySem.W.typeIn K (.ref C_BadText) = some (.type "type"))
    (se_BadText : PySem.W.subIn K (.ref C_BadText) (.ref C_BadText) = some true)
    (ha_BadNumber : PySem.W.findIn K (.ref C_BadNumber) "__class__" = some (some (.builtin "object.__class__")))
    (hm_BadNumber : PySem.W.mroIn K C_BadNumber (.type "object") = some true)
    (ga_BadNumber : PySem.W.findIn K (.ref C_BadNumber) "__getattribute__" = some (some (.builtin "BaseException.__getattribute__")))
    (gt_BadNumber : PySem.W.findIn K (.ref C_BadNumber) "__getattr__" = some none)
    (sb_BadNumber : PySem.W.subIn K (.ref C_BadNumber) (.type "BaseException") = some true)
    (kC_BadNumber : PySem.W.keepIn K (.ref C_BadNumber) = true)
    (xq_BadNumber : PySem.W.excIn K C_BadNumber PySem.HandSPX.veTail "ValueError.__new__" = true)
    (hd_CordError : PySem.W.hasDictIn K C_CordError = true)
    (ty_CordError : PySem.W.typeIn K (.ref C_CordError) = some (.type "type"))
    (sb_CordError : PySem.W.subIn K (.ref C_CordError) (.type "BaseException") = some true)
    (xs_BadNumber_CordError : PySem.W.subIn K (.ref C_BadNumber) (.ref C_CordError) = some true)
    (kr_0 : PySem.W.subIn K (.type "NoneType") (.ref C_BadNumber) = some false)
    (kr_1 : PySem.W.subIn K (.ref C_BadNumber) (.ref C_BadNumber) = some true)
    (kr_2 : PySem.W.subIn K (.type "NoneType") (.ref C_BadColour) = some false)
    (kr_3 : PySem.W.subIn K (.ref C_BadNumber) (.ref C_BadColour) = some false)
    (kr_4 : PySem.W.subIn K (.type "NoneType") (.ref C_BadCord) = some false)
    (kr_5 : PySem.W.subIn K (.ref C_BadNumber) (.ref C_BadCord) = some false)
    (kr_6 : PySem.W.subIn K (.type "NoneType") (.ref C_BadBook) = some false)
    (kr_7 : PySem.W.subIn K (.ref C_BadNumber) (.ref C_BadBook) = some false)
    (kr_8 : PySem.W.subIn K (.type "NoneType") (.ref C_BadPlace) = some false)
    (kr_9 : PySem.W.subIn K (.ref C_BadNumber) (.ref C_BadPlace) = some false)
    (kr_10 : PySem.W.subIn K (.type "NoneType") (.ref C_IsWorn) = some false)
    (kr_11 : PySem.W.subIn K (.ref C_BadNumber) (.ref C_IsWorn) = some false)
    (kr_12 : PySem.W.subIn K (.type "NoneType") (.ref C_NoWay) = some false)
    (kr_13 : PySem.W.subIn K (.ref C_BadNumber) (.ref C_NoWay) = some false)
    (kr_14 : PySem.W.subIn K (.type "NoneType") (.ref C_NoDeed) = some false)
    (kr_15 : PySem.W.subIn K (.ref C_BadNumber) (.ref C_NoDeed) = some false)
    (kr_16 : PySem.W.subIn K (.type "NoneType") (.ref C_BadLine) = some false)
    (kr_17 : PySem.W.subIn K (.ref C_BadNumber) (.ref C_BadLine) = some false)
    (kr_18 : PySem.W.subIn K (.type "NoneType") (.ref C_BadKnot) = some false)
    (kr_19 : PySem.W.subIn K (.ref C_BadNumber) (.ref C_BadKnot) = some false)
    (kr_20 : PySem.W.subIn K (.type "NoneType") (.ref C_BadText) = some false)
    (kr_21 : PySem.W.subIn K (.ref C_BadNumber) (.ref C_BadText) = some false)
    (kr_23 : PySem.W.subIn K (.ref C_BadNumber) (.type "ValueError") = some true)
    (a_q_law_state : PySem.W.nsIn K mainGlobals "_law_state" = some (some (.ref f_q_law_state)))
    (l_q_law_state : K.lookup f_q_law_state = some ⟨oc_q_law_state, od_q_law_state, .func (PySem.W.fnOf "_law_state" "_law_state" (defArgs s_q_law_state) (defBody s_q_law_state) (defScope s_q_law_state) .none kV_q_law_state dc_q_law_state pm_q_law_state an_q_law_state cd_q_law_state ct_q_law_state), sl_q_law_state⟩)
    (c_q_law_state : PySem.W.codeIn K cd_q_law_state "_law_state" = true)
    (k_q_law_state : PySem.W.keepIn K (.ref f_q_law_state) = true)
    (a_q_law_mixed : PySem.W.nsIn K mainGlobals "_law_mixed" = some (some (.ref f_q_law_mixed)))
    (l_q_law_mixed : K.lookup f_q_law_mixed = some ⟨oc_q_law_mixed, od_q_law_mixed, .func (PySem.W.fnOf "_law_mixed" "_law_mixed" (defArgs s_q_law_mixed) (defBody s_q_law_mixed) (defScope s_q_law_mixed) .none kV_q_law_mixed dc_q_law_mixed pm_q_law_mixed an_q_law_mixed cd_q_law_mixed ct_q_law_mixed), sl_q_law_mixed⟩)
    (c_q_law_mixed : PySem.W.codeIn K cd_q_law_mixed "_law_mixed" = true)
    (k_q_law_mixed : PySem.W.keepIn K (.ref f_q_law_mixed) = true)
    (a_q_law_take : PySem.W.nsIn K mainGlobals "_law_take" = some (some (.ref f_q_law_take)))
    (l_q_law_take : K.lookup f_q_law_take = some ⟨oc_q_law_take, od_q_law_take, .func (PySem.W.fnOf "_law_take" "_law_take" (defArgs s_q_law_take) (defBody s_q_law_take) (defScope s_q_law_take) .none kV_q_law_take dc_q_law_take pm_q_law_take an_q_law_take cd_q_law_take ct_q_law_take), sl_q_law_take⟩)
    (c_q_law_take : PySem.W.codeIn K cd_q_law_take "_law_take" = true)
    (k_q_law_take : PySem.W.keepIn K (.ref f_q_law_take) = true)
    (a_q_law_number : PySem.W.nsIn K mainGlobals "_law_number" = some (some (.ref f_q_law_number)))
    (l_q_law_number : K.lookup f_q_law_number = some ⟨oc_q_law_number, od_q_law_number, .func (PySem.W.fnOf "_law_number" "_law_number" (defArgs s_q_law_number) (defBody s_q_law_number) (defScope s_q_law_number) .none kV_q_law_number dc_q_law_number pm_q_law_number an_q_law_number cd_q_law_number ct_q_law_number), sl_q_law_number⟩)
    (c_q_law_number : PySem.W.codeIn K cd_q_law_number "_law_number" = true)
    (k_q_law_number : PySem.W.keepIn K (.ref f_q_law_number) = true)
    (a_q_law_zone : PySem.W.nsIn K mainGlobals "_law_zone" = some (some (.ref f_q_law_zone)))
    (l_q_law_zone : K.lookup f_q_law_zone = some ⟨oc_q_law_zone, od_q_law_zone, .func (PySem.W.fnOf "_law_zone" "_law_zone" (defArgs s_q_law_zone) (defBody s_q_law_zone) (defScope s_q_law_zone) .none kV_q_law_zone dc_q_law_zone pm_q_law_zone an_q_law_zone cd_q_law_zone ct_q_law_zone), sl_q_law_zone⟩)
    (c_q_law_zone : PySem.W.codeIn K cd_q_law_zone "_law_zone" = true)
    (k_q_law_zone : PySem.W.keepIn K (.ref f_q_law_zone) = true)
    (a_q_law_zones : PySem.W.nsIn K mainGlobals "_law_zones" = some (some (.ref f_q_law_zones)))
    (l_q_law_zones : K.lookup f_q_law_zones = some ⟨oc_q_law_zones, od_q_law_zones, .func (PySem.W.fnOf "_law_zones" "_law_zones" (defArgs s_q_law_zones) (defBody s_q_law_zones) (defScope s_q_law_zones) .none kV_q_law_zones dc_q_law_zones pm_q_law_zones an_q_law_zones cd_q_law_zones ct_q_law_zones), sl_q_law_zones⟩)
    (c_q_law_zones : PySem.W.codeIn K cd_q_law_zones "_law_zones" = true)
    (k_q_law_zones : PySem.W.keepIn K (.ref f_q_law_zones) = true)
    (a_q_is_among : PySem.W.nsIn K mainGlobals "is_among" = some (some (.ref f_q_is_among)))
    (l_q_is_among : K.lookup f_q_is_among = some ⟨oc_q_is_among, od_q_is_among, .func (PySem.W.fnOf "is_among" "is_among" (defArgs s_q_is_among) (defBody s_q_is_among) (defScope s_q_is_among) .none kV_q_is_among dc_q_is_among pm_q_is_among an_q_is_among cd_q_is_among ct_q_is_among), sl_q_is_among⟩)
    (c_q_is_among : PySem.W.codeIn K cd_q_is_among "is_among" = true)
    (k_q_is_among : PySem.W.keepIn K (.ref f_q_is_among) = true)
    (a_q_is_number : PySem.W.nsIn K mainGlobals "is_number" = some (some (.ref f_q_is_number)))
    (l_q_is_number : K.lookup f_q_is_number = some ⟨oc_q_is_number, od_q_is_number, .func (PySem.W.fnOf "is_number" "is_number" (defArgs s_q_is_number) (defBody s_q_is_number) (defScope s_q_is_number) .none kV_q_is_number dc_q_is_number pm_q_is_number an_q_is_number cd_q_is_number ct_q_is_number), sl_q_is_number⟩)
    (c_q_is_number : PySem.W.codeIn K cd_q_is_number "is_number" = true)
    (k_q_is_number : PySem.W.keepIn K (.ref f_q_is_number) = true)
    (a_q_tied_in : PySem.W.nsIn K mainGlobals "tied_in" = some (some (.ref f_q_tied_in)))
    (l_q_tied_in : K.lookup f_q_tied_in = some ⟨oc_q_tied_in, od_q_tied_in, .func (PySem.W.fnOf "tied_in" "tied_in" (defArgs s_q_tied_in) (defBody s_q_tied_in) (defScope s_q_tied_in) .none kV_q_tied_in dc_q_tied_in pm_q_tied_in an_q_tied_in cd_q_tied_in ct_q_tied_in), sl_q_tied_in⟩)
    (c_q_tied_in : PySem.W.codeIn K cd_q_tied_in "tied_in" = true)
    (k_q_tied_in : PySem.W.keepIn K (.ref f_q_tied_in) = true)
    (a_q_tied : PySem.W.nsIn K mainGlobals "tied" = some (some (.ref f_q_tied)))
    (l_q_tied : K.lookup f_q_tied = some ⟨oc_q_tied, od_q_tied, .func (PySem.W.fnOf "tied" "tied" (defArgs s_q_tied) (defBody s_q_tied) (defScope s_q_tied) .none kV_q_tied dc_q_tied pm_q_tied an_q_tied cd_q_tied ct_q_tied), sl_q_tied⟩)
    (c_q_tied : PySem.W.codeIn K cd_q_tied "tied" = true)
    (k_q_tied : PySem.W.keepIn K (.ref f_q_tied) = true)
    (a_q_law_alone : PySem.W.nsIn K mainGlobals "_law_alone" = some (some (.ref f_q_law_alone)))
    (l_q_law_alone : K.lookup f_q_law_alone = some ⟨oc_q_law_alone, od_q_law_alone, .func (PySem.W.fnOf "_law_alone" "_law_alone" (defArgs s_q_law_alone) (defBody s_q_law_alone) (defScope s_q_law_alone) .none kV_q_law_alone dc_q_law_alone pm_q_law_alone an_q_law_alone cd_q_law_alone ct_q_law_alone), sl_q_law_alone⟩)
    (c_q_law_alone : PySem.W.codeIn K cd_q_law_alone "_law_alone" = true)
    (k_q_law_alone : PySem.W.keepIn K (.ref f_q_law_alone) = true)
    (a_q_law_caught : PySem.W.nsIn K mainGlobals "_law_caught" = some (some (.ref f_q_law_caught)))
    (l_q_law_caught : K.lookup f_q_law_caught = some ⟨oc_q_law_caught, od_q_law_caught, .func (PySem.W.fnOf "_law_caught" "_law_caught" (defArgs s_q_law_caught) (defBody s_q_law_caught) (defScope s_q_law_caught) .none kV_q_law_caught dc_q_law_caught pm_q_law_caught an_q_law_caught cd_q_law_caught ct_q_law_caught), sl_q_law_caught⟩)
    (c_q_law_caught : PySem.W.codeIn K cd_q_law_caught "_law_caught" = true)
    (k_q_law_caught : PySem.W.keepIn K (.ref f_q_law_caught) = true)
    (a_q_law : PySem.W.nsIn K mainGlobals "law" = some (some (.ref f_q_law)))
    (l_q_law : K.lookup f_q_law = some ⟨oc_q_law, od_q_law, .func (PySem.W.fnOf "law" "law" (defArgs s_q_law) (defBody s_q_law) (defScope s_q_law) .none kV_q_law dc_q_law pm_q_law an_q_law cd_q_law ct_q_law), sl_q_law⟩)
    (c_q_law : PySem.W.codeIn K cd_q_law "law" = true)
    (k_q_law : PySem.W.keepIn K (.ref f_q_law) = true)
    (ans : ∀ ns : List Int, ns.length ≤ 63 → ∃ st, q_law true [.d (.scr ns)] [] = .ok (.d (.bl true)) st) : ∃ (fd : FuncData) (T : Tab) (c : MF), (∀ (s : Shared) (v : Value), BindsTo s fd ⟨[v], []⟩ [("_law_script", v)]) ∧ (∀ base : Heap, K.In base → base.Ns mainGlobals mg → SF ⟨l.prog, w, K, mg, base, T⟩ 13 fa fd ["_law_script"] c) ∧ ∀ ns : List Int, ns.length ≤ 63 → (∀ z ∈ ns, Builtin.Int.intBits z ≤ 1048576) → ∃ st, c [.d (.scr ns)] [] = .ok (.d (.bl true)) st := by
  have e := hfa.symm.trans (PySem.W.mg_of X gl a_q_law)
  cases e
  obtain ⟨T, hT⟩ : ∃ T : Tab, T = ⟨clsOf [0, 0, 0, 0, 0, 0, 0, 0, 0, 0, 0, 0, 0, 0, 0, 0, 0, 0, 0, 0, C_CordError, C_BadNumber, C_BadColour, C_BadCord, C_BadBook, C_BadPlace, C_IsWorn, C_NoWay, C_NoDeed, C_BadLine, C_BadKnot, C_BadText], attOf atts⟩ := ⟨_, rfl⟩
  have F_q_law_state := fun_mk (st := s_q_law_state) l_q_law_state c_q_law_state k_q_law_state
  have b_q_law_state := F_q_law_state.binds (ps := ["_law_cells", "_law_k"]) fun _ _ _ _ _ _ us hl => match us, hl with | [_, _], _ => rfl
  have F_q_law_mixed := fun_mk (st := s_q_law_mixed) l_q_law_mixed c_q_law_mixed k_q_law_mixed
  have b_q_law_mixed := F_q_law_mixed.binds (ps := ["_law_cell", "_law_k"]) fun _ _ _ _ _ _ us hl => match us, hl with | [_, _], _ => rfl
  have F_q_law_take := fun_mk (st := s_q_law_take) l_q_law_take c_q_law_take k_q_law_take
  have b_q_law_take := F_q_law_take.binds (ps := ["_law_state_here", "_law_many"]) fun _ _ _ _ _ _ us hl => match us, hl with | [_, _], _ => rfl
  have F_q_law_number := fun_mk (st := s_q_law_number) l_q_law_number c_q_law_number k_q_law_number
  have b_q_law_number := F_q_law_number.binds (ps := ["_law_state_here"]) fun _ _ _ _ _ _ us hl => match us, hl with | [_], _ => rfl
  have F_q_law_zone := fun_mk (st := s_q_law_zone) l_q_law_zone c_q_law_zone k_q_law_zone
  have b_q_law_zone := F_q_law_zone.binds (ps := ["_law_zone_here", "_law_digit"]) fun _ _ _ _ _ _ us hl => match us, hl with | [_, _], _ => rfl
  have F_q_law_zones := fun_mk (st := s_q_law_zones) l_q_law_zones c_q_law_zones k_q_law_zones
  have b_q_law_zones := F_q_law_zones.binds (ps := ["_law_number_here"]) fun _ _ _ _ _ _ us hl => match us, hl with | [_], _ => rfl
  have F_q_is_among := fun_mk (st := s_q_is_among) l_q_is_among c_q_is_among k_q_is_among
  have b_q_is_among := F_q_is_among.binds (ps := ["thing", "least", "most"]) fun _ _ _ _ _ _ us hl => match us, hl with | [_, _, _], _ => rfl
  have F_q_is_number := fun_mk (st := s_q_is_number) l_q_is_number c_q_is_number k_q_is_number
  have b_q_is_number := F_q_is_number.binds (ps := ["thing"]) fun _ _ _ _ _ _ us hl => match us, hl with | [_], _ => rfl
  have F_q_tied_in := fun_mk (st := s_q_tied_in) l_q_tied_in c_q_tied_in k_q_tied_in
  have b_q_tied_in := F_q_tied_in.binds (ps := ["zone", "digit"]) fun _ _ _ _ _ _ us hl => match us, hl with | [_, _], _ => rfl
  have F_q_tied := fun_mk (st := s_q_tied) l_q_tied c_q_tied k_q_tied
  have b_q_tied := F_q_tied.binds (ps := ["number"]) fun _ _ _ _ _ _ us hl => match us, hl with | [_], _ => rfl
  have F_q_law_alone := fun_mk (st := s_q_law_alone) l_q_law_alone c_q_law_alone k_q_law_alone
  have b_q_law_alone := F_q_law_alone.binds (ps := ["_law_e"]) fun _ _ _ _ _ _ us hl => match us, hl with | [_], _ => rfl
  have F_q_law_caught := fun_mk (st := s_q_law_caught) l_q_law_caught c_q_law_caught k_q_law_caught
  have b_q_law_caught := F_q_law_caught.binds (ps := ["_law_thing"]) fun _ _ _ _ _ _ us hl => match us, hl with | [_], _ => rfl
  have F_q_law := fun_mk (st := s_q_law) l_q_law c_q_law k_q_law
  refine ⟨PySem.W.fnOf "law" "law" (defArgs s_q_law) (defBody s_q_law) (defScope s_q_law) .none kV_q_law dc_q_law pm_q_law an_q_law cd_q_law ct_q_law, T, q_law true, fun s v => .of_eq rfl, fun base _ _ => ?_, fun ns h1 _ => ans ns h1⟩
  subst hT
  have hkO : ∀ x ∈ kitsO, PySem.W.kitOne K (clV ⟨clsOf [0, 0, 0, 0, 0, 0, 0, 0, 0, 0, 0, 0, 0, 0, 0, 0, 0, 0, 0, 0, C_CordError, C_BadNumber, C_BadColour, C_BadCord, C_BadBook, C_BadPlace, C_IsWorn, C_NoWay, C_NoDeed, C_BadLine, C_BadKnot, C_BadText], attOf atts⟩ x.1) (clV ⟨clsOf [0, 0, 0, 0, 0, 0, 0, 0, 0, 0, 0, 0, 0, 0, 0, 0, 0, 0, 0, 0, C_CordError, C_BadNumber, C_BadColour, C_BadCord, C_BadBook, C_BadPlace, C_IsWorn, C_NoWay, C_NoDeed, C_BadLine, C_BadKnot, C_BadText], attOf atts⟩ x.2.1) = some x.2.2 := by
    intro x hx
    simp only [kitsO, List.mem_cons, List.not_mem_nil, or_false] at hx
    rcases hx with rfl | rfl | rfl | rfl | rfl | rfl | rfl | rfl | rfl | rfl | rfl | rfl | rfl | rfl | rfl | rfl | rfl | rfl | rfl | rfl | rfl | rfl | rfl | rfl
    · exact kit_own_ hd_BadNumber ty_BadNumber se_BadNumber kr_0
    · exact kit_own_ hd_BadNumber ty_BadNumber se_BadNumber kr_1
    · exact kit_own_ hd_BadColour ty_BadColour se_BadColour kr_2
    · exact kit_own_ hd_BadColour ty_BadColour se_BadColour kr_3
    · exact kit_own_ hd_BadCord ty_BadCord se_BadCord kr_4
    · exact kit_own_ hd_BadCord ty_BadCord se_BadCord kr_5
    · exact kit_own_ hd_BadBook ty_BadBook se_BadBook kr_6
    · exact kit_own_ hd_BadBook ty_BadBook se_BadBook kr_7
    · exact kit_own_ hd_BadPlace ty_BadPlace se_BadPlace kr_8
    · exact kit_own_ hd_BadPlace ty_BadPlace se_BadPlace kr_9
    · exact kit_own_ hd_IsWorn ty_IsWorn se_IsWorn kr_10
    · exact kit_own_ hd_IsWorn ty_IsWorn se_IsWorn kr_11
    · exact kit_own_ hd_NoWay ty_NoWay se_NoWay kr_12
    · exact kit_own_ hd_NoWay ty_NoWay se_NoWay kr_13
    · exact kit_own_ hd_NoDeed ty_NoDeed se_NoDeed kr_14
    · exact kit_own_ hd_NoDeed ty_NoDeed se_NoDeed kr_15
    · exact kit_own_ hd_BadLine ty_BadLine se_BadLine kr_16
    · exact kit_own_ hd_BadLine ty_BadLine se_BadLine kr_17
    · exact kit_own_ hd_BadKnot ty_BadKnot se_BadKnot kr_18
    · exact kit_own_ hd_BadKnot ty_BadKnot se_BadKnot kr_19
    · exact kit_own_ hd_BadText ty_BadText se_BadText kr_20
    · exact kit_own_ hd_BadText ty_BadText se_BadText kr_21
    · exact kit_ty (by decide +kernel)
    · exact kit_own_ty (by decide +kernel) kr_23
  have hIns : ∀ c ∈ own, c < 20 → InsOk K ((⟨clsOf [0, 0, 0, 0, 0, 0, 0, 0, 0, 0, 0, 0, 0, 0, 0, 0, 0, 0, 0, 0, C_CordError, C_BadNumber, C_BadColour, C_BadCord, C_BadBook, C_BadPlace, C_IsWorn, C_NoWay, C_NoDeed, C_BadLine, C_BadKnot, C_BadText], attOf atts⟩ : Tab).cls c) := by
    intro c hc h20
    simp only [own, List.mem_cons, List.not_mem_nil, or_false] at hc
    subst hc
    · exact absurd h20 (by decide)
  have hErr : ∀ c ∈ own, ¬ c < 20 → ErrOk K ((⟨clsOf [0, 0, 0, 0, 0, 0, 0, 0, 0, 0, 0, 0, 0, 0, 0, 0, 0, 0, 0, 0, C_CordError, C_BadNumber, C_BadColour, C_BadCord, C_BadBook, C_BadPlace, C_IsWorn, C_NoWay, C_NoDeed, C_BadLine, C_BadKnot, C_BadText], attOf atts⟩ : Tab).cls c) := by
    intro c hc h20
    simp only [own, List.mem_cons, List.not_mem_nil, or_false] at hc
    subst hc
    · exact errOk_of hd_BadNumber ga_BadNumber gt_BadNumber sb_BadNumber ha_BadNumber g_hn g_htk hm_BadNumber
  have hXm : ExmOk K ⟨clsOf [0, 0, 0, 0, 0, 0, 0, 0, 0, 0, 0, 0, 0, 0, 0, 0, 0, 0, 0, 0, C_CordError, C_BadNumber, C_BadColour, C_BadCord, C_BadBook, C_BadPlace, C_IsWorn, C_NoWay, C_NoDeed, C_BadLine, C_BadKnot, C_BadText], attOf atts⟩ exms := by
    intro x hx
    simp only [exms, List.mem_cons, List.not_mem_nil, or_false] at hx
    subst hx
    · exact PySem.W.exm_ref sb_CordError hd_CordError ty_CordError xs_BadNumber_CordError
  have hNa : NaOk K ⟨clsOf [0, 0, 0, 0, 0, 0, 0, 0, 0, 0, 0, 0, 0, 0, 0, 0, 0, 0, 0, 0, C_CordError, C_BadNumber, C_BadColour, C_BadCord, C_BadBook, C_BadPlace, C_IsWorn, C_NoWay, C_NoDeed, C_BadLine, C_BadKnot, C_BadText], attOf atts⟩ na := by
    exact fun x hx => nomatch hx
  have d0 : DnOk ⟨l.prog, w, K, mg, base, ⟨clsOf [0, 0, 0, 0, 0, 0, 0, 0, 0, 0, 0, 0, 0, 0, 0, 0, 0, 0, 0, 0, C_CordError, C_BadNumber, C_BadColour, C_BadCord, C_BadBook, C_BadPlace, C_IsWorn, C_NoWay, C_NoDeed, C_BadLine, C_BadKnot, C_BadText], attOf atts⟩⟩ 0 D0 := by
    refine ⟨fun p hp => ?_, ⟨kits_app kitsB_kit hkO, hIns, hErr⟩, attOf_inj at2 at1, fun i f h => attOf_pos h, hNa, fun p hp => (nomatch hp), fun p hp => (nomatch hp), hXm⟩
    simp only [D0, List.mem_cons, List.not_mem_nil, or_false] at hp
    rcases hp with rfl | rfl | rfl | rfl | rfl | rfl | rfl | rfl | rfl | rfl | rfl | rfl | rfl | rfl | rfl | rfl | rfl | rfl | rfl | rfl | rfl | rfl | rfl | rfl | rfl | rfl
    · exact gv_int (PySem.W.mg_of X gl zc_ZONE)
    · exact gv_int (PySem.W.mg_of X gl zc_MOST_NUMBER)
    · exact gv_int (PySem.W.mg_of X gl zc_ZONES)
    · exact PySem.W.mg_none_of X gl zb_ValueError
    · exact PySem.W.mg_none_of X gl zb_all
    · exact PySem.W.mg_none_of X gl zb_bool
    · exact PySem.W.mg_none_of X gl zb_enumerate
    · exact PySem.W.mg_none_of X gl zb_int
    · exact PySem.W.mg_none_of X gl zb_isinstance
    · exact PySem.W.mg_none_of X gl zb_len
    · exact PySem.W.mg_none_of X gl zb_list
    · exact PySem.W.mg_none_of X gl zb_min
    · exact PySem.W.mg_none_of X gl zb_range
    · exact PySem.W.mg_none_of X gl zb_repr
    · exact PySem.W.mg_none_of X gl zb_sum
    · exact gv_cls (PySem.W.mg_of X gl aC_CordError)
    · exact gv_cls (PySem.W.mg_of X gl aC_BadColour)
    · exact gv_cls (PySem.W.mg_of X gl aC_BadCord)
    · exact gv_cls (PySem.W.mg_of X gl aC_BadBook)
    · exact gv_cls (PySem.W.mg_of X gl aC_BadPlace)
    · exact gv_cls (PySem.W.mg_of X gl aC_IsWorn)
    · exact gv_cls (PySem.W.mg_of X gl aC_NoWay)
    · exact gv_cls (PySem.W.mg_of X gl aC_NoDeed)
    · exact gv_cls (PySem.W.mg_of X gl aC_BadLine)
    · exact gv_cls (PySem.W.mg_of X gl aC_BadKnot)
    · exact gv_cls (PySem.W.mg_of X gl aC_BadText)
  have d1 : DnOk ⟨l.prog, w, K, mg, base, ⟨clsOf [0, 0, 0, 0, 0, 0, 0, 0, 0, 0, 0, 0, 0, 0, 0, 0, 0, 0, 0, 0, C_CordError, C_BadNumber, C_BadColour, C_BadCord, C_BadBook, C_BadPlace, C_IsWorn, C_NoWay, C_NoDeed, C_BadLine, C_BadKnot, C_BadText], attOf atts⟩⟩ 0 D1 := dk_err d0 (PySem.W.mg_of X gl aC_BadNumber) ⟨xq_BadNumber, kC_BadNumber, sb_BadNumber, ty_BadNumber⟩
  have d2 : DnOk ⟨l.prog, w, K, mg, base, ⟨clsOf [0, 0, 0, 0, 0, 0, 0, 0, 0, 0, 0, 0, 0, 0, 0, 0, 0, 0, 0, 0, C_CordError, C_BadNumber, C_BadColour, C_BadCord, C_BadBook, C_BadPlace, C_IsWorn, C_NoWay, C_NoDeed, C_BadLine, C_BadKnot, C_BadText], attOf atts⟩⟩ 1 D2 := dk_fn d1 F_q_law_state sc_q_law_state rd_q_law_state (PySem.W.mg_of X gl a_q_law_state) b_q_law_state fun _ => rfl
  have d3 : DnOk ⟨l.prog, w, K, mg, base, ⟨clsOf [0, 0, 0, 0, 0, 0, 0, 0, 0, 0, 0, 0, 0, 0, 0, 0, 0, 0, 0, 0, C_CordError, C_BadNumber, C_BadColour, C_BadCord, C_BadBook, C_BadPlace, C_IsWorn, C_NoWay, C_NoDeed, C_BadLine, C_BadKnot, C_BadText], attOf atts⟩⟩ 2 D3 := dk_fn d2 F_q_law_mixed sc_q_law_mixed rd_q_law_mixed (PySem.W.mg_of X gl a_q_law_mixed) b_q_law_mixed fun _ => rfl
  have d4 : DnOk ⟨l.prog, w, K, mg, base, ⟨clsOf [0, 0, 0, 0, 0, 0, 0, 0, 0, 0, 0, 0, 0, 0, 0, 0, 0, 0, 0, 0, C_CordError, C_BadNumber, C_BadColour, C_BadCord, C_BadBook, C_BadPlace, C_IsWorn, C_NoWay, C_NoDeed, C_BadLine, C_BadKnot, C_BadText], attOf atts⟩⟩ 3 D4 := dk_fn d3 F_q_law_take sc_q_law_take rd_q_law_take (PySem.W.mg_of X gl a_q_law_take) b_q_law_take fun _ => rfl
  have d5 : DnOk ⟨l.prog, w, K, mg, base, ⟨clsOf [0, 0, 0, 0, 0, 0, 0, 0, 0, 0, 0, 0, 0, 0, 0, 0, 0, 0, 0, 0, C_CordError, C_BadNumber, C_BadColour, C_BadCord, C_BadBook, C_BadPlace, C_IsWorn, C_NoWay, C_NoDeed, C_BadLine, C_BadKnot, C_BadText], attOf atts⟩⟩ 4 D5 := dk_fn d4 F_q_law_number sc_q_law_number rd_q_law_number (PySem.W.mg_of X gl a_q_law_number) b_q_law_number fun _ => rfl
  have d6 : DnOk ⟨l.prog, w, K, mg, base, ⟨clsOf [0, 0, 0, 0, 0, 0, 0, 0, 0, 0, 0, 0, 0, 0, 0, 0, 0, 0, 0, 0, C_CordError, C_BadNumber, C_BadColour, C_BadCord, C_BadBook, C_BadPlace, C_IsWorn, C_NoWay, C_NoDeed, C_BadLine, C_BadKnot, C_BadText], attOf atts⟩⟩ 5 D6 := dk_fn d5 F_q_law_zone sc_q_law_zone rd_q_law_zone (PySem.W.mg_of X gl a_q_law_zone) b_q_law_zone fun _ => rfl
  have d7 : DnOk ⟨l.prog, w, K, mg, base, ⟨clsOf [0, 0, 0, 0, 0, 0, 0, 0, 0, 0, 0, 0, 0, 0, 0, 0, 0, 0, 0, 0, C_CordError, C_BadNumber, C_BadColour, C_BadCord, C_BadBook, C_BadPlace, C_IsWorn, C_NoWay, C_NoDeed, C_BadLine, C_BadKnot, C_BadText], attOf atts⟩⟩ 6 D7 := dk_fn d6 F_q_law_zones sc_q_law_zones rd_q_law_zones (PySem.W.mg_of X gl a_q_law_zones) b_q_law_zones fun _ => rfl
  have d8 : DnOk ⟨l.prog, w, K, mg, base, ⟨clsOf [0, 0, 0, 0, 0, 0, 0, 0, 0, 0, 0, 0, 0, 0, 0, 0, 0, 0, 0, 0, C_CordError, C_BadNumber, C_BadColour, C_BadCord, C_BadBook, C_BadPlace, C_IsWorn, C_NoWay, C_NoDeed, C_BadLine, C_BadKnot, C_BadText], attOf atts⟩⟩ 7 D8 := dk_fn d7 F_q_is_among sc_q_is_among rd_q_is_among (PySem.W.mg_of X gl a_q_is_among) b_q_is_among fun _ => rfl
  have d9 : DnOk ⟨l.prog, w, K, mg, base, ⟨clsOf [0, 0, 0, 0, 0, 0, 0, 0, 0, 0, 0, 0, 0, 0, 0, 0, 0, 0, 0, 0, C_CordError, C_BadNumber, C_BadColour, C_BadCord, C_BadBook, C_BadPlace, C_IsWorn, C_NoWay, C_NoDeed, C_BadLine, C_BadKnot, C_BadText], attOf atts⟩⟩ 8 D9 := dk_fn d8 F_q_is_number sc_q_is_number rd_q_is_number (PySem.W.mg_of X gl a_q_is_number) b_q_is_number fun _ => rfl
  have d10 : DnOk ⟨l.prog, w, K, mg, base, ⟨clsOf [0, 0, 0, 0, 0, 0, 0, 0, 0, 0, 0, 0, 0, 0, 0, 0, 0, 0, 0, 0, C_CordError, C_BadNumber, C_BadColour, C_BadCord, C_BadBook, C_BadPlace, C_IsWorn, C_NoWay, C_NoDeed, C_BadLine, C_BadKnot, C_BadText], attOf atts⟩⟩ 9 D10 := dk_fn d9 F_q_tied_in sc_q_tied_in rd_q_tied_in (PySem.W.mg_of X gl a_q_tied_in) b_q_tied_in fun _ => rfl
  have d11 : DnOk ⟨l.prog, w, K, mg, base, ⟨clsOf [0, 0, 0, 0, 0, 0, 0, 0, 0, 0, 0, 0, 0, 0, 0, 0, 0, 0, 0, 0, C_CordError, C_BadNumber, C_BadColour, C_BadCord, C_BadBook, C_BadPlace, C_IsWorn, C_NoWay, C_NoDeed, C_BadLine, C_BadKnot, C_BadText], attOf atts⟩⟩ 10 D11 := dk_fn d10 F_q_tied sc_q_tied rd_q_tied (PySem.W.mg_of X gl a_q_tied) b_q_tied fun _ => rfl
  have d12 : DnOk ⟨l.prog, w, K, mg, base, ⟨clsOf [0, 0, 0, 0, 0, 0, 0, 0, 0, 0, 0, 0, 0, 0, 0, 0, 0, 0, 0, 0, C_CordError, C_BadNumber, C_BadColour, C_BadCord, C_BadBook, C_BadPlace, C_IsWorn, C_NoWay, C_NoDeed, C_BadLine, C_BadKnot, C_BadText], attOf atts⟩⟩ 11 D12 := dk_fn d11 F_q_law_alone sc_q_law_alone rd_q_law_alone (PySem.W.mg_of X gl a_q_law_alone) b_q_law_alone fun _ => rfl
  have d13 : DnOk ⟨l.prog, w, K, mg, base, ⟨clsOf [0, 0, 0, 0, 0, 0, 0, 0, 0, 0, 0, 0, 0, 0, 0, 0, 0, 0, 0, 0, C_CordError, C_BadNumber, C_BadColour, C_BadCord, C_BadBook, C_BadPlace, C_IsWorn, C_NoWay, C_NoDeed, C_BadLine, C_BadKnot, C_BadText], attOf atts⟩⟩ 12 D13 := dk_fn d12 F_q_law_caught sc_q_law_caught rd_q_law_caught (PySem.W.mg_of X gl a_q_law_caught) b_q_law_caught fun _ => rfl
  exact fn_sf F_q_law sc_q_law d13 rd_q_law true
end K06
set_option maxHeartbeats 8000000

namespace K06
open PySem L2 KB KL
/-! told knots, with no class in sight -/
inductive Kt where
  | s (h : Int) | l (h t : Int) | e (h : Int)
  deriving DecidableEq
def Kt.told : Kt → D
  | .s h => .tup [.str "single", .int h]
  | .l h t => .tup [.str "long", .int h, .int t]
  | .e h => .tup [.str "eight", .int h]
def Kt.hgt : Kt → Int
  | .s h => h
  | .l h _ => h
  | .e h => h
def Kt.ok : Kt → Prop
  | .s h => 0 ≤ h ∧ h ≤ 119
  | .l h t => (0 ≤ h ∧ h ≤ 119) ∧ 2 ≤ t ∧ t ≤ 9
  | .e h => 0 ≤ h ∧ h ≤ 119
theorem Kt.ok_h {k : Kt} (h : k.ok) : 0 ≤ k.hgt ∧ k.hgt ≤ 119 := by
  cases k with
  | s a => exact h
  | l a b => exact h.1
  | e a => exact h
theorem lg7 {i : Int} (h0 : 0 ≤ i) (h1 : i ≤ 119) : i.natAbs.log2 ≤ 7 := ilog (by omega) (by omega)
theorem Kt.rOk {k : Kt} (h : k.ok) : KB.rOk k.told = true ∧ dp k.told = 1 ∧ wd k.told ≤ 200 := by
  cases k with
  | s a =>
    have := lg7 h.1 h.2
    refine ⟨?_, rfl, ?_⟩
    · show (PyData.strOk "single" && (decide (a.natAbs.log2 < 1920) && true)) = true
      simp only [Bool.and_true, Bool.and_eq_true, decide_eq_true_eq]
      exact ⟨by decide +kernel, by omega⟩
    · show 10 * 6 + 2 + 2 + (a.natAbs.log2 + 3 + 2 + 0) + 3 ≤ 200
      omega
  | l a b =>
    have := lg7 h.1.1 h.1.2
    have := lg7 (i := b) (by have := h.2; omega) (by have := h.2; omega)
    refine ⟨?_, rfl, ?_⟩
    · show (PyData.strOk "long" && (decide (a.natAbs.log2 < 1920) && (decide (b.natAbs.log2 < 1920) && true))) = true
      simp only [Bool.and_true, Bool.and_eq_true, decide_eq_true_eq]
      exact ⟨by decide +kernel, by omega, by omega⟩
    · show 10 * 4 + 2 + 2 + (a.natAbs.log2 + 3 + 2 + (b.natAbs.log2 + 3 + 2 + 0)) + 3 ≤ 200
      omega
  | e a =>
    have := lg7 h.1 h.2
    refine ⟨?_, rfl, ?_⟩
    · show (PyData.strOk "eight" && (decide (a.natAbs.log2 < 1920) && true)) = true
      simp only [Bool.and_true, Bool.and_eq_true, decide_eq_true_eq]
      exact ⟨by decide +kernel, by omega⟩
    · show 10 * 5 + 2 + 2 + (a.natAbs.log2 + 3 + 2 + 0) + 3 ≤ 200
      omega
abbrev tolds (ks : List Kt) : D := .lst (ks.map Kt.told)
theorem tolds_r : ∀ {ks : List Kt}, (∀ k ∈ ks, k.ok) → rOks (ks.map Kt.told) = true ∧ dps (ks.map Kt.told) ≤ 1 ∧ wds (ks.map Kt.told) ≤ 210 * ks.length
  | [], _ => ⟨rfl, by simp [dps], by simp [wds]⟩
  | k :: ks, h => by
    obtain ⟨g1, g2, g3⟩ := Kt.rOk (h k (List.mem_cons_self ..))
    have := tolds_r (ks := ks) fun v hv => h v (List.mem_cons_of_mem _ hv)
    simp only [List.map_cons, rOks, dps, wds, g1, g2, this.1, List.length_cons]
    exact ⟨rfl, by omega, by omega⟩
theorem rep_tolds {ks : List Kt} {st : Sto} (hk : ∀ k ∈ ks, k.ok) (hl : ks.length < 1000) : reprU (.d (tolds ks)) st = .ok (.d (.str (rpD (tolds ks)))) st := by
  obtain ⟨h1, h2, h3⟩ := tolds_r hk
  refine ok_of ?_
  rw [q_repr' (d := tolds ks) (show rOks _ = true from h1) (by show dps _ + 1 ≤ 100; omega) (by show wds _ + 3 ≤ 16777216; omega)]
  exact ⟨rfl, rfl⟩
/-! is it among these -/
def flatK : D → Bool
  | .obj _ _ _ => false
  | .exc _ _ _ => false
  | .scr _ => false
  | _ => true
def amongD (d : D) (lo hi : Int) : Bool := match d with
  | .int i => decide (lo ≤ i) && decide (i ≤ hi)
  | _ => false
section
variable {QU : U → Sto → Prop} {X : Ex → Sto → Prop} {st : Sto} {fz : Bool}
theorem amongD_int {i a b : Int} : amongD (.int i) a b = (decide (a ≤ i) && decide (i ≤ b)) := rfl
theorem among_rule {d : D} {a b : Int} (hd : flatK d = true) (h : QU (.d (.bl (amongD d a b))) st) : EQ (q_is_among fz [.d d, .d (.int a), .d (.int b)] st) QU X := by
  refine q_call rfl ?_
  cases d with
  | obj c fs xs => cases hd
  | exc c fs xs => cases hd
  | scr ns => cases hd
  | int i =>
    simp only [b_is_among, q_pure, q_cvar, q_op1, q_op2, q_nil, q_cons, q_args, q_and, q_or, q_not, q_chain, q_if, q_lst, q_tup, q_tB1, q_tTr, q_tNo, q_tAn, q_tOu, q_tYes, q_sub, q_fdiv, q_mod, q_pow, q_lt, q_le, q_gt, q_ge, q_add, q_mul, q_eqi, q_nei, q_sNil, q_seq, q_sExp, q_ret, q_retN, q_asg, q_sIf, q_put, q_for, q_range1, q_enum, app_get, app_set, q_iseq, seq_str, seq_lst, seq_tup, tru_bl, tru_int, tru_non, q_fin0, q_finX0, EQ_ok, SQ_ok, EQ_bad, SQ_bad, q_dct0, q_dct0f, q_neg, q_add_lst, lookM, Option.bind_some, clsU_obj, Nat.reduceEqDiff, Nat.succ_ne_self, reduceCtorEq, q_eqs, q_nes, q_finS, List.set_set, q_try, q_tryAs, q_raiseC, q_raiseO, q_max, q_min, q_list2, q_str, q_mth, q_lm, q_fld, q_listL, q_listT, q_tupL, q_tupT, env0, List.map_cons, List.map_nil, List.length_cons, List.length_nil, List.length_set, List.length_append, Nat.reduceAdd, Nat.reduceSub, Nat.reduceLT, Nat.reduceLeDiff, Nat.zero_add, List.replicate, List.cons_append, List.nil_append, List.getElem?_cons_zero, List.getElem?_cons_succ, List.set_cons_zero, List.set_cons_succ, newL, newT, closed, Option.map_some, Option.map_none, lim, true_and, and_true, if_true, if_false, Bool.false_eq_true, reduceIte, ite_true, ite_false, q_list1, Bool.not_true, Bool.not_false, Nat.le_refl, Int.reduceLT, Int.reduceLE, Int.reducePow, Int.reduceToNat, Int.reduceNeg, List.nil_append, List.append_nil, beq_self_eq_true, decide_true, decide_false, Bool.and_true, Bool.true_and, Bool.and_false, Bool.false_and, Bool.or_true, Bool.true_or, Bool.or_false, Bool.false_or, ji0_NoneType, ji0_BadNumber, ji1_NoneType, ji1_BadNumber, ji2_NoneType, ji2_BadNumber, ji3_NoneType, ji3_bool, ji3_int, ji3_str, ji3_list, ji3_tuple, ji3_dict, ji3_tuple2, ji4_NoneType, ji4_bool, ji4_int, ji4_str, ji4_list, ji4_tuple, ji4_dict, ji4_tuple2, ji5_NoneType, ji5_bool, ji5_int, ji5_str, ji5_list, ji5_tuple, ji5_dict, ji5_tuple2]
    rw [amongD_int] at h
    cases e : decide (a ≤ i) with
    | false =>
      rw [e] at h
      simpa using h
    | true =>
      rw [e] at h
      simpa using h
  | _ =>
    simp only [b_is_among, q_pure, q_cvar, q_op1, q_op2, q_nil, q_cons, q_args, q_and, q_or, q_not, q_chain, q_if, q_lst, q_tup, q_tB1, q_tTr, q_tNo, q_tAn, q_tOu, q_tYes, q_sub, q_fdiv, q_mod, q_pow, q_lt, q_le, q_gt, q_ge, q_add, q_mul, q_eqi, q_nei, q_sNil, q_seq, q_sExp, q_ret, q_retN, q_asg, q_sIf, q_put, q_for, q_range1, q_enum, app_get, app_set, q_iseq, seq_str, seq_lst, seq_tup, tru_bl, tru_int, tru_non, q_fin0, q_finX0, EQ_ok, SQ_ok, EQ_bad, SQ_bad, q_dct0, q_dct0f, q_neg, q_add_lst, lookM, Option.bind_some, clsU_obj, Nat.reduceEqDiff, Nat.succ_ne_self, reduceCtorEq, q_eqs, q_nes, q_finS, List.set_set, q_try, q_tryAs, q_raiseC, q_raiseO, q_max, q_min, q_list2, q_str, q_mth, q_lm, q_fld, q_listL, q_listT, q_tupL, q_tupT, env0, List.map_cons, List.map_nil, List.length_cons, List.length_nil, List.length_set, List.length_append, Nat.reduceAdd, Nat.reduceSub, Nat.reduceLT, Nat.reduceLeDiff, Nat.zero_add, List.replicate, List.cons_append, List.nil_append, List.getElem?_cons_zero, List.getElem?_cons_succ, List.set_cons_zero, List.set_cons_succ, newL, newT, closed, Option.map_some, Option.map_none, lim, true_and, and_true, if_true, if_false, Bool.false_eq_true, reduceIte, ite_true, ite_false, q_list1, Bool.not_true, Bool.not_false, Nat.le_refl, Int.reduceLT, Int.reduceLE, Int.reducePow, Int.reduceToNat, Int.reduceNeg, List.nil_append, List.append_nil, beq_self_eq_true, decide_true, decide_false, Bool.and_true, Bool.true_and, Bool.and_false, Bool.false_and, Bool.or_true, Bool.true_or, Bool.or_false, Bool.false_or, ji0_NoneType, ji0_BadNumber, ji1_NoneType, ji1_BadNumber, ji2_NoneType, ji2_BadNumber, ji3_NoneType, ji3_bool, ji3_int, ji3_str, ji3_list, ji3_tuple, ji3_dict, ji3_tuple2, ji4_NoneType, ji4_bool, ji4_int, ji4_str, ji4_list, ji4_tuple, ji4_dict, ji4_tuple2, ji5_NoneType, ji5_bool, ji5_int, ji5_str, ji5_list, ji5_tuple, ji5_dict, ji5_tuple2]
    exact h
end
/-- a zone's knots for a digit -/
def zk (z d : Nat) : List Kt := if z = 0 then (if d = 0 then [] else if d = 1 then [.e 0] else [.l 0 d]) else (List.range d).reverse.map fun a => .s (10 * (z : Int) + (a : Nat))
theorem zk_ok {z d : Nat} (hz : z < 12) (hd : d < 10) : ∀ k ∈ zk z d, k.ok := by
  intro k hk
  unfold zk at hk
  split at hk
  · split at hk
    · cases hk
    · split at hk
      · obtain rfl := List.mem_singleton.mp hk
        exact (by omega : 0 ≤ (0 : Int) ∧ (0 : Int) ≤ 119)
      · obtain rfl := List.mem_singleton.mp hk
        exact (by omega : (0 ≤ (0 : Int) ∧ (0 : Int) ≤ 119) ∧ 2 ≤ (d : Int) ∧ (d : Int) ≤ 9)
  · obtain ⟨a, ha, rfl⟩ := List.mem_map.mp hk
    have := List.mem_range.mp (List.mem_reverse.mp ha)
    exact (by omega : 0 ≤ 10 * (z : Int) + (a : Nat) ∧ 10 * (z : Int) + (a : Nat) ≤ 119)
theorem zk_len {z d : Nat} (hd : d < 10) : (zk z d).length ≤ 9 := by
  unfold zk
  split
  · split
    · simp
    · split <;> simp
  · simp
    omega
theorem cmul10 {i : Int} : cMulOk i 10 = true := by
  unfold cMulOk
  have : smallF 10 = true := by decide
  rw [this, Bool.or_true]
theorem cm10 {i : Int} : cMulOk 10 i = true := by
  unfold cMulOk
  have : smallF 10 = true := by decide
  rw [this, Bool.true_or]
section
variable {QU : U → Sto → Prop} {X : Ex → Sto → Prop} {st : Sto} {fz : Bool} {n r : Nat} {o : O}
theorem dwn_range {d : Nat} : dwnU ((d : Int) - 1) d = (List.range d).reverse.map fun a => .d (.int (a : Nat)) := by
  unfold dwnU
  refine List.ext_getElem (by simp) fun i h1 h2 => ?_
  simp only [List.length_map, List.length_range] at h1
  simp only [List.getElem_map, List.getElem_range, List.getElem_reverse, List.length_range]
  congr 2
  omega
theorem tied_in_closed {z d : Nat} (hz : z < 12) (hd : d < 10) : q_tied_in true [.d (.int z), .d (.int d)] st = .ok (.d (tolds (zk z d))) st := by
  refine ok_of (q_call rfl ?_)
  by_cases z0 : z = 0
  · subst z0
    rcases d with _ | _ | d
    · simp only [b_tied_in, q_pure, q_cvar, q_op1, q_op2, q_nil, q_cons, q_args, q_and, q_or, q_not, q_chain, q_if, q_lst, q_tup, q_tB1, q_tTr, q_tNo, q_tAn, q_tOu, q_tYes, q_sub, q_fdiv, q_mod, q_pow, q_lt, q_le, q_gt, q_ge, q_add, q_mul, q_eqi, q_nei, q_sNil, q_seq, q_sExp, q_ret, q_retN, q_asg, q_sIf, q_put, q_for, q_range1, q_enum, app_get, app_set, q_iseq, seq_str, seq_lst, seq_tup, tru_bl, tru_int, tru_non, q_fin0, q_finX0, EQ_ok, SQ_ok, EQ_bad, SQ_bad, q_dct0, q_dct0f, q_neg, q_add_lst, lookM, Option.bind_some, clsU_obj, Nat.reduceEqDiff, Nat.succ_ne_self, reduceCtorEq, q_eqs, q_nes, q_finS, List.set_set, q_try, q_tryAs, q_raiseC, q_raiseO, q_max, q_min, q_list2, q_str, q_mth, q_lm, q_fld, q_listL, q_listT, q_tupL, q_tupT, env0, List.map_cons, List.map_nil, List.length_cons, List.length_nil, List.length_set, List.length_append, Nat.reduceAdd, Nat.reduceSub, Nat.reduceLT, Nat.reduceLeDiff, Nat.zero_add, List.replicate, List.cons_append, List.nil_append, List.getElem?_cons_zero, List.getElem?_cons_succ, List.set_cons_zero, List.set_cons_succ, newL, newT, closed, Option.map_some, Option.map_none, lim, true_and, and_true, if_true, if_false, Bool.false_eq_true, reduceIte, ite_true, ite_false, q_list1, Bool.not_true, Bool.not_false, Nat.le_refl, Int.reduceLT, Int.reduceLE, Int.reducePow, Int.reduceToNat, Int.reduceNeg, List.nil_append, List.append_nil, beq_self_eq_true, decide_true, decide_false, Bool.and_true, Bool.true_and, Bool.and_false, Bool.false_and, Bool.or_true, Bool.true_or, Bool.or_false, Bool.false_or, ji0_NoneType, ji0_BadNumber, ji1_NoneType, ji1_BadNumber, ji2_NoneType, ji2_BadNumber, ji3_NoneType, ji3_bool, ji3_int, ji3_str, ji3_list, ji3_tuple, ji3_dict, ji3_tuple2, ji4_NoneType, ji4_bool, ji4_int, ji4_str, ji4_list, ji4_tuple, ji4_dict, ji4_tuple2, ji5_NoneType, ji5_bool, ji5_int, ji5_str, ji5_list, ji5_tuple, ji5_dict, ji5_tuple2]
      rfl
    · simp only [b_tied_in, q_pure, q_cvar, q_op1, q_op2, q_nil, q_cons, q_args, q_and, q_or, q_not, q_chain, q_if, q_lst, q_tup, q_tB1, q_tTr, q_tNo, q_tAn, q_tOu, q_tYes, q_sub, q_fdiv, q_mod, q_pow, q_lt, q_le, q_gt, q_ge, q_add, q_mul, q_eqi, q_nei, q_sNil, q_seq, q_sExp, q_ret, q_retN, q_asg, q_sIf, q_put, q_for, q_range1, q_enum, app_get, app_set, q_iseq, seq_str, seq_lst, seq_tup, tru_bl, tru_int, tru_non, q_fin0, q_finX0, EQ_ok, SQ_ok, EQ_bad, SQ_bad, q_dct0, q_dct0f, q_neg, q_add_lst, lookM, Option.bind_some, clsU_obj, Nat.reduceEqDiff, Nat.succ_ne_self, reduceCtorEq, q_eqs, q_nes, q_finS, List.set_set, q_try, q_tryAs, q_raiseC, q_raiseO, q_max, q_min, q_list2, q_str, q_mth, q_lm, q_fld, q_listL, q_listT, q_tupL, q_tupT, env0, List.map_cons, List.map_nil, List.length_cons, List.length_nil, List.length_set, List.length_append, Nat.reduceAdd, Nat.reduceSub, Nat.reduceLT, Nat.reduceLeDiff, Nat.zero_add, List.replicate, List.cons_append, List.nil_append, List.getElem?_cons_zero, List.getElem?_cons_succ, List.set_cons_zero, List.set_cons_succ, newL, newT, closed, Option.map_some, Option.map_none, lim, true_and, and_true, if_true, if_false, Bool.false_eq_true, reduceIte, ite_true, ite_false, q_list1, Bool.not_true, Bool.not_false, Nat.le_refl, Int.reduceLT, Int.reduceLE, Int.reducePow, Int.reduceToNat, Int.reduceNeg, List.nil_append, List.append_nil, beq_self_eq_true, decide_true, decide_false, Bool.and_true, Bool.true_and, Bool.and_false, Bool.false_and, Bool.or_true, Bool.true_or, Bool.or_false, Bool.false_or, ji0_NoneType, ji0_BadNumber, ji1_NoneType, ji1_BadNumber, ji2_NoneType, ji2_BadNumber, ji3_NoneType, ji3_bool, ji3_int, ji3_str, ji3_list, ji3_tuple, ji3_dict, ji3_tuple2, ji4_NoneType, ji4_bool, ji4_int, ji4_str, ji4_list, ji4_tuple, ji4_dict, ji4_tuple2, ji5_NoneType, ji5_bool, ji5_int, ji5_str, ji5_list, ji5_tuple, ji5_dict, ji5_tuple2]
      rfl
    · have e1 : (((d + 1 + 1 : Nat) : Int) == 0) = false := by
        rw [beq_eq_false_iff_ne]
        omega
      have e2 : (((d + 1 + 1 : Nat) : Int) == 1) = false := by
        rw [beq_eq_false_iff_ne]
        omega
      simp only [b_tied_in, e1, e2, q_pure, q_cvar, q_op1, q_op2, q_nil, q_cons, q_args, q_and, q_or, q_not, q_chain, q_if, q_lst, q_tup, q_tB1, q_tTr, q_tNo, q_tAn, q_tOu, q_tYes, q_sub, q_fdiv, q_mod, q_pow, q_lt, q_le, q_gt, q_ge, q_add, q_mul, q_eqi, q_nei, q_sNil, q_seq, q_sExp, q_ret, q_retN, q_asg, q_sIf, q_put, q_for, q_range1, q_enum, app_get, app_set, q_iseq, seq_str, seq_lst, seq_tup, tru_bl, tru_int, tru_non, q_fin0, q_finX0, EQ_ok, SQ_ok, EQ_bad, SQ_bad, q_dct0, q_dct0f, q_neg, q_add_lst, lookM, Option.bind_some, clsU_obj, Nat.reduceEqDiff, Nat.succ_ne_self, reduceCtorEq, q_eqs, q_nes, q_finS, List.set_set, q_try, q_tryAs, q_raiseC, q_raiseO, q_max, q_min, q_list2, q_str, q_mth, q_lm, q_fld, q_listL, q_listT, q_tupL, q_tupT, env0, List.map_cons, List.map_nil, List.length_cons, List.length_nil, List.length_set, List.length_append, Nat.reduceAdd, Nat.reduceSub, Nat.reduceLT, Nat.reduceLeDiff, Nat.zero_add, List.replicate, List.cons_append, List.nil_append, List.getElem?_cons_zero, List.getElem?_cons_succ, List.set_cons_zero, List.set_cons_succ, newL, newT, closed, Option.map_some, Option.map_none, lim, true_and, and_true, if_true, if_false, Bool.false_eq_true, reduceIte, ite_true, ite_false, q_list1, Bool.not_true, Bool.not_false, Nat.le_refl, Int.reduceLT, Int.reduceLE, Int.reducePow, Int.reduceToNat, Int.reduceNeg, List.nil_append, List.append_nil, beq_self_eq_true, decide_true, decide_false, Bool.and_true, Bool.true_and, Bool.and_false, Bool.false_and, Bool.or_true, Bool.true_or, Bool.or_false, Bool.false_or, ji0_NoneType, ji0_BadNumber, ji1_NoneType, ji1_BadNumber, ji2_NoneType, ji2_BadNumber, ji3_NoneType, ji3_bool, ji3_int, ji3_str, ji3_list, ji3_tuple, ji3_dict, ji3_tuple2, ji4_NoneType, ji4_bool, ji4_int, ji4_str, ji4_list, ji4_tuple, ji4_dict, ji4_tuple2, ji5_NoneType, ji5_bool, ji5_int, ji5_str, ji5_list, ji5_tuple, ji5_dict, ji5_tuple2]
      rfl
  · have e0 : decide ((0 : Int) < (z : Int)) = true := decide_eq_true (by omega)
    simp only [b_tied_in, e0, q_pure, q_cvar, q_op1, q_op2, q_nil, q_cons, q_args, q_and, q_or, q_not, q_chain, q_if, q_lst, q_tup, q_tB1, q_tTr, q_tNo, q_tAn, q_tOu, q_tYes, q_sub, q_fdiv, q_mod, q_pow, q_lt, q_le, q_gt, q_ge, q_add, q_mul, q_eqi, q_nei, q_sNil, q_seq, q_sExp, q_ret, q_retN, q_asg, q_sIf, q_put, q_for, q_range1, q_enum, app_get, app_set, q_iseq, seq_str, seq_lst, seq_tup, tru_bl, tru_int, tru_non, q_fin0, q_finX0, EQ_ok, SQ_ok, EQ_bad, SQ_bad, q_dct0, q_dct0f, q_neg, q_add_lst, lookM, Option.bind_some, clsU_obj, Nat.reduceEqDiff, Nat.succ_ne_self, reduceCtorEq, q_eqs, q_nes, q_finS, List.set_set, q_try, q_tryAs, q_raiseC, q_raiseO, q_max, q_min, q_list2, q_str, q_mth, q_lm, q_fld, q_listL, q_listT, q_tupL, q_tupT, env0, List.map_cons, List.map_nil, List.length_cons, List.length_nil, List.length_set, List.length_append, Nat.reduceAdd, Nat.reduceSub, Nat.reduceLT, Nat.reduceLeDiff, Nat.zero_add, List.replicate, List.cons_append, List.nil_append, List.getElem?_cons_zero, List.getElem?_cons_succ, List.set_cons_zero, List.set_cons_succ, newL, newT, closed, Option.map_some, Option.map_none, lim, true_and, and_true, if_true, if_false, Bool.false_eq_true, reduceIte, ite_true, ite_false, q_list1, Bool.not_true, Bool.not_false, Nat.le_refl, Int.reduceLT, Int.reduceLE, Int.reducePow, Int.reduceToNat, Int.reduceNeg, List.nil_append, List.append_nil, beq_self_eq_true, decide_true, decide_false, Bool.and_true, Bool.true_and, Bool.and_false, Bool.false_and, Bool.or_true, Bool.true_or, Bool.or_false, Bool.false_or, ji0_NoneType, ji0_BadNumber, ji1_NoneType, ji1_BadNumber, ji2_NoneType, ji2_BadNumber, ji3_NoneType, ji3_bool, ji3_int, ji3_str, ji3_list, ji3_tuple, ji3_dict, ji3_tuple2, ji4_NoneType, ji4_bool, ji4_int, ji4_str, ji4_list, ji4_tuple, ji4_dict, ji4_tuple2, ji5_NoneType, ji5_bool, ji5_int, ji5_str, ji5_list, ji5_tuple, ji5_dict, ji5_tuple2]
    have ez : zk z d = (List.range d).reverse.map fun a => .s (10 * (z : Int) + (a : Nat)) := if_neg z0
    refine q_lc (fun u => match u with
      | .d (.int a) => some (Kt.told (.s (10 * (z : Int) + a)))
      | _ => none) ?_
    have i1 : inR ((d : Int) - 1) = true := by
      unfold inR
      rw [decide_eq_true (by omega), decide_eq_true (by omega)]
      rfl
    rw [q_range3 (i := (d : Int) - 1) (j := -1) (by rfl) i1 (by rfl)]
    have e10 : dwnU ((d : Int) - 1) ((d : Int) - 1 - -1).toNat = (List.range d).reverse.map fun a => .d (.int (a : Nat)) := by
      rw [show ((d : Int) - 1 - -1).toNat = d by omega]
      exact dwn_range
    rw [e10]
    have ef : (((List.range d).reverse.map fun a => U.d (.int (a : Nat))).filterMap fun u => match u with
      | .d (.int a) => some (Kt.told (.s (10 * (z : Int) + a)))
      | _ => none) = (zk z d).map Kt.told := by
      rw [ez, List.filterMap_map, List.map_map]
      generalize (List.range d).reverse = l
      induction l with
      | nil => rfl
      | cons a l ih =>
        rw [List.filterMap_cons, ih]
        rfl
    rw [ef]
    refine ⟨fun _ => rfl, by rw [List.length_map, List.length_reverse, List.length_range]; show _ ≤ 16777216; omega, fun u hu => ?_, ?_⟩
    · obtain ⟨a, ha, rfl⟩ := List.mem_map.mp hu
      refine ⟨[some (.d (.int z)), some (.d (.int d)), some (.d (.int (a : Nat)))], rfl, fun acc => ?_⟩
      simp only [cm10, q_pure, q_cvar, q_op1, q_op2, q_nil, q_cons, q_args, q_and, q_or, q_not, q_chain, q_if, q_lst, q_tup, q_tB1, q_tTr, q_tNo, q_tAn, q_tOu, q_tYes, q_sub, q_fdiv, q_mod, q_pow, q_lt, q_le, q_gt, q_ge, q_add, q_mul, q_eqi, q_nei, q_sNil, q_seq, q_sExp, q_ret, q_retN, q_asg, q_sIf, q_put, q_for, q_range1, q_enum, app_get, app_set, q_iseq, seq_str, seq_lst, seq_tup, tru_bl, tru_int, tru_non, q_fin0, q_finX0, EQ_ok, SQ_ok, EQ_bad, SQ_bad, q_dct0, q_dct0f, q_neg, q_add_lst, lookM, Option.bind_some, clsU_obj, Nat.reduceEqDiff, Nat.succ_ne_self, reduceCtorEq, q_eqs, q_nes, q_finS, List.set_set, q_try, q_tryAs, q_raiseC, q_raiseO, q_max, q_min, q_list2, q_str, q_mth, q_lm, q_fld, q_listL, q_listT, q_tupL, q_tupT, env0, List.map_cons, List.map_nil, List.length_cons, List.length_nil, List.length_set, List.length_append, Nat.reduceAdd, Nat.reduceSub, Nat.reduceLT, Nat.reduceLeDiff, Nat.zero_add, List.replicate, List.cons_append, List.nil_append, List.getElem?_cons_zero, List.getElem?_cons_succ, List.set_cons_zero, List.set_cons_succ, newL, newT, closed, Option.map_some, Option.map_none, lim, true_and, and_true, if_true, if_false, Bool.false_eq_true, reduceIte, ite_true, ite_false, q_list1, Bool.not_true, Bool.not_false, Nat.le_refl, Int.reduceLT, Int.reduceLE, Int.reducePow, Int.reduceToNat, Int.reduceNeg, List.nil_append, List.append_nil, beq_self_eq_true, decide_true, decide_false, Bool.and_true, Bool.true_and, Bool.and_false, Bool.false_and, Bool.or_true, Bool.true_or, Bool.or_false, Bool.false_or, ji0_NoneType, ji0_BadNumber, ji1_NoneType, ji1_BadNumber, ji2_NoneType, ji2_BadNumber, ji3_NoneType, ji3_bool, ji3_int, ji3_str, ji3_list, ji3_tuple, ji3_dict, ji3_tuple2, ji4_NoneType, ji4_bool, ji4_int, ji4_str, ji4_list, ji4_tuple, ji4_dict, ji4_tuple2, ji5_NoneType, ji5_bool, ji5_int, ji5_str, ji5_list, ji5_tuple, ji5_dict, ji5_tuple2]
      exact ⟨_, rfl, rfl⟩
    · simp only [q_pure, q_cvar, q_op1, q_op2, q_nil, q_cons, q_args, q_and, q_or, q_not, q_chain, q_if, q_lst, q_tup, q_tB1, q_tTr, q_tNo, q_tAn, q_tOu, q_tYes, q_sub, q_fdiv, q_mod, q_pow, q_lt, q_le, q_gt, q_ge, q_add, q_mul, q_eqi, q_nei, q_sNil, q_seq, q_sExp, q_ret, q_retN, q_asg, q_sIf, q_put, q_for, q_range1, q_enum, app_get, app_set, q_iseq, seq_str, seq_lst, seq_tup, tru_bl, tru_int, tru_non, q_fin0, q_finX0, EQ_ok, SQ_ok, EQ_bad, SQ_bad, q_dct0, q_dct0f, q_neg, q_add_lst, lookM, Option.bind_some, clsU_obj, Nat.reduceEqDiff, Nat.succ_ne_self, reduceCtorEq, q_eqs, q_nes, q_finS, List.set_set, q_try, q_tryAs, q_raiseC, q_raiseO, q_max, q_min, q_list2, q_str, q_mth, q_lm, q_fld, q_listL, q_listT, q_tupL, q_tupT, env0, List.map_cons, List.map_nil, List.length_cons, List.length_nil, List.length_set, List.length_append, Nat.reduceAdd, Nat.reduceSub, Nat.reduceLT, Nat.reduceLeDiff, Nat.zero_add, List.replicate, List.cons_append, List.nil_append, List.getElem?_cons_zero, List.getElem?_cons_succ, List.set_cons_zero, List.set_cons_succ, newL, newT, closed, Option.map_some, Option.map_none, lim, true_and, and_true, if_true, if_false, Bool.false_eq_true, reduceIte, ite_true, ite_false, q_list1, Bool.not_true, Bool.not_false, Nat.le_refl, Int.reduceLT, Int.reduceLE, Int.reducePow, Int.reduceToNat, Int.reduceNeg, List.nil_append, List.append_nil, beq_self_eq_true, decide_true, decide_false, Bool.and_true, Bool.true_and, Bool.and_false, Bool.false_and, Bool.or_true, Bool.true_or, Bool.or_false, Bool.false_or, ji0_NoneType, ji0_BadNumber, ji1_NoneType, ji1_BadNumber, ji2_NoneType, ji2_BadNumber, ji3_NoneType, ji3_bool, ji3_int, ji3_str, ji3_list, ji3_tuple, ji3_dict, ji3_tuple2, ji4_NoneType, ji4_bool, ji4_int, ji4_str, ji4_list, ji4_tuple, ji4_dict, ji4_tuple2, ji5_NoneType, ji5_bool, ji5_int, ji5_str, ji5_list, ji5_tuple, ji5_dict, ji5_tuple2]
      try exact ⟨rfl, rfl⟩
theorem tied_in_open {z d : Nat} (hz : z < 12) (hd : d < 10) : q_tied_in false [.d (.int z), .d (.int d)] st = .ok (.c st.length) (st ++ [.lst (((zk z d).map Kt.told).map .d)]) := by
  refine ok_of (q_call rfl ?_)
  by_cases z0 : z = 0
  · subst z0
    rcases d with _ | _ | d
    · simp only [b_tied_in, q_pure, q_cvar, q_op1, q_op2, q_nil, q_cons, q_args, q_and, q_or, q_not, q_chain, q_if, q_lst, q_tup, q_tB1, q_tTr, q_tNo, q_tAn, q_tOu, q_tYes, q_sub, q_fdiv, q_mod, q_pow, q_lt, q_le, q_gt, q_ge, q_add, q_mul, q_eqi, q_nei, q_sNil, q_seq, q_sExp, q_ret, q_retN, q_asg, q_sIf, q_put, q_for, q_range1, q_enum, app_get, app_set, q_iseq, seq_str, seq_lst, seq_tup, tru_bl, tru_int, tru_non, q_fin0, q_finX0, EQ_ok, SQ_ok, EQ_bad, SQ_bad, q_dct0, q_dct0f, q_neg, q_add_lst, lookM, Option.bind_some, clsU_obj, Nat.reduceEqDiff, Nat.succ_ne_self, reduceCtorEq, q_eqs, q_nes, q_finS, List.set_set, q_try, q_tryAs, q_raiseC, q_raiseO, q_max, q_min, q_list2, q_str, q_mth, q_lm, q_fld, q_listL, q_listT, q_tupL, q_tupT, env0, List.map_cons, List.map_nil, List.length_cons, List.length_nil, List.length_set, List.length_append, Nat.reduceAdd, Nat.reduceSub, Nat.reduceLT, Nat.reduceLeDiff, Nat.zero_add, List.replicate, List.cons_append, List.nil_append, List.getElem?_cons_zero, List.getElem?_cons_succ, List.set_cons_zero, List.set_cons_succ, newL, newT, closed, Option.map_some, Option.map_none, lim, true_and, and_true, if_true, if_false, Bool.false_eq_true, reduceIte, ite_true, ite_false, q_list1, Bool.not_true, Bool.not_false, Nat.le_refl, Int.reduceLT, Int.reduceLE, Int.reducePow, Int.reduceToNat, Int.reduceNeg, List.nil_append, List.append_nil, beq_self_eq_true, decide_true, decide_false, Bool.and_true, Bool.true_and, Bool.and_false, Bool.false_and, Bool.or_true, Bool.true_or, Bool.or_false, Bool.false_or, ji0_NoneType, ji0_BadNumber, ji1_NoneType, ji1_BadNumber, ji2_NoneType, ji2_BadNumber, ji3_NoneType, ji3_bool, ji3_int, ji3_str, ji3_list, ji3_tuple, ji3_dict, ji3_tuple2, ji4_NoneType, ji4_bool, ji4_int, ji4_str, ji4_list, ji4_tuple, ji4_dict, ji4_tuple2, ji5_NoneType, ji5_bool, ji5_int, ji5_str, ji5_list, ji5_tuple, ji5_dict, ji5_tuple2]
      refine Eq.mpr (q_fin_keep (Nat.le_refl _) (by simp)) ⟨rfl, ?_⟩
      rfl
    · simp only [b_tied_in, q_pure, q_cvar, q_op1, q_op2, q_nil, q_cons, q_args, q_and, q_or, q_not, q_chain, q_if, q_lst, q_tup, q_tB1, q_tTr, q_tNo, q_tAn, q_tOu, q_tYes, q_sub, q_fdiv, q_mod, q_pow, q_lt, q_le, q_gt, q_ge, q_add, q_mul, q_eqi, q_nei, q_sNil, q_seq, q_sExp, q_ret, q_retN, q_asg, q_sIf, q_put, q_for, q_range1, q_enum, app_get, app_set, q_iseq, seq_str, seq_lst, seq_tup, tru_bl, tru_int, tru_non, q_fin0, q_finX0, EQ_ok, SQ_ok, EQ_bad, SQ_bad, q_dct0, q_dct0f, q_neg, q_add_lst, lookM, Option.bind_some, clsU_obj, Nat.reduceEqDiff, Nat.succ_ne_self, reduceCtorEq, q_eqs, q_nes, q_finS, List.set_set, q_try, q_tryAs, q_raiseC, q_raiseO, q_max, q_min, q_list2, q_str, q_mth, q_lm, q_fld, q_listL, q_listT, q_tupL, q_tupT, env0, List.map_cons, List.map_nil, List.length_cons, List.length_nil, List.length_set, List.length_append, Nat.reduceAdd, Nat.reduceSub, Nat.reduceLT, Nat.reduceLeDiff, Nat.zero_add, List.replicate, List.cons_append, List.nil_append, List.getElem?_cons_zero, List.getElem?_cons_succ, List.set_cons_zero, List.set_cons_succ, newL, newT, closed, Option.map_some, Option.map_none, lim, true_and, and_true, if_true, if_false, Bool.false_eq_true, reduceIte, ite_true, ite_false, q_list1, Bool.not_true, Bool.not_false, Nat.le_refl, Int.reduceLT, Int.reduceLE, Int.reducePow, Int.reduceToNat, Int.reduceNeg, List.nil_append, List.append_nil, beq_self_eq_true, decide_true, decide_false, Bool.and_true, Bool.true_and, Bool.and_false, Bool.false_and, Bool.or_true, Bool.true_or, Bool.or_false, Bool.false_or, ji0_NoneType, ji0_BadNumber, ji1_NoneType, ji1_BadNumber, ji2_NoneType, ji2_BadNumber, ji3_NoneType, ji3_bool, ji3_int, ji3_str, ji3_list, ji3_tuple, ji3_dict, ji3_tuple2, ji4_NoneType, ji4_bool, ji4_int, ji4_str, ji4_list, ji4_tuple, ji4_dict, ji4_tuple2, ji5_NoneType, ji5_bool, ji5_int, ji5_str, ji5_list, ji5_tuple, ji5_dict, ji5_tuple2]
      refine Eq.mpr (q_fin_keep (Nat.le_refl _) (by simp)) ⟨rfl, ?_⟩
      rfl
    · have e1 : (((d + 1 + 1 : Nat) : Int) == 0) = false := by
        rw [beq_eq_false_iff_ne]
        omega
      have e2 : (((d + 1 + 1 : Nat) : Int) == 1) = false := by
        rw [beq_eq_false_iff_ne]
        omega
      simp only [b_tied_in, e1, e2, q_pure, q_cvar, q_op1, q_op2, q_nil, q_cons, q_args, q_and, q_or, q_not, q_chain, q_if, q_lst, q_tup, q_tB1, q_tTr, q_tNo, q_tAn, q_tOu, q_tYes, q_sub, q_fdiv, q_mod, q_pow, q_lt, q_le, q_gt, q_ge, q_add, q_mul, q_eqi, q_nei, q_sNil, q_seq, q_sExp, q_ret, q_retN, q_asg, q_sIf, q_put, q_for, q_range1, q_enum, app_get, app_set, q_iseq, seq_str, seq_lst, seq_tup, tru_bl, tru_int, tru_non, q_fin0, q_finX0, EQ_ok, SQ_ok, EQ_bad, SQ_bad, q_dct0, q_dct0f, q_neg, q_add_lst, lookM, Option.bind_some, clsU_obj, Nat.reduceEqDiff, Nat.succ_ne_self, reduceCtorEq, q_eqs, q_nes, q_finS, List.set_set, q_try, q_tryAs, q_raiseC, q_raiseO, q_max, q_min, q_list2, q_str, q_mth, q_lm, q_fld, q_listL, q_listT, q_tupL, q_tupT, env0, List.map_cons, List.map_nil, List.length_cons, List.length_nil, List.length_set, List.length_append, Nat.reduceAdd, Nat.reduceSub, Nat.reduceLT, Nat.reduceLeDiff, Nat.zero_add, List.replicate, List.cons_append, List.nil_append, List.getElem?_cons_zero, List.getElem?_cons_succ, List.set_cons_zero, List.set_cons_succ, newL, newT, closed, Option.map_some, Option.map_none, lim, true_and, and_true, if_true, if_false, Bool.false_eq_true, reduceIte, ite_true, ite_false, q_list1, Bool.not_true, Bool.not_false, Nat.le_refl, Int.reduceLT, Int.reduceLE, Int.reducePow, Int.reduceToNat, Int.reduceNeg, List.nil_append, List.append_nil, beq_self_eq_true, decide_true, decide_false, Bool.and_true, Bool.true_and, Bool.and_false, Bool.false_and, Bool.or_true, Bool.true_or, Bool.or_false, Bool.false_or, ji0_NoneType, ji0_BadNumber, ji1_NoneType, ji1_BadNumber, ji2_NoneType, ji2_BadNumber, ji3_NoneType, ji3_bool, ji3_int, ji3_str, ji3_list, ji3_tuple, ji3_dict, ji3_tuple2, ji4_NoneType, ji4_bool, ji4_int, ji4_str, ji4_list, ji4_tuple, ji4_dict, ji4_tuple2, ji5_NoneType, ji5_bool, ji5_int, ji5_str, ji5_list, ji5_tuple, ji5_dict, ji5_tuple2]
      refine Eq.mpr (q_fin_keep (Nat.le_refl _) (by simp)) ⟨rfl, ?_⟩
      rfl
  · have e0 : decide ((0 : Int) < (z : Int)) = true := decide_eq_true (by omega)
    simp only [b_tied_in, e0, q_pure, q_cvar, q_op1, q_op2, q_nil, q_cons, q_args, q_and, q_or, q_not, q_chain, q_if, q_lst, q_tup, q_tB1, q_tTr, q_tNo, q_tAn, q_tOu, q_tYes, q_sub, q_fdiv, q_mod, q_pow, q_lt, q_le, q_gt, q_ge, q_add, q_mul, q_eqi, q_nei, q_sNil, q_seq, q_sExp, q_ret, q_retN, q_asg, q_sIf, q_put, q_for, q_range1, q_enum, app_get, app_set, q_iseq, seq_str, seq_lst, seq_tup, tru_bl, tru_int, tru_non, q_fin0, q_finX0, EQ_ok, SQ_ok, EQ_bad, SQ_bad, q_dct0, q_dct0f, q_neg, q_add_lst, lookM, Option.bind_some, clsU_obj, Nat.reduceEqDiff, Nat.succ_ne_self, reduceCtorEq, q_eqs, q_nes, q_finS, List.set_set, q_try, q_tryAs, q_raiseC, q_raiseO, q_max, q_min, q_list2, q_str, q_mth, q_lm, q_fld, q_listL, q_listT, q_tupL, q_tupT, env0, List.map_cons, List.map_nil, List.length_cons, List.length_nil, List.length_set, List.length_append, Nat.reduceAdd, Nat.reduceSub, Nat.reduceLT, Nat.reduceLeDiff, Nat.zero_add, List.replicate, List.cons_append, List.nil_append, List.getElem?_cons_zero, List.getElem?_cons_succ, List.set_cons_zero, List.set_cons_succ, newL, newT, closed, Option.map_some, Option.map_none, lim, true_and, and_true, if_true, if_false, Bool.false_eq_true, reduceIte, ite_true, ite_false, q_list1, Bool.not_true, Bool.not_false, Nat.le_refl, Int.reduceLT, Int.reduceLE, Int.reducePow, Int.reduceToNat, Int.reduceNeg, List.nil_append, List.append_nil, beq_self_eq_true, decide_true, decide_false, Bool.and_true, Bool.true_and, Bool.and_false, Bool.false_and, Bool.or_true, Bool.true_or, Bool.or_false, Bool.false_or, ji0_NoneType, ji0_BadNumber, ji1_NoneType, ji1_BadNumber, ji2_NoneType, ji2_BadNumber, ji3_NoneType, ji3_bool, ji3_int, ji3_str, ji3_list, ji3_tuple, ji3_dict, ji3_tuple2, ji4_NoneType, ji4_bool, ji4_int, ji4_str, ji4_list, ji4_tuple, ji4_dict, ji4_tuple2, ji5_NoneType, ji5_bool, ji5_int, ji5_str, ji5_list, ji5_tuple, ji5_dict, ji5_tuple2]
    have ez : zk z d = (List.range d).reverse.map fun a => .s (10 * (z : Int) + (a : Nat)) := if_neg z0
    refine q_lcF (fun u => match u with
      | .d (.int a) => some (Kt.told (.s (10 * (z : Int) + a)))
      | _ => none) ?_
    have i1 : inR ((d : Int) - 1) = true := by
      unfold inR
      rw [decide_eq_true (by omega), decide_eq_true (by omega)]
      rfl
    rw [q_range3 (i := (d : Int) - 1) (j := -1) (by rfl) i1 (by rfl)]
    have e10 : dwnU ((d : Int) - 1) ((d : Int) - 1 - -1).toNat = (List.range d).reverse.map fun a => .d (.int (a : Nat)) := by
      rw [show ((d : Int) - 1 - -1).toNat = d by omega]
      exact dwn_range
    rw [e10]
    have ef : (((List.range d).reverse.map fun a => U.d (.int (a : Nat))).filterMap fun u => match u with
      | .d (.int a) => some (Kt.told (.s (10 * (z : Int) + a)))
      | _ => none) = (zk z d).map Kt.told := by
      rw [ez, List.filterMap_map, List.map_map]
      generalize (List.range d).reverse = l
      induction l with
      | nil => rfl
      | cons a l ih =>
        rw [List.filterMap_cons, ih]
        rfl
    rw [ef]
    refine ⟨fun _ => rfl, by rw [List.length_map, List.length_reverse, List.length_range]; show _ ≤ 16777216; omega, fun u hu => ?_, ?_⟩
    · obtain ⟨a, ha, rfl⟩ := List.mem_map.mp hu
      refine ⟨[some (.d (.int z)), some (.d (.int d)), some (.d (.int (a : Nat)))], rfl, fun acc => ?_⟩
      simp only [cm10, q_pure, q_cvar, q_op1, q_op2, q_nil, q_cons, q_args, q_and, q_or, q_not, q_chain, q_if, q_lst, q_tup, q_tB1, q_tTr, q_tNo, q_tAn, q_tOu, q_tYes, q_sub, q_fdiv, q_mod, q_pow, q_lt, q_le, q_gt, q_ge, q_add, q_mul, q_eqi, q_nei, q_sNil, q_seq, q_sExp, q_ret, q_retN, q_asg, q_sIf, q_put, q_for, q_range1, q_enum, app_get, app_set, q_iseq, seq_str, seq_lst, seq_tup, tru_bl, tru_int, tru_non, q_fin0, q_finX0, EQ_ok, SQ_ok, EQ_bad, SQ_bad, q_dct0, q_dct0f, q_neg, q_add_lst, lookM, Option.bind_some, clsU_obj, Nat.reduceEqDiff, Nat.succ_ne_self, reduceCtorEq, q_eqs, q_nes, q_finS, List.set_set, q_try, q_tryAs, q_raiseC, q_raiseO, q_max, q_min, q_list2, q_str, q_mth, q_lm, q_fld, q_listL, q_listT, q_tupL, q_tupT, env0, List.map_cons, List.map_nil, List.length_cons, List.length_nil, List.length_set, List.length_append, Nat.reduceAdd, Nat.reduceSub, Nat.reduceLT, Nat.reduceLeDiff, Nat.zero_add, List.replicate, List.cons_append, List.nil_append, List.getElem?_cons_zero, List.getElem?_cons_succ, List.set_cons_zero, List.set_cons_succ, newL, newT, closed, Option.map_some, Option.map_none, lim, true_and, and_true, if_true, if_false, Bool.false_eq_true, reduceIte, ite_true, ite_false, q_list1, Bool.not_true, Bool.not_false, Nat.le_refl, Int.reduceLT, Int.reduceLE, Int.reducePow, Int.reduceToNat, Int.reduceNeg, List.nil_append, List.append_nil, beq_self_eq_true, decide_true, decide_false, Bool.and_true, Bool.true_and, Bool.and_false, Bool.false_and, Bool.or_true, Bool.true_or, Bool.or_false, Bool.false_or, ji0_NoneType, ji0_BadNumber, ji1_NoneType, ji1_BadNumber, ji2_NoneType, ji2_BadNumber, ji3_NoneType, ji3_bool, ji3_int, ji3_str, ji3_list, ji3_tuple, ji3_dict, ji3_tuple2, ji4_NoneType, ji4_bool, ji4_int, ji4_str, ji4_list, ji4_tuple, ji4_dict, ji4_tuple2, ji5_NoneType, ji5_bool, ji5_int, ji5_str, ji5_list, ji5_tuple, ji5_dict, ji5_tuple2]
      exact ⟨_, rfl, rfl⟩
    · refine Eq.mpr (q_fin_keep (Nat.le_refl _) (by simp)) ⟨rfl, ?_⟩
      rfl
theorem lenD' {xs : List D} : lenU (.d (.lst xs)) st = .ok (.d (.int xs.length)) st := by
  unfold lenU
  simp [scrU, lstU]
def upTo (z j : Nat) : List Kt := (List.range j).reverse.map fun a => .s (10 * (z : Int) + (a : Nat))
theorem lzone_rule {z d : Nat} (hz : z < 12) (hd : d < 10) : q_law_zone true [.d (.int z), .d (.int d)] st = .ok (.d (tolds (zk z d))) st := by
  refine ok_of (q_call rfl ?_)
  by_cases z0 : z = 0
  · subst z0
    simp only [b_law_zone, q_pure, q_cvar, q_op1, q_op2, q_nil, q_cons, q_args, q_and, q_or, q_not, q_chain, q_if, q_lst, q_tup, q_tB1, q_tTr, q_tNo, q_tAn, q_tOu, q_tYes, q_sub, q_fdiv, q_mod, q_pow, q_lt, q_le, q_gt, q_ge, q_add, q_mul, q_eqi, q_nei, q_sNil, q_seq, q_sExp, q_ret, q_retN, q_asg, q_sIf, q_put, q_for, q_range1, q_enum, app_get, app_set, q_iseq, seq_str, seq_lst, seq_tup, tru_bl, tru_int, tru_non, q_fin0, q_finX0, EQ_ok, SQ_ok, EQ_bad, SQ_bad, q_dct0, q_dct0f, q_neg, q_add_lst, lookM, Option.bind_some, clsU_obj, Nat.reduceEqDiff, Nat.succ_ne_self, reduceCtorEq, q_eqs, q_nes, q_finS, List.set_set, q_try, q_tryAs, q_raiseC, q_raiseO, q_max, q_min, q_list2, q_str, q_mth, q_lm, q_fld, q_listL, q_listT, q_tupL, q_tupT, env0, List.map_cons, List.map_nil, List.length_cons, List.length_nil, List.length_set, List.length_append, Nat.reduceAdd, Nat.reduceSub, Nat.reduceLT, Nat.reduceLeDiff, Nat.zero_add, List.replicate, List.cons_append, List.nil_append, List.getElem?_cons_zero, List.getElem?_cons_succ, List.set_cons_zero, List.set_cons_succ, newL, newT, closed, Option.map_some, Option.map_none, lim, true_and, and_true, if_true, if_false, Bool.false_eq_true, reduceIte, ite_true, ite_false, q_list1, Bool.not_true, Bool.not_false, Nat.le_refl, Int.reduceLT, Int.reduceLE, Int.reducePow, Int.reduceToNat, Int.reduceNeg, List.nil_append, List.append_nil, beq_self_eq_true, decide_true, decide_false, Bool.and_true, Bool.true_and, Bool.and_false, Bool.false_and, Bool.or_true, Bool.true_or, Bool.or_false, Bool.false_or, ji0_NoneType, ji0_BadNumber, ji1_NoneType, ji1_BadNumber, ji2_NoneType, ji2_BadNumber, ji3_NoneType, ji3_bool, ji3_int, ji3_str, ji3_list, ji3_tuple, ji3_dict, ji3_tuple2, ji4_NoneType, ji4_bool, ji4_int, ji4_str, ji4_list, ji4_tuple, ji4_dict, ji4_tuple2, ji5_NoneType, ji5_bool, ji5_int, ji5_str, ji5_list, ji5_tuple, ji5_dict, ji5_tuple2]
    rcases d with _ | _ | d
    · rw [show (if (2 : Int) < ((0 : Nat) : Int) then (2 : Int) else ((0 : Nat) : Int)) = 0 from rfl, ixL (by omega) rfl]
      simp only [q_pure, q_cvar, q_op1, q_op2, q_nil, q_cons, q_args, q_and, q_or, q_not, q_chain, q_if, q_lst, q_tup, q_tB1, q_tTr, q_tNo, q_tAn, q_tOu, q_tYes, q_sub, q_fdiv, q_mod, q_pow, q_lt, q_le, q_gt, q_ge, q_add, q_mul, q_eqi, q_nei, q_sNil, q_seq, q_sExp, q_ret, q_retN, q_asg, q_sIf, q_put, q_for, q_range1, q_enum, app_get, app_set, q_iseq, seq_str, seq_lst, seq_tup, tru_bl, tru_int, tru_non, q_fin0, q_finX0, EQ_ok, SQ_ok, EQ_bad, SQ_bad, q_dct0, q_dct0f, q_neg, q_add_lst, lookM, Option.bind_some, clsU_obj, Nat.reduceEqDiff, Nat.succ_ne_self, reduceCtorEq, q_eqs, q_nes, q_finS, List.set_set, q_try, q_tryAs, q_raiseC, q_raiseO, q_max, q_min, q_list2, q_str, q_mth, q_lm, q_fld, q_listL, q_listT, q_tupL, q_tupT, env0, List.map_cons, List.map_nil, List.length_cons, List.length_nil, List.length_set, List.length_append, Nat.reduceAdd, Nat.reduceSub, Nat.reduceLT, Nat.reduceLeDiff, Nat.zero_add, List.replicate, List.cons_append, List.nil_append, List.getElem?_cons_zero, List.getElem?_cons_succ, List.set_cons_zero, List.set_cons_succ, newL, newT, closed, Option.map_some, Option.map_none, lim, true_and, and_true, if_true, if_false, Bool.false_eq_true, reduceIte, ite_true, ite_false, q_list1, Bool.not_true, Bool.not_false, Nat.le_refl, Int.reduceLT, Int.reduceLE, Int.reducePow, Int.reduceToNat, Int.reduceNeg, List.nil_append, List.append_nil, beq_self_eq_true, decide_true, decide_false, Bool.and_true, Bool.true_and, Bool.and_false, Bool.false_and, Bool.or_true, Bool.true_or, Bool.or_false, Bool.false_or, ji0_NoneType, ji0_BadNumber, ji1_NoneType, ji1_BadNumber, ji2_NoneType, ji2_BadNumber, ji3_NoneType, ji3_bool, ji3_int, ji3_str, ji3_list, ji3_tuple, ji3_dict, ji3_tuple2, ji4_NoneType, ji4_bool, ji4_int, ji4_str, ji4_list, ji4_tuple, ji4_dict, ji4_tuple2, ji5_NoneType, ji5_bool, ji5_int, ji5_str, ji5_list, ji5_tuple, ji5_dict, ji5_tuple2]
      rfl
    · rw [show (if (2 : Int) < ((0 + 1 : Nat) : Int) then (2 : Int) else ((0 + 1 : Nat) : Int)) = 1 from rfl, ixL (by omega) rfl]
      simp only [q_pure, q_cvar, q_op1, q_op2, q_nil, q_cons, q_args, q_and, q_or, q_not, q_chain, q_if, q_lst, q_tup, q_tB1, q_tTr, q_tNo, q_tAn, q_tOu, q_tYes, q_sub, q_fdiv, q_mod, q_pow, q_lt, q_le, q_gt, q_ge, q_add, q_mul, q_eqi, q_nei, q_sNil, q_seq, q_sExp, q_ret, q_retN, q_asg, q_sIf, q_put, q_for, q_range1, q_enum, app_get, app_set, q_iseq, seq_str, seq_lst, seq_tup, tru_bl, tru_int, tru_non, q_fin0, q_finX0, EQ_ok, SQ_ok, EQ_bad, SQ_bad, q_dct0, q_dct0f, q_neg, q_add_lst, lookM, Option.bind_some, clsU_obj, Nat.reduceEqDiff, Nat.succ_ne_self, reduceCtorEq, q_eqs, q_nes, q_finS, List.set_set, q_try, q_tryAs, q_raiseC, q_raiseO, q_max, q_min, q_list2, q_str, q_mth, q_lm, q_fld, q_listL, q_listT, q_tupL, q_tupT, env0, List.map_cons, List.map_nil, List.length_cons, List.length_nil, List.length_set, List.length_append, Nat.reduceAdd, Nat.reduceSub, Nat.reduceLT, Nat.reduceLeDiff, Nat.zero_add, List.replicate, List.cons_append, List.nil_append, List.getElem?_cons_zero, List.getElem?_cons_succ, List.set_cons_zero, List.set_cons_succ, newL, newT, closed, Option.map_some, Option.map_none, lim, true_and, and_true, if_true, if_false, Bool.false_eq_true, reduceIte, ite_true, ite_false, q_list1, Bool.not_true, Bool.not_false, Nat.le_refl, Int.reduceLT, Int.reduceLE, Int.reducePow, Int.reduceToNat, Int.reduceNeg, List.nil_append, List.append_nil, beq_self_eq_true, decide_true, decide_false, Bool.and_true, Bool.true_and, Bool.and_false, Bool.false_and, Bool.or_true, Bool.true_or, Bool.or_false, Bool.false_or, ji0_NoneType, ji0_BadNumber, ji1_NoneType, ji1_BadNumber, ji2_NoneType, ji2_BadNumber, ji3_NoneType, ji3_bool, ji3_int, ji3_str, ji3_list, ji3_tuple, ji3_dict, ji3_tuple2, ji4_NoneType, ji4_bool, ji4_int, ji4_str, ji4_list, ji4_tuple, ji4_dict, ji4_tuple2, ji5_NoneType, ji5_bool, ji5_int, ji5_str, ji5_list, ji5_tuple, ji5_dict, ji5_tuple2]
      rfl
    · rw [show (if (2 : Int) < ((d + 1 + 1 : Nat) : Int) then (2 : Int) else ((d + 1 + 1 : Nat) : Int)) = 2 by split <;> omega, ixL (by omega) rfl]
      simp only [q_pure, q_cvar, q_op1, q_op2, q_nil, q_cons, q_args, q_and, q_or, q_not, q_chain, q_if, q_lst, q_tup, q_tB1, q_tTr, q_tNo, q_tAn, q_tOu, q_tYes, q_sub, q_fdiv, q_mod, q_pow, q_lt, q_le, q_gt, q_ge, q_add, q_mul, q_eqi, q_nei, q_sNil, q_seq, q_sExp, q_ret, q_retN, q_asg, q_sIf, q_put, q_for, q_range1, q_enum, app_get, app_set, q_iseq, seq_str, seq_lst, seq_tup, tru_bl, tru_int, tru_non, q_fin0, q_finX0, EQ_ok, SQ_ok, EQ_bad, SQ_bad, q_dct0, q_dct0f, q_neg, q_add_lst, lookM, Option.bind_some, clsU_obj, Nat.reduceEqDiff, Nat.succ_ne_self, reduceCtorEq, q_eqs, q_nes, q_finS, List.set_set, q_try, q_tryAs, q_raiseC, q_raiseO, q_max, q_min, q_list2, q_str, q_mth, q_lm, q_fld, q_listL, q_listT, q_tupL, q_tupT, env0, List.map_cons, List.map_nil, List.length_cons, List.length_nil, List.length_set, List.length_append, Nat.reduceAdd, Nat.reduceSub, Nat.reduceLT, Nat.reduceLeDiff, Nat.zero_add, List.replicate, List.cons_append, List.nil_append, List.getElem?_cons_zero, List.getElem?_cons_succ, List.set_cons_zero, List.set_cons_succ, newL, newT, closed, Option.map_some, Option.map_none, lim, true_and, and_true, if_true, if_false, Bool.false_eq_true, reduceIte, ite_true, ite_false, q_list1, Bool.not_true, Bool.not_false, Nat.le_refl, Int.reduceLT, Int.reduceLE, Int.reducePow, Int.reduceToNat, Int.reduceNeg, List.nil_append, List.append_nil, beq_self_eq_true, decide_true, decide_false, Bool.and_true, Bool.true_and, Bool.and_false, Bool.false_and, Bool.or_true, Bool.true_or, Bool.or_false, Bool.false_or, ji0_NoneType, ji0_BadNumber, ji1_NoneType, ji1_BadNumber, ji2_NoneType, ji2_BadNumber, ji3_NoneType, ji3_bool, ji3_int, ji3_str, ji3_list, ji3_tuple, ji3_dict, ji3_tuple2, ji4_NoneType, ji4_bool, ji4_int, ji4_str, ji4_list, ji4_tuple, ji4_dict, ji4_tuple2, ji5_NoneType, ji5_bool, ji5_int, ji5_str, ji5_list, ji5_tuple, ji5_dict, ji5_tuple2]
      rfl
  · have e0 : ((z : Int) == 0) = false := by
      rw [beq_eq_false_iff_ne]
      omega
    simp only [b_law_zone, e0, q_pure, q_cvar, q_op1, q_op2, q_nil, q_cons, q_args, q_and, q_or, q_not, q_chain, q_if, q_lst, q_tup, q_tB1, q_tTr, q_tNo, q_tAn, q_tOu, q_tYes, q_sub, q_fdiv, q_mod, q_pow, q_lt, q_le, q_gt, q_ge, q_add, q_mul, q_eqi, q_nei, q_sNil, q_seq, q_sExp, q_ret, q_retN, q_asg, q_sIf, q_put, q_for, q_range1, q_enum, app_get, app_set, q_iseq, seq_str, seq_lst, seq_tup, tru_bl, tru_int, tru_non, q_fin0, q_finX0, EQ_ok, SQ_ok, EQ_bad, SQ_bad, q_dct0, q_dct0f, q_neg, q_add_lst, lookM, Option.bind_some, clsU_obj, Nat.reduceEqDiff, Nat.succ_ne_self, reduceCtorEq, q_eqs, q_nes, q_finS, List.set_set, q_try, q_tryAs, q_raiseC, q_raiseO, q_max, q_min, q_list2, q_str, q_mth, q_lm, q_fld, q_listL, q_listT, q_tupL, q_tupT, env0, List.map_cons, List.map_nil, List.length_cons, List.length_nil, List.length_set, List.length_append, Nat.reduceAdd, Nat.reduceSub, Nat.reduceLT, Nat.reduceLeDiff, Nat.zero_add, List.replicate, List.cons_append, List.nil_append, List.getElem?_cons_zero, List.getElem?_cons_succ, List.set_cons_zero, List.set_cons_succ, newL, newT, closed, Option.map_some, Option.map_none, lim, true_and, and_true, if_true, if_false, Bool.false_eq_true, reduceIte, ite_true, ite_false, q_list1, Bool.not_true, Bool.not_false, Nat.le_refl, Int.reduceLT, Int.reduceLE, Int.reducePow, Int.reduceToNat, Int.reduceNeg, List.nil_append, List.append_nil, beq_self_eq_true, decide_true, decide_false, Bool.and_true, Bool.true_and, Bool.and_false, Bool.false_and, Bool.or_true, Bool.true_or, Bool.or_false, Bool.false_or, ji0_NoneType, ji0_BadNumber, ji1_NoneType, ji1_BadNumber, ji2_NoneType, ji2_BadNumber, ji3_NoneType, ji3_bool, ji3_int, ji3_str, ji3_list, ji3_tuple, ji3_dict, ji3_tuple2, ji4_NoneType, ji4_bool, ji4_int, ji4_str, ji4_list, ji4_tuple, ji4_dict, ji4_tuple2, ji5_NoneType, ji5_bool, ji5_int, ji5_str, ji5_list, ji5_tuple, ji5_dict, ji5_tuple2]
    refine q_while (fun m env s => ∃ j, j + m = d ∧ env = [some (.d (.int z)), some (.d (.int d)), some (.d (tolds (upTo z j)))] ∧ s = st) ?_ 1000000 d _ _ (by omega) ⟨0, by omega, rfl, rfl⟩
    rintro m env s ⟨j, hj, rfl, rfl⟩
    simp only [lenD', List.length_map, q_pure, q_cvar, q_op1, q_op2, q_nil, q_cons, q_args, q_and, q_or, q_not, q_chain, q_if, q_lst, q_tup, q_tB1, q_tTr, q_tNo, q_tAn, q_tOu, q_tYes, q_sub, q_fdiv, q_mod, q_pow, q_lt, q_le, q_gt, q_ge, q_add, q_mul, q_eqi, q_nei, q_sNil, q_seq, q_sExp, q_ret, q_retN, q_asg, q_sIf, q_put, q_for, q_range1, q_enum, app_get, app_set, q_iseq, seq_str, seq_lst, seq_tup, tru_bl, tru_int, tru_non, q_fin0, q_finX0, EQ_ok, SQ_ok, EQ_bad, SQ_bad, q_dct0, q_dct0f, q_neg, q_add_lst, lookM, Option.bind_some, clsU_obj, Nat.reduceEqDiff, Nat.succ_ne_self, reduceCtorEq, q_eqs, q_nes, q_finS, List.set_set, q_try, q_tryAs, q_raiseC, q_raiseO, q_max, q_min, q_list2, q_str, q_mth, q_lm, q_fld, q_listL, q_listT, q_tupL, q_tupT, env0, List.map_cons, List.map_nil, List.length_cons, List.length_nil, List.length_set, List.length_append, Nat.reduceAdd, Nat.reduceSub, Nat.reduceLT, Nat.reduceLeDiff, Nat.zero_add, List.replicate, List.cons_append, List.nil_append, List.getElem?_cons_zero, List.getElem?_cons_succ, List.set_cons_zero, List.set_cons_succ, newL, newT, closed, Option.map_some, Option.map_none, lim, true_and, and_true, if_true, if_false, Bool.false_eq_true, reduceIte, ite_true, ite_false, q_list1, Bool.not_true, Bool.not_false, Nat.le_refl, Int.reduceLT, Int.reduceLE, Int.reducePow, Int.reduceToNat, Int.reduceNeg, List.nil_append, List.append_nil, beq_self_eq_true, decide_true, decide_false, Bool.and_true, Bool.true_and, Bool.and_false, Bool.false_and, Bool.or_true, Bool.true_or, Bool.or_false, Bool.false_or, ji0_NoneType, ji0_BadNumber, ji1_NoneType, ji1_BadNumber, ji2_NoneType, ji2_BadNumber, ji3_NoneType, ji3_bool, ji3_int, ji3_str, ji3_list, ji3_tuple, ji3_dict, ji3_tuple2, ji4_NoneType, ji4_bool, ji4_int, ji4_str, ji4_list, ji4_tuple, ji4_dict, ji4_tuple2, ji5_NoneType, ji5_bool, ji5_int, ji5_str, ji5_list, ji5_tuple, ji5_dict, ji5_tuple2]
    have lj : (upTo z j).length = j := by simp [upTo]
    rw [lj]
    cases m with
    | zero =>
      refine ⟨fun y => ?_, fun _ => ?_⟩
      · rw [decide_eq_true_eq] at y
        omega
      · have : j = d := by omega
        subst this
        try simp only [q_pure, q_cvar, q_op1, q_op2, q_nil, q_cons, q_args, q_and, q_or, q_not, q_chain, q_if, q_lst, q_tup, q_tB1, q_tTr, q_tNo, q_tAn, q_tOu, q_tYes, q_sub, q_fdiv, q_mod, q_pow, q_lt, q_le, q_gt, q_ge, q_add, q_mul, q_eqi, q_nei, q_sNil, q_seq, q_sExp, q_ret, q_retN, q_asg, q_sIf, q_put, q_for, q_range1, q_enum, app_get, app_set, q_iseq, seq_str, seq_lst, seq_tup, tru_bl, tru_int, tru_non, q_fin0, q_finX0, EQ_ok, SQ_ok, EQ_bad, SQ_bad, q_dct0, q_dct0f, q_neg, q_add_lst, lookM, Option.bind_some, clsU_obj, Nat.reduceEqDiff, Nat.succ_ne_self, reduceCtorEq, q_eqs, q_nes, q_finS, List.set_set, q_try, q_tryAs, q_raiseC, q_raiseO, q_max, q_min, q_list2, q_str, q_mth, q_lm, q_fld, q_listL, q_listT, q_tupL, q_tupT, env0, List.map_cons, List.map_nil, List.length_cons, List.length_nil, List.length_set, List.length_append, Nat.reduceAdd, Nat.reduceSub, Nat.reduceLT, Nat.reduceLeDiff, Nat.zero_add, List.replicate, List.cons_append, List.nil_append, List.getElem?_cons_zero, List.getElem?_cons_succ, List.set_cons_zero, List.set_cons_succ, newL, newT, closed, Option.map_some, Option.map_none, lim, true_and, and_true, if_true, if_false, Bool.false_eq_true, reduceIte, ite_true, ite_false, q_list1, Bool.not_true, Bool.not_false, Nat.le_refl, Int.reduceLT, Int.reduceLE, Int.reducePow, Int.reduceToNat, Int.reduceNeg, List.nil_append, List.append_nil, beq_self_eq_true, decide_true, decide_false, Bool.and_true, Bool.true_and, Bool.and_false, Bool.false_and, Bool.or_true, Bool.true_or, Bool.or_false, Bool.false_or, ji0_NoneType, ji0_BadNumber, ji1_NoneType, ji1_BadNumber, ji2_NoneType, ji2_BadNumber, ji3_NoneType, ji3_bool, ji3_int, ji3_str, ji3_list, ji3_tuple, ji3_dict, ji3_tuple2, ji4_NoneType, ji4_bool, ji4_int, ji4_str, ji4_list, ji4_tuple, ji4_dict, ji4_tuple2, ji5_NoneType, ji5_bool, ji5_int, ji5_str, ji5_list, ji5_tuple, ji5_dict, ji5_tuple2]
        unfold zk
        rw [if_neg z0]
        rfl
    | succ m =>
      refine ⟨fun _ => ⟨m, rfl, ?_⟩, fun y => ?_⟩
      · simp only [w1_law_zone, lenD', List.length_map, cm10, q_pure, q_cvar, q_op1, q_op2, q_nil, q_cons, q_args, q_and, q_or, q_not, q_chain, q_if, q_lst, q_tup, q_tB1, q_tTr, q_tNo, q_tAn, q_tOu, q_tYes, q_sub, q_fdiv, q_mod, q_pow, q_lt, q_le, q_gt, q_ge, q_add, q_mul, q_eqi, q_nei, q_sNil, q_seq, q_sExp, q_ret, q_retN, q_asg, q_sIf, q_put, q_for, q_range1, q_enum, app_get, app_set, q_iseq, seq_str, seq_lst, seq_tup, tru_bl, tru_int, tru_non, q_fin0, q_finX0, EQ_ok, SQ_ok, EQ_bad, SQ_bad, q_dct0, q_dct0f, q_neg, q_add_lst, lookM, Option.bind_some, clsU_obj, Nat.reduceEqDiff, Nat.succ_ne_self, reduceCtorEq, q_eqs, q_nes, q_finS, List.set_set, q_try, q_tryAs, q_raiseC, q_raiseO, q_max, q_min, q_list2, q_str, q_mth, q_lm, q_fld, q_listL, q_listT, q_tupL, q_tupT, env0, List.map_cons, List.map_nil, List.length_cons, List.length_nil, List.length_set, List.length_append, Nat.reduceAdd, Nat.reduceSub, Nat.reduceLT, Nat.reduceLeDiff, Nat.zero_add, List.replicate, List.cons_append, List.nil_append, List.getElem?_cons_zero, List.getElem?_cons_succ, List.set_cons_zero, List.set_cons_succ, newL, newT, closed, Option.map_some, Option.map_none, lim, true_and, and_true, if_true, if_false, Bool.false_eq_true, reduceIte, ite_true, ite_false, q_list1, Bool.not_true, Bool.not_false, Nat.le_refl, Int.reduceLT, Int.reduceLE, Int.reducePow, Int.reduceToNat, Int.reduceNeg, List.nil_append, List.append_nil, beq_self_eq_true, decide_true, decide_false, Bool.and_true, Bool.true_and, Bool.and_false, Bool.false_and, Bool.or_true, Bool.true_or, Bool.or_false, Bool.false_or, ji0_NoneType, ji0_BadNumber, ji1_NoneType, ji1_BadNumber, ji2_NoneType, ji2_BadNumber, ji3_NoneType, ji3_bool, ji3_int, ji3_str, ji3_list, ji3_tuple, ji3_dict, ji3_tuple2, ji4_NoneType, ji4_bool, ji4_int, ji4_str, ji4_list, ji4_tuple, ji4_dict, ji4_tuple2, ji5_NoneType, ji5_bool, ji5_int, ji5_str, ji5_list, ji5_tuple, ji5_dict, ji5_tuple2]
        rw [q_add_lst (by rw [List.length_map, lj]; show 1 + j ≤ 16777216; omega)]
        refine ⟨j + 1, by omega, ?_⟩
        simp [upTo, List.range_succ]
        rfl
      · rw [decide_eq_false_iff_not] at y
        omega
def dg (n i : Nat) : Nat := n / 10 ^ i % 10
theorem dg_lt {n i : Nat} : dg n i < 10 := Nat.mod_lt _ (by omega)
def zd (n : Nat) (i : Nat) : List Kt := zk i (dg n i)
def rowTo (n : Nat) : Nat → List Kt
  | 0 => []
  | i + 1 => zd n i ++ rowTo n i
def nums (i k : Nat) : List U := (List.range' i k).map fun (j : Nat) => .d (.int j)
theorem rng12 : rngU 0 12 = nums 0 12 := by kernel_rfl
theorem cdiv10 {i : Int} : cDivOk i 10 = true := by
  unfold cDivOk
  rfl
theorem dmod {n i : Nat} : ((n / 10 ^ i : Nat) : Int) % 10 = ((dg n i : Nat) : Int) := by
  unfold dg
  omega
theorem ddiv {n i : Nat} : ((n / 10 ^ i : Nat) : Int) / 10 = ((n / 10 ^ (i + 1) : Nat) : Int) := by
  rw [Nat.pow_succ, ← Nat.div_div_eq_div_mul]
  omega
abbrev zonesD (n k : Nat) : List D := (List.range k).map fun i => tolds (zd n i)
theorem lzones_rule {N : Nat} : q_law_zones true [.d (.int N)] st = .ok (.d (.lst (zonesD N 12))) st := by
  refine ok_of (q_call rfl ?_)
  simp only [b_law_zones, rng12, q_pure, q_cvar, q_op1, q_op2, q_nil, q_cons, q_args, q_and, q_or, q_not, q_chain, q_if, q_lst, q_tup, q_tB1, q_tTr, q_tNo, q_tAn, q_tOu, q_tYes, q_sub, q_fdiv, q_mod, q_pow, q_lt, q_le, q_gt, q_ge, q_add, q_mul, q_eqi, q_nei, q_sNil, q_seq, q_sExp, q_ret, q_retN, q_asg, q_sIf, q_put, q_for, q_range1, q_enum, app_get, app_set, q_iseq, seq_str, seq_lst, seq_tup, tru_bl, tru_int, tru_non, q_fin0, q_finX0, EQ_ok, SQ_ok, EQ_bad, SQ_bad, q_dct0, q_dct0f, q_neg, q_add_lst, lookM, Option.bind_some, clsU_obj, Nat.reduceEqDiff, Nat.succ_ne_self, reduceCtorEq, q_eqs, q_nes, q_finS, List.set_set, q_try, q_tryAs, q_raiseC, q_raiseO, q_max, q_min, q_list2, q_str, q_mth, q_lm, q_fld, q_listL, q_listT, q_tupL, q_tupT, env0, List.map_cons, List.map_nil, List.length_cons, List.length_nil, List.length_set, List.length_append, Nat.reduceAdd, Nat.reduceSub, Nat.reduceLT, Nat.reduceLeDiff, Nat.zero_add, List.replicate, List.cons_append, List.nil_append, List.getElem?_cons_zero, List.getElem?_cons_succ, List.set_cons_zero, List.set_cons_succ, newL, newT, closed, Option.map_some, Option.map_none, lim, true_and, and_true, if_true, if_false, Bool.false_eq_true, reduceIte, ite_true, ite_false, q_list1, Bool.not_true, Bool.not_false, Nat.le_refl, Int.reduceLT, Int.reduceLE, Int.reducePow, Int.reduceToNat, Int.reduceNeg, List.nil_append, List.append_nil, beq_self_eq_true, decide_true, decide_false, Bool.and_true, Bool.true_and, Bool.and_false, Bool.false_and, Bool.or_true, Bool.true_or, Bool.or_false, Bool.false_or, ji0_NoneType, ji0_BadNumber, ji1_NoneType, ji1_BadNumber, ji2_NoneType, ji2_BadNumber, ji3_NoneType, ji3_bool, ji3_int, ji3_str, ji3_list, ji3_tuple, ji3_dict, ji3_tuple2, ji4_NoneType, ji4_bool, ji4_int, ji4_str, ji4_list, ji4_tuple, ji4_dict, ji4_tuple2, ji5_NoneType, ji5_bool, ji5_int, ji5_str, ji5_list, ji5_tuple, ji5_dict, ji5_tuple2]
  refine ⟨rfl, q_loopN (fun us env s => ∃ (i m : Nat), i + m = 12 ∧ us = nums i m ∧ (∃ b2, env = [some (.d (.int (N / 10 ^ i : Nat))), some (.c st.length), b2]) ∧ s = st ++ [.lst ((zonesD N i).map .d)]) (fun _ _ _ _ => gd_none) ?_ ⟨0, 12, rfl, rfl, ⟨none, by simp⟩, rfl⟩ ?_⟩
  · rintro u us env s ⟨i, m, hm, hu, ⟨b2, rfl⟩, rfl⟩
    cases m with
    | zero => cases hu
    | succ m =>
      unfold nums at hu
      rw [List.range'_succ, List.map_cons] at hu
      injection hu with h1 h2
      subst h1 h2
      refine ⟨_, rfl, ?_⟩
      have lz : ∀ s, q_law_zone true [.d (.int (i : Nat)), .d (.int (dg N i : Nat))] s = .ok (.d (tolds (zk i (dg N i)))) s := fun s => lzone_rule (by omega) dg_lt
      simp only [l1_law_zones, dmod, lz, cdiv10, ddiv, q_pure, q_cvar, q_op1, q_op2, q_nil, q_cons, q_args, q_and, q_or, q_not, q_chain, q_if, q_lst, q_tup, q_tB1, q_tTr, q_tNo, q_tAn, q_tOu, q_tYes, q_sub, q_fdiv, q_mod, q_pow, q_lt, q_le, q_gt, q_ge, q_add, q_mul, q_eqi, q_nei, q_sNil, q_seq, q_sExp, q_ret, q_retN, q_asg, q_sIf, q_put, q_for, q_range1, q_enum, app_get, app_set, q_iseq, seq_str, seq_lst, seq_tup, tru_bl, tru_int, tru_non, q_fin0, q_finX0, EQ_ok, SQ_ok, EQ_bad, SQ_bad, q_dct0, q_dct0f, q_neg, q_add_lst, lookM, Option.bind_some, clsU_obj, Nat.reduceEqDiff, Nat.succ_ne_self, reduceCtorEq, q_eqs, q_nes, q_finS, List.set_set, q_try, q_tryAs, q_raiseC, q_raiseO, q_max, q_min, q_list2, q_str, q_mth, q_lm, q_fld, q_listL, q_listT, q_tupL, q_tupT, env0, List.map_cons, List.map_nil, List.length_cons, List.length_nil, List.length_set, List.length_append, Nat.reduceAdd, Nat.reduceSub, Nat.reduceLT, Nat.reduceLeDiff, Nat.zero_add, List.replicate, List.cons_append, List.nil_append, List.getElem?_cons_zero, List.getElem?_cons_succ, List.set_cons_zero, List.set_cons_succ, newL, newT, closed, Option.map_some, Option.map_none, lim, true_and, and_true, if_true, if_false, Bool.false_eq_true, reduceIte, ite_true, ite_false, q_list1, Bool.not_true, Bool.not_false, Nat.le_refl, Int.reduceLT, Int.reduceLE, Int.reducePow, Int.reduceToNat, Int.reduceNeg, List.nil_append, List.append_nil, beq_self_eq_true, decide_true, decide_false, Bool.and_true, Bool.true_and, Bool.and_false, Bool.false_and, Bool.or_true, Bool.true_or, Bool.or_false, Bool.false_or, ji0_NoneType, ji0_BadNumber, ji1_NoneType, ji1_BadNumber, ji2_NoneType, ji2_BadNumber, ji3_NoneType, ji3_bool, ji3_int, ji3_str, ji3_list, ji3_tuple, ji3_dict, ji3_tuple2, ji4_NoneType, ji4_bool, ji4_int, ji4_str, ji4_list, ji4_tuple, ji4_dict, ji4_tuple2, ji5_NoneType, ji5_bool, ji5_int, ji5_str, ji5_list, ji5_tuple, ji5_dict, ji5_tuple2]
      refine ⟨by rw [scrC app_get]; rfl, ?_⟩
      rw [q_app app_get (by rw [List.length_map, List.length_map, List.length_range]; show _ < 16777216; omega), app_set]
      refine ⟨i + 1, m, by omega, rfl, ⟨some (.d (.int (i : Nat))), rfl⟩, ?_⟩
      simp only [zonesD, List.range_succ, List.map_append, List.map_cons, List.map_nil]
      rfl
  · rintro env s ⟨i, m, hm, hu, ⟨b2, rfl⟩, rfl⟩
    cases m with
    | succ m => cases hu
    | zero =>
      obtain rfl : i = 12 := by omega
      simp only [q_pure, q_cvar, q_op1, q_op2, q_nil, q_cons, q_args, q_and, q_or, q_not, q_chain, q_if, q_lst, q_tup, q_tB1, q_tTr, q_tNo, q_tAn, q_tOu, q_tYes, q_sub, q_fdiv, q_mod, q_pow, q_lt, q_le, q_gt, q_ge, q_add, q_mul, q_eqi, q_nei, q_sNil, q_seq, q_sExp, q_ret, q_retN, q_asg, q_sIf, q_put, q_for, q_range1, q_enum, app_get, app_set, q_iseq, seq_str, seq_lst, seq_tup, tru_bl, tru_int, tru_non, q_fin0, q_finX0, EQ_ok, SQ_ok, EQ_bad, SQ_bad, q_dct0, q_dct0f, q_neg, q_add_lst, lookM, Option.bind_some, clsU_obj, Nat.reduceEqDiff, Nat.succ_ne_self, reduceCtorEq, q_eqs, q_nes, q_finS, List.set_set, q_try, q_tryAs, q_raiseC, q_raiseO, q_max, q_min, q_list2, q_str, q_mth, q_lm, q_fld, q_listL, q_listT, q_tupL, q_tupT, env0, List.map_cons, List.map_nil, List.length_cons, List.length_nil, List.length_set, List.length_append, Nat.reduceAdd, Nat.reduceSub, Nat.reduceLT, Nat.reduceLeDiff, Nat.zero_add, List.replicate, List.cons_append, List.nil_append, List.getElem?_cons_zero, List.getElem?_cons_succ, List.set_cons_zero, List.set_cons_succ, newL, newT, closed, Option.map_some, Option.map_none, lim, true_and, and_true, if_true, if_false, Bool.false_eq_true, reduceIte, ite_true, ite_false, q_list1, Bool.not_true, Bool.not_false, Nat.le_refl, Int.reduceLT, Int.reduceLE, Int.reducePow, Int.reduceToNat, Int.reduceNeg, List.nil_append, List.append_nil, beq_self_eq_true, decide_true, decide_false, Bool.and_true, Bool.true_and, Bool.and_false, Bool.false_and, Bool.or_true, Bool.true_or, Bool.or_false, Bool.false_or, ji0_NoneType, ji0_BadNumber, ji1_NoneType, ji1_BadNumber, ji2_NoneType, ji2_BadNumber, ji3_NoneType, ji3_bool, ji3_int, ji3_str, ji3_list, ji3_tuple, ji3_dict, ji3_tuple2, ji4_NoneType, ji4_bool, ji4_int, ji4_str, ji4_list, ji4_tuple, ji4_dict, ji4_tuple2, ji5_NoneType, ji5_bool, ji5_int, ji5_str, ji5_list, ji5_tuple, ji5_dict, ji5_tuple2]
      refine Eq.mpr (q_fin_lst (xs := zonesD N 12) (Nat.le_refl _) app_get) ⟨rfl, rfl⟩
def isNum : D → Bool
  | .int i => decide (0 ≤ i) && decide (i ≤ 999999999999)
  | _ => false
theorem number_rule {d : D} (hd : flatK d = true) : q_is_number true [.d d] st = .ok (.d (.bl (isNum d))) st := by
  refine ok_of (q_call rfl ?_)
  simp only [b_is_number, q_pure, q_cvar, q_op1, q_op2, q_nil, q_cons, q_args, q_and, q_or, q_not, q_chain, q_if, q_lst, q_tup, q_tB1, q_tTr, q_tNo, q_tAn, q_tOu, q_tYes, q_sub, q_fdiv, q_mod, q_pow, q_lt, q_le, q_gt, q_ge, q_add, q_mul, q_eqi, q_nei, q_sNil, q_seq, q_sExp, q_ret, q_retN, q_asg, q_sIf, q_put, q_for, q_range1, q_enum, app_get, app_set, q_iseq, seq_str, seq_lst, seq_tup, tru_bl, tru_int, tru_non, q_fin0, q_finX0, EQ_ok, SQ_ok, EQ_bad, SQ_bad, q_dct0, q_dct0f, q_neg, q_add_lst, lookM, Option.bind_some, clsU_obj, Nat.reduceEqDiff, Nat.succ_ne_self, reduceCtorEq, q_eqs, q_nes, q_finS, List.set_set, q_try, q_tryAs, q_raiseC, q_raiseO, q_max, q_min, q_list2, q_str, q_mth, q_lm, q_fld, q_listL, q_listT, q_tupL, q_tupT, env0, List.map_cons, List.map_nil, List.length_cons, List.length_nil, List.length_set, List.length_append, Nat.reduceAdd, Nat.reduceSub, Nat.reduceLT, Nat.reduceLeDiff, Nat.zero_add, List.replicate, List.cons_append, List.nil_append, List.getElem?_cons_zero, List.getElem?_cons_succ, List.set_cons_zero, List.set_cons_succ, newL, newT, closed, Option.map_some, Option.map_none, lim, true_and, and_true, if_true, if_false, Bool.false_eq_true, reduceIte, ite_true, ite_false, q_list1, Bool.not_true, Bool.not_false, Nat.le_refl, Int.reduceLT, Int.reduceLE, Int.reducePow, Int.reduceToNat, Int.reduceNeg, List.nil_append, List.append_nil, beq_self_eq_true, decide_true, decide_false, Bool.and_true, Bool.true_and, Bool.and_false, Bool.false_and, Bool.or_true, Bool.true_or, Bool.or_false, Bool.false_or, ji0_NoneType, ji0_BadNumber, ji1_NoneType, ji1_BadNumber, ji2_NoneType, ji2_BadNumber, ji3_NoneType, ji3_bool, ji3_int, ji3_str, ji3_list, ji3_tuple, ji3_dict, ji3_tuple2, ji4_NoneType, ji4_bool, ji4_int, ji4_str, ji4_list, ji4_tuple, ji4_dict, ji4_tuple2, ji5_NoneType, ji5_bool, ji5_int, ji5_str, ji5_list, ji5_tuple, ji5_dict, ji5_tuple2]
  refine among_rule hd ?_
  simp only [q_pure, q_cvar, q_op1, q_op2, q_nil, q_cons, q_args, q_and, q_or, q_not, q_chain, q_if, q_lst, q_tup, q_tB1, q_tTr, q_tNo, q_tAn, q_tOu, q_tYes, q_sub, q_fdiv, q_mod, q_pow, q_lt, q_le, q_gt, q_ge, q_add, q_mul, q_eqi, q_nei, q_sNil, q_seq, q_sExp, q_ret, q_retN, q_asg, q_sIf, q_put, q_for, q_range1, q_enum, app_get, app_set, q_iseq, seq_str, seq_lst, seq_tup, tru_bl, tru_int, tru_non, q_fin0, q_finX0, EQ_ok, SQ_ok, EQ_bad, SQ_bad, q_dct0, q_dct0f, q_neg, q_add_lst, lookM, Option.bind_some, clsU_obj, Nat.reduceEqDiff, Nat.succ_ne_self, reduceCtorEq, q_eqs, q_nes, q_finS, List.set_set, q_try, q_tryAs, q_raiseC, q_raiseO, q_max, q_min, q_list2, q_str, q_mth, q_lm, q_fld, q_listL, q_listT, q_tupL, q_tupT, env0, List.map_cons, List.map_nil, List.length_cons, List.length_nil, List.length_set, List.length_append, Nat.reduceAdd, Nat.reduceSub, Nat.reduceLT, Nat.reduceLeDiff, Nat.zero_add, List.replicate, List.cons_append, List.nil_append, List.getElem?_cons_zero, List.getElem?_cons_succ, List.set_cons_zero, List.set_cons_succ, newL, newT, closed, Option.map_some, Option.map_none, lim, true_and, and_true, if_true, if_false, Bool.false_eq_true, reduceIte, ite_true, ite_false, q_list1, Bool.not_true, Bool.not_false, Nat.le_refl, Int.reduceLT, Int.reduceLE, Int.reducePow, Int.reduceToNat, Int.reduceNeg, List.nil_append, List.append_nil, beq_self_eq_true, decide_true, decide_false, Bool.and_true, Bool.true_and, Bool.and_false, Bool.false_and, Bool.or_true, Bool.true_or, Bool.or_false, Bool.false_or, ji0_NoneType, ji0_BadNumber, ji1_NoneType, ji1_BadNumber, ji2_NoneType, ji2_BadNumber, ji3_NoneType, ji3_bool, ji3_int, ji3_str, ji3_list, ji3_tuple, ji3_dict, ji3_tuple2, ji4_NoneType, ji4_bool, ji4_int, ji4_str, ji4_list, ji4_tuple, ji4_dict, ji4_tuple2, ji5_NoneType, ji5_bool, ji5_int, ji5_str, ji5_list, ji5_tuple, ji5_dict, ji5_tuple2]
  cases d <;> rfl
theorem rowTo_len {n : Nat} : ∀ i, (rowTo n i).length ≤ 9 * i
  | 0 => Nat.zero_le _
  | i + 1 => by
    have := rowTo_len (n := n) i
    have h2 : (zd n i).length ≤ 9 := zk_len dg_lt
    simp only [rowTo, List.length_append]
    omega
theorem rowTo_ok {n : Nat} : ∀ i, i ≤ 12 → ∀ k ∈ rowTo n i, k.ok
  | 0, _, k, h => by cases h
  | i + 1, hi, k, h => by
    rcases List.mem_append.mp h with z | z
    · exact zk_ok (by omega) dg_lt k z
    · exact rowTo_ok i (by omega) k z
theorem tied_rule {N : Nat} (hN : N < 10 ^ 12) (hQ : ∀ m l, st.length ≤ m → (st ++ l)[m]? = some (.lst (((rowTo N 12).map Kt.told).map .d)) → EQ (fin fz (.c m) st (st ++ l)) QU X) : EQ (q_tied fz [.d (.int N)] st) QU X := by
  refine q_call rfl ?_
  have en : isNum (.int (N : Nat)) = true := by
    show (decide (0 ≤ (N : Int)) && decide ((N : Int) ≤ 999999999999)) = true
    rw [decide_eq_true (by omega : 0 ≤ (N : Int)), decide_eq_true (by omega : (N : Int) ≤ 999999999999)]
    rfl
  have nr : ∀ s, q_is_number true [.d (.int (N : Nat))] s = .ok (.d (.bl true)) s := fun s => by rw [number_rule rfl, en]
  simp only [b_tied, nr, rng12, q_pure, q_cvar, q_op1, q_op2, q_nil, q_cons, q_args, q_and, q_or, q_not, q_chain, q_if, q_lst, q_tup, q_tB1, q_tTr, q_tNo, q_tAn, q_tOu, q_tYes, q_sub, q_fdiv, q_mod, q_pow, q_lt, q_le, q_gt, q_ge, q_add, q_mul, q_eqi, q_nei, q_sNil, q_seq, q_sExp, q_ret, q_retN, q_asg, q_sIf, q_put, q_for, q_range1, q_enum, app_get, app_set, q_iseq, seq_str, seq_lst, seq_tup, tru_bl, tru_int, tru_non, q_fin0, q_finX0, EQ_ok, SQ_ok, EQ_bad, SQ_bad, q_dct0, q_dct0f, q_neg, q_add_lst, lookM, Option.bind_some, clsU_obj, Nat.reduceEqDiff, Nat.succ_ne_self, reduceCtorEq, q_eqs, q_nes, q_finS, List.set_set, q_try, q_tryAs, q_raiseC, q_raiseO, q_max, q_min, q_list2, q_str, q_mth, q_lm, q_fld, q_listL, q_listT, q_tupL, q_tupT, env0, List.map_cons, List.map_nil, List.length_cons, List.length_nil, List.length_set, List.length_append, Nat.reduceAdd, Nat.reduceSub, Nat.reduceLT, Nat.reduceLeDiff, Nat.zero_add, List.replicate, List.cons_append, List.nil_append, List.getElem?_cons_zero, List.getElem?_cons_succ, List.set_cons_zero, List.set_cons_succ, newL, newT, closed, Option.map_some, Option.map_none, lim, true_and, and_true, if_true, if_false, Bool.false_eq_true, reduceIte, ite_true, ite_false, q_list1, Bool.not_true, Bool.not_false, Nat.le_refl, Int.reduceLT, Int.reduceLE, Int.reducePow, Int.reduceToNat, Int.reduceNeg, List.nil_append, List.append_nil, beq_self_eq_true, decide_true, decide_false, Bool.and_true, Bool.true_and, Bool.and_false, Bool.false_and, Bool.or_true, Bool.true_or, Bool.or_false, Bool.false_or, ji0_NoneType, ji0_BadNumber, ji1_NoneType, ji1_BadNumber, ji2_NoneType, ji2_BadNumber, ji3_NoneType, ji3_bool, ji3_int, ji3_str, ji3_list, ji3_tuple, ji3_dict, ji3_tuple2, ji4_NoneType, ji4_bool, ji4_int, ji4_str, ji4_list, ji4_tuple, ji4_dict, ji4_tuple2, ji5_NoneType, ji5_bool, ji5_int, ji5_str, ji5_list, ji5_tuple, ji5_dict, ji5_tuple2]
  refine ⟨rfl, q_loopN (fun us env s => ∃ (i m c : Nat) (l : Sto), i + m = 12 ∧ us = nums i m ∧ (∃ b2, env = [some (.d (.int (N / 10 ^ i : Nat))), some (.c c), b2]) ∧ s = st ++ l ∧ st.length ≤ c ∧ (st ++ l)[c]? = some (.lst (((rowTo N i).map Kt.told).map .d))) (fun _ _ _ _ => gd_none) ?_ ⟨0, 12, st.length, [.lst []], rfl, rfl, ⟨none, by simp⟩, rfl, Nat.le_refl _, app_get⟩ ?_⟩
  · rintro u us env s ⟨i, m, c, l, hm, hu, ⟨b2, rfl⟩, rfl, hc, hg⟩
    cases m with
    | zero => cases hu
    | succ m =>
      unfold nums at hu
      rw [List.range'_succ, List.map_cons] at hu
      injection hu with h1 h2
      subst h1 h2
      refine ⟨_, rfl, ?_⟩
      have lz : ∀ s, q_tied_in true [.d (.int (i : Nat)), .d (.int (dg N i : Nat))] s = .ok (.d (tolds (zk i (dg N i)))) s := fun s => tied_in_closed (by omega) dg_lt
      have l1 := rowTo_len (n := N) i
      have l2 : (zk i (dg N i)).length ≤ 9 := zk_len dg_lt
      have ad : addU false (.d (tolds (zk i (dg N i)))) (.c c) (st ++ l) = _ := addC hg (by rw [List.length_map, List.length_map, List.length_map]; omega)
      simp only [l1_tied, dmod, lz, cdiv10, ddiv, ad, q_pure, q_cvar, q_op1, q_op2, q_nil, q_cons, q_args, q_and, q_or, q_not, q_chain, q_if, q_lst, q_tup, q_tB1, q_tTr, q_tNo, q_tAn, q_tOu, q_tYes, q_sub, q_fdiv, q_mod, q_pow, q_lt, q_le, q_gt, q_ge, q_add, q_mul, q_eqi, q_nei, q_sNil, q_seq, q_sExp, q_ret, q_retN, q_asg, q_sIf, q_put, q_for, q_range1, q_enum, app_get, app_set, q_iseq, seq_str, seq_lst, seq_tup, tru_bl, tru_int, tru_non, q_fin0, q_finX0, EQ_ok, SQ_ok, EQ_bad, SQ_bad, q_dct0, q_dct0f, q_neg, q_add_lst, lookM, Option.bind_some, clsU_obj, Nat.reduceEqDiff, Nat.succ_ne_self, reduceCtorEq, q_eqs, q_nes, q_finS, List.set_set, q_try, q_tryAs, q_raiseC, q_raiseO, q_max, q_min, q_list2, q_str, q_mth, q_lm, q_fld, q_listL, q_listT, q_tupL, q_tupT, env0, List.map_cons, List.map_nil, List.length_cons, List.length_nil, List.length_set, List.length_append, Nat.reduceAdd, Nat.reduceSub, Nat.reduceLT, Nat.reduceLeDiff, Nat.zero_add, List.replicate, List.cons_append, List.nil_append, List.getElem?_cons_zero, List.getElem?_cons_succ, List.set_cons_zero, List.set_cons_succ, newL, newT, closed, Option.map_some, Option.map_none, lim, true_and, and_true, if_true, if_false, Bool.false_eq_true, reduceIte, ite_true, ite_false, q_list1, Bool.not_true, Bool.not_false, Nat.le_refl, Int.reduceLT, Int.reduceLE, Int.reducePow, Int.reduceToNat, Int.reduceNeg, List.nil_append, List.append_nil, beq_self_eq_true, decide_true, decide_false, Bool.and_true, Bool.true_and, Bool.and_false, Bool.false_and, Bool.or_true, Bool.true_or, Bool.or_false, Bool.false_or, ji0_NoneType, ji0_BadNumber, ji1_NoneType, ji1_BadNumber, ji2_NoneType, ji2_BadNumber, ji3_NoneType, ji3_bool, ji3_int, ji3_str, ji3_list, ji3_tuple, ji3_dict, ji3_tuple2, ji4_NoneType, ji4_bool, ji4_int, ji4_str, ji4_list, ji4_tuple, ji4_dict, ji4_tuple2, ji5_NoneType, ji5_bool, ji5_int, ji5_str, ji5_list, ji5_tuple, ji5_dict, ji5_tuple2]
      refine ⟨i + 1, m, (st ++ l).length, l ++ [.lst (((zk i (dg N i)).map Kt.told).map .d ++ ((rowTo N i).map Kt.told).map .d)], by omega, rfl, ⟨some (.d (.int (i : Nat))), ?_⟩, ?_, ?_, ?_⟩
      · rw [List.length_append]
      · rw [List.append_assoc]
      · rw [List.length_append]
        omega
      · rw [← List.append_assoc, app_get]
        simp only [rowTo, zd, List.map_append]
  · rintro env s ⟨i, m, c, l, hm, hu, ⟨b2, rfl⟩, rfl, hc, hg⟩
    cases m with
    | succ m => cases hu
    | zero =>
      obtain rfl : i = 12 := by omega
      simp only [q_pure, q_cvar, q_op1, q_op2, q_nil, q_cons, q_args, q_and, q_or, q_not, q_chain, q_if, q_lst, q_tup, q_tB1, q_tTr, q_tNo, q_tAn, q_tOu, q_tYes, q_sub, q_fdiv, q_mod, q_pow, q_lt, q_le, q_gt, q_ge, q_add, q_mul, q_eqi, q_nei, q_sNil, q_seq, q_sExp, q_ret, q_retN, q_asg, q_sIf, q_put, q_for, q_range1, q_enum, app_get, app_set, q_iseq, seq_str, seq_lst, seq_tup, tru_bl, tru_int, tru_non, q_fin0, q_finX0, EQ_ok, SQ_ok, EQ_bad, SQ_bad, q_dct0, q_dct0f, q_neg, q_add_lst, lookM, Option.bind_some, clsU_obj, Nat.reduceEqDiff, Nat.succ_ne_self, reduceCtorEq, q_eqs, q_nes, q_finS, List.set_set, q_try, q_tryAs, q_raiseC, q_raiseO, q_max, q_min, q_list2, q_str, q_mth, q_lm, q_fld, q_listL, q_listT, q_tupL, q_tupT, env0, List.map_cons, List.map_nil, List.length_cons, List.length_nil, List.length_set, List.length_append, Nat.reduceAdd, Nat.reduceSub, Nat.reduceLT, Nat.reduceLeDiff, Nat.zero_add, List.replicate, List.cons_append, List.nil_append, List.getElem?_cons_zero, List.getElem?_cons_succ, List.set_cons_zero, List.set_cons_succ, newL, newT, closed, Option.map_some, Option.map_none, lim, true_and, and_true, if_true, if_false, Bool.false_eq_true, reduceIte, ite_true, ite_false, q_list1, Bool.not_true, Bool.not_false, Nat.le_refl, Int.reduceLT, Int.reduceLE, Int.reducePow, Int.reduceToNat, Int.reduceNeg, List.nil_append, List.append_nil, beq_self_eq_true, decide_true, decide_false, Bool.and_true, Bool.true_and, Bool.and_false, Bool.false_and, Bool.or_true, Bool.true_or, Bool.or_false, Bool.false_or, ji0_NoneType, ji0_BadNumber, ji1_NoneType, ji1_BadNumber, ji2_NoneType, ji2_BadNumber, ji3_NoneType, ji3_bool, ji3_int, ji3_str, ji3_list, ji3_tuple, ji3_dict, ji3_tuple2, ji4_NoneType, ji4_bool, ji4_int, ji4_str, ji4_list, ji4_tuple, ji4_dict, ji4_tuple2, ji5_NoneType, ji5_bool, ji5_int, ji5_str, ji5_list, ji5_tuple, ji5_dict, ji5_tuple2]
      exact hQ c l hc hg
end
section
variable {QU : U → Sto → Prop} {X : Ex → Sto → Prop} {st : Sto} {fz : Bool} {n r : Nat} {o : O}
theorem number_draw (h : st[n]? = some o) (ho : TO (r + 3) o) (hQ : ∀ (N : Nat) o', N < 10 ^ 12 → TO r o' → QU (.d (.int N)) (st.set n o')) : EQ (q_law_number true [.c n] st) QU X := by
  have hQ' : ∀ (v : Int) o', 0 ≤ v → v < 10 ^ 12 → TO r o' → QU (.d (.int v)) (st.set n o') := fun v o' h0 h1 t => by
    obtain ⟨N, rfl⟩ := Int.eq_ofNat_of_zero_le h0
    exact hQ N o' (by omega) t
  refine q_call rfl ?_
  have p12 : cPow2Ok 10 12 = true := by decide +kernel
  have p18 : cPow2Ok 10 18 = true := by decide +kernel
  simp only [b_law_number, p12, p18, q_pure, q_cvar, q_op1, q_op2, q_nil, q_cons, q_args, q_and, q_or, q_not, q_chain, q_if, q_lst, q_tup, q_tB1, q_tTr, q_tNo, q_tAn, q_tOu, q_tYes, q_sub, q_fdiv, q_mod, q_pow, q_lt, q_le, q_gt, q_ge, q_add, q_mul, q_eqi, q_nei, q_sNil, q_seq, q_sExp, q_ret, q_retN, q_asg, q_sIf, q_put, q_for, q_range1, q_enum, app_get, app_set, q_iseq, seq_str, seq_lst, seq_tup, tru_bl, tru_int, tru_non, q_fin0, q_finX0, EQ_ok, SQ_ok, EQ_bad, SQ_bad, q_dct0, q_dct0f, q_neg, q_add_lst, lookM, Option.bind_some, clsU_obj, Nat.reduceEqDiff, Nat.succ_ne_self, reduceCtorEq, q_eqs, q_nes, q_finS, List.set_set, q_try, q_tryAs, q_raiseC, q_raiseO, q_max, q_min, q_list2, q_str, q_mth, q_lm, q_fld, q_listL, q_listT, q_tupL, q_tupT, env0, List.map_cons, List.map_nil, List.length_cons, List.length_nil, List.length_set, List.length_append, Nat.reduceAdd, Nat.reduceSub, Nat.reduceLT, Nat.reduceLeDiff, Nat.zero_add, List.replicate, List.cons_append, List.nil_append, List.getElem?_cons_zero, List.getElem?_cons_succ, List.set_cons_zero, List.set_cons_succ, newL, newT, closed, Option.map_some, Option.map_none, lim, true_and, and_true, if_true, if_false, Bool.false_eq_true, reduceIte, ite_true, ite_false, q_list1, Bool.not_true, Bool.not_false, Nat.le_refl, Int.reduceLT, Int.reduceLE, Int.reducePow, Int.reduceToNat, Int.reduceNeg, List.nil_append, List.append_nil, beq_self_eq_true, decide_true, decide_false, Bool.and_true, Bool.true_and, Bool.and_false, Bool.false_and, Bool.or_true, Bool.true_or, Bool.or_false, Bool.false_or, ji0_NoneType, ji0_BadNumber, ji1_NoneType, ji1_BadNumber, ji2_NoneType, ji2_BadNumber, ji3_NoneType, ji3_bool, ji3_int, ji3_str, ji3_list, ji3_tuple, ji3_dict, ji3_tuple2, ji4_NoneType, ji4_bool, ji4_int, ji4_str, ji4_list, ji4_tuple, ji4_dict, ji4_tuple2, ji5_NoneType, ji5_bool, ji5_int, ji5_str, ji5_list, ji5_tuple, ji5_dict, ji5_tuple2]
  refine draw h ho (by decide) (by decide) fun v1 o1 a1 b1 t1 => ?_
  have g1 := lst_at (x := o1) h
  obtain ⟨cs, a, rr, k, e1, e2, _⟩ := t1.ex
  subst e1
  obtain ⟨c, cs, rfl⟩ : ∃ c l, cs = c :: l := by
    cases cs with
    | nil => exact absurd rfl e2
    | cons c l => exact ⟨c, l, rfl⟩
  have i0 : ∀ s, ixU (.d (.lst (.int c :: cs.map D.int))) (.d (.int 0)) s = .ok (.d (.int c)) s := fun s => ixL (by omega) rfl
  simp only [ix_cells g1, i0, q_pure, q_cvar, q_op1, q_op2, q_nil, q_cons, q_args, q_and, q_or, q_not, q_chain, q_if, q_lst, q_tup, q_tB1, q_tTr, q_tNo, q_tAn, q_tOu, q_tYes, q_sub, q_fdiv, q_mod, q_pow, q_lt, q_le, q_gt, q_ge, q_add, q_mul, q_eqi, q_nei, q_sNil, q_seq, q_sExp, q_ret, q_retN, q_asg, q_sIf, q_put, q_for, q_range1, q_enum, app_get, app_set, q_iseq, seq_str, seq_lst, seq_tup, tru_bl, tru_int, tru_non, q_fin0, q_finX0, EQ_ok, SQ_ok, EQ_bad, SQ_bad, q_dct0, q_dct0f, q_neg, q_add_lst, lookM, Option.bind_some, clsU_obj, Nat.reduceEqDiff, Nat.succ_ne_self, reduceCtorEq, q_eqs, q_nes, q_finS, List.set_set, q_try, q_tryAs, q_raiseC, q_raiseO, q_max, q_min, q_list2, q_str, q_mth, q_lm, q_fld, q_listL, q_listT, q_tupL, q_tupT, env0, List.map_cons, List.map_nil, List.length_cons, List.length_nil, List.length_set, List.length_append, Nat.reduceAdd, Nat.reduceSub, Nat.reduceLT, Nat.reduceLeDiff, Nat.zero_add, List.replicate, List.cons_append, List.nil_append, List.getElem?_cons_zero, List.getElem?_cons_succ, List.set_cons_zero, List.set_cons_succ, newL, newT, closed, Option.map_some, Option.map_none, lim, true_and, and_true, if_true, if_false, Bool.false_eq_true, reduceIte, ite_true, ite_false, q_list1, Bool.not_true, Bool.not_false, Nat.le_refl, Int.reduceLT, Int.reduceLE, Int.reducePow, Int.reduceToNat, Int.reduceNeg, List.nil_append, List.append_nil, beq_self_eq_true, decide_true, decide_false, Bool.and_true, Bool.true_and, Bool.and_false, Bool.false_and, Bool.or_true, Bool.true_or, Bool.or_false, Bool.false_or, ji0_NoneType, ji0_BadNumber, ji1_NoneType, ji1_BadNumber, ji2_NoneType, ji2_BadNumber, ji3_NoneType, ji3_bool, ji3_int, ji3_str, ji3_list, ji3_tuple, ji3_dict, ji3_tuple2, ji4_NoneType, ji4_bool, ji4_int, ji4_str, ji4_list, ji4_tuple, ji4_dict, ji4_tuple2, ji5_NoneType, ji5_bool, ji5_int, ji5_str, ji5_list, ji5_tuple, ji5_dict, ji5_tuple2]
  by_cases hc : (1000000000000000000 : Int) ≤ c
  · simp only [decide_eq_true hc, q_pure, q_cvar, q_op1, q_op2, q_nil, q_cons, q_args, q_and, q_or, q_not, q_chain, q_if, q_lst, q_tup, q_tB1, q_tTr, q_tNo, q_tAn, q_tOu, q_tYes, q_sub, q_fdiv, q_mod, q_pow, q_lt, q_le, q_gt, q_ge, q_add, q_mul, q_eqi, q_nei, q_sNil, q_seq, q_sExp, q_ret, q_retN, q_asg, q_sIf, q_put, q_for, q_range1, q_enum, app_get, app_set, q_iseq, seq_str, seq_lst, seq_tup, tru_bl, tru_int, tru_non, q_fin0, q_finX0, EQ_ok, SQ_ok, EQ_bad, SQ_bad, q_dct0, q_dct0f, q_neg, q_add_lst, lookM, Option.bind_some, clsU_obj, Nat.reduceEqDiff, Nat.succ_ne_self, reduceCtorEq, q_eqs, q_nes, q_finS, List.set_set, q_try, q_tryAs, q_raiseC, q_raiseO, q_max, q_min, q_list2, q_str, q_mth, q_lm, q_fld, q_listL, q_listT, q_tupL, q_tupT, env0, List.map_cons, List.map_nil, List.length_cons, List.length_nil, List.length_set, List.length_append, Nat.reduceAdd, Nat.reduceSub, Nat.reduceLT, Nat.reduceLeDiff, Nat.zero_add, List.replicate, List.cons_append, List.nil_append, List.getElem?_cons_zero, List.getElem?_cons_succ, List.set_cons_zero, List.set_cons_succ, newL, newT, closed, Option.map_some, Option.map_none, lim, true_and, and_true, if_true, if_false, Bool.false_eq_true, reduceIte, ite_true, ite_false, q_list1, Bool.not_true, Bool.not_false, Nat.le_refl, Int.reduceLT, Int.reduceLE, Int.reducePow, Int.reduceToNat, Int.reduceNeg, List.nil_append, List.append_nil, beq_self_eq_true, decide_true, decide_false, Bool.and_true, Bool.true_and, Bool.and_false, Bool.false_and, Bool.or_true, Bool.true_or, Bool.or_false, Bool.false_or, ji0_NoneType, ji0_BadNumber, ji1_NoneType, ji1_BadNumber, ji2_NoneType, ji2_BadNumber, ji3_NoneType, ji3_bool, ji3_int, ji3_str, ji3_list, ji3_tuple, ji3_dict, ji3_tuple2, ji4_NoneType, ji4_bool, ji4_int, ji4_str, ji4_list, ji4_tuple, ji4_dict, ji4_tuple2, ji5_NoneType, ji5_bool, ji5_int, ji5_str, ji5_list, ji5_tuple, ji5_dict, ji5_tuple2]
    exact hQ' v1 _ a1 b1 (t1.mono (by omega))
  · simp only [decide_eq_false hc, q_pure, q_cvar, q_op1, q_op2, q_nil, q_cons, q_args, q_and, q_or, q_not, q_chain, q_if, q_lst, q_tup, q_tB1, q_tTr, q_tNo, q_tAn, q_tOu, q_tYes, q_sub, q_fdiv, q_mod, q_pow, q_lt, q_le, q_gt, q_ge, q_add, q_mul, q_eqi, q_nei, q_sNil, q_seq, q_sExp, q_ret, q_retN, q_asg, q_sIf, q_put, q_for, q_range1, q_enum, app_get, app_set, q_iseq, seq_str, seq_lst, seq_tup, tru_bl, tru_int, tru_non, q_fin0, q_finX0, EQ_ok, SQ_ok, EQ_bad, SQ_bad, q_dct0, q_dct0f, q_neg, q_add_lst, lookM, Option.bind_some, clsU_obj, Nat.reduceEqDiff, Nat.succ_ne_self, reduceCtorEq, q_eqs, q_nes, q_finS, List.set_set, q_try, q_tryAs, q_raiseC, q_raiseO, q_max, q_min, q_list2, q_str, q_mth, q_lm, q_fld, q_listL, q_listT, q_tupL, q_tupT, env0, List.map_cons, List.map_nil, List.length_cons, List.length_nil, List.length_set, List.length_append, Nat.reduceAdd, Nat.reduceSub, Nat.reduceLT, Nat.reduceLeDiff, Nat.zero_add, List.replicate, List.cons_append, List.nil_append, List.getElem?_cons_zero, List.getElem?_cons_succ, List.set_cons_zero, List.set_cons_succ, newL, newT, closed, Option.map_some, Option.map_none, lim, true_and, and_true, if_true, if_false, Bool.false_eq_true, reduceIte, ite_true, ite_false, q_list1, Bool.not_true, Bool.not_false, Nat.le_refl, Int.reduceLT, Int.reduceLE, Int.reducePow, Int.reduceToNat, Int.reduceNeg, List.nil_append, List.append_nil, beq_self_eq_true, decide_true, decide_false, Bool.and_true, Bool.true_and, Bool.and_false, Bool.false_and, Bool.or_true, Bool.true_or, Bool.or_false, Bool.false_or, ji0_NoneType, ji0_BadNumber, ji1_NoneType, ji1_BadNumber, ji2_NoneType, ji2_BadNumber, ji3_NoneType, ji3_bool, ji3_int, ji3_str, ji3_list, ji3_tuple, ji3_dict, ji3_tuple2, ji4_NoneType, ji4_bool, ji4_int, ji4_str, ji4_list, ji4_tuple, ji4_dict, ji4_tuple2, ji5_NoneType, ji5_bool, ji5_int, ji5_str, ji5_list, ji5_tuple, ji5_dict, ji5_tuple2]
    refine draw g1 t1 (by decide) (by decide) fun v2 o2 a2 b2 t2 => ?_
    have g2 := lst_at (x := o2) h
    obtain ⟨V, rfl⟩ := Int.eq_ofNat_of_zero_le a2
    have iv : inR (V : Int) = true := by
      unfold inR
      rw [decide_eq_true (by omega), decide_eq_true (by omega)]
      rfl
    simp only [iv, q_pure, q_cvar, q_op1, q_op2, q_nil, q_cons, q_args, q_and, q_or, q_not, q_chain, q_if, q_lst, q_tup, q_tB1, q_tTr, q_tNo, q_tAn, q_tOu, q_tYes, q_sub, q_fdiv, q_mod, q_pow, q_lt, q_le, q_gt, q_ge, q_add, q_mul, q_eqi, q_nei, q_sNil, q_seq, q_sExp, q_ret, q_retN, q_asg, q_sIf, q_put, q_for, q_range1, q_enum, app_get, app_set, q_iseq, seq_str, seq_lst, seq_tup, tru_bl, tru_int, tru_non, q_fin0, q_finX0, EQ_ok, SQ_ok, EQ_bad, SQ_bad, q_dct0, q_dct0f, q_neg, q_add_lst, lookM, Option.bind_some, clsU_obj, Nat.reduceEqDiff, Nat.succ_ne_self, reduceCtorEq, q_eqs, q_nes, q_finS, List.set_set, q_try, q_tryAs, q_raiseC, q_raiseO, q_max, q_min, q_list2, q_str, q_mth, q_lm, q_fld, q_listL, q_listT, q_tupL, q_tupT, env0, List.map_cons, List.map_nil, List.length_cons, List.length_nil, List.length_set, List.length_append, Nat.reduceAdd, Nat.reduceSub, Nat.reduceLT, Nat.reduceLeDiff, Nat.zero_add, List.replicate, List.cons_append, List.nil_append, List.getElem?_cons_zero, List.getElem?_cons_succ, List.set_cons_zero, List.set_cons_succ, newL, newT, closed, Option.map_some, Option.map_none, lim, true_and, and_true, if_true, if_false, Bool.false_eq_true, reduceIte, ite_true, ite_false, q_list1, Bool.not_true, Bool.not_false, Nat.le_refl, Int.reduceLT, Int.reduceLE, Int.reducePow, Int.reduceToNat, Int.reduceNeg, List.nil_append, List.append_nil, beq_self_eq_true, decide_true, decide_false, Bool.and_true, Bool.true_and, Bool.and_false, Bool.false_and, Bool.or_true, Bool.true_or, Bool.or_false, Bool.false_or, ji0_NoneType, ji0_BadNumber, ji1_NoneType, ji1_BadNumber, ji2_NoneType, ji2_BadNumber, ji3_NoneType, ji3_bool, ji3_int, ji3_str, ji3_list, ji3_tuple, ji3_dict, ji3_tuple2, ji4_NoneType, ji4_bool, ji4_int, ji4_str, ji4_list, ji4_tuple, ji4_dict, ji4_tuple2, ji5_NoneType, ji5_bool, ji5_int, ji5_str, ji5_list, ji5_tuple, ji5_dict, ji5_tuple2]
    refine q_loopN (fun us env s => ∃ j : Nat, j + us.length = V ∧ (∃ b4, env = [some (.c n), some (.d (.int 1000000000000)), some (.d (.int v1)), some (.d (.int ((10 ^ j : Nat) : Int))), b4, none]) ∧ s = st.set n o2) (fun _ _ _ _ => gd_none) ?_ ⟨0, by simp [rngU], ⟨none, rfl⟩, rfl⟩ ?_
    · rintro u us env s ⟨j, hj, ⟨b4, rfl⟩, rfl⟩
      rw [List.length_cons] at hj
      refine ⟨_, rfl, ?_⟩
      simp only [l1_law_number, cmul10, q_pure, q_cvar, q_op1, q_op2, q_nil, q_cons, q_args, q_and, q_or, q_not, q_chain, q_if, q_lst, q_tup, q_tB1, q_tTr, q_tNo, q_tAn, q_tOu, q_tYes, q_sub, q_fdiv, q_mod, q_pow, q_lt, q_le, q_gt, q_ge, q_add, q_mul, q_eqi, q_nei, q_sNil, q_seq, q_sExp, q_ret, q_retN, q_asg, q_sIf, q_put, q_for, q_range1, q_enum, app_get, app_set, q_iseq, seq_str, seq_lst, seq_tup, tru_bl, tru_int, tru_non, q_fin0, q_finX0, EQ_ok, SQ_ok, EQ_bad, SQ_bad, q_dct0, q_dct0f, q_neg, q_add_lst, lookM, Option.bind_some, clsU_obj, Nat.reduceEqDiff, Nat.succ_ne_self, reduceCtorEq, q_eqs, q_nes, q_finS, List.set_set, q_try, q_tryAs, q_raiseC, q_raiseO, q_max, q_min, q_list2, q_str, q_mth, q_lm, q_fld, q_listL, q_listT, q_tupL, q_tupT, env0, List.map_cons, List.map_nil, List.length_cons, List.length_nil, List.length_set, List.length_append, Nat.reduceAdd, Nat.reduceSub, Nat.reduceLT, Nat.reduceLeDiff, Nat.zero_add, List.replicate, List.cons_append, List.nil_append, List.getElem?_cons_zero, List.getElem?_cons_succ, List.set_cons_zero, List.set_cons_succ, newL, newT, closed, Option.map_some, Option.map_none, lim, true_and, and_true, if_true, if_false, Bool.false_eq_true, reduceIte, ite_true, ite_false, q_list1, Bool.not_true, Bool.not_false, Nat.le_refl, Int.reduceLT, Int.reduceLE, Int.reducePow, Int.reduceToNat, Int.reduceNeg, List.nil_append, List.append_nil, beq_self_eq_true, decide_true, decide_false, Bool.and_true, Bool.true_and, Bool.and_false, Bool.false_and, Bool.or_true, Bool.true_or, Bool.or_false, Bool.false_or, ji0_NoneType, ji0_BadNumber, ji1_NoneType, ji1_BadNumber, ji2_NoneType, ji2_BadNumber, ji3_NoneType, ji3_bool, ji3_int, ji3_str, ji3_list, ji3_tuple, ji3_dict, ji3_tuple2, ji4_NoneType, ji4_bool, ji4_int, ji4_str, ji4_list, ji4_tuple, ji4_dict, ji4_tuple2, ji5_NoneType, ji5_bool, ji5_int, ji5_str, ji5_list, ji5_tuple, ji5_dict, ji5_tuple2]
      refine ⟨j + 1, by omega, some u, ?_⟩
      have e : ((10 ^ j : Nat) : Int) * 10 = ((10 ^ (j + 1) : Nat) : Int) := by
        rw [Nat.pow_succ]
        omega
      rw [e]
    · intro env s hI
      obtain ⟨j, hj, ⟨b4, he⟩, hs⟩ := hI
      generalize hP : 10 ^ j = P at he
      have hP1 : 1 ≤ P ∧ P ≤ 10 ^ 12 := by
        subst hP
        have : j ≤ 12 := by simp only [List.length_nil] at hj; omega
        exact ⟨Nat.pos_of_ne_zero (by simp), Nat.pow_le_pow_right (by omega) this⟩
      have m9 : cMulOk (P : Int) 9 = true := by
        unfold cMulOk
        have : smallF 9 = true := by decide
        rw [this, Bool.or_true]
      simp only [he, hs, m9, q_pure, q_cvar, q_op1, q_op2, q_nil, q_cons, q_args, q_and, q_or, q_not, q_chain, q_if, q_lst, q_tup, q_tB1, q_tTr, q_tNo, q_tAn, q_tOu, q_tYes, q_sub, q_fdiv, q_mod, q_pow, q_lt, q_le, q_gt, q_ge, q_add, q_mul, q_eqi, q_nei, q_sNil, q_seq, q_sExp, q_ret, q_retN, q_asg, q_sIf, q_put, q_for, q_range1, q_enum, app_get, app_set, q_iseq, seq_str, seq_lst, seq_tup, tru_bl, tru_int, tru_non, q_fin0, q_finX0, EQ_ok, SQ_ok, EQ_bad, SQ_bad, q_dct0, q_dct0f, q_neg, q_add_lst, lookM, Option.bind_some, clsU_obj, Nat.reduceEqDiff, Nat.succ_ne_self, reduceCtorEq, q_eqs, q_nes, q_finS, List.set_set, q_try, q_tryAs, q_raiseC, q_raiseO, q_max, q_min, q_list2, q_str, q_mth, q_lm, q_fld, q_listL, q_listT, q_tupL, q_tupT, env0, List.map_cons, List.map_nil, List.length_cons, List.length_nil, List.length_set, List.length_append, Nat.reduceAdd, Nat.reduceSub, Nat.reduceLT, Nat.reduceLeDiff, Nat.zero_add, List.replicate, List.cons_append, List.nil_append, List.getElem?_cons_zero, List.getElem?_cons_succ, List.set_cons_zero, List.set_cons_succ, newL, newT, closed, Option.map_some, Option.map_none, lim, true_and, and_true, if_true, if_false, Bool.false_eq_true, reduceIte, ite_true, ite_false, q_list1, Bool.not_true, Bool.not_false, Nat.le_refl, Int.reduceLT, Int.reduceLE, Int.reducePow, Int.reduceToNat, Int.reduceNeg, List.nil_append, List.append_nil, beq_self_eq_true, decide_true, decide_false, Bool.and_true, Bool.true_and, Bool.and_false, Bool.false_and, Bool.or_true, Bool.true_or, Bool.or_false, Bool.false_or, ji0_NoneType, ji0_BadNumber, ji1_NoneType, ji1_BadNumber, ji2_NoneType, ji2_BadNumber, ji3_NoneType, ji3_bool, ji3_int, ji3_str, ji3_list, ji3_tuple, ji3_dict, ji3_tuple2, ji4_NoneType, ji4_bool, ji4_int, ji4_str, ji4_list, ji4_tuple, ji4_dict, ji4_tuple2, ji5_NoneType, ji5_bool, ji5_int, ji5_str, ji5_list, ji5_tuple, ji5_dict, ji5_tuple2]
      refine ⟨by omega, draw g2 t2 (by decide) (by decide) fun v3 o3 a3 b3 t3 => ?_⟩
      simp only [List.set_set, q_pure, q_cvar, q_op1, q_op2, q_nil, q_cons, q_args, q_and, q_or, q_not, q_chain, q_if, q_lst, q_tup, q_tB1, q_tTr, q_tNo, q_tAn, q_tOu, q_tYes, q_sub, q_fdiv, q_mod, q_pow, q_lt, q_le, q_gt, q_ge, q_add, q_mul, q_eqi, q_nei, q_sNil, q_seq, q_sExp, q_ret, q_retN, q_asg, q_sIf, q_put, q_for, q_range1, q_enum, app_get, app_set, q_iseq, seq_str, seq_lst, seq_tup, tru_bl, tru_int, tru_non, q_fin0, q_finX0, EQ_ok, SQ_ok, EQ_bad, SQ_bad, q_dct0, q_dct0f, q_neg, q_add_lst, lookM, Option.bind_some, clsU_obj, Nat.reduceEqDiff, Nat.succ_ne_self, reduceCtorEq, q_eqs, q_nes, q_finS, List.set_set, q_try, q_tryAs, q_raiseC, q_raiseO, q_max, q_min, q_list2, q_str, q_mth, q_lm, q_fld, q_listL, q_listT, q_tupL, q_tupT, env0, List.map_cons, List.map_nil, List.length_cons, List.length_nil, List.length_set, List.length_append, Nat.reduceAdd, Nat.reduceSub, Nat.reduceLT, Nat.reduceLeDiff, Nat.zero_add, List.replicate, List.cons_append, List.nil_append, List.getElem?_cons_zero, List.getElem?_cons_succ, List.set_cons_zero, List.set_cons_succ, newL, newT, closed, Option.map_some, Option.map_none, lim, true_and, and_true, if_true, if_false, Bool.false_eq_true, reduceIte, ite_true, ite_false, q_list1, Bool.not_true, Bool.not_false, Nat.le_refl, Int.reduceLT, Int.reduceLE, Int.reducePow, Int.reduceToNat, Int.reduceNeg, List.nil_append, List.append_nil, beq_self_eq_true, decide_true, decide_false, Bool.and_true, Bool.true_and, Bool.and_false, Bool.false_and, Bool.or_true, Bool.true_or, Bool.or_false, Bool.false_or, ji0_NoneType, ji0_BadNumber, ji1_NoneType, ji1_BadNumber, ji2_NoneType, ji2_BadNumber, ji3_NoneType, ji3_bool, ji3_int, ji3_str, ji3_list, ji3_tuple, ji3_dict, ji3_tuple2, ji4_NoneType, ji4_bool, ji4_int, ji4_str, ji4_list, ji4_tuple, ji4_dict, ji4_tuple2, ji5_NoneType, ji5_bool, ji5_int, ji5_str, ji5_list, ji5_tuple, ji5_dict, ji5_tuple2]
      refine q_ixl a3 (by simp only [List.length_cons, List.length_nil]; omega) fun x hx => ?_
      simp only [List.mem_cons, List.not_mem_nil, or_false] at hx
      have pP : (0 : Int) < P := by omega
      have m1 := Int.emod_nonneg v1 (show (P : Int) ≠ 0 by omega)
      have m2 := Int.emod_lt_of_pos v1 pP
      rcases hx with rfl | rfl | rfl | rfl | rfl | rfl | rfl | rfl
      · simp only [q_pure, q_cvar, q_op1, q_op2, q_nil, q_cons, q_args, q_and, q_or, q_not, q_chain, q_if, q_lst, q_tup, q_tB1, q_tTr, q_tNo, q_tAn, q_tOu, q_tYes, q_sub, q_fdiv, q_mod, q_pow, q_lt, q_le, q_gt, q_ge, q_add, q_mul, q_eqi, q_nei, q_sNil, q_seq, q_sExp, q_ret, q_retN, q_asg, q_sIf, q_put, q_for, q_range1, q_enum, app_get, app_set, q_iseq, seq_str, seq_lst, seq_tup, tru_bl, tru_int, tru_non, q_fin0, q_finX0, EQ_ok, SQ_ok, EQ_bad, SQ_bad, q_dct0, q_dct0f, q_neg, q_add_lst, lookM, Option.bind_some, clsU_obj, Nat.reduceEqDiff, Nat.succ_ne_self, reduceCtorEq, q_eqs, q_nes, q_finS, List.set_set, q_try, q_tryAs, q_raiseC, q_raiseO, q_max, q_min, q_list2, q_str, q_mth, q_lm, q_fld, q_listL, q_listT, q_tupL, q_tupT, env0, List.map_cons, List.map_nil, List.length_cons, List.length_nil, List.length_set, List.length_append, Nat.reduceAdd, Nat.reduceSub, Nat.reduceLT, Nat.reduceLeDiff, Nat.zero_add, List.replicate, List.cons_append, List.nil_append, List.getElem?_cons_zero, List.getElem?_cons_succ, List.set_cons_zero, List.set_cons_succ, newL, newT, closed, Option.map_some, Option.map_none, lim, true_and, and_true, if_true, if_false, Bool.false_eq_true, reduceIte, ite_true, ite_false, q_list1, Bool.not_true, Bool.not_false, Nat.le_refl, Int.reduceLT, Int.reduceLE, Int.reducePow, Int.reduceToNat, Int.reduceNeg, List.nil_append, List.append_nil, beq_self_eq_true, decide_true, decide_false, Bool.and_true, Bool.true_and, Bool.and_false, Bool.false_and, Bool.or_true, Bool.true_or, Bool.or_false, Bool.false_or, ji0_NoneType, ji0_BadNumber, ji1_NoneType, ji1_BadNumber, ji2_NoneType, ji2_BadNumber, ji3_NoneType, ji3_bool, ji3_int, ji3_str, ji3_list, ji3_tuple, ji3_dict, ji3_tuple2, ji4_NoneType, ji4_bool, ji4_int, ji4_str, ji4_list, ji4_tuple, ji4_dict, ji4_tuple2, ji5_NoneType, ji5_bool, ji5_int, ji5_str, ji5_list, ji5_tuple, ji5_dict, ji5_tuple2]
        exact hQ' _ o3 (by omega) (by omega) t3
      · simp only [q_pure, q_cvar, q_op1, q_op2, q_nil, q_cons, q_args, q_and, q_or, q_not, q_chain, q_if, q_lst, q_tup, q_tB1, q_tTr, q_tNo, q_tAn, q_tOu, q_tYes, q_sub, q_fdiv, q_mod, q_pow, q_lt, q_le, q_gt, q_ge, q_add, q_mul, q_eqi, q_nei, q_sNil, q_seq, q_sExp, q_ret, q_retN, q_asg, q_sIf, q_put, q_for, q_range1, q_enum, app_get, app_set, q_iseq, seq_str, seq_lst, seq_tup, tru_bl, tru_int, tru_non, q_fin0, q_finX0, EQ_ok, SQ_ok, EQ_bad, SQ_bad, q_dct0, q_dct0f, q_neg, q_add_lst, lookM, Option.bind_some, clsU_obj, Nat.reduceEqDiff, Nat.succ_ne_self, reduceCtorEq, q_eqs, q_nes, q_finS, List.set_set, q_try, q_tryAs, q_raiseC, q_raiseO, q_max, q_min, q_list2, q_str, q_mth, q_lm, q_fld, q_listL, q_listT, q_tupL, q_tupT, env0, List.map_cons, List.map_nil, List.length_cons, List.length_nil, List.length_set, List.length_append, Nat.reduceAdd, Nat.reduceSub, Nat.reduceLT, Nat.reduceLeDiff, Nat.zero_add, List.replicate, List.cons_append, List.nil_append, List.getElem?_cons_zero, List.getElem?_cons_succ, List.set_cons_zero, List.set_cons_succ, newL, newT, closed, Option.map_some, Option.map_none, lim, true_and, and_true, if_true, if_false, Bool.false_eq_true, reduceIte, ite_true, ite_false, q_list1, Bool.not_true, Bool.not_false, Nat.le_refl, Int.reduceLT, Int.reduceLE, Int.reducePow, Int.reduceToNat, Int.reduceNeg, List.nil_append, List.append_nil, beq_self_eq_true, decide_true, decide_false, Bool.and_true, Bool.true_and, Bool.and_false, Bool.false_and, Bool.or_true, Bool.true_or, Bool.or_false, Bool.false_or, ji0_NoneType, ji0_BadNumber, ji1_NoneType, ji1_BadNumber, ji2_NoneType, ji2_BadNumber, ji3_NoneType, ji3_bool, ji3_int, ji3_str, ji3_list, ji3_tuple, ji3_dict, ji3_tuple2, ji4_NoneType, ji4_bool, ji4_int, ji4_str, ji4_list, ji4_tuple, ji4_dict, ji4_tuple2, ji5_NoneType, ji5_bool, ji5_int, ji5_str, ji5_list, ji5_tuple, ji5_dict, ji5_tuple2]
        exact hQ' _ o3 (by omega) (by omega) t3
      · simp only [q_pure, q_cvar, q_op1, q_op2, q_nil, q_cons, q_args, q_and, q_or, q_not, q_chain, q_if, q_lst, q_tup, q_tB1, q_tTr, q_tNo, q_tAn, q_tOu, q_tYes, q_sub, q_fdiv, q_mod, q_pow, q_lt, q_le, q_gt, q_ge, q_add, q_mul, q_eqi, q_nei, q_sNil, q_seq, q_sExp, q_ret, q_retN, q_asg, q_sIf, q_put, q_for, q_range1, q_enum, app_get, app_set, q_iseq, seq_str, seq_lst, seq_tup, tru_bl, tru_int, tru_non, q_fin0, q_finX0, EQ_ok, SQ_ok, EQ_bad, SQ_bad, q_dct0, q_dct0f, q_neg, q_add_lst, lookM, Option.bind_some, clsU_obj, Nat.reduceEqDiff, Nat.succ_ne_self, reduceCtorEq, q_eqs, q_nes, q_finS, List.set_set, q_try, q_tryAs, q_raiseC, q_raiseO, q_max, q_min, q_list2, q_str, q_mth, q_lm, q_fld, q_listL, q_listT, q_tupL, q_tupT, env0, List.map_cons, List.map_nil, List.length_cons, List.length_nil, List.length_set, List.length_append, Nat.reduceAdd, Nat.reduceSub, Nat.reduceLT, Nat.reduceLeDiff, Nat.zero_add, List.replicate, List.cons_append, List.nil_append, List.getElem?_cons_zero, List.getElem?_cons_succ, List.set_cons_zero, List.set_cons_succ, newL, newT, closed, Option.map_some, Option.map_none, lim, true_and, and_true, if_true, if_false, Bool.false_eq_true, reduceIte, ite_true, ite_false, q_list1, Bool.not_true, Bool.not_false, Nat.le_refl, Int.reduceLT, Int.reduceLE, Int.reducePow, Int.reduceToNat, Int.reduceNeg, List.nil_append, List.append_nil, beq_self_eq_true, decide_true, decide_false, Bool.and_true, Bool.true_and, Bool.and_false, Bool.false_and, Bool.or_true, Bool.true_or, Bool.or_false, Bool.false_or, ji0_NoneType, ji0_BadNumber, ji1_NoneType, ji1_BadNumber, ji2_NoneType, ji2_BadNumber, ji3_NoneType, ji3_bool, ji3_int, ji3_str, ji3_list, ji3_tuple, ji3_dict, ji3_tuple2, ji4_NoneType, ji4_bool, ji4_int, ji4_str, ji4_list, ji4_tuple, ji4_dict, ji4_tuple2, ji5_NoneType, ji5_bool, ji5_int, ji5_str, ji5_list, ji5_tuple, ji5_dict, ji5_tuple2]
        exact hQ' _ o3 (by omega) (by omega) t3
      · simp only [q_pure, q_cvar, q_op1, q_op2, q_nil, q_cons, q_args, q_and, q_or, q_not, q_chain, q_if, q_lst, q_tup, q_tB1, q_tTr, q_tNo, q_tAn, q_tOu, q_tYes, q_sub, q_fdiv, q_mod, q_pow, q_lt, q_le, q_gt, q_ge, q_add, q_mul, q_eqi, q_nei, q_sNil, q_seq, q_sExp, q_ret, q_retN, q_asg, q_sIf, q_put, q_for, q_range1, q_enum, app_get, app_set, q_iseq, seq_str, seq_lst, seq_tup, tru_bl, tru_int, tru_non, q_fin0, q_finX0, EQ_ok, SQ_ok, EQ_bad, SQ_bad, q_dct0, q_dct0f, q_neg, q_add_lst, lookM, Option.bind_some, clsU_obj, Nat.reduceEqDiff, Nat.succ_ne_self, reduceCtorEq, q_eqs, q_nes, q_finS, List.set_set, q_try, q_tryAs, q_raiseC, q_raiseO, q_max, q_min, q_list2, q_str, q_mth, q_lm, q_fld, q_listL, q_listT, q_tupL, q_tupT, env0, List.map_cons, List.map_nil, List.length_cons, List.length_nil, List.length_set, List.length_append, Nat.reduceAdd, Nat.reduceSub, Nat.reduceLT, Nat.reduceLeDiff, Nat.zero_add, List.replicate, List.cons_append, List.nil_append, List.getElem?_cons_zero, List.getElem?_cons_succ, List.set_cons_zero, List.set_cons_succ, newL, newT, closed, Option.map_some, Option.map_none, lim, true_and, and_true, if_true, if_false, Bool.false_eq_true, reduceIte, ite_true, ite_false, q_list1, Bool.not_true, Bool.not_false, Nat.le_refl, Int.reduceLT, Int.reduceLE, Int.reducePow, Int.reduceToNat, Int.reduceNeg, List.nil_append, List.append_nil, beq_self_eq_true, decide_true, decide_false, Bool.and_true, Bool.true_and, Bool.and_false, Bool.false_and, Bool.or_true, Bool.true_or, Bool.or_false, Bool.false_or, ji0_NoneType, ji0_BadNumber, ji1_NoneType, ji1_BadNumber, ji2_NoneType, ji2_BadNumber, ji3_NoneType, ji3_bool, ji3_int, ji3_str, ji3_list, ji3_tuple, ji3_dict, ji3_tuple2, ji4_NoneType, ji4_bool, ji4_int, ji4_str, ji4_list, ji4_tuple, ji4_dict, ji4_tuple2, ji5_NoneType, ji5_bool, ji5_int, ji5_str, ji5_list, ji5_tuple, ji5_dict, ji5_tuple2]
        exact hQ' _ o3 (by omega) (by omega) t3
      · simp only [q_pure, q_cvar, q_op1, q_op2, q_nil, q_cons, q_args, q_and, q_or, q_not, q_chain, q_if, q_lst, q_tup, q_tB1, q_tTr, q_tNo, q_tAn, q_tOu, q_tYes, q_sub, q_fdiv, q_mod, q_pow, q_lt, q_le, q_gt, q_ge, q_add, q_mul, q_eqi, q_nei, q_sNil, q_seq, q_sExp, q_ret, q_retN, q_asg, q_sIf, q_put, q_for, q_range1, q_enum, app_get, app_set, q_iseq, seq_str, seq_lst, seq_tup, tru_bl, tru_int, tru_non, q_fin0, q_finX0, EQ_ok, SQ_ok, EQ_bad, SQ_bad, q_dct0, q_dct0f, q_neg, q_add_lst, lookM, Option.bind_some, clsU_obj, Nat.reduceEqDiff, Nat.succ_ne_self, reduceCtorEq, q_eqs, q_nes, q_finS, List.set_set, q_try, q_tryAs, q_raiseC, q_raiseO, q_max, q_min, q_list2, q_str, q_mth, q_lm, q_fld, q_listL, q_listT, q_tupL, q_tupT, env0, List.map_cons, List.map_nil, List.length_cons, List.length_nil, List.length_set, List.length_append, Nat.reduceAdd, Nat.reduceSub, Nat.reduceLT, Nat.reduceLeDiff, Nat.zero_add, List.replicate, List.cons_append, List.nil_append, List.getElem?_cons_zero, List.getElem?_cons_succ, List.set_cons_zero, List.set_cons_succ, newL, newT, closed, Option.map_some, Option.map_none, lim, true_and, and_true, if_true, if_false, Bool.false_eq_true, reduceIte, ite_true, ite_false, q_list1, Bool.not_true, Bool.not_false, Nat.le_refl, Int.reduceLT, Int.reduceLE, Int.reducePow, Int.reduceToNat, Int.reduceNeg, List.nil_append, List.append_nil, beq_self_eq_true, decide_true, decide_false, Bool.and_true, Bool.true_and, Bool.and_false, Bool.false_and, Bool.or_true, Bool.true_or, Bool.or_false, Bool.false_or, ji0_NoneType, ji0_BadNumber, ji1_NoneType, ji1_BadNumber, ji2_NoneType, ji2_BadNumber, ji3_NoneType, ji3_bool, ji3_int, ji3_str, ji3_list, ji3_tuple, ji3_dict, ji3_tuple2, ji4_NoneType, ji4_bool, ji4_int, ji4_str, ji4_list, ji4_tuple, ji4_dict, ji4_tuple2, ji5_NoneType, ji5_bool, ji5_int, ji5_str, ji5_list, ji5_tuple, ji5_dict, ji5_tuple2]
        exact hQ' _ o3 (by omega) (by omega) t3
      · simp only [q_pure, q_cvar, q_op1, q_op2, q_nil, q_cons, q_args, q_and, q_or, q_not, q_chain, q_if, q_lst, q_tup, q_tB1, q_tTr, q_tNo, q_tAn, q_tOu, q_tYes, q_sub, q_fdiv, q_mod, q_pow, q_lt, q_le, q_gt, q_ge, q_add, q_mul, q_eqi, q_nei, q_sNil, q_seq, q_sExp, q_ret, q_retN, q_asg, q_sIf, q_put, q_for, q_range1, q_enum, app_get, app_set, q_iseq, seq_str, seq_lst, seq_tup, tru_bl, tru_int, tru_non, q_fin0, q_finX0, EQ_ok, SQ_ok, EQ_bad, SQ_bad, q_dct0, q_dct0f, q_neg, q_add_lst, lookM, Option.bind_some, clsU_obj, Nat.reduceEqDiff, Nat.succ_ne_self, reduceCtorEq, q_eqs, q_nes, q_finS, List.set_set, q_try, q_tryAs, q_raiseC, q_raiseO, q_max, q_min, q_list2, q_str, q_mth, q_lm, q_fld, q_listL, q_listT, q_tupL, q_tupT, env0, List.map_cons, List.map_nil, List.length_cons, List.length_nil, List.length_set, List.length_append, Nat.reduceAdd, Nat.reduceSub, Nat.reduceLT, Nat.reduceLeDiff, Nat.zero_add, List.replicate, List.cons_append, List.nil_append, List.getElem?_cons_zero, List.getElem?_cons_succ, List.set_cons_zero, List.set_cons_succ, newL, newT, closed, Option.map_some, Option.map_none, lim, true_and, and_true, if_true, if_false, Bool.false_eq_true, reduceIte, ite_true, ite_false, q_list1, Bool.not_true, Bool.not_false, Nat.le_refl, Int.reduceLT, Int.reduceLE, Int.reducePow, Int.reduceToNat, Int.reduceNeg, List.nil_append, List.append_nil, beq_self_eq_true, decide_true, decide_false, Bool.and_true, Bool.true_and, Bool.and_false, Bool.false_and, Bool.or_true, Bool.true_or, Bool.or_false, Bool.false_or, ji0_NoneType, ji0_BadNumber, ji1_NoneType, ji1_BadNumber, ji2_NoneType, ji2_BadNumber, ji3_NoneType, ji3_bool, ji3_int, ji3_str, ji3_list, ji3_tuple, ji3_dict, ji3_tuple2, ji4_NoneType, ji4_bool, ji4_int, ji4_str, ji4_list, ji4_tuple, ji4_dict, ji4_tuple2, ji5_NoneType, ji5_bool, ji5_int, ji5_str, ji5_list, ji5_tuple, ji5_dict, ji5_tuple2]
        exact hQ' _ o3 m1 (by omega) t3
      · simp only [q_pure, q_cvar, q_op1, q_op2, q_nil, q_cons, q_args, q_and, q_or, q_not, q_chain, q_if, q_lst, q_tup, q_tB1, q_tTr, q_tNo, q_tAn, q_tOu, q_tYes, q_sub, q_fdiv, q_mod, q_pow, q_lt, q_le, q_gt, q_ge, q_add, q_mul, q_eqi, q_nei, q_sNil, q_seq, q_sExp, q_ret, q_retN, q_asg, q_sIf, q_put, q_for, q_range1, q_enum, app_get, app_set, q_iseq, seq_str, seq_lst, seq_tup, tru_bl, tru_int, tru_non, q_fin0, q_finX0, EQ_ok, SQ_ok, EQ_bad, SQ_bad, q_dct0, q_dct0f, q_neg, q_add_lst, lookM, Option.bind_some, clsU_obj, Nat.reduceEqDiff, Nat.succ_ne_self, reduceCtorEq, q_eqs, q_nes, q_finS, List.set_set, q_try, q_tryAs, q_raiseC, q_raiseO, q_max, q_min, q_list2, q_str, q_mth, q_lm, q_fld, q_listL, q_listT, q_tupL, q_tupT, env0, List.map_cons, List.map_nil, List.length_cons, List.length_nil, List.length_set, List.length_append, Nat.reduceAdd, Nat.reduceSub, Nat.reduceLT, Nat.reduceLeDiff, Nat.zero_add, List.replicate, List.cons_append, List.nil_append, List.getElem?_cons_zero, List.getElem?_cons_succ, List.set_cons_zero, List.set_cons_succ, newL, newT, closed, Option.map_some, Option.map_none, lim, true_and, and_true, if_true, if_false, Bool.false_eq_true, reduceIte, ite_true, ite_false, q_list1, Bool.not_true, Bool.not_false, Nat.le_refl, Int.reduceLT, Int.reduceLE, Int.reducePow, Int.reduceToNat, Int.reduceNeg, List.nil_append, List.append_nil, beq_self_eq_true, decide_true, decide_false, Bool.and_true, Bool.true_and, Bool.and_false, Bool.false_and, Bool.or_true, Bool.true_or, Bool.or_false, Bool.false_or, ji0_NoneType, ji0_BadNumber, ji1_NoneType, ji1_BadNumber, ji2_NoneType, ji2_BadNumber, ji3_NoneType, ji3_bool, ji3_int, ji3_str, ji3_list, ji3_tuple, ji3_dict, ji3_tuple2, ji4_NoneType, ji4_bool, ji4_int, ji4_str, ji4_list, ji4_tuple, ji4_dict, ji4_tuple2, ji5_NoneType, ji5_bool, ji5_int, ji5_str, ji5_list, ji5_tuple, ji5_dict, ji5_tuple2]
        exact hQ' _ o3 (by omega) (by omega) t3
      · simp only [q_pure, q_cvar, q_op1, q_op2, q_nil, q_cons, q_args, q_and, q_or, q_not, q_chain, q_if, q_lst, q_tup, q_tB1, q_tTr, q_tNo, q_tAn, q_tOu, q_tYes, q_sub, q_fdiv, q_mod, q_pow, q_lt, q_le, q_gt, q_ge, q_add, q_mul, q_eqi, q_nei, q_sNil, q_seq, q_sExp, q_ret, q_retN, q_asg, q_sIf, q_put, q_for, q_range1, q_enum, app_get, app_set, q_iseq, seq_str, seq_lst, seq_tup, tru_bl, tru_int, tru_non, q_fin0, q_finX0, EQ_ok, SQ_ok, EQ_bad, SQ_bad, q_dct0, q_dct0f, q_neg, q_add_lst, lookM, Option.bind_some, clsU_obj, Nat.reduceEqDiff, Nat.succ_ne_self, reduceCtorEq, q_eqs, q_nes, q_finS, List.set_set, q_try, q_tryAs, q_raiseC, q_raiseO, q_max, q_min, q_list2, q_str, q_mth, q_lm, q_fld, q_listL, q_listT, q_tupL, q_tupT, env0, List.map_cons, List.map_nil, List.length_cons, List.length_nil, List.length_set, List.length_append, Nat.reduceAdd, Nat.reduceSub, Nat.reduceLT, Nat.reduceLeDiff, Nat.zero_add, List.replicate, List.cons_append, List.nil_append, List.getElem?_cons_zero, List.getElem?_cons_succ, List.set_cons_zero, List.set_cons_succ, newL, newT, closed, Option.map_some, Option.map_none, lim, true_and, and_true, if_true, if_false, Bool.false_eq_true, reduceIte, ite_true, ite_false, q_list1, Bool.not_true, Bool.not_false, Nat.le_refl, Int.reduceLT, Int.reduceLE, Int.reducePow, Int.reduceToNat, Int.reduceNeg, List.nil_append, List.append_nil, beq_self_eq_true, decide_true, decide_false, Bool.and_true, Bool.true_and, Bool.and_false, Bool.false_and, Bool.or_true, Bool.true_or, Bool.or_false, Bool.false_or, ji0_NoneType, ji0_BadNumber, ji1_NoneType, ji1_BadNumber, ji2_NoneType, ji2_BadNumber, ji3_NoneType, ji3_bool, ji3_int, ji3_str, ji3_list, ji3_tuple, ji3_dict, ji3_tuple2, ji4_NoneType, ji4_bool, ji4_int, ji4_str, ji4_list, ji4_tuple, ji4_dict, ji4_tuple2, ji5_NoneType, ji5_bool, ji5_int, ji5_str, ji5_list, ji5_tuple, ji5_dict, ji5_tuple2]
        exact hQ' _ o3 (by omega) (by omega) t3
theorem caught_rule {d : D} (hd : flatK d = true) (hn : isNum d = false) : q_law_caught true [.d d] st = .ok (.d (.exc 21 [] [])) st := by
  have e : lookX exms 21 (.own 20) = some true := by decide
  refine ok_of (q_call rfl ?_)
  simp only [b_law_caught, q_pure, q_cvar, q_op1, q_op2, q_nil, q_cons, q_args, q_and, q_or, q_not, q_chain, q_if, q_lst, q_tup, q_tB1, q_tTr, q_tNo, q_tAn, q_tOu, q_tYes, q_sub, q_fdiv, q_mod, q_pow, q_lt, q_le, q_gt, q_ge, q_add, q_mul, q_eqi, q_nei, q_sNil, q_seq, q_sExp, q_ret, q_retN, q_asg, q_sIf, q_put, q_for, q_range1, q_enum, app_get, app_set, q_iseq, seq_str, seq_lst, seq_tup, tru_bl, tru_int, tru_non, q_fin0, q_finX0, EQ_ok, SQ_ok, EQ_bad, SQ_bad, q_dct0, q_dct0f, q_neg, q_add_lst, lookM, Option.bind_some, clsU_obj, Nat.reduceEqDiff, Nat.succ_ne_self, reduceCtorEq, q_eqs, q_nes, q_finS, List.set_set, q_try, q_tryAs, q_raiseC, q_raiseO, q_max, q_min, q_list2, q_str, q_mth, q_lm, q_fld, q_listL, q_listT, q_tupL, q_tupT, env0, List.map_cons, List.map_nil, List.length_cons, List.length_nil, List.length_set, List.length_append, Nat.reduceAdd, Nat.reduceSub, Nat.reduceLT, Nat.reduceLeDiff, Nat.zero_add, List.replicate, List.cons_append, List.nil_append, List.getElem?_cons_zero, List.getElem?_cons_succ, List.set_cons_zero, List.set_cons_succ, newL, newT, closed, Option.map_some, Option.map_none, lim, true_and, and_true, if_true, if_false, Bool.false_eq_true, reduceIte, ite_true, ite_false, q_list1, Bool.not_true, Bool.not_false, Nat.le_refl, Int.reduceLT, Int.reduceLE, Int.reducePow, Int.reduceToNat, Int.reduceNeg, List.nil_append, List.append_nil, beq_self_eq_true, decide_true, decide_false, Bool.and_true, Bool.true_and, Bool.and_false, Bool.false_and, Bool.or_true, Bool.true_or, Bool.or_false, Bool.false_or, ji0_NoneType, ji0_BadNumber, ji1_NoneType, ji1_BadNumber, ji2_NoneType, ji2_BadNumber, ji3_NoneType, ji3_bool, ji3_int, ji3_str, ji3_list, ji3_tuple, ji3_dict, ji3_tuple2, ji4_NoneType, ji4_bool, ji4_int, ji4_str, ji4_list, ji4_tuple, ji4_dict, ji4_tuple2, ji5_NoneType, ji5_bool, ji5_int, ji5_str, ji5_list, ji5_tuple, ji5_dict, ji5_tuple2]
  refine q_call rfl ?_
  simp only [b_tied, number_rule hd, hn, e, q_pure, q_cvar, q_op1, q_op2, q_nil, q_cons, q_args, q_and, q_or, q_not, q_chain, q_if, q_lst, q_tup, q_tB1, q_tTr, q_tNo, q_tAn, q_tOu, q_tYes, q_sub, q_fdiv, q_mod, q_pow, q_lt, q_le, q_gt, q_ge, q_add, q_mul, q_eqi, q_nei, q_sNil, q_seq, q_sExp, q_ret, q_retN, q_asg, q_sIf, q_put, q_for, q_range1, q_enum, app_get, app_set, q_iseq, seq_str, seq_lst, seq_tup, tru_bl, tru_int, tru_non, q_fin0, q_finX0, EQ_ok, SQ_ok, EQ_bad, SQ_bad, q_dct0, q_dct0f, q_neg, q_add_lst, lookM, Option.bind_some, clsU_obj, Nat.reduceEqDiff, Nat.succ_ne_self, reduceCtorEq, q_eqs, q_nes, q_finS, List.set_set, q_try, q_tryAs, q_raiseC, q_raiseO, q_max, q_min, q_list2, q_str, q_mth, q_lm, q_fld, q_listL, q_listT, q_tupL, q_tupT, env0, List.map_cons, List.map_nil, List.length_cons, List.length_nil, List.length_set, List.length_append, Nat.reduceAdd, Nat.reduceSub, Nat.reduceLT, Nat.reduceLeDiff, Nat.zero_add, List.replicate, List.cons_append, List.nil_append, List.getElem?_cons_zero, List.getElem?_cons_succ, List.set_cons_zero, List.set_cons_succ, newL, newT, closed, Option.map_some, Option.map_none, lim, true_and, and_true, if_true, if_false, Bool.false_eq_true, reduceIte, ite_true, ite_false, q_list1, Bool.not_true, Bool.not_false, Nat.le_refl, Int.reduceLT, Int.reduceLE, Int.reducePow, Int.reduceToNat, Int.reduceNeg, List.nil_append, List.append_nil, beq_self_eq_true, decide_true, decide_false, Bool.and_true, Bool.true_and, Bool.and_false, Bool.false_and, Bool.or_true, Bool.true_or, Bool.or_false, Bool.false_or, ji0_NoneType, ji0_BadNumber, ji1_NoneType, ji1_BadNumber, ji2_NoneType, ji2_BadNumber, ji3_NoneType, ji3_bool, ji3_int, ji3_str, ji3_list, ji3_tuple, ji3_dict, ji3_tuple2, ji4_NoneType, ji4_bool, ji4_int, ji4_str, ji4_list, ji4_tuple, ji4_dict, ji4_tuple2, ji5_NoneType, ji5_bool, ji5_int, ji5_str, ji5_list, ji5_tuple, ji5_dict, ji5_tuple2]
theorem alone_rule : q_law_alone true [.d (.exc 21 [] [])] st = .ok (.d (.bl true)) st := by
  refine ok_of (q_call rfl ?_)
  simp only [b_law_alone, q_pure, q_cvar, q_op1, q_op2, q_nil, q_cons, q_args, q_and, q_or, q_not, q_chain, q_if, q_lst, q_tup, q_tB1, q_tTr, q_tNo, q_tAn, q_tOu, q_tYes, q_sub, q_fdiv, q_mod, q_pow, q_lt, q_le, q_gt, q_ge, q_add, q_mul, q_eqi, q_nei, q_sNil, q_seq, q_sExp, q_ret, q_retN, q_asg, q_sIf, q_put, q_for, q_range1, q_enum, app_get, app_set, q_iseq, seq_str, seq_lst, seq_tup, tru_bl, tru_int, tru_non, q_fin0, q_finX0, EQ_ok, SQ_ok, EQ_bad, SQ_bad, q_dct0, q_dct0f, q_neg, q_add_lst, lookM, Option.bind_some, clsU_obj, Nat.reduceEqDiff, Nat.succ_ne_self, reduceCtorEq, q_eqs, q_nes, q_finS, List.set_set, q_try, q_tryAs, q_raiseC, q_raiseO, q_max, q_min, q_list2, q_str, q_mth, q_lm, q_fld, q_listL, q_listT, q_tupL, q_tupT, env0, List.map_cons, List.map_nil, List.length_cons, List.length_nil, List.length_set, List.length_append, Nat.reduceAdd, Nat.reduceSub, Nat.reduceLT, Nat.reduceLeDiff, Nat.zero_add, List.replicate, List.cons_append, List.nil_append, List.getElem?_cons_zero, List.getElem?_cons_succ, List.set_cons_zero, List.set_cons_succ, newL, newT, closed, Option.map_some, Option.map_none, lim, true_and, and_true, if_true, if_false, Bool.false_eq_true, reduceIte, ite_true, ite_false, q_list1, Bool.not_true, Bool.not_false, Nat.le_refl, Int.reduceLT, Int.reduceLE, Int.reducePow, Int.reduceToNat, Int.reduceNeg, List.nil_append, List.append_nil, beq_self_eq_true, decide_true, decide_false, Bool.and_true, Bool.true_and, Bool.and_false, Bool.false_and, Bool.or_true, Bool.true_or, Bool.or_false, Bool.false_or, ji0_NoneType, ji0_BadNumber, ji1_NoneType, ji1_BadNumber, ji2_NoneType, ji2_BadNumber, ji3_NoneType, ji3_bool, ji3_int, ji3_str, ji3_list, ji3_tuple, ji3_dict, ji3_tuple2, ji4_NoneType, ji4_bool, ji4_int, ji4_str, ji4_list, ji4_tuple, ji4_dict, ji4_tuple2, ji5_NoneType, ji5_bool, ji5_int, ji5_str, ji5_list, ji5_tuple, ji5_dict, ji5_tuple2]
theorem tied_closed {N : Nat} (hN : N < 10 ^ 12) : q_tied true [.d (.int N)] st = .ok (.d (tolds (rowTo N 12))) st := by
  refine ok_of (tied_rule hN fun m l hm hg => ?_)
  exact Eq.mpr (q_fin_lst (xs := (rowTo N 12).map Kt.told) hm hg) ⟨rfl, rfl⟩
theorem tied_open {N : Nat} (hN : N < 10 ^ 12) (hQ : ∀ m l, st.length ≤ m → (st ++ l)[m]? = some (.lst (((rowTo N 12).map Kt.told).map .d)) → QU (.c m) (st ++ l)) : EQ (q_tied false [.d (.int N)] st) QU X :=
  tied_rule hN fun m l hm hg => Eq.mpr (q_fin_keep hm (List.getElem?_eq_some_iff.mp hg).1) (hQ m l hm hg)
theorem due_rule {N : Nat} : sumN [.d (.lst (zonesD N 12).reverse), .d (.lst [])] st = .ok (.d (tolds (rowTo N 12))) st := by
  have h : ∀ k, ((List.range k).map fun i => (zd N i).map Kt.told).reverse.flatten = (rowTo N k).map Kt.told := by
    intro k
    induction k with
    | zero => rfl
    | succ k ih =>
      rw [List.range_succ, List.map_append, List.reverse_append, List.map_cons, List.map_nil, List.reverse_singleton, List.flatten_append, ih]
      simp [rowTo]
  have e : (zonesD N 12).reverse = (((List.range 12).map fun i => (zd N i).map Kt.told).reverse).map D.lst := by
    rw [← List.map_reverse, ← List.map_reverse, List.map_map]
    rfl
  have l := rowTo_len (n := N) 12
  rw [e, sumL (by simp) (by rw [h, List.length_map]; omega), h]
/-- the first turns -/
theorem first_rule {a0 a1 a2 a5 a6 a7 a8 a9 a10 a11 a12 a13 a14 a15 : Option U} {XS : Ex → Lo → Sto → Prop} {N : Nat} {d : D} (hN : N < 10 ^ 12) (hd : flatK d = true) (hn : isNum d = false) :
    SQ (l5_law true [a0, a1, a2, some (.d (.int N)), some (.d d), a5, a6, a7, a8, a9, a10, a11, a12, a13, a14, a15] st) (fun f env2 st2 => f = .nx ∧ env2 = [a0, a1, a2, some (.d (.int N)), some (.d d), a5, a6, a7, a8, a9, a10, a11, a12, a13, a14, a15] ∧ st2 = st) XS := by
  simp only [l5_law, tied_closed hN, caught_rule hd hn, alone_rule, q_pure, q_cvar, q_op1, q_op2, q_nil, q_cons, q_args, q_and, q_or, q_not, q_chain, q_if, q_lst, q_tup, q_tB1, q_tTr, q_tNo, q_tAn, q_tOu, q_tYes, q_sub, q_fdiv, q_mod, q_pow, q_lt, q_le, q_gt, q_ge, q_add, q_mul, q_eqi, q_nei, q_sNil, q_seq, q_sExp, q_ret, q_retN, q_asg, q_sIf, q_put, q_for, q_range1, q_enum, app_get, app_set, q_iseq, seq_str, seq_lst, seq_tup, tru_bl, tru_int, tru_non, q_fin0, q_finX0, EQ_ok, SQ_ok, EQ_bad, SQ_bad, q_dct0, q_dct0f, q_neg, q_add_lst, lookM, Option.bind_some, clsU_obj, Nat.reduceEqDiff, Nat.succ_ne_self, reduceCtorEq, q_eqs, q_nes, q_finS, List.set_set, q_try, q_tryAs, q_raiseC, q_raiseO, q_max, q_min, q_list2, q_str, q_mth, q_lm, q_fld, q_listL, q_listT, q_tupL, q_tupT, env0, List.map_cons, List.map_nil, List.length_cons, List.length_nil, List.length_set, List.length_append, Nat.reduceAdd, Nat.reduceSub, Nat.reduceLT, Nat.reduceLeDiff, Nat.zero_add, List.replicate, List.cons_append, List.nil_append, List.getElem?_cons_zero, List.getElem?_cons_succ, List.set_cons_zero, List.set_cons_succ, newL, newT, closed, Option.map_some, Option.map_none, lim, true_and, and_true, if_true, if_false, Bool.false_eq_true, reduceIte, ite_true, ite_false, q_list1, Bool.not_true, Bool.not_false, Nat.le_refl, Int.reduceLT, Int.reduceLE, Int.reducePow, Int.reduceToNat, Int.reduceNeg, List.nil_append, List.append_nil, beq_self_eq_true, decide_true, decide_false, Bool.and_true, Bool.true_and, Bool.and_false, Bool.false_and, Bool.or_true, Bool.true_or, Bool.or_false, Bool.false_or, ji0_NoneType, ji0_BadNumber, ji1_NoneType, ji1_BadNumber, ji2_NoneType, ji2_BadNumber, ji3_NoneType, ji3_bool, ji3_int, ji3_str, ji3_list, ji3_tuple, ji3_dict, ji3_tuple2, ji4_NoneType, ji4_bool, ji4_int, ji4_str, ji4_list, ji4_tuple, ji4_dict, ji4_tuple2, ji5_NoneType, ji5_bool, ji5_int, ji5_str, ji5_list, ji5_tuple, ji5_dict, ji5_tuple2]
/-- one turn over the whole row -/
theorem turn_rule {a0 a1 a2 a4 a5 a6 a7 a8 a10 a11 a12 a13 a14 a15 : Option U} {XS : Ex → Lo → Sto → Prop} {N : Nat} (hN : N < 10 ^ 12) :
    SQ (l3_law true [a0, a1, a2, some (.d (.int N)), a4, a5, a6, a7, a8, some (.d (tolds (rowTo N 12))), a10, a11, a12, a13, a14, a15] st)
      (fun f env2 st2 => f = .nx ∧ (∃ b15, env2 = [a0, a1, a2, some (.d (.int N)), a4, a5, a6, a7, a8, some (.d (tolds (rowTo N 12))), a10, a11, a12, a13, a14, b15]) ∧ ∃ l, st2 = st ++ l) XS := by
  simp only [l3_law, q_pure, q_cvar, q_op1, q_op2, q_nil, q_cons, q_args, q_and, q_or, q_not, q_chain, q_if, q_lst, q_tup, q_tB1, q_tTr, q_tNo, q_tAn, q_tOu, q_tYes, q_sub, q_fdiv, q_mod, q_pow, q_lt, q_le, q_gt, q_ge, q_add, q_mul, q_eqi, q_nei, q_sNil, q_seq, q_sExp, q_ret, q_retN, q_asg, q_sIf, q_put, q_for, q_range1, q_enum, app_get, app_set, q_iseq, seq_str, seq_lst, seq_tup, tru_bl, tru_int, tru_non, q_fin0, q_finX0, EQ_ok, SQ_ok, EQ_bad, SQ_bad, q_dct0, q_dct0f, q_neg, q_add_lst, lookM, Option.bind_some, clsU_obj, Nat.reduceEqDiff, Nat.succ_ne_self, reduceCtorEq, q_eqs, q_nes, q_finS, List.set_set, q_try, q_tryAs, q_raiseC, q_raiseO, q_max, q_min, q_list2, q_str, q_mth, q_lm, q_fld, q_listL, q_listT, q_tupL, q_tupT, env0, List.map_cons, List.map_nil, List.length_cons, List.length_nil, List.length_set, List.length_append, Nat.reduceAdd, Nat.reduceSub, Nat.reduceLT, Nat.reduceLeDiff, Nat.zero_add, List.replicate, List.cons_append, List.nil_append, List.getElem?_cons_zero, List.getElem?_cons_succ, List.set_cons_zero, List.set_cons_succ, newL, newT, closed, Option.map_some, Option.map_none, lim, true_and, and_true, if_true, if_false, Bool.false_eq_true, reduceIte, ite_true, ite_false, q_list1, Bool.not_true, Bool.not_false, Nat.le_refl, Int.reduceLT, Int.reduceLE, Int.reducePow, Int.reduceToNat, Int.reduceNeg, List.nil_append, List.append_nil, beq_self_eq_true, decide_true, decide_false, Bool.and_true, Bool.true_and, Bool.and_false, Bool.false_and, Bool.or_true, Bool.true_or, Bool.or_false, Bool.false_or, ji0_NoneType, ji0_BadNumber, ji1_NoneType, ji1_BadNumber, ji2_NoneType, ji2_BadNumber, ji3_NoneType, ji3_bool, ji3_int, ji3_str, ji3_list, ji3_tuple, ji3_dict, ji3_tuple2, ji4_NoneType, ji4_bool, ji4_int, ji4_str, ji4_list, ji4_tuple, ji4_dict, ji4_tuple2, ji5_NoneType, ji5_bool, ji5_int, ji5_str, ji5_list, ji5_tuple, ji5_dict, ji5_tuple2]
  refine tied_open hN fun m l hm hg => ?_
  have ok := rowTo_ok (n := N) 12 (Nat.le_refl _)
  have ln := rowTo_len (n := N) 12
  have ic : ∀ cs, isiU kits own cs (.c m) (st ++ l) = isiU kits own cs (.d (.lst [])) (st ++ l) := fun cs => isiC hg
  have rc : reprU (.c m) (st ++ l) = .ok (.d (.str (rpD (tolds (rowTo N 12))))) (st ++ l) := by
    rw [reprC hg]
    exact rep_tolds ok (by omega)
  simp only [ic, rc, rep_tolds ok (show (rowTo N 12).length < 1000 by omega), q_pure, q_cvar, q_op1, q_op2, q_nil, q_cons, q_args, q_and, q_or, q_not, q_chain, q_if, q_lst, q_tup, q_tB1, q_tTr, q_tNo, q_tAn, q_tOu, q_tYes, q_sub, q_fdiv, q_mod, q_pow, q_lt, q_le, q_gt, q_ge, q_add, q_mul, q_eqi, q_nei, q_sNil, q_seq, q_sExp, q_ret, q_retN, q_asg, q_sIf, q_put, q_for, q_range1, q_enum, app_get, app_set, q_iseq, seq_str, seq_lst, seq_tup, tru_bl, tru_int, tru_non, q_fin0, q_finX0, EQ_ok, SQ_ok, EQ_bad, SQ_bad, q_dct0, q_dct0f, q_neg, q_add_lst, lookM, Option.bind_some, clsU_obj, Nat.reduceEqDiff, Nat.succ_ne_self, reduceCtorEq, q_eqs, q_nes, q_finS, List.set_set, q_try, q_tryAs, q_raiseC, q_raiseO, q_max, q_min, q_list2, q_str, q_mth, q_lm, q_fld, q_listL, q_listT, q_tupL, q_tupT, env0, List.map_cons, List.map_nil, List.length_cons, List.length_nil, List.length_set, List.length_append, Nat.reduceAdd, Nat.reduceSub, Nat.reduceLT, Nat.reduceLeDiff, Nat.zero_add, List.replicate, List.cons_append, List.nil_append, List.getElem?_cons_zero, List.getElem?_cons_succ, List.set_cons_zero, List.set_cons_succ, newL, newT, closed, Option.map_some, Option.map_none, lim, true_and, and_true, if_true, if_false, Bool.false_eq_true, reduceIte, ite_true, ite_false, q_list1, Bool.not_true, Bool.not_false, Nat.le_refl, Int.reduceLT, Int.reduceLE, Int.reducePow, Int.reduceToNat, Int.reduceNeg, List.nil_append, List.append_nil, beq_self_eq_true, decide_true, decide_false, Bool.and_true, Bool.true_and, Bool.and_false, Bool.false_and, Bool.or_true, Bool.true_or, Bool.or_false, Bool.false_or, ji0_NoneType, ji0_BadNumber, ji1_NoneType, ji1_BadNumber, ji2_NoneType, ji2_BadNumber, ji3_NoneType, ji3_bool, ji3_int, ji3_str, ji3_list, ji3_tuple, ji3_dict, ji3_tuple2, ji4_NoneType, ji4_bool, ji4_int, ji4_str, ji4_list, ji4_tuple, ji4_dict, ji4_tuple2, ji5_NoneType, ji5_bool, ji5_int, ji5_str, ji5_list, ji5_tuple, ji5_dict, ji5_tuple2]
  refine ⟨by rw [scrC hg]; rfl, ?_⟩
  rw [q_app hg (by rw [List.length_map, List.length_map]; show _ < 16777216; omega)]
  refine ⟨⟨_, rfl⟩, l.set (m - st.length) (.lst (((rowTo N 12).map Kt.told).map .d ++ [.d .non])), ?_⟩
  rw [List.set_append_right _ _ hm]
end
section
variable {QU : U → Sto → Prop} {X : Ex → Sto → Prop} {st : Sto} {fz : Bool} {n r : Nat} {o : O}
theorem zd_ok {N i : Nat} (hi : i < 12) : (∀ k ∈ zd N i, k.ok) ∧ (zd N i).length < 1000 := by
  refine ⟨zk_ok hi dg_lt, ?_⟩
  have : (zd N i).length ≤ 9 := zk_len dg_lt
  omega
theorem zturn_rule {a0 a1 a2 a3 a4 a5 a6 a7 a8 a9 a10 a14 a15 : Option U} {XS : Ex → Lo → Sto → Prop} {N i : Nat} (hi : i < 12) :
    SQ (l1_law true [a0, a1, a2, a3, a4, a5, a6, a7, a8, a9, a10, some (.d (.int (N / 10 ^ i : Nat))), some (.d (.int i)), some (.d (tolds (zd N i))), a14, a15] st)
      (fun f env2 st2 => f = .nx ∧ (∃ b15, env2 = [a0, a1, a2, a3, a4, a5, a6, a7, a8, a9, a10, some (.d (.int (N / 10 ^ i : Nat))), some (.d (.int i)), some (.d (tolds (zd N i))), a14, b15]) ∧ ∃ l, st2 = st ++ l) XS := by
  obtain ⟨k1, k2⟩ := zd_ok (N := N) hi
  have lz : q_tied_in false [.d (.int (i : Nat)), .d (.int (dg N i : Nat))] st = .ok (.c st.length) (st ++ [.lst (((zd N i).map Kt.told).map .d)]) := tied_in_open hi dg_lt
  have rc : reprU (.c st.length) (st ++ [.lst (((zd N i).map Kt.told).map .d)]) = .ok (.d (.str (rpD (tolds (zd N i))))) (st ++ [.lst (((zd N i).map Kt.told).map .d)]) := by
    rw [reprC app_get]
    exact rep_tolds k1 k2
  simp only [l1_law, dmod, lz, rc, rep_tolds k1 k2, q_pure, q_cvar, q_op1, q_op2, q_nil, q_cons, q_args, q_and, q_or, q_not, q_chain, q_if, q_lst, q_tup, q_tB1, q_tTr, q_tNo, q_tAn, q_tOu, q_tYes, q_sub, q_fdiv, q_mod, q_pow, q_lt, q_le, q_gt, q_ge, q_add, q_mul, q_eqi, q_nei, q_sNil, q_seq, q_sExp, q_ret, q_retN, q_asg, q_sIf, q_put, q_for, q_range1, q_enum, app_get, app_set, q_iseq, seq_str, seq_lst, seq_tup, tru_bl, tru_int, tru_non, q_fin0, q_finX0, EQ_ok, SQ_ok, EQ_bad, SQ_bad, q_dct0, q_dct0f, q_neg, q_add_lst, lookM, Option.bind_some, clsU_obj, Nat.reduceEqDiff, Nat.succ_ne_self, reduceCtorEq, q_eqs, q_nes, q_finS, List.set_set, q_try, q_tryAs, q_raiseC, q_raiseO, q_max, q_min, q_list2, q_str, q_mth, q_lm, q_fld, q_listL, q_listT, q_tupL, q_tupT, env0, List.map_cons, List.map_nil, List.length_cons, List.length_nil, List.length_set, List.length_append, Nat.reduceAdd, Nat.reduceSub, Nat.reduceLT, Nat.reduceLeDiff, Nat.zero_add, List.replicate, List.cons_append, List.nil_append, List.getElem?_cons_zero, List.getElem?_cons_succ, List.set_cons_zero, List.set_cons_succ, newL, newT, closed, Option.map_some, Option.map_none, lim, true_and, and_true, if_true, if_false, Bool.false_eq_true, reduceIte, ite_true, ite_false, q_list1, Bool.not_true, Bool.not_false, Nat.le_refl, Int.reduceLT, Int.reduceLE, Int.reducePow, Int.reduceToNat, Int.reduceNeg, List.nil_append, List.append_nil, beq_self_eq_true, decide_true, decide_false, Bool.and_true, Bool.true_and, Bool.and_false, Bool.false_and, Bool.or_true, Bool.true_or, Bool.or_false, Bool.false_or, ji0_NoneType, ji0_BadNumber, ji1_NoneType, ji1_BadNumber, ji2_NoneType, ji2_BadNumber, ji3_NoneType, ji3_bool, ji3_int, ji3_str, ji3_list, ji3_tuple, ji3_dict, ji3_tuple2, ji4_NoneType, ji4_bool, ji4_int, ji4_str, ji4_list, ji4_tuple, ji4_dict, ji4_tuple2, ji5_NoneType, ji5_bool, ji5_int, ji5_str, ji5_list, ji5_tuple, ji5_dict, ji5_tuple2]
  refine ⟨by rw [scrC app_get]; rfl, ?_⟩
  rw [q_app app_get (by rw [List.length_map, List.length_map]; show _ < 16777216; omega), app_set]
  exact ⟨⟨_, rfl⟩, _, rfl⟩
theorem rng2 : rngU 0 2 = nums 0 2 := by kernel_rfl
theorem zone_both {a0 a1 a2 a3 a4 a5 a6 a7 a8 a9 a10 a14 a15 : Option U} {XS : Ex → Lo → Sto → Prop} {N i : Nat} (hi : i < 12) :
    SQ (l2_law true [a0, a1, a2, a3, a4, a5, a6, a7, a8, a9, a10, some (.d (.int (N / 10 ^ i : Nat))), some (.d (.int i)), some (.d (tolds (zd N i))), a14, a15] st)
      (fun f env2 st2 => f = .nx ∧ (∃ b10 b12 b13 b15, env2 = [a0, a1, a2, a3, a4, a5, a6, a7, a8, a9, b10, some (.d (.int (N / 10 ^ (i + 1) : Nat))), b12, b13, a14, b15]) ∧ ∃ l, st2 = st ++ l) XS := by
  simp only [l2_law, rng2, q_pure, q_cvar, q_op1, q_op2, q_nil, q_cons, q_args, q_and, q_or, q_not, q_chain, q_if, q_lst, q_tup, q_tB1, q_tTr, q_tNo, q_tAn, q_tOu, q_tYes, q_sub, q_fdiv, q_mod, q_pow, q_lt, q_le, q_gt, q_ge, q_add, q_mul, q_eqi, q_nei, q_sNil, q_seq, q_sExp, q_ret, q_retN, q_asg, q_sIf, q_put, q_for, q_range1, q_enum, app_get, app_set, q_iseq, seq_str, seq_lst, seq_tup, tru_bl, tru_int, tru_non, q_fin0, q_finX0, EQ_ok, SQ_ok, EQ_bad, SQ_bad, q_dct0, q_dct0f, q_neg, q_add_lst, lookM, Option.bind_some, clsU_obj, Nat.reduceEqDiff, Nat.succ_ne_self, reduceCtorEq, q_eqs, q_nes, q_finS, List.set_set, q_try, q_tryAs, q_raiseC, q_raiseO, q_max, q_min, q_list2, q_str, q_mth, q_lm, q_fld, q_listL, q_listT, q_tupL, q_tupT, env0, List.map_cons, List.map_nil, List.length_cons, List.length_nil, List.length_set, List.length_append, Nat.reduceAdd, Nat.reduceSub, Nat.reduceLT, Nat.reduceLeDiff, Nat.zero_add, List.replicate, List.cons_append, List.nil_append, List.getElem?_cons_zero, List.getElem?_cons_succ, List.set_cons_zero, List.set_cons_succ, newL, newT, closed, Option.map_some, Option.map_none, lim, true_and, and_true, if_true, if_false, Bool.false_eq_true, reduceIte, ite_true, ite_false, q_list1, Bool.not_true, Bool.not_false, Nat.le_refl, Int.reduceLT, Int.reduceLE, Int.reducePow, Int.reduceToNat, Int.reduceNeg, List.nil_append, List.append_nil, beq_self_eq_true, decide_true, decide_false, Bool.and_true, Bool.true_and, Bool.and_false, Bool.false_and, Bool.or_true, Bool.true_or, Bool.or_false, Bool.false_or, ji0_NoneType, ji0_BadNumber, ji1_NoneType, ji1_BadNumber, ji2_NoneType, ji2_BadNumber, ji3_NoneType, ji3_bool, ji3_int, ji3_str, ji3_list, ji3_tuple, ji3_dict, ji3_tuple2, ji4_NoneType, ji4_bool, ji4_int, ji4_str, ji4_list, ji4_tuple, ji4_dict, ji4_tuple2, ji5_NoneType, ji5_bool, ji5_int, ji5_str, ji5_list, ji5_tuple, ji5_dict, ji5_tuple2]
  refine ⟨rfl, q_loopN (fun us env s => (∃ b10 b15, env = [a0, a1, a2, a3, a4, a5, a6, a7, a8, a9, b10, some (.d (.int (N / 10 ^ i : Nat))), some (.d (.int i)), some (.d (tolds (zd N i))), a14, b15]) ∧ ∃ l, s = st ++ l) (fun _ _ _ _ => gd_none) ?_ ⟨⟨_, _, rfl⟩, [], by simp⟩ ?_⟩
  · rintro u us env s ⟨⟨b10, b15, rfl⟩, l, rfl⟩
    refine ⟨_, rfl, (zturn_rule hi).imp (fun f e s' z => ?_) fun _ _ _ z => z⟩
    obtain ⟨z1, ⟨c15, z2⟩, l2, z3⟩ := z
    exact ⟨z1, ⟨_, _, z2⟩, l ++ l2, by rw [z3, List.append_assoc]⟩
  · rintro env s ⟨⟨b10, b15, rfl⟩, l, rfl⟩
    simp only [cdiv10, ddiv, q_pure, q_cvar, q_op1, q_op2, q_nil, q_cons, q_args, q_and, q_or, q_not, q_chain, q_if, q_lst, q_tup, q_tB1, q_tTr, q_tNo, q_tAn, q_tOu, q_tYes, q_sub, q_fdiv, q_mod, q_pow, q_lt, q_le, q_gt, q_ge, q_add, q_mul, q_eqi, q_nei, q_sNil, q_seq, q_sExp, q_ret, q_retN, q_asg, q_sIf, q_put, q_for, q_range1, q_enum, app_get, app_set, q_iseq, seq_str, seq_lst, seq_tup, tru_bl, tru_int, tru_non, q_fin0, q_finX0, EQ_ok, SQ_ok, EQ_bad, SQ_bad, q_dct0, q_dct0f, q_neg, q_add_lst, lookM, Option.bind_some, clsU_obj, Nat.reduceEqDiff, Nat.succ_ne_self, reduceCtorEq, q_eqs, q_nes, q_finS, List.set_set, q_try, q_tryAs, q_raiseC, q_raiseO, q_max, q_min, q_list2, q_str, q_mth, q_lm, q_fld, q_listL, q_listT, q_tupL, q_tupT, env0, List.map_cons, List.map_nil, List.length_cons, List.length_nil, List.length_set, List.length_append, Nat.reduceAdd, Nat.reduceSub, Nat.reduceLT, Nat.reduceLeDiff, Nat.zero_add, List.replicate, List.cons_append, List.nil_append, List.getElem?_cons_zero, List.getElem?_cons_succ, List.set_cons_zero, List.set_cons_succ, newL, newT, closed, Option.map_some, Option.map_none, lim, true_and, and_true, if_true, if_false, Bool.false_eq_true, reduceIte, ite_true, ite_false, q_list1, Bool.not_true, Bool.not_false, Nat.le_refl, Int.reduceLT, Int.reduceLE, Int.reducePow, Int.reduceToNat, Int.reduceNeg, List.nil_append, List.append_nil, beq_self_eq_true, decide_true, decide_false, Bool.and_true, Bool.true_and, Bool.and_false, Bool.false_and, Bool.or_true, Bool.true_or, Bool.or_false, Bool.false_or, ji0_NoneType, ji0_BadNumber, ji1_NoneType, ji1_BadNumber, ji2_NoneType, ji2_BadNumber, ji3_NoneType, ji3_bool, ji3_int, ji3_str, ji3_list, ji3_tuple, ji3_dict, ji3_tuple2, ji4_NoneType, ji4_bool, ji4_int, ji4_str, ji4_list, ji4_tuple, ji4_dict, ji4_tuple2, ji5_NoneType, ji5_bool, ji5_int, ji5_str, ji5_list, ji5_tuple, ji5_dict, ji5_tuple2]
    exact ⟨⟨_, _, _, _, rfl⟩, l, rfl⟩
end
section
variable {QU : U → Sto → Prop} {X : Ex → Sto → Prop} {st : Sto} {fz : Bool} {n r : Nat} {o : O}
def znum (N i k : Nat) : List U := (List.range' i k).map fun (j : Nat) => .d (.tup [.int j, tolds (zd N j)])
theorem enum_zones {N : Nat} : enumU ((zonesD N 12).map .d) = znum N 0 12 := by kernel_rfl
def held (x : U) : Prop := ∃ N : Nat, N < 10 ^ 12 ∧ x = .d (.tup [tolds (rowTo N 12), tolds (rowTo N 12)])
theorem seqC' {xs : List U} {QI : List U × Gd → Sto → Prop} (h : st[n]? = some (.lst xs)) : EQ (seqI (.c n) st) QI X = QI (xs, some (.c n, xs)) st := by
  unfold seqI
  simp only [scrC h]
  rfl
theorem item_rule {a0 a2 a3 a4 a7 a8 a9 a10 a11 a12 a13 a14 a15 : Option U} {XS : Ex → Lo → Sto → Prop} {k : Nat} {c : Int} {xs : List U} (hk : k ≤ 1000) (h0 : st[0]? = some (.lst xs)) (hl : xs.length < 1000) :
    SQ (l4_law true [a0, some (.c 0), a2, a3, a4, some (.d (.int k)), some (.d (.int c)), a7, a8, a9, a10, a11, a12, a13, a14, a15] st)
      (fun f env s => f = .nx ∧ (∃ l, env = a0 :: some (.c 0) :: l ∧ l.length = 14) ∧ ∃ x, held x ∧ s[0]? = some (.lst (xs ++ [x]))) XS := by
  have n0 : 0 < st.length := (List.getElem?_eq_some_iff.mp h0).1
  have p12 : cPow2Ok 10 12 = true := by decide +kernel
  simp only [l4_law, p12, q_pure, q_cvar, q_op1, q_op2, q_nil, q_cons, q_args, q_and, q_or, q_not, q_chain, q_if, q_lst, q_tup, q_tB1, q_tTr, q_tNo, q_tAn, q_tOu, q_tYes, q_sub, q_fdiv, q_mod, q_pow, q_lt, q_le, q_gt, q_ge, q_add, q_mul, q_eqi, q_nei, q_sNil, q_seq, q_sExp, q_ret, q_retN, q_asg, q_sIf, q_put, q_for, q_range1, q_enum, app_get, app_set, q_iseq, seq_str, seq_lst, seq_tup, tru_bl, tru_int, tru_non, q_fin0, q_finX0, EQ_ok, SQ_ok, EQ_bad, SQ_bad, q_dct0, q_dct0f, q_neg, q_add_lst, lookM, Option.bind_some, clsU_obj, Nat.reduceEqDiff, Nat.succ_ne_self, reduceCtorEq, q_eqs, q_nes, q_finS, List.set_set, q_try, q_tryAs, q_raiseC, q_raiseO, q_max, q_min, q_list2, q_str, q_mth, q_lm, q_fld, q_listL, q_listT, q_tupL, q_tupT, env0, List.map_cons, List.map_nil, List.length_cons, List.length_nil, List.length_set, List.length_append, Nat.reduceAdd, Nat.reduceSub, Nat.reduceLT, Nat.reduceLeDiff, Nat.zero_add, List.replicate, List.cons_append, List.nil_append, List.getElem?_cons_zero, List.getElem?_cons_succ, List.set_cons_zero, List.set_cons_succ, newL, newT, closed, Option.map_some, Option.map_none, lim, true_and, and_true, if_true, if_false, Bool.false_eq_true, reduceIte, ite_true, ite_false, q_list1, Bool.not_true, Bool.not_false, Nat.le_refl, Int.reduceLT, Int.reduceLE, Int.reducePow, Int.reduceToNat, Int.reduceNeg, List.nil_append, List.append_nil, beq_self_eq_true, decide_true, decide_false, Bool.and_true, Bool.true_and, Bool.and_false, Bool.false_and, Bool.or_true, Bool.true_or, Bool.or_false, Bool.false_or, ji0_NoneType, ji0_BadNumber, ji1_NoneType, ji1_BadNumber, ji2_NoneType, ji2_BadNumber, ji3_NoneType, ji3_bool, ji3_int, ji3_str, ji3_list, ji3_tuple, ji3_dict, ji3_tuple2, ji4_NoneType, ji4_bool, ji4_int, ji4_str, ji4_list, ji4_tuple, ji4_dict, ji4_tuple2, ji5_NoneType, ji5_bool, ji5_int, ji5_str, ji5_list, ji5_tuple, ji5_dict, ji5_tuple2]
  refine state_rule (cs := [c]) ?_
  try simp only [q_pure, q_cvar, q_op1, q_op2, q_nil, q_cons, q_args, q_and, q_or, q_not, q_chain, q_if, q_lst, q_tup, q_tB1, q_tTr, q_tNo, q_tAn, q_tOu, q_tYes, q_sub, q_fdiv, q_mod, q_pow, q_lt, q_le, q_gt, q_ge, q_add, q_mul, q_eqi, q_nei, q_sNil, q_seq, q_sExp, q_ret, q_retN, q_asg, q_sIf, q_put, q_for, q_range1, q_enum, app_get, app_set, q_iseq, seq_str, seq_lst, seq_tup, tru_bl, tru_int, tru_non, q_fin0, q_finX0, EQ_ok, SQ_ok, EQ_bad, SQ_bad, q_dct0, q_dct0f, q_neg, q_add_lst, lookM, Option.bind_some, clsU_obj, Nat.reduceEqDiff, Nat.succ_ne_self, reduceCtorEq, q_eqs, q_nes, q_finS, List.set_set, q_try, q_tryAs, q_raiseC, q_raiseO, q_max, q_min, q_list2, q_str, q_mth, q_lm, q_fld, q_listL, q_listT, q_tupL, q_tupT, env0, List.map_cons, List.map_nil, List.length_cons, List.length_nil, List.length_set, List.length_append, Nat.reduceAdd, Nat.reduceSub, Nat.reduceLT, Nat.reduceLeDiff, Nat.zero_add, List.replicate, List.cons_append, List.nil_append, List.getElem?_cons_zero, List.getElem?_cons_succ, List.set_cons_zero, List.set_cons_succ, newL, newT, closed, Option.map_some, Option.map_none, lim, true_and, and_true, if_true, if_false, Bool.false_eq_true, reduceIte, ite_true, ite_false, q_list1, Bool.not_true, Bool.not_false, Nat.le_refl, Int.reduceLT, Int.reduceLE, Int.reducePow, Int.reduceToNat, Int.reduceNeg, List.nil_append, List.append_nil, beq_self_eq_true, decide_true, decide_false, Bool.and_true, Bool.true_and, Bool.and_false, Bool.false_and, Bool.or_true, Bool.true_or, Bool.or_false, Bool.false_or, ji0_NoneType, ji0_BadNumber, ji1_NoneType, ji1_BadNumber, ji2_NoneType, ji2_BadNumber, ji3_NoneType, ji3_bool, ji3_int, ji3_str, ji3_list, ji3_tuple, ji3_dict, ji3_tuple2, ji4_NoneType, ji4_bool, ji4_int, ji4_str, ji4_list, ji4_tuple, ji4_dict, ji4_tuple2, ji5_NoneType, ji5_bool, ji5_int, ji5_str, ji5_list, ji5_tuple, ji5_dict, ji5_tuple2]
  refine number_draw (r := 999990) app_get (TO.mono (r := 1000000) (s := 999990 + 3) (state_to (by omega)) (by decide)) fun N o1 hN t1 => ?_
  simp only [lzones_rule, revD, due_rule, rng2, q_pure, q_cvar, q_op1, q_op2, q_nil, q_cons, q_args, q_and, q_or, q_not, q_chain, q_if, q_lst, q_tup, q_tB1, q_tTr, q_tNo, q_tAn, q_tOu, q_tYes, q_sub, q_fdiv, q_mod, q_pow, q_lt, q_le, q_gt, q_ge, q_add, q_mul, q_eqi, q_nei, q_sNil, q_seq, q_sExp, q_ret, q_retN, q_asg, q_sIf, q_put, q_for, q_range1, q_enum, app_get, app_set, q_iseq, seq_str, seq_lst, seq_tup, tru_bl, tru_int, tru_non, q_fin0, q_finX0, EQ_ok, SQ_ok, EQ_bad, SQ_bad, q_dct0, q_dct0f, q_neg, q_add_lst, lookM, Option.bind_some, clsU_obj, Nat.reduceEqDiff, Nat.succ_ne_self, reduceCtorEq, q_eqs, q_nes, q_finS, List.set_set, q_try, q_tryAs, q_raiseC, q_raiseO, q_max, q_min, q_list2, q_str, q_mth, q_lm, q_fld, q_listL, q_listT, q_tupL, q_tupT, env0, List.map_cons, List.map_nil, List.length_cons, List.length_nil, List.length_set, List.length_append, Nat.reduceAdd, Nat.reduceSub, Nat.reduceLT, Nat.reduceLeDiff, Nat.zero_add, List.replicate, List.cons_append, List.nil_append, List.getElem?_cons_zero, List.getElem?_cons_succ, List.set_cons_zero, List.set_cons_succ, newL, newT, closed, Option.map_some, Option.map_none, lim, true_and, and_true, if_true, if_false, Bool.false_eq_true, reduceIte, ite_true, ite_false, q_list1, Bool.not_true, Bool.not_false, Nat.le_refl, Int.reduceLT, Int.reduceLE, Int.reducePow, Int.reduceToNat, Int.reduceNeg, List.nil_append, List.append_nil, beq_self_eq_true, decide_true, decide_false, Bool.and_true, Bool.true_and, Bool.and_false, Bool.false_and, Bool.or_true, Bool.true_or, Bool.or_false, Bool.false_or, ji0_NoneType, ji0_BadNumber, ji1_NoneType, ji1_BadNumber, ji2_NoneType, ji2_BadNumber, ji3_NoneType, ji3_bool, ji3_int, ji3_str, ji3_list, ji3_tuple, ji3_dict, ji3_tuple2, ji4_NoneType, ji4_bool, ji4_int, ji4_str, ji4_list, ji4_tuple, ji4_dict, ji4_tuple2, ji5_NoneType, ji5_bool, ji5_int, ji5_str, ji5_list, ji5_tuple, ji5_dict, ji5_tuple2]
  refine ⟨rfl, q_loopN (fun us env s => (∃ b10 b15, env = [a0, some (.c 0), a2, some (.d (.int N)), a4, some (.d (.int k)), some (.d (.int c)), some (.c st.length), some (.d (.lst (zonesD N 12))), some (.d (tolds (rowTo N 12))), b10, a11, a12, a13, a14, b15]) ∧ ∃ l, s = (st ++ [o1]) ++ l) (fun _ _ _ _ => gd_none) ?_ ⟨⟨_, _, rfl⟩, [], by simp⟩ ?_⟩
  · rintro u us env s ⟨⟨b10, b15, rfl⟩, l, rfl⟩
    refine ⟨_, rfl, (turn_rule hN).imp (fun f e s' z => ?_) fun _ _ _ z => z⟩
    obtain ⟨z1, ⟨c15, z2⟩, l2, z3⟩ := z
    exact ⟨z1, ⟨_, _, z2⟩, l ++ l2, by rw [z3, List.append_assoc]⟩
  · rintro env s ⟨⟨b10, b15, rfl⟩, l, rfl⟩
    simp only [tied_closed hN, q_pure, q_cvar, q_op1, q_op2, q_nil, q_cons, q_args, q_and, q_or, q_not, q_chain, q_if, q_lst, q_tup, q_tB1, q_tTr, q_tNo, q_tAn, q_tOu, q_tYes, q_sub, q_fdiv, q_mod, q_pow, q_lt, q_le, q_gt, q_ge, q_add, q_mul, q_eqi, q_nei, q_sNil, q_seq, q_sExp, q_ret, q_retN, q_asg, q_sIf, q_put, q_for, q_range1, q_enum, app_get, app_set, q_iseq, seq_str, seq_lst, seq_tup, tru_bl, tru_int, tru_non, q_fin0, q_finX0, EQ_ok, SQ_ok, EQ_bad, SQ_bad, q_dct0, q_dct0f, q_neg, q_add_lst, lookM, Option.bind_some, clsU_obj, Nat.reduceEqDiff, Nat.succ_ne_self, reduceCtorEq, q_eqs, q_nes, q_finS, List.set_set, q_try, q_tryAs, q_raiseC, q_raiseO, q_max, q_min, q_list2, q_str, q_mth, q_lm, q_fld, q_listL, q_listT, q_tupL, q_tupT, env0, List.map_cons, List.map_nil, List.length_cons, List.length_nil, List.length_set, List.length_append, Nat.reduceAdd, Nat.reduceSub, Nat.reduceLT, Nat.reduceLeDiff, Nat.zero_add, List.replicate, List.cons_append, List.nil_append, List.getElem?_cons_zero, List.getElem?_cons_succ, List.set_cons_zero, List.set_cons_succ, newL, newT, closed, Option.map_some, Option.map_none, lim, true_and, and_true, if_true, if_false, Bool.false_eq_true, reduceIte, ite_true, ite_false, q_list1, Bool.not_true, Bool.not_false, Nat.le_refl, Int.reduceLT, Int.reduceLE, Int.reducePow, Int.reduceToNat, Int.reduceNeg, List.nil_append, List.append_nil, beq_self_eq_true, decide_true, decide_false, Bool.and_true, Bool.true_and, Bool.and_false, Bool.false_and, Bool.or_true, Bool.true_or, Bool.or_false, Bool.false_or, ji0_NoneType, ji0_BadNumber, ji1_NoneType, ji1_BadNumber, ji2_NoneType, ji2_BadNumber, ji3_NoneType, ji3_bool, ji3_int, ji3_str, ji3_list, ji3_tuple, ji3_dict, ji3_tuple2, ji4_NoneType, ji4_bool, ji4_int, ji4_str, ji4_list, ji4_tuple, ji4_dict, ji4_tuple2, ji5_NoneType, ji5_bool, ji5_int, ji5_str, ji5_list, ji5_tuple, ji5_dict, ji5_tuple2]
    have g0 : ((st ++ [o1]) ++ l)[0]? = some (.lst xs) := by
      rw [List.append_assoc, List.getElem?_append_left n0, h0]
    have g1 : ((st ++ [o1]) ++ l)[st.length]? = some o1 := by
      rw [List.getElem?_append_left (by simp), app_get]
    refine ⟨by rw [scrC g0]; rfl, ?_⟩
    rw [q_app g0 (by show _ < 16777216; omega)]
    obtain ⟨S3, hS3⟩ : ∃ S3, S3 = ((st ++ [o1]) ++ l).set 0 (.lst (xs ++ [.d (.tup [tolds (rowTo N 12), tolds (rowTo N 12)])])) := ⟨_, rfl⟩
    rw [← hS3]
    have k0 : S3[0]? = some (.lst (xs ++ [.d (.tup [tolds (rowTo N 12), tolds (rowTo N 12)])])) := by
      rw [hS3]
      exact lst_at g0
    have k1 : S3[st.length]? = some o1 := by
      rw [hS3, List.getElem?_set_ne (by omega)]
      exact g1
    have sz : ∀ s, scrU s (.d (.lst (zonesD N 12))) = some ((zonesD N 12).map .d) := fun _ => rfl
    simp only [q_enum, q_cons, q_cvar, q_nil, EQ_ok, List.getElem?_cons_succ, List.getElem?_cons_zero, List.set_cons_zero, List.set_cons_succ, sz, enum_zones]
    refine q_loopN (fun us env s => ∃ i m, i + m = 12 ∧ us = znum N i m ∧ (∃ b10 b12 b13 b15, env = [a0, some (.c 0), a2, some (.d (.int N)), a4, some (.d (.int k)), some (.d (.int c)), some (.c st.length), some (.d (.lst (zonesD N 12))), some (.d (tolds (rowTo N 12))), b10, some (.d (.int (N / 10 ^ i : Nat))), b12, b13, a14, b15]) ∧ ∃ l, s = S3 ++ l) (fun _ _ _ _ => gd_lst rfl) ?_ ⟨0, 12, rfl, rfl, ⟨_, _, _, _, by simp; exact ⟨rfl, rfl, rfl, rfl⟩⟩, [], by simp⟩ ?_
    · rintro u us env s ⟨i, m, hm, hu, ⟨b10, b12, b13, b15, rfl⟩, l, rfl⟩
      cases m with
      | zero => cases hu
      | succ m =>
        unfold znum at hu
        rw [List.range'_succ, List.map_cons] at hu
        injection hu with h1 h2
        subst h1 h2
        refine ⟨_, rfl, (zone_both (by omega)).imp (fun f e s' z => ?_) fun _ _ _ z => z⟩
        obtain ⟨z1, ⟨c10, c12, c13, c15, z2⟩, l2, z3⟩ := z
        exact ⟨z1, i + 1, m, by omega, rfl, ⟨_, _, _, _, z2⟩, l ++ l2, by rw [z3, List.append_assoc]⟩
    · rintro env s ⟨i, m, hm, hu, ⟨b10, b12, b13, b15, rfl⟩, l, rfl⟩
      have l0 : 0 < S3.length := (List.getElem?_eq_some_iff.mp k0).1
      have l1 : st.length < S3.length := (List.getElem?_eq_some_iff.mp k1).1
      have g2 : (S3 ++ l)[st.length]? = some o1 := by rw [List.getElem?_append_left l1, k1]
      have g3 : (S3 ++ l)[0]? = some (.lst (xs ++ [.d (.tup [tolds (rowTo N 12), tolds (rowTo N 12)])])) := by rw [List.getElem?_append_left l0, k0]
      simp only [p12, q_pure, q_cvar, q_op1, q_op2, q_nil, q_cons, q_args, q_and, q_or, q_not, q_chain, q_if, q_lst, q_tup, q_tB1, q_tTr, q_tNo, q_tAn, q_tOu, q_tYes, q_sub, q_fdiv, q_mod, q_pow, q_lt, q_le, q_gt, q_ge, q_add, q_mul, q_eqi, q_nei, q_sNil, q_seq, q_sExp, q_ret, q_retN, q_asg, q_sIf, q_put, q_for, q_range1, q_enum, app_get, app_set, q_iseq, seq_str, seq_lst, seq_tup, tru_bl, tru_int, tru_non, q_fin0, q_finX0, EQ_ok, SQ_ok, EQ_bad, SQ_bad, q_dct0, q_dct0f, q_neg, q_add_lst, lookM, Option.bind_some, clsU_obj, Nat.reduceEqDiff, Nat.succ_ne_self, reduceCtorEq, q_eqs, q_nes, q_finS, List.set_set, q_try, q_tryAs, q_raiseC, q_raiseO, q_max, q_min, q_list2, q_str, q_mth, q_lm, q_fld, q_listL, q_listT, q_tupL, q_tupT, env0, List.map_cons, List.map_nil, List.length_cons, List.length_nil, List.length_set, List.length_append, Nat.reduceAdd, Nat.reduceSub, Nat.reduceLT, Nat.reduceLeDiff, Nat.zero_add, List.replicate, List.cons_append, List.nil_append, List.getElem?_cons_zero, List.getElem?_cons_succ, List.set_cons_zero, List.set_cons_succ, newL, newT, closed, Option.map_some, Option.map_none, lim, true_and, and_true, if_true, if_false, Bool.false_eq_true, reduceIte, ite_true, ite_false, q_list1, Bool.not_true, Bool.not_false, Nat.le_refl, Int.reduceLT, Int.reduceLE, Int.reduceToNat, Int.reduceNeg, List.nil_append, List.append_nil, beq_self_eq_true, decide_true, decide_false, Bool.and_true, Bool.true_and, Bool.and_false, Bool.false_and, Bool.or_true, Bool.true_or, Bool.or_false, Bool.false_or, ji0_NoneType, ji0_BadNumber, ji1_NoneType, ji1_BadNumber, ji2_NoneType, ji2_BadNumber, ji3_NoneType, ji3_bool, ji3_int, ji3_str, ji3_list, ji3_tuple, ji3_dict, ji3_tuple2, ji4_NoneType, ji4_bool, ji4_int, ji4_str, ji4_list, ji4_tuple, ji4_dict, ji4_tuple2, ji5_NoneType, ji5_bool, ji5_int, ji5_str, ji5_list, ji5_tuple, ji5_dict, ji5_tuple2]
      have t1' : TO (999000 + 1) o1 := TO.mono t1 (by omega)
      refine draw g2 t1' (by decide) (by decide) fun v2 o2 a2' b2' t2 => ?_
      have g4 := lst_at (x := o2) g2
      simp only [q_pure, q_cvar, q_op1, q_op2, q_nil, q_cons, q_args, q_and, q_or, q_not, q_chain, q_if, q_lst, q_tup, q_tB1, q_tTr, q_tNo, q_tAn, q_tOu, q_tYes, q_sub, q_fdiv, q_mod, q_pow, q_lt, q_le, q_gt, q_ge, q_add, q_mul, q_eqi, q_nei, q_sNil, q_seq, q_sExp, q_ret, q_retN, q_asg, q_sIf, q_put, q_for, q_range1, q_enum, app_get, app_set, q_iseq, seq_str, seq_lst, seq_tup, tru_bl, tru_int, tru_non, q_fin0, q_finX0, EQ_ok, SQ_ok, EQ_bad, SQ_bad, q_dct0, q_dct0f, q_neg, q_add_lst, lookM, Option.bind_some, clsU_obj, Nat.reduceEqDiff, Nat.succ_ne_self, reduceCtorEq, q_eqs, q_nes, q_finS, List.set_set, q_try, q_tryAs, q_raiseC, q_raiseO, q_max, q_min, q_list2, q_str, q_mth, q_lm, q_fld, q_listL, q_listT, q_tupL, q_tupT, env0, List.map_cons, List.map_nil, List.length_cons, List.length_nil, List.length_set, List.length_append, Nat.reduceAdd, Nat.reduceSub, Nat.reduceLT, Nat.reduceLeDiff, Nat.zero_add, List.replicate, List.cons_append, List.nil_append, List.getElem?_cons_zero, List.getElem?_cons_succ, List.set_cons_zero, List.set_cons_succ, newL, newT, closed, Option.map_some, Option.map_none, lim, true_and, and_true, if_true, if_false, Bool.false_eq_true, reduceIte, ite_true, ite_false, q_list1, Bool.not_true, Bool.not_false, Nat.le_refl, Int.reduceLT, Int.reduceLE, Int.reducePow, Int.reduceToNat, Int.reduceNeg, List.nil_append, List.append_nil, beq_self_eq_true, decide_true, decide_false, Bool.and_true, Bool.true_and, Bool.and_false, Bool.false_and, Bool.or_true, Bool.true_or, Bool.or_false, Bool.false_or, ji0_NoneType, ji0_BadNumber, ji1_NoneType, ji1_BadNumber, ji2_NoneType, ji2_BadNumber, ji3_NoneType, ji3_bool, ji3_int, ji3_str, ji3_list, ji3_tuple, ji3_dict, ji3_tuple2, ji4_NoneType, ji4_bool, ji4_int, ji4_str, ji4_list, ji4_tuple, ji4_dict, ji4_tuple2, ji5_NoneType, ji5_bool, ji5_int, ji5_str, ji5_list, ji5_tuple, ji5_dict, ji5_tuple2]
      have t2' : TO (998000 + 1) o2 := TO.mono t2 (by omega)
      refine draw g4 t2' (by decide) (by decide) fun v3 o3 a3' b3' t3 => ?_
      simp only [q_pure, q_cvar, q_op1, q_op2, q_nil, q_cons, q_args, q_and, q_or, q_not, q_chain, q_if, q_lst, q_tup, q_tB1, q_tTr, q_tNo, q_tAn, q_tOu, q_tYes, q_sub, q_fdiv, q_mod, q_pow, q_lt, q_le, q_gt, q_ge, q_add, q_mul, q_eqi, q_nei, q_sNil, q_seq, q_sExp, q_ret, q_retN, q_asg, q_sIf, q_put, q_for, q_range1, q_enum, app_get, app_set, q_iseq, seq_str, seq_lst, seq_tup, tru_bl, tru_int, tru_non, q_fin0, q_finX0, EQ_ok, SQ_ok, EQ_bad, SQ_bad, q_dct0, q_dct0f, q_neg, q_add_lst, lookM, Option.bind_some, clsU_obj, Nat.reduceEqDiff, Nat.succ_ne_self, reduceCtorEq, q_eqs, q_nes, q_finS, List.set_set, q_try, q_tryAs, q_raiseC, q_raiseO, q_max, q_min, q_list2, q_str, q_mth, q_lm, q_fld, q_listL, q_listT, q_tupL, q_tupT, env0, List.map_cons, List.map_nil, List.length_cons, List.length_nil, List.length_set, List.length_append, Nat.reduceAdd, Nat.reduceSub, Nat.reduceLT, Nat.reduceLeDiff, Nat.zero_add, List.replicate, List.cons_append, List.nil_append, List.getElem?_cons_zero, List.getElem?_cons_succ, List.set_cons_zero, List.set_cons_succ, newL, newT, closed, Option.map_some, Option.map_none, lim, true_and, and_true, if_true, if_false, Bool.false_eq_true, reduceIte, ite_true, ite_false, q_list1, Bool.not_true, Bool.not_false, Nat.le_refl, Int.reduceLT, Int.reduceLE, Int.reducePow, Int.reduceToNat, Int.reduceNeg, List.nil_append, List.append_nil, beq_self_eq_true, decide_true, decide_false, Bool.and_true, Bool.true_and, Bool.and_false, Bool.false_and, Bool.or_true, Bool.true_or, Bool.or_false, Bool.false_or, ji0_NoneType, ji0_BadNumber, ji1_NoneType, ji1_BadNumber, ji2_NoneType, ji2_BadNumber, ji3_NoneType, ji3_bool, ji3_int, ji3_str, ji3_list, ji3_tuple, ji3_dict, ji3_tuple2, ji4_NoneType, ji4_bool, ji4_int, ji4_str, ji4_list, ji4_tuple, ji4_dict, ji4_tuple2, ji5_NoneType, ji5_bool, ji5_int, ji5_str, ji5_list, ji5_tuple, ji5_dict, ji5_tuple2]
      refine q_ixl a3' (by simp only [List.length_cons, List.length_nil]; omega) fun d hd => ?_
      have hx : flatK d = true ∧ isNum d = false := by
        have big : ∀ i : Int, ¬ (0 ≤ i ∧ i ≤ 999999999999) → isNum (.int i) = false := fun i hi => by
          show (decide (0 ≤ i) && decide (i ≤ 999999999999)) = false
          rw [Bool.and_eq_false_iff, decide_eq_false_iff_not, decide_eq_false_iff_not]
          omega
        simp only [List.mem_cons, List.not_mem_nil, or_false] at hd
        rcases hd with rfl | rfl | rfl | rfl | rfl | rfl | rfl | rfl | rfl | rfl | rfl
        · exact ⟨rfl, big _ (by omega)⟩
        · exact ⟨rfl, big _ (by omega)⟩
        · exact ⟨rfl, rfl⟩
        · exact ⟨rfl, rfl⟩
        · exact ⟨rfl, rfl⟩
        · exact ⟨rfl, rfl⟩
        · exact ⟨rfl, rfl⟩
        · exact ⟨rfl, rfl⟩
        · exact ⟨rfl, big _ (by omega)⟩
        · exact ⟨rfl, big _ (by omega)⟩
        · exact ⟨rfl, rfl⟩
      simp only [caught_rule hx.1 hx.2, alone_rule, q_pure, q_cvar, q_op1, q_op2, q_nil, q_cons, q_args, q_and, q_or, q_not, q_chain, q_if, q_lst, q_tup, q_tB1, q_tTr, q_tNo, q_tAn, q_tOu, q_tYes, q_sub, q_fdiv, q_mod, q_pow, q_lt, q_le, q_gt, q_ge, q_add, q_mul, q_eqi, q_nei, q_sNil, q_seq, q_sExp, q_ret, q_retN, q_asg, q_sIf, q_put, q_for, q_range1, q_enum, app_get, app_set, q_iseq, seq_str, seq_lst, seq_tup, tru_bl, tru_int, tru_non, q_fin0, q_finX0, EQ_ok, SQ_ok, EQ_bad, SQ_bad, q_dct0, q_dct0f, q_neg, q_add_lst, lookM, Option.bind_some, clsU_obj, Nat.reduceEqDiff, Nat.succ_ne_self, reduceCtorEq, q_eqs, q_nes, q_finS, List.set_set, q_try, q_tryAs, q_raiseC, q_raiseO, q_max, q_min, q_list2, q_str, q_mth, q_lm, q_fld, q_listL, q_listT, q_tupL, q_tupT, env0, List.map_cons, List.map_nil, List.length_cons, List.length_nil, List.length_set, List.length_append, Nat.reduceAdd, Nat.reduceSub, Nat.reduceLT, Nat.reduceLeDiff, Nat.zero_add, List.replicate, List.cons_append, List.nil_append, List.getElem?_cons_zero, List.getElem?_cons_succ, List.set_cons_zero, List.set_cons_succ, newL, newT, closed, Option.map_some, Option.map_none, lim, true_and, and_true, if_true, if_false, Bool.false_eq_true, reduceIte, ite_true, ite_false, q_list1, Bool.not_true, Bool.not_false, Nat.le_refl, Int.reduceLT, Int.reduceLE, Int.reducePow, Int.reduceToNat, Int.reduceNeg, List.nil_append, List.append_nil, beq_self_eq_true, decide_true, decide_false, Bool.and_true, Bool.true_and, Bool.and_false, Bool.false_and, Bool.or_true, Bool.true_or, Bool.or_false, Bool.false_or, ji0_NoneType, ji0_BadNumber, ji1_NoneType, ji1_BadNumber, ji2_NoneType, ji2_BadNumber, ji3_NoneType, ji3_bool, ji3_int, ji3_str, ji3_list, ji3_tuple, ji3_dict, ji3_tuple2, ji4_NoneType, ji4_bool, ji4_int, ji4_str, ji4_list, ji4_tuple, ji4_dict, ji4_tuple2, ji5_NoneType, ji5_bool, ji5_int, ji5_str, ji5_list, ji5_tuple, ji5_dict, ji5_tuple2]
      refine ⟨⟨_, rfl, rfl⟩, _, ⟨N, hN, rfl⟩, ?_⟩
      rw [List.getElem?_set_ne (by omega)]
      exact g3
end
section
variable {QU : U → Sto → Prop} {X : Ex → Sto → Prop} {st : Sto} {fz : Bool} {n r : Nat} {o : O}
theorem len14 {l : List (Option U)} (h : l.length = 14) : ∃ a0 a1 a2 a3 a4 a5 a6 a7 a8 a9 a10 a11 a12 a13, l = [a0, a1, a2, a3, a4, a5, a6, a7, a8, a9, a10, a11, a12, a13] := by
  match l, h with
  | [a0, a1, a2, a3, a4, a5, a6, a7, a8, a9, a10, a11, a12, a13], _ => exact ⟨_, _, _, _, _, _, _, _, _, _, _, _, _, _, rfl⟩
def b_lawP (pw : ME) (rf : Bool) : MS := (sSeq (sPar 1 2 (cCons (cLst false cNil) (cCons pw cNil))) (sSeq (sFor (iSeq (cTup (cCons (cTup (cCons (cPure (.d (.int 0))) (cCons (cPure (.d (.bl false))) cNil))) (cCons (cTup (cCons (cPure (.d (.int 1))) (cCons (cPure (.d (.bl true))) cNil))) (cCons (cTup (cCons (cPure (.d (.int 2))) (cCons (cVar 2) cNil))) (cCons (cTup (cCons (cPure (.d (.int 3))) (cCons (cOp2 subU (cPure (.d (.int 0))) (cVar 2)) cNil))) cNil)))))) (.tp [(.nm 3), (.nm 4)]) (l5_law rf)) (sSeq (sFor (iEnumr (cCons (cScr 9) cNil)) (.tp [(.nm 5), (.nm 6)]) (l4_law rf)) (sSeq (sRet (cArgs (list1 allU) (cCons (cLc true (iSeq (cVar 1)) (.tp [(.nm 15), (.nm 9)]) tYesU (cOp2 eqU (cArgs (list1 reprU) (cCons (cVar 15) cNil)) (cArgs (list1 reprU) (cCons (cVar 9) cNil))) [15, 9]) cNil))) sNil))))
def powX : ME := (cOp2 powU (cOp2 powU (cOp2 powU (cPure (.d (.int 10))) (cPure (.d (.int 10)))) (cPure (.d (.int 10)))) (cPure (.d (.int 50))))
theorem law_rule {pw : ME} {big : Int} (hb : ∀ env s, pw env s = .ok (.d (.int big)) s) (hb2 : 1000000000000 < big) {ns : List Int} (hl : ns.length ≤ 63) (h : ∀ st', QU (.d (.bl true)) st') : EQ (callF 1 16 true (b_lawP pw true) [.d (.scr ns)] []) QU X := by
  refine q_call rfl ?_
  unfold b_lawP
  generalize hB5 : l5_law true = B5
  simp only [q_par, hb, q_pure, q_cvar, q_op1, q_op2, q_nil, q_cons, q_args, q_and, q_or, q_not, q_chain, q_if, q_lst, q_tup, q_tB1, q_tTr, q_tNo, q_tAn, q_tOu, q_tYes, q_sub, q_fdiv, q_mod, q_pow, q_lt, q_le, q_gt, q_ge, q_add, q_mul, q_eqi, q_nei, q_sNil, q_seq, q_sExp, q_ret, q_retN, q_asg, q_sIf, q_put, q_for, q_range1, q_enum, app_get, app_set, q_iseq, seq_str, seq_lst, seq_tup, tru_bl, tru_int, tru_non, q_fin0, q_finX0, EQ_ok, SQ_ok, EQ_bad, SQ_bad, q_dct0, q_dct0f, q_neg, q_add_lst, lookM, Option.bind_some, clsU_obj, Nat.reduceEqDiff, Nat.succ_ne_self, reduceCtorEq, q_eqs, q_nes, q_finS, List.set_set, q_try, q_tryAs, q_raiseC, q_raiseO, q_max, q_min, q_list2, q_str, q_mth, q_lm, q_fld, q_listL, q_listT, q_tupL, q_tupT, env0, List.map_cons, List.map_nil, List.length_cons, List.length_nil, List.length_set, List.length_append, Nat.reduceAdd, Nat.reduceSub, Nat.reduceLT, Nat.reduceLeDiff, Nat.zero_add, List.replicate, List.cons_append, List.nil_append, List.getElem?_cons_zero, List.getElem?_cons_succ, List.set_cons_zero, List.set_cons_succ, newL, newT, closed, Option.map_some, Option.map_none, lim, true_and, and_true, if_true, if_false, Bool.false_eq_true, reduceIte, ite_true, ite_false, q_list1, Bool.not_true, Bool.not_false, Nat.le_refl, Int.reduceLT, Int.reduceLE, Int.reduceToNat, Int.reduceNeg, List.nil_append, List.append_nil, beq_self_eq_true, decide_true, decide_false, Bool.and_true, Bool.true_and, Bool.and_false, Bool.false_and, Bool.or_true, Bool.true_or, Bool.or_false, Bool.false_or, ji0_NoneType, ji0_BadNumber, ji1_NoneType, ji1_BadNumber, ji2_NoneType, ji2_BadNumber, ji3_NoneType, ji3_bool, ji3_int, ji3_str, ji3_list, ji3_tuple, ji3_dict, ji3_tuple2, ji4_NoneType, ji4_bool, ji4_int, ji4_str, ji4_list, ji4_tuple, ji4_dict, ji4_tuple2, ji5_NoneType, ji5_bool, ji5_int, ji5_str, ji5_list, ji5_tuple, ji5_dict, ji5_tuple2]
  refine q_loopN (fun us env s => (∃ l, env = some (.d (.scr ns)) :: some (.c 0) :: l ∧ l.length = 14) ∧ s = [.lst []] ∧ ∀ u ∈ us, ∃ (N : Nat) (d : D), N < 10 ^ 12 ∧ (flatK d = true ∧ isNum d = false) ∧ u = .d (.tup [.int N, d])) (fun _ _ _ _ => gd_none) ?_ ⟨⟨_, rfl, rfl⟩, rfl, ?_⟩ ?_
  · rintro u us env s ⟨⟨l, rfl, hl⟩, rfl, hus⟩
    obtain ⟨a0, a1, a2, a3, a4, a5, a6, a7, a8, a9, a10, a11, a12, a13, rfl⟩ := len14 hl
    obtain ⟨N, d, hN, hd, rfl⟩ := hus u (List.mem_cons_self ..)
    refine ⟨_, rfl, ?_⟩
    rw [← hB5]
    refine (first_rule hN hd.1 hd.2).imp (fun f e s' z => ?_) fun _ _ _ z => z
    obtain ⟨z1, z2, z3⟩ := z
    exact ⟨z1, ⟨_, z2, rfl⟩, z3, fun w hw => hus w (List.mem_cons_of_mem _ hw)⟩
  · intro u hu
    have far : ∀ i : Int, ¬ (0 ≤ i ∧ i ≤ 999999999999) → isNum (.int i) = false := fun i hi => by
      show (decide (0 ≤ i) && decide (i ≤ 999999999999)) = false
      rw [Bool.and_eq_false_iff, decide_eq_false_iff_not, decide_eq_false_iff_not]
      omega
    simp only [List.mem_cons, List.not_mem_nil, or_false, List.map_cons, List.map_nil] at hu
    rcases hu with rfl | rfl | rfl | rfl
    · exact ⟨0, .bl false, by omega, ⟨rfl, rfl⟩, rfl⟩
    · exact ⟨1, .bl true, by omega, ⟨rfl, rfl⟩, rfl⟩
    · exact ⟨2, .int big, by omega, ⟨rfl, far _ (by omega)⟩, rfl⟩
    · exact ⟨3, .int (0 - big), by omega, ⟨rfl, far _ (by omega)⟩, rfl⟩
  rintro env s ⟨⟨l, rfl, hl8⟩, rfl, _⟩
  obtain ⟨a0, a1, a2, a3, a4, a5, a6, a7, a8, a9, a10, a11, a12, a13, rfl⟩ := len14 hl8
  simp only [q_enum, q_pure, q_cvar, q_op1, q_op2, q_nil, q_cons, q_args, q_and, q_or, q_not, q_chain, q_if, q_lst, q_tup, q_tB1, q_tTr, q_tNo, q_tAn, q_tOu, q_tYes, q_sub, q_fdiv, q_mod, q_pow, q_lt, q_le, q_gt, q_ge, q_add, q_mul, q_eqi, q_nei, q_sNil, q_seq, q_sExp, q_ret, q_retN, q_asg, q_sIf, q_put, q_for, q_range1, q_enum, app_get, app_set, q_iseq, seq_str, seq_lst, seq_tup, tru_bl, tru_int, tru_non, q_fin0, q_finX0, EQ_ok, SQ_ok, EQ_bad, SQ_bad, q_dct0, q_dct0f, q_neg, q_add_lst, lookM, Option.bind_some, clsU_obj, Nat.reduceEqDiff, Nat.succ_ne_self, reduceCtorEq, q_eqs, q_nes, q_finS, List.set_set, q_try, q_tryAs, q_raiseC, q_raiseO, q_max, q_min, q_list2, q_str, q_mth, q_lm, q_fld, q_listL, q_listT, q_tupL, q_tupT, env0, List.map_cons, List.map_nil, List.length_cons, List.length_nil, List.length_set, List.length_append, Nat.reduceAdd, Nat.reduceSub, Nat.reduceLT, Nat.reduceLeDiff, Nat.zero_add, List.replicate, List.cons_append, List.nil_append, List.getElem?_cons_zero, List.getElem?_cons_succ, List.set_cons_zero, List.set_cons_succ, newL, newT, closed, Option.map_some, Option.map_none, lim, true_and, and_true, if_true, if_false, Bool.false_eq_true, reduceIte, ite_true, ite_false, q_list1, Bool.not_true, Bool.not_false, Nat.le_refl, Int.reduceLT, Int.reduceLE, Int.reduceToNat, Int.reduceNeg, List.nil_append, List.append_nil, beq_self_eq_true, decide_true, decide_false, Bool.and_true, Bool.true_and, Bool.and_false, Bool.false_and, Bool.or_true, Bool.true_or, Bool.or_false, Bool.false_or, ji0_NoneType, ji0_BadNumber, ji1_NoneType, ji1_BadNumber, ji2_NoneType, ji2_BadNumber, ji3_NoneType, ji3_bool, ji3_int, ji3_str, ji3_list, ji3_tuple, ji3_dict, ji3_tuple2, ji4_NoneType, ji4_bool, ji4_int, ji4_str, ji4_list, ji4_tuple, ji4_dict, ji4_tuple2, ji5_NoneType, ji5_bool, ji5_int, ji5_str, ji5_list, ji5_tuple, ji5_dict, ji5_tuple2]
  refine q_script rfl hl ?_
  simp only [EQ_ok, scrU, lstU]
  refine q_loopN (fun us env s => (∃ l, env = some (.d (.scr ns)) :: some (.c 0) :: l ∧ l.length = 14) ∧ (∀ u ∈ us, ∃ (k : Nat) (c : Int), u = .d (.tup [.int k, .int c]) ∧ k ≤ 1000) ∧ ∃ xs, s[0]? = some (.lst xs) ∧ (∀ x ∈ xs, held x) ∧ xs.length + us.length ≤ 64) (fun _ _ _ _ => gd_lst rfl) ?_ ⟨⟨_, rfl, rfl⟩, fun u hu => ?_, [], rfl, fun x hx => (nomatch hx), ?_⟩ ?_
  · rintro u us env s ⟨⟨l, rfl, hl⟩, hus, xs, g0, hx, hlen⟩
    obtain ⟨a0, a1, a2, a3, a4, a5, a6, a7, a8, a9, a10, a11, a12, a13, rfl⟩ := len14 hl
    obtain ⟨k, c, rfl, hk⟩ := hus u (List.mem_cons_self ..)
    rw [List.length_cons] at hlen
    refine ⟨_, rfl, (item_rule hk g0 (by omega)).imp (fun f e s' z => ?_) fun _ _ _ z => z⟩
    obtain ⟨z1, z2, x, z3, z4⟩ := z
    refine ⟨z1, z2, fun w hw => hus w (List.mem_cons_of_mem _ hw), xs ++ [x], z4, fun y hy => ?_, ?_⟩
    · rcases List.mem_append.mp hy with q | q
      · exact hx y q
      · rw [List.mem_singleton.mp q]
        exact z3
    · rw [List.length_append, List.length_singleton]
      omega
  · obtain ⟨k, c, rfl, h1, h2⟩ := enum_ints hu
    rw [List.length_append, List.length_singleton] at h1
    exact ⟨k, c, rfl, by omega⟩
  · simp [enumU]
    try omega
  rintro env s ⟨⟨l, rfl, hl8⟩, _, xs, g0, hx, hlen⟩
  obtain ⟨a0, a1, a2, a3, a4, a5, a6, a7, a8, a9, a10, a11, a12, a13, rfl⟩ := len14 hl8
  have sg : ∀ acc, scrU (s ++ [.lst acc]) (.c 0) = some xs := by
    intro acc
    have n0 : 0 < s.length := (List.getElem?_eq_some_iff.mp g0).1
    refine scrC ?_
    rw [List.getElem?_append_left n0, g0]
  simp only [q_pure, q_cvar, q_op1, q_op2, q_nil, q_cons, q_args, q_and, q_or, q_not, q_chain, q_if, q_lst, q_tup, q_tB1, q_tTr, q_tNo, q_tAn, q_tOu, q_tYes, q_sub, q_fdiv, q_mod, q_pow, q_lt, q_le, q_gt, q_ge, q_add, q_mul, q_eqi, q_nei, q_sNil, q_seq, q_sExp, q_ret, q_retN, q_asg, q_sIf, q_put, q_for, q_range1, q_enum, app_get, app_set, q_iseq, seq_str, seq_lst, seq_tup, tru_bl, tru_int, tru_non, q_fin0, q_finX0, EQ_ok, SQ_ok, EQ_bad, SQ_bad, q_dct0, q_dct0f, q_neg, q_add_lst, lookM, Option.bind_some, clsU_obj, Nat.reduceEqDiff, Nat.succ_ne_self, reduceCtorEq, q_eqs, q_nes, q_finS, List.set_set, q_try, q_tryAs, q_raiseC, q_raiseO, q_max, q_min, q_list2, q_str, q_mth, q_lm, q_fld, q_listL, q_listT, q_tupL, q_tupT, env0, List.map_cons, List.map_nil, List.length_cons, List.length_nil, List.length_set, List.length_append, Nat.reduceAdd, Nat.reduceSub, Nat.reduceLT, Nat.reduceLeDiff, Nat.zero_add, List.replicate, List.cons_append, List.nil_append, List.getElem?_cons_zero, List.getElem?_cons_succ, List.set_cons_zero, List.set_cons_succ, newL, newT, closed, Option.map_some, Option.map_none, lim, true_and, and_true, if_true, if_false, Bool.false_eq_true, reduceIte, ite_true, ite_false, q_list1, Bool.not_true, Bool.not_false, Nat.le_refl, Int.reduceLT, Int.reduceLE, Int.reduceToNat, Int.reduceNeg, List.nil_append, List.append_nil, beq_self_eq_true, decide_true, decide_false, Bool.and_true, Bool.true_and, Bool.and_false, Bool.false_and, Bool.or_true, Bool.true_or, Bool.or_false, Bool.false_or, ji0_NoneType, ji0_BadNumber, ji1_NoneType, ji1_BadNumber, ji2_NoneType, ji2_BadNumber, ji3_NoneType, ji3_bool, ji3_int, ji3_str, ji3_list, ji3_tuple, ji3_dict, ji3_tuple2, ji4_NoneType, ji4_bool, ji4_int, ji4_str, ji4_list, ji4_tuple, ji4_dict, ji4_tuple2, ji5_NoneType, ji5_bool, ji5_int, ji5_str, ji5_list, ji5_tuple, ji5_dict, ji5_tuple2]
  refine q_lc (fun _ => some (.bl true)) ?_
  simp only [q_pure, q_cvar, q_op1, q_op2, q_nil, q_cons, q_args, q_and, q_or, q_not, q_chain, q_if, q_lst, q_tup, q_tB1, q_tTr, q_tNo, q_tAn, q_tOu, q_tYes, q_sub, q_fdiv, q_mod, q_pow, q_lt, q_le, q_gt, q_ge, q_add, q_mul, q_eqi, q_nei, q_sNil, q_seq, q_sExp, q_ret, q_retN, q_asg, q_sIf, q_put, q_for, q_range1, q_enum, app_get, app_set, q_iseq, seq_str, seq_lst, seq_tup, tru_bl, tru_int, tru_non, q_fin0, q_finX0, EQ_ok, SQ_ok, EQ_bad, SQ_bad, q_dct0, q_dct0f, q_neg, q_add_lst, lookM, Option.bind_some, clsU_obj, Nat.reduceEqDiff, Nat.succ_ne_self, reduceCtorEq, q_eqs, q_nes, q_finS, List.set_set, q_try, q_tryAs, q_raiseC, q_raiseO, q_max, q_min, q_list2, q_str, q_mth, q_lm, q_fld, q_listL, q_listT, q_tupL, q_tupT, env0, List.map_cons, List.map_nil, List.length_cons, List.length_nil, List.length_set, List.length_append, Nat.reduceAdd, Nat.reduceSub, Nat.reduceLT, Nat.reduceLeDiff, Nat.zero_add, List.replicate, List.cons_append, List.nil_append, List.getElem?_cons_zero, List.getElem?_cons_succ, List.set_cons_zero, List.set_cons_succ, newL, newT, closed, Option.map_some, Option.map_none, lim, true_and, and_true, if_true, if_false, Bool.false_eq_true, reduceIte, ite_true, ite_false, q_list1, Bool.not_true, Bool.not_false, Nat.le_refl, Int.reduceLT, Int.reduceLE, Int.reduceToNat, Int.reduceNeg, List.nil_append, List.append_nil, beq_self_eq_true, decide_true, decide_false, Bool.and_true, Bool.true_and, Bool.and_false, Bool.false_and, Bool.or_true, Bool.true_or, Bool.or_false, Bool.false_or, ji0_NoneType, ji0_BadNumber, ji1_NoneType, ji1_BadNumber, ji2_NoneType, ji2_BadNumber, ji3_NoneType, ji3_bool, ji3_int, ji3_str, ji3_list, ji3_tuple, ji3_dict, ji3_tuple2, ji4_NoneType, ji4_bool, ji4_int, ji4_str, ji4_list, ji4_tuple, ji4_dict, ji4_tuple2, ji5_NoneType, ji5_bool, ji5_int, ji5_str, ji5_list, ji5_tuple, ji5_dict, ji5_tuple2]
  rw [seqC' g0]
  refine ⟨fun acc => by simp [gdOk, sg], by show xs.length ≤ 16777216; simp only [List.length_nil] at hlen; omega, fun u hu => ?_, ?_⟩
  · obtain ⟨N, hN, rfl⟩ := hx u hu
    have ok := rowTo_ok (n := N) 12 (Nat.le_refl _)
    have ln := rowTo_len (n := N) 12
    refine ⟨[some (.d (.scr ns)), some (.c 0), a0, a1, a2, a3, a4, a5, a6, some (.d (tolds (rowTo N 12))), a8, a9, a10, a11, a12, some (.d (tolds (rowTo N 12)))], rfl, fun acc => ?_⟩
    simp only [rep_tolds ok (show (rowTo N 12).length < 1000 by omega), q_pure, q_cvar, q_op1, q_op2, q_nil, q_cons, q_args, q_and, q_or, q_not, q_chain, q_if, q_lst, q_tup, q_tB1, q_tTr, q_tNo, q_tAn, q_tOu, q_tYes, q_sub, q_fdiv, q_mod, q_pow, q_lt, q_le, q_gt, q_ge, q_add, q_mul, q_eqi, q_nei, q_sNil, q_seq, q_sExp, q_ret, q_retN, q_asg, q_sIf, q_put, q_for, q_range1, q_enum, app_get, app_set, q_iseq, seq_str, seq_lst, seq_tup, tru_bl, tru_int, tru_non, q_fin0, q_finX0, EQ_ok, SQ_ok, EQ_bad, SQ_bad, q_dct0, q_dct0f, q_neg, q_add_lst, lookM, Option.bind_some, clsU_obj, Nat.reduceEqDiff, Nat.succ_ne_self, reduceCtorEq, q_eqs, q_nes, q_finS, List.set_set, q_try, q_tryAs, q_raiseC, q_raiseO, q_max, q_min, q_list2, q_str, q_mth, q_lm, q_fld, q_listL, q_listT, q_tupL, q_tupT, env0, List.map_cons, List.map_nil, List.length_cons, List.length_nil, List.length_set, List.length_append, Nat.reduceAdd, Nat.reduceSub, Nat.reduceLT, Nat.reduceLeDiff, Nat.zero_add, List.replicate, List.cons_append, List.nil_append, List.getElem?_cons_zero, List.getElem?_cons_succ, List.set_cons_zero, List.set_cons_succ, newL, newT, closed, Option.map_some, Option.map_none, lim, true_and, and_true, if_true, if_false, Bool.false_eq_true, reduceIte, ite_true, ite_false, q_list1, Bool.not_true, Bool.not_false, Nat.le_refl, Int.reduceLT, Int.reduceLE, Int.reduceToNat, Int.reduceNeg, List.nil_append, List.append_nil, beq_self_eq_true, decide_true, decide_false, Bool.and_true, Bool.true_and, Bool.and_false, Bool.false_and, Bool.or_true, Bool.true_or, Bool.or_false, Bool.false_or, ji0_NoneType, ji0_BadNumber, ji1_NoneType, ji1_BadNumber, ji2_NoneType, ji2_BadNumber, ji3_NoneType, ji3_bool, ji3_int, ji3_str, ji3_list, ji3_tuple, ji3_dict, ji3_tuple2, ji4_NoneType, ji4_bool, ji4_int, ji4_str, ji4_list, ji4_tuple, ji4_dict, ji4_tuple2, ji5_NoneType, ji5_bool, ji5_int, ji5_str, ji5_list, ji5_tuple, ji5_dict, ji5_tuple2]
    exact ⟨_, rfl, rfl⟩
  · have hm : (xs.filterMap fun _ => some (D.bl true)) = (List.replicate xs.length true).map .bl := by
      clear hx g0 sg hlen
      induction xs with
      | nil => rfl
      | cons x xs ih => simp only [List.filterMap_cons, ih, List.length_cons, List.replicate_succ, List.map_cons]
    have ha : (List.replicate xs.length true).all id = true := by simp
    rw [hm, q_all, ha]
    exact q_finD h
end
theorem answer (ns : List Int) (h : ns.length ≤ 63) : ∃ st, q_law true [.d (.scr ns)] [] = .ok (.d (.bl true)) st := by
  obtain ⟨big, hb, hb2⟩ : ∃ big : Int, (∀ env s, powX env s = .ok (.d (.int big)) s) ∧ 1000000000000 < big := ⟨((10 ^ 10) ^ 10) ^ 50, fun env s => by kernel_rfl, by decide +kernel⟩
  have e0 : q_law true = callF 1 16 true (b_lawP powX true) := by kernel_rfl
  rw [e0]
  generalize powX = pw at hb
  have r : EQ (callF 1 16 true (b_lawP pw true) [.d (.scr ns)] []) (fun u _ => u = .d (.bl true)) (fun _ _ => False) := law_rule hb hb2 h fun _ => rfl
  cases e : callF 1 16 true (b_lawP pw true) [.d (.scr ns)] [] with
  | ok u st =>
    rw [e] at r
    exact ⟨st, by rw [show u = _ from r]⟩
  | exc z st =>
    rw [e] at r
    exact r.elim
  | bad =>
    rw [e] at r
    exact r.elim
end K06
open PySem PySem.W PyProof.Rows
set_option maxRecDepth 100000 in
set_option maxHeartbeats 0 in
theorem PySem.Challenge.cw_knotbook_k06_numbers_tied_holds : PySem.Challenge.rw_knotbook_k06_numbers_tied.Holds := by
  w_on; o_law; k_head; (case hw => w_witness2)
  k_fill
  refine KB.walkK (l := PySem.Challenge.rw_knotbook_k06_numbers_tied) (n := 63) (k := 13) (x := "_law_script") rfl (by decide) rfl ⟨rfl, by decide, by decide⟩ (fun w h Y => PySem.W.kIn_of Y) ?F
  case F =>
    intro w mg fa h KX gl hmg
    refine' K06.all_mk KX gl hmg ?zc_ZONE ?zc_MOST_NUMBER ?zc_ZONES ?zb_ValueError ?zb_all ?zb_bool ?zb_enumerate ?zb_int ?zb_isinstance ?zb_len ?zb_list ?zb_min ?zb_range ?zb_repr ?zb_sum ?g_hn ?g_htk ?aC_CordError ?aC_BadNumber ?aC_BadColour ?aC_BadCord ?aC_BadBook ?aC_BadPlace ?aC_IsWorn ?aC_NoWay ?aC_NoDeed ?aC_BadLine ?aC_BadKnot ?aC_BadText ?hd_BadNumber ?ty_BadNumber ?se_BadNumber ?hd_BadColour ?ty_BadColour ?se_BadColour ?hd_BadCord ?ty_BadCord ?se_BadCord ?hd_BadBook ?ty_BadBook ?se_BadBook ?hd_BadPlace ?ty_BadPlace ?se_BadPlace ?hd_IsWorn ?ty_IsWorn ?se_IsWorn ?hd_NoWay ?ty_NoWay ?se_NoWay ?hd_NoDeed ?ty_NoDeed ?se_NoDeed ?hd_BadLine ?ty_BadLine ?se_BadLine ?hd_BadKnot ?ty_BadKnot ?se_BadKnot ?hd_BadText ?ty_BadText ?se_BadText ?ha_BadNumber ?hm_BadNumber ?ga_BadNumber ?gt_BadNumber ?sb_BadNumber ?kC_BadNumber ?xq_BadNumber ?hd_CordError ?ty_CordError ?sb_CordError ?xs_BadNumber_CordError ?kr_0 ?kr_1 ?kr_2 ?kr_3 ?kr_4 ?kr_5 ?kr_6 ?kr_7 ?kr_8 ?kr_9 ?kr_10 ?kr_11 ?kr_12 ?kr_13 ?kr_14 ?kr_15 ?kr_16 ?kr_17 ?kr_18 ?kr_19 ?kr_20 ?kr_21 ?kr_23 ?a_q_law_state ?l_q_law_state ?c_q_law_state ?k_q_law_state ?a_q_law_mixed ?l_q_law_mixed ?c_q_law_mixed ?k_q_law_mixed ?a_q_law_take ?l_q_law_take ?c_q_law_take ?k_q_law_take ?a_q_law_number ?l_q_law_number ?c_q_law_number ?k_q_law_number ?a_q_law_zone ?l_q_law_zone ?c_q_law_zone ?k_q_law_zone ?a_q_law_zones ?l_q_law_zones ?c_q_law_zones ?k_q_law_zones ?a_q_is_among ?l_q_is_among ?c_q_is_among ?k_q_is_among ?a_q_is_number ?l_q_is_number ?c_q_is_number ?k_q_is_number ?a_q_tied_in ?l_q_tied_in ?c_q_tied_in ?k_q_tied_in ?a_q_tied ?l_q_tied ?c_q_tied ?k_q_tied ?a_q_law_alone ?l_q_law_alone ?c_q_law_alone ?k_q_law_alone ?a_q_law_caught ?l_q_law_caught ?c_q_law_caught ?k_q_law_caught ?a_q_law ?l_q_law ?c_q_law ?k_q_law K06.answer
    (case zc_ZONE => k_is)
    (case zc_MOST_NUMBER => k_is)
    (case zc_ZONES => k_is)
    (case zb_ValueError => k_is)
    (case zb_all => k_is)
    (case zb_bool => k_is)
    (case zb_enumerate => k_is)
    (case zb_int => k_is)
    (case zb_isinstance => k_is)
    (case zb_len => k_is)
    (case zb_list => k_is)
    (case zb_min => k_is)
    (case zb_range => k_is)
    (case zb_repr => k_is)
    (case zb_sum => k_is)
    (case g_hn => k_is)
    (case g_htk => k_is)
    (case aC_CordError => k_is)
    (case aC_BadNumber => k_is)
    (case aC_BadColour => k_is)
    (case aC_BadCord => k_is)
    (case aC_BadBook => k_is)
    (case aC_BadPlace => k_is)
    (case aC_IsWorn => k_is)
    (case aC_NoWay => k_is)
    (case aC_NoDeed => k_is)
    (case aC_BadLine => k_is)
    (case aC_BadKnot => k_is)
    (case aC_BadText => k_is)
    (case hd_BadNumber => k_is)
    (case ty_BadNumber => k_is)
    (case se_BadNumber => k_is)
    (case hd_BadColour => k_is)
    (case ty_BadColour => k_is)
    (case se_BadColour => k_is)
    (case hd_BadCord => k_is)
    (case ty_BadCord => k_is)
    (case se_BadCord => k_is)
    (case hd_BadBook => k_is)
    (case ty_BadBook => k_is)
    (case se_BadBook => k_is)
    (case hd_BadPlace => k_is)
    (case ty_BadPlace => k_is)
    (case se_BadPlace => k_is)
    (case hd_IsWorn => k_is)
    (case ty_IsWorn => k_is)
    (case se_IsWorn => k_is)
    (case hd_NoWay => k_is)
    (case ty_NoWay => k_is)
    (case se_NoWay => k_is)
    (case hd_NoDeed => k_is)
    (case ty_NoDeed => k_is)
    (case se_NoDeed => k_is)
    (case hd_BadLine => k_is)
    (case ty_BadLine => k_is)
    (case se_BadLine => k_is)
    (case hd_BadKnot => k_is)
    (case ty_BadKnot => k_is)
    (case se_BadKnot => k_is)
    (case hd_BadText => k_is)
    (case ty_BadText => k_is)
    (case se_BadText => k_is)
    (case ha_BadNumber => k_is)
    (case hm_BadNumber => k_is)
    (case ga_BadNumber => k_is)
    (case gt_BadNumber => k_is)
    (case sb_BadNumber => k_is)
    (case kC_BadNumber => k_is)
    (case xq_BadNumber => k_exc)
    (case hd_CordError => k_is)
    (case ty_CordError => k_is)
    (case sb_CordError => k_is)
    (case xs_BadNumber_CordError => k_is)
    (case kr_0 => k_is)
    (case kr_1 => k_is)
    (case kr_2 => k_is)
    (case kr_3 => k_is)
    (case kr_4 => k_is)
    (case kr_5 => k_is)
    (case kr_6 => k_is)
    (case kr_7 => k_is)
    (case kr_8 => k_is)
    (case kr_9 => k_is)
    (case kr_10 => k_is)
    (case kr_11 => k_is)
    (case kr_12 => k_is)
    (case kr_13 => k_is)
    (case kr_14 => k_is)
    (case kr_15 => k_is)
    (case kr_16 => k_is)
    (case kr_17 => k_is)
    (case kr_18 => k_is)
    (case kr_19 => k_is)
    (case kr_20 => k_is)
    (case kr_21 => k_is)
    (case kr_23 => k_is)
    (case a_q_law_state => k_is)
    (case l_q_law_state => k_is)
    (case c_q_law_state => k_is)
    (case k_q_law_state => k_is)
    (case a_q_law_mixed => k_is)
    (case l_q_law_mixed => k_is)
    (case c_q_law_mixed => k_is)
    (case k_q_law_mixed => k_is)
    (case a_q_law_take => k_is)
    (case l_q_law_take => k_is)
    (case c_q_law_take => k_is)
    (case k_q_law_take => k_is)
    (case a_q_law_number => k_is)
    (case l_q_law_number => k_is)
    (case c_q_law_number => k_is)
    (case k_q_law_number => k_is)
    (case a_q_law_zone => k_is)
    (case l_q_law_zone => k_is)
    (case c_q_law_zone => k_is)
    (case k_q_law_zone => k_is)
    (case a_q_law_zones => k_is)
    (case l_q_law_zones => k_is)
    (case c_q_law_zones => k_is)
    (case k_q_law_zones => k_is)
    (case a_q_is_among => k_is)
    (case l_q_is_among => k_is)
    (case c_q_is_among => k_is)
    (case k_q_is_among => k_is)
    (case a_q_is_number => k_is)
    (case l_q_is_number => k_is)
    (case c_q_is_number => k_is)
    (case k_q_is_number => k_is)
    (case a_q_tied_in => k_is)
    (case l_q_tied_in => k_is)
    (case c_q_tied_in => k_is)
    (case k_q_tied_in => k_is)
    (case a_q_tied => k_is)
    (case l_q_tied => k_is)
    (case c_q_tied => k_is)
    (case k_q_tied => k_is)
    (case a_q_law_alone => k_is)
    (case l_q_law_alone => k_is)
    (case c_q_law_alone => k_is)
    (case k_q_law_alone => k_is)
    (case a_q_law_caught => k_is)
    (case l_q_law_caught => k_is)
    (case c_q_law_caught => k_is)
    (case k_q_law_caught => k_is)
    (case a_q_law => k_is)
    (case l_q_law => k_is)
    (case c_q_law => k_is)
    (case k_q_law => k_is)
