import PyProof.Rows.All
import Wide.All
import OpenK.AllK
import Wide.FinOn
import Lean
import PySem.Challenge.RW_pq0241_01
set_option Elab.async false
section
open PySem PySem.Calls PyProof.Rows PySem.W
set_option Elab.async false
set_option maxRecDepth 100000
set_option autoImplicit false
namespace Mine
/-! shallow looks at a tree, and what each says -/
theorem noS {α : Type} {x : α} {Q : Prop} (h : (none : Option α) = some x) : Q := nomatch h
theorem seq_str {a b : Str} (h : (a == b) = true) : a = b := by simpa using h
noncomputable def vNm : Expr → Option Str
  | .Name x _ => some x
  | _ => none
theorem vNm_i {e : Expr} {x : Str} (h : vNm e = some x) : ∃ p, e = .Name x p := by
  cases e <;> first | exact noS h | (cases h; exact ⟨_, rfl⟩)
noncomputable def isNm (s : Str) (e : Expr) : Bool := match vNm e with
  | some x => x == s
  | none => false
theorem isNm_i {e : Expr} {s : Str} (h : isNm s e = true) : ∃ p, e = .Name s p := by
  unfold isNm at h
  split at h
  · rename_i x q
    rw [← seq_str h]; exact vNm_i q
  · cases h
noncomputable def vK : Expr → Option Const
  | .Constant v _ _ => some v
  | _ => none
theorem vK_j {e : Expr} {v : Const} (h : vK e = some v) : ∃ k p, e = .Constant v k p := by
  cases e <;> first | exact noS h | (cases h; exact ⟨_, _, rfl⟩)
noncomputable def isIt (n : Nat) (e : Expr) : Bool := match vK e with
  | some (.int (.ofNat m)) => Nat.beq m n
  | _ => false
theorem isIt_i {e : Expr} {n : Nat} (h : isIt n e = true) : ∃ k p, e = .Constant (.int (.ofNat n)) k p := by
  unfold isIt at h
  split at h
  · rename_i m q
    have := Nat.eq_of_beq_eq_true h
    subst this
    exact vK_j q
  · cases h
noncomputable def vBn : Expr → Option (Expr × Operator × Expr)
  | .BinOp a o b _ => some (a, o, b)
  | _ => none
theorem vBn_i {e a b : Expr} {o : Operator} (h : vBn e = some (a, o, b)) : ∃ p, e = .BinOp a o b p := by
  cases e <;> first | exact noS h | (cases h; exact ⟨_, rfl⟩)
noncomputable def isBn (o : Operator) (f g : Expr → Bool) (e : Expr) : Bool := match vBn e with
  | some (a, q, b) => decide (q = o) && (f a && g b)
  | none => false
theorem isBn_i {o : Operator} {f g : Expr → Bool} {e : Expr} (h : isBn o f g e = true) : ∃ a b p, e = .BinOp a o b p ∧ f a = true ∧ g b = true := by
  unfold isBn at h
  split at h
  · rename_i a q b z
    rw [Bool.and_eq_true, Bool.and_eq_true] at h
    obtain ⟨h1, h2, h3⟩ := h
    have := of_decide_eq_true h1
    subst this
    obtain ⟨p, rfl⟩ := vBn_i z
    exact ⟨_, _, _, rfl, h2, h3⟩
  · cases h
noncomputable def vSb : Expr → Option (Expr × Expr)
  | .Subscript a b _ => some (a, b)
  | _ => none
theorem vSb_i {e a b : Expr} (h : vSb e = some (a, b)) : ∃ p, e = .Subscript a b p := by
  cases e <;> first | exact noS h | (cases h; exact ⟨_, rfl⟩)
noncomputable def vCl1 : Expr → Option (Expr × List Expr × List Keyword)
  | .Call f l k _ => some (f, l, k)
  | _ => none
theorem vCl1_j {e f : Expr} {l : List Expr} {k : List Keyword} (h : vCl1 e = some (f, l, k)) : ∃ p, e = .Call f l k p := by
  cases e <;> first | exact noS h | (cases h; exact ⟨_, rfl⟩)
noncomputable def vCl (e : Expr) : Option (Expr × Expr) := match vCl1 e with
  | some (f, [a], []) => some (f, a)
  | _ => none
theorem vCl_i {e f a : Expr} (h : vCl e = some (f, a)) : ∃ p, e = .Call f [a] [] p := by
  unfold vCl at h
  split at h
  · rename_i q
    cases h
    exact vCl1_j q
  · cases h
noncomputable def vCm : Expr → Option (Expr × List CmpOp × List Expr)
  | .Compare a o l _ => some (a, o, l)
  | _ => none
theorem vCm_j {e a : Expr} {o : List CmpOp} {l : List Expr} (h : vCm e = some (a, o, l)) : ∃ p, e = .Compare a o l p := by
  cases e <;> first | exact noS h | (cases h; exact ⟨_, rfl⟩)
noncomputable def vLt (e : Expr) : Option (Expr × Expr) := match vCm e with
  | some (a, [.Lt], [b]) => some (a, b)
  | _ => none
theorem vLt_i {e a b : Expr} (h : vLt e = some (a, b)) : ∃ p, e = .Compare a [.Lt] [b] p := by
  unfold vLt at h
  split at h
  · rename_i q
    cases h
    exact vCm_j q
  · cases h
noncomputable def vLc : Expr → Option (Expr × List Comprehension × Scope × Pos)
  | .ListComp e l s p => some (e, l, s, p)
  | _ => none
theorem vLc_j {e a : Expr} {l : List Comprehension} {sc : Scope} {p : Pos} (h : vLc e = some (a, l, sc, p)) : e = .ListComp a l sc p := by
  cases e <;> first | exact noS h | (cases h; rfl)
noncomputable def vCp (e : Expr) : Option (Expr × Expr × Expr × Scope × Pos) := match vLc e with
  | some (el, [⟨t, it, [], .ofNat 0⟩], s, p) => some (el, t, it, s, p)
  | _ => none
theorem vCp_i {e el t it : Expr} {s : Scope} {p : Pos} (h : vCp e = some (el, t, it, s, p)) : e = .ListComp el [⟨t, it, [], 0⟩] s p := by
  unfold vCp at h
  split at h
  · rename_i q
    cases h
    exact vLc_j q
  · cases h
noncomputable def vRg (n : Nat) (e : Expr) : Option Str := match vCl e with
  | some (f, a) => bif isIt n a then vNm f else none
  | none => none
theorem vRg_i {n : Nat} {e : Expr} {x : Str} (h : vRg n e = some x) : ∃ p k p2 p3, e = .Call (.Name x p) [.Constant (.int (.ofNat n)) k p2] [] p3 := by
  unfold vRg at h
  split at h
  · rename_i f a q
    obtain ⟨p3, rfl⟩ := vCl_i q
    cases z : isIt n a with
    | true =>
      rw [z] at h
      obtain ⟨p, rfl⟩ := vNm_i (show vNm f = some x from h)
      obtain ⟨k, p2, rfl⟩ := isIt_i z
      exact ⟨_, _, _, _, rfl⟩
    | false => rw [z] at h; cases h
  · cases h
noncomputable def vPt (e : Expr) : Option (Str × Str) := match vBn e with
  | some (a, o, b) => match vBn a with
    | some (i, o2, m) => match vNm m, vNm b with
      | some x, some y => bif decide (o = .Add) && (decide (o2 = .Mult) && isIt 20 i) then some (x, y) else none
      | _, _ => none
    | none => none
  | none => none
theorem vPt_i {e : Expr} {x y : Str} (h : vPt e = some (x, y)) : ∃ k p1 p2 p3 p4 p5, e = .BinOp (.BinOp (.Constant (.int (.ofNat 20)) k p1) .Mult (.Name x p2) p3) .Add (.Name y p4) p5 := by
  unfold vPt at h
  split at h
  · rename_i a o b q1
    split at h
    · rename_i i o2 m q2
      split at h
      · rename_i x' y' q3 q4
        cases z : (decide (o = .Add) && (decide (o2 = .Mult) && isIt 20 i)) with
        | true =>
          rw [z] at h
          cases h
          rw [Bool.and_eq_true, Bool.and_eq_true] at z
          obtain ⟨z1, z2, z3⟩ := z
          have := of_decide_eq_true z1
          subst this
          have := of_decide_eq_true z2
          subst this
          obtain ⟨_, rfl⟩ := vBn_i q1
          obtain ⟨_, rfl⟩ := vBn_i q2
          obtain ⟨_, rfl⟩ := vNm_i q3
          obtain ⟨_, rfl⟩ := vNm_i q4
          obtain ⟨_, _, rfl⟩ := isIt_i z3
          exact ⟨_, _, _, _, _, _, rfl⟩
        | false => rw [z] at h; cases h
      · cases h
    · cases h
  · cases h
noncomputable def vSc (s : Scope) : Option (List (Str × NameKind)) := match s.kind with
  | .function => some s.names
  | _ => none
theorem vSc_i {s : Scope} {l : List (Str × NameKind)} (h : vSc s = some l) : ∃ g co mo, s = ⟨.function, l, g, co, mo⟩ := by
  unfold vSc at h
  obtain ⟨k, ns, g, co, mo⟩ := s
  split at h
  · rename_i q
    cases h
    cases q
    exact ⟨_, _, _, rfl⟩
  · cases h
noncomputable def vL3 (k1 k2 k3 : NameKind) : List (Str × NameKind) → Option (Str × Str × Str)
  | [a, b, c] => bif decide (a.2 = k1) && (decide (b.2 = k2) && decide (c.2 = k3)) then some (a.1, b.1, c.1) else none
  | _ => none
noncomputable def vS3 (k1 k2 k3 : NameKind) (s : Scope) : Option (Str × Str × Str) := (vSc s).bind (vL3 k1 k2 k3)
theorem vS3_i {k1 k2 k3 : NameKind} {s : Scope} {x y z : Str} (h : vS3 k1 k2 k3 s = some (x, y, z)) : ∃ g co mo, s = ⟨.function, [(x, k1), (y, k2), (z, k3)], g, co, mo⟩ := by
  obtain ⟨l, h1, h2⟩ := Option.bind_eq_some_iff.mp h
  obtain ⟨g, co, mo, rfl⟩ := vSc_i h1
  unfold vL3 at h2
  split at h2
  · rename_i a b c
    cases q : (decide (a.2 = k1) && (decide (b.2 = k2) && decide (c.2 = k3))) with
    | true =>
      rw [q] at h2
      rw [Bool.and_eq_true, Bool.and_eq_true] at q
      obtain ⟨q1, q2, q3⟩ := q
      rw [← of_decide_eq_true q1, ← of_decide_eq_true q2, ← of_decide_eq_true q3]
      cases h2
      exact ⟨_, _, _, rfl⟩
    | false => rw [q] at h2; exact noS h2
  · exact noS h2
noncomputable def vL2 (k1 k2 : NameKind) : List (Str × NameKind) → Option (Str × Str)
  | [a, b] => bif decide (a.2 = k1) && decide (b.2 = k2) then some (a.1, b.1) else none
  | _ => none
noncomputable def vS2 (k1 k2 : NameKind) (s : Scope) : Option (Str × Str) := (vSc s).bind (vL2 k1 k2)
theorem vS2_i {k1 k2 : NameKind} {s : Scope} {x y : Str} (h : vS2 k1 k2 s = some (x, y)) : ∃ g co mo, s = ⟨.function, [(x, k1), (y, k2)], g, co, mo⟩ := by
  obtain ⟨l, h1, h2⟩ := Option.bind_eq_some_iff.mp h
  obtain ⟨g, co, mo, rfl⟩ := vSc_i h1
  unfold vL2 at h2
  split at h2
  · rename_i a b
    cases q : (decide (a.2 = k1) && decide (b.2 = k2)) with
    | true =>
      rw [q] at h2
      rw [Bool.and_eq_true] at q
      obtain ⟨q1, q2⟩ := q
      rw [← of_decide_eq_true q1, ← of_decide_eq_true q2]
      cases h2
      exact ⟨_, _, _, rfl⟩
    | false => rw [q] at h2; exact noS h2
  · exact noS h2
noncomputable def isGi (o : Option NameKind) : Bool := match o with
  | some .globalImplicit => true
  | _ => false
theorem isGi_i {o : Option NameKind} (h : isGi o = true) : o = some .globalImplicit := by
  unfold isGi at h
  split at h
  · rfl
  · cases h
noncomputable def vZs : List Expr → Option Expr
  | [a, b, c, d, e, y] => bif isIt 0 a && (isIt 0 b && (isIt 0 c && (isIt 0 d && isIt 0 e))) then some y else none
  | _ => none
noncomputable def vTu : Expr → Option (List Expr)
  | .Tuple l _ _ => some l
  | _ => none
theorem vTu_j {e : Expr} {l : List Expr} (h : vTu e = some l) : ∃ k p, e = .Tuple l k p := by
  cases e <;> first | exact noS h | (cases h; exact ⟨_, _, rfl⟩)
noncomputable def vZt (e : Expr) : Option Str := match vTu e with
  | some l => match vZs l with
    | some y => vNm y
    | none => none
  | none => none
theorem vZt_i {e : Expr} {y : Str} (h : vZt e = some y) : ∃ k1 k2 k3 k4 k5 p1 p2 p3 p4 p5 p6 k6 p7, e = .Tuple [.Constant (.int (.ofNat 0)) k1 p1, .Constant (.int (.ofNat 0)) k2 p2, .Constant (.int (.ofNat 0)) k3 p3, .Constant (.int (.ofNat 0)) k4 p4, .Constant (.int (.ofNat 0)) k5 p5, .Name y p6] k6 p7 := by
  unfold vZt at h
  split at h
  · rename_i l q
    split at h
    · rename_i u q2
      obtain ⟨_, _, rfl⟩ := vTu_j q
      · unfold vZs at q2
        split at q2
        · rename_i a b c d e y'
          cases z : (isIt 0 a && (isIt 0 b && (isIt 0 c && (isIt 0 d && isIt 0 e)))) with
          | true =>
            rw [z] at q2
            cases q2
            simp only [Bool.and_eq_true] at z
            obtain ⟨z1, z2, z3, z4, z5⟩ := z
            obtain ⟨_, _, rfl⟩ := isIt_i z1
            obtain ⟨_, _, rfl⟩ := isIt_i z2
            obtain ⟨_, _, rfl⟩ := isIt_i z3
            obtain ⟨_, _, rfl⟩ := isIt_i z4
            obtain ⟨_, _, rfl⟩ := isIt_i z5
            obtain ⟨_, rfl⟩ := vNm_i h
            exact ⟨_, _, _, _, _, _, _, _, _, _, _, _, _, rfl⟩
          | false => rw [z] at q2; cases q2
        · cases q2
    · cases h
  · cases h
end Mine
end
section
open PySem PySem.Calls PyProof.Rows PySem.W
set_option Elab.async false
set_option maxRecDepth 100000
namespace Mine

/-! the small machine: values, heap, code -/
inductive V where
  | no | bool (b : Bool) | n (k : Nat) | m (k : Nat) | str (s : Str) | tup (l : List V) | lst (l : List V) | obj (k : Nat) | rng (a b c : V) | scr | un
inductive Fs where
  | nil | cons (x : Nat) (v : V) (r : Fs)
inductive AO where
  | list (l : List V) | inst (c : Nat) (fs : Fs) | hole
inductive Hp where
  | nil | cons (o : AO) (r : Hp) | frz (g : Nat) (r : Hp)
inductive R (α : Type) where
  | fail | ok (v : α) (h : Hp)
inductive RS where
  | fail | next (l : List V) (h : Hp) | ret (v : V) (h : Hp)
inductive Op where
  | add | sub | mul | and | or | xor | shl | shr | fdiv | mod
inductive Cp where
  | lt | le | gt | ge | eq | ne
inductive E where
  | c (v : V) | loc (k : Nat) | bin (op : Op) (a b : E) | neg (a : E) | inv (a : E) | nt (a : E) | and (a b : E) | or (a b : E)
  | cmp (op : Cp) (a b : E) | isn (a : E) | ife (t a b : E) | attr (a : E) (x : Nat) | sub (a b : E) | tup (l : E) | list (l : E) | nil | cons (a l : E)
  | call (f : Nat) (l : E) | new (c : Nat) (l : E) | app (a b : E) | rng (l : E) | len (a : E) | ltl (a : E) | toi (a : E) | bad
inductive S where
  | skip | seq (a b : S) | asL (k : Nat) (e : E) | asA (o : E) (x : Nat) (e : E) | asS (o i e : E) | asT (ks : List Nat) (e : E)
  | auL (op : Op) (k : Nat) (e : E) | auA (op : Op) (o : E) (x : Nat) (e : E) | auS (op : Op) (o i e : E)
  | iff (t : E) (a b : S) | whl (t : E) (b : S) | for1 (k : Nat) (it : E) (b : S) | forT (ks : List Nat) (it : E) (b : S) | ret (e : E) | ex (e : E) | rows (k : Nat) | hist (k : Nat) (o : E) (x : Nat) | bad
structure Fn where
  np : Nat
  nl : Nat
  body : S

noncomputable section
section rec
variable {α β : Type}
noncomputable abbrev bnd (r : R α) (k : α → Hp → R β) : R β := @R.rec α (fun _ => R β) .fail k r
noncomputable def bndS (r : R α) (k : α → Hp → RS) : RS := @R.rec α (fun _ => RS) .fail k r
noncomputable def forceN (n : Nat) (k : Nat → α) : α := match n with
  | 0 => k 0
  | m + 1 => k (Nat.succ m)
theorem forceN_eq (n : Nat) (k : Nat → α) : forceN n k = k n := by cases n <;> rfl
noncomputable def oB (o : Option α) (k : α → R β) : R β := @Option.rec α (fun _ => R β) .fail k o
noncomputable def oS (o : Option α) (k : α → RS) : RS := @Option.rec α (fun _ => RS) .fail k o
noncomputable def oO (o : Option α) (k : α → Option β) : Option β := @Option.rec α (fun _ => Option β) none k o
noncomputable def ifB (b : Bool) (x y : α) : α := @Bool.rec (fun _ => α) y x b

/-- the item at a place -/
noncomputable def lget (l : List α) : Nat → Option α := @List.rec α (fun _ => Nat → Option α) (fun _ => none) (fun x _ ih k => @Nat.rec (fun _ => Option α) (some x) (fun k _ => ih k) k) l
noncomputable def lset (l : List α) : Nat → α → Option (List α) := @List.rec α (fun _ => Nat → α → Option (List α)) (fun _ _ => none) (fun x r ih k v => @Nat.rec (fun _ => Option (List α)) (some (v :: r)) (fun k _ => oO (ih k v) fun r => some (x :: r)) k) l
noncomputable def lsnoc (l : List α) : α → List α := @List.rec α (fun _ => α → List α) (fun v => [v]) (fun x _ ih v => x :: ih v) l
/-- in normal form -/
noncomputable def lnorm (l : List α) (k : List α → R β) : R β := @List.rec α (fun _ => (List α → R β) → R β) (fun k => k []) (fun x _ ih k => ih fun r => k (x :: r)) l k
end rec
noncomputable def hget (h : Hp) : Nat → Option AO := @Hp.rec (fun _ => Nat → Option AO) (fun _ => none) (fun o _ ih k => @Nat.rec (fun _ => Option AO) (some o) (fun k _ => ih k) k) (fun _ _ ih k => ih k) h
noncomputable def hset (h : Hp) : Nat → AO → Option Hp := @Hp.rec (fun _ => Nat → AO → Option Hp) (fun _ _ => none) (fun x r ih k o => @Nat.rec (fun _ => Option Hp) (some (.cons o r)) (fun k _ => oO (ih k o) fun r => some (.cons x r)) k) (fun _ _ _ _ _ => none) h
/-- a new object at the end: its place, the heap -/
noncomputable def hnew (h : Hp) : AO → (Nat → Hp → R V) → R V := @Hp.rec (fun _ => AO → (Nat → Hp → R V) → R V) (fun o k => k 0 (.cons o .nil)) (fun x _ ih o k => ih o fun n r => k (Nat.succ n) (.cons x r)) (fun _ _ _ _ _ => .fail) h
noncomputable def fget (f : Fs) : Nat → Option V := @Fs.rec (fun _ => Nat → Option V) (fun _ => none) (fun x v _ ih y => ifB (Nat.beq x y) (some v) (ih y)) f
/-- the field's value put; behind the others where it is new (no more than c of them) -/
noncomputable def fput (f : Fs) : Nat → V → Nat → (Fs → Option Hp) → Option Hp := @Fs.rec (fun _ => Nat → V → Nat → (Fs → Option Hp) → Option Hp) (fun y w c k => @Nat.rec (fun _ => Option Hp) none (fun _ _ => k (.cons y w .nil)) c) (fun x v r ih y w c k => ifB (Nat.beq x y) (k (.cons x w r)) (ih y w (Nat.pred c) fun r => k (.cons x v r))) f

noncomputable def addV : V → V → Option V
  | .n a, .n b => forceN (Nat.add a b) fun n => some (.n n)
  | .n a, .m b => ifB (Nat.blt b a) (forceN (Nat.sub a (Nat.succ b)) fun n => some (.n n)) (forceN (Nat.sub b a) fun n => some (.m n))
  | .m b, .n a => ifB (Nat.blt b a) (forceN (Nat.sub a (Nat.succ b)) fun n => some (.n n)) (forceN (Nat.sub b a) fun n => some (.m n))
  | .m a, .m b => forceN (Nat.add a (Nat.succ b)) fun n => some (.m n)
  | _, _ => none
noncomputable def negV : V → Option V
  | .n a => @Nat.rec (fun _ => Option V) (some (.n 0)) (fun k _ => some (.m k)) a
  | .m a => some (.n (Nat.succ a))
  | _ => none
noncomputable def subV (a b : V) : Option V := oO (negV b) fun b => addV a b
noncomputable def lim : Nat := 1073741824
noncomputable def mulV : V → V → Option V
  | .n a, .n b => ifB (Nat.blt a lim) (ifB (Nat.blt b lim) (forceN (Nat.mul a b) fun n => some (.n n)) none) none
  | .m a, .n b => ifB (Nat.blt a lim) (ifB (Nat.blt b lim) (forceN (Nat.mul (Nat.succ a) b) fun n => negV (.n n)) none) none
  | .n a, .m b => ifB (Nat.blt a lim) (ifB (Nat.blt b lim) (forceN (Nat.mul a (Nat.succ b)) fun n => negV (.n n)) none) none
  | _, _ => none
noncomputable def andV : V → V → Option V
  | .n a, .n b => forceN (Nat.land a b) fun n => some (.n n)
  | .n a, .m b => forceN (Nat.sub a (Nat.land a b)) fun n => some (.n n)
  | _, _ => none
noncomputable def orV : V → V → Option V
  | .n a, .n b => forceN (Nat.lor a b) fun n => some (.n n)
  | _, _ => none
noncomputable def xorV : V → V → Option V
  | .n a, .n b => forceN (Nat.sub (Nat.lor a b) (Nat.land a b)) fun n => some (.n n)
  | _, _ => none
noncomputable def shlV : V → V → Option V
  | .n a, .n b => ifB (Nat.blt a lim) (ifB (Nat.blt b 64) (forceN (Nat.shiftLeft a b) fun n => some (.n n)) none) none
  | _, _ => none
noncomputable def shrV : V → V → Option V
  | .n a, .n b => forceN (Nat.shiftRight a b) fun n => some (.n n)
  | _, _ => none
noncomputable def divV : V → V → Option V
  | .n a, .n b => ifB (Nat.blt 0 b) (ifB (Nat.blt a lim) (ifB (Nat.blt b lim) (forceN (Nat.div a b) fun n => some (.n n)) none) none) none
  | _, _ => none
noncomputable def modV : V → V → Option V
  | .n a, .n b => ifB (Nat.blt 0 b) (forceN (Nat.mod a b) fun n => some (.n n)) none
  | _, _ => none
noncomputable def opV (op : Op) : V → V → Option V := @Op.rec (fun _ => V → V → Option V) addV subV mulV andV orV xorV shlV shrV divV modV op
noncomputable def invV : V → Option V
  | .n a => some (.m a)
  | .m a => some (.n a)
  | _ => none
noncomputable def ltV : V → V → Option Bool
  | .n a, .n b => some (Nat.blt a b)
  | .m _, .n _ => some true
  | .n _, .m _ => some false
  | .m a, .m b => some (Nat.blt b a)
  | _, _ => none
noncomputable def beqBool : Bool → Bool → Bool
  | true, b => b
  | false, b => b.not
noncomputable def eqV : V → V → Option Bool
  | .n a, .n b => some (Nat.beq a b)
  | .m a, .m b => some (Nat.beq a b)
  | .m _, .n _ => some false
  | .n _, .m _ => some false
  | .bool a, .bool b => some (beqBool a b)
  | .str a, .str b => some (a == b)
  | _, _ => none
noncomputable def eqVs (l : List V) : List V → Option Bool := @List.rec V (fun _ => List V → Option Bool) (fun r => @List.rec V (fun _ => Option Bool) (some true) (fun _ _ _ => none) r)
  (fun x _ ih r => @List.rec V (fun _ => Option Bool) none (fun y r _ => oO (eqV x y) fun b => oO (ih r) fun c => some (b.and c)) r) l
noncomputable def eqT : V → V → Option Bool
  | .tup a, .tup b => eqVs a b
  | a, b => eqV a b
noncomputable def notO (o : Option Bool) : Option Bool := oO o fun b => some b.not
noncomputable def cpV (op : Cp) : V → V → Option Bool := @Cp.rec (fun _ => V → V → Option Bool) ltV (fun a b => notO (ltV b a)) (fun a b => ltV b a) (fun a b => notO (ltV a b)) eqT (fun a b => notO (eqT a b)) op
noncomputable def truthV : V → Option Bool
  | .no => some false
  | .bool b => some b
  | .n k => some (Nat.beq k 0).not
  | .m _ => some true
  | _ => none
/-- the items of a range: step 1, 2 or -1 -/
noncomputable def upL (n : Nat) : Nat → Nat → List V := @Nat.rec (fun _ => Nat → Nat → List V) (fun _ _ => []) (fun _ ih a c => .n a :: ih (Nat.add a c) c) n
noncomputable def dnL (n : Nat) : Nat → List V := @Nat.rec (fun _ => Nat → List V) (fun _ => []) (fun _ ih a => .n a :: ih (Nat.pred a)) n
noncomputable def rngL : V → V → V → Option (List V)
  | .n a, .n b, .n c => ifB (Nat.blt a lim) (ifB (Nat.blt b lim) (ifB (Nat.beq c 1) (some (upL (Nat.sub b a) a 1)) (ifB (Nat.beq c 2) (some (upL (Nat.div (Nat.succ (Nat.sub b a)) 2) a 2)) none)) none) none
  | .n a, .m 0, .m 0 => ifB (Nat.blt a lim) (some (dnL (Nat.succ a) a)) none
  | _, _, _ => none
noncomputable def repL (n : Nat) (v : V) : List V := @Nat.rec (fun _ => List V) [] (fun _ ih => v :: ih) n

noncomputable def listAt (h : Hp) (k : Nat) : Option (List V) := oO (hget h k) fun o => @AO.rec (fun _ => Option (List V)) (fun l => some l) (fun _ _ => none) none o
noncomputable def instAt (h : Hp) (k : Nat) : Option (Nat × Fs) := oO (hget h k) fun o => @AO.rec (fun _ => Option (Nat × Fs)) (fun _ => none) (fun c f => some (c, f)) none o
noncomputable def itemOf (h : Hp) (a : V) : V → Option V
  | .n i => ifB (Nat.blt i lim) (match a with
    | .tup l => lget l i
    | .lst l => lget l i
    | .obj k => oO (listAt h k) fun l => lget l i
    | _ => none) none
  | _ => none
noncomputable def attrOf (h : Hp) (x : Nat) : V → Option V
  | .obj k => oO (hget h k) fun o => @AO.rec (fun _ => Option V) (fun _ => none) (fun _ f => fget f x) none o
  | _ => none
noncomputable def putAttr (h : Hp) (x : Nat) (v : V) : V → Option Hp
  | .obj k => oO (hget h k) fun o => @AO.rec (fun _ => Option Hp) (fun _ => none) (fun c f => fput f x v 100 fun f => hset h k (.inst c f)) none o
  | _ => none
noncomputable def putItem (h : Hp) (v a : V) : V → Option Hp
  | .n i => ifB (Nat.blt i lim) (match a with
    | .obj k => oO (listAt h k) fun l => oO (lset l i v) fun l => hset h k (.list l)
    | _ => none) none
  | _ => none
noncomputable def mkObj (o : AO) (h : Hp) : R V := hnew h o fun n h => .ok (.obj n) h
/-- a list of one item times n -/
noncomputable def mulL (h : Hp) : V → V → R V
  | .obj k, .n n => oB (listAt h k) fun l => @List.rec V (fun _ => R V) .fail (fun v r _ => @List.rec V (fun _ => R V) (ifB (Nat.blt n 64) (lnorm (repL n v) fun l => mkObj (.list l) h) .fail) (fun _ _ _ => .fail) r) l
  | _, _ => .fail
noncomputable def binV (op : Op) (a b : V) (h : Hp) : R V := match a with
  | .obj k => @Op.rec (fun _ => R V) .fail .fail (mulL h (.obj k) b) .fail .fail .fail .fail .fail .fail .fail op
  | a => oB (opV op a b) fun v => .ok v h
noncomputable def setLocs (ks : List Nat) : List V → List V → Option (List V) := @List.rec Nat (fun _ => List V → List V → Option (List V)) (fun vs l => @List.rec V (fun _ => Option (List V)) (some l) (fun _ _ _ => none) vs)
  (fun k _ ih vs l => @List.rec V (fun _ => Option (List V)) none (fun v vs _ => oO (lset l k v) fun l => ih vs l) vs) ks

structure Prog where
  fns : List Fn
  cls : List Nat
  con : Nat → List V → Hp → R V
noncomputable abbrev IH := S → List V → Hp → RS
noncomputable abbrev ME := Prog → IH → List V → Hp → R V
noncomputable abbrev MS := Prog → IH → List V → Hp → RS
noncomputable def leave (r : RS) : R V := @RS.rec (fun _ => R V) .fail (fun _ h => .ok .no h) (fun v h => .ok v h) r
noncomputable def enter (ih : IH) (vs : List V) (h : Hp) (f : Fn) : R V := @Fn.rec (fun _ => R V) (fun np nl body => ifB (Nat.beq vs.length np) (lnorm (vs ++ repL (Nat.sub nl np) .un) fun l => leave (ih body l h)) .fail) f
noncomputable def orC (r : R V) (k : R V) : R V := @R.rec V (fun _ => R V) k (fun v h => .ok v h) r
noncomputable def callF (f : Nat) (P : Prog) (ih : IH) (vs : List V) (h : Hp) : R V := @Prog.rec (fun _ => R V) (fun fns _ con => orC (con f vs h) (oB (lget fns f) (enter ih vs h))) P
noncomputable def isNo (o : V) (h : Hp) : V → R V
  | .no => .ok o h
  | _ => .fail

noncomputable def onT {β : Type} (v : V) (x : β) (k : List V → β) : β := match v with
  | .tup l => k l
  | _ => x
noncomputable def bool2 (b : Bool) (h : Hp) : R V := ifB b (.ok (.bool true) h) (.ok (.bool false) h)
noncomputable def e_c (v : V) : ME := fun _ _ _ h => .ok v h
noncomputable def e_loc (k : Nat) : ME := fun _ _ l h => oB (lget l k) fun v => match v with
  | .un => .fail
  | v => .ok v h
noncomputable def e_bin (op : Op) (_ _ : E) (a b : ME) : ME := fun P ih l h => bnd (a P ih l h) fun a h => bnd (b P ih l h) fun b h => binV op a b h
noncomputable def e_neg (_ : E) (a : ME) : ME := fun P ih l h => bnd (a P ih l h) fun a h => oB (negV a) fun v => .ok v h
noncomputable def e_inv (_ : E) (a : ME) : ME := fun P ih l h => bnd (a P ih l h) fun a h => oB (invV a) fun v => .ok v h
noncomputable def e_nt (_ : E) (a : ME) : ME := fun P ih l h => bnd (a P ih l h) fun a h => oB (truthV a) fun b => bool2 b.not h
noncomputable def e_and (_ _ : E) (a b : ME) : ME := fun P ih l h => bnd (a P ih l h) fun a h => oB (truthV a) fun t => ifB t (b P ih l h) (.ok a h)
noncomputable def e_or (_ _ : E) (a b : ME) : ME := fun P ih l h => bnd (a P ih l h) fun a h => oB (truthV a) fun t => ifB t (.ok a h) (b P ih l h)
noncomputable def e_cmp (op : Cp) (_ _ : E) (a b : ME) : ME := fun P ih l h => bnd (a P ih l h) fun a h => bnd (b P ih l h) fun b h => oB (cpV op a b) fun b => bool2 b h
noncomputable def e_isn (_ : E) (a : ME) : ME := fun P ih l h => bnd (a P ih l h) fun a h => match a with
  | .no => .ok (.bool true) h
  | .tup _ => .ok (.bool false) h
  | _ => .fail
noncomputable def e_ife (_ _ _ : E) (t a b : ME) : ME := fun P ih l h => bnd (t P ih l h) fun t h => oB (truthV t) fun t => ifB t (a P ih l h) (b P ih l h)
noncomputable def e_attr (_ : E) (x : Nat) (a : ME) : ME := fun P ih l h => bnd (a P ih l h) fun a h => oB (attrOf h x a) fun v => .ok v h
noncomputable def e_sub (_ _ : E) (a b : ME) : ME := fun P ih l h => bnd (a P ih l h) fun a h => bnd (b P ih l h) fun b h => oB (itemOf h a b) fun v => .ok v h
noncomputable def e_tup (_ : E) (a : ME) : ME := fun P ih l h => bnd (a P ih l h) fun v h => onT v .fail fun vs => ifB (Nat.blt vs.length 256) (.ok v h) .fail
noncomputable def e_list (_ : E) (a : ME) : ME := fun P ih l h => bnd (a P ih l h) fun v h => onT v .fail fun vs => ifB (Nat.blt vs.length 256) (mkObj (.list vs) h) .fail
noncomputable def e_nil : ME := fun _ _ _ h => .ok (.tup []) h
noncomputable def e_cons (_ _ : E) (a b : ME) : ME := fun P ih l h => bnd (a P ih l h) fun a h => bnd (b P ih l h) fun b h => onT b .fail fun vs => .ok (.tup (a :: vs)) h
noncomputable def e_call (f : Nat) (_ : E) (a : ME) : ME := fun P ih l h => bnd (a P ih l h) fun v h => onT v .fail fun vs => callF f P ih vs h
noncomputable def e_new (c : Nat) (_ : E) (a : ME) : ME := fun P ih l h => bnd (a P ih l h) fun v h => onT v .fail fun vs => bnd (mkObj (.inst c .nil) h) fun o h => oB (lget P.cls c) fun f => bnd (callF f P ih (o :: vs) h) fun r h => isNo o h r
noncomputable def e_app (_ _ : E) (a b : ME) : ME := fun P ih l h => bnd (a P ih l h) fun a h => match a with
  | .obj k => oB (listAt h k) fun _ => bnd (b P ih l h) fun b h => oB (listAt h k) fun l => ifB (Nat.blt l.length 256) (lnorm (lsnoc l b) fun l => oB (hset h k (.list l)) fun h => .ok .no h) .fail
  | _ => .fail
noncomputable def rng3 (h : Hp) : List V → R V
  | [.n b] => .ok (.rng (.n 0) (.n b) (.n 1)) h
  | [.n a, .n b] => .ok (.rng (.n a) (.n b) (.n 1)) h
  | [.n a, .n b, .n 2] => .ok (.rng (.n a) (.n b) (.n 2)) h
  | [.n a, .m b, .m c] => ifB (Nat.blt c 64) (.ok (.rng (.n a) (.m b) (.m c)) h) .fail
  | _ => .fail
noncomputable def e_rng (_ : E) (a : ME) : ME := fun P ih l h => bnd (a P ih l h) fun v h => onT v .fail (rng3 h)
noncomputable def e_len (_ : E) (a : ME) : ME := fun P ih l h => bnd (a P ih l h) fun a h => match a with
  | .obj k => oB (listAt h k) fun l => forceN l.length fun n => ifB (Nat.blt n 256) (.ok (.n n) h) .fail
  | _ => .fail
noncomputable def e_ltl (_ : E) (a : ME) : ME := fun P ih l h => bnd (a P ih l h) fun a h => match a with
  | .rng (.n 0) (.n b) (.n 1) => ifB (Nat.blt b 64) (lnorm (upL b 0 1) fun l => mkObj (.list l) h) .fail
  | _ => .fail
noncomputable def e_toi (_ : E) (a : ME) : ME := fun P ih l h => bnd (a P ih l h) fun a h => match a with
  | .bool b => ifB b (.ok (.n 1) h) (.ok (.n 0) h)
  | _ => .fail
noncomputable def e_bad : ME := fun _ _ _ _ => .fail
noncomputable def evE (e : E) : ME := @E.rec (fun _ => ME) e_c e_loc e_bin e_neg e_inv e_nt e_and e_or e_cmp e_isn e_ife e_attr e_sub e_tup e_list e_nil e_cons e_call e_new e_app e_rng e_len e_ltl e_toi e_bad e

/-- over a list that is read anew at each turn -/
noncomputable def forO (n : Nat) : (V → List V → Hp → RS) → Nat → Nat → List V → Hp → RS := @Nat.rec (fun _ => (V → List V → Hp → RS) → Nat → Nat → List V → Hp → RS) (fun _ _ _ _ _ => .fail)
  (fun _ ih f k i l h => oS (listAt h k) fun vs => @Option.rec V (fun _ => RS) (.next l h) (fun v => @RS.rec (fun _ => RS) .fail (fun l h => ih f k (Nat.succ i) l h) (fun v h => .ret v h) (f v l h)) (lget vs i)) n
/-- over written items -/
noncomputable def forV (vs : List V) : (V → List V → Hp → RS) → List V → Hp → RS := @List.rec V (fun _ => (V → List V → Hp → RS) → List V → Hp → RS) (fun _ l h => .next l h)
  (fun v _ ih f l h => @RS.rec (fun _ => RS) .fail (fun l h => ih f l h) (fun v h => .ret v h) (f v l h)) vs
noncomputable def forAny (f : V → List V → Hp → RS) (l : List V) (h : Hp) : V → RS
  | .obj k => forO 64 f k 0 l h
  | .tup vs => forV vs f l h
  | .lst vs => forV vs f l h
  | .rng a b c => oS (rngL a b c) fun vs => forV vs f l h
  | _ => .fail
noncomputable def s_skip : MS := fun _ _ l h => .next l h
noncomputable def s_seq (_ _ : S) (a b : MS) : MS := fun P ih l h => @RS.rec (fun _ => RS) .fail (b P ih) (fun v h => .ret v h) (a P ih l h)
noncomputable def s_asL (k : Nat) (e : E) : MS := fun P ih l h => bndS (evE e P ih l h) fun v h => oS (lset l k v) fun l => .next l h
noncomputable def s_asA (o : E) (x : Nat) (e : E) : MS := fun P ih l h => bndS (evE e P ih l h) fun v h => bndS (evE o P ih l h) fun o h => oS (putAttr h x v o) fun h => .next l h
noncomputable def s_asS (o i e : E) : MS := fun P ih l h => bndS (evE e P ih l h) fun v h => bndS (evE o P ih l h) fun o h => bndS (evE i P ih l h) fun i h => oS (putItem h v o i) fun h => .next l h
noncomputable def s_asT (ks : List Nat) (e : E) : MS := fun P ih l h => bndS (evE e P ih l h) fun v h => onT v .fail fun vs => oS (setLocs ks vs l) fun l => .next l h
noncomputable def s_auL (op : Op) (k : Nat) (e : E) : MS := fun P ih l h => bndS (evE (.loc k) P ih l h) fun a h => bndS (evE e P ih l h) fun b h => oS (opV op a b) fun v => oS (lset l k v) fun l => .next l h
noncomputable def s_auA (op : Op) (o : E) (x : Nat) (e : E) : MS := fun P ih l h => bndS (evE o P ih l h) fun o h => oS (attrOf h x o) fun a => bndS (evE e P ih l h) fun b h => oS (opV op a b) fun v => oS (putAttr h x v o) fun h => .next l h
noncomputable def s_auS (op : Op) (o i e : E) : MS := fun P ih l h => bndS (evE o P ih l h) fun o h => bndS (evE i P ih l h) fun i h => oS (itemOf h o i) fun a => bndS (evE e P ih l h) fun b h => oS (opV op a b) fun v => oS (putItem h v o i) fun h => .next l h
noncomputable def s_iff (t : E) (_ _ : S) (a b : MS) : MS := fun P ih l h => bndS (evE t P ih l h) fun t h => oS (truthV t) fun t => ifB t (a P ih l h) (b P ih l h)
noncomputable def s_whl (t : E) (b : S) (mb : MS) : MS := fun P ih l h => bndS (evE t P ih l h) fun v h => oS (truthV v) fun v => ifB v (@RS.rec (fun _ => RS) .fail (ih (.whl t b)) (fun v h => .ret v h) (mb P ih l h)) (.next l h)
noncomputable def s_for1 (k : Nat) (it : E) (_ : S) (b : MS) : MS := fun P ih l h => bndS (evE it P ih l h) fun it h => forAny (fun v l h => oS (lset l k v) fun l => b P ih l h) l h it
noncomputable def s_forT (ks : List Nat) (it : E) (_ : S) (b : MS) : MS := fun P ih l h => bndS (evE it P ih l h) fun it h => forAny (fun v l h => onT v .fail fun vs => oS (setLocs ks vs l) fun l => b P ih l h) l h it
noncomputable def s_ret (e : E) : MS := fun P ih l h => bndS (evE e P ih l h) fun v h => .ret v h
noncomputable def s_ex (e : E) : MS := fun P ih l h => bndS (evE e P ih l h) fun _ h => .next l h
/-- the rows of the law's writer: n lists of 16 ints from i -/
noncomputable def allocRows (n : Nat) : Nat → Hp → (List V → Hp → RS) → RS := @Nat.rec (fun _ => Nat → Hp → (List V → Hp → RS) → RS) (fun _ h k => k [] h) (fun _ ih i h k => bndS (lnorm (upL 16 i 1) fun l => mkObj (.list l) h) fun o h => ih (Nat.add i 20) h fun r h => k (o :: r) h) n
noncomputable def s_rows (k : Nat) : MS := fun _ _ l h => allocRows 15 0 h fun vs h => bndS (mkObj (.list vs) h) fun o h => oS (lset l k o) fun l => .next l h
noncomputable def histV (l : List V) : Option (List V) := @List.rec V (fun _ => Option (List V)) (some []) (fun v _ ih => match v with
  | .n i => oO ih fun l => some (.tup [.n 0, .n 0, .n 0, .n 0, .n 0, .n i] :: l)
  | _ => none) l
noncomputable def s_hist (k : Nat) (o : E) (x : Nat) : MS := fun P ih l h => oS (lget l k) fun v => match v with
  | .obj j => oS (listAt h j) fun vs => oS (ifB (Nat.blt vs.length 256) (histV vs) none) fun vs => bndS (mkObj (.list vs) h) fun v h => bndS (evE o P ih l h) fun o h => oS (putAttr h x v o) fun h => .next l h
  | _ => .fail
noncomputable def s_bad : MS := fun _ _ _ _ => .fail
noncomputable def evS (s : S) : MS := @S.rec (fun _ => MS) s_skip s_seq s_asL s_asA s_asS s_asT s_auL s_auA s_auS s_iff s_whl s_for1 s_forT s_ret s_ex s_rows s_hist s_bad s
noncomputable def ev (P : Prog) (n : Nat) : IH := @Nat.rec (fun _ => IH) (fun _ _ _ => .fail) (fun _ ih s l h => evS s P ih l h) n

end

/-! the compiler: from the program's own text -/
structure CC where
  names : List Str
  sc : List (Str × NameKind)
  attrs : List Str
  fns : List (Str × Nat)
  cls : List (Str × Nat)
  gl : List (Str × V)
noncomputable def idx (x : Str) : List Str → Option Nat
  | [] => none
  | y :: r => match x == y with
    | true => some 0
    | false => match idx x r with
      | some n => some (n + 1)
      | none => none
noncomputable def opOf : Operator → Option Op
  | .Add => some .add | .Sub => some .sub | .Mult => some .mul | .BitAnd => some .and | .BitOr => some .or | .BitXor => some .xor
  | .LShift => some .shl | .RShift => some .shr | .FloorDiv => some .fdiv | .Mod => some .mod | _ => none
noncomputable def cpOf : CmpOp → Option Cp
  | .Lt => some .lt | .LtE => some .le | .Gt => some .gt | .GtE => some .ge | .Eq => some .eq | .NotEq => some .ne | _ => none
noncomputable def isNone : Expr → Bool
  | .Constant .none _ _ => true
  | _ => false
noncomputable def plainBase : Expr → Bool
  | .Name _ _ => true
  | .Attribute _ _ _ => true
  | _ => false
noncomputable def appBase : Expr → Bool
  | .Name _ _ => true
  | .Attribute _ _ _ => true
  | .Subscript _ _ _ => true
  | _ => false
noncomputable def isStar : Expr → Bool
  | .Starred _ _ => true
  | _ => false
noncomputable def cBi (f : Str) (l : E) : E := match f == ("range" : Str), f == ("len" : Str), f == ("list" : Str), f == ("int" : Str), l with
  | true, _, _, _, l => .rng l
  | _, true, _, _, .cons a .nil => .len a
  | _, _, true, _, .cons a .nil => .ltl a
  | _, _, _, true, .cons a .nil => .toi a
  | _, _, _, _, _ => .bad
noncomputable def cCmp (op : CmpOp) (nb : Bool) (a b : E) : E := match cpOf op with
  | some o => .cmp o a b
  | none => match op with
    | .Is => match nb with
      | true => .isn a
      | false => .bad
    | _ => .bad
noncomputable def intV : Int → V
  | .ofNat k => .n k
  | .negSucc k => .m k
mutual
noncomputable def cE (c : CC) : Expr → E
  | .Constant .none _ _ => .c .no
  | .Constant (.bool b) _ _ => .c (.bool b)
  | .Constant (.int i) _ _ => .c (intV i)
  | .Constant (.str s) _ _ => match PyData.strOk s with
    | true => .c (.str s)
    | false => .bad
  | .Name x _ => match c.sc.lookup x with
    | some .local => match idx x c.names with
      | some k => .loc k
      | none => .bad
    | some .globalImplicit => match c.gl.lookup x with
      | some v => .c v
      | none => .bad
    | _ => .bad
  | .BinOp a op b _ => match opOf op with
    | some o => .bin o (cE c a) (cE c b)
    | none => .bad
  | .UnaryOp .USub a _ => .neg (cE c a)
  | .UnaryOp .Invert a _ => .inv (cE c a)
  | .UnaryOp .Not a _ => .nt (cE c a)
  | .BoolOp .And (a :: b :: l) _ => .and (cE c a) (cAnd c (b :: l))
  | .BoolOp .Or (a :: b :: l) _ => .or (cE c a) (cOr c (b :: l))
  | .IfExp t a b _ => .ife (cE c t) (cE c a) (cE c b)
  | .Compare a [op] [b] _ => cCmp op (isNone b) (cE c a) (cE c b)
  | .Attribute a x _ => match plainBase a with
    | true => match idx x c.attrs with
      | some k => .attr (cE c a) k
      | none => .bad
    | false => .bad
  | .Subscript a b _ => .sub (cE c a) (cE c b)
  | .Tuple l _ _ => .tup (cEs c l)
  | .List l _ => .list (cEs c l)
  | .Call (.Name f _) l [] _ => match c.sc.lookup f with
    | some .globalImplicit => match c.fns.lookup f with
      | some k => .call k (cEs c l)
      | none => match c.cls.lookup f with
        | some k => .new k (cEs c l)
        | none => cBi f (cEs c l)
    | _ => .bad
  | .Call (.Attribute a x p) [b] [] q => match x == ("append" : Str), appBase a, p.endLine == q.line, isStar b with
    | true, true, true, false => .app (cE c a) (cE c b)
    | _, _, _, _ => .bad
  | _ => .bad
noncomputable def cEs (c : CC) : List Expr → E
  | [] => .nil
  | e :: l => match isStar e with
    | true => .bad
    | false => .cons (cE c e) (cEs c l)
noncomputable def cAnd (c : CC) : List Expr → E
  | [] => .bad
  | [e] => cE c e
  | e :: l => .and (cE c e) (cAnd c l)
noncomputable def cOr (c : CC) : List Expr → E
  | [] => .bad
  | [e] => cE c e
  | e :: l => .or (cE c e) (cOr c l)
end
theorem cE_str (c : CC) (x : Str) (k : Nat) (p : Pos) : cE c (.Constant (.str x) k p) = match PyData.strOk x with
    | true => .c (.str x)
    | false => .bad := rfl
theorem cE_Name (c : CC) (x : Str) (p : Pos) : cE c (.Name x p) = match c.sc.lookup x with
    | some .local => match idx x c.names with
      | some k => .loc k
      | none => .bad
    | some .globalImplicit => match c.gl.lookup x with
      | some v => .c v
      | none => .bad
    | _ => .bad := rfl
theorem cE_Bin (c : CC) (a b : Expr) (o : Operator) (p : Pos) : cE c (.BinOp a o b p) = match opOf o with
    | some o => .bin o (cE c a) (cE c b)
    | none => .bad := rfl
theorem cE_Neg (c : CC) (a : Expr) (p : Pos) : cE c (.UnaryOp .USub a p) = .neg (cE c a) := rfl
theorem cE_Inv (c : CC) (a : Expr) (p : Pos) : cE c (.UnaryOp .Invert a p) = .inv (cE c a) := rfl
theorem cE_Not (c : CC) (a : Expr) (p : Pos) : cE c (.UnaryOp .Not a p) = .nt (cE c a) := rfl
theorem cE_And (c : CC) (a b : Expr) (l : List Expr) (p : Pos) : cE c (.BoolOp .And (a :: b :: l) p) = .and (cE c a) (cAnd c (b :: l)) := rfl
theorem cE_Or (c : CC) (a b : Expr) (l : List Expr) (p : Pos) : cE c (.BoolOp .Or (a :: b :: l) p) = .or (cE c a) (cOr c (b :: l)) := rfl
theorem cAnd_1 (c : CC) (a : Expr) : cAnd c [a] = cE c a := rfl
theorem cAnd_2 (c : CC) (a b : Expr) (l : List Expr) : cAnd c (a :: b :: l) = .and (cE c a) (cAnd c (b :: l)) := rfl
theorem cOr_1 (c : CC) (a : Expr) : cOr c [a] = cE c a := rfl
theorem cOr_2 (c : CC) (a b : Expr) (l : List Expr) : cOr c (a :: b :: l) = .or (cE c a) (cOr c (b :: l)) := rfl
theorem cE_Ife (c : CC) (t a b : Expr) (p : Pos) : cE c (.IfExp t a b p) = .ife (cE c t) (cE c a) (cE c b) := rfl
theorem cE_Cmp (c : CC) (a b : Expr) (o : CmpOp) (p : Pos) : cE c (.Compare a [o] [b] p) = cCmp o (isNone b) (cE c a) (cE c b) := rfl
theorem cE_Attr (c : CC) (a : Expr) (x : Str) (p : Pos) : cE c (.Attribute a x p) = match plainBase a with
    | true => match idx x c.attrs with
      | some k => .attr (cE c a) k
      | none => .bad
    | false => .bad := rfl
theorem cE_Sub (c : CC) (a b : Expr) (p : Pos) : cE c (.Subscript a b p) = .sub (cE c a) (cE c b) := rfl
theorem cE_Tup (c : CC) (l : List Expr) (k : Nat) (p : Pos) : cE c (.Tuple l k p) = .tup (cEs c l) := rfl
theorem cE_List (c : CC) (l : List Expr) (p : Pos) : cE c (.List l p) = .list (cEs c l) := rfl
theorem cE_Call (c : CC) (f : Str) (l : List Expr) (p q : Pos) : cE c (.Call (.Name f p) l [] q) = match c.sc.lookup f with
    | some .globalImplicit => match c.fns.lookup f with
      | some k => .call k (cEs c l)
      | none => match c.cls.lookup f with
        | some k => .new k (cEs c l)
        | none => cBi f (cEs c l)
    | _ => .bad := rfl
theorem cE_App (c : CC) (a b : Expr) (x : Str) (p q : Pos) : cE c (.Call (.Attribute a x p) [b] [] q) = match x == ("append" : Str), appBase a, p.endLine == q.line, isStar b with
    | true, true, true, false => .app (cE c a) (cE c b)
    | _, _, _, _ => .bad := rfl
theorem cEs_0 (c : CC) : cEs c [] = .nil := rfl
theorem cEs_1 (c : CC) (e : Expr) (l : List Expr) : cEs c (e :: l) = match isStar e with
    | true => .bad
    | false => .cons (cE c e) (cEs c l) := rfl
noncomputable def locOf (c : CC) (x : Str) : Option Nat := match c.sc.lookup x with
  | some .local => idx x c.names
  | _ => none
noncomputable def locIdx (c : CC) : List Expr → Option (List Nat)
  | [] => some []
  | .Name x _ :: r => match locOf c x, locIdx c r with
    | some k, some ks => match ks.contains k with
      | true => none
      | false => some (k :: ks)
    | _, _ => none
  | _ => none
noncomputable def swOk : List Expr → List Expr → Bool
  | [.Name _ p, .Name _ q], [a, b] => p.line == q.line && !isStar a && !isStar b && !([a, b].all (foldedForSure 8)) && !([a, b].all (constantsAlone 8))
  | _, _ => false
noncomputable def noComp : Expr → Bool
  | .ListComp .. => false
  | _ => true
/-- the two comprehensions of the law's writer -/
noncomputable def obS {α : Type} (o : Option α) (f : α → S) : S := match o with
  | some a => f a
  | none => .bad
noncomputable def rowsOf (c : CC) (x : Str) (p : Pos) (e : Expr) : S :=
  obS (vCp e) fun a => obS (vCp a.1) fun b => obS (vNm a.2.1) fun man' => obS (vRg 15 a.2.2.1) fun rg' => obS (vS3 .local .cell .globalImplicit a.2.2.2.1) fun s1 =>
  obS (vNm b.2.1) fun sq' => obS (vRg 16 b.2.2.1) fun rg => obS (vS3 .local .local .free b.2.2.2.1) fun s2 => obS (vPt b.1) fun q => obS (locOf c x) fun k =>
  bif (q.1 == man') && ((s1.2.1 == q.1) && ((s2.2.2 == q.1) && ((sq' == q.2) && ((s2.2.1 == q.2) && (!(q.1 == s1.1) && (!(q.1 == s2.1) && (!(q.1 == q.2) && (!(q.2 == s2.1) &&
    ((rg == ("range" : Str)) && ((rg' == ("range" : Str)) && ((s1.2.2 == ("range" : Str)) && (!(rg == s1.1) && (!(rg == q.1) && ((p.line == a.2.2.2.2.line) && (!(x == s1.1) && (!(x == q.1) &&
    (!(q.1 == ("__debug__" : Str)) && (!(q.2 == ("__debug__" : Str)) && isGi (c.sc.lookup ("range" : Str)))))))))))))))))))) then .rows k else .bad
noncomputable def histOf (c : CC) (o : E) (k : Nat) (e : Expr) : S :=
  obS (vCp e) fun a => obS (vZt a.1) fun y => obS (vNm a.2.1) fun y' => obS (vNm a.2.2.1) fun z => obS (vS2 .local .local a.2.2.2.1) fun s => obS (locOf c z) fun j =>
  bif (y == y') && ((s.2 == y) && (!(y == s.1) && !(y == ("__debug__" : Str)))) then .hist j o k else .bad
mutual
noncomputable def cS (c : CC) : Stmt → S
  | .Pass _ => .skip
  | .Return (some e) _ => .ret (cE c e)
  | .Return none _ => .ret (.c .no)
  | .Expr e _ => .ex (cE c e)
  | .If t a b _ => .iff (cE c t) (cB c a) (cB c b)
  | .While t a [] _ => .whl (cE c t) (cB c a)
  | .For (.Name x _) it a [] _ => match locOf c x with
    | some k => .for1 k (cE c it) (cB c a)
    | none => .bad
  | .For (.Tuple l _ _) it a [] _ => match locIdx c l with
    | some ks => .forT ks (cE c it) (cB c a)
    | none => .bad
  | .Assign [.Name x p] e _ => match noComp e, locOf c x with
    | true, some k => .asL k (cE c e)
    | true, none => .bad
    | false, _ => rowsOf c x p e
  | .Assign [.Attribute o x _] e _ => match idx x c.attrs with
    | some k => match noComp e with
      | true => .asA (cE c o) k (cE c e)
      | false => histOf c (cE c o) k e
    | none => .bad
  | .Assign [.Subscript o i _] e _ => .asS (cE c o) (cE c i) (cE c e)
  | .Assign [.Tuple l _ _] (.Tuple es k p) _ => match locIdx c l, swOk l es with
    | some ks, true => .asT ks (cE c (.Tuple es k p))
    | _, _ => .bad
  | .Assign [.Tuple l _ _] e _ => match locIdx c l with
    | some ks => .asT ks (cE c e)
    | none => .bad
  | .AugAssign (.Name x _) op e _ => match locOf c x, opOf op with
    | some k, some o => .auL o k (cE c e)
    | _, _ => .bad
  | .AugAssign (.Attribute o x _) op e _ => match idx x c.attrs, opOf op with
    | some k, some p => .auA p (cE c o) k (cE c e)
    | _, _ => .bad
  | .AugAssign (.Subscript o i _) op e _ => match opOf op with
    | some p => .auS p (cE c o) (cE c i) (cE c e)
    | none => .bad
  | _ => .bad
noncomputable def cB (c : CC) : List Stmt → S
  | [] => .skip
  | s :: l => .seq (cS c s) (cB c l)
end
theorem cS_Pass (c : CC) (p : Pos) : cS c (.Pass p) = .skip := rfl
theorem cS_Ret (c : CC) (e : Expr) (p : Pos) : cS c (.Return (some e) p) = .ret (cE c e) := rfl
theorem cS_Ret0 (c : CC) (p : Pos) : cS c (.Return none p) = .ret (.c .no) := rfl
theorem cS_Ex (c : CC) (e : Expr) (p : Pos) : cS c (.Expr e p) = .ex (cE c e) := rfl
theorem cS_If (c : CC) (t : Expr) (a b : List Stmt) (p : Pos) : cS c (.If t a b p) = .iff (cE c t) (cB c a) (cB c b) := rfl
theorem cS_While (c : CC) (t : Expr) (a : List Stmt) (p : Pos) : cS c (.While t a [] p) = .whl (cE c t) (cB c a) := rfl
theorem cS_F1 (c : CC) (x : Str) (q : Pos) (it : Expr) (a : List Stmt) (p : Pos) : cS c (.For (.Name x q) it a [] p) = match locOf c x with
    | some k => .for1 k (cE c it) (cB c a)
    | none => .bad := rfl
theorem cS_F2 (c : CC) (l : List Expr) (k : Nat) (q : Pos) (it : Expr) (a : List Stmt) (p : Pos) : cS c (.For (.Tuple l k q) it a [] p) = match locIdx c l with
    | some ks => .forT ks (cE c it) (cB c a)
    | none => .bad := rfl
theorem cS_A1 (c : CC) (x : Str) (p q : Pos) (e : Expr) : cS c (.Assign [.Name x p] e q) = match noComp e, locOf c x with
    | true, some k => .asL k (cE c e)
    | true, none => .bad
    | false, _ => rowsOf c x p e := rfl
theorem cS_A2 (c : CC) (o : Expr) (x : Str) (p q : Pos) (e : Expr) : cS c (.Assign [.Attribute o x p] e q) = match idx x c.attrs with
    | some k => match noComp e with
      | true => .asA (cE c o) k (cE c e)
      | false => histOf c (cE c o) k e
    | none => .bad := rfl
theorem cS_A3 (c : CC) (o i e : Expr) (p q : Pos) : cS c (.Assign [.Subscript o i p] e q) = .asS (cE c o) (cE c i) (cE c e) := rfl
theorem cS_A4 (c : CC) (l es : List Expr) (k k2 : Nat) (p p2 q : Pos) : cS c (.Assign [.Tuple l k p] (.Tuple es k2 p2) q) = match locIdx c l, swOk l es with
    | some ks, true => .asT ks (cE c (.Tuple es k2 p2))
    | _, _ => .bad := rfl
theorem cS_U1 (c : CC) (x : Str) (p q : Pos) (o : Operator) (e : Expr) : cS c (.AugAssign (.Name x p) o e q) = match locOf c x, opOf o with
    | some k, some o => .auL o k (cE c e)
    | _, _ => .bad := rfl
theorem cS_U2 (c : CC) (a : Expr) (x : Str) (p q : Pos) (o : Operator) (e : Expr) : cS c (.AugAssign (.Attribute a x p) o e q) = match idx x c.attrs, opOf o with
    | some k, some p => .auA p (cE c a) k (cE c e)
    | _, _ => .bad := rfl
theorem cS_U3 (c : CC) (a i : Expr) (p q : Pos) (o : Operator) (e : Expr) : cS c (.AugAssign (.Subscript a i p) o e q) = match opOf o with
    | some p => .auS p (cE c a) (cE c i) (cE c e)
    | none => .bad := rfl
end Mine
end
section
open PySem PySem.Calls PyProof.Rows PySem.W
set_option Elab.async false
set_option maxRecDepth 100000
set_option linter.unusedVariables false
set_option autoImplicit false
namespace Mine

/-! what the small machine's words mean -/
structure Cw where
  prog : Program
  w : World
  K : Frag
  p : Program
  loose : List Str
  mean : ExcName → Option Value
  mg : Str → Option Value
  mb : Str → Option Value
  sl : Addr
/-- the ledger: what changes, what does not; the objects' addresses -/
structure Ld where
  mu : List (Addr × Obj)
  imm : List (Addr × Obj)
  ρ : List (Addr × Addr)
noncomputable def Ld.Has (W : Cw) (D : Ld) (a : Addr) (o : Obj) : Prop := (a, o) ∈ D.imm ∨ W.K.lookup a = some o
noncomputable abbrev tupOf (vs : List Value) (n : Nat) : Obj := { cls := .type "tuple", data := .seq vs.toArray n }
noncomputable def vi : V → Option Int
  | .n k => some (Int.ofNat k)
  | .m k => some (Int.negSucc k)
  | _ => none
mutual
inductive VR (W : Cw) (D : Ld) : V → Value → Prop
  | no : VR W D .no .none
  | bool (b : Bool) : VR W D (.bool b) (.bool b)
  | int {v : V} {i : Int} (t : Tok) (h : vi v = some i) : VR W D v (.int i t)
  | str (s : Str) (t : Tok) (h : PyData.strOk s = true) : VR W D (.str s) (.str s t)
  | obj {k : Nat} {a d : Addr} (h : D.ρ[k]? = some (a, d)) : VR W D (.obj k) (.ref a)
  | rng {A B C : V} {a b c : Int} {t u v : Tok} {r : Addr} (ha : vi A = some a) (hb : vi B = some b) (hc : vi C = some c) (h : (r, ({ cls := .type "range", data := .fields #[.int a t, .int b u, .int c v] } : Obj)) ∈ D.imm) : VR W D (.rng A B C) (.ref r)
  | tup {l : List V} {vs : List Value} {a : Addr} {n : Nat} (h : D.Has W a (tupOf vs n)) (r : VRs W D l vs) : VR W D (.tup l) (.ref a)
  | lst {l : List V} {vs : List Value} {a : Addr} {n : Nat} (h : W.K.lookup a = some (listOf vs.toArray n)) (r : VRs W D l vs) : VR W D (.lst l) (.ref a)
  | scr : VR W D .scr (.ref W.sl)
inductive VRs (W : Cw) (D : Ld) : List V → List Value → Prop
  | nil : VRs W D [] []
  | cons {v : V} {x : Value} {l : List V} {xs : List Value} (h : VR W D v x) (r : VRs W D l xs) : VRs W D (v :: l) (x :: xs)
end
structure Ext (D D' : Ld) : Prop where
  imm : ∀ q ∈ D.imm, q ∈ D'.imm
  ρ : ∀ (k : Nat) (q : Addr × Addr), D.ρ[k]? = some q → D'.ρ[k]? = some q
theorem Ext.refl (D : Ld) : Ext D D := ⟨fun _ h => h, fun _ _ h => h⟩
theorem Ext.trans {D D' D'' : Ld} (a : Ext D D') (b : Ext D' D'') : Ext D D'' := ⟨fun q h => b.imm q (a.imm q h), fun k q h => b.ρ k q (a.ρ k q h)⟩
variable {W : Cw} {D D' : Ld}
mutual
theorem VR.mono {v : V} {x : Value} (h : VR W D v x) (e : Ext D D') : VR W D' v x := match h with
  | .no => .no
  | .bool b => .bool b
  | .int t h => .int t h
  | .str s t h => .str s t h
  | .obj h => .obj (e.ρ _ _ h)
  | .rng ha hb hc h => .rng ha hb hc (e.imm _ h)
  | .tup h r => .tup (h.imp (e.imm _) id) (r.mono e)
  | .lst h r => .lst h (r.mono e)
  | .scr => .scr
theorem VRs.mono {v : List V} {x : List Value} (h : VRs W D v x) (e : Ext D D') : VRs W D' v x := match h with
  | .nil => .nil
  | .cons h r => .cons (h.mono e) (r.mono e)
end
theorem VRs.length {l : List V} {xs : List Value} (h : VRs W D l xs) : l.length = xs.length := by
  induction l generalizing xs with
  | nil => cases h; rfl
  | cons v l ih => cases h with | cons a r => rw [List.length_cons, List.length_cons, ih r]
theorem VR.toInt {v : V} {x : Value} {i : Int} (h : VR W D v x) (e : vi v = some i) : ∃ t, x = .int i t := by
  cases h with
  | int t h' => rw [e] at h'; cases h'; exact ⟨t, rfl⟩
  | _ => cases e
theorem vi_intV (i : Int) : vi (intV i) = some i := by cases i <;> rfl
theorem lget_some {α : Type} : ∀ {l : List α} {k : Nat} {x : α}, lget l k = some x ↔ l[k]? = some x
  | [], _, _ => by simp [lget]
  | y :: r, 0, x => by show some y = some x ↔ _; simp
  | y :: r, k + 1, x => by
    show lget r k = some x ↔ _
    rw [lget_some]; simp
theorem VRs.get {l : List V} {xs : List Value} (h : VRs W D l xs) : ∀ {k : Nat} {v : V}, lget l k = some v → ∃ x, xs[k]? = some x ∧ VR W D v x := by
  induction l generalizing xs with
  | nil => intro k v e; cases e
  | cons y l ih =>
    cases h with
    | cons a r =>
      intro k v e
      cases k with
      | zero => cases e; exact ⟨_, rfl, a⟩
      | succ k => obtain ⟨x, q, z⟩ := ih r (k := k) (v := v) e; exact ⟨x, by simpa using q, z⟩
theorem lset_some {α : Type} : ∀ {l : List α} {k : Nat} {x : α} {r : List α}, lset l k x = some r → r = l.set k x ∧ k < l.length
  | [], _, _, _, h => by cases h
  | y :: l, 0, x, r, h => by cases h; exact ⟨rfl, Nat.succ_pos _⟩
  | y :: l, k + 1, x, r, h => by
    have h' : oO (lset l k x) (fun r => some (y :: r)) = some r := h
    cases q : lset l k x with
    | none => rw [q] at h'; cases h'
    | some r' => rw [q] at h'; cases h'; obtain ⟨a, b⟩ := lset_some q; exact ⟨by rw [a]; rfl, Nat.succ_lt_succ b⟩
theorem VRs.set {l : List V} {xs : List Value} {v : V} {x : Value} (h : VRs W D l xs) (hv : VR W D v x) : ∀ {k : Nat}, VRs W D (l.set k v) (xs.set k x) := by
  induction l generalizing xs with
  | nil => cases h; intro k; exact .nil
  | cons y l ih =>
    cases h with
    | cons a r =>
      intro k
      cases k with
      | zero => exact .cons hv r
      | succ k => exact .cons a (ih r)
theorem VRs.append {l l' : List V} {xs xs' : List Value} (h : VRs W D l xs) (h' : VRs W D l' xs') : VRs W D (l ++ l') (xs ++ xs') := by
  induction l generalizing xs with
  | nil => cases h; exact h'
  | cons y l ih => cases h with | cons a r => exact .cons a (ih r)
theorem VRs.snoc {l : List V} {xs : List Value} {v : V} {x : Value} (h : VRs W D l xs) (hv : VR W D v x) : VRs W D (l ++ [v]) (xs ++ [x]) := h.append (.cons hv .nil)
theorem VRs.rep {v : V} {x : Value} (hv : VR W D v x) : ∀ n : Nat, VRs W D (repL n v) (List.replicate n x)
  | 0 => .nil
  | n + 1 => .cons hv (VRs.rep hv n)
theorem lsnoc_eq {α : Type} : ∀ (l : List α) (x : α), lsnoc l x = l ++ [x]
  | [], _ => rfl
  | y :: l, x => congrArg (y :: ·) (lsnoc_eq l x)
theorem lnorm_eq {α β : Type} : ∀ (l : List α) (k : List α → R β), lnorm l k = k l
  | [], _ => rfl
  | y :: l, k => lnorm_eq l fun r => k (y :: r)

/-! ints -/
inductive OpOk : Op → Int → Int → Int → Prop
  | add (x y : Int) : OpOk .add x y (x + y)
  | sub (x y : Int) : OpOk .sub x y (x - y)
  | mul (x y : Int) (h : x.natAbs < 2 ^ 62) (h' : y.natAbs < 2 ^ 62) : OpOk .mul x y (x * y)
  | and (x y : Int) : OpOk .and x y (Builtin.bitAnd x y)
  | or (x y : Int) : OpOk .or x y (Builtin.bitOr x y)
  | xor (x y : Int) : OpOk .xor x y (Builtin.bitXor x y)
  | shl (x y : Int) (h : 0 ≤ y) (h2 : y ≤ 64) (hx : x.natAbs < 2 ^ 62) : OpOk .shl x y (x * 2 ^ y.toNat)
  | shr (x y : Int) (h : 0 ≤ y) : OpOk .shr x y (x.fdiv (2 ^ y.toNat))
  | fdiv (x y : Int) (h : y ≠ 0) (hy : y.natAbs < 1073741824) : OpOk .fdiv x y (x.fdiv y)
  | mod (x y : Int) (h : y ≠ 0) : OpOk .mod x y (x.fmod y)
theorem ifB_some {α : Type} {b : Bool} {x : Option α} {r : α} (h : ifB b x none = some r) : b = true ∧ x = some r := by
  cases b with
  | true => exact ⟨rfl, h⟩
  | false => cases h
theorem blt_lt {a b : Nat} (h : Nat.blt a b = true) : a < b := Nat.le_of_ble_eq_true h
theorem force_some {n : Nat} {f : Nat → V} {v : V} (h : forceN n (fun n => some (f n)) = some v) : v = f n := by
  rw [forceN_eq] at h; exact (Option.some.inj h).symm
theorem lim_lt {a : Nat} (h : Nat.blt a lim = true) : a < 1073741824 := blt_lt h
theorem addV_ok {a b v : V} (h : addV a b = some v) : ∃ x y z, vi a = some x ∧ vi b = some y ∧ vi v = some z ∧ z = x + y := by
  unfold addV at h
  split at h
  · rw [force_some h]; exact ⟨_, _, _, rfl, rfl, rfl, by simp⟩
  · rename_i a b
    cases q : Nat.blt b a with
    | true =>
      rw [q] at h
      have := blt_lt q
      rw [force_some (f := V.n) h]; exact ⟨_, _, _, rfl, rfl, rfl, by simp only [Int.ofNat_eq_natCast, Nat.sub_eq]; omega⟩
    | false =>
      rw [q] at h
      have : ¬ b < a := fun z => by rw [show Nat.blt b a = true from Nat.ble_eq_true_of_le z] at q; cases q
      rw [force_some (f := V.m) h]; exact ⟨_, _, _, rfl, rfl, rfl, by simp only [Int.ofNat_eq_natCast, Nat.sub_eq]; omega⟩
  · rename_i b a
    cases q : Nat.blt b a with
    | true =>
      rw [q] at h
      have := blt_lt q
      rw [force_some (f := V.n) h]; exact ⟨_, _, _, rfl, rfl, rfl, by simp only [Int.ofNat_eq_natCast, Nat.sub_eq]; omega⟩
    | false =>
      rw [q] at h
      have : ¬ b < a := fun z => by rw [show Nat.blt b a = true from Nat.ble_eq_true_of_le z] at q; cases q
      rw [force_some (f := V.m) h]; exact ⟨_, _, _, rfl, rfl, rfl, by simp only [Int.ofNat_eq_natCast, Nat.sub_eq]; omega⟩
  · rw [force_some h]; exact ⟨_, _, _, rfl, rfl, rfl, by simp only [Nat.add_eq]; omega⟩
  · cases h
theorem negV_ok {a v : V} (h : negV a = some v) : ∃ x z, vi a = some x ∧ vi v = some z ∧ z = -x := by
  unfold negV at h
  split at h
  · rename_i a
    cases a with
    | zero => cases h; exact ⟨_, _, rfl, rfl, rfl⟩
    | succ k => cases h; exact ⟨_, _, rfl, rfl, rfl⟩
  · cases h; exact ⟨_, _, rfl, rfl, rfl⟩
  · cases h
theorem bitsmall {x : Int} (h : x.natAbs < 2 ^ 62) : Builtin.Int.intBits x ≤ 64 := intBits_le_64 (by omega) (by omega)
theorem bitOr_nn (a b : Nat) : Builtin.bitOr (Int.ofNat a) (Int.ofNat b) = Int.ofNat (Nat.lor a b) := by
  rw [bitOr_and, show Builtin.bitAnd (Int.ofNat a) (Int.ofNat b) = _ from bitAnd_pp (Int.natCast_nonneg a) (Int.natCast_nonneg b)]
  have := nat_or_add_and a b
  show (a : Int) + (b : Int) - ((a &&& b : Nat) : Int) = ((a ||| b : Nat) : Int)
  omega
theorem opV_ok {op : Op} {a b v : V} (h : opV op a b = some v) : ∃ x y z, vi a = some x ∧ vi b = some y ∧ vi v = some z ∧ OpOk op x y z := by
  cases op with
  | add => obtain ⟨x, y, z, ha, hb, hv, rfl⟩ := addV_ok h; exact ⟨x, y, _, ha, hb, hv, .add x y⟩
  | sub =>
    have h' : oO (negV b) (fun b => addV a b) = some v := h
    cases q : negV b with
    | none => rw [q] at h'; cases h'
    | some b' =>
      rw [q] at h'
      obtain ⟨y, y', hy, hy', rfl⟩ := negV_ok q
      obtain ⟨x, z', z, ha, hb, hv, rfl⟩ := addV_ok h'
      rw [hy'] at hb; cases hb
      exact ⟨x, y, _, ha, hy, hv, by have := OpOk.sub x y; rwa [Int.sub_eq_add_neg] at this⟩
  | mul =>
    have h' : mulV a b = some v := h
    unfold mulV at h'
    split at h'
    · rename_i a b
      obtain ⟨q1, h'⟩ := ifB_some h'
      obtain ⟨q2, h'⟩ := ifB_some h'
      have := lim_lt q1; have := lim_lt q2
      rw [force_some h']
      refine ⟨_, _, _, rfl, rfl, rfl, ?_⟩
      have := OpOk.mul (Int.ofNat a) (Int.ofNat b) (by simp only [Int.ofNat_eq_natCast, Int.natAbs_natCast]; omega) (by simp only [Int.ofNat_eq_natCast, Int.natAbs_natCast]; omega)
      rwa [show Int.ofNat a * Int.ofNat b = Int.ofNat (Nat.mul a b) from rfl] at this
    · rename_i a b
      obtain ⟨q1, h'⟩ := ifB_some h'
      obtain ⟨q2, h'⟩ := ifB_some h'
      have := lim_lt q1; have := lim_lt q2
      rw [forceN_eq] at h'
      obtain ⟨x, z, hx, hz, rfl⟩ := negV_ok h'
      cases hx
      refine ⟨_, _, _, rfl, rfl, hz, ?_⟩
      have := OpOk.mul (Int.negSucc a) (Int.ofNat b) (by simp only [Int.natAbs_negSucc]; omega) (by simp only [Int.ofNat_eq_natCast, Int.natAbs_natCast]; omega)
      rwa [show Int.negSucc a * Int.ofNat b = -Int.ofNat (Nat.mul (Nat.succ a) b) from rfl] at this
    · rename_i a b
      obtain ⟨q1, h'⟩ := ifB_some h'
      obtain ⟨q2, h'⟩ := ifB_some h'
      have := lim_lt q1; have := lim_lt q2
      rw [forceN_eq] at h'
      obtain ⟨x, z, hx, hz, rfl⟩ := negV_ok h'
      cases hx
      refine ⟨_, _, _, rfl, rfl, hz, ?_⟩
      have := OpOk.mul (Int.ofNat a) (Int.negSucc b) (by simp only [Int.ofNat_eq_natCast, Int.natAbs_natCast]; omega) (by simp only [Int.natAbs_negSucc]; omega)
      rwa [show Int.ofNat a * Int.negSucc b = -Int.ofNat (Nat.mul a (Nat.succ b)) from rfl] at this
    · cases h'
  | and =>
    have h' : andV a b = some v := h
    unfold andV at h'
    split at h'
    · rename_i a b
      rw [force_some h']
      refine ⟨_, _, _, rfl, rfl, rfl, ?_⟩
      have := OpOk.and (Int.ofNat a) (Int.ofNat b)
      rw [show Builtin.bitAnd (Int.ofNat a) (Int.ofNat b) = _ from bitAnd_pp (Int.natCast_nonneg a) (Int.natCast_nonneg b)] at this
      exact this
    · rename_i a b
      rw [force_some h']
      refine ⟨_, _, _, rfl, rfl, rfl, ?_⟩
      have := OpOk.and (Int.ofNat a) (Int.negSucc b)
      rw [show Builtin.bitAnd (Int.ofNat a) (Int.negSucc b) = _ from bitAnd_pn (Int.natCast_nonneg a) (by omega)] at this
      have e : (Builtin.bitNot (Int.negSucc b)).toNat = b := by unfold Builtin.bitNot; omega
      rw [e] at this
      have e2 : Int.ofNat a - (((Int.ofNat a).toNat &&& b : Nat) : Int) = Int.ofNat (Nat.sub a (Nat.land a b)) := by
        have : a &&& b ≤ a := Nat.and_le_left
        show (a : Int) - ((a &&& b : Nat) : Int) = ((a - (a &&& b) : Nat) : Int)
        omega
      rw [e2] at this
      exact this
    · cases h'
  | or =>
    have h' : orV a b = some v := h
    unfold orV at h'
    split at h'
    · rename_i a b
      rw [force_some h']
      refine ⟨_, _, _, rfl, rfl, rfl, ?_⟩
      have := OpOk.or (Int.ofNat a) (Int.ofNat b)
      rw [bitOr_nn] at this
      exact this
    · cases h'
  | xor =>
    have h' : xorV a b = some v := h
    unfold xorV at h'
    split at h'
    · rename_i a b
      rw [force_some h']
      refine ⟨_, _, _, rfl, rfl, rfl, ?_⟩
      have := OpOk.xor (Int.ofNat a) (Int.ofNat b)
      have e : Builtin.bitXor (Int.ofNat a) (Int.ofNat b) = Int.ofNat (Nat.sub (Nat.lor a b) (Nat.land a b)) := by
        unfold Builtin.bitXor
        rw [bitOr_nn, show Builtin.bitAnd (Int.ofNat a) (Int.ofNat b) = _ from bitAnd_pp (Int.natCast_nonneg a) (Int.natCast_nonneg b)]
        have h1 := nat_or_add_and a b
        have h2 : a &&& b ≤ a := Nat.and_le_left
        have h3 : a &&& b ≤ b := Nat.and_le_right
        show ((a ||| b : Nat) : Int) - ((a &&& b : Nat) : Int) = (((a ||| b) - (a &&& b) : Nat) : Int)
        omega
      rw [e] at this
      exact this
    · cases h'
  | shl =>
    have h' : shlV a b = some v := h
    unfold shlV at h'
    split at h'
    · rename_i a b
      obtain ⟨q1, h'⟩ := ifB_some h'
      obtain ⟨q2, h'⟩ := ifB_some h'
      have := lim_lt q1; have := blt_lt q2
      rw [force_some h']
      refine ⟨_, _, _, rfl, rfl, rfl, ?_⟩
      have := OpOk.shl (Int.ofNat a) (Int.ofNat b) (Int.natCast_nonneg b) (by simp only [Int.ofNat_eq_natCast]; omega) (by simp only [Int.ofNat_eq_natCast, Int.natAbs_natCast]; omega)
      have e : Int.ofNat a * 2 ^ (Int.ofNat b).toNat = Int.ofNat (Nat.shiftLeft a b) := by
        show (a : Int) * 2 ^ b = ((a <<< b : Nat) : Int)
        rw [Nat.shiftLeft_eq]; simp
      rw [e] at this
      exact this
    · cases h'
  | shr =>
    have h' : shrV a b = some v := h
    unfold shrV at h'
    split at h'
    · rename_i a b
      rw [force_some h']
      refine ⟨_, _, _, rfl, rfl, rfl, ?_⟩
      have := OpOk.shr (Int.ofNat a) (Int.ofNat b) (Int.natCast_nonneg b)
      have e : (Int.ofNat a).fdiv (2 ^ (Int.ofNat b).toNat) = Int.ofNat (Nat.shiftRight a b) := by
        show (a : Int).fdiv (2 ^ b) = ((a >>> b : Nat) : Int)
        have e2 : (2 : Int) ^ b = ((2 ^ b : Nat) : Int) := by simp
        rw [e2, Nat.shiftRight_eq_div_pow, Int.fdiv_eq_ediv_of_nonneg _ (Int.natCast_nonneg _)]; rfl
      rw [e] at this
      exact this
    · cases h'
  | fdiv =>
    have h' : divV a b = some v := h
    unfold divV at h'
    split at h'
    · rename_i a b
      obtain ⟨q0, h'⟩ := ifB_some h'
      obtain ⟨q1, h'⟩ := ifB_some h'
      obtain ⟨q2, h'⟩ := ifB_some h'
      have := blt_lt q0; have := lim_lt q1; have := lim_lt q2
      rw [force_some h']
      refine ⟨_, _, _, rfl, rfl, rfl, ?_⟩
      have := OpOk.fdiv (Int.ofNat a) (Int.ofNat b) (by simp only [Int.ofNat_eq_natCast]; omega) (by simp only [Int.ofNat_eq_natCast, Int.natAbs_natCast]; omega)
      have e : (Int.ofNat a).fdiv (Int.ofNat b) = Int.ofNat (Nat.div a b) := Int.fdiv_eq_ediv_of_nonneg _ (Int.natCast_nonneg b)
      rw [e] at this
      exact this
    · cases h'
  | mod =>
    have h' : modV a b = some v := h
    unfold modV at h'
    split at h'
    · rename_i a b
      obtain ⟨q0, h'⟩ := ifB_some h'
      have := blt_lt q0
      rw [force_some h']
      refine ⟨_, _, _, rfl, rfl, rfl, ?_⟩
      have := OpOk.mod (Int.ofNat a) (Int.ofNat b) (by simp only [Int.ofNat_eq_natCast]; omega)
      have e : (Int.ofNat a).fmod (Int.ofNat b) = Int.ofNat (Nat.mod a b) := Int.fmod_eq_emod_of_nonneg _ (Int.natCast_nonneg b)
      rw [e] at this
      exact this
    · cases h'
end Mine
end
section
open PySem PySem.Calls PyProof.Rows PySem.W
set_option Elab.async false
set_option maxRecDepth 100000
set_option linter.unusedVariables false
set_option autoImplicit false
namespace Mine
/-- the statics beside the world: attribute names, classes; what a frozen heap stands for -/
structure Cs extends Cw where
  an : List Str
  cls : List Addr
  pat : Nat → Hp → Prop
  bud : Nat
  gl : List (Str × V)
  fns : List (Str × Nat)
  ccls : List (Str × Nat)
  fad : List Nat
  so : Obj
structure Fi where
  cn : Str
  cs : Scope
  a : Addr
  ccd : Value
  outer : List Env
  A₀ : Around
  base : Heap
  h₀ : Heap
  L : Addr
  dp : Nat
  un : Nat
  gd : Option (List Code)
noncomputable abbrev Fi.env (I : Fi) : Env := envOf I.cn I.cs I.L I.a I.ccd
noncomputable abbrev Fi.A (I : Fi) : Around := { handled := none, depth := I.dp, frames := some (I.env :: I.outer), guards := I.gd, units := I.un }
structure Fi.Ok (W : Cs) (I : Fi) (n : Nat) : Prop where
  B : Below I.A₀ I.base I.outer I.h₀
  X : W.K.In I.h₀
  T : Top W.p W.loose W.mean W.mg W.mb I.h₀
  ck : I.cs.kind = .function
  sc : I.base.get? W.sl = some W.so
  dB : I.dp + 2 * n + 8 + 2 * W.bud < recursionLimit
  uB : I.un + 16 * n + 100 + 16 * W.bud < cLine

inductive FsR (W : Cs) (D : Ld) : Fs → List DictEntry → Prop
  | nil : FsR W D .nil []
  | cons {x : Nat} {v : V} {r : Fs} {nm : Str} {hs : Int} {t : Tok} {val : Value} {es : List DictEntry} (hx : W.an[x]? = some nm) (hv : VR W.toCw D v val) (h : FsR W D r es) : FsR W D (.cons x v r) (⟨hs, .str nm t, val⟩ :: es)
noncomputable def OR (W : Cs) (D : Ld) (a d : Addr) : AO → Prop
  | .list l => d = a ∧ ∃ its n, (a, listOf its n) ∈ D.mu ∧ VRs W.toCw D l its.toList
  | .inst c fs => ∃ C, W.cls[c]? = some C ∧ (a, instObj C d) ∈ D.mu ∧ ∃ es n, (d, dictOf es n) ∈ D.mu ∧ FsR W D fs es ∧ es.length ≤ 100
  | .hole => False
noncomputable def hlen (h : Hp) : Nat := @Hp.rec (fun _ => Nat) 0 (fun _ _ n => n + 1) (fun _ _ n => n) h
structure HR (W : Cs) (D : Ld) (h : Hp) : Prop where
  len : D.ρ.length = hlen h
  inj : ∀ (i j : Nat) (p q : Addr × Addr), D.ρ[i]? = some p → D.ρ[j]? = some q → p.1 = q.1 ∨ p.2 = q.2 → i = j
  at_ : ∀ k o, hget h k = some o → ∃ p, D.ρ[k]? = some p ∧ OR W D p.1 p.2 o
noncomputable def Fill (W : Cs) : Hp → Hp → Prop
  | .frz g r, Hf => W.pat g Hf ∧ ∀ k o, hget r k = some o → o ≠ .hole → hget Hf k = some o
  | h, Hf => h = Hf
noncomputable def IsIt (o : Obj) : Prop := o.cls = .type "list_iterator" ∨ o.cls = .type "tuple_iterator" ∨ o.cls = .type "range_iterator"
structure LcOk (W : Cs) (c : CC) (I : Fi) : Prop where
  sc : I.cs.names = c.sc
  an : c.attrs = W.an
  gl : c.gl = W.gl
  fns : c.fns = W.fns
  cls : c.cls = W.ccls
structure SR (W : Cs) (I : Fi) (names : List Str) (ex : List (Addr × Obj)) (l : List V) (h : Hp) (hp : Heap) (m : Str → Option Value) (D : Ld) : Prop where
  F : Fr I.h₀ I.L hp m
  N : News I.h₀ I.L hp (D.mu ++ D.imm)
  nd : (D.mu.map (·.1)).Nodup
  im : ∀ q ∈ D.imm, q.2.cls = .type "tuple" ∨ q.2.cls = .type "range"
  ex : ∀ q ∈ ex, q ∈ D.mu ∧ IsIt q.2
  H : ∃ Hf, Fill W h Hf ∧ HR W D Hf
  lc : ∀ x k, idx x names = some k → ∀ v, lget l k = some v → v = .un ∨ ∃ val, m x = some val ∧ VR W.toCw D v val

variable {W : Cs} {I : Fi} {names : List Str} {ex : List (Addr × Obj)} {l : List V} {h : Hp} {hp : Heap} {m : Str → Option Value} {D D' : Ld}
theorem ne_list : Value.type "list" ≠ Value.type "tuple" := fun q => absurd (Value.type.inj q) (by decide)
theorem ne_dict : Value.type "dict" ≠ Value.type "tuple" := fun q => absurd (Value.type.inj q) (by decide)
theorem ne_listR : Value.type "list" ≠ Value.type "range" := fun q => absurd (Value.type.inj q) (by decide)
theorem ne_dictR : Value.type "dict" ≠ Value.type "range" := fun q => absurd (Value.type.inj q) (by decide)
theorem nodup_inj {α : Type} {l : List α} (nd : l.Nodup) {i j : Nat} {x : α} (hi : l[i]? = some x) (hj : l[j]? = some x) : i = j := by
  obtain ⟨h1, e1⟩ := List.getElem?_eq_some_iff.mp hi
  obtain ⟨h2, e2⟩ := List.getElem?_eq_some_iff.mp hj
  have P := List.pairwise_iff_getElem.mp nd
  rcases Nat.lt_trichotomy i j with z | z | z
  · exact absurd (e1.trans e2.symm) (P i j h1 h2 z)
  · exact z
  · exact absurd (e2.trans e1.symm) (P j i h2 h1 z)
theorem FsR.mono {fs : Fs} {es : List DictEntry} (h : FsR W D fs es) (e : Ext D D') : FsR W D' fs es := by
  induction h with
  | nil => exact .nil
  | cons hx hv _ ih => exact .cons hx (hv.mono e) ih
theorem OR.mono {a d : Addr} {o : AO} (h : OR W D a d o) (e : Ext D D') (hm : ∀ q ∈ D.mu, q.2.cls ≠ .type "tuple" → q ∈ D'.mu) : OR W D' a d o := by
  cases o with
  | list l => obtain ⟨e0, its, n, h1, h2⟩ := h; exact ⟨e0, its, n, hm _ h1 ne_list, h2.mono e⟩
  | inst c fs => obtain ⟨C, h1, h2, es, n, h3, h4, h5⟩ := h; exact ⟨C, h1, hm _ h2 (by intro q; cases q), es, n, hm _ h3 ne_dict, h4.mono e, h5⟩
  | hole => exact h
theorem SR.hole (R : SR W I names ex l h hp m D) {k : Nat} {o : AO} (e : hget h k = some o) (ho : o ≠ .hole) : ∃ Hf p, HR W D Hf ∧ Fill W h Hf ∧ hget Hf k = some o ∧ D.ρ[k]? = some p ∧ OR W D p.1 p.2 o := by
  obtain ⟨Hf, hf, H⟩ := R.H
  have e' : hget Hf k = some o := by
    cases h with
    | nil => cases (show Hp.nil = Hf from hf); exact e
    | cons a r => cases (show Hp.cons a r = Hf from hf); exact e
    | frz g r => exact hf.2 k o e ho
  obtain ⟨p, hp, ho⟩ := H.at_ k o e'
  exact ⟨Hf, p, H, hf, e', hp, ho⟩
theorem oO_some {α β : Type} {o : Option α} {k : α → Option β} {b : β} (h : oO o k = some b) : ∃ a, o = some a ∧ k a = some b := by
  cases o with
  | none => cases h
  | some a => exact ⟨a, rfl, h⟩
theorem listAt_some {k : Nat} {l : List V} (e : listAt h k = some l) : hget h k = some (.list l) := by
  obtain ⟨o, ho, e⟩ := oO_some e
  cases o with
  | list l' => cases e; exact ho
  | inst c f => cases e
  | hole => cases e
theorem attrOf_some {x : Nat} {a v : V} (e : attrOf h x a = some v) : ∃ k c fs, a = .obj k ∧ hget h k = some (.inst c fs) ∧ fget fs x = some v := by
  unfold attrOf at e
  split at e
  · obtain ⟨o, ho, e⟩ := oO_some e
    cases o with
    | list l' => cases e
    | inst c f => exact ⟨_, c, f, rfl, ho, e⟩
    | hole => cases e
  · cases e
/-- a list of the heap -/
theorem SR.list (R : SR W I names ex l h hp m D) {k : Nat} {vs : List V} (e : listAt h k = some vs) {x : Value} (hx : VR W.toCw D (.obj k) x) : ∃ a its n, x = .ref a ∧ (a, listOf its n) ∈ D.mu ∧ VRs W.toCw D vs its.toList := by
  obtain ⟨Hf, p, H, _, _, hp, _, its, n, h1, h2⟩ := R.hole (listAt_some e) (by intro q; cases q)
  cases hx with
  | obj hk => rw [hp] at hk; cases hk; exact ⟨_, its, n, rfl, h1, h2⟩
  | int t h => cases h
theorem SR.inst (R : SR W I names ex l h hp m D) {k c : Nat} {fs : Fs} (e : hget h k = some (.inst c fs)) {x : Value} (hx : VR W.toCw D (.obj k) x) : ∃ a d C es n, x = .ref a ∧ D.ρ[k]? = some (a, d) ∧ W.cls[c]? = some C ∧ (a, instObj C d) ∈ D.mu ∧ (d, dictOf es n) ∈ D.mu ∧ FsR W D fs es ∧ es.length ≤ 100 := by
  obtain ⟨Hf, p, H, _, _, hp, C, h1, h2, es, n, h3, h4, h5⟩ := R.hole e (by intro q; cases q)
  cases hx with
  | obj hk => rw [hp] at hk; cases hk; exact ⟨_, _, C, es, n, rfl, hp, h1, h2, h3, h4, h5⟩
  | int t h => cases h
theorem SR.mem (R : SR W I names ex l h hp m D) {q : Addr × Obj} (e : q ∈ D.mu) : hp.get? q.1 = some q.2 := (R.N q (List.mem_append_left _ e)).1
theorem SR.memi (R : SR W I names ex l h hp m D) {q : Addr × Obj} (e : q ∈ D.imm) : hp.get? q.1 = some q.2 := (R.N q (List.mem_append_right _ e)).1
theorem str_beq (s t : Str) : (s == t) = true ↔ s = t := beq_iff_eq
theorem fget_ok {fs : Fs} {es : List DictEntry} (nd : W.an.Nodup) (h : FsR W D fs es) {x : Nat} {v : V} {nm : Str} (hx : W.an[x]? = some nm) (e : fget fs x = some v) : ∃ val, getL nm es = some (some val) ∧ VR W.toCw D v val := by
  induction h with
  | nil => cases e
  | cons hy hv r ih =>
    rename_i y w fs' nm' hs t val es'
    have e' : ifB (Nat.beq y x) (some w) (fget fs' x) = some v := e
    cases q : Nat.beq y x with
    | true =>
      rw [q] at e'
      cases e'
      have : y = x := Nat.eq_of_beq_eq_true q
      subst this
      rw [hx] at hy; cases hy
      refine ⟨val, ?_, hv⟩
      unfold getL
      rw [List.find?_cons_of_pos (by show (nm == nm) = true; exact beq_self_eq_true nm)]
    | false =>
      rw [q] at e'
      obtain ⟨val', g, hv'⟩ := ih e'
      refine ⟨val', ?_, hv'⟩
      have ne : ¬ (nm' == nm) = true := fun z => by
        have z := (str_beq _ _).mp z
        subst z
        have : y = x := nodup_inj nd hy hx
        subst this
        rw [Nat.beq_refl] at q; cases q
      unfold getL at g ⊢
      rw [List.find?_cons_of_neg (by show ¬ (nm' == nm) = true; exact ne)]
      have hk : (({ hash := hs, key := .str nm' t, val := val } : DictEntry) :: es').any (·.refKey) = es'.any (·.refKey) := by rw [List.any_cons]; rfl
      rw [hk]; exact g
theorem fs_keys {fs : Fs} {es : List DictEntry} (h : FsR W D fs es) : es.any (·.refKey) = false := by
  induction h with
  | nil => rfl
  | cons hx hv r ih => rw [List.any_cons, ih]; rfl
theorem getL_some {fs : Fs} {es : List DictEntry} (h : FsR W D fs es) (nm : Str) : (getL nm es).isSome = true := by
  unfold getL
  split
  · rfl
  · rw [fs_keys h]; rfl
theorem putL_cons (nm : Str) (hsh : Int) (key v : Value) (e : DictEntry) (r : List DictEntry) : putL nm hsh key v (e :: r) = if e.key.isStr nm then ⟨e.hash, e.key, v⟩ :: r else e :: putL nm hsh key v r := rfl
theorem fput_ok {fs : Fs} {es : List DictEntry} (nd : W.an.Nodup) (h : FsR W D fs es) {x : Nat} {w : V} {nm : Str} (hx : W.an[x]? = some nm) :
    ∀ {k : Fs → Option Hp} {c : Nat} {r : Hp}, fput fs x w c k = some r → ∃ fs', k fs' = some r ∧ ∀ hsh t val, VR W.toCw D w val → FsR W D fs' (putL nm hsh (.str nm t) val es) ∧ ((putL nm hsh (.str nm t) val es).length = es.length ∨ (putL nm hsh (.str nm t) val es).length = es.length + 1 ∧ es.length < c) := by
  induction h with
  | nil =>
    intro k c r e
    have e' : @Nat.rec (fun _ => Option Hp) none (fun _ _ => k (.cons x w .nil)) c = some r := e
    cases c with
    | zero => cases e'
    | succ c => exact ⟨_, e', fun hsh t val hv => ⟨.cons hx hv .nil, .inr ⟨rfl, Nat.succ_pos _⟩⟩⟩
  | cons hy hv r ih =>
    rename_i y u fs' nm' hs t val es'
    intro k c rr e
    have e' : ifB (Nat.beq y x) (k (.cons y w fs')) (fput fs' x w (Nat.pred c) fun r => k (.cons y u r)) = some rr := e
    cases q : Nat.beq y x with
    | true =>
      rw [q] at e'
      have : y = x := Nat.eq_of_beq_eq_true q
      subst this
      rw [hx] at hy; cases hy
      refine ⟨_, e', fun hsh t' val' hv' => ?_⟩
      rw [putL_cons, if_pos (by show (nm == nm) = true; exact beq_self_eq_true nm)]
      exact ⟨.cons hx hv' r, .inl rfl⟩
    | false =>
      rw [q] at e'
      obtain ⟨fs2, e2, ok⟩ := ih (k := fun r => k (.cons y u r)) e'
      refine ⟨_, e2, fun hsh t' val' hv' => ?_⟩
      have ne : ¬ (nm' == nm) = true := fun z => by
        have z := (str_beq _ _).mp z
        subst z
        have : y = x := nodup_inj nd hy hx
        subst this
        rw [Nat.beq_refl] at q; cases q
      rw [putL_cons, if_neg (by show ¬ (nm' == nm) = true; exact ne)]
      obtain ⟨a, c'⟩ := ok hsh t' val' hv'
      refine ⟨.cons hy hv a, ?_⟩
      simp only [List.length_cons]
      rcases c' with c' | c'
      · exact .inl (by omega)
      · exact .inr ⟨by omega, by have := c'.2; rw [Nat.pred_eq_sub_one] at this; omega⟩
theorem Upd.of {d : Addr} {o o' : Obj} {post : List (Addr × Obj)} (h2 : ∀ q ∈ post, q.1 ≠ d) : ∀ {pre : List (Addr × Obj)}, (∀ q ∈ pre, q.1 ≠ d) → Upd d o o' (pre ++ (d, o) :: post) (pre ++ (d, o') :: post)
  | [], _ => .head h2
  | q :: pre, h1 => .tail (h1 q (.head _)) (Upd.of h2 fun q hq => h1 q (.tail _ hq))
/-- one object of the ledger turned -/
theorem SR.upd (R : SR W I names ex l h hp m D) {d : Addr} {o : Obj} (hm : (d, o) ∈ D.mu) (hc : o.cls ≠ .type "tuple" ∧ o.cls ≠ .type "range") (o' : Obj) :
    ∃ pre post, D.mu = pre ++ (d, o) :: post ∧ Upd d o o' (D.mu ++ D.imm) ((pre ++ (d, o') :: post) ++ D.imm) ∧ ((pre ++ (d, o') :: post).map (·.1)).Nodup ∧ (∀ q ∈ D.mu, q.1 ≠ d → q ∈ pre ++ (d, o') :: post) := by
  obtain ⟨pre, post, e⟩ := List.append_of_mem hm
  have nd := R.nd
  rw [e, List.map_append, List.map_cons] at nd
  have nd' := List.nodup_append.mp nd
  have h1 : ∀ q ∈ pre, q.1 ≠ d := fun q hq => nd'.2.2 q.1 (List.mem_map_of_mem hq) d (.head _)
  have h2 : ∀ q ∈ post, q.1 ≠ d := fun q hq z => (List.nodup_cons.mp nd'.2.1).1 (List.mem_map.mpr ⟨q, hq, z⟩)
  have h3 : ∀ q ∈ D.imm, q.1 ≠ d := fun q hq z => by
    have a := R.memi hq
    have b := R.mem hm
    rw [z] at a
    have := Option.some.inj (a.symm.trans b)
    rcases R.im q hq with k | k
    · rw [this] at k; exact hc.1 k
    · rw [this] at k; exact hc.2 k
  refine ⟨pre, post, e, ?_, ?_, ?_⟩
  · rw [e, List.append_assoc, List.append_assoc]
    exact Upd.of (fun q hq => (List.mem_append.mp hq).elim (h2 q) (h3 q)) h1
  · rw [List.map_append, List.map_cons]; exact nd
  · intro q hq hne
    rw [e] at hq
    rcases List.mem_append.mp hq with z | z
    · exact List.mem_append_left _ z
    · rcases List.mem_cons.mp z with z | z
      · rw [z] at hne; exact absurd rfl hne
      · exact List.mem_append_right _ (.tail _ z)
end Mine
end
section
open PySem PySem.Calls PyProof.Rows PySem.W
set_option Elab.async false
set_option maxRecDepth 100000
set_option linter.unusedVariables false
set_option autoImplicit false
namespace Mine
variable {W : Cs} {I : Fi} {names : List Str} {ex : List (Addr × Obj)} {l : List V} {h : Hp} {hp : Heap} {m : Str → Option Value} {D D' : Ld}
noncomputable def Hp.isFrz : Hp → Bool
  | .frz _ _ => true
  | _ => false
theorem Fill.eq {Hf : Hp} (f : Fill W h Hf) (e : h.isFrz = false) : Hf = h := by
  cases h with
  | nil => exact (show Hp.nil = Hf from f).symm
  | cons a r => exact (show Hp.cons a r = Hf from f).symm
  | frz g r => cases e
theorem Fill.self (e : h.isFrz = false) : Fill W h h := by
  cases h with
  | nil => rfl
  | cons a r => rfl
  | frz g r => cases e
theorem hget_lt : ∀ {h : Hp} {k : Nat}, k < hlen h → ∃ o, hget h k = some o
  | .nil, k, e => absurd e (Nat.not_lt_zero _)
  | .cons a r, 0, e => ⟨a, rfl⟩
  | .cons a r, k + 1, e => hget_lt (h := r) (Nat.lt_of_succ_lt_succ e)
  | .frz g r, k, e => hget_lt (h := r) e
theorem hnew_ok {o : AO} : ∀ {h : Hp} {k : Nat → Hp → R V} {v : V} {h' : Hp}, hnew h o k = .ok v h' → h.isFrz = false ∧ ∃ h2, k (hlen h) h2 = .ok v h' ∧ h2.isFrz = false ∧ hlen h2 = hlen h + 1 ∧ ∀ j o', hget h2 j = some o' → hget h j = some o' ∨ (j = hlen h ∧ o' = o)
  | .nil, k, v, h', e => ⟨rfl, _, e, rfl, rfl, fun j o' q => by
      cases j with
      | zero => cases q; exact .inr ⟨rfl, rfl⟩
      | succ j => cases q⟩
  | .cons a r, k, v, h', e => by
    obtain ⟨_, h2, e2, f2, l2, g2⟩ := hnew_ok (h := r) (k := fun n r => k (Nat.succ n) (.cons a r)) e
    refine ⟨rfl, _, e2, rfl, by show hlen h2 + 1 = hlen r + 1 + 1; rw [l2], fun j o' q => ?_⟩
    cases j with
    | zero => exact .inl q
    | succ j => exact (g2 j o' q).imp id fun z => ⟨by show j + 1 = hlen r + 1; rw [z.1], z.2⟩
  | .frz g r, k, v, h', e => by cases e
theorem hset_ok : ∀ {h h2 : Hp} {k : Nat} {o : AO}, hset h k o = some h2 → h.isFrz = false ∧ h2.isFrz = false ∧ hlen h2 = hlen h ∧ ∀ j o', hget h2 j = some o' → (j = k ∧ o' = o) ∨ (j ≠ k ∧ hget h j = some o')
  | .nil, _, _, _, e => by cases e
  | .cons a r, h2, 0, o, e => by
    cases e
    refine ⟨rfl, rfl, rfl, fun j o' q => ?_⟩
    cases j with
    | zero => cases q; exact .inl ⟨rfl, rfl⟩
    | succ j => exact .inr ⟨by omega, q⟩
  | .cons a r, h2, k + 1, o, e => by
    obtain ⟨r2, e1, e2⟩ := oO_some (show oO (hset r k o) (fun r => some (.cons a r)) = some h2 from e)
    cases e2
    obtain ⟨_, _, l2, g2⟩ := hset_ok e1
    refine ⟨rfl, rfl, by show hlen r2 + 1 = hlen r + 1; rw [l2], fun j o' q => ?_⟩
    cases j with
    | zero => exact .inr ⟨by omega, q⟩
    | succ j =>
      rcases g2 j o' q with z | z
      · exact .inl ⟨by rw [z.1], z.2⟩
      · exact .inr ⟨by intro q; exact z.1 (Nat.succ.inj q), z.2⟩
  | .frz g r, _, _, _, e => by cases e
theorem idx_ok {x : Str} : ∀ {l : List Str} {k : Nat}, idx x l = some k → l[k]? = some x
  | [], _, e => by cases e
  | y :: r, k, e => by
    unfold idx at e
    split at e
    · cases e; rename_i q; rw [(str_beq x y).mp q]; rfl
    · split at e
      · cases e
        rename_i q
        have := idx_ok q
        simpa using this
      · cases e
/-- the frame's locals: one turned -/
theorem SR.setLoc (R : SR W I names ex l h hp m D) {x : Str} {k : Nat} (hx : idx x names = some k) {v : V} {val : Value} (hv : VR W.toCw D v val) {l' : List V} (e : lset l k v = some l') {hp' : Heap}
    (F : Fr I.h₀ I.L hp' (fun y => if y = x then some val else m y)) (N : News I.h₀ I.L hp' (D.mu ++ D.imm)) : SR W I names ex l' h hp' (fun y => if y = x then some val else m y) D where
  F := F
  N := N
  nd := R.nd
  im := R.im
  ex := R.ex
  H := R.H
  lc := fun y j hy w hw => by
    obtain ⟨e1, e2⟩ := lset_some e
    rw [lget_some, e1, List.getElem?_set] at hw
    by_cases q : k = j
    · subst q
      have : x = y := by
        have a := idx_ok hx
        have b := idx_ok hy
        rw [a] at b; exact Option.some.inj b
      subst this
      rw [if_pos rfl, if_pos e2] at hw
      cases hw
      exact .inr ⟨val, if_pos rfl, hv⟩
    · rw [if_neg q] at hw
      rcases R.lc y j hy w (lget_some.mpr hw) with z | ⟨val', z1, z2⟩
      · exact .inl z
      · refine .inr ⟨val', ?_, z2⟩
        have : ¬ y = x := fun z => by
          subst z
          rw [hx] at hy
          exact q (Option.some.inj hy)
        show (if y = x then some val else m y) = some val'
        rw [if_neg this]; exact z1
/-- a new object that never changes -/
theorem SR.immNewE (R : SR W I names ex l h hp m D) {a : Addr} {o : Obj} (ho : o.cls = .type "tuple" ∨ o.cls = .type "range") {hp' : Heap} (F : Fr I.h₀ I.L hp' m) (N : News I.h₀ I.L hp' ((a, o) :: (D.mu ++ D.imm))) :
    Ext D ⟨D.mu, (a, o) :: D.imm, D.ρ⟩ ∧ SR W I names ex l h hp' m ⟨D.mu, (a, o) :: D.imm, D.ρ⟩ := by
  have X : Ext D ⟨D.mu, (a, o) :: D.imm, D.ρ⟩ := ⟨fun q hq => .tail _ hq, fun _ _ e => e⟩
  refine ⟨X, F, fun q hq => ?_, R.nd, fun q hq => ?_, R.ex, ?_, fun x k hx v hv => ?_⟩
  · rcases List.mem_append.mp hq with z | z
    · exact N q (.tail _ (List.mem_append_left _ z))
    · rcases List.mem_cons.mp z with z | z
      · rw [z]; exact N _ (.head _)
      · exact N q (.tail _ (List.mem_append_right _ z))
  · rcases List.mem_cons.mp hq with z | z
    · rw [z]; exact ho
    · exact R.im q z
  · obtain ⟨Hf, f, H⟩ := R.H
    exact ⟨Hf, f, H.len, H.inj, fun k o e => let ⟨p, a, b⟩ := H.at_ k o e; ⟨p, a, b.mono X fun q hq _ => hq⟩⟩
  · exact (R.lc x k hx v hv).imp id fun ⟨val, a, b⟩ => ⟨val, a, b.mono X⟩
theorem SR.immNew (R : SR W I names ex l h hp m D) {a : Addr} {o : Obj} (ho : o.cls = .type "tuple" ∨ o.cls = .type "range") {hp' : Heap} (F : Fr I.h₀ I.L hp' m) (N : News I.h₀ I.L hp' ((a, o) :: (D.mu ++ D.imm))) :
    ∃ D', Ext D D' ∧ (a, o) ∈ D'.imm ∧ SR W I names ex l h hp' m D' := let ⟨X, S⟩ := R.immNewE ho F N; ⟨_, X, .head _, S⟩
theorem HR.key {Hf : Hp} (H : HR W D Hf) {k : Nat} {p : Addr × Addr} (e : D.ρ[k]? = some p) : (∃ o, (p.1, o) ∈ D.mu) ∧ ∃ o, (p.2, o) ∈ D.mu := by
  have : k < hlen Hf := by rw [← H.len]; exact (List.getElem?_eq_some_iff.mp e).1
  obtain ⟨o, ho⟩ := hget_lt this
  obtain ⟨p', e', w⟩ := H.at_ k o ho
  rw [e] at e'; cases e'
  cases o with
  | list l => obtain ⟨q, its, n, a, _⟩ := w; exact ⟨⟨_, a⟩, q ▸ ⟨_, a⟩⟩
  | inst c fs => obtain ⟨C, _, a, es, n, b, _⟩ := w; exact ⟨⟨_, a⟩, ⟨_, b⟩⟩
  | hole => exact w.elim
/-- a new object of the heap: its entries in the ledger -/
theorem SR.objNewE (R : SR W I names ex l h hp m D) {o : AO} {own : List (Addr × Obj)} {p : Addr × Addr} {h2 : Hp} (f1 : h.isFrz = false) (f2 : h2.isFrz = false) (hl : hlen h2 = hlen h + 1) (hg : ∀ j o', hget h2 j = some o' → hget h j = some o' ∨ (j = hlen h ∧ o' = o))
    {hp' : Heap} (F : Fr I.h₀ I.L hp' m) (N : News I.h₀ I.L hp' (own ++ (D.mu ++ D.imm))) (hown : (own.map (·.1)).Nodup) (hlt : ∀ q ∈ own, ∀ r ∈ D.mu ++ D.imm, r.1 ≠ q.1) (hp1 : ∃ o, (p.1, o) ∈ own) (hp2 : ∃ o, (p.2, o) ∈ own)
    (ho : OR W ⟨own ++ D.mu, D.imm, D.ρ ++ [p]⟩ p.1 p.2 o) :
    Ext D ⟨own ++ D.mu, D.imm, D.ρ ++ [p]⟩ ∧ (D.ρ ++ [p])[hlen h]? = some p ∧ SR W I names ex l h2 hp' m ⟨own ++ D.mu, D.imm, D.ρ ++ [p]⟩ := by
  obtain ⟨Hf, f, H⟩ := R.H
  obtain rfl : h = Hf := (f.eq f1).symm
  have hlen' : D.ρ.length = hlen h := H.len
  have X : Ext D ⟨own ++ D.mu, D.imm, D.ρ ++ [p]⟩ := ⟨fun q hq => hq, fun k q e => by
    show (D.ρ ++ [p])[k]? = some q
    rw [List.getElem?_append_left (List.getElem?_eq_some_iff.mp e).1]; exact e⟩
  have last : (D.ρ ++ [p])[hlen h]? = some p := by rw [← hlen']; simp
  have old : ∀ {k : Nat} {q : Addr × Addr}, (D.ρ ++ [p])[k]? = some q → (D.ρ[k]? = some q) ∨ (k = hlen h ∧ q = p) := fun {k q} e => by
    by_cases z : k < D.ρ.length
    · rw [List.getElem?_append_left z] at e; exact .inl e
    · rw [List.getElem?_append_right (by omega)] at e
      have zz := (List.getElem?_eq_some_iff.mp e).1
      simp only [List.length_singleton] at zz
      have : k = D.ρ.length := by omega
      subst this
      simp at e
      exact .inr ⟨hlen', e.symm⟩
  refine ⟨X, last, F, fun q hq => N q (by rw [← List.append_assoc]; exact hq), ?_, R.im, fun q hq => ⟨List.mem_append_right _ (R.ex q hq).1, (R.ex q hq).2⟩, ⟨h2, Fill.self f2, ?_, ?_, ?_⟩, fun x k hx v hv => (R.lc x k hx v hv).imp id fun ⟨val, a, b⟩ => ⟨val, a, b.mono X⟩⟩
  · rw [List.map_append]
    refine List.nodup_append.mpr ⟨hown, R.nd, fun a ha b hb e => ?_⟩
    obtain ⟨q, hq, rfl⟩ := List.mem_map.mp ha
    obtain ⟨r, hr, rfl⟩ := List.mem_map.mp hb
    exact absurd e.symm (hlt q hq r (List.mem_append_left _ hr))
  · show (D.ρ ++ [p]).length = hlen h2
    rw [List.length_append, hl, hlen']; rfl
  · intro i j a b ha hb e
    have lt : ∀ {k : Nat} {q : Addr × Addr}, D.ρ[k]? = some q → q.1 ≠ p.1 ∧ q.2 ≠ p.2 := fun {k q} e => by
      obtain ⟨⟨o1, m1⟩, ⟨o2, m2⟩⟩ := H.key e
      obtain ⟨u1, v1⟩ := hp1
      obtain ⟨u2, v2⟩ := hp2
      exact ⟨hlt _ v1 _ (List.mem_append_left _ m1), hlt _ v2 _ (List.mem_append_left _ m2)⟩
    rcases old ha with ha' | ⟨ea, ea'⟩
    · rcases old hb with hb' | ⟨eb, eb'⟩
      · exact H.inj i j a b ha' hb' e
      · subst eb'; exact absurd e (fun z => z.elim (lt ha').1 (lt ha').2)
    · rcases old hb with hb' | ⟨eb, eb'⟩
      · subst ea'; exact absurd e (fun z => z.elim (fun z => (lt hb').1 z.symm) fun z => (lt hb').2 z.symm)
      · exact ea.trans eb.symm
  · intro k o' e
    rcases hg k o' e with e | ⟨rfl, rfl⟩
    · obtain ⟨q, a, b⟩ := H.at_ k o' e
      exact ⟨q, X.ρ k q a, b.mono X fun q hq _ => List.mem_append_right _ hq⟩
    · exact ⟨p, last, ho⟩
theorem SR.objNew (R : SR W I names ex l h hp m D) {o : AO} {own : List (Addr × Obj)} {p : Addr × Addr} {h2 : Hp} (f1 : h.isFrz = false) (f2 : h2.isFrz = false) (hl : hlen h2 = hlen h + 1) (hg : ∀ j o', hget h2 j = some o' → hget h j = some o' ∨ (j = hlen h ∧ o' = o))
    {hp' : Heap} (F : Fr I.h₀ I.L hp' m) (N : News I.h₀ I.L hp' (own ++ (D.mu ++ D.imm))) (hown : (own.map (·.1)).Nodup) (hlt : ∀ q ∈ own, ∀ r ∈ D.mu ++ D.imm, r.1 < q.1) (hp1 : ∃ o, (p.1, o) ∈ own) (hp2 : ∃ o, (p.2, o) ∈ own)
    (ho : OR W ⟨own ++ D.mu, D.imm, D.ρ ++ [p]⟩ p.1 p.2 o) :
    ∃ D', Ext D D' ∧ D'.ρ[hlen h]? = some p ∧ D'.mu = own ++ D.mu ∧ SR W I names ex l h2 hp' m D' :=
  let ⟨X, last, S⟩ := R.objNewE f1 f2 hl hg F N hown (fun q hq r hr => Nat.ne_of_lt (hlt q hq r hr)) hp1 hp2 ho
  ⟨_, X, last, rfl, S⟩
theorem SR.same (R : SR W I names ex l h hp m D) {q : Addr × Obj} {r : Addr × Obj} (hq : q ∈ D.mu) (hr : r ∈ D.mu) (e : q.1 = r.1) : q.2 = r.2 := by
  have a := R.mem hq
  have b := R.mem hr
  rw [e] at a
  exact Option.some.inj (a.symm.trans b)
/-- a list of the heap turned -/
theorem SR.listTurn (R : SR W I names ex l h hp m D) {k : Nat} {vs vs' : List V} {h2 : Hp} (eg : hget h k = some (.list vs)) (es : hset h k (.list vs') = some h2) {a : Addr} {its : Array Value} {n : Nat} (hk : D.ρ[k]? = some (a, a)) (hm : (a, listOf its n) ∈ D.mu)
    {its' : Array Value} {n' : Nat} (hv : VRs W.toCw D vs' its'.toList) :
    ∃ mu', Upd a (listOf its n) (listOf its' n') (D.mu ++ D.imm) (mu' ++ D.imm) ∧ ∀ hp', Fr I.h₀ I.L hp' m → News I.h₀ I.L hp' (mu' ++ D.imm) → SR W I names ex l h2 hp' m ⟨mu', D.imm, D.ρ⟩ := by
  obtain ⟨pre, post, e, U, nd, keep⟩ := R.upd hm ⟨ne_list, ne_listR⟩ (listOf its' n')
  refine ⟨_, U, fun hp' F N => ?_⟩
  obtain ⟨Hf, f, H⟩ := R.H
  obtain ⟨f1, f2, hl, hg⟩ := hset_ok es
  obtain rfl : h = Hf := (f.eq f1).symm
  have X : Ext D ⟨pre ++ (a, listOf its' n') :: post, D.imm, D.ρ⟩ := ⟨fun q hq => hq, fun k q e => e⟩
  have off : ∀ q ∈ D.mu, q.2.cls ≠ .type "list" → q ∈ pre ++ (a, listOf its' n') :: post := fun q hq c => keep q hq fun z => by
    have := R.same hq hm z
    rw [this] at c; exact c rfl
  refine ⟨F, N, nd, R.im, fun q hq => ⟨off q (R.ex q hq).1 fun c => ?_, (R.ex q hq).2⟩, ⟨h2, Fill.self f2, by rw [hl]; exact H.len, H.inj, fun j o ej => ?_⟩, fun x k hx v hv => (R.lc x k hx v hv).imp id fun ⟨val, a, b⟩ => ⟨val, a, b.mono X⟩⟩
  · rcases (R.ex q hq).2 with z | z | z <;> rw [c] at z <;> exact absurd (Value.type.inj z) (by decide)
  · rcases hg j o ej with ⟨rfl, rfl⟩ | ⟨ne, ej⟩
    · exact ⟨(a, a), hk, rfl, its', n', List.mem_append_right _ (.head _), hv.mono X⟩
    · obtain ⟨p, hp, w⟩ := H.at_ j o ej
      refine ⟨p, hp, ?_⟩
      cases o with
      | list us =>
        obtain ⟨e0, jts, nn, hm', r⟩ := w
        refine ⟨e0, jts, nn, keep _ hm' fun z => ne (H.inj j k p (a, a) hp hk (.inl z)), r.mono X⟩
      | inst c fs =>
        obtain ⟨C, h1, h2, es, nn, h3, h4, h5⟩ := w
        exact ⟨C, h1, off _ h2 (by intro q; cases q), es, nn, off _ h3 (fun q => absurd (Value.type.inj q) (by decide)), h4.mono X, h5⟩
      | hole => exact w
/-- an object's dict turned -/
theorem SR.dictTurn (R : SR W I names ex l h hp m D) {k c : Nat} {fs fs' : Fs} {h2 : Hp} (eg : hget h k = some (.inst c fs)) (es : hset h k (.inst c fs') = some h2) {a d C : Addr} {ds : List DictEntry} {n : Nat} (hk : D.ρ[k]? = some (a, d)) (hC : W.cls[c]? = some C)
    (hi : (a, instObj C d) ∈ D.mu) (hm : (d, dictOf ds n) ∈ D.mu) {ds' : List DictEntry} {n' : Nat} (hv : FsR W D fs' ds') (h100 : ds'.length ≤ 100) :
    ∃ mu', Upd d (dictOf ds n) (dictOf ds' n') (D.mu ++ D.imm) (mu' ++ D.imm) ∧ ∀ hp', Fr I.h₀ I.L hp' m → News I.h₀ I.L hp' (mu' ++ D.imm) → SR W I names ex l h2 hp' m ⟨mu', D.imm, D.ρ⟩ := by
  obtain ⟨pre, post, e, U, nd, keep⟩ := R.upd hm ⟨ne_dict, ne_dictR⟩ (dictOf ds' n')
  refine ⟨_, U, fun hp' F N => ?_⟩
  obtain ⟨Hf, f, H⟩ := R.H
  obtain ⟨f1, f2, hl, hg⟩ := hset_ok es
  obtain rfl : h = Hf := (f.eq f1).symm
  have X : Ext D ⟨pre ++ (d, dictOf ds' n') :: post, D.imm, D.ρ⟩ := ⟨fun q hq => hq, fun k q e => e⟩
  have off : ∀ q ∈ D.mu, q.2.cls ≠ .type "dict" → q ∈ pre ++ (d, dictOf ds' n') :: post := fun q hq c => keep q hq fun z => by
    have := R.same hq hm z
    rw [this] at c; exact c rfl
  refine ⟨F, N, nd, R.im, fun q hq => ⟨off q (R.ex q hq).1 fun c => ?_, (R.ex q hq).2⟩, ⟨h2, Fill.self f2, by rw [hl]; exact H.len, H.inj, fun j o ej => ?_⟩, fun x k hx v hv => (R.lc x k hx v hv).imp id fun ⟨val, a, b⟩ => ⟨val, a, b.mono X⟩⟩
  · rcases (R.ex q hq).2 with z | z | z <;> rw [c] at z <;> exact absurd (Value.type.inj z) (by decide)
  · rcases hg j o ej with ⟨rfl, rfl⟩ | ⟨ne, ej⟩
    · exact ⟨(a, d), hk, C, hC, off _ hi (by intro q; cases q), ds', n', List.mem_append_right _ (.head _), hv.mono X, h100⟩
    · obtain ⟨p, hp, w⟩ := H.at_ j o ej
      refine ⟨p, hp, ?_⟩
      cases o with
      | list us =>
        obtain ⟨e0, jts, nn, hm', r⟩ := w
        exact ⟨e0, jts, nn, off _ hm' (fun q => absurd (Value.type.inj q) (by decide)), r.mono X⟩
      | inst c fs =>
        obtain ⟨C', h1, h2, es, nn, h3, h4, h5⟩ := w
        exact ⟨C', h1, off _ h2 (by intro q; cases q), es, nn, keep _ h3 (fun z => ne (H.inj j k p (a, d) hp hk (.inr z))), h4.mono X, h5⟩
      | hole => exact w
end Mine
end
section
open PySem PySem.Calls PyProof.Rows PySem.W
set_option Elab.async false
set_option maxRecDepth 100000
set_option linter.unusedVariables false
set_option autoImplicit false
namespace Mine
structure AttrOk (K : Frag) (C : Addr) (nm : Str) : Prop where
  get : plainGet K C nm = true
  dict : hasDictIn K C = true
  find : ∃ attr, findIn K (.ref C) nm = some attr ∧ noGet K attr = true
  set : findIn K (.ref C) "__setattr__" = some (some (.builtin "object.__setattr__"))
  over : plainOver K C = true
  takes : takerIn K C nm = some none
/-- what stands in the heap for a function of the table -/
structure FnAt (W : Cs) (P : Prog) (f : Nat) (fa : Addr) (ps : List Str) (fn : Fn) (name qual : Str) (params : Arguments) (body : List Stmt) (scope : Scope) (dV kV doc pm cdv ct oc : Value) (an od : Option Addr) (osl : Array (Option Value)) (c : CC) : Prop where
  hfn : lget P.fns f = some fn
  adr : lget W.fad f = some fa
  ho : W.K.lookup fa = some ⟨oc, od, .func (fnOf name qual params body scope dV kV doc pm an cdv ct), osl⟩
  code : codeIn W.K cdv qual = true
  bind : ∀ (s : Shared) (vals : List Value), vals.length = fn.np → BindsTo s (fnOf name qual params body scope dV kV doc pm an cdv ct) ⟨vals, []⟩ (ps.zip vals)
  hnp : ps.length = fn.np
  hnl : fn.np ≤ fn.nl
  pre : ∀ (k : Nat), k < fn.np → c.names[k]? = ps[k]?
  nd : ps.Nodup
  loc : ∀ x ∈ ps, scope.names.lookup x = some .local
  hbody : fn.body = cB c body
  hsc : scope.names = c.sc
  attrs : c.attrs = W.an
  gl : c.gl = W.gl
  fns : c.fns = W.fns
  cls : c.cls = W.ccls
  co : scope.isCoroutine = false
  ge : scope.isGenerator = false
  ki : scope.kind = .function
  cell : ∀ x ∈ scope.names, x.2 ≠ .cell
  dbg : c.sc.lookup ("__debug__" : Str) = none
noncomputable def FnIs (W : Cs) (P : Prog) (f : Nat) (fa : Addr) : Prop := ∃ ps fn name qual params body scope dV kV doc pm cdv ct oc an od osl c, FnAt W P f fa ps fn name qual params body scope dV kV doc pm cdv ct oc an od osl c
structure GlOk (W : Cs) (P : Prog) : Prop where
  gl : ∀ x v, W.gl.lookup x = some v → ∃ val, nsIn W.K mainGlobals x = some (some val) ∧ VR W.toCw ⟨[], [], []⟩ v val
  fns : ∀ x f, W.fns.lookup x = some f → ∃ fa, nsIn W.K mainGlobals x = some (some (.ref fa)) ∧ keepIn W.K (.ref fa) = true ∧ FnIs W P f fa
  cls : ∀ x k, W.ccls.lookup x = some k → ∃ C f fI, nsIn W.K mainGlobals x = some (some (.ref C)) ∧ keepIn W.K (.ref C) = true ∧ W.cls[k]? = some C ∧ lget P.cls k = some f ∧ FnIs W P f fI ∧ makesIn W.K C = true ∧
    findIn W.K (.ref C) "__init__" = some (some (.ref fI)) ∧ isFn W.K (.ref fI) = true
  attr : ∀ C ∈ W.cls, ∀ nm ∈ W.an, AttrOk W.K C nm
  an : W.an.Nodup
  range : nsIn W.K mainGlobals "range" = some none
  len : nsIn W.K mainGlobals "len" = some none
  list : nsIn W.K mainGlobals "list" = some none
  int : nsIn W.K mainGlobals "int" = some none
  dbg : W.gl.lookup ("__debug__" : Str) = none ∧ W.fns.lookup ("__debug__" : Str) = none ∧ W.ccls.lookup ("__debug__" : Str) = none

/-- a call of the table's function: what the small machine says of it is so -/
noncomputable def CallSnd (W : Cs) (P : Prog) (n f : Nat) (fa : Addr) : Prop := ∀ (I : Fi), I.Ok W n → ∀ vs h v h', callF f P (ev P n) vs h = .ok v h' →
  ∀ names ex l m D (s : Shared) vals, SR W I names ex l h s.heap m D → VRs W.toCw D vs vals → ∀ A : Around, A.handled = none → A.frames = some (I.env :: I.outer) → A.depth ≤ I.dp + 1 → A.units ≤ I.un + 8 → ∀ R : Result → Shared → Prop,
    (∀ val hp tk D', Ext D D' → SR W I names ex l h' hp m D' → VR W.toCw D' v val → R (.ok (.ret val)) { s with heap := hp, toks := tk }) → codeAny (model W.prog W.w) A (.call (.ref fa) ⟨vals, []⟩) R s
structure Lv (W : Cs) (P : Prog) (n : Nat) : Prop where
  G : GlOk W P
  call : ∀ f fa, FnIs W P f fa → CallSnd W P n f fa
noncomputable def SndE (W : Cs) (P : Prog) (n : Nat) (c : CC) (e : Expr) : Prop := ∀ (I : Fi), I.Ok W n → LcOk W c I → ∀ l h v h', evE (cE c e) P (ev P n) l h = .ok v h' → ∀ ex m D (s : Shared), SR W I c.names ex l h s.heap m D → ∀ (Q : Value → Shared → Prop) (E : Value → Shared → Prop),
  (∀ val hp tk D', Ext D D' → SR W I c.names ex l h' hp m D' → VR W.toCw D' v val → Q val { s with heap := hp, toks := tk }) → wpAny (model W.prog W.w) I.A (eval e I.env) Q E s
noncomputable def SndT (W : Cs) (P : Prog) (n : Nat) (c : CC) (e : Expr) : Prop := ∀ (I : Fi), I.Ok W n → LcOk W c I → ∀ l h v h' b, evE (cE c e) P (ev P n) l h = .ok v h' → truthV v = some b → ∀ ex m D (s : Shared), SR W I c.names ex l h s.heap m D → ∀ (Q : Bool → Shared → Prop) (E : Value → Shared → Prop),
  (∀ hp tk D', Ext D D' → SR W I c.names ex l h' hp m D' → Q b { s with heap := hp, toks := tk }) → wpAny (model W.prog W.w) I.A (isTrue e I.env (eval e I.env)) Q E s
noncomputable def SndEs (W : Cs) (P : Prog) (n : Nat) (c : CC) (es : List Expr) : Prop := ∀ (I : Fi), I.Ok W n → LcOk W c I → ∀ l h v h', evE (cEs c es) P (ev P n) l h = .ok v h' → ∃ vs, v = .tup vs ∧ (∀ pos, (backTo pos (starEach es I.env)).any (·.1) = false) ∧
  ∀ pos ex m D (s : Shared), SR W I c.names ex l h s.heap m D → ∀ (Q : List Value → Shared → Prop) (E : Value → Shared → Prop),
  (∀ vals hp tk D', Ext D D' → SR W I c.names ex l h' hp m D' → VRs W.toCw D' vs vals → Q vals { s with heap := hp, toks := tk }) → wpAny (model W.prog W.w) I.A (spliced (backTo pos (starEach es I.env))) Q E s

variable {W : Cs} {P : Prog} {n : Nat} {c : CC}
theorem bnd_ok {α β : Type} {r : R α} {k : α → Hp → R β} {v : β} {h' : Hp} (e : bnd r k = .ok v h') : ∃ a h, r = .ok a h ∧ k a h = .ok v h' := by
  cases r with
  | fail => cases e
  | ok a h => exact ⟨a, h, rfl, e⟩
theorem oB_ok {α β : Type} {o : Option α} {k : α → R β} {v : β} {h' : Hp} (e : oB o k = .ok v h') : ∃ a, o = some a ∧ k a = .ok v h' := by
  cases o with
  | none => cases e
  | some a => exact ⟨a, rfl, e⟩
theorem onT_ok {β : Type} {v : V} {k : List V → R β} {r : β} {h' : Hp} (e : onT v (.fail : R β) k = .ok r h') : ∃ l, v = .tup l ∧ k l = .ok r h' := by
  unfold onT at e
  split at e
  · exact ⟨_, rfl, e⟩
  · cases e
theorem ifB_ok {α : Type} {b : Bool} {x : R α} {v : α} {h' : Hp} (e : ifB b x .fail = .ok v h') : b = true ∧ x = .ok v h' := by
  cases b with
  | true => exact ⟨rfl, e⟩
  | false => cases e
theorem bool2_ok {b : Bool} {h : Hp} {v : V} {h' : Hp} (e : bool2 b h = .ok v h') : v = .bool b ∧ h' = h := by
  cases b <;> (cases e; exact ⟨rfl, rfl⟩)

theorem ext_nil {D : Ld} : Ext ⟨[], [], []⟩ D := ⟨fun q hq => (by cases hq), fun k q hq => (by simp at hq)⟩
/-! the words -/
theorem snd_int (i : Int) (k : Nat) (pos : Pos) : SndE W P n c (.Constant (.int i) k pos) := by
  intro I ok lc l h v h' e ex m D s R Q E hQ
  have e' : (Mine.R.ok (intV i) h) = .ok v h' := e
  cases e'
  exact wpAny_Constant_int (hQ _ _ _ D (Ext.refl D) R (.int _ (vi_intV i)))
theorem snd_none (k : Nat) (pos : Pos) : SndE W P n c (.Constant .none k pos) := by
  intro I ok lc l h v h' e ex m D s R Q E hQ
  have e' : (Mine.R.ok V.no h) = .ok v h' := e
  cases e'
  exact wpAny_pure (hQ _ _ s.toks D (Ext.refl D) R .no)
theorem snd_bool (b : Bool) (k : Nat) (pos : Pos) : SndE W P n c (.Constant (.bool b) k pos) := by
  intro I ok lc l h v h' e ex m D s R Q E hQ
  have e' : (Mine.R.ok (V.bool b) h) = .ok v h' := e
  cases e'
  exact wpAny_pure (hQ _ _ s.toks D (Ext.refl D) R (.bool b))
theorem snd_str (x : Str) (k : Nat) (pos : Pos) : SndE W P n c (.Constant (.str x) k pos) := by
  intro I ok lc l h v h' e ex m D s R Q E hQ
  rw [cE_str] at e
  split at e
  · rename_i hx
    have e' : (Mine.R.ok (V.str x) h) = .ok v h' := e
    cases e'
    exact wpAny_mkText (hQ _ _ _ D (Ext.refl D) R (.str x _ hx))
  · cases e
theorem debug_ne {x : Str} {sc : List (Str × NameKind)} {k : NameKind} (h : sc.lookup x = some k) (hd : sc.lookup ("__debug__" : Str) = none) : (x == ("__debug__" : Str)) = false := by
  cases q : x == ("__debug__" : Str) with
  | false => rfl
  | true => rw [(str_beq _ _).mp q, hd] at h; cases h
theorem snd_Name (L : Lv W P n) (hd : c.sc.lookup ("__debug__" : Str) = none) (x : Str) (pos : Pos) : SndE W P n c (.Name x pos) := by
  intro I ok lc l h v h' e ex m D s R Q E hQ
  have hk : ∀ k, c.sc.lookup x = some k → I.env.kindOf x = some k := fun k z => by show I.cs.names.lookup x = _; rw [lc.sc]; exact z
  rw [cE_Name] at e
  split at e
  · rename_i q
    split at e
    · rename_i k hx
      obtain ⟨u, hu, e⟩ := oB_ok (show oB (lget l k) _ = .ok v h' from e)
      rcases R.lc x k hx u hu with rfl | ⟨val, hm, hv⟩
      · cases e
      · have e' : u = v ∧ h = h' := by
          split at e
          · cases e
          · cases e; exact ⟨rfl, rfl⟩
        obtain ⟨rfl, rfl⟩ := e'
        exact ld R.F hm (hQ val _ s.toks D (Ext.refl D) R hv) ok.ck (hk _ q) (debug_ne q hd)
    · cases e
  · rename_i q
    split at e
    · rename_i u hu
      have e' : (Mine.R.ok u h) = .ok v h' := e
      cases e'
      obtain ⟨val, h1, h2⟩ := L.G.gl x v (lc.gl ▸ hu)
      exact name_K R.F ok.X (topRead_of ok.T) h1 (hQ val _ s.toks D (Ext.refl D) R (h2.mono ext_nil)) ok.ck (hk _ q) (debug_ne q hd)
    · cases e
  · cases e

theorem bin_int {op : Op} {o : Operator} (ho : opOf o = some op) {x y z : Int} (k : OpOk op x y z) {A : Around} {t u : Tok} {s : Shared} {Q E : _} (h : Q (.int z s.toks) { s with toks := s.toks + 1 }) :
    wpAny (model W.prog W.w) A (binaryOp o (.int x t) (.int y u)) Q E s := by
  cases k with
  | add => cases o <;> cases ho; exact PyProof.Rows.add_int h
  | sub => cases o <;> cases ho; exact PyProof.Rows.sub_int h
  | mul _ _ h1 => cases o <;> cases ho; exact PyProof.Rows.mul_int h (IntMulOk.of_left (bitsmall h1))
  | and => cases o <;> cases ho; exact and_int h
  | or => cases o <;> cases ho; exact or_int h
  | xor => cases o <;> cases ho; exact xor_int h
  | shl _ _ h1 h2 h3 => cases o <;> cases ho; exact lshift_int_small h1 (by omega) (by omega) h
  | shr _ _ h1 => cases o <;> cases ho; exact rshift_int h1 h
  | fdiv _ _ h1 h2 => cases o <;> cases ho; exact floordiv_int h1 h (.inl (PyProof.noPylong_small h2))
  | mod _ _ h1 => cases o <;> cases ho; exact mod_int' h1 h
theorem aug_int {op : Op} {o : Operator} (ho : opOf o = some op) {x y z : Int} (k : OpOk op x y z) {A : Around} {t u : Tok} {s : Shared} {Q E : _} (h : Q (.int z s.toks) { s with toks := s.toks + 1 }) :
    wpAny (model W.prog W.w) A (inplaceOp o (.int x t) (.int y u)) Q E s := by
  cases k with
  | add => cases o <;> cases ho; exact PyProof.Rows.iadd_int h
  | sub => cases o <;> cases ho; exact PyProof.Rows.isub_int h
  | mul _ _ h1 => cases o <;> cases ho; exact PyProof.Rows.imul_int h (IntMulOk.of_left (bitsmall h1))
  | and => cases o <;> cases ho; exact iand_int h
  | or => cases o <;> cases ho; exact ior_int h
  | xor => cases o <;> cases ho; exact ixor_int h
  | shl _ _ h1 h2 h3 => cases o <;> cases ho; exact ilshift_int h1 (by have := bitsmall h3; omega) h
  | shr _ _ h1 => cases o <;> cases ho; exact irshift_int h1 h
  | fdiv _ _ h1 h2 => cases o <;> cases ho; exact ifloordiv_int h1 h (.inl (PyProof.noPylong_small h2))
  | mod _ _ h1 => cases o <;> cases ho; exact imod_int h1 h
theorem truthy_ok {v : V} {x : Value} {b : Bool} {D : Ld} (hv : VR W.toCw D v x) (e : truthV v = some b) {A : Around} {s : Shared} {Q : Bool → Shared → Prop} {E : _} (h : Q b s) : wpAny (model W.prog W.w) A (truthy x) Q E s := by
  cases hv with
  | no => cases e; exact truthy_none h
  | bool b' => cases e; exact wpAny_truthy_bool h
  | int t hi =>
    refine PyProof.Rows.truthy_int ?_
    cases v with
    | n k =>
      cases hi; cases e
      have : ((Int.ofNat k != 0) = (Nat.beq k 0).not) := by cases k <;> rfl
      rw [this]; exact h
    | m k => cases hi; cases e; exact h
    | _ => cases hi
  | _ => cases e
theorem mkObj_ok {o : AO} {h h' : Hp} {v : V} (e : mkObj o h = .ok v h') : h.isFrz = false ∧ v = .obj (hlen h) ∧ h'.isFrz = false ∧ hlen h' = hlen h + 1 ∧ ∀ j o', hget h' j = some o' → hget h j = some o' ∨ (j = hlen h ∧ o' = o) := by
  obtain ⟨a, h2, e, b, c, d⟩ := hnew_ok e
  cases e
  exact ⟨a, rfl, b, c, d⟩
/-- a new list, its entry in the ledger -/
theorem SR.newList {I : Fi} {names ex l h hp m D} (S : SR W I names ex l h hp m D) {vs : List V} {v : V} {h' : Hp} (e : mkObj (.list vs) h = .ok v h') {a : Addr} {xs : List Value} {k : Nat} {hp' : Heap} (F : Fr I.h₀ I.L hp' m) (N : News I.h₀ I.L hp' ((a, listOf xs.toArray k) :: (D.mu ++ D.imm)))
    (lt : ∀ q ∈ D.mu ++ D.imm, q.1 < a) (r : VRs W.toCw D vs xs) : ∃ D', Ext D D' ∧ SR W I names ex l h' hp' m D' ∧ VR W.toCw D' v (.ref a) := by
  obtain ⟨f1, rfl, f2, hl, hg⟩ := mkObj_ok e
  have X : Ext D ⟨[(a, listOf xs.toArray k)] ++ D.mu, D.imm, D.ρ ++ [(a, a)]⟩ := ⟨fun q hq => hq, fun k q e => by
    show (D.ρ ++ [_])[k]? = some q
    rw [List.getElem?_append_left (List.getElem?_eq_some_iff.mp e).1]; exact e⟩
  obtain ⟨D', X', h1, _, S'⟩ := S.objNew (own := [(a, listOf xs.toArray k)]) (p := (a, a)) f1 f2 hl hg F N (by simp) (fun q hq r hr => by rw [List.mem_singleton.mp hq]; exact lt r hr) ⟨_, .head _⟩ ⟨_, .head _⟩ ⟨rfl, xs.toArray, k, .head _, by simpa using r.mono X⟩
  exact ⟨D', X', S', .obj h1⟩
theorem mulL_ok {h h' : Hp} {a b v : V} (e : mulL h a b = .ok v h') : ∃ k i w, a = .obj k ∧ b = .n i ∧ listAt h k = some [w] ∧ i < 64 ∧ mkObj (.list (repL i w)) h = .ok v h' := by
  unfold mulL at e
  split at e
  · obtain ⟨vs, hl, e⟩ := oB_ok e
    cases vs with
    | nil => cases e
    | cons w r =>
      cases r with
      | cons _ _ => cases e
      | nil =>
        obtain ⟨hi, e⟩ := ifB_ok e
        rw [lnorm_eq] at e
        exact ⟨_, _, _, rfl, rfl, hl, blt_lt hi, e⟩
  · cases e
theorem snd_Bin {a b : Expr} {o : Operator} {pos : Pos} (ha : SndE W P n c a) (hb : SndE W P n c b) : SndE W P n c (.BinOp a o b pos) := by
  intro I ok lc l h v h' e ex m D s S Q E hQ
  rw [cE_Bin] at e
  split at e
  · rename_i op hop
    obtain ⟨va, h1, e1, e⟩ := bnd_ok (show bnd (evE (cE c a) P (ev P n) l h) _ = .ok v h' from e)
    obtain ⟨vb, h2, e2, e⟩ := bnd_ok e
    refine wpAny_BinOp (ha I ok lc _ _ _ _ e1 ex m D s S _ _ fun xa p1 t1 D1 X1 S1 V1 => hb I ok lc _ _ _ _ e2 ex m D1 _ S1 _ _ fun xb p2 t2 D2 X2 S2 V2 => ?_)
    have V1' := V1.mono X2
    by_cases q : ∃ k, va = .obj k
    · obtain ⟨k, rfl⟩ := q
      cases op with
      | mul =>
        obtain ⟨k', i, w, hk, rfl, hl, hi, e⟩ := mulL_ok (show mulL h2 (.obj k) vb = .ok v h' from e)
        cases hk
        obtain ⟨adr, its, nn, rfl, hm, hvs⟩ := S2.list hl V1'
        obtain ⟨t, rfl⟩ := V2.toInt (i := Int.ofNat i) rfl
        cases o <;> cases hop
        obtain ⟨its⟩ := its
        cases hvs with
        | cons hw hr =>
          cases hr
          rename_i x0
          refine KMa.mul (vs := [x0]) (ws := List.replicate i x0) S2.F S2.N ⟨_, S2.mem hm, rfl, nn, rfl⟩ (by simp only [Int.ofNat_eq_natCast]; omega) (by simp only [Int.ofNat_eq_natCast]; omega) (by simp only [Int.toNat_natCast, Int.ofNat_eq_natCast, List.length_singleton]; omega) (by simp) fun adr' p3 F3 N3 lt3 => ?_
          obtain ⟨D3, X3, S3, V3⟩ := S2.newList e F3 N3 lt3 (VRs.rep hw i)
          exact hQ _ _ _ D3 ((X1.trans X2).trans X3) S3 V3
      | _ => cases e
    · have e : oB (opV op va vb) (fun v => Mine.R.ok v h2) = .ok v h' := by
        cases va <;> first | exact e | exact absurd ⟨_, rfl⟩ q
      obtain ⟨r, hr, e⟩ := oB_ok e
      cases e
      obtain ⟨x, y, z, hx, hy, hz, k⟩ := opV_ok hr
      obtain ⟨t, rfl⟩ := V1'.toInt hx
      obtain ⟨u, rfl⟩ := V2.toInt hy
      exact bin_int hop k (hQ _ _ _ D2 (X1.trans X2) S2 (.int _ hz))
  · cases e
end Mine
end
section
open PySem PySem.Calls PyProof.Rows PySem.W
set_option Elab.async false
set_option maxRecDepth 100000
set_option linter.unusedVariables false
set_option autoImplicit false
namespace Mine
variable {W : Cs} {P : Prog} {n : Nat} {c : CC}
theorem snd_Neg {a : Expr} {pos : Pos} (ha : SndE W P n c a) : SndE W P n c (.UnaryOp .USub a pos) := by
  intro I ok lc l h v h' e ex m D s S Q E hQ
  rw [cE_Neg] at e
  obtain ⟨va, h1, e1, e⟩ := bnd_ok (show bnd (evE (cE c a) P (ev P n) l h) _ = .ok v h' from e)
  obtain ⟨r, hr, e⟩ := oB_ok e
  cases e
  obtain ⟨x, z, hx, hz, rfl⟩ := negV_ok hr
  refine wpAny_UnaryOp (ha I ok lc _ _ _ _ e1 ex m D s S _ _ fun xa p1 t1 D1 X1 S1 V1 => ?_)
  obtain ⟨t, rfl⟩ := V1.toInt hx
  exact PyProof.Rows.neg_int (hQ _ _ _ D1 X1 S1 (.int _ hz))
theorem invV_ok {a v : V} (h : invV a = some v) : ∃ x, vi a = some x ∧ vi v = some (Builtin.bitNot x) := by
  unfold invV at h
  split at h
  · cases h; refine ⟨_, rfl, ?_⟩; unfold Builtin.bitNot vi; simp only [Int.ofNat_eq_natCast, Option.some.injEq]; omega
  · cases h; refine ⟨_, rfl, ?_⟩; unfold Builtin.bitNot vi; simp only [Int.ofNat_eq_natCast, Option.some.injEq]; omega
  · cases h
theorem snd_Inv {a : Expr} {pos : Pos} (ha : SndE W P n c a) : SndE W P n c (.UnaryOp .Invert a pos) := by
  intro I ok lc l h v h' e ex m D s S Q E hQ
  rw [cE_Inv] at e
  obtain ⟨va, h1, e1, e⟩ := bnd_ok (show bnd (evE (cE c a) P (ev P n) l h) _ = .ok v h' from e)
  obtain ⟨r, hr, e⟩ := oB_ok e
  cases e
  obtain ⟨x, hx, hz⟩ := invV_ok hr
  refine wpAny_UnaryOp (ha I ok lc _ _ _ _ e1 ex m D s S _ _ fun xa p1 t1 D1 X1 S1 V1 => ?_)
  obtain ⟨t, rfl⟩ := V1.toInt hx
  exact invert_int (hQ _ _ _ D1 X1 S1 (.int _ hz))
theorem snd_Not {a : Expr} {pos : Pos} (ha : SndE W P n c a) : SndE W P n c (.UnaryOp .Not a pos) := by
  intro I ok lc l h v h' e ex m D s S Q E hQ
  rw [cE_Not] at e
  obtain ⟨va, h1, e1, e⟩ := bnd_ok (show bnd (evE (cE c a) P (ev P n) l h) _ = .ok v h' from e)
  obtain ⟨b, hb, e⟩ := oB_ok e
  obtain ⟨rfl, rfl⟩ := bool2_ok e
  refine wpAny_UnaryOp (ha I ok lc _ _ _ _ e1 ex m D s S _ _ fun xa p1 t1 D1 X1 S1 V1 => ?_)
  exact PyProof.Rows.not_of (truthy_ok V1 hb (hQ _ _ _ D1 X1 S1 (.bool _)))
/-- a test by the value's truth -/
theorem snd_T {e : Expr} (h : SndE W P n c e) (he : ∀ env whole, PySem.isTrue e env whole = (do let v ← whole; standAt e.pos; holding [v] (truthy v))) : SndT W P n c e := by
  intro I ok lc l hh v h' b ev tv ex m D s S Q E hQ
  refine isTrue_plain (h I ok lc _ _ _ _ ev ex m D s S _ _ fun xa p1 t1 D1 X1 S1 V1 => ?_) (he _ _)
  exact truthy_ok V1 tv (hQ _ _ D1 X1 S1)
theorem snd_NotT {a : Expr} {pos : Pos} (ha : SndT W P n c a) : SndT W P n c (.UnaryOp .Not a pos) := by
  intro I ok lc l h v h' b e tv ex m D s S Q E hQ
  rw [cE_Not] at e
  obtain ⟨va, h1, e1, e⟩ := bnd_ok (show bnd (evE (cE c a) P (ev P n) l h) _ = .ok v h' from e)
  obtain ⟨b', hb, e⟩ := oB_ok e
  obtain ⟨rfl, rfl⟩ := bool2_ok e
  cases tv
  exact wpAny_isTrue_Not (ha I ok lc _ _ _ _ _ e1 hb ex m D s S _ _ fun p1 t1 D1 X1 S1 => hQ _ _ D1 X1 S1)
theorem snd_Ife {t a b : Expr} {pos : Pos} (ht : SndT W P n c t) (ha : SndE W P n c a) (hb : SndE W P n c b) : SndE W P n c (.IfExp t a b pos) := by
  intro I ok lc l h v h' e ex m D s S Q E hQ
  rw [cE_Ife] at e
  obtain ⟨vt, h1, e1, e⟩ := bnd_ok (show bnd (evE (cE c t) P (ev P n) l h) _ = .ok v h' from e)
  obtain ⟨b', hb', e⟩ := oB_ok e
  refine wpAny_IfExp (ht I ok lc _ _ _ _ _ e1 hb' ex m D s S _ _ fun p1 t1 D1 X1 S1 => ?_)
  cases b' with
  | true =>
    rw [if_pos rfl]
    exact ha I ok lc _ _ _ _ e ex m D1 _ S1 _ _ fun xa p2 t2 D2 X2 S2 V2 => hQ _ _ _ D2 (X1.trans X2) S2 V2
  | false =>
    rw [if_neg (by decide)]
    exact hb I ok lc _ _ _ _ e ex m D1 _ S1 _ _ fun xa p2 t2 D2 X2 S2 V2 => hQ _ _ _ D2 (X1.trans X2) S2 V2
theorem snd_IfeT {t a b : Expr} {pos : Pos} (ht : SndT W P n c t) (ha : SndT W P n c a) (hb : SndT W P n c b) : SndT W P n c (.IfExp t a b pos) := by
  intro I ok lc l h v h' bb e tv ex m D s S Q E hQ
  rw [cE_Ife] at e
  obtain ⟨vt, h1, e1, e⟩ := bnd_ok (show bnd (evE (cE c t) P (ev P n) l h) _ = .ok v h' from e)
  obtain ⟨b', hb', e⟩ := oB_ok e
  have q : PySem.isTrue (.IfExp t a b pos) I.env (eval (.IfExp t a b pos) I.env) = (do if ← PySem.isTrue t I.env (eval t I.env) then PySem.isTrue a I.env (eval a I.env) else PySem.isTrue b I.env (eval b I.env)) := by rw [PySem.isTrue]
  rw [q]
  refine wpAny_bind (ht I ok lc _ _ _ _ _ e1 hb' ex m D s S _ _ fun p1 t1 D1 X1 S1 => ?_)
  cases b' with
  | true => exact ha I ok lc _ _ _ _ _ e tv ex m D1 _ S1 _ _ fun p2 t2 D2 X2 S2 => hQ _ _ D2 (X1.trans X2) S2
  | false => exact hb I ok lc _ _ _ _ _ e tv ex m D1 _ S1 _ _ fun p2 t2 D2 X2 S2 => hQ _ _ D2 (X1.trans X2) S2
/-- a chain of and | or: the value -/
noncomputable def SndB (W : Cs) (P : Prog) (n : Nat) (c : CC) (op : BoolOp) (es : List Expr) : Prop := ∀ (I : Fi), I.Ok W n → LcOk W c I → ∀ l h v h', evE (match op with | .And => cAnd c es | .Or => cOr c es) P (ev P n) l h = .ok v h' → ∀ pos ex m D (s : Shared), SR W I c.names ex l h s.heap m D → ∀ (Q : Value → Shared → Prop) (E : Value → Shared → Prop),
  (∀ val hp tk D', Ext D D' → SR W I c.names ex l h' hp m D' → VR W.toCw D' v val → Q val { s with heap := hp, toks := tk }) → wpAny (model W.prog W.w) I.A (boolOp pos op (evalEach es I.env)) Q E s
noncomputable def SndBT (W : Cs) (P : Prog) (n : Nat) (c : CC) (op : BoolOp) (es : List Expr) : Prop := ∀ (I : Fi), I.Ok W n → LcOk W c I → ∀ l h v h' b, evE (match op with | .And => cAnd c es | .Or => cOr c es) P (ev P n) l h = .ok v h' → truthV v = some b → ∀ ex m D (s : Shared), SR W I c.names ex l h s.heap m D → ∀ (Q : Bool → Shared → Prop) (E : Value → Shared → Prop),
  (∀ hp tk D', Ext D D' → SR W I c.names ex l h' hp m D' → Q b { s with heap := hp, toks := tk }) → wpAny (model W.prog W.w) I.A (allTrue op es I.env) Q E s
theorem sndB_one {op : BoolOp} {e : Expr} (he : SndE W P n c e) : SndB W P n c op [e] := by
  intro I ok lc l h v h' ee pos ex m D s S Q E hQ
  have ee' : evE (cE c e) P (ev P n) l h = .ok v h' := by cases op <;> exact (by simpa only [cAnd, cOr] using ee)
  exact he I ok lc _ _ _ _ ee' ex m D s S Q E hQ
theorem sndB_more {op : BoolOp} {a b : Expr} {es : List Expr} (ha : SndE W P n c a) (hb : SndB W P n c op (b :: es)) : SndB W P n c op (a :: b :: es) := by
  intro I ok lc l h v h' e pos ex m D s S Q E hQ
  have q : boolOp pos op (evalEach (a :: b :: es) I.env) = (do
    let v ← eval a I.env
    standAt pos
    let t ← holding [v] (truthy v)
    match op, t with
    | .And, false | .Or, true => pure v
    | _, _ => boolOp pos op (evalEach (b :: es) I.env)) := by cases op <;> rfl
  rw [q]
  cases op with
  | And =>
    have e : evE (.and (cE c a) (cAnd c (b :: es))) P (ev P n) l h = .ok v h' := by simpa only [cAnd] using e
    obtain ⟨va, h1, e1, e⟩ := bnd_ok (show bnd (evE (cE c a) P (ev P n) l h) _ = .ok v h' from e)
    obtain ⟨b', hb', e⟩ := oB_ok e
    refine wpAny_bind (ha I ok lc _ _ _ _ e1 ex m D s S _ _ fun xa p1 t1 D1 X1 S1 V1 => wpAny_bind (wpAny_standAt (wpAny_bind (wpAny_holding (truthy_ok V1 hb' ?_)))))
    cases b' with
    | true => exact hb I ok lc _ _ _ _ e pos ex m D1 _ S1 _ _ fun xa p2 t2 D2 X2 S2 V2 => hQ _ _ _ D2 (X1.trans X2) S2 V2
    | false =>
      cases (show Mine.R.ok va h1 = .ok v h' from e)
      exact wpAny_pure (hQ _ _ _ D1 X1 S1 V1)
  | Or =>
    have e : evE (.or (cE c a) (cOr c (b :: es))) P (ev P n) l h = .ok v h' := by simpa only [cOr] using e
    obtain ⟨va, h1, e1, e⟩ := bnd_ok (show bnd (evE (cE c a) P (ev P n) l h) _ = .ok v h' from e)
    obtain ⟨b', hb', e⟩ := oB_ok e
    refine wpAny_bind (ha I ok lc _ _ _ _ e1 ex m D s S _ _ fun xa p1 t1 D1 X1 S1 V1 => wpAny_bind (wpAny_standAt (wpAny_bind (wpAny_holding (truthy_ok V1 hb' ?_)))))
    cases b' with
    | false => exact hb I ok lc _ _ _ _ e pos ex m D1 _ S1 _ _ fun xa p2 t2 D2 X2 S2 V2 => hQ _ _ _ D2 (X1.trans X2) S2 V2
    | true =>
      cases (show Mine.R.ok va h1 = .ok v h' from e)
      exact wpAny_pure (hQ _ _ _ D1 X1 S1 V1)
theorem sndBT_one {op : BoolOp} {e : Expr} (he : SndT W P n c e) : SndBT W P n c op [e] := by
  intro I ok lc l h v h' b ee tv ex m D s S Q E hQ
  have ee' : evE (cE c e) P (ev P n) l h = .ok v h' := by cases op <;> exact (by simpa only [cAnd, cOr] using ee)
  rw [allTrue]
  refine wpAny_bind (he I ok lc _ _ _ _ _ ee' tv ex m D s S _ _ fun p1 t1 D1 X1 S1 => ?_)
  cases op <;> cases b <;> exact wpAny_pure (hQ _ _ D1 X1 S1)
theorem sndBT_more {op : BoolOp} {a b : Expr} {es : List Expr} (ha : SndT W P n c a) (hb : SndBT W P n c op (b :: es)) : SndBT W P n c op (a :: b :: es) := by
  intro I ok lc l h v h' bb e tv ex m D s S Q E hQ
  rw [allTrue]
  cases op with
  | And =>
    have e : evE (.and (cE c a) (cAnd c (b :: es))) P (ev P n) l h = .ok v h' := by simpa only [cAnd] using e
    obtain ⟨va, h1, e1, e⟩ := bnd_ok (show bnd (evE (cE c a) P (ev P n) l h) _ = .ok v h' from e)
    obtain ⟨b', hb', e⟩ := oB_ok e
    refine wpAny_bind (ha I ok lc _ _ _ _ _ e1 hb' ex m D s S _ _ fun p1 t1 D1 X1 S1 => ?_)
    cases b' with
    | true => exact hb I ok lc _ _ _ _ _ e tv ex m D1 _ S1 _ _ fun p2 t2 D2 X2 S2 => hQ _ _ D2 (X1.trans X2) S2
    | false =>
      cases (show Mine.R.ok va h1 = .ok v h' from e)
      rw [hb'] at tv; cases tv
      exact wpAny_pure (hQ _ _ D1 X1 S1)
  | Or =>
    have e : evE (.or (cE c a) (cOr c (b :: es))) P (ev P n) l h = .ok v h' := by simpa only [cOr] using e
    obtain ⟨va, h1, e1, e⟩ := bnd_ok (show bnd (evE (cE c a) P (ev P n) l h) _ = .ok v h' from e)
    obtain ⟨b', hb', e⟩ := oB_ok e
    refine wpAny_bind (ha I ok lc _ _ _ _ _ e1 hb' ex m D s S _ _ fun p1 t1 D1 X1 S1 => ?_)
    cases b' with
    | false => exact hb I ok lc _ _ _ _ _ e tv ex m D1 _ S1 _ _ fun p2 t2 D2 X2 S2 => hQ _ _ D2 (X1.trans X2) S2
    | true =>
      cases (show Mine.R.ok va h1 = .ok v h' from e)
      rw [hb'] at tv; cases tv
      exact wpAny_pure (hQ _ _ D1 X1 S1)
theorem snd_Bool {op : BoolOp} {a b : Expr} {es : List Expr} {pos : Pos} (hb : SndB W P n c op (a :: b :: es)) : SndE W P n c (.BoolOp op (a :: b :: es) pos) := by
  intro I ok lc l h v h' e ex m D s S Q E hQ
  have q : eval (.BoolOp op (a :: b :: es) pos) I.env = boolOp pos op (evalEach (a :: b :: es) I.env) := by rw [eval]
  rw [q]
  refine hb I ok lc l h v h' ?_ pos ex m D s S Q E hQ
  cases op <;> first | exact e
theorem snd_BoolT {op : BoolOp} {a b : Expr} {es : List Expr} {pos : Pos} (hb : SndBT W P n c op (a :: b :: es)) : SndT W P n c (.BoolOp op (a :: b :: es) pos) := by
  intro I ok lc l h v h' bb e tv ex m D s S Q E hQ
  have q : PySem.isTrue (.BoolOp op (a :: b :: es) pos) I.env (eval (.BoolOp op (a :: b :: es) pos) I.env) = allTrue op (a :: b :: es) I.env := by rw [PySem.isTrue]
  rw [q]
  refine hb I ok lc l h v h' bb ?_ tv ex m D s S Q E hQ
  cases op <;> first | exact e
end Mine
end
section
open PySem PySem.Calls PyProof.Rows PySem.W PyProof.V
set_option Elab.async false
set_option maxRecDepth 100000
set_option linter.unusedVariables false
set_option autoImplicit false
namespace Mine
variable {W : Cs} {P : Prog} {n : Nat} {c : CC}
/-! comparisons -/
theorem ltV_ok {a b : V} {r : Bool} (h : ltV a b = some r) : ∃ x y, vi a = some x ∧ vi b = some y ∧ r = decide (x < y) := by
  unfold ltV at h
  split at h
  · cases h
    rename_i a b
    refine ⟨_, _, rfl, rfl, ?_⟩
    cases q : Nat.blt a b with
    | true => have := blt_lt q; exact (decide_eq_true (by simp only [Int.ofNat_eq_natCast]; omega)).symm
    | false =>
      have : ¬ a < b := fun z => by rw [show Nat.blt a b = true from Nat.ble_eq_true_of_le z] at q; cases q
      exact (decide_eq_false (by simp only [Int.ofNat_eq_natCast]; omega)).symm
  · cases h; refine ⟨_, _, rfl, rfl, (decide_eq_true (by simp only [Int.ofNat_eq_natCast]; omega)).symm⟩
  · cases h; refine ⟨_, _, rfl, rfl, (decide_eq_false (by simp only [Int.ofNat_eq_natCast]; omega)).symm⟩
  · cases h
    rename_i a b
    refine ⟨_, _, rfl, rfl, ?_⟩
    cases q : Nat.blt b a with
    | true => have := blt_lt q; exact (decide_eq_true (by omega)).symm
    | false =>
      have : ¬ b < a := fun z => by rw [show Nat.blt b a = true from Nat.ble_eq_true_of_le z] at q; cases q
      exact (decide_eq_false (by omega)).symm
  · cases h
theorem beqN (a b : Nat) : Nat.beq a b = decide (a = b) := by
  cases q : Nat.beq a b with
  | true => exact (decide_eq_true (Nat.eq_of_beq_eq_true q)).symm
  | false => exact (decide_eq_false fun z => by subst z; rw [Nat.beq_refl] at q; cases q).symm
theorem dec_beq {α : Type} [DecidableEq α] (a b : α) : (a == b) = decide (a = b) := by by_cases h : a = b <;> simp [h]
/-- plain values and their data -/
inductive PD : V → PyData → Prop
  | n (k : Nat) : PD (.n k) (.int (Int.ofNat k))
  | m (k : Nat) : PD (.m k) (.int (Int.negSucc k))
  | bool (b : Bool) : PD (.bool b) (.bool b)
  | str (s : Str) : PD (.str s) (.str s)
theorem eqV_ok {a b : V} {r : Bool} (h : eqV a b = some r) : ∃ x y, PD a x ∧ PD b y ∧ PyData.eqv x y = r := by
  unfold eqV at h
  split at h
  · cases h; rename_i a b; refine ⟨_, _, .n _, .n _, ?_⟩; rw [beqN]; show decide (Int.ofNat a = Int.ofNat b) = _; by_cases z : a = b <;> simp [z]; omega
  · cases h; rename_i a b; refine ⟨_, _, .m _, .m _, ?_⟩; rw [beqN]; show decide (Int.negSucc a = Int.negSucc b) = _; by_cases z : a = b <;> simp [z]
  · cases h; refine ⟨_, _, .m _, .n _, ?_⟩; simp [PyData.eqv]
  · cases h; refine ⟨_, _, .n _, .m _, ?_⟩; simp [PyData.eqv]
  · rename_i a b; cases h; refine ⟨_, _, .bool _, .bool _, ?_⟩; cases a <;> cases b <;> rfl
  · cases h; refine ⟨_, _, .str _, .str _, ?_⟩; simp [PyData.eqv]
  · cases h
theorem VR.reads {D : Ld} {v : V} {x : Value} {d : PyData} (h : VR W.toCw D v x) (e : PD v d) (hp : Heap) : Reads hp x d [] ∧ PyData.canLay0 d = true ∧ PyData.depth d ≤ 1 := by
  cases e with
  | n k => obtain ⟨t, rfl⟩ := h.toInt (i := Int.ofNat k) rfl; exact ⟨.int _ _, by simp [PyData.canLay0], by simp [PyData.depth]⟩
  | m k => obtain ⟨t, rfl⟩ := h.toInt (i := Int.negSucc k) rfl; exact ⟨.int _ _, by simp [PyData.canLay0], by simp [PyData.depth]⟩
  | bool b =>
    cases h with
    | bool => exact ⟨.bool _, by simp [PyData.canLay0], by simp [PyData.depth]⟩
    | int t hi => cases hi
  | str s =>
    cases h with
    | str _ t hs => exact ⟨.str _ _, by simp [PyData.canLay0, hs], by simp [PyData.depth]⟩
    | int t hi => cases hi
inductive PDs : List V → List PyData → Prop
  | nil : PDs [] []
  | cons {v : V} {d : PyData} {l : List V} {ds : List PyData} (h : PD v d) (r : PDs l ds) : PDs (v :: l) (d :: ds)
theorem VRs.reads {D : Ld} {l : List V} {xs : List Value} {ds : List PyData} (h : VRs W.toCw D l xs) (e : PDs l ds) (hp : Heap) : ReadsAll hp xs ds [] ∧ PyData.canLayAll0 ds = true ∧ PyData.depthAll ds ≤ 1 := by
  induction e generalizing xs with
  | nil => cases h; exact ⟨.nil, by simp [PyData.canLayAll0], by simp [PyData.depthAll]⟩
  | cons a r ih =>
    cases h with
    | cons b s =>
      obtain ⟨r1, c1, d1⟩ := b.reads a hp
      obtain ⟨r2, c2, d2⟩ := ih s
      refine ⟨ReadsAll.cons (as := []) (bs := []) r1 r2, by simp [PyData.canLayAll0, c1, c2], ?_⟩
      simp only [PyData.depthAll]
      omega
theorem eqVs_ok : ∀ {a b : List V} {r : Bool}, eqVs a b = some r → ∃ x y, PDs a x ∧ PDs b y ∧ PyData.eqvAll x y = r
  | [], [], r, h => by cases h; exact ⟨_, _, .nil, .nil, by simp [PyData.eqvAll]⟩
  | [], _ :: _, r, h => by cases h
  | _ :: _, [], r, h => by cases h
  | v :: a, w :: b, r, h => by
    obtain ⟨p, hp, h⟩ := oO_some (show oO (eqV v w) _ = some r from h)
    obtain ⟨q, hq, h⟩ := oO_some h
    cases h
    obtain ⟨x, y, h1, h2, h3⟩ := eqV_ok hp
    obtain ⟨xs, ys, h4, h5, h6⟩ := eqVs_ok (show eqVs a b = some q from hq)
    refine ⟨x :: xs, y :: ys, .cons h1 h4, .cons h2 h5, ?_⟩
    simp only [PyData.eqvAll, h3, h6]
theorem tup_reads {D : Ld} {l : List V} {x : Value} {ds : List PyData} {hp : Heap} (hh : ∀ a o, D.Has W.toCw a o → hp.get? a = some o) (hx : VR W.toCw D (.tup l) x) (e : PDs l ds) : Reads hp x (.tuple ds) [] ∧ SeqAt.shaped (.tuple ds) = true := by
  cases hx with
  | int t hi => cases hi
  | tup ht hr =>
    obtain ⟨r, c, d⟩ := hr.reads e hp
    refine ⟨reads_tuple_at (hh _ _ ht) rfl rfl (by simpa using r), ?_⟩
    unfold SeqAt.shaped
    rw [PyData.canLay0, c, Bool.true_and]
    refine decide_eq_true ?_
    rw [PyData.depth]
    omega
theorem shaped1 {d : PyData} (a : PyData.canLay0 d = true) (b : PyData.depth d ≤ 1) : SeqAt.shaped d = true := by
  unfold SeqAt.shaped; rw [a, Bool.true_and]; exact decide_eq_true (by omega)
/-- what a compared value reads -/
theorem eqT_ok {a b : V} {r : Bool} (h : eqT a b = some r) {D : Ld} {hp : Heap} (hh : ∀ a o, D.Has W.toCw a o → hp.get? a = some o) {x y : Value} (hx : VR W.toCw D a x) (hy : VR W.toCw D b y) :
    ∃ d d', Reads hp x d [] ∧ Reads hp y d' [] ∧ SeqAt.shaped d = true ∧ SeqAt.shaped d' = true ∧ PyData.eqv d d' = r := by
  unfold eqT at h
  split at h
  · obtain ⟨u, v, h1, h2, h3⟩ := eqVs_ok h
    obtain ⟨r1, s1⟩ := tup_reads hh hx h1
    obtain ⟨r2, s2⟩ := tup_reads hh hy h2
    exact ⟨_, _, r1, r2, s1, s2, by simpa [PyData.eqv] using h3⟩
  · obtain ⟨u, v, h1, h2, h3⟩ := eqV_ok h
    obtain ⟨r1, c1, d1⟩ := hx.reads h1 hp
    obtain ⟨r2, c2, d2⟩ := hy.reads h2 hp
    exact ⟨u, v, r1, r2, shaped1 c1 d1, shaped1 c2 d2, h3⟩
theorem SR.has {I : Fi} {names ex l h hp m} {D : Ld} (S : SR W I names ex l h hp m D) {k : Nat} (ok : I.Ok W k) : ∀ a o, D.Has W.toCw a o → hp.get? a = some o := fun a o h => h.elim (fun z => S.memi z) fun z => S.F.keep _ _ (ok.X _ _ z)
theorem notO_ok {o : Option Bool} {r : Bool} (h : notO o = some r) : ∃ b, o = some b ∧ r = b.not := by
  obtain ⟨b, h1, h2⟩ := oO_some h
  exact ⟨b, h1, (Option.some.inj h2).symm⟩
theorem snd_cmp {op : Cp} {o : CmpOp} (ho : cpOf o = some op) {a b : V} {r : Bool} (e : cpV op a b = some r) {A : Around} (hu : A.units + 64 < cLine) {s : Shared} {D : Ld} (hh : ∀ a o, D.Has W.toCw a o → s.heap.get? a = some o) {x y : Value} (hx : VR W.toCw D a x) (hy : VR W.toCw D b y) {Q E : _} (h : Q (.bool r) s) :
    wpAny (model W.prog W.w) A (compareOp o x y) Q E s := by
  cases op with
  | lt =>
    cases o <;> cases ho
    obtain ⟨i, j, hi, hj, rfl⟩ := ltV_ok (show ltV a b = some r from e)
    obtain ⟨t, rfl⟩ := hx.toInt hi; obtain ⟨u, rfl⟩ := hy.toInt hj
    exact PyProof.Rows.lt_int h
  | le =>
    cases o <;> cases ho
    obtain ⟨q, e2, rfl⟩ := notO_ok (show notO (ltV b a) = some r from e)
    obtain ⟨i, j, hi, hj, rfl⟩ := ltV_ok e2
    obtain ⟨t, rfl⟩ := hx.toInt hj; obtain ⟨u, rfl⟩ := hy.toInt hi
    refine PyProof.Rows.le_int ?_
    have : decide (j ≤ i) = (decide (i < j)).not := by by_cases z : i < j <;> simp [z] <;> omega
    rw [this]; exact h
  | gt =>
    cases o <;> cases ho
    obtain ⟨i, j, hi, hj, rfl⟩ := ltV_ok (show ltV b a = some r from e)
    obtain ⟨t, rfl⟩ := hx.toInt hj; obtain ⟨u, rfl⟩ := hy.toInt hi
    exact PyProof.Rows.gt_int h
  | ge =>
    cases o <;> cases ho
    obtain ⟨q, e2, rfl⟩ := notO_ok (show notO (ltV a b) = some r from e)
    obtain ⟨i, j, hi, hj, rfl⟩ := ltV_ok e2
    obtain ⟨t, rfl⟩ := hx.toInt hi; obtain ⟨u, rfl⟩ := hy.toInt hj
    refine PyProof.Rows.ge_int ?_
    have : decide (j ≤ i) = (decide (i < j)).not := by by_cases z : i < j <;> simp [z] <;> omega
    rw [this]; exact h
  | eq =>
    cases o <;> cases ho
    obtain ⟨d, d', r1, r2, s1, s2, rfl⟩ := eqT_ok (show eqT a b = some r from e) hh hx hy
    exact eq_dataH r1 r2 s1 s2 hu h
  | ne =>
    cases o <;> cases ho
    obtain ⟨q, e2, rfl⟩ := notO_ok (show notO (eqT a b) = some r from e)
    obtain ⟨d, d', r1, r2, s1, s2, rfl⟩ := eqT_ok e2 hh hx hy
    exact ne_dataH r1 r2 s1 s2 hu h
theorem cmp_inv {a b : Expr} {o : CmpOp} {pos : Pos} {l : List V} {h h' : Hp} {v : V} (e : evE (cE c (.Compare a [o] [b] pos)) P (ev P n) l h = .ok v h') :
    (o = .Is ∧ isNone b = true ∧ ∃ va, evE (cE c a) P (ev P n) l h = .ok va h' ∧ ((va = .no ∧ v = .bool true) ∨ ((∃ l, va = .tup l) ∧ v = .bool false))) ∨
    ∃ op va h1 vb r, cpOf o = some op ∧ evE (cE c a) P (ev P n) l h = .ok va h1 ∧ evE (cE c b) P (ev P n) l h1 = .ok vb h' ∧ cpV op va vb = some r ∧ v = .bool r := by
  rw [cE_Cmp] at e
  unfold cCmp at e
  split at e
  · rename_i op hop
    obtain ⟨va, h1, e1, e⟩ := bnd_ok (show bnd (evE (cE c a) P (ev P n) l h) _ = .ok v h' from e)
    obtain ⟨vb, h2, e2, e⟩ := bnd_ok e
    obtain ⟨r, hr, e⟩ := oB_ok e
    obtain ⟨rfl, rfl⟩ := bool2_ok e
    exact .inr ⟨op, va, h1, vb, r, hop, e1, e2, hr, rfl⟩
  · split at e
    · split at e
      · rename_i q
        obtain ⟨va, h1, e1, e⟩ := bnd_ok (show bnd (evE (cE c a) P (ev P n) l h) _ = .ok v h' from e)
        refine .inl ⟨rfl, q, va, ?_⟩
        split at e
        · cases e; exact ⟨e1, .inl ⟨rfl, rfl⟩⟩
        · cases e; exact ⟨e1, .inr ⟨⟨_, rfl⟩, rfl⟩⟩
        · cases e
      · cases e
    · cases e
theorem marks {o : CmpOp} {op : Cp} (h : cpOf o = some op) (b : Expr) : behindInMarks o b = false := by
  cases o <;> cases h <;> (cases b <;> first | rfl | simp [behindInMarks])
theorem snd_Cmp {a b : Expr} {o : CmpOp} {pos : Pos} (ha : SndE W P n c a) (hb : SndE W P n c b) : SndE W P n c (.Compare a [o] [b] pos) := by
  intro I ok lc l h v h' e ex m D s S Q E hQ
  rcases cmp_inv e with ⟨rfl, hn, va, e1, r⟩ | ⟨op, va, h1, vb, r, hop, e1, e2, hr, rfl⟩
  · refine wpAny_Compare1 (ha I ok lc _ _ _ _ e1 ex m D s S _ _ fun xa p1 t1 D1 X1 S1 V1 => ?_) (by cases b <;> first | rfl | simp [behindInMarks])
    have hb' : ∃ k p, b = .Constant .none k p := by
      unfold isNone at hn
      split at hn
      · exact ⟨_, _, rfl⟩
      · cases hn
    obtain ⟨k, p, rfl⟩ := hb'
    refine wpAny_pure (PySem.is_none ?_)
    have : v = .bool (xa == .none) := by
      rcases r with ⟨rfl, rfl⟩ | ⟨⟨l', rfl⟩, rfl⟩
      · cases V1 with
        | no => rfl
        | int t hi => cases hi
      · cases V1 with
        | tup => rfl
        | int t hi => cases hi
    rw [this] at hQ
    exact hQ _ _ _ D1 X1 S1 (.bool _)
  · refine wpAny_Compare1 (ha I ok lc _ _ _ _ e1 ex m D s S _ _ fun xa p1 t1 D1 X1 S1 V1 => hb I ok lc _ _ _ _ e2 ex m D1 _ S1 _ _ fun xb p2 t2 D2 X2 S2 V2 => ?_) (marks hop b)
    exact snd_cmp hop hr (by have := ok.uB; show I.un + 64 < cLine; omega) (S2.has ok) (V1.mono X2) V2 (hQ _ _ t2 D2 (X1.trans X2) S2 (.bool _))
theorem snd_CmpT {a b : Expr} {o : CmpOp} {pos : Pos} (ha : SndE W P n c a) (hb : SndE W P n c b) : SndT W P n c (.Compare a [o] [b] pos) := by
  intro I ok lc l h v h' bb e tv ex m D s S Q E hQ
  rcases cmp_inv e with ⟨rfl, hn, va, e1, r⟩ | ⟨op, va, h1, vb, r, hop, e1, e2, hr, rfl⟩
  · refine wpAny_isTrue_Compare1 (ha I ok lc _ _ _ _ e1 ex m D s S _ _ fun xa p1 t1 D1 X1 S1 V1 => ?_) (by cases b <;> first | rfl | simp [behindInMarks])
    have hb' : ∃ k p, b = .Constant .none k p := by
      unfold isNone at hn
      split at hn
      · exact ⟨_, _, rfl⟩
      · cases hn
    obtain ⟨k, p, rfl⟩ := hb'
    refine wpAny_pure (PySem.is_none ?_)
    have : v = .bool (xa == .none) := by
      rcases r with ⟨rfl, rfl⟩ | ⟨⟨l', rfl⟩, rfl⟩
      · cases V1 with
        | no => rfl
        | int t hi => cases hi
      · cases V1 with
        | tup => rfl
        | int t hi => cases hi
    rw [this] at tv; cases tv
    exact wpAny_truthy_bool (hQ _ _ D1 X1 S1)
  · refine wpAny_isTrue_Compare1 (ha I ok lc _ _ _ _ e1 ex m D s S _ _ fun xa p1 t1 D1 X1 S1 V1 => hb I ok lc _ _ _ _ e2 ex m D1 _ S1 _ _ fun xb p2 t2 D2 X2 S2 V2 => ?_) (marks hop b)
    cases tv
    exact snd_cmp hop hr (by have := ok.uB; show I.un + 64 < cLine; omega) (S2.has ok) (V1.mono X2) V2 (wpAny_truthy_bool (hQ _ t2 D2 (X1.trans X2) S2))
end Mine
end
section
open PySem PySem.Calls PyProof.Rows PySem.W PyProof.V
set_option Elab.async false
set_option maxRecDepth 100000
set_option linter.unusedVariables false
set_option autoImplicit false
namespace Mine
variable {W : Cs} {P : Prog} {n : Nat} {c : CC}
theorem R_eq {α : Type} {a b : α} {h h' : Hp} (e : Mine.R.ok a h = .ok b h') : a = b ∧ h = h' := by cases e; exact ⟨rfl, rfl⟩
/-- an attribute read -/
theorem attr_read (G : GlOk W P) {I : Fi} {names ex l h hp m} {D : Ld} (S : SR W I names ex l h hp m D) (ok : I.Ok W n) {x : Nat} {a v : V} {nm : Str} (hx : W.an[x]? = some nm) (e : attrOf h x a = some v) {o : Value} (ho : VR W.toCw D a o) {A : Around} {b : Bool} {s : Shared} (hs : s.heap = hp) {Q E : _}
    (hQ : ∀ val tk, VR W.toCw D v val → Q val { s with heap := hp, toks := tk }) : wpAny (model W.prog W.w) A (getAttr o nm b) Q E s := by
  subst hs
  obtain ⟨k, cc, fs, rfl, hg, hf⟩ := attrOf_some e
  obtain ⟨adr, d, C, es, nn, rfl, hk, hC, hi, hd, hr, h100⟩ := S.inst hg ho
  obtain ⟨val, hl, hv⟩ := fget_ok G.an hr hx hf
  have T := G.attr C (List.mem_of_getElem? hC) nm (List.mem_of_getElem? hx)
  obtain ⟨attr, f1, f2⟩ := T.find
  refine get_own S.F ok.X (InstAt.of_news S.N (List.mem_append_left _ hi) (List.mem_append_left _ hd)) T.get T.dict f1 f2 hl ?_ (hQ val _ hv)
  cases hv <;> rfl
theorem idx_an (hl : c.attrs = W.an) {x : Str} {k : Nat} (h : idx x c.attrs = some k) : W.an[k]? = some x := hl ▸ idx_ok h
theorem base_eq {a : Expr} (h : plainBase a = true) (x : Str) (env : Env) : attributeBase a x env (eval a env) = eval a env := by
  cases a <;> first | rfl | cases h
theorem base_eq2 {a : Expr} (h : appBase a = true) (x : Str) (env : Env) : attributeBase a x env (eval a env) = eval a env := by
  cases a <;> first | rfl | cases h
theorem snd_Attr (L : Lv W P n) {a : Expr} {x : Str} {pos : Pos} (ha : SndE W P n c a) : SndE W P n c (.Attribute a x pos) := by
  intro I ok lc l h v h' e ex m D s S Q E hQ
  rw [cE_Attr] at e
  split at e
  · rename_i hb
    split at e
    · rename_i k hk
      obtain ⟨va, h1, e1, e⟩ := bnd_ok (show bnd (evE (cE c a) P (ev P n) l h) _ = .ok v h' from e)
      obtain ⟨r, hr, e⟩ := oB_ok e
      obtain ⟨rfl, rfl⟩ := R_eq e
      refine Attribute_any_ (ha I ok lc _ _ _ _ e1 ex m D s S _ _ fun xa p1 t1 D1 X1 S1 V1 => ?_) ?_
      · exact attr_read L.G S1 ok (idx_an lc.an hk) hr V1 rfl fun val tk hv => hQ _ _ _ D1 X1 S1 hv
      · rw [eval, base_eq hb]
    · cases e
  · cases e
theorem seqIndex_nat {k j : Nat} (h : k < j) : seqIndex? (Int.ofNat k) j = some k := by
  unfold seqIndex?
  have h1 : ¬ (Int.ofNat k < 0) := by simp only [Int.ofNat_eq_natCast]; omega
  have h2 : (0 : Int) ≤ Int.ofNat k := by simp only [Int.ofNat_eq_natCast]; omega
  have h3 : Int.ofNat k < (j : Int) := by simp only [Int.ofNat_eq_natCast]; omega
  simp only [if_neg h1, h2, h3, decide_true, Bool.and_self, if_true]
  rfl
/-- an item read -/
theorem item_read {I : Fi} {names ex l h hp m} {D : Ld} (S : SR W I names ex l h hp m D) (ok : I.Ok W n) {a b v : V} (e : itemOf h a b = some v) {o i : Value} (ho : VR W.toCw D a o) (hi : VR W.toCw D b i) :
    ∃ k x t adr, i = .int (Int.ofNat k) t ∧ o = .ref adr ∧ VR W.toCw D v x ∧ k < 2 ^ 62 ∧ ((∃ its : List Value, IsTup hp adr its.toArray ∧ its[k]? = some x) ∨ ∃ its : Array Value, hp.IsList adr its ∧ its[k]? = some x) := by
  unfold itemOf at e
  split at e
  · rename_i k
    obtain ⟨hk, e⟩ := ifB_some e
    have hk := lim_lt hk
    obtain ⟨t, rfl⟩ := hi.toInt (i := Int.ofNat k) rfl
    split at e
    · cases ho with
      | int t hi => cases hi
      | tup ht hr =>
        obtain ⟨x, h1, h2⟩ := hr.get e
        exact ⟨k, x, t, _, rfl, rfl, h2, by omega, .inl ⟨_, ⟨_, S.has ok _ _ ht, rfl, _, rfl⟩, h1⟩⟩
    · cases ho with
      | int t hi => cases hi
      | lst ht hr =>
        obtain ⟨x, h1, h2⟩ := hr.get e
        exact ⟨k, x, t, _, rfl, rfl, h2, by omega, .inr ⟨_, ⟨_, S.F.keep _ _ (ok.X _ _ ht), rfl, _, rfl⟩, by simpa using h1⟩⟩
    · obtain ⟨vs, hl, e⟩ := oO_some e
      obtain ⟨adr, its, nn, rfl, hm, hr⟩ := S.list hl ho
      obtain ⟨x, h1, h2⟩ := hr.get e
      exact ⟨k, x, t, _, rfl, rfl, h2, by omega, .inr ⟨its, ⟨_, S.mem hm, rfl, nn, rfl⟩, by simpa using h1⟩⟩
    · cases e
  · cases e
theorem getItem_ok {I : Fi} {names ex l h hp m} {D : Ld} (S : SR W I names ex l h hp m D) (ok : I.Ok W n) {a b v : V} (e : itemOf h a b = some v) {o i : Value} (ho : VR W.toCw D a o) (hi : VR W.toCw D b i) {A : Around} {s : Shared} (hs : s.heap = hp) {Q E : _}
    (hQ : ∀ x, VR W.toCw D v x → Q x s) : wpAny (model W.prog W.w) A (getItem o i) Q E s := by
  subst hs
  obtain ⟨k, x, t, adr, rfl, rfl, hx, hk, z | z⟩ := item_read S ok e ho hi
  · obtain ⟨its, h1, h2⟩ := z
    have hlt := (List.getElem?_eq_some_iff.mp h2).1
    exact getItem_tuple h1 (by simp only [Int.ofNat_eq_natCast]; omega) (by simp only [Int.ofNat_eq_natCast]; omega) (by rw [List.size_toArray]; exact seqIndex_nat hlt) (by simpa using h2) (hQ x hx)
  · obtain ⟨its, h1, h2⟩ := z
    exact wpAny_getItem_list h1 (by simp only [Int.ofNat_eq_natCast]; omega) (by simp only [Int.ofNat_eq_natCast]; omega) (by simpa using h2) (hQ x hx)
theorem slice_plain {b : Expr} {l : List V} {h : Hp} {vb : V} {h2 : Hp} (e : evE (cE c b) P (ev P n) l h = .ok vb h2) (o i : Value) : subscripted b false o i = operate [o, i] (getItem o i) := by
  cases b <;> first | rfl | (cases e; done)
theorem snd_Sub {a b : Expr} {pos : Pos} (ha : SndE W P n c a) (hb : SndE W P n c b) : SndE W P n c (.Subscript a b pos) := by
  intro I ok lc l h v h' e ex m D s S Q E hQ
  rw [cE_Sub] at e
  obtain ⟨va, h1, e1, e⟩ := bnd_ok (show bnd (evE (cE c a) P (ev P n) l h) _ = .ok v h' from e)
  obtain ⟨vb, h2, e2, e⟩ := bnd_ok e
  obtain ⟨r, hr, e⟩ := oB_ok e
  obtain ⟨rfl, rfl⟩ := R_eq e
  refine Subscript_ (ha I ok lc _ _ _ _ e1 ex m D s S _ _ fun xa p1 t1 D1 X1 S1 V1 => hb I ok lc _ _ _ _ e2 ex m D1 _ S1 _ _ fun xb p2 t2 D2 X2 S2 V2 => ?_)
  obtain ⟨k, x, t, adr, rfl, rfl, hx, hk, z | z⟩ := item_read S2 ok hr (V1.mono X2) V2
  · obtain ⟨its, g1, g2⟩ := z
    have hlt := (List.getElem?_eq_some_iff.mp g2).1
    exact item_tupleT g1 (by simp only [Int.ofNat_eq_natCast]; omega) (by simp only [Int.ofNat_eq_natCast]; omega) (seqIndex_nat hlt) g2 (hQ x _ _ _ (X1.trans X2) S2 hx) (slice_plain e2 _ _)
  · obtain ⟨its, g1, g2⟩ := z
    exact tail_any g1.typeIs slot_list_getitem.lookup (wpAny_getItem_list g1 (by simp only [Int.ofNat_eq_natCast]; omega) (by simp only [Int.ofNat_eq_natCast]; omega) (by simpa using g2) (hQ x _ _ _ (X1.trans X2) S2 hx)) (slice_plain e2 _ _)
/-! the chains of arguments -/
theorem sndEs_nil : SndEs W P n c [] := by
  intro I ok lc l h v h' e
  have e' : Mine.R.ok (V.tup []) h = .ok v h' := by rw [cEs_0] at e; exact e
  obtain ⟨rfl, rfl⟩ := R_eq e'
  refine ⟨[], rfl, fun pos => rfl, fun pos ex m D s S Q E hQ => ?_⟩
  exact spliced_none (hQ [] _ s.toks D (Ext.refl D) S .nil)
theorem star_cons {e : Expr} (h : isStar e = false) (es : List Expr) (env : Env) : starEach (e :: es) env = (false, eval e env) :: starEach es env := by
  cases e <;> first | rfl | cases h
theorem cEs_cons {e : Expr} {es : List Expr} {l : List V} {h : Hp} {v : V} {h' : Hp} (ee : evE (cEs c (e :: es)) P (ev P n) l h = .ok v h') : isStar e = false ∧ ∃ a h1 vs, evE (cE c e) P (ev P n) l h = .ok a h1 ∧ evE (cEs c es) P (ev P n) l h1 = .ok (.tup vs) h' ∧ v = .tup (a :: vs) := by
  rw [cEs_1] at ee
  split at ee
  · cases ee
  · rename_i q
    obtain ⟨va, h1, e1, ee⟩ := bnd_ok (show bnd (evE (cE c e) P (ev P n) l h) _ = .ok v h' from ee)
    obtain ⟨vb, h2, e2, ee⟩ := bnd_ok ee
    obtain ⟨vs, rfl, ee⟩ := onT_ok ee
    obtain ⟨rfl, rfl⟩ := R_eq ee
    exact ⟨q, _, _, _, e1, e2, rfl⟩
theorem sndEs_cons {e : Expr} {es : List Expr} (he : SndE W P n c e) (hes : SndEs W P n c es) : SndEs W P n c (e :: es) := by
  intro I ok lc l h v h' ee
  obtain ⟨q, a, h1, vs, e1, e2, rfl⟩ := cEs_cons ee
  obtain ⟨vs', hv, hany, H⟩ := hes I ok lc _ _ _ _ e2
  cases hv
  refine ⟨_, rfl, fun pos => ?_, fun pos ex m D s S Q E hQ => ?_⟩
  · rw [star_cons q]
    exact hany pos
  · refine spliced_more (he I ok lc _ _ _ _ e1 ex m D s S _ _ fun xa p1 t1 D1 X1 S1 V1 => H pos ex m D1 _ S1 _ _ fun xs p2 t2 D2 X2 S2 V2 => ?_) (star_cons q es I.env)
    exact hQ _ _ _ D2 (X1.trans X2) S2 (.cons (V1.mono X2) V2)
theorem snd_Tup {es : List Expr} {k : Nat} {pos : Pos} (hes : SndEs W P n c es) : SndE W P n c (.Tuple es k pos) := by
  intro I ok lc l h v h' e ex m D s S Q E hQ
  rw [cE_Tup] at e
  obtain ⟨va, h1, e1, e⟩ := bnd_ok (show bnd (evE (cEs c es) P (ev P n) l h) _ = .ok v h' from e)
  obtain ⟨vs, rfl, e⟩ := onT_ok e
  obtain ⟨hlt, e⟩ := ifB_ok e
  obtain ⟨rfl, rfl⟩ := R_eq e
  obtain ⟨vs', hv, _, H⟩ := hes I ok lc _ _ _ _ e1
  cases hv
  refine Tuple_ (H pos ex m D s S _ _ fun xs p1 t1 D1 X1 S1 V1 => ?_)
  refine newTuple_N S1.F S1.N (fun h2 F2 N2 => ?_) (by have := blt_lt hlt; have := V1.length; rw [sizeLine_eq]; omega)
  obtain ⟨D2, X2, hm, S2⟩ := S1.immNew (o := tupOf xs 0) (.inl rfl) F2 N2
  exact hQ _ _ _ D2 (X1.trans X2) S2 (.tup (.inl hm) (V1.mono X2))
theorem snd_List {es : List Expr} {pos : Pos} (hes : SndEs W P n c es) : SndE W P n c (.List es pos) := by
  intro I ok lc l h v h' e ex m D s S Q E hQ
  rw [cE_List] at e
  obtain ⟨va, h1, e1, e⟩ := bnd_ok (show bnd (evE (cEs c es) P (ev P n) l h) _ = .ok v h' from e)
  obtain ⟨vs, rfl, e⟩ := onT_ok e
  obtain ⟨hlt, e⟩ := ifB_ok e
  obtain ⟨vs', hv, _, H⟩ := hes I ok lc _ _ _ _ e1
  cases hv
  refine List_ (H pos ex m D s S _ _ fun xs p1 t1 D1 X1 S1 V1 => ?_)
  refine newList_K S1.F S1.N (fun adr h2 F2 N2 lt => ?_) (by have := blt_lt hlt; have := V1.length; rw [sizeLine_eq]; omega)
  obtain ⟨D2, X2, S2, V2⟩ := S1.newList e F2 N2 lt V1
  exact hQ _ _ _ D2 (X1.trans X2) S2 V2
end Mine
end
section
open PySem PySem.Calls PyProof.Rows PySem.W PyProof.V
set_option Elab.async false
set_option maxRecDepth 100000
set_option linter.unusedVariables false
set_option autoImplicit false
namespace Mine
variable {W : Cs} {P : Prog} {n : Nat} {c : CC}
theorem any_tail {e : Expr} {es : List Expr} {env : Env} {pos : Pos} (q : isStar e = false) (h : (backTo pos (starEach (e :: es) env)).any (·.1) = false) : (backTo pos (starEach es env)).any (·.1) = false := by
  rw [star_cons q] at h; exact h
/-- arguments, then the call -/
theorem args_ref {es : List Expr} {pos : Pos} (hes : SndEs W P n c es) {I : Fi} (ok : I.Ok W n) (lc : LcOk W c I) {l : List V} {h h1 : Hp} {va : V} (e1 : evE (cEs c es) P (ev P n) l h = .ok va h1) {f : Value} (hk : keepIn W.K f = true)
    {ex m} {D : Ld} {s : Shared} (S : SR W I c.names ex l h s.heap m D) {Q E : _} (hQ : ∀ vs vals hp tk D', va = .tup vs → Ext D D' → SR W I c.names ex l h1 hp m D' → VRs W.toCw D' vs vals → wpAny (model W.prog W.w) I.A (call f vals) Q E { s with heap := hp, toks := tk }) :
    wpAny (model W.prog W.w) I.A (callWith pos f [] (backTo pos (starEach es I.env)) []) Q E s := by
  obtain ⟨vs, rfl, hany, H⟩ := hes I ok lc _ _ _ _ e1
  cases es with
  | nil =>
    have e' : Mine.R.ok (V.tup []) h = .ok (.tup vs) h1 := by rw [cEs_0] at e1; exact e1
    obtain ⟨q, rfl⟩ := R_eq e'
    cases q
    exact callWith_K0 (ok.X.keeps S.F.keep) hk (hQ [] [] _ s.toks D rfl (Ext.refl D) S .nil)
  | cons e es =>
    obtain ⟨q, _⟩ := cEs_cons e1
    refine callWith_K ok.X hk (H pos ex m D s S _ _ fun xs p1 t1 D1 X1 S1 V1 => ⟨ok.X.keeps S1.F.keep, ?_⟩) (star_cons q es I.env) (any_tail q (hany pos))
    exact hQ vs xs p1 t1 D1 rfl X1 S1 V1
theorem name_call {I : Fi} (ok : I.Ok W n) (lc : LcOk W c I) (hd : c.sc.lookup ("__debug__" : Str) = none) {f : Str} (hs : c.sc.lookup f = some .globalImplicit) {v : Value} (hv : nsIn W.K mainGlobals f = some (some v)) {ex l h m} {D : Ld} {s : Shared} (S : SR W I c.names ex l h s.heap m D) {p : Pos} {Q E : _} (h : Q v s) : wpAny (model W.prog W.w) I.A (eval (.Name f p) I.env) Q E s :=
  name_K S.F ok.X (topRead_of ok.T) hv h ok.ck (by show I.cs.names.lookup f = _; rw [lc.sc]; exact hs) (debug_ne hs hd)
theorem snd_call (L : Lv W P n) (hd : c.sc.lookup ("__debug__" : Str) = none) {f : Str} {p pos : Pos} {es : List Expr} (hes : SndEs W P n c es) {k : Nat} (hs : c.sc.lookup f = some .globalImplicit) (hf : c.fns.lookup f = some k) {I : Fi} (ok : I.Ok W n) (lc : LcOk W c I) {l : List V} {h h' : Hp} {v : V}
    (e : evE (.call k (cEs c es)) P (ev P n) l h = .ok v h') {ex m} {D : Ld} {s : Shared} (S : SR W I c.names ex l h s.heap m D) {Q E : _} (hQ : ∀ val hp tk D', Ext D D' → SR W I c.names ex l h' hp m D' → VR W.toCw D' v val → Q val { s with heap := hp, toks := tk }) :
    wpAny (model W.prog W.w) I.A (eval (.Call (.Name f p) es [] pos) I.env) Q E s := by
  obtain ⟨va, h1, e1, e⟩ := bnd_ok (show bnd (evE (cEs c es) P (ev P n) l h) _ = .ok v h' from e)
  obtain ⟨vs, rfl, e⟩ := onT_ok e
  obtain ⟨fa, h2, h3, h4⟩ := L.G.fns f k (lc.fns ▸ hf)
  refine Call_ (name_call ok lc hd hs h2 S ?_)
  refine args_ref hes ok lc e1 h3 S fun vs' vals hp tk D1 q X1 S1 V1 => ?_
  cases q
  refine wpAny_call ?_
  exact L.call k fa h4 I ok vs h1 v h' e c.names ex l m D1 _ vals S1 V1 I.A rfl rfl (Nat.le_succ _) (Nat.le_add_right _ _) _ fun val hp tk D2 X2 S2 V2 => hQ val hp tk D2 (X1.trans X2) S2 V2
/-- a new object of a class, its entries in the ledger -/
theorem SR.newInst {I : Fi} {names ex l h hp m} {D : Ld} (S : SR W I names ex l h hp m D) {k : Nat} {v : V} {h' : Hp} (e : mkObj (.inst k .nil) h = .ok v h') {C x dx : Addr} (hC : W.cls[k]? = some C) {hp' : Heap} (F : Fr I.h₀ I.L hp' m) (N : News I.h₀ I.L hp' ((x, instObj C dx) :: (dx, dictOf [] 0) :: (D.mu ++ D.imm)))
    (lt : ∀ q ∈ D.mu ++ D.imm, q.1 < dx) (lt2 : dx < x) : ∃ D', Ext D D' ∧ SR W I names ex l h' hp' m D' ∧ VR W.toCw D' v (.ref x) := by
  obtain ⟨f1, rfl, f2, hl, hg⟩ := mkObj_ok e
  obtain ⟨D', X', h1, _, S'⟩ := S.objNew (own := [(x, instObj C dx), (dx, dictOf [] 0)]) (p := (x, dx)) f1 f2 hl hg F N (by simp; exact Nat.ne_of_gt lt2) (fun q hq r hr => by
    rcases List.mem_cons.mp hq with rfl | hq
    · exact Nat.lt_trans (lt r hr) lt2
    · rw [List.mem_singleton.mp hq]; exact lt r hr) ⟨_, .head _⟩ ⟨_, .tail _ (.head _)⟩ ⟨C, hC, .head _, [], 0, .tail _ (.head _), .nil, by simp⟩
  exact ⟨D', X', S', .obj h1⟩
theorem snd_new (L : Lv W P n) (hd : c.sc.lookup ("__debug__" : Str) = none) {f : Str} {p pos : Pos} {es : List Expr} (hes : SndEs W P n c es) {k : Nat} (hs : c.sc.lookup f = some .globalImplicit) (hf : c.cls.lookup f = some k) {I : Fi} (ok : I.Ok W n) (lc : LcOk W c I) {l : List V} {h h' : Hp} {v : V}
    (e : evE (.new k (cEs c es)) P (ev P n) l h = .ok v h') {ex m} {D : Ld} {s : Shared} (S : SR W I c.names ex l h s.heap m D) {Q E : _} (hQ : ∀ val hp tk D', Ext D D' → SR W I c.names ex l h' hp m D' → VR W.toCw D' v val → Q val { s with heap := hp, toks := tk }) :
    wpAny (model W.prog W.w) I.A (eval (.Call (.Name f p) es [] pos) I.env) Q E s := by
  obtain ⟨va, h1, e1, e⟩ := bnd_ok (show bnd (evE (cEs c es) P (ev P n) l h) _ = .ok v h' from e)
  obtain ⟨vs, rfl, e⟩ := onT_ok e
  obtain ⟨o, h2, e2, e⟩ := bnd_ok e
  obtain ⟨fi, hfi, e⟩ := oB_ok e
  obtain ⟨r, h3, e3, e⟩ := bnd_ok e
  have hr : r = .no ∧ o = v ∧ h3 = h' := by
    unfold isNo at e
    split at e
    · exact ⟨rfl, R_eq e⟩
    · cases e
  obtain ⟨rfl, rfl, rfl⟩ := hr
  obtain ⟨C, f', fI, g1, g2, g3, g4, g5, g6, g7, g8⟩ := L.G.cls f k (lc.cls ▸ hf)
  rw [hfi] at g4; cases g4
  refine Call_ (name_call ok lc hd hs g1 S ?_)
  refine args_ref hes ok lc e1 g2 S fun vs' vals hp tk D1 q X1 S1 V1 => ?_
  cases q
  refine call_cls S1.F ok.X S1.N g6 g7 g8 fun x dx hp2 F2 N2 lt lt2 => ?_
  obtain ⟨D2, X2, S2, V2⟩ := S1.newInst e2 g3 F2 N2 lt lt2
  refine L.call fi fI g5 I ok (o :: vs) h2 .no h3 e3 c.names ex l m D2 _ _ S2 (.cons V2 (V1.mono X2)) _ rfl rfl ?_ ?_ _ fun val hp tk D3 X3 S3 V3 => ?_
  · exact Nat.le_refl _
  · show I.un + 1 ≤ I.un + 8; omega
  · have : val = .none := by
      cases V3 with
      | no => rfl
      | int t hi => cases hi
    subst this
    exact ⟨rfl, hQ _ _ _ D3 ((X1.trans X2).trans X3) S3 (V2.mono X3)⟩
noncomputable def plOf (o : Expr) (env : Env) : Sem Bool := do let b ← importBound o env; pure (b.getD true)
theorem append_eval {o e : Expr} {x : Str} {apos pos : Pos} {env : Env} (hb : appBase o = true) (hline : (apos.endLine == pos.line) = true) (hs : isStar e = false) :
    eval (.Call (.Attribute o x apos) [e] [] pos) env = (do let ov ← eval o env; standAt apos.atName; let (f, first) ← holding [ov] (getMethod ov x (plOf o env)); callWith pos f first (backTo pos (starEach [e] env)) []) := by
  rw [eval, base_eq2 hb]
  unfold methodCall calleeOf methodCallPos
  have hf : methodCallForm ([e].length + ([] : List Keyword).length) (backTo pos (starEach [e] env)) (backToKw pos (keywordEach [] env)) = true := by
    rw [star_cons hs]; rfl
  simp only [hf, hline, Bool.or_true, if_true]
  rfl
theorem snd_app {o e : Expr} {x : Str} {apos pos : Pos} (ho : SndE W P n c o) (he : SndE W P n c e) : (isStar e = false) → (x == ("append" : Str)) = true → appBase o = true → (apos.endLine == pos.line) = true → ∀ {I : Fi} (ok : I.Ok W n) (lc : LcOk W c I) {l : List V} {h h' : Hp} {v : V}
    (ee : evE (.app (cE c o) (cE c e)) P (ev P n) l h = .ok v h') {ex m} {D : Ld} {s : Shared} (S : SR W I c.names ex l h s.heap m D) {Q E : _} (hQ : ∀ val hp tk D', Ext D D' → SR W I c.names ex l h' hp m D' → VR W.toCw D' v val → Q val { s with heap := hp, toks := tk }),
    wpAny (model W.prog W.w) I.A (eval (.Call (.Attribute o x apos) [e] [] pos) I.env) Q E s := by
  intro hs hx hb hline I ok lc l h h' v ee ex m D s S Q E hQ
  obtain rfl := (str_beq _ _).mp hx
  obtain ⟨va, h1, e1, ee⟩ := bnd_ok (show bnd (evE (cE c o) P (ev P n) l h) _ = .ok v h' from ee)
  split at ee
  · rename_i k
    obtain ⟨l0, hl0, ee⟩ := oB_ok ee
    obtain ⟨vb, h2, e2, ee⟩ := bnd_ok ee
    obtain ⟨vs, hl, ee⟩ := oB_ok ee
    obtain ⟨hlt, ee⟩ := ifB_ok ee
    rw [lnorm_eq, lsnoc_eq] at ee
    obtain ⟨h3, hh3, ee⟩ := oB_ok ee
    obtain ⟨rfl, rfl⟩ := R_eq ee
    refine MethodCall_ (pl := plOf o I.env) (ho I ok lc _ _ _ _ e1 ex m D s S _ _ fun xa p1 t1 D1 X1 S1 V1 => ?_) (append_eval hb hline hs)
    obtain ⟨adr, its, nn, rfl, hm, hr⟩ := S1.list hl0 V1
    refine listMethod_K S1.N (List.mem_append_left _ hm) PySem.F.slot_list_append PySem.F.type_list_append ?_
    refine callWith_method1 (first := [.ref adr]) (spliced_more (he I ok lc _ _ _ _ e2 ex m D1 _ S1 _ _ fun xb p2 t2 D2 X2 S2 V2 => spliced_none ?_) (star_cons hs [] I.env)) (star_cons hs [] I.env) rfl
    have V1' := V1.mono X2
    obtain ⟨adr', its', nn', q, hm', hr'⟩ := S2.list hl V1'
    cases q
    obtain ⟨Hf, p, H, _, hget', hρ, hd, _⟩ := S2.hole (listAt_some hl) (by intro q; cases q)
    have hp1 : D2.ρ[k]? = some (adr, adr) := by
      cases V1' with
      | obj hk => rw [hρ] at hk; cases hk; rw [hρ]; exact congrArg some (Prod.ext rfl hd)
    obtain ⟨mu', U, K'⟩ := S2.listTurn (n' := nn' + 1) (its' := its'.push xb) (listAt_some hl) hh3 hp1 hm' (by simpa using hr'.snoc V2)
    refine append_K S2.F S2.N U (fun hp3 F3 N3 => ?_) (by have := blt_lt hlt; have := hr'.length; have hz : its'.toList.length = its'.size := Array.length_toList; rw [sizeLine_eq]; omega)
    exact hQ _ _ _ ⟨mu', D2.imm, D2.ρ⟩ (X1.trans (X2.trans ⟨fun q hq => hq, fun k q hq => hq⟩)) (K' hp3 F3 N3) .no
  · cases ee

/-! built-in calls -/
theorem type_args {T : String} {es : List Expr} {pos : Pos} (hes : SndEs W P n c es) (hne : es ≠ []) {I : Fi} (ok : I.Ok W n) (lc : LcOk W c I) {l : List V} {h h1 : Hp} {va : V} (e1 : evE (cEs c es) P (ev P n) l h = .ok va h1)
    {ex m} {D : Ld} {s : Shared} (S : SR W I c.names ex l h s.heap m D) {Q E : _} (hQ : ∀ vs vals hp tk D', va = .tup vs → Ext D D' → SR W I c.names ex l h1 hp m D' → VRs W.toCw D' vs vals → wpAny (model W.prog W.w) I.A (call (.type T) vals) Q E { s with heap := hp, toks := tk }) :
    wpAny (model W.prog W.w) I.A (callWith pos (.type T) [] (backTo pos (starEach es I.env)) []) Q E s := by
  obtain ⟨vs, rfl, hany, H⟩ := hes I ok lc _ _ _ _ e1
  cases es with
  | nil => exact absurd rfl hne
  | cons e es =>
    obtain ⟨q, _⟩ := cEs_cons e1
    exact Pv.callWith_type1 (H pos ex m D s S _ _ fun xs p1 t1 D1 X1 S1 V1 => hQ vs xs p1 t1 D1 rfl X1 S1 V1) (star_cons q es I.env) (any_tail q (hany pos))
theorem bi_args {id : String} {es : List Expr} {pos : Pos} (hes : SndEs W P n c es) (hne : es ≠ []) {I : Fi} (ok : I.Ok W n) (lc : LcOk W c I) {l : List V} {h h1 : Hp} {va : V} (e1 : evE (cEs c es) P (ev P n) l h = .ok va h1)
    {ex m} {D : Ld} {s : Shared} (S : SR W I c.names ex l h s.heap m D) {Q E : _} (hQ : ∀ vs vals hp tk D', va = .tup vs → Ext D D' → SR W I c.names ex l h1 hp m D' → VRs W.toCw D' vs vals → wpAny (model W.prog W.w) I.A (call (.builtin id) vals) Q E { s with heap := hp, toks := tk }) :
    wpAny (model W.prog W.w) I.A (callWith pos (.builtin id) [] (backTo pos (starEach es I.env)) []) Q E s := by
  obtain ⟨vs, rfl, hany, H⟩ := hes I ok lc _ _ _ _ e1
  cases es with
  | nil => exact absurd rfl hne
  | cons e es =>
    obtain ⟨q, _⟩ := cEs_cons e1
    exact PyProof.Rows.callWith_builtin1 (H pos ex m D s S _ _ fun xs p1 t1 D1 X1 S1 V1 => hQ vs xs p1 t1 D1 rfl X1 S1 V1) (star_cons q es I.env) (any_tail q (hany pos))
theorem bi_range : bootBuiltins ("range" : Str) = some (.type "range") := by first | rfl | decide +kernel
theorem bi_len : bootBuiltins ("len" : Str) = some (.builtin "len") := by first | rfl | decide +kernel
theorem bi_list : bootBuiltins ("list" : Str) = some (.type "list") := by first | rfl | decide +kernel
theorem bi_int : bootBuiltins ("int" : Str) = some (.type "int") := by first | rfl | decide +kernel
theorem name_bi {I : Fi} (ok : I.Ok W n) (lc : LcOk W c I) (hd : c.sc.lookup ("__debug__" : Str) = none) {f : Str} (hs : c.sc.lookup f = some .globalImplicit) {v : Value} (hv : nsIn W.K mainGlobals f = some none) (hb : bootBuiltins f = some v) (hne : f ≠ ("__name__" : Str)) {ex l h m} {D : Ld} {s : Shared} (S : SR W I c.names ex l h s.heap m D) {p : Pos} {Q E : _} (h : Q v s) : wpAny (model W.prog W.w) I.A (eval (.Name f p) I.env) Q E s :=
  name_B S.F ok.X (topRead_of ok.T) hv hb hne h ok.ck (by show I.cs.names.lookup f = _; rw [lc.sc]; exact hs) (debug_ne hs hd)
/-- a new range -/
theorem SR.newRange {I : Fi} {names ex l h m} {D : Ld} {s : Shared} (S : SR W I names ex l h s.heap m D) {A B C : V} {a b cc : Int} (ha : vi A = some a) (hb : vi B = some b) (hc : vi C = some cc) {hp' : Heap} {t u v : Tok} (R : IsRange hp' s.heap.objs.size a b cc t u v) (F : Fr I.h₀ I.L hp' m)
    (hk : ∀ (b : Addr) (o : Obj), s.heap.get? b = some o → hp'.get? b = some o) : ∃ D', Ext D D' ∧ SR W I names ex l h hp' m D' ∧ VR W.toCw D' (.rng A B C) (.ref s.heap.objs.size) := by
  obtain ⟨D', X, hm, S'⟩ := S.immNew (o := { cls := .type "range", data := .fields #[.int a t, .int b u, .int cc v] }) (.inr rfl) F (news_pushed S.F S.N hk R rfl)
  exact ⟨D', X, S', .rng ha hb hc hm⟩
theorem rng3_ok {h h' : Hp} {vs : List V} {v : V} (e : rng3 h vs = .ok v h') : h = h' ∧ ((∃ b, vs = [.n b] ∧ v = .rng (.n 0) (.n b) (.n 1)) ∨ (∃ a b, vs = [.n a, .n b] ∧ v = .rng (.n a) (.n b) (.n 1)) ∨ (∃ a b, vs = [.n a, .n b, .n 2] ∧ v = .rng (.n a) (.n b) (.n 2)) ∨ (∃ a b c, vs = [.n a, .m b, .m c] ∧ c < 64 ∧ v = .rng (.n a) (.m b) (.m c))) := by
  unfold rng3 at e
  split at e
  · obtain ⟨rfl, rfl⟩ := R_eq e; exact ⟨rfl, .inl ⟨_, rfl, rfl⟩⟩
  · obtain ⟨rfl, rfl⟩ := R_eq e; exact ⟨rfl, .inr (.inl ⟨_, _, rfl, rfl⟩)⟩
  · obtain ⟨rfl, rfl⟩ := R_eq e; exact ⟨rfl, .inr (.inr (.inl ⟨_, _, rfl, rfl⟩))⟩
  · obtain ⟨hz, e⟩ := ifB_ok e
    obtain ⟨rfl, rfl⟩ := R_eq e; exact ⟨rfl, .inr (.inr (.inr ⟨_, _, _, rfl, blt_lt hz, rfl⟩))⟩
  · cases e
theorem snd_rng (L : Lv W P n) (hd : c.sc.lookup ("__debug__" : Str) = none) {p pos : Pos} {es : List Expr} (hes : SndEs W P n c es) (hs : c.sc.lookup ("range" : Str) = some .globalImplicit) {I : Fi} (ok : I.Ok W n) (lc : LcOk W c I) {l : List V} {h h' : Hp} {v : V}
    (e : evE (.rng (cEs c es)) P (ev P n) l h = .ok v h') {ex m} {D : Ld} {s : Shared} (S : SR W I c.names ex l h s.heap m D) {Q E : _} (hQ : ∀ val hp tk D', Ext D D' → SR W I c.names ex l h' hp m D' → VR W.toCw D' v val → Q val { s with heap := hp, toks := tk }) :
    wpAny (model W.prog W.w) I.A (eval (.Call (.Name "range" p) es [] pos) I.env) Q E s := by
  obtain ⟨va, h1, e1, e2⟩ := bnd_ok (show bnd (evE (cEs c es) P (ev P n) l h) _ = .ok v h' from e)
  obtain ⟨vs, rfl, er0⟩ := onT_ok e2
  obtain ⟨rfl, er⟩ := rng3_ok er0
  clear er0 e2
  have hne : es ≠ [] := by
    rintro rfl
    have e' : Mine.R.ok (V.tup []) h = .ok (.tup vs) h1 := by rw [cEs_0] at e1; exact e1
    obtain ⟨q, _⟩ := R_eq e'
    cases q
    rcases er with ⟨_, q, _⟩ | ⟨_, _, q, _⟩ | ⟨_, _, q, _⟩ | ⟨_, _, _, q, _⟩ <;> cases q
  refine Call_ (name_bi ok lc hd hs L.G.range bi_range (by decide) S ?_)
  refine type_args hes hne ok lc e1 S fun vs' vals hp tk D1 q X1 S1 V1 => ?_
  obtain rfl : vs = vs' := V.tup.inj q
  rcases er with ⟨b, rfl, rfl⟩ | ⟨a, b, rfl, rfl⟩ | ⟨a, b, rfl, rfl⟩ | ⟨a, b, cc, rfl, hz, rfl⟩
  · cases V1 with
    | cons a r =>
      cases r
      obtain ⟨t, rfl⟩ := a.toInt (i := Int.ofNat b) rfl
      refine range1_rows S1.F S1.N fun hp2 tk2 t1 u1 v1 R2 F2 N2 K2 => ?_
      obtain ⟨D2, X2, S2, V2⟩ := S1.newRange (A := .n 0) (B := .n b) (C := .n 1) rfl rfl rfl R2 F2 K2
      exact hQ _ _ _ D2 (X1.trans X2) S2 V2
  · cases V1 with
    | cons x r =>
      cases r with
      | cons y r =>
        cases r
        obtain ⟨t, rfl⟩ := x.toInt (i := Int.ofNat a) rfl
        obtain ⟨u, rfl⟩ := y.toInt (i := Int.ofNat b) rfl
        refine range2_rows S1.F S1.N fun hp2 tk2 t1 u1 v1 R2 F2 N2 K2 => ?_
        obtain ⟨D2, X2, S2, V2⟩ := S1.newRange (A := .n a) (B := .n b) (C := .n 1) rfl rfl rfl R2 F2 K2
        exact hQ _ _ _ D2 (X1.trans X2) S2 V2
  · cases V1 with
    | cons x r =>
      cases r with
      | cons y r =>
        cases r with
        | cons z r =>
          cases r
          obtain ⟨t, rfl⟩ := x.toInt (i := Int.ofNat a) rfl
          obtain ⟨u, rfl⟩ := y.toInt (i := Int.ofNat b) rfl
          obtain ⟨w, rfl⟩ := z.toInt (i := Int.ofNat 2) rfl
          refine range3_rows S1.F S1.N (by decide) (fun hp2 tk2 t1 u1 v1 R2 F2 N2 K2 => ?_) (.inl (PyProof.noPylong_small (by decide)))
          obtain ⟨D2, X2, S2, V2⟩ := S1.newRange (A := .n a) (B := .n b) (C := .n 2) rfl rfl rfl R2 F2 K2
          exact hQ _ _ _ D2 (X1.trans X2) S2 V2
  · cases V1 with
    | cons x r =>
      cases r with
      | cons y r =>
        cases r with
        | cons z r =>
          cases r
          obtain ⟨t, rfl⟩ := x.toInt (i := Int.ofNat a) rfl
          obtain ⟨u, rfl⟩ := y.toInt (i := Int.negSucc b) rfl
          obtain ⟨w, rfl⟩ := z.toInt (i := Int.negSucc cc) rfl
          refine range3_rows S1.F S1.N (by omega) (fun hp2 tk2 t1 u1 v1 R2 F2 N2 K2 => ?_) (.inl (PyProof.noPylong_small (y := Int.negSucc cc) (by rw [Int.natAbs_negSucc]; omega)))
          obtain ⟨D2, X2, S2, V2⟩ := S1.newRange (A := .n a) (B := .m b) (C := .m cc) rfl rfl rfl R2 F2 K2
          exact hQ _ _ _ D2 (X1.trans X2) S2 V2
theorem snd_len (L : Lv W P n) (hd : c.sc.lookup ("__debug__" : Str) = none) {p pos : Pos} {es : List Expr} (hes : SndEs W P n c es) (hs : c.sc.lookup ("len" : Str) = some .globalImplicit) {a : E} (ha : cEs c es = .cons a .nil) {I : Fi} (ok : I.Ok W n) (lc : LcOk W c I) {l : List V} {h h' : Hp} {v : V}
    (e : evE (.len a) P (ev P n) l h = .ok v h') {ex m} {D : Ld} {s : Shared} (S : SR W I c.names ex l h s.heap m D) {Q E : _} (hQ : ∀ val hp tk D', Ext D D' → SR W I c.names ex l h' hp m D' → VR W.toCw D' v val → Q val { s with heap := hp, toks := tk }) :
    wpAny (model W.prog W.w) I.A (eval (.Call (.Name "len" p) es [] pos) I.env) Q E s := by
  obtain ⟨va, h1, e0, e⟩ := bnd_ok (show bnd (evE a P (ev P n) l h) _ = .ok v h' from e)
  have e1 : evE (cEs c es) P (ev P n) l h = .ok (.tup [va]) h1 := by
    rw [ha]
    show bnd (evE a P (ev P n) l h) _ = _
    rw [e0]; rfl
  have hne : es ≠ [] := by rintro rfl; rw [cEs_0] at ha; cases ha
  refine Call_ (name_bi ok lc hd hs L.G.len bi_len (by decide) S ?_)
  refine bi_args hes hne ok lc e1 S fun vs' vals hp tk D1 q X1 S1 V1 => ?_
  cases q
  cases V1 with
  | cons x r =>
    cases r
    split at e
    · obtain ⟨ll, hl, e⟩ := oB_ok e
      rw [forceN_eq] at e
      obtain ⟨hz, e⟩ := ifB_ok e
      obtain ⟨rfl, rfl⟩ := R_eq e
      obtain ⟨adr, its, nn, rfl, hm, hr⟩ := S1.list hl x
      have hlen := hr.length
      have hsz : its.toList.length = its.size := Array.length_toList
      refine PyProof.Rows.len_list ⟨_, S1.mem hm, rfl, nn, rfl⟩ (by have := blt_lt hz; omega) ?_
      exact hQ _ _ _ D1 X1 S1 (.int _ (by show some (Int.ofNat ll.length) = some _; rw [hlen, hsz]; rfl))
    · cases e
theorem snd_toi (L : Lv W P n) (hd : c.sc.lookup ("__debug__" : Str) = none) {p pos : Pos} {es : List Expr} (hes : SndEs W P n c es) (hs : c.sc.lookup ("int" : Str) = some .globalImplicit) {a : E} (ha : cEs c es = .cons a .nil) {I : Fi} (ok : I.Ok W n) (lc : LcOk W c I) {l : List V} {h h' : Hp} {v : V}
    (e : evE (.toi a) P (ev P n) l h = .ok v h') {ex m} {D : Ld} {s : Shared} (S : SR W I c.names ex l h s.heap m D) {Q E : _} (hQ : ∀ val hp tk D', Ext D D' → SR W I c.names ex l h' hp m D' → VR W.toCw D' v val → Q val { s with heap := hp, toks := tk }) :
    wpAny (model W.prog W.w) I.A (eval (.Call (.Name "int" p) es [] pos) I.env) Q E s := by
  obtain ⟨va, h1, e0, e⟩ := bnd_ok (show bnd (evE a P (ev P n) l h) _ = .ok v h' from e)
  have e1 : evE (cEs c es) P (ev P n) l h = .ok (.tup [va]) h1 := by
    rw [ha]
    show bnd (evE a P (ev P n) l h) _ = _
    rw [e0]; rfl
  have hne : es ≠ [] := by rintro rfl; rw [cEs_0] at ha; cases ha
  refine Call_ (name_bi ok lc hd hs L.G.int bi_int (by decide) S ?_)
  refine type_args hes hne ok lc e1 S fun vs' vals hp tk D1 q X1 S1 V1 => ?_
  cases q
  cases V1 with
  | cons x r =>
    cases r
    split at e
    · rename_i b
      cases x with
      | bool =>
        refine call_int_bool ?_
        cases b with
        | true => obtain ⟨rfl, rfl⟩ := R_eq (show Mine.R.ok (V.n 1) h1 = .ok v h' from e); exact hQ _ _ _ D1 X1 S1 (.int _ rfl)
        | false => obtain ⟨rfl, rfl⟩ := R_eq (show Mine.R.ok (V.n 0) h1 = .ok v h' from e); exact hQ _ _ _ D1 X1 S1 (.int _ rfl)
      | int t hi => cases hi
    · cases e
theorem upL_ints {D : Ld} : ∀ (k a : Nat) (us : List Value), IntsAre us (rangeKs (Int.ofNat a) k) → VRs W.toCw D (upL k a 1) us
  | 0, a, us, h => by cases h; exact .nil
  | k + 1, a, us, h => by
    have e : rangeKs (Int.ofNat a) (k + 1) = Int.ofNat a :: rangeKs (Int.ofNat (a + 1)) k := by
      unfold rangeKs
      rw [List.range_succ_eq_map, List.map_cons, List.map_map]
      refine congr (congrArg List.cons (by simp)) (congrFun (congrArg List.map (funext fun i => ?_)) _)
      show Int.ofNat a + ((i + 1 : Nat) : Int) = Int.ofNat (a + 1) + (i : Int)
      simp only [Int.ofNat_eq_natCast]
      omega
    rw [e] at h
    cases h with
    | cons i t r => exact .cons (.int t rfl) (upL_ints k (a + 1) _ r)
theorem small_nat {b : Nat} (h : b < 64) : Builtin.Range.small (Int.ofNat 0) (Int.ofNat b) (Int.ofNat 1) = true :=
  small_one (by decide) (by decide) (by simp only [Int.ofNat_eq_natCast]; omega) (by simp only [Int.ofNat_eq_natCast]; omega)
theorem size_nat (b : Nat) : Builtin.Range.rangeSize (Int.ofNat 0) (Int.ofNat b) (Int.ofNat 1) = (b : Int) := by
  unfold Builtin.Range.rangeSize
  rw [if_pos (by decide)]
  by_cases z : Int.ofNat 0 < Int.ofNat b
  · rw [if_pos z]; simp only [Int.ofNat_eq_natCast] at z ⊢; omega
  · rw [if_neg z]; simp only [Int.ofNat_eq_natCast] at z ⊢; omega
theorem snd_ltl (L : Lv W P n) (hd : c.sc.lookup ("__debug__" : Str) = none) {p pos : Pos} {es : List Expr} (hes : SndEs W P n c es) (hs : c.sc.lookup ("list" : Str) = some .globalImplicit) {a : E} (ha : cEs c es = .cons a .nil) {I : Fi} (ok : I.Ok W n) (lc : LcOk W c I) {l : List V} {h h' : Hp} {v : V}
    (e : evE (.ltl a) P (ev P n) l h = .ok v h') {ex m} {D : Ld} {s : Shared} (S : SR W I c.names ex l h s.heap m D) {Q E : _} (hQ : ∀ val hp tk D', Ext D D' → SR W I c.names ex l h' hp m D' → VR W.toCw D' v val → Q val { s with heap := hp, toks := tk }) :
    wpAny (model W.prog W.w) I.A (eval (.Call (.Name "list" p) es [] pos) I.env) Q E s := by
  obtain ⟨va, h1, e0, e⟩ := bnd_ok (show bnd (evE a P (ev P n) l h) _ = .ok v h' from e)
  have e1 : evE (cEs c es) P (ev P n) l h = .ok (.tup [va]) h1 := by
    rw [ha]
    show bnd (evE a P (ev P n) l h) _ = _
    rw [e0]; rfl
  have hne : es ≠ [] := by rintro rfl; rw [cEs_0] at ha; cases ha
  refine Call_ (name_bi ok lc hd hs L.G.list bi_list (by decide) S ?_)
  refine type_args hes hne ok lc e1 S fun vs' vals hp tk D1 q X1 S1 V1 => ?_
  cases q
  cases V1 with
  | cons x r =>
    cases r
    split at e
    · rename_i b
      obtain ⟨hz, e⟩ := ifB_ok e
      rw [lnorm_eq] at e
      have hz := blt_lt hz
      cases x with
      | int t hi => cases hi
      | rng ha hb hc hm =>
        cases ha; cases hb; cases hc
        refine kll_range (n := b) rfl S1.F S1.N (S1.memi hm) (small_nat hz) (size_nat b) (by omega) fun adr us cc hp2 tk2 F2 N2 lt hi => ?_
        obtain ⟨D2, X2, S2, V2⟩ := S1.newList e F2 N2 lt (upL_ints b 0 us hi)
        exact hQ _ _ _ D2 (X1.trans X2) S2 V2
    · cases e
end Mine
end
section
open PySem PySem.Calls PyProof.Rows PySem.W PyProof.V
set_option Elab.async false
set_option maxRecDepth 100000
set_option linter.unusedVariables false
set_option autoImplicit false
namespace Mine
variable {W : Cs} {P : Prog} {n : Nat} {c : CC}
theorem Fi.Ok.mono {I : Fi} {k : Nat} (ok : I.Ok W n) (h : k ≤ n) : I.Ok W k := ⟨ok.B, ok.X, ok.T, ok.ck, ok.sc, by have := ok.dB; omega, by have := ok.uB; omega⟩
/-- what a statement's run hands on -/
structure Hand (W : Cs) (I : Fi) (names : List Str) (ex : List (Addr × Obj)) (D : Ld) (s : Shared) (r : RS) (Q : Flow → Shared → Prop) : Prop where
  no : r ≠ .fail
  next : ∀ l' h', r = .next l' h' → ∀ hp tk m' D', Ext D D' → SR W I names ex l' h' hp m' D' → Q .next { s with heap := hp, toks := tk }
  ret : ∀ v h', r = .ret v h' → ∀ val hp tk m' D' l', Ext D D' → SR W I names ex l' h' hp m' D' → VR W.toCw D' v val → Q (.ret val) { s with heap := hp, toks := tk }
noncomputable def SndS (W : Cs) (P : Prog) (n : Nat) (c : CC) (st : Stmt) : Prop := ∀ (I : Fi), I.Ok W n → LcOk W c I → ∀ l h r, evS (cS c st) P (ev P n) l h = r → ∀ ex m D (s : Shared), SR W I c.names ex l h s.heap m D → ∀ (Q : Flow → Shared → Prop) (E : Value → Shared → Prop), Hand W I c.names ex D s r Q → wpAny (model W.prog W.w) I.A (exec st I.env) Q E s
noncomputable def SndL (W : Cs) (P : Prog) (n : Nat) (c : CC) (st : List Stmt) : Prop := ∀ (I : Fi), I.Ok W n → LcOk W c I → ∀ l h r, evS (cB c st) P (ev P n) l h = r → ∀ ex m D (s : Shared), SR W I c.names ex l h s.heap m D → ∀ (Q : Flow → Shared → Prop) (E : Value → Shared → Prop), Hand W I c.names ex D s r Q → wpAny (model W.prog W.w) I.A (execs st I.env) Q E s
theorem bndS_ok {α : Type} {r : R α} {k : α → Hp → RS} {x : RS} (e : bndS r k = x) (h : x ≠ .fail) : ∃ a hh, r = .ok a hh ∧ k a hh = x := by
  cases r with
  | fail => exact absurd e.symm h
  | ok a hh => exact ⟨a, hh, rfl, e⟩
theorem oS_ok {α : Type} {r : Option α} {k : α → RS} {x : RS} (e : oS r k = x) (h : x ≠ .fail) : ∃ a, r = some a ∧ k a = x := by
  cases r with
  | none => exact absurd e.symm h
  | some a => exact ⟨a, rfl, e⟩
theorem onS_ok {v : V} {k : List V → RS} {x : RS} (e : onT v .fail k = x) (h : x ≠ .fail) : ∃ l, v = .tup l ∧ k l = x := by
  unfold onT at e
  split at e
  · exact ⟨_, rfl, e⟩
  · exact absurd e.symm h
theorem no_swap {e : Expr} {l : List V} {h : Hp} {v : V} {h' : Hp} (ev : evE (cE c e) P (ev P n) l h = .ok v h') (t : Option Expr) (k : Nat) (env : Env) : swapsWith e t k env = pure false := by
  cases e <;> first | rfl | (cases ev; done)
/-- an attribute stored -/
theorem attr_write (G : GlOk W P) {I : Fi} {names ex l h m} {D : Ld} {s : Shared} (S : SR W I names ex l h s.heap m D) (ok : I.Ok W n) {x : Nat} {o v : V} {nm : Str} (hx : W.an[x]? = some nm) {h2 : Hp} (e : putAttr h x v o = some h2) {ov val : Value} (ho : VR W.toCw D o ov) (hv : VR W.toCw D v val) {A : Around} {Q E : _}
    (hQ : ∀ hp tk D', Ext D D' → SR W I names ex l h2 hp m D' → Q () { s with heap := hp, toks := tk }) : wpAny (model W.prog W.w) A (setAttr ov nm val) Q E s := by
  unfold putAttr at e
  split at e
  · obtain ⟨ob, hob, e⟩ := oO_some e
    cases ob with
    | list l' => cases e
    | hole => cases e
    | inst cc fs =>
      obtain ⟨adr, d, C, es, nn, rfl, hk, hC, hi, hd, hr, h100⟩ := S.inst hob ho
      obtain ⟨fs', e2, H⟩ := fput_ok G.an hr hx (show fput fs x v 100 _ = some h2 from e)
      obtain ⟨H1, H2⟩ := H (PyData.keyHash W.w.params nm) (s.toks + 1) val hv
      obtain ⟨mu', U, K'⟩ := S.dictTurn (n' := putN nm es nn) hob e2 hk hC hi hd H1 (by rcases H2 with z | z <;> omega)
      have T := G.attr C (List.mem_of_getElem? hC) nm (List.mem_of_getElem? hx)
      refine set_dict S.F ok.X S.N (InstAt.of_news S.N (List.mem_append_left _ hi) (List.mem_append_left _ hd)) rfl T.set T.over T.takes T.dict (getL_some hr nm) rfl U (by rcases H2 with z | z <;> omega) fun hp' F N => ?_
      exact hQ hp' _ ⟨mu', D.imm, D.ρ⟩ ⟨fun q hq => hq, fun k q hq => hq⟩ (K' hp' F N)
  · cases e
/-- an item stored -/
theorem item_write {I : Fi} {names ex l h m} {D : Ld} {s : Shared} (S : SR W I names ex l h s.heap m D) (ok : I.Ok W n) {a b v : V} {h2 : Hp} (e : putItem h v a b = some h2) {ov iv val : Value} (ho : VR W.toCw D a ov) (hi : VR W.toCw D b iv) (hv : VR W.toCw D v val) {A : Around} {Q E : _}
    (hQ : ∀ hp D', Ext D D' → SR W I names ex l h2 hp m D' → Q () { s with heap := hp }) : wpAny (model W.prog W.w) A (setItem ov iv val) Q E s := by
  unfold putItem at e
  split at e
  · rename_i i
    obtain ⟨hlt, e9⟩ := ifB_some e
    clear e
    have hlt := lim_lt hlt
    split at e9
    · rename_i k
      have e := e9
      obtain ⟨vs, hl, e⟩ := oO_some e
      obtain ⟨vs', hset, e⟩ := oO_some e
      obtain ⟨adr, its, nn, rfl, hm, hr⟩ := S.list hl ho
      obtain ⟨t, rfl⟩ := hi.toInt (i := Int.ofNat i) rfl
      obtain ⟨rfl, hlen⟩ := lset_some hset
      obtain ⟨Hf, p, H, _, hget', hρ, hd, _⟩ := S.hole (listAt_some hl) (by intro q; cases q)
      have hp1 : D.ρ[k]? = some (adr, adr) := by
        cases ho with
        | obj hk => rw [hρ] at hk; cases hk; rw [hρ]; exact congrArg some (Prod.ext rfl hd)
      have hsz := hr.length
      have hsz2 : its.toList.length = its.size := Array.length_toList
      obtain ⟨mu', U, K'⟩ := S.listTurn (n' := nn) (its' := its.setIfInBounds i val) (listAt_some hl) e hp1 hm (by rw [Array.toList_setIfInBounds]; exact hr.set hv)
      obtain ⟨pre, post, e1, e2, a1, a2⟩ := U.split
      have z := S.N (adr, listOf its nn) (by rw [e1]; exact List.mem_append_right _ (.head _))
      refine ki_setAt (n := nn) z.1 (by simp only [Int.ofNat_eq_natCast]; omega) (by simp only [Int.ofNat_eq_natCast]; omega) (by simp only [Int.ofNat_eq_natCast]; omega) ?_
      refine hQ _ ⟨mu', D.imm, D.ρ⟩ ⟨fun q hq => hq, fun k q hq => hq⟩ (K' _ (S.F.change (Heap.SameBut.update ..) z.2.1 z.2.2) ?_)
      rw [e2]
      exact ki_turn _ (e1 ▸ S.N) a1 a2 rfl (by simp)
    · cases e9
  · cases e
theorem sndL_nil : SndL W P n c [] := by
  intro I ok lc l h r e ex m D s S Q E H
  have e' : RS.next l h = r := by rw [cB] at e; exact e
  subst e'
  exact wpAny_execs_nil (H.next l h rfl s.heap s.toks m D (Ext.refl D) S)
theorem Hand.from {I : Fi} {names ex} {D D1 : Ld} {s s1 : Shared} {r : RS} {Q : Flow → Shared → Prop} (H : Hand W I names ex D s r Q) (X : Ext D D1) {hp : Heap} {tk : Nat} (e : s1 = { s with heap := hp, toks := tk }) : Hand W I names ex D1 s1 r Q := by
  subst e
  exact ⟨H.no, fun l' h' q hp tk m' D' X' S' => H.next l' h' q hp tk m' D' (X.trans X') S', fun v h' q val hp tk m' D' l' X' S' V' => H.ret v h' q val hp tk m' D' l' (X.trans X') S' V'⟩
theorem sndL_cons {st : Stmt} {r : List Stmt} (hs : SndS W P n c st) (hr : SndL W P n c r) : SndL W P n c (st :: r) := by
  intro I ok lc l h x e ex m D s S Q E H
  have e' : @RS.rec (fun _ => RS) .fail (evS (cB c r) P (ev P n)) (fun v h => .ret v h) (evS (cS c st) P (ev P n) l h) = x := by rw [cB] at e; exact e
  refine wpAny_execs_cons (hs I ok lc l h _ rfl ex m D s S _ E ⟨fun q => ?_, fun l' h' q hp tk m' D' X' S' => ?_, fun v h' q val hp tk m' D' l' X' S' V' => ?_⟩)
  · rw [q] at e'; exact H.no e'.symm
  · rw [q] at e'
    exact hr I ok lc l' h' x e' ex m' D' _ S' Q E (H.from X' rfl)
  · rw [q] at e'
    exact H.ret v h' e'.symm val hp tk m' D' l' X' S' V'
theorem snd_Pass {pos : Pos} : SndS W P n c (.Pass pos) := by
  intro I ok lc l h r e ex m D s S Q E H
  have e' : RS.next l h = r := by rw [cS_Pass] at e; exact e
  subst e'
  exact wpAny_Pass (H.next l h rfl s.heap s.toks m D (Ext.refl D) S)
theorem snd_Ret {x : Expr} {pos : Pos} (hx : SndE W P n c x) : SndS W P n c (.Return (some x) pos) := by
  intro I ok lc l h r e ex m D s S Q E H
  have e' : bndS (evE (cE c x) P (ev P n) l h) (fun v h => .ret v h) = r := by rw [cS_Ret] at e; exact e
  obtain ⟨v, h', e1, rfl⟩ := bndS_ok e' H.no
  exact wpAny_Return_some (hx I ok lc _ _ _ _ e1 ex m D s S _ _ fun val hp tk D' X' S' V' => H.ret v h' rfl val hp tk m D' l X' S' V')
theorem snd_Ret0 {pos : Pos} : SndS W P n c (.Return none pos) := by
  intro I ok lc l h r e ex m D s S Q E H
  have e' : RS.ret .no h = r := by rw [cS_Ret0] at e; exact e
  subst e'
  exact wpAny_Return_none (H.ret .no h rfl .none s.heap s.toks m D l (Ext.refl D) S .no)
theorem snd_Ex {x : Expr} {pos : Pos} (hx : SndE W P n c x) : SndS W P n c (.Expr x pos) := by
  intro I ok lc l h r e ex m D s S Q E H
  have e' : bndS (evE (cE c x) P (ev P n) l h) (fun v h => .next l h) = r := by rw [cS_Ex] at e; exact e
  obtain ⟨v, h', e1, rfl⟩ := bndS_ok e' H.no
  refine wpAny_Expr_any (hx I ok lc _ _ _ _ e1 ex m D s S _ _ fun val hp tk D' X' S' V' => H.next l h' rfl hp tk m D' X' S') ?_ (no_swap e1 _ _ _)
  show (I.cs.kind == .module && _) = false
  rw [ok.ck]; rfl
theorem snd_If {t : Expr} {a b : List Stmt} {pos : Pos} (ht : SndT W P n c t) (ha : SndL W P n c a) (hb : SndL W P n c b) : SndS W P n c (.If t a b pos) := by
  intro I ok lc l h r e ex m D s S Q E H
  have e' : bndS (evE (cE c t) P (ev P n) l h) (fun t h => oS (truthV t) fun t => ifB t (evS (cB c a) P (ev P n) l h) (evS (cB c b) P (ev P n) l h)) = r := by rw [cS_If] at e; exact e
  obtain ⟨v, h', e1, e'⟩ := bndS_ok e' H.no
  obtain ⟨bb, hb', e'⟩ := oS_ok e' H.no
  refine wpAny_If (ht I ok lc _ _ _ _ _ e1 hb' ex m D s S _ _ fun hp tk D' X' S' => ?_)
  cases bb with
  | true => rw [if_pos rfl]; exact ha I ok lc _ _ _ e' ex m D' _ S' Q E (H.from X' rfl)
  | false => rw [if_neg (by decide)]; exact hb I ok lc _ _ _ e' ex m D' _ S' Q E (H.from X' rfl)
theorem store_ok {I : Fi} (ok : I.Ok W n) (lc : LcOk W c I) {x : Str} {k : Nat} (hx : idx x c.names = some k) (hs : c.sc.lookup x = some .local) {ex l h m} {D : Ld} {s : Shared} (S : SR W I c.names ex l h s.heap m D) {v : V} {val : Value} (hv : VR W.toCw D v val) {l' : List V} (e : lset l k v = some l') {Q E : _}
    (hQ : ∀ hp tk m', SR W I c.names ex l' h hp m' D → Q () { s with heap := hp, toks := tk }) : wpAny (model W.prog W.w) I.A (storeName I.env x val) Q E s :=
  stN S.F S.N (fun hp F N => hQ hp _ _ (S.setLoc hx hv e F N)) ok.ck (by show I.cs.names.lookup x = _; rw [lc.sc]; exact hs)
theorem snd_AsL {x : Str} {y : Expr} {p pos : Pos} (hy : SndE W P n c y) {k : Nat} (hx : idx x c.names = some k) (hs : c.sc.lookup x = some .local) {I : Fi} (ok : I.Ok W n) (lc : LcOk W c I) {l : List V} {h : Hp} {r : RS} (e : evS (.asL k (cE c y)) P (ev P n) l h = r) {ex m} {D : Ld} {s : Shared} (S : SR W I c.names ex l h s.heap m D) {Q E : _}
    (H : Hand W I c.names ex D s r Q) : wpAny (model W.prog W.w) I.A (exec (.Assign [.Name x p] y pos) I.env) Q E s := by
  obtain ⟨v, h', e1, e'⟩ := bndS_ok (show bndS (evE (cE c y) P (ev P n) l h) _ = r from e) H.no
  obtain ⟨l', hl, rfl⟩ := oS_ok e' H.no
  refine wpAny_Assign_Name (hy I ok lc _ _ _ _ e1 ex m D s S _ _ fun val hp tk D' X' S' V' => ?_) (no_swap e1 _ _ _)
  exact store_ok ok lc hx hs S' V' hl fun hp2 tk2 m2 S2 => H.next l' h' rfl hp2 tk2 m2 D' X' S2
theorem snd_AsA (L : Lv W P n) {o y : Expr} {x : Str} {p pos : Pos} (ho : SndE W P n c o) (hy : SndE W P n c y) {k : Nat} (hx : idx x c.attrs = some k) {I : Fi} (ok : I.Ok W n) (lc : LcOk W c I) {l : List V} {h : Hp} {r : RS} (e : evS (.asA (cE c o) k (cE c y)) P (ev P n) l h = r) {ex m} {D : Ld} {s : Shared} (S : SR W I c.names ex l h s.heap m D) {Q E : _}
    (H : Hand W I c.names ex D s r Q) : wpAny (model W.prog W.w) I.A (exec (.Assign [.Attribute o x p] y pos) I.env) Q E s := by
  obtain ⟨v, h', e1, e'⟩ := bndS_ok (show bndS (evE (cE c y) P (ev P n) l h) _ = r from e) H.no
  obtain ⟨vo, h2, e2, e'⟩ := bndS_ok e' H.no
  obtain ⟨h3, hp3, rfl⟩ := oS_ok e' H.no
  refine plainObj_wpAny_Assign_Attribute (hy I ok lc _ _ _ _ e1 ex m D s S _ _ fun val hp tk D1 X1 S1 V1 => ho I ok lc _ _ _ _ e2 ex m D1 _ S1 _ _ fun ov p2 t2 D2 X2 S2 V2 => ?_) (no_swap e1 _ _ _)
  exact attr_write L.G S2 ok (idx_an lc.an hx) hp3 V2 (V1.mono X2) fun hp4 tk4 D4 X4 S4 => H.next l h3 rfl hp4 tk4 m D4 ((X1.trans X2).trans X4) S4
theorem snd_AsS {o i y : Expr} {p pos : Pos} (ho : SndE W P n c o) (hi : SndE W P n c i) (hy : SndE W P n c y) {I : Fi} (ok : I.Ok W n) (lc : LcOk W c I) {l : List V} {h : Hp} {r : RS} (e : evS (.asS (cE c o) (cE c i) (cE c y)) P (ev P n) l h = r) {ex m} {D : Ld} {s : Shared} (S : SR W I c.names ex l h s.heap m D) {Q E : _}
    (H : Hand W I c.names ex D s r Q) : wpAny (model W.prog W.w) I.A (exec (.Assign [.Subscript o i p] y pos) I.env) Q E s := by
  obtain ⟨v, h', e1, e'⟩ := bndS_ok (show bndS (evE (cE c y) P (ev P n) l h) _ = r from e) H.no
  obtain ⟨vo, h2, e2, e'⟩ := bndS_ok e' H.no
  obtain ⟨vi', h3, e3, e'⟩ := bndS_ok e' H.no
  obtain ⟨h4, hp4, rfl⟩ := oS_ok e' H.no
  refine wpAny_Assign_Subscript (hy I ok lc _ _ _ _ e1 ex m D s S _ _ fun val hp tk D1 X1 S1 V1 => ho I ok lc _ _ _ _ e2 ex m D1 _ S1 _ _ fun ov p2 t2 D2 X2 S2 V2 => hi I ok lc _ _ _ _ e3 ex m D2 _ S2 _ _ fun iv p3 t3 D3 X3 S3 V3 => ?_) (no_swap e1 _ _ _)
  exact item_write S3 ok hp4 (V2.mono X3) V3 ((V1.mono X2).mono X3) fun hp5 D4 X4 S4 => H.next l h4 rfl hp5 t3 m D4 (((X1.trans X2).trans X3).trans X4) S4
theorem snd_AuL {x : Str} {y : Expr} {o : Operator} {op : Op} (hop : opOf o = some op) {p pos : Pos} (hy : SndE W P n c y) {k : Nat} (hx : idx x c.names = some k) (hs : c.sc.lookup x = some .local) {I : Fi} (ok : I.Ok W n) (lc : LcOk W c I) {l : List V} {h : Hp} {r : RS} (e : evS (.auL op k (cE c y)) P (ev P n) l h = r) {ex m} {D : Ld} {s : Shared} (S : SR W I c.names ex l h s.heap m D) {Q E : _}
    (H : Hand W I c.names ex D s r Q) : wpAny (model W.prog W.w) I.A (exec (.AugAssign (.Name x p) o y pos) I.env) Q E s := by
  obtain ⟨va, h1, e0, e'⟩ := bndS_ok (show bndS (evE (.loc k) P (ev P n) l h) _ = r from e) H.no
  obtain ⟨v, h', e1, e'⟩ := bndS_ok e' H.no
  obtain ⟨w, hw, e'⟩ := oS_ok e' H.no
  obtain ⟨l', hl, rfl⟩ := oS_ok e' H.no
  obtain ⟨u, hu, e0⟩ := oB_ok (show oB (lget l k) _ = .ok va h1 from e0)
  obtain ⟨a, b, z, ha, hb, hz, kk⟩ := opV_ok hw
  rcases S.lc x k hx u hu with rfl | ⟨old, hm, hv⟩
  · cases e0
  · have : u = va ∧ h = h1 := by
      split at e0
      · cases e0
      · exact R_eq e0
    obtain ⟨rfl, rfl⟩ := this
    refine wpAny_AugAssign_Name (ldn S.F hm (hy I ok lc _ _ _ _ e1 ex m D s S _ _ fun val hp tk D1 X1 S1 V1 => ?_) ok.ck (by show I.cs.names.lookup x = _; rw [lc.sc]; exact hs))
    obtain ⟨t, rfl⟩ := hv.toInt ha
    obtain ⟨t', rfl⟩ := V1.toInt hb
    refine aug_int hop kk ?_
    exact store_ok ok lc hx hs (s := { s with heap := hp, toks := tk + 1 }) S1 (.int _ hz) hl fun hp2 tk2 m2 S2 => H.next l' h' rfl hp2 tk2 m2 D1 X1 S2
theorem snd_AuA (L : Lv W P n) {a y : Expr} {x : Str} {o : Operator} {op : Op} (hop : opOf o = some op) {p pos : Pos} (ha : SndE W P n c a) (hy : SndE W P n c y) {k : Nat} (hx : idx x c.attrs = some k) {I : Fi} (ok : I.Ok W n) (lc : LcOk W c I) {l : List V} {h : Hp} {r : RS} (e : evS (.auA op (cE c a) k (cE c y)) P (ev P n) l h = r) {ex m} {D : Ld} {s : Shared} (S : SR W I c.names ex l h s.heap m D) {Q E : _}
    (H : Hand W I c.names ex D s r Q) : wpAny (model W.prog W.w) I.A (exec (.AugAssign (.Attribute a x p) o y pos) I.env) Q E s := by
  obtain ⟨vo, h1, e0, e'⟩ := bndS_ok (show bndS (evE (cE c a) P (ev P n) l h) _ = r from e) H.no
  obtain ⟨va, hva, e'⟩ := oS_ok e' H.no
  obtain ⟨v, h2, e1, e'⟩ := bndS_ok e' H.no
  obtain ⟨w, hw, e'⟩ := oS_ok e' H.no
  obtain ⟨h3, h3e, rfl⟩ := oS_ok e' H.no
  obtain ⟨i, j, z, hi, hj, hz, kk⟩ := opV_ok hw
  refine wpAny_AugAssign_AttributeAny (ha I ok lc _ _ _ _ e0 ex m D s S _ _ fun ov hp tk D1 X1 S1 V1 => ?_)
  refine attr_read L.G S1 ok (idx_an lc.an hx) hva V1 rfl fun old t2 hold => ?_
  refine hy I ok lc _ _ _ _ e1 ex m D1 _ S1 _ _ fun val p3 t3 D3 X3 S3 V3 => ?_
  obtain ⟨t, rfl⟩ := hold.toInt hi
  obtain ⟨t', rfl⟩ := V3.toInt hj
  refine aug_int hop kk ?_
  exact attr_write L.G (s := { s with heap := p3, toks := t3 + 1 }) S3 ok (idx_an lc.an hx) h3e (V1.mono X3) (.int _ hz) fun hp4 tk4 D4 X4 S4 => H.next l h3 rfl hp4 tk4 m D4 ((X1.trans X3).trans X4) S4
theorem snd_AuS {a i y : Expr} {o : Operator} {op : Op} (hop : opOf o = some op) {p pos : Pos} (ha : SndE W P n c a) (hi : SndE W P n c i) (hy : SndE W P n c y) {I : Fi} (ok : I.Ok W n) (lc : LcOk W c I) {l : List V} {h : Hp} {r : RS} (e : evS (.auS op (cE c a) (cE c i) (cE c y)) P (ev P n) l h = r) {ex m} {D : Ld} {s : Shared} (S : SR W I c.names ex l h s.heap m D) {Q E : _}
    (H : Hand W I c.names ex D s r Q) : wpAny (model W.prog W.w) I.A (exec (.AugAssign (.Subscript a i p) o y pos) I.env) Q E s := by
  obtain ⟨vo, h1, e0, e'⟩ := bndS_ok (show bndS (evE (cE c a) P (ev P n) l h) _ = r from e) H.no
  obtain ⟨vj, h1', e0', e'⟩ := bndS_ok e' H.no
  obtain ⟨va, hva, e'⟩ := oS_ok e' H.no
  obtain ⟨v, h2, e1, e'⟩ := bndS_ok e' H.no
  obtain ⟨w, hw, e'⟩ := oS_ok e' H.no
  obtain ⟨h3, h3e, rfl⟩ := oS_ok e' H.no
  obtain ⟨x, j, z, hx, hj, hz, kk⟩ := opV_ok hw
  refine wpAny_AugAssign_SubscriptAny (ha I ok lc _ _ _ _ e0 ex m D s S _ _ fun ov hp tk D1 X1 S1 V1 => hi I ok lc _ _ _ _ e0' ex m D1 _ S1 _ _ fun iv p2 t2 D2 X2 S2 V2 => ?_) ?_
  · refine getItem_ok S2 ok hva (V1.mono X2) V2 rfl fun old hold => ?_
    refine hy I ok lc _ _ _ _ e1 ex m D2 _ S2 _ _ fun val p3 t3 D3 X3 S3 V3 => ?_
    obtain ⟨t, rfl⟩ := hold.toInt hx
    obtain ⟨t', rfl⟩ := V3.toInt hj
    refine aug_int hop kk ?_
    exact item_write (s := { s with heap := p3, toks := t3 + 1 }) S3 ok h3e ((V1.mono X2).mono X3) (V2.mono X3) (.int _ hz) fun hp4 D4 X4 S4 => H.next l h3 rfl hp4 _ m D4 (((X1.trans X2).trans X3).trans X4) S4
  · intro _ _ _
    cases i <;> first | rfl | (cases e0'; done)
end Mine
end
section
open PySem PySem.Calls PyProof.Rows PySem.W PyProof.V
set_option Elab.async false
set_option maxRecDepth 100000
set_option linter.unusedVariables false
set_option autoImplicit false
namespace Mine
variable {W : Cs} {P : Prog} {n : Nat} {c : CC}
theorem snd_While {t : Expr} {b : List Stmt} {pos : Pos} (ht : ∀ k, k ≤ n → SndT W P k c t) (hb : ∀ k, k ≤ n → SndL W P k c b) : SndS W P n c (.While t b [] pos) := by
  intro I ok lc l h r e ex m D s S Q E H
  rw [cS_While] at e
  refine wpAny_While (codeAny_whileLoop (fun j s' => j ≤ n ∧ ∃ l h hp tk m D', s' = { s with heap := hp, toks := tk } ∧ Ext D D' ∧ evS (.whl (cE c t) (cB c b)) P (ev P j) l h = r ∧ SR W I c.names ex l h hp m D') ?_ n ⟨Nat.le_refl n, l, h, s.heap, s.toks, m, D, rfl, Ext.refl D, e, S⟩)
  rintro j s' ⟨hj, l, h, hp, tk, m, D', rfl, X, e, S⟩
  obtain ⟨v, h1, e1, e⟩ := bndS_ok (show bndS (evE (cE c t) P (ev P j) l h) _ = r from e) H.no
  obtain ⟨bb, hb', e⟩ := oS_ok e H.no
  refine ht j hj I (ok.mono hj) lc _ _ _ _ _ e1 hb' ex m D' _ S _ _ fun hp2 tk2 D2 X2 S2 => ?_
  cases bb with
  | true =>
    rw [if_pos rfl]
    have e : @RS.rec (fun _ => RS) .fail (ev P j (.whl (cE c t) (cB c b))) (fun v h => .ret v h) (evS (cB c b) P (ev P j) l h1) = r := e
    refine hb j hj I (ok.mono hj) lc l h1 _ rfl ex m D2 _ S2 _ _ ⟨fun q => ?_, fun l' h' q hp3 tk3 m3 D3 X3 S3 => ?_, fun v h' q val hp3 tk3 m3 D3 l3 X3 S3 V3 => ?_⟩
    · rw [q] at e; exact H.no e.symm
    · rw [q] at e
      have e : ev P j (.whl (cE c t) (cB c b)) l' h' = r := e
      cases j with
      | zero => exact absurd e.symm H.no
      | succ j => exact ⟨j, Nat.lt_succ_self j, by omega, l', h', hp3, tk3, m3, D3, rfl, (X.trans X2).trans X3, e, S3⟩
    · rw [q] at e
      exact H.ret v h' e.symm val hp3 tk3 m3 D3 l3 ((X.trans X2).trans X3) S3 V3
  | false =>
    rw [if_neg (by decide)]
    have e : RS.next l h1 = r := e
    exact wpAny_execs_nil (H.next l h1 e.symm hp2 tk2 m D2 (X.trans X2) S2)
/-! loops -/
/-- an iterator comes onto the ledger -/
theorem SR.itNew {I : Fi} {names ex l h hp m} {D : Ld} (S : SR W I names ex l h hp m D) {o : Obj} (hi : IsIt o) (hf : o.isFreed = false) : ∃ D', Ext D D' ∧ SR W I names ((hp.objs.size, o) :: ex) l h (hp.push o) m D' := by
  have X : Ext D ⟨(hp.objs.size, o) :: D.mu, D.imm, D.ρ⟩ := ⟨fun q hq => hq, fun k q hq => hq⟩
  have N := S.N.push S.F o hf
  refine ⟨⟨(hp.objs.size, o) :: D.mu, D.imm, D.ρ⟩, X, S.F.push o, N, ?_, S.im, fun q hq => ?_, ?_, fun x k hx v hv => (S.lc x k hx v hv).imp id fun ⟨val, a, b⟩ => ⟨val, a, b.mono X⟩⟩
  · rw [List.map_cons]
    refine List.nodup_cons.mpr ⟨fun hm => ?_, S.nd⟩
    obtain ⟨q, hq, e⟩ := List.mem_map.mp hm
    exact absurd (Heap.lt_size (S.mem hq)) (e ▸ Nat.lt_irrefl _)
  · rcases List.mem_cons.mp hq with rfl | hq
    · exact ⟨.head _, hi⟩
    · exact ⟨.tail _ (S.ex q hq).1, (S.ex q hq).2⟩
  · obtain ⟨Hf, f, H⟩ := S.H
    exact ⟨Hf, f, H.len, H.inj, fun k o e => let ⟨p, a, b⟩ := H.at_ k o e; ⟨p, a, b.mono X fun q hq _ => .tail _ hq⟩⟩
theorem it_ne {o : Obj} (h : IsIt o) : o.cls ≠ .type "tuple" ∧ o.cls ≠ .type "range" ∧ o.cls ≠ .type "list" ∧ o.cls ≠ .type "dict" ∧ ∀ a, o.cls ≠ .ref a := by
  rcases h with h | h | h <;> rw [h] <;> exact ⟨fun q => absurd (Value.type.inj q) (by decide), fun q => absurd (Value.type.inj q) (by decide), fun q => absurd (Value.type.inj q) (by decide), fun q => absurd (Value.type.inj q) (by decide), fun a q => by cases q⟩
/-- the iterator turned -/
theorem SR.itTurn {I : Fi} {names ex l h hp m} {D : Ld} {it : Addr} {o : Obj} (S : SR W I names ((it, o) :: ex) l h hp m D) {o' : Obj} (hi : IsIt o') {hp' : Heap} (hs : Heap.SameBut it hp hp') (ho : hp'.get? it = some o') (hex : ∀ q ∈ ex, q.1 ≠ it) : ∃ D', Ext D D' ∧ SR W I names ((it, o') :: ex) l h hp' m D' := by
  obtain ⟨hm, hio⟩ := S.ex _ (.head _)
  have ne := it_ne hio
  obtain ⟨pre, post, e, U, nd, keep⟩ := S.upd hm ⟨ne.1, ne.2.1⟩ o'
  have X : Ext D ⟨pre ++ (it, o') :: post, D.imm, D.ρ⟩ := ⟨fun q hq => hq, fun k q hq => hq⟩
  have z := S.N (it, o) (List.mem_append_left _ hm)
  have off : ∀ q ∈ D.mu, q.2.cls ≠ o.cls → q ∈ pre ++ (it, o') :: post := fun q hq c => keep q hq fun z => by
    have := S.same hq hm z
    rw [this] at c; exact c rfl
  refine ⟨_, X, S.F.change hs z.2.1 z.2.2, ?_, nd, S.im, fun q hq => ?_, ?_, fun x k hx v hv => (S.lc x k hx v hv).imp id fun ⟨val, a, b⟩ => ⟨val, a, b.mono X⟩⟩
  · obtain ⟨p1, p2, e1, e2, a1, a2⟩ := U.split
    show News I.h₀ I.L hp' ((pre ++ (it, o') :: post) ++ D.imm)
    rw [e2]
    exact news_set (e1 ▸ S.N) a1 a2 hs ho
  · rcases List.mem_cons.mp hq with rfl | hq
    · exact ⟨List.mem_append_right _ (.head _), hi⟩
    · exact ⟨keep q (S.ex q (.tail _ hq)).1 (hex q hq), (S.ex q (.tail _ hq)).2⟩
  · obtain ⟨Hf, f, H⟩ := S.H
    refine ⟨Hf, f, H.len, H.inj, fun k ob e => let ⟨p, a, b⟩ := H.at_ k ob e; ⟨p, a, ?_⟩⟩
    cases ob with
    | list us => obtain ⟨e0, its, nn, hm', r⟩ := b; exact ⟨e0, its, nn, off _ hm' (Ne.symm ne.2.2.1), r.mono X⟩
    | inst cc fs => obtain ⟨C, h1, h2, es, nn, h3, h4, h5⟩ := b; exact ⟨C, h1, off _ h2 (Ne.symm (ne.2.2.2.2 _)), es, nn, off _ h3 (Ne.symm ne.2.2.2.1), h4.mono X, h5⟩
    | hole => exact b
/-- the iterator is done -/
theorem SR.itEnd {I : Fi} {names ex l h hp m} {D : Ld} {it : Addr} {o : Obj} (S : SR W I names ((it, o) :: ex) l h hp m D) {hp' : Heap} (hs : Heap.ExtBut it hp hp') (hex : ∀ q ∈ ex, q.1 ≠ it) : ∃ D', Ext D D' ∧ SR W I names ex l h hp' m D' := by
  obtain ⟨hm, hio⟩ := S.ex _ (.head _)
  have ne := it_ne hio
  obtain ⟨pre, post, e⟩ := List.append_of_mem hm
  have nd := S.nd
  rw [e, List.map_append, List.map_cons] at nd
  have nd' := List.nodup_append.mp nd
  have h1 : ∀ q ∈ pre, q.1 ≠ it := fun q hq => nd'.2.2 q.1 (List.mem_map_of_mem hq) it (.head _)
  have h2 : ∀ q ∈ post, q.1 ≠ it := fun q hq z => (List.nodup_cons.mp nd'.2.1).1 (List.mem_map.mpr ⟨q, hq, z⟩)
  have h3 : ∀ q ∈ D.imm, q.1 ≠ it := fun q hq z => by
    have a := S.memi hq
    have b := S.mem hm
    rw [z] at a
    have := Option.some.inj (a.symm.trans b)
    rcases S.im q hq with k | k
    · rw [this] at k; exact ne.1 k
    · rw [this] at k; exact ne.2.1 k
  have X : Ext D ⟨pre ++ post, D.imm, D.ρ⟩ := ⟨fun q hq => hq, fun k q hq => hq⟩
  have z := S.N (it, o) (List.mem_append_left _ hm)
  have sub : ∀ q ∈ pre ++ post, q ∈ D.mu ∧ q.1 ≠ it := fun q hq => by
    rw [e]
    rcases List.mem_append.mp hq with z | z
    · exact ⟨List.mem_append_left _ z, h1 q z⟩
    · exact ⟨List.mem_append_right _ (.tail _ z), h2 q z⟩
  have keep : ∀ q ∈ D.mu, q.1 ≠ it → q ∈ pre ++ post := fun q hq hne => by
    rw [e] at hq
    rcases List.mem_append.mp hq with z | z
    · exact List.mem_append_left _ z
    · rcases List.mem_cons.mp z with z | z
      · rw [z] at hne; exact absurd rfl hne
      · exact List.mem_append_right _ z
  have off : ∀ q ∈ D.mu, q.2.cls ≠ o.cls → q ∈ pre ++ post := fun q hq c => keep q hq fun z => by
    have := S.same hq hm z
    rw [this] at c; exact c rfl
  obtain ⟨oL, a1, a2, hoL, a3⟩ := S.F.ns
  refine ⟨⟨pre ++ post, D.imm, D.ρ⟩, X, ⟨⟨oL, a1, a2, hs _ _ (Ne.symm z.2.1) hoL, a3⟩, fun b ob eb => ?_, S.F.above⟩, fun q hq => ?_, ?_, S.im, fun q hq => ⟨keep q (S.ex q (.tail _ hq)).1 (hex q hq), (S.ex q (.tail _ hq)).2⟩, ?_, fun x k hx v hv => (S.lc x k hx v hv).imp id fun ⟨val, a, b⟩ => ⟨val, a, b.mono X⟩⟩
  · refine hs _ _ (fun q => ?_) (S.F.keep b ob eb)
    have := z.2.2
    rw [← q, eb] at this; cases this
  · rcases List.mem_append.mp hq with w | w
    · have := sub q w
      have N := S.N q (List.mem_append_left _ this.1)
      exact ⟨hs _ _ this.2 N.1, N.2⟩
    · have N := S.N q (List.mem_append_right _ w)
      exact ⟨hs _ _ (h3 q w) N.1, N.2⟩
  · rw [List.map_append]
    exact List.nodup_append.mpr ⟨nd'.1, (List.nodup_cons.mp nd'.2.1).2, fun a ha b hb => nd'.2.2 a ha b (.tail _ hb)⟩
  · obtain ⟨Hf, f, H⟩ := S.H
    refine ⟨Hf, f, H.len, H.inj, fun k ob e => let ⟨p, a, b⟩ := H.at_ k ob e; ⟨p, a, ?_⟩⟩
    cases ob with
    | list us => obtain ⟨e0, its, nn, hm', r⟩ := b; exact ⟨e0, its, nn, off _ hm' (Ne.symm ne.2.2.1), r.mono X⟩
    | inst cc fs => obtain ⟨C, h1, h2, es, nn, h3, h4, h5⟩ := b; exact ⟨C, h1, off _ h2 (Ne.symm (ne.2.2.2.2 _)), es, nn, off _ h3 (Ne.symm ne.2.2.2.1), h4.mono X, h5⟩
    | hole => exact b
inductive Run (f : V → List V → Hp → RS) (nxt : Nat → Hp → Option (Option V)) : Nat → Nat → List V → Hp → RS → Prop
  | done {k i : Nat} {l : List V} {h : Hp} (e : nxt i h = some none) : Run f nxt k i l h (.next l h)
  | turn {k i : Nat} {l : List V} {h : Hp} {v : V} {l' : List V} {h' : Hp} {r : RS} (e : nxt i h = some (some v)) (b : f v l h = .next l' h') (t : Run f nxt k (i + 1) l' h' r) : Run f nxt (k + 1) i l h r
  | ret {k i : Nat} {l : List V} {h : Hp} {v : V} {v' : V} {h' : Hp} (e : nxt i h = some (some v)) (b : f v l h = .ret v' h') : Run f nxt k i l h (.ret v' h')
theorem forV_run {f : V → List V → Hp → RS} {all : List V} : ∀ {vs : List V} {i : Nat} {l : List V} {h : Hp} {r : RS}, all.drop i = vs → forV vs f l h = r → r ≠ .fail → Run f (fun i _ => some all[i]?) vs.length i l h r
  | [], i, l, h, r, hd, e, hr => by
    subst e
    refine .done ?_
    have : all.length ≤ i := by
      have := congrArg List.length hd
      rw [List.length_drop] at this
      simp at this; omega
    show some all[i]? = some none
    rw [List.getElem?_eq_none this]
  | v :: vs, i, l, h, r, hd, e, hr => by
    have hv : all[i]? = some v := by
      have := List.getElem?_drop (xs := all) (i := i) (j := 0)
      rw [hd] at this
      simpa using this.symm
    have hd' : all.drop (i + 1) = vs := by
      rw [← List.drop_drop, hd]; rfl
    have e : @RS.rec (fun _ => RS) .fail (fun l h => forV vs f l h) (fun v h => .ret v h) (f v l h) = r := e
    cases q : f v l h with
    | fail => rw [q] at e; exact absurd e.symm hr
    | next l' h' => rw [q] at e; exact .turn (congrArg some hv) q (forV_run hd' e hr)
    | ret v' h' => rw [q] at e; subst e; exact .ret (congrArg some hv) q
theorem forO_run {f : V → List V → Hp → RS} {k : Nat} : ∀ {j : Nat} {i : Nat} {l : List V} {h : Hp} {r : RS}, forO j f k i l h = r → r ≠ .fail → Run f (fun i h => (listAt h k).map fun vs => vs[i]?) j i l h r
  | 0, i, l, h, r, e, hr => absurd e.symm hr
  | j + 1, i, l, h, r, e, hr => by
    obtain ⟨vs, hl, e⟩ := oS_ok (show oS (listAt h k) _ = r from e) hr
    cases q : lget vs i with
    | none =>
      rw [q] at e
      subst e
      refine .done (by show (listAt h k).map _ = _; rw [hl]; show some vs[i]? = some none; cases z : vs[i]? with | none => rfl | some x => rw [lget_some.mpr z] at q; cases q)
    | some v =>
      rw [q] at e
      have hn : (listAt h k).map (fun vs => vs[i]?) = some (some v) := by rw [hl]; exact congrArg some (lget_some.mp q)
      have e : @RS.rec (fun _ => RS) .fail (fun l h => forO j f k (Nat.succ i) l h) (fun v h => .ret v h) (f v l h) = r := e
      cases q2 : f v l h with
      | fail => rw [q2] at e; exact absurd e.symm hr
      | next l' h' => rw [q2] at e; exact .turn hn q2 (forO_run e hr)
      | ret v' h' => rw [q2] at e; subst e; exact .ret hn q2
/-- the iterator's word: what it hands out at each turn -/
noncomputable def NextOk (W : Cs) (I : Fi) (names : List Str) (ex : List (Addr × Obj)) (D0 : Ld) (it : Addr) (nxt : Nat → Hp → Option (Option V)) (St : Nat → Obj → Prop) : Prop := ∀ i h ov, nxt i h = some ov → ∀ l m D o (s : Shared), Ext D0 D → SR W I names ((it, o) :: ex) l h s.heap m D → St i o → ∀ (Q : Option Value → Shared → Prop) (E : Value → Shared → Prop),
  (match ov with
    | none => ∀ hp', Heap.ExtBut it s.heap hp' → Q none { s with heap := hp' }
    | some v => ∀ x hp' tk o', VR W.toCw D v x → St (i + 1) o' → IsIt o' → Heap.SameBut it s.heap hp' → hp'.get? it = some o' → Q (some x) { s with heap := hp', toks := tk }) → wpAny (model W.prog W.w) I.A (pyNext (.ref it)) Q E s
theorem owned_ok {t : Expr} {it : Addr} {o : Obj} {x : Value} {A : Around} {s : Shared} (ho : s.heap.get? it = some o) (hi : IsIt o) {Q : Unit → Shared → Prop} {E : _} (h : Q () s) : wpAny (model W.prog W.w) A (letOwnedTupleGo t (.ref it) x) Q E s := by
  unfold letOwnedTupleGo
  split
  all_goals first
    | exact wpAny_pure h
    | (split
       · rename_i q
         obtain ⟨q1, q2⟩ := Prod.mk.inj q
         cases q1
         refine wpAny_bind (wpAny_load ho ?_)
         split
         · rename_i nn vs q3 q4
           have : (["enumerate", "zip", "dict_itemiterator", "dict_reverseitemiterator", "odict_iterator", "itertools.zip_longest", "itertools.pairwise"].contains nn) = false := by
             rcases hi with z | z | z <;> rw [z] at q3 <;> cases q3 <;> decide
           rw [this, Bool.false_and, if_neg (by decide)]
           exact wpAny_pure h
         · exact wpAny_pure h
       · exact wpAny_pure h)
theorem loop_ok {I : Fi} (ok : I.Ok W n) {target : Expr} {body : List Stmt} {f : V → List V → Hp → RS} {ex : List (Addr × Obj)} {it : Addr} {nxt : Nat → Hp → Option (Option V)} {St : Nat → Obj → Prop} {D0 : Ld} (hx : NextOk W I c.names ex D0 it nxt St) (hex : ∀ q ∈ ex, q.1 ≠ it)
    (hb : ∀ o v l h r, f v l h = r → ∀ m D (s : Shared) x, SR W I c.names ((it, o) :: ex) l h s.heap m D → VR W.toCw D v x → ∀ (Q : Flow → Shared → Prop) (E1 E2 : Value → Shared → Prop), Hand W I c.names ((it, o) :: ex) D s r Q → wpAny (model W.prog W.w) I.A (assign target I.env x) (fun _ s₂ => wpAny (model W.prog W.w) I.A (execs body I.env) Q E1 s₂) E2 s)
    {k : Nat} {l : List V} {h : Hp} {r : RS} (run : Run f nxt k 0 l h r) {m} {D : Ld} {s : Shared} {o : Obj} (X0 : Ext D0 D) (S : SR W I c.names ((it, o) :: ex) l h s.heap m D) (st : St 0 o) {Q : Flow → Shared → Prop} {E' : Value → Shared → Prop} (H : Hand W I c.names ex D s r Q) :
    codeAny (model W.prog W.w) I.A (.forLoop target (.ref it) body [] I.env) (fun r s' => match r with | .ok f => Q f s' | .error e => E' e s') s := by
  refine codeAny_forLoop_any (fun j s' => ∃ i l h hp tk m D' o, s' = { s with heap := hp, toks := tk } ∧ Ext D D' ∧ Run f nxt j i l h r ∧ SR W I c.names ((it, o) :: ex) l h hp m D' ∧ St i o) ?_ k ⟨0, l, h, s.heap, s.toks, m, D, o, rfl, Ext.refl D, run, S, st⟩
  rintro j s' ⟨i, l, h, hp, tk, m, D1, o, rfl, X, run, S, st⟩
  cases run with
  | done e =>
    refine hx i h none e l m D1 o _ (X0.trans X) S st _ _ fun hp' hs => ?_
    obtain ⟨D2, X2, S2⟩ := S.itEnd hs hex
    exact wpAny_execs_nil (H.next l h rfl hp' tk m D2 (X.trans X2) S2)
  | turn e b t =>
    rename_i k' v l' h'
    refine hx i h (some v) e l m D1 o _ (X0.trans X) S st _ _ fun x hp' tk' o' hv st' hi hs ho => ?_
    obtain ⟨D2, X2, S2⟩ := S.itTurn hi hs ho hex
    refine owned_ok (s := { s with heap := hp', toks := tk' }) ho hi ?_
    refine hb o' v l h _ b m D2 { s with heap := hp', toks := tk' } x S2 (hv.mono X2) _ _ _ ⟨(by intro q; cases q), fun l2 h2 q hp3 tk3 m3 D3 X3 S3 => ?_, (by intro v h' q; cases q)⟩
    cases q
    exact ⟨k', Nat.lt_succ_self k', i + 1, l', h', hp3, tk3, m3, D3, o', rfl, (X.trans X2).trans X3, t, S3, st'⟩
  | ret e b =>
    rename_i v v' h'
    refine hx i h (some v) e l m D1 o _ (X0.trans X) S st _ _ fun x hp' tk' o' hv st' hi hs ho => ?_
    obtain ⟨D2, X2, S2⟩ := S.itTurn hi hs ho hex
    refine owned_ok (s := { s with heap := hp', toks := tk' }) ho hi ?_
    refine hb o' v l h _ b m D2 { s with heap := hp', toks := tk' } x S2 (hv.mono X2) _ _ _ ⟨(by intro q; cases q), (by intro l2 h2 q; cases q), fun v2 h2 q val hp3 tk3 m3 D3 l3 X3 S3 V3 => ?_⟩
    cases q
    have S4 : SR W I c.names ex l3 h' hp3 m3 D3 := ⟨S3.F, S3.N, S3.nd, S3.im, fun q hq => S3.ex q (.tail _ hq), S3.H, S3.lc⟩
    exact H.ret v' h' rfl val hp3 tk3 m3 D3 l3 ((X.trans X2).trans X3) S4 V3
end Mine
end
section
open PySem PySem.Calls PyProof.Rows PySem.W PyProof.V
set_option Elab.async false
set_option maxRecDepth 100000
set_option linter.unusedVariables false
set_option autoImplicit false
namespace Mine
variable {W : Cs} {P : Prog} {n : Nat} {c : CC}
theorem locOf_ok {x : Str} {k : Nat} (h : locOf c x = some k) : c.sc.lookup x = some .local ∧ idx x c.names = some k := by
  unfold locOf at h
  split at h
  · rename_i q; exact ⟨q, h⟩
  · cases h
/-! the iterators -/
theorem upL_get : ∀ (k a c i : Nat) (v : V), (upL k a c)[i]? = some v → v = .n (a + i * c)
  | 0, a, c, i, v, h => by cases h
  | k + 1, a, c, 0, v, h => by
    have : (V.n a :: upL k (Nat.add a c) c)[0]? = some v := h
    simp at this; rw [← this]; simp
  | k + 1, a, c, i + 1, v, h => by
    have : (V.n a :: upL k (Nat.add a c) c)[i + 1]? = some v := h
    rw [List.getElem?_cons_succ] at this
    rw [upL_get k (a + c) c i v this]
    rw [Nat.succ_mul]; congr 1; omega
theorem upL_length : ∀ (k a c : Nat), (upL k a c).length = k
  | 0, _, _ => rfl
  | k + 1, a, c => congrArg (· + 1) (upL_length k (a + c) c)
theorem dnL_get : ∀ (k a i : Nat) (v : V), k ≤ a + 1 → (dnL k a)[i]? = some v → v = .n (a - i) ∧ i ≤ a
  | 0, a, i, v, _, h => by cases h
  | k + 1, a, 0, v, _, h => by
    have : (V.n a :: dnL k (Nat.pred a))[0]? = some v := h
    simp at this; rw [← this]; exact ⟨rfl, Nat.zero_le _⟩
  | k + 1, a, i + 1, v, hk, h => by
    have h' : (V.n a :: dnL k (Nat.pred a))[i + 1]? = some v := h
    rw [List.getElem?_cons_succ] at h'
    cases a with
    | zero =>
      have : k = 0 := by omega
      subst this
      cases h'
    | succ a =>
      obtain ⟨e, h2⟩ := dnL_get k a i v (by omega) h'
      exact ⟨by rw [e]; congr 1; omega, by omega⟩
theorem dnL_length : ∀ (k a : Nat), (dnL k a).length = k
  | 0, _ => rfl
  | k + 1, a => congrArg (· + 1) (dnL_length k (Nat.pred a))
theorem fits {x : Int} (h1 : -(2 ^ 62) ≤ x) (h2 : x < 2 ^ 62) : Builtin.Range.rangeFitsLong x = true := by
  unfold Builtin.Range.rangeFitsLong
  rw [decide_eq_true (show -(2 ^ 63) ≤ x by omega), decide_eq_true (show x < 2 ^ 63 by omega)]; rfl
theorem rngL_ok {A B C : V} {vs : List V} (h : rngL A B C = some vs) {a b cc : Int} (ha : vi A = some a) (hb : vi B = some b) (hc : vi C = some cc) :
    Builtin.Range.rangeSize a b cc = (vs.length : Int) ∧ Builtin.Range.small a b cc = true ∧ ∀ (i : Nat) v, vs[i]? = some v → vi v = some (a + (i : Int) * cc) := by
  unfold rngL at h
  split at h
  · rename_i a' b' c'
    cases ha; cases hb; cases hc
    obtain ⟨h1, h⟩ := ifB_some h
    obtain ⟨h2, h⟩ := ifB_some h
    have h1 := lim_lt h1; have h2 := lim_lt h2
    cases q : Nat.beq c' 1 with
    | true =>
      rw [q] at h
      have : c' = 1 := Nat.eq_of_beq_eq_true q
      subst this
      cases (show some (upL (Nat.sub b' a') a' 1) = some vs from h)
      have hs : Builtin.Range.rangeSize (Int.ofNat a') (Int.ofNat b') (Int.ofNat 1) = ((b' - a' : Nat) : Int) := by
        unfold Builtin.Range.rangeSize
        rw [if_pos (by decide)]
        by_cases z : Int.ofNat a' < Int.ofNat b'
        · rw [if_pos z]; simp only [Int.ofNat_eq_natCast] at z ⊢; omega
        · rw [if_neg z]; simp only [Int.ofNat_eq_natCast] at z ⊢; omega
      refine ⟨by rw [upL_length]; exact hs, small_one (by simp only [Int.ofNat_eq_natCast]; omega) (by simp only [Int.ofNat_eq_natCast]; omega) (by simp only [Int.ofNat_eq_natCast]; omega) (by simp only [Int.ofNat_eq_natCast]; omega), fun i v e => ?_⟩
      rw [upL_get _ _ _ i v e]
      show some (Int.ofNat _) = _
      simp
    | false =>
      rw [q] at h
      have h : ifB (Nat.beq c' 2) (some (upL (Nat.div (Nat.succ (Nat.sub b' a')) 2) a' 2)) none = some vs := h
      obtain ⟨q2, h⟩ := ifB_some h
      have : c' = 2 := Nat.eq_of_beq_eq_true q2
      subst this
      cases h
      have hs : Builtin.Range.rangeSize (Int.ofNat a') (Int.ofNat b') (Int.ofNat 2) = ((((b' - a') + 1) / 2 : Nat) : Int) := by
        unfold Builtin.Range.rangeSize
        rw [if_pos (by decide)]
        by_cases z : Int.ofNat a' < Int.ofNat b'
        · rw [if_pos z]; simp only [Int.ofNat_eq_natCast] at z ⊢; omega
        · rw [if_neg z]; simp only [Int.ofNat_eq_natCast] at z ⊢; omega
      refine ⟨by rw [upL_length]; exact hs, ?_, fun i v e => ?_⟩
      · unfold Builtin.Range.small
        rw [hs, fits (by simp only [Int.ofNat_eq_natCast]; omega) (by simp only [Int.ofNat_eq_natCast]; omega), fits (by simp only [Int.ofNat_eq_natCast]; omega) (by simp only [Int.ofNat_eq_natCast]; omega), fits (by decide) (by decide), fits (by omega) (by omega), if_pos (by decide), fits (by simp only [Int.ofNat_eq_natCast]; omega) (by simp only [Int.ofNat_eq_natCast]; omega)]
        simp
      · rw [upL_get _ _ _ i v e]
        show some (Int.ofNat _) = _
        simp
  · rename_i a'
    cases ha; cases hb; cases hc
    obtain ⟨h1, h⟩ := ifB_some h
    have h1 := lim_lt h1
    cases h
    have hs : Builtin.Range.rangeSize (Int.ofNat a') (Int.negSucc 0) (Int.negSucc 0) = ((a' + 1 : Nat) : Int) := by
      unfold Builtin.Range.rangeSize
      rw [if_neg (by decide), if_pos (by simp only [Int.ofNat_eq_natCast]; omega)]
      rw [show -Int.negSucc 0 = 1 from rfl, Int.ediv_one]
      simp only [Int.ofNat_eq_natCast]
      omega
    refine ⟨by rw [dnL_length]; exact hs, ?_, fun i v e => ?_⟩
    · unfold Builtin.Range.small
      rw [hs, fits (by simp only [Int.ofNat_eq_natCast]; omega) (by simp only [Int.ofNat_eq_natCast]; omega), fits (by decide) (by decide), fits (by omega) (by omega), if_neg (by decide), fits (by decide) (by decide)]
      simp
    · obtain ⟨rfl, hi⟩ := dnL_get _ _ i v (by omega) e
      show some (Int.ofNat _) = _
      congr 1
      simp only [Int.ofNat_eq_natCast]
      omega
  · cases h
noncomputable def StL (cls : String) (adr : Addr) (i : Nat) (o : Obj) : Prop := o.cls = .type cls ∧ o.data = .fields #[.ref adr, .int (i : Int) 0]
theorem next_list {I : Fi} {ex : List (Addr × Obj)} {it adr : Addr} {D0 : Ld} {nxt : Nat → Hp → Option (Option V)} (ok : I.Ok W n)
    (hl : ∀ i h ov, nxt i h = some ov → ∀ o l m D hp, Ext D0 D → SR W I c.names ((it, o) :: ex) l h hp m D → ∃ vs its, ov = vs[i]? ∧ hp.IsList adr its ∧ VRs W.toCw D vs its.toList) : NextOk W I c.names ex D0 it nxt (StL "list_iterator" adr) := by
  intro i h ov e l m D o s X S st Q E hQ
  obtain ⟨vs, its, rfl, h1, h2⟩ := hl i h ov e o l m D s.heap X S
  have hit : s.heap.IsListIter it adr i := ⟨o, S.mem (S.ex _ (.head _)).1, st.1, st.2⟩
  have hlen := h2.length
  cases q : vs[i]? with
  | none =>
    rw [q] at hQ
    refine wpAny_pyNext_list_end rfl hit h1 (Array.getElem?_eq_none ?_) hQ
    have := List.getElem?_eq_none_iff.mp q
    have hz : its.toList.length = its.size := Array.length_toList
    omega
  | some v =>
    rw [q] at hQ
    obtain ⟨x, hx, hv⟩ := h2.get (lget_some.mpr q)
    refine wpAny_pyNext_list_item hit h1 (by simpa using hx) fun hp' h3 hs => ?_
    obtain ⟨o', g1, g2, g3⟩ := h3
    exact hQ x hp' s.toks o' hv ⟨g2, g3⟩ (.inl g2) hs g1
theorem next_tuple {I : Fi} {ex : List (Addr × Obj)} {it adr : Addr} {D0 : Ld} {vs : List V} (ok : I.Ok W n)
    (hl : ∀ o l h m D hp, Ext D0 D → SR W I c.names ((it, o) :: ex) l h hp m D → ∃ its : Array Value, IsTup hp adr its ∧ VRs W.toCw D vs its.toList) : NextOk W I c.names ex D0 it (fun i _ => some vs[i]?) (StL "tuple_iterator" adr) := by
  intro i h ov e l m D o s X S st Q E hQ
  cases e
  obtain ⟨its, h1, h2⟩ := hl o l h m D s.heap X S
  have hit : s.heap.IsTupleIter it adr i := ⟨o, S.mem (S.ex _ (.head _)).1, st.1, st.2⟩
  have hlen := h2.length
  cases q : vs[i]? with
  | none =>
    rw [q] at hQ
    refine wpAny_pyNext_tuple_end rfl hit h1 (Array.getElem?_eq_none ?_) hQ
    have := List.getElem?_eq_none_iff.mp q
    have hz : its.toList.length = its.size := Array.length_toList
    omega
  | some v =>
    rw [q] at hQ
    obtain ⟨x, hx, hv⟩ := h2.get (lget_some.mpr q)
    refine wpAny_pyNext_tuple_item hit h1 (by simpa using hx) fun hp' h3 hs => ?_
    obtain ⟨o', g1, g2, g3⟩ := h3
    exact hQ x hp' s.toks o' hv ⟨g2, g3⟩ (.inr (.inl g2)) hs g1
noncomputable def StR (a N cc : Int) (i : Nat) (o : Obj) : Prop := o = { cls := .type "range_iterator", data := .fields #[rawInt (a + (i : Int) * cc), rawInt (N - (i : Int)), rawInt cc] }
theorem next_range {I : Fi} {ex : List (Addr × Obj)} {it : Addr} {D0 : Ld} {vs : List V} {a cc : Int} (hv : ∀ (i : Nat) v, vs[i]? = some v → vi v = some (a + (i : Int) * cc)) : NextOk W I c.names ex D0 it (fun i _ => some vs[i]?) (StR a vs.length cc) := by
  intro i h ov e l m D o s X S st Q E hQ
  cases e
  subst st
  have hit := S.mem (S.ex _ (.head _)).1
  cases q : vs[i]? with
  | none =>
    rw [q] at hQ
    have := List.getElem?_eq_none_iff.mp q
    exact wpAny_pyNext_range_end rfl hit (by omega) hQ
  | some v =>
    rw [q] at hQ
    have hlt := (List.getElem?_eq_some_iff.mp q).1
    refine wpAny_pyNext_range_item hit (by omega) fun hp' h3 hs => ?_
    refine hQ _ hp' _ _ (.int s.toks (hv i v q)) ?_ (.inr (.inr rfl)) hs h3
    unfold StR
    congr 4
    · congr 1
      rw [show ((i + 1 : Nat) : Int) = (i : Int) + 1 from rfl, Int.add_mul]; omega
    · congr 2
      rw [show ((i + 1 : Nat) : Int) = (i : Int) + 1 from rfl]; omega
/-- a for over what the small machine iterates -/
theorem for_any {I : Fi} (ok : I.Ok W n) (lc : LcOk W c I) {target iter : Expr} {body : List Stmt} {pos : Pos} (hi : SndE W P n c iter) {f : V → List V → Hp → RS}
    (hb : ∀ ex v l h r, f v l h = r → ∀ m D (s : Shared) x, SR W I c.names ex l h s.heap m D → VR W.toCw D v x → ∀ (Q : Flow → Shared → Prop) (E1 E2 : Value → Shared → Prop), Hand W I c.names ex D s r Q → wpAny (model W.prog W.w) I.A (assign target I.env x) (fun _ s₂ => wpAny (model W.prog W.w) I.A (execs body I.env) Q E1 s₂) E2 s)
    {l : List V} {h : Hp} {r : RS} (e : bndS (evE (cE c iter) P (ev P n) l h) (fun it h => forAny f l h it) = r) {ex m} {D : Ld} {s : Shared} (S : SR W I c.names ex l h s.heap m D) {Q E : _} (H : Hand W I c.names ex D s r Q) :
    wpAny (model W.prog W.w) I.A (exec (.For target iter body [] pos) I.env) Q E s := by
  obtain ⟨itv, h1, e1, e⟩ := bndS_ok e H.no
  refine wpAny_For (hi I ok lc _ _ _ _ e1 ex m D s S _ _ fun x hp tk D1 X1 S1 V1 => ?_) ?_
  · have H1 := H.from (s1 := { s with heap := hp, toks := tk }) X1 rfl
    have hex : ∀ q ∈ ex, q.1 ≠ hp.objs.size := fun q hq z => absurd (Heap.lt_size (S1.mem (S1.ex q hq).1)) (z ▸ Nat.lt_irrefl _)
    unfold forAny at e
    split at e
    · rename_i k
      have run := forO_run e H.no
      have ⟨vs0, hl0⟩ : ∃ vs, listAt h1 k = some vs := by
        clear e
        cases run with
        | done e9 => obtain ⟨a, b, _⟩ := Option.map_eq_some_iff.mp e9; exact ⟨a, b⟩
        | turn e9 => obtain ⟨a, b, _⟩ := Option.map_eq_some_iff.mp e9; exact ⟨a, b⟩
        | ret e9 => obtain ⟨a, b, _⟩ := Option.map_eq_some_iff.mp e9; exact ⟨a, b⟩
      obtain ⟨adr, its, nn, rfl, hm, hr⟩ := S1.list hl0 V1
      refine wpAny_pyIter_list ⟨_, S1.mem hm, rfl, nn, rfl⟩ ?_
      obtain ⟨D2, X2, S2⟩ := S1.itNew (o := { cls := .type "list_iterator", data := .fields #[.ref adr, .int 0 0] }) (.inl rfl) rfl
      refine loop_ok (St := StL "list_iterator" adr) ok (next_list ok fun i hh ov e o l' m' D' hp' X' S' => ?_) hex (fun o v l h r e m D s x S' V' => hb _ v l h r e m D s x S' V') run (Ext.refl D2) S2 ⟨rfl, rfl⟩ (H1.from X2 rfl)
      obtain ⟨vs, h2, h3⟩ := Option.map_eq_some_iff.mp e
      obtain ⟨adr', its', nn', q, hm', hr'⟩ := S'.list h2 ((V1.mono X2).mono X')
      cases q
      exact ⟨vs, its', h3.symm, ⟨_, S'.mem hm', rfl, nn', rfl⟩, hr'⟩
    · rename_i vs
      have run := forV_run (all := vs) (i := 0) rfl e H.no
      cases V1 with
      | int t hi => cases hi
      | tup ht hr =>
        rename_i its adr nn
        have key : ∀ {D' : Ld} {names l h hp' m'} {ex'} (S' : SR W I names ex' l h hp' m' D') (X' : Ext D1 D'), IsTup hp' adr its.toArray := fun S' X' => ⟨_, S'.has ok _ _ (ht.imp (X'.imm _) id), rfl, _, rfl⟩
        refine wpAny_pyIter_tuple (key S1 (Ext.refl _)) ?_
        obtain ⟨D2, X2, S2⟩ := S1.itNew (o := { cls := .type "tuple_iterator", data := .fields #[.ref adr, .int 0 0] }) (.inr (.inl rfl)) rfl
        refine loop_ok (St := StL "tuple_iterator" adr) ok (next_tuple ok fun o l' hh m' D' hp' X' S' => ⟨its.toArray, key S' (X2.trans X'), by simpa using hr.mono (X2.trans X')⟩) hex (fun o v l h r e m D s x S' V' => hb _ v l h r e m D s x S' V') run (Ext.refl D2) S2 ⟨rfl, rfl⟩ (H1.from X2 rfl)
    · rename_i vs
      have run := forV_run (all := vs) (i := 0) rfl e H.no
      cases V1 with
      | int t hi => cases hi
      | lst ht hr =>
        rename_i its adr nn
        have key : ∀ {D' : Ld} {names l h hp' m'} {ex'} (S' : SR W I names ex' l h hp' m' D'), hp'.IsList adr its.toArray := fun S' => ⟨_, S'.F.keep _ _ (ok.X _ _ ht), rfl, _, rfl⟩
        refine wpAny_pyIter_list (key S1) ?_
        obtain ⟨D2, X2, S2⟩ := S1.itNew (o := { cls := .type "list_iterator", data := .fields #[.ref adr, .int 0 0] }) (.inl rfl) rfl
        refine loop_ok (St := StL "list_iterator" adr) ok (next_list ok fun i hh ov e o l' m' D' hp' X' S' => ⟨vs, its.toArray, (Option.some.inj e).symm, key S', by simpa using hr.mono (X2.trans X')⟩) hex (fun o v l h r e m D s x S' V' => hb _ v l h r e m D s x S' V') run (Ext.refl D2) S2 ⟨rfl, rfl⟩ (H1.from X2 rfl)
    · rename_i A B C
      obtain ⟨vs, hvs, e⟩ := oS_ok e H.no
      have run := forV_run (all := vs) (i := 0) rfl e H.no
      cases V1 with
      | int t hi => cases hi
      | rng ha hb' hc hm =>
        rename_i a b cc t u v r'
        obtain ⟨z1, z2, z3⟩ := rngL_ok hvs ha hb' hc
        refine wpAny_pyIter_range (S1.memi hm) z2 ?_
        rw [z1]
        obtain ⟨D2, X2, S2⟩ := S1.itNew (o := { cls := .type "range_iterator", data := .fields #[rawInt a, rawInt (vs.length : Int), rawInt cc] }) (.inr (.inr rfl)) rfl
        refine loop_ok (St := StR a vs.length cc) ok (next_range z3) hex (fun o v l h r e m D s x S' V' => hb _ v l h r e m D s x S' V') run (Ext.refl D2) S2 ?_ (H1.from X2 rfl)
        unfold StR
        simp
    · exact absurd e.symm H.no
  · intro x
    cases iter <;> first | rfl | (cases e1; done)
end Mine
end
section
open PySem PySem.Calls PyProof.Rows PySem.W PyProof.V
set_option Elab.async false
set_option maxRecDepth 100000
set_option linter.unusedVariables false
set_option autoImplicit false
namespace Mine
variable {W : Cs} {P : Prog} {n : Nat} {c : CC}
theorem assign_name {I : Fi} (ok : I.Ok W n) (lc : LcOk W c I) {x : Str} {p : Pos} {k : Nat} (hk : locOf c x = some k) {ex l h m} {D : Ld} {s : Shared} (S : SR W I c.names ex l h s.heap m D) {v : V} {val : Value} (hv : VR W.toCw D v val) {l' : List V} (e : lset l k v = some l') {Q E : _}
    (hQ : ∀ hp tk m', SR W I c.names ex l' h hp m' D → Q () { s with heap := hp, toks := tk }) : wpAny (model W.prog W.w) I.A (assign (.Name x p) I.env val) Q E s :=
  wpAny_assign_Name (store_ok ok lc (locOf_ok hk).2 (locOf_ok hk).1 S hv e hQ)
theorem setLocs_cons {k : Nat} {ks : List Nat} {vs : List V} {l l' : List V} (e : setLocs (k :: ks) vs l = some l') : ∃ v r l1, vs = v :: r ∧ lset l k v = some l1 ∧ setLocs ks r l1 = some l' := by
  cases vs with
  | nil => cases e
  | cons v r =>
    obtain ⟨l1, h1, h2⟩ := oO_some (show oO (lset l k v) _ = some l' from e)
    exact ⟨v, r, l1, rfl, h1, h2⟩
theorem setLocs_nil {vs : List V} {l l' : List V} (e : setLocs [] vs l = some l') : vs = [] ∧ l = l' := by
  cases vs with
  | nil => cases e; exact ⟨rfl, rfl⟩
  | cons v r => cases e
theorem locIdx_cons {x : Expr} {r : List Expr} {ks : List Nat} (e : locIdx c (x :: r) = some ks) : ∃ y p k kr, x = .Name y p ∧ locOf c y = some k ∧ locIdx c r = some kr ∧ kr.contains k = false ∧ ks = k :: kr := by
  unfold locIdx at e
  split at e
  · rename_i q; cases q
  · rename_i y p r' q
    cases q
    split at e
    · rename_i k kr h1 h2
      split at e
      · cases e
      · rename_i h3
        cases e
        exact ⟨y, p, k, kr, rfl, h1, h2, h3, rfl⟩
    · cases e
  · cases e
/-- a tuple's names, one by one -/
theorem assign_names {I : Fi} (ok : I.Ok W n) (lc : LcOk W c I) : ∀ {elts : List Expr} {ks : List Nat}, locIdx c elts = some ks → ∀ {ex l h m} {D : Ld} {s : Shared} (S : SR W I c.names ex l h s.heap m D) {vs : List V} {xs : List Value} (hv : VRs W.toCw D vs xs) {l' : List V} (e : setLocs ks vs l = some l') {Q : Unit → Shared → Prop} {E : _}
    (hQ : ∀ hp tk m', SR W I c.names ex l' h hp m' D → Q () { s with heap := hp, toks := tk }), wpAny (model W.prog W.w) I.A (assignInOrder ((assignEach elts I.env).map (·.2)) xs) Q E s
  | [], ks, hk, ex, l, h, m, D, s, S, vs, xs, hv, l', e, Q, E, hQ => by
    unfold locIdx at hk
    cases hk
    obtain ⟨rfl, rfl⟩ := setLocs_nil e
    cases hv
    exact assignInOrder_nil (hQ s.heap s.toks m S)
  | x :: r, ks, hk, ex, l, h, m, D, s, S, vs, xs, hv, l', e, Q, E, hQ => by
    obtain ⟨y, p, k, kr, rfl, h1, h2, h3, rfl⟩ := locIdx_cons hk
    obtain ⟨v, vr, l1, rfl, e1, e2⟩ := setLocs_cons e
    cases hv with
    | cons a b =>
      have q : (assignEach (.Name y p :: r) I.env).map (·.2) = assign (.Name y p) I.env :: (assignEach r I.env).map (·.2) := rfl
      rw [q]
      exact assignInOrder_cons (assign_name ok lc h1 S a e1 fun hp tk m' S' => assign_names ok lc h2 (s := { s with heap := hp, toks := tk }) S' b e2 fun hp2 tk2 m2 S2 => hQ hp2 tk2 m2 S2)
theorem assignEach_len : ∀ {elts : List Expr} {ks : List Nat}, locIdx c elts = some ks → ∀ env : Env, (assignEach elts env).length = ks.length ∧ (assignEach elts env).findIdx? (·.1) = none
  | [], ks, hk, env => by unfold locIdx at hk; cases hk; exact ⟨rfl, rfl⟩
  | x :: r, ks, hk, env => by
    obtain ⟨y, p, k, kr, rfl, h1, h2, h3, rfl⟩ := locIdx_cons hk
    obtain ⟨a, b⟩ := assignEach_len h2 env
    have q : assignEach (.Name y p :: r) env = (false, assign (.Name y p) env) :: assignEach r env := rfl
    rw [q]
    refine ⟨by simp [a], ?_⟩
    rw [List.findIdx?_cons, b]; rfl
theorem setLocs_len : ∀ {ks : List Nat} {vs : List V} {l l' : List V}, setLocs ks vs l = some l' → vs.length = ks.length
  | [], vs, l, l', e => by rw [(setLocs_nil e).1]; rfl
  | k :: ks, vs, l, l', e => by obtain ⟨v, r, l1, rfl, _, h⟩ := setLocs_cons e; simp [setLocs_len h]
theorem tup_at {I : Fi} {names ex l h hp m} {D : Ld} (S : SR W I names ex l h hp m D) {k : Nat} (ok : I.Ok W k) {vs : List V} {x : Value} (hv : VR W.toCw D (.tup vs) x) : ∃ adr its, x = .ref adr ∧ IsTup hp adr its ∧ VRs W.toCw D vs its.toList := by
  cases hv with
  | int t hi => cases hi
  | tup ht hr =>
    rename_i xs adr nn
    exact ⟨adr, xs.toArray, rfl, ⟨_, S.has ok _ _ ht, rfl, _, rfl⟩, by simpa using hr⟩
theorem SR.same_heap {I : Fi} {names ex l h hp hp' m} {D : Ld} (S : SR W I names ex l h hp m D) (F : Fr I.h₀ I.L hp' m) (N : News I.h₀ I.L hp' (D.mu ++ D.imm)) : SR W I names ex l h hp' m D := ⟨F, N, S.nd, S.im, S.ex, S.H, S.lc⟩
theorem assign_tuple {I : Fi} (ok : I.Ok W n) (lc : LcOk W c I) {elts : List Expr} {kk : Nat} {p : Pos} {ks : List Nat} (hk : locIdx c elts = some ks) {ex l h m} {D : Ld} {s : Shared} (S : SR W I c.names ex l h s.heap m D) {vs : List V} {x : Value} (hv : VR W.toCw D (.tup vs) x) {l' : List V} (e : setLocs ks vs l = some l') {Q : Unit → Shared → Prop} {E : _}
    (hQ : ∀ hp tk m', SR W I c.names ex l' h hp m' D → Q () { s with heap := hp, toks := tk }) : wpAny (model W.prog W.w) I.A (assign (.Tuple elts kk p) I.env x) Q E s := by
  obtain ⟨adr, its, rfl, ht, hr⟩ := tup_at S ok hv
  obtain ⟨a1, a2⟩ := assignEach_len hk I.env
  have q : assign (.Tuple elts kk p) I.env (.ref adr) = (do standAt p; unpack (.ref adr) (assignEach elts I.env)) := by rw [assign]
  rw [q]
  refine wpAny_bind (wpAny_standAt ?_)
  unfold unpack
  refine wpAny_bind (wpAny_holding ?_)
  rw [a2]
  have hsz : (assignEach elts I.env).length = its.size := by
    rw [a1, ← setLocs_len e]
    have := hr.length
    have hz : its.toList.length = its.size := Array.length_toList
    omega
  refine unpackItemsN_ S.F S.N ht rfl hsz fun h' F' N' => ?_
  exact assign_names ok lc hk (s := { s with heap := h' }) (S.same_heap F' N') hr e fun hp tk m' S' => hQ hp tk m' S'
theorem snd_For1 {x : Str} {p pos : Pos} {it : Expr} {b : List Stmt} (hi : SndE W P n c it) (hb : SndL W P n c b) {k : Nat} (hk : locOf c x = some k) {I : Fi} (ok : I.Ok W n) (lc : LcOk W c I) {l : List V} {h : Hp} {r : RS} (e : evS (.for1 k (cE c it) (cB c b)) P (ev P n) l h = r) {ex m} {D : Ld} {s : Shared} (S : SR W I c.names ex l h s.heap m D) {Q E : _}
    (H : Hand W I c.names ex D s r Q) : wpAny (model W.prog W.w) I.A (exec (.For (.Name x p) it b [] pos) I.env) Q E s := by
  refine for_any ok lc hi (f := fun v l h => oS (lset l k v) fun l => evS (cB c b) P (ev P n) l h) (fun ex v l h r e m D s x' S V Q E1 E2 H => ?_) e S H
  obtain ⟨l', hl, e⟩ := oS_ok e H.no
  exact assign_name ok lc hk S V hl fun hp tk m' S' => hb I ok lc l' h r e ex m' D { s with heap := hp, toks := tk } S' Q E1 (H.from (Ext.refl D) rfl)
theorem snd_ForT {elts : List Expr} {kk : Nat} {p pos : Pos} {it : Expr} {b : List Stmt} (hi : SndE W P n c it) (hb : SndL W P n c b) {ks : List Nat} (hk : locIdx c elts = some ks) {I : Fi} (ok : I.Ok W n) (lc : LcOk W c I) {l : List V} {h : Hp} {r : RS} (e : evS (.forT ks (cE c it) (cB c b)) P (ev P n) l h = r) {ex m} {D : Ld} {s : Shared} (S : SR W I c.names ex l h s.heap m D) {Q E : _}
    (H : Hand W I c.names ex D s r Q) : wpAny (model W.prog W.w) I.A (exec (.For (.Tuple elts kk p) it b [] pos) I.env) Q E s := by
  refine for_any ok lc hi (f := fun v l h => onT v .fail fun vs => oS (setLocs ks vs l) fun l => evS (cB c b) P (ev P n) l h) (fun ex v l h r e m D s x' S V Q E1 E2 H => ?_) e S H
  obtain ⟨vs, rfl, e⟩ := onS_ok e H.no
  obtain ⟨l', hl, e⟩ := oS_ok e H.no
  exact assign_tuple ok lc hk S V hl fun hp tk m' S' => hb I ok lc l' h r e ex m' D { s with heap := hp, toks := tk } S' Q E1 (H.from (Ext.refl D) rfl)
theorem lset_of {α : Type} : ∀ {l : List α} {k : Nat} {x : α}, k < l.length → lset l k x = some (l.set k x)
  | [], _, _, h => absurd h (Nat.not_lt_zero _)
  | y :: l, 0, x, h => rfl
  | y :: l, k + 1, x, h => by
    show oO (lset l k x) (fun r => some (y :: r)) = _
    rw [lset_of (Nat.lt_of_succ_lt_succ h)]; rfl
theorem isT (y : Expr) : (∃ es k p, y = .Tuple es k p) ∨ (∀ es k p, y ≠ .Tuple es k p) := by
  cases y <;> first | exact .inl ⟨_, _, _, rfl⟩ | (refine .inr fun _ _ _ h => ?_; cases h)
theorem snd_AsT {elts : List Expr} {kk : Nat} {p pos : Pos} {y : Expr} (hy : SndE W P n c y) (hn : ∀ es k p, y ≠ .Tuple es k p) {ks : List Nat} (hk : locIdx c elts = some ks) {I : Fi} (ok : I.Ok W n) (lc : LcOk W c I) {l : List V} {h : Hp} {r : RS} (e : evS (.asT ks (cE c y)) P (ev P n) l h = r) {ex m} {D : Ld} {s : Shared} (S : SR W I c.names ex l h s.heap m D) {Q E : _}
    (H : Hand W I c.names ex D s r Q) : wpAny (model W.prog W.w) I.A (exec (.Assign [.Tuple elts kk p] y pos) I.env) Q E s := by
  obtain ⟨v, h1, e1, e⟩ := bndS_ok (show bndS (evE (cE c y) P (ev P n) l h) _ = r from e) H.no
  obtain ⟨vs, rfl, e⟩ := onS_ok e H.no
  obtain ⟨l', hl, rfl⟩ := oS_ok e H.no
  refine Assign_Tuple (hy I ok lc _ _ _ _ e1 ex m D s S _ _ fun x hp tk D1 X1 S1 V1 => ?_) (no_swap e1 (some (.Tuple elts kk p)) pos.line I.env) ?_
  · exact assign_tuple ok lc hk (s := { s with heap := hp, toks := tk }) S1 V1 hl fun hp2 tk2 m2 S2 => H.next l' h1 rfl hp2 tk2 m2 D1 X1 S2
  · cases y <;> first | rfl | exact absurd rfl (hn _ _ _)
theorem snd_AsT2 {x y : Str} {p q tp p2 pos : Pos} {k1 k2 : Nat} {a b : Expr} (hab : SndE W P n c (.Tuple [a, b] k2 p2)) (hsw : swOk [.Name x p, .Name y q] [a, b] = true) {ks : List Nat} (hk : locIdx c [.Name x p, .Name y q] = some ks) {I : Fi} (ok : I.Ok W n) (lc : LcOk W c I) {l : List V} {h : Hp} {r : RS} (e : evS (.asT ks (cE c (.Tuple [a, b] k2 p2))) P (ev P n) l h = r) {ex m} {D : Ld} {s : Shared} (S : SR W I c.names ex l h s.heap m D) {Q E : _}
    (H : Hand W I c.names ex D s r Q) : wpAny (model W.prog W.w) I.A (exec (.Assign [.Tuple [.Name x p, .Name y q] k1 tp] (.Tuple [a, b] k2 p2) pos) I.env) Q E s := by
  obtain ⟨v, h1, e1, e⟩ := bndS_ok (show bndS (evE (cE c (.Tuple [a, b] k2 p2)) P (ev P n) l h) _ = r from e) H.no
  obtain ⟨vs, rfl, e⟩ := onS_ok e H.no
  obtain ⟨l', hl, rfl⟩ := oS_ok e H.no
  obtain ⟨x', p', i, kr, hx, hi, hr, hc, rfl⟩ := locIdx_cons hk
  cases hx
  obtain ⟨y', q', j, kr2, hy, hj, hr2, hc2, rfl⟩ := locIdx_cons hr
  cases hy
  have : kr2 = [] := by unfold locIdx at hr2; cases hr2; rfl
  subst this
  have hij : i ≠ j := by rintro rfl; simp at hc
  have hxy : x ≠ y := by rintro rfl; rw [hi] at hj; exact hij (Option.some.inj hj)
  obtain ⟨v1, r1, l1, rfl, s1, hl⟩ := setLocs_cons hl
  obtain ⟨v2, r2, l2, rfl, s2, hl⟩ := setLocs_cons hl
  obtain ⟨rfl, rfl⟩ := setLocs_nil hl
  obtain ⟨rfl, b1⟩ := lset_some s1
  obtain ⟨rfl, b2⟩ := lset_some s2
  rw [List.length_set] at b2
  have t2 : lset l j v2 = some (l.set j v2) := lset_of b2
  have t1 : lset (l.set j v2) i v1 = some ((l.set i v1).set j v2) := by
    rw [lset_of (by rw [List.length_set]; exact b1), List.set_comm _ _ (Ne.symm hij)]
  unfold swOk at hsw
  simp only [Bool.and_eq_true, Bool.not_eq_true', beq_iff_eq] at hsw
  obtain ⟨⟨⟨⟨w1, w2⟩, w3⟩, w4⟩, w5⟩ := hsw
  refine Assign_Tuple_swapped (names := [x, y]) (hab I ok lc _ _ _ _ e1 ex m D s S _ _ fun xx hp tk D1 X1 S1 V1 => ?_) rfl ?_
  · obtain ⟨adr, its, rfl, ht, hr⟩ := tup_at S1 ok V1
    have hz : its.toList.length = its.size := Array.length_toList
    have hrl := hr.length
    refine unpackItemsN_ S1.F S1.N ht rfl (by simp at hrl; show 2 = its.size; omega) fun h' F' N' => ?_
    have S1' := S1.same_heap F' N'
    generalize its.toList = xs at hr
    cases hr with
    | cons a1 r =>
      cases r with
      | cons a2 r =>
        cases r
        refine assignInOrder_cons (wpAny_bindName (store_ok ok lc (locOf_ok hj).2 (locOf_ok hj).1 (s := { s with heap := h', toks := tk }) S1' a2 t2 fun hp2 tk2 m2 S2 => ?_))
        refine assignInOrder_cons (wpAny_bindName (store_ok ok lc (locOf_ok hi).2 (locOf_ok hi).1 (s := { s with heap := hp2, toks := tk2 }) S2 a1 t1 fun hp3 tk3 m3 S3 => ?_))
        exact assignInOrder_nil (H.next _ h1 rfl hp3 tk3 m3 D1 X1 S3)
  · have kx : I.env.kindOf x = some .local := by show I.cs.names.lookup x = _; rw [lc.sc]; exact (locOf_ok hi).1
    have ky : I.env.kindOf y = some .local := by show I.cs.names.lookup y = _; rw [lc.sc]; exact (locOf_ok hj).1
    have hb : I.env.blockKind = .function := by unfold Env.blockKind; rw [show I.env.scope.kind = .function from ok.ck]; rfl
    unfold swappedStores
    simp only [List.length_cons, List.length_nil, hb, List.all_cons, List.all_nil, Bool.and_true] at w4 w5 ⊢
    have hs : ([a, b].any fun x => match x with | .Starred .. => true | _ => false) = false := by
      show (isStar a || (isStar b || false)) = false
      rw [w2, w3]; rfl
    have hne : (x == y) = false := by cases z : x == y with | false => rfl | true => exact absurd ((str_beq _ _).mp z) hxy
    have hne' : (y == x) = false := by cases z : y == x with | false => rfl | true => exact absurd ((str_beq _ _).mp z).symm hxy
    rw [if_neg (by decide)]
    have hq : (q.line == p.line) = true := by rw [w1]; exact beq_self_eq_true _
    have hp : (p.line == p.line) = true := beq_self_eq_true _
    have hl : (NameKind.local == NameKind.local) = true := rfl
    have he : ([x, y] : List Str).eraseDups = [x, y] := by simp [List.eraseDups_cons, hne']
    have hF : ∀ f : Expr → Option Str, f (.Name x p) = some x → f (.Name y q) = some y → List.filterMap f [.Name x p, .Name y q] = [x, y] := fun f h1 h2 => by simp [List.filterMap_cons, h1, h2]
    have kx' : (I.env.kindOf x == some NameKind.local) = true := by rw [kx]; rfl
    have ky' : (I.env.kindOf y == some NameKind.local) = true := by rw [ky]; rfl
    split
    · rename_i z
      exfalso
      exact absurd (hs.symm.trans z) Bool.false_ne_true
    · rw [hF _ (by show (if (I.env.kindOf x == some NameKind.local && p.line == p.line) = true then some x else none) = some x; rw [kx', hp]; rfl) (by show (if (I.env.kindOf y == some NameKind.local && q.line == p.line) = true then some y else none) = some y; rw [ky', hq]; rfl), he]
      rw [if_neg (by simp)]
      split
      · rename_i z; rw [z] at w4; cases w4
      · split
        · rename_i z; rw [z] at w5; cases w5
        · rfl
end Mine
end
section
open PySem PySem.Calls PyProof.Rows PySem.W PyProof.V
set_option Elab.async false
set_option maxRecDepth 100000
set_option linter.unusedVariables false
set_option autoImplicit false
namespace Mine
variable {W : Cs} {P : Prog} {n : Nat} {c : CC}
theorem snd_bad {e : Expr} (h : cE c e = .bad) : SndE W P n c e ∧ SndT W P n c e := by
  refine ⟨?_, ?_⟩
  · intro I ok lc l hh v h' e'
    rw [h] at e'; cases e'
  · intro I ok lc l hh v h' b e'
    rw [h] at e'; cases e'
theorem snd_plain {e : Expr} (h : SndE W P n c e) (he : ∀ env whole, PySem.isTrue e env whole = (do let v ← whole; standAt e.pos; holding [v] (truthy v)) := by intro _ _; rfl) : SndE W P n c e ∧ SndT W P n c e := ⟨h, snd_T h he⟩
theorem cBi_ok {f : Str} {l : E} (h : cBi f l ≠ .bad) : (f = "range" ∧ cBi f l = .rng l) ∨ (f = "len" ∧ ∃ a, l = .cons a .nil ∧ cBi f l = .len a) ∨ (f = "list" ∧ ∃ a, l = .cons a .nil ∧ cBi f l = .ltl a) ∨ (f = "int" ∧ ∃ a, l = .cons a .nil ∧ cBi f l = .toi a) := by
  by_cases h1 : f = "range"
  · subst h1; exact .inl ⟨rfl, by unfold cBi; rfl⟩
  by_cases h2 : f = "len"
  · subst h2
    refine .inr (.inl ⟨rfl, ?_⟩)
    cases l with
    | cons a r => cases r with | nil => exact ⟨a, rfl, rfl⟩ | _ => exact absurd rfl h
    | _ => exact absurd rfl h
  by_cases h3 : f = "list"
  · subst h3
    refine .inr (.inr (.inl ⟨rfl, ?_⟩))
    cases l with
    | cons a r => cases r with | nil => exact ⟨a, rfl, rfl⟩ | _ => exact absurd rfl h
    | _ => exact absurd rfl h
  by_cases h4 : f = "int"
  · subst h4
    refine .inr (.inr (.inr ⟨rfl, ?_⟩))
    cases l with
    | cons a r => cases r with | nil => exact ⟨a, rfl, rfl⟩ | _ => exact absurd rfl h
    | _ => exact absurd rfl h
  · have e1 : (f == ("range" : Str)) = false := by cases z : f == ("range" : Str) with | false => rfl | true => exact absurd ((str_beq _ _).mp z) h1
    have e2 : (f == ("len" : Str)) = false := by cases z : f == ("len" : Str) with | false => rfl | true => exact absurd ((str_beq _ _).mp z) h2
    have e3 : (f == ("list" : Str)) = false := by cases z : f == ("list" : Str) with | false => rfl | true => exact absurd ((str_beq _ _).mp z) h3
    have e4 : (f == ("int" : Str)) = false := by cases z : f == ("int" : Str) with | false => rfl | true => exact absurd ((str_beq _ _).mp z) h4
    exact absurd (by unfold cBi; rw [e1, e2, e3, e4]) h
theorem snd_Call (L : Lv W P n) (hd : c.sc.lookup ("__debug__" : Str) = none) {f : Str} {p pos : Pos} {es : List Expr} (hes : SndEs W P n c es) : SndE W P n c (.Call (.Name f p) es [] pos) := by
  intro I ok lc l h v h' e ex m D s S Q E hQ
  rw [cE_Call] at e
  split at e
  · rename_i hs
    split at e
    · rename_i k hf
      exact snd_call L hd hes hs hf ok lc e S hQ
    · split at e
      · rename_i k hf
        exact snd_new L hd hes hs hf ok lc e S hQ
      · have hne : cBi f (cEs c es) ≠ .bad := fun z => by rw [z] at e; cases e
        rcases cBi_ok hne with ⟨rfl, z⟩ | ⟨rfl, a, z1, z⟩ | ⟨rfl, a, z1, z⟩ | ⟨rfl, a, z1, z⟩
        · rw [z] at e; exact snd_rng L hd hes hs ok lc e S hQ
        · rw [z] at e; exact snd_len L hd hes hs z1 ok lc e S hQ
        · rw [z] at e; exact snd_ltl L hd hes hs z1 ok lc e S hQ
        · rw [z] at e; exact snd_toi L hd hes hs z1 ok lc e S hQ
  · cases e
theorem snd_App {a b : Expr} {x : Str} {p q : Pos} (ha : SndE W P n c a) (hb : SndE W P n c b) : SndE W P n c (.Call (.Attribute a x p) [b] [] q) := by
  intro I ok lc l h v h' e ex m D s S Q E hQ
  rw [cE_App] at e
  split at e
  · rename_i h1 h2 h3 h4
    exact snd_app ha hb h4 h1 h2 h3 ok lc e S hQ
  · cases e
set_option maxHeartbeats 2000000
mutual
theorem sndET (L : Lv W P n) (hd : c.sc.lookup ("__debug__" : Str) = none) : (e : Expr) → SndE W P n c e ∧ SndT W P n c e
  | .Constant .none k pos => snd_plain (snd_none k pos)
  | .Constant (.bool b) k pos => snd_plain (snd_bool b k pos)
  | .Constant (.int i) k pos => snd_plain (snd_int i k pos)
  | .Constant (.str s) k pos => snd_plain (snd_str s k pos)
  | .Constant (.float _) k pos => snd_bad (by rfl)
  | .Constant (.complex _ _) k pos => snd_bad (by rfl)
  | .Constant (.bytes _) k pos => snd_bad (by rfl)
  | .Constant .ellipsis k pos => snd_bad (by rfl)
  | .Name x pos => snd_plain (snd_Name L hd x pos)
  | .BinOp a o b pos => snd_plain (snd_Bin (sndET L hd a).1 (sndET L hd b).1)
  | .UnaryOp .USub a pos => snd_plain (snd_Neg (sndET L hd a).1)
  | .UnaryOp .Invert a pos => snd_plain (snd_Inv (sndET L hd a).1)
  | .UnaryOp .Not a pos => ⟨snd_Not (sndET L hd a).1, snd_NotT (sndET L hd a).2⟩
  | .UnaryOp .UAdd a pos => snd_bad (by rfl)
  | .BoolOp op [] pos => snd_bad (by cases op <;> rfl)
  | .BoolOp op [a] pos => snd_bad (by cases op <;> rfl)
  | .BoolOp op (a :: b :: l) pos => ⟨snd_Bool (sndB_more (sndET L hd a).1 ((sndLs L hd (b :: l)).2 op (List.cons_ne_nil _ _)).1), snd_BoolT (sndBT_more (sndET L hd a).2 ((sndLs L hd (b :: l)).2 op (List.cons_ne_nil _ _)).2)⟩
  | .IfExp t a b pos => ⟨snd_Ife (sndET L hd t).2 (sndET L hd a).1 (sndET L hd b).1, snd_IfeT (sndET L hd t).2 (sndET L hd a).2 (sndET L hd b).2⟩
  | .Compare a [o] [b] pos => ⟨snd_Cmp (sndET L hd a).1 (sndET L hd b).1, snd_CmpT (sndET L hd a).1 (sndET L hd b).1⟩
  | .Compare a [] _ pos => snd_bad (by rfl)
  | .Compare a [_] [] pos => snd_bad (by rfl)
  | .Compare a [_] (_ :: _ :: _) pos => snd_bad (by rfl)
  | .Compare a (_ :: _ :: _) _ pos => snd_bad (by rfl)
  | .Attribute a x pos => snd_plain (snd_Attr L (sndET L hd a).1)
  | .Subscript a b pos => snd_plain (snd_Sub (sndET L hd a).1 (sndET L hd b).1)
  | .Tuple l k pos => snd_plain (snd_Tup (sndLs L hd l).1)
  | .List l pos => snd_plain (snd_List (sndLs L hd l).1)
  | .Call f l k pos => match f, l, k with
    | .Name f p, l, [] => snd_plain (snd_Call L hd (sndLs L hd l).1)
    | .Attribute a x p, [b], [] => snd_plain (snd_App (sndET L hd a).1 (sndET L hd b).1)
    | .Attribute a x p, [], k => snd_bad (by rfl)
    | .Attribute a x p, _ :: _ :: _, k => snd_bad (by rfl)
    | .Attribute a x p, l, _ :: _ => snd_bad (by rcases l with _ | ⟨a1, _ | ⟨a2, r⟩⟩ <;> rfl)
    | .Name f p, l, _ :: _ => snd_bad (by rfl)
    | .Constant _ _ _, l, k => snd_bad (by rfl)
    | .BinOp _ _ _ _, l, k => snd_bad (by rfl)
    | .UnaryOp _ _ _, l, k => snd_bad (by rfl)
    | .BoolOp _ _ _, l, k => snd_bad (by rfl)
    | .IfExp _ _ _ _, l, k => snd_bad (by rfl)
    | .Compare _ _ _ _, l, k => snd_bad (by rfl)
    | .Subscript _ _ _, l, k => snd_bad (by rfl)
    | .Tuple _ _ _, l, k => snd_bad (by rfl)
    | .List _ _, l, k => snd_bad (by rfl)
    | .Call _ _ _ _, l, k => snd_bad (by rfl)
    | .NamedExpr _ _ _, l, k => snd_bad (by rfl)
    | .Lambda _ _ _ _, l, k => snd_bad (by rfl)
    | .Dict _ _ _, l, k => snd_bad (by rfl)
    | .Set _ _ _, l, k => snd_bad (by rfl)
    | .ListComp _ _ _ _, l, k => snd_bad (by rfl)
    | .SetComp _ _ _ _, l, k => snd_bad (by rfl)
    | .DictComp _ _ _ _ _, l, k => snd_bad (by rfl)
    | .GeneratorExp _ _ _ _, l, k => snd_bad (by rfl)
    | .Await _ _, l, k => snd_bad (by rfl)
    | .Yield _ _, l, k => snd_bad (by rfl)
    | .YieldFrom _ _, l, k => snd_bad (by rfl)
    | .FormattedValue _ _ _ _, l, k => snd_bad (by rfl)
    | .JoinedStr _ _, l, k => snd_bad (by rfl)
    | .Starred _ _, l, k => snd_bad (by rfl)
    | .Slice _ _ _ _, l, k => snd_bad (by rfl)
  | .NamedExpr _ _ _ => snd_bad (by rfl)
  | .Lambda _ _ _ _ => snd_bad (by rfl)
  | .Dict _ _ _ => snd_bad (by rfl)
  | .Set _ _ _ => snd_bad (by rfl)
  | .ListComp _ _ _ _ => snd_bad (by rfl)
  | .SetComp _ _ _ _ => snd_bad (by rfl)
  | .DictComp _ _ _ _ _ => snd_bad (by rfl)
  | .GeneratorExp _ _ _ _ => snd_bad (by rfl)
  | .Await _ _ => snd_bad (by rfl)
  | .Yield _ _ => snd_bad (by rfl)
  | .YieldFrom _ _ => snd_bad (by rfl)
  | .FormattedValue _ _ _ _ => snd_bad (by rfl)
  | .JoinedStr _ _ => snd_bad (by rfl)
  | .Starred _ _ => snd_bad (by rfl)
  | .Slice _ _ _ _ => snd_bad (by rfl)
theorem sndLs (L : Lv W P n) (hd : c.sc.lookup ("__debug__" : Str) = none) : (l : List Expr) → SndEs W P n c l ∧ ∀ op, l ≠ [] → SndB W P n c op l ∧ SndBT W P n c op l
  | [] => ⟨sndEs_nil, fun _ h => absurd rfl h⟩
  | [e] => ⟨sndEs_cons (sndET L hd e).1 sndEs_nil, fun op _ => ⟨sndB_one (sndET L hd e).1, sndBT_one (sndET L hd e).2⟩⟩
  | e :: b :: l => ⟨sndEs_cons (sndET L hd e).1 (sndLs L hd (b :: l)).1, fun op _ => ⟨sndB_more (sndET L hd e).1 ((sndLs L hd (b :: l)).2 op (List.cons_ne_nil _ _)).1, sndBT_more (sndET L hd e).2 ((sndLs L hd (b :: l)).2 op (List.cons_ne_nil _ _)).2⟩⟩
end
end Mine
end
section
open PySem PySem.Calls PyProof.Rows PySem.W PyProof.V
set_option Elab.async false
set_option maxRecDepth 100000
set_option linter.unusedVariables false
set_option autoImplicit false
namespace Mine
variable {W : Cs} {P : Prog} {n : Nat} {c : CC}
noncomputable def HC (W : Cs) (P : Prog) (n : Nat) (c : CC) : Prop := (∀ x p e pos, noComp e = false → SndS W P n c (.Assign [.Name x p] e pos)) ∧ ∀ o x p e pos, SndE W P n c o → noComp e = false → SndS W P n c (.Assign [.Attribute o x p] e pos)
theorem sndS_bad {st : Stmt} (h : cS c st = .bad) : SndS W P n c st := by
  intro I ok lc l hh r e ex m D s S Q E H
  rw [h] at e
  exact absurd e.symm H.no
theorem snd_A1 {x : Str} {p pos : Pos} {e : Expr} (hc : HC W P n c) (he : SndE W P n c e) : SndS W P n c (.Assign [.Name x p] e pos) := by
  cases q : noComp e with
  | false => exact hc.1 x p e pos q
  | true =>
    intro I ok lc l h r ee ex m D s S Q E H
    rw [cS_A1, q] at ee
    cases z : locOf c x with
    | none => rw [z] at ee; exact absurd ee.symm H.no
    | some k => rw [z] at ee; exact snd_AsL he (locOf_ok z).2 (locOf_ok z).1 ok lc ee S H
theorem snd_A2 {o : Expr} {x : Str} {p pos : Pos} {e : Expr} (L : Lv W P n) (hc : HC W P n c) (ho : SndE W P n c o) (he : SndE W P n c e) : SndS W P n c (.Assign [.Attribute o x p] e pos) := by
  cases q : noComp e with
  | false => exact hc.2 o x p e pos ho q
  | true =>
    intro I ok lc l h r ee ex m D s S Q E H
    rw [cS_A2, q] at ee
    cases z : idx x c.attrs with
    | none => rw [z] at ee; exact absurd ee.symm H.no
    | some k => rw [z] at ee; exact snd_AsA L ho he z ok lc ee S H
theorem snd_A3 {o i e : Expr} {p pos : Pos} (ho : SndE W P n c o) (hi : SndE W P n c i) (he : SndE W P n c e) : SndS W P n c (.Assign [.Subscript o i p] e pos) := by
  intro I ok lc l h r ee ex m D s S Q E H
  rw [cS_A3] at ee
  exact snd_AsS ho hi he ok lc ee S H
theorem swOk_inv {l es : List Expr} (h : swOk l es = true) : ∃ x p y q a b, l = [.Name x p, .Name y q] ∧ es = [a, b] := by
  unfold swOk at h
  split at h
  · exact ⟨_, _, _, _, _, _, rfl, rfl⟩
  · cases h
theorem cS_A5 {l : List Expr} {k : Nat} {p q : Pos} {e : Expr} (hn : ∀ es k p, e ≠ .Tuple es k p) : cS c (.Assign [.Tuple l k p] e q) = match locIdx c l with
    | some ks => .asT ks (cE c e)
    | none => .bad := by
  cases e <;> first | rfl | exact absurd rfl (hn _ _ _)
theorem snd_A4 {l : List Expr} {k : Nat} {e : Expr} {p pos : Pos} (he : SndE W P n c e) : SndS W P n c (.Assign [.Tuple l k p] e pos) := by
  intro I ok lc ll h r ee ex m D s S Q E H
  rcases isT e with ⟨es, k2, p2, rfl⟩ | hn
  · have e2 : evS (match locIdx c l, swOk l es with | some ks, true => .asT ks (cE c (.Tuple es k2 p2)) | _, _ => .bad) P (ev P n) ll h = r := by rw [cS_A4] at ee; exact ee
    cases z : locIdx c l with
    | none => rw [z] at e2; exact absurd e2.symm H.no
    | some ks =>
      cases w : swOk l es with
      | false => rw [z, w] at e2; exact absurd e2.symm H.no
      | true =>
        rw [z, w] at e2
        obtain ⟨x, px, y, py, a, b, rfl, rfl⟩ := swOk_inv w
        exact snd_AsT2 he w z ok lc e2 S H
  · have ee : evS (match locIdx c l with | some ks => .asT ks (cE c e) | none => .bad) P (ev P n) ll h = r := by
      rw [cS_A5 hn] at ee
      exact ee
    cases z : locIdx c l with
    | none => rw [z] at ee; exact absurd ee.symm H.no
    | some ks => rw [z] at ee; exact snd_AsT he hn z ok lc ee S H
theorem snd_U1 {x : Str} {p pos : Pos} {o : Operator} {e : Expr} (he : SndE W P n c e) : SndS W P n c (.AugAssign (.Name x p) o e pos) := by
  intro I ok lc l h r ee ex m D s S Q E H
  rw [cS_U1] at ee
  split at ee
  · rename_i k op z w
    exact snd_AuL w he (locOf_ok z).2 (locOf_ok z).1 ok lc ee S H
  · exact absurd ee.symm H.no
theorem snd_U2 (L : Lv W P n) {a : Expr} {x : Str} {p pos : Pos} {o : Operator} {e : Expr} (ha : SndE W P n c a) (he : SndE W P n c e) : SndS W P n c (.AugAssign (.Attribute a x p) o e pos) := by
  intro I ok lc l h r ee ex m D s S Q E H
  rw [cS_U2] at ee
  split at ee
  · rename_i k op z w
    exact snd_AuA L w ha he z ok lc ee S H
  · exact absurd ee.symm H.no
theorem snd_U3 {a i : Expr} {p pos : Pos} {o : Operator} {e : Expr} (ha : SndE W P n c a) (hi : SndE W P n c i) (he : SndE W P n c e) : SndS W P n c (.AugAssign (.Subscript a i p) o e pos) := by
  intro I ok lc l h r ee ex m D s S Q E H
  rw [cS_U3] at ee
  split at ee
  · rename_i op w
    exact snd_AuS w ha hi he ok lc ee S H
  · exact absurd ee.symm H.no
theorem snd_F1 {x : Str} {p pos : Pos} {it : Expr} {b : List Stmt} (hi : SndE W P n c it) (hb : SndL W P n c b) : SndS W P n c (.For (.Name x p) it b [] pos) := by
  intro I ok lc l h r ee ex m D s S Q E H
  rw [cS_F1] at ee
  split at ee
  · rename_i k z
    exact snd_For1 hi hb z ok lc ee S H
  · exact absurd ee.symm H.no
theorem snd_F2 {el : List Expr} {k : Nat} {p pos : Pos} {it : Expr} {b : List Stmt} (hi : SndE W P n c it) (hb : SndL W P n c b) : SndS W P n c (.For (.Tuple el k p) it b [] pos) := by
  intro I ok lc l h r ee ex m D s S Q E H
  rw [cS_F2] at ee
  split at ee
  · rename_i k z
    exact snd_ForT hi hb z ok lc ee S H
  · exact absurd ee.symm H.no
set_option maxHeartbeats 2000000
mutual
theorem sndSt (hL : ∀ k, k ≤ n → Lv W P k) (hd : c.sc.lookup ("__debug__" : Str) = none) (hc : ∀ k, k ≤ n → HC W P k c) : (st : Stmt) → ∀ k, k ≤ n → SndS W P k c st
  | .Pass pos => fun k hk => snd_Pass
  | .Return (some e) pos => fun k hk => snd_Ret (sndET (hL k hk) hd e).1
  | .Return none pos => fun k hk => snd_Ret0
  | .Expr e pos => fun k hk => snd_Ex (sndET (hL k hk) hd e).1
  | .If t a b pos => fun k hk => snd_If (sndET (hL k hk) hd t).2 (sndSl hL hd hc a k hk) (sndSl hL hd hc b k hk)
  | .While t a [] pos => fun k hk => snd_While (fun j hj => (sndET (hL j (Nat.le_trans hj hk)) hd t).2) (fun j hj => sndSl hL hd hc a j (Nat.le_trans hj hk))
  | .While t a (_ :: _) pos => fun k hk => sndS_bad (by rfl)
  | .For t it a b pos => fun k hk => match t, b with
    | .Name x p, [] => snd_F1 (sndET (hL k hk) hd it).1 (sndSl hL hd hc a k hk)
    | .Tuple l kk p, [] => snd_F2 (sndET (hL k hk) hd it).1 (sndSl hL hd hc a k hk)
    | t, _ :: _ => sndS_bad (by cases t <;> rfl)
    | .Constant _ _ _, [] => sndS_bad (by rfl)
    | .BinOp _ _ _ _, [] => sndS_bad (by rfl)
    | .UnaryOp _ _ _, [] => sndS_bad (by rfl)
    | .BoolOp _ _ _, [] => sndS_bad (by rfl)
    | .IfExp _ _ _ _, [] => sndS_bad (by rfl)
    | .Compare _ _ _ _, [] => sndS_bad (by rfl)
    | .Subscript _ _ _, [] => sndS_bad (by rfl)
    | .Attribute _ _ _, [] => sndS_bad (by rfl)
    | .List _ _, [] => sndS_bad (by rfl)
    | .Call _ _ _ _, [] => sndS_bad (by rfl)
    | .NamedExpr _ _ _, [] => sndS_bad (by rfl)
    | .Lambda _ _ _ _, [] => sndS_bad (by rfl)
    | .Dict _ _ _, [] => sndS_bad (by rfl)
    | .Set _ _ _, [] => sndS_bad (by rfl)
    | .ListComp _ _ _ _, [] => sndS_bad (by rfl)
    | .SetComp _ _ _ _, [] => sndS_bad (by rfl)
    | .DictComp _ _ _ _ _, [] => sndS_bad (by rfl)
    | .GeneratorExp _ _ _ _, [] => sndS_bad (by rfl)
    | .Await _ _, [] => sndS_bad (by rfl)
    | .Yield _ _, [] => sndS_bad (by rfl)
    | .YieldFrom _ _, [] => sndS_bad (by rfl)
    | .FormattedValue _ _ _ _, [] => sndS_bad (by rfl)
    | .JoinedStr _ _, [] => sndS_bad (by rfl)
    | .Starred _ _, [] => sndS_bad (by rfl)
    | .Slice _ _ _ _, [] => sndS_bad (by rfl)
  | .Assign ts e pos => fun k hk => match ts with
    | [] => sndS_bad (by rfl)
    | a :: b :: r => sndS_bad (by cases a <;> rfl)
    | [.Name x p] => snd_A1 (hc k hk) (sndET (hL k hk) hd e).1
    | [.Attribute o x p] => snd_A2 (hL k hk) (hc k hk) (sndET (hL k hk) hd o).1 (sndET (hL k hk) hd e).1
    | [.Subscript o i p] => snd_A3 (sndET (hL k hk) hd o).1 (sndET (hL k hk) hd i).1 (sndET (hL k hk) hd e).1
    | [.Tuple l kk p] => snd_A4 (sndET (hL k hk) hd e).1
    | [.Constant _ _ _] => sndS_bad (by rfl)
    | [.BinOp _ _ _ _] => sndS_bad (by rfl)
    | [.UnaryOp _ _ _] => sndS_bad (by rfl)
    | [.BoolOp _ _ _] => sndS_bad (by rfl)
    | [.IfExp _ _ _ _] => sndS_bad (by rfl)
    | [.Compare _ _ _ _] => sndS_bad (by rfl)
    | [.List _ _] => sndS_bad (by rfl)
    | [.Call _ _ _ _] => sndS_bad (by rfl)
    | [.NamedExpr _ _ _] => sndS_bad (by rfl)
    | [.Lambda _ _ _ _] => sndS_bad (by rfl)
    | [.Dict _ _ _] => sndS_bad (by rfl)
    | [.Set _ _ _] => sndS_bad (by rfl)
    | [.ListComp _ _ _ _] => sndS_bad (by rfl)
    | [.SetComp _ _ _ _] => sndS_bad (by rfl)
    | [.DictComp _ _ _ _ _] => sndS_bad (by rfl)
    | [.GeneratorExp _ _ _ _] => sndS_bad (by rfl)
    | [.Await _ _] => sndS_bad (by rfl)
    | [.Yield _ _] => sndS_bad (by rfl)
    | [.YieldFrom _ _] => sndS_bad (by rfl)
    | [.FormattedValue _ _ _ _] => sndS_bad (by rfl)
    | [.JoinedStr _ _] => sndS_bad (by rfl)
    | [.Starred _ _] => sndS_bad (by rfl)
    | [.Slice _ _ _ _] => sndS_bad (by rfl)
  | .AugAssign t o e pos => fun k hk => match t with
    | .Name x p => snd_U1 (sndET (hL k hk) hd e).1
    | .Attribute a x p => snd_U2 (hL k hk) (sndET (hL k hk) hd a).1 (sndET (hL k hk) hd e).1
    | .Subscript a i p => snd_U3 (sndET (hL k hk) hd a).1 (sndET (hL k hk) hd i).1 (sndET (hL k hk) hd e).1
    | .Constant _ _ _ => sndS_bad (by rfl)
    | .BinOp _ _ _ _ => sndS_bad (by rfl)
    | .UnaryOp _ _ _ => sndS_bad (by rfl)
    | .BoolOp _ _ _ => sndS_bad (by rfl)
    | .IfExp _ _ _ _ => sndS_bad (by rfl)
    | .Compare _ _ _ _ => sndS_bad (by rfl)
    | .List _ _ => sndS_bad (by rfl)
    | .Tuple _ _ _ => sndS_bad (by rfl)
    | .Call _ _ _ _ => sndS_bad (by rfl)
    | .NamedExpr _ _ _ => sndS_bad (by rfl)
    | .Lambda _ _ _ _ => sndS_bad (by rfl)
    | .Dict _ _ _ => sndS_bad (by rfl)
    | .Set _ _ _ => sndS_bad (by rfl)
    | .ListComp _ _ _ _ => sndS_bad (by rfl)
    | .SetComp _ _ _ _ => sndS_bad (by rfl)
    | .DictComp _ _ _ _ _ => sndS_bad (by rfl)
    | .GeneratorExp _ _ _ _ => sndS_bad (by rfl)
    | .Await _ _ => sndS_bad (by rfl)
    | .Yield _ _ => sndS_bad (by rfl)
    | .YieldFrom _ _ => sndS_bad (by rfl)
    | .FormattedValue _ _ _ _ => sndS_bad (by rfl)
    | .JoinedStr _ _ => sndS_bad (by rfl)
    | .Starred _ _ => sndS_bad (by rfl)
    | .Slice _ _ _ _ => sndS_bad (by rfl)
  | .FunctionDef .. => fun k hk => sndS_bad (by rfl)
  | .AsyncFunctionDef .. => fun k hk => sndS_bad (by rfl)
  | .ClassDef .. => fun k hk => sndS_bad (by rfl)
  | .Delete .. => fun k hk => sndS_bad (by rfl)
  | .TypeAlias .. => fun k hk => sndS_bad (by rfl)
  | .AnnAssign .. => fun k hk => sndS_bad (by rfl)
  | .AsyncFor .. => fun k hk => sndS_bad (by rfl)
  | .With .. => fun k hk => sndS_bad (by rfl)
  | .AsyncWith .. => fun k hk => sndS_bad (by rfl)
  | .Match .. => fun k hk => sndS_bad (by rfl)
  | .Raise .. => fun k hk => sndS_bad (by rfl)
  | .Try .. => fun k hk => sndS_bad (by rfl)
  | .TryStar .. => fun k hk => sndS_bad (by rfl)
  | .Assert .. => fun k hk => sndS_bad (by rfl)
  | .Import .. => fun k hk => sndS_bad (by rfl)
  | .ImportFrom .. => fun k hk => sndS_bad (by rfl)
  | .Global .. => fun k hk => sndS_bad (by rfl)
  | .Nonlocal .. => fun k hk => sndS_bad (by rfl)
  | .Break .. => fun k hk => sndS_bad (by rfl)
  | .Continue .. => fun k hk => sndS_bad (by rfl)
theorem sndSl (hL : ∀ k, k ≤ n → Lv W P k) (hd : c.sc.lookup ("__debug__" : Str) = none) (hc : ∀ k, k ≤ n → HC W P k c) : (l : List Stmt) → ∀ k, k ≤ n → SndL W P k c l
  | [] => fun k hk => sndL_nil
  | s :: l => fun k hk => sndL_cons (sndSt hL hd hc s k hk) (sndSl hL hd hc l k hk)
end
end Mine
end
section
open PySem PySem.Calls PyProof.Rows PySem.W PyProof.V
set_option Elab.async false
set_option maxRecDepth 100000
set_option linter.unusedVariables false
set_option autoImplicit false
namespace Mine
variable {W : Cs} {P : Prog} {n : Nat} {c : CC}
noncomputable def ConSnd (W : Cs) (P : Prog) (n f : Nat) (fa : Addr) : Prop := ∀ (I : Fi), I.Ok W n → ∀ vs h v h', P.con f vs h = .ok v h' →
  ∀ names ex l m D (s : Shared) vals, SR W I names ex l h s.heap m D → VRs W.toCw D vs vals → ∀ A : Around, A.handled = none → A.frames = some (I.env :: I.outer) → A.depth ≤ I.dp + 1 → A.units ≤ I.un + 8 → ∀ R : Result → Shared → Prop,
    (∀ val hp tk D', Ext D D' → SR W I names ex l h' hp m D' → VR W.toCw D' v val → R (.ok (.ret val)) { s with heap := hp, toks := tk }) → codeAny (model W.prog W.w) A (.call (.ref fa) ⟨vals, []⟩) R s
theorem zip_lookup : ∀ {ps : List Str} {vals : List Value} {k : Nat} {x : Str} {v : Value}, ps.Nodup → ps[k]? = some x → vals[k]? = some v → (ps.zip vals).reverse.lookup x = some v := by
  intro ps vals k x v nd hp hv
  have key : ∀ {l : List (Str × Value)}, (∀ q ∈ l, q.1 = x → q.2 = v) → (∃ q ∈ l, q.1 = x) → l.lookup x = some v := by
    intro l
    induction l with
    | nil => intro _ ⟨q, hq, _⟩; cases hq
    | cons a r ih =>
      intro h1 h2
      rw [List.lookup_cons]
      by_cases z : a.1 = x
      · rw [show (x == a.1) = true by rw [z]; exact beq_self_eq_true x]
        exact congrArg some (h1 a (.head _) z)
      · rw [show (x == a.1) = false by cases w : x == a.1 with | false => rfl | true => exact absurd ((str_beq _ _).mp w).symm z]
        refine ih (fun q hq => h1 q (.tail _ hq)) ?_
        obtain ⟨q, hq, e⟩ := h2
        rcases List.mem_cons.mp hq with rfl | hq
        · exact absurd e z
        · exact ⟨q, hq, e⟩
  have hz : (ps.zip vals)[k]? = some (x, v) := by rw [List.getElem?_zip_eq_some]; exact ⟨hp, hv⟩
  refine key (fun q hq e => ?_) ⟨(x, v), List.mem_reverse.mpr (List.mem_of_getElem? hz), rfl⟩
  obtain ⟨j, hj⟩ := List.getElem?_of_mem (List.mem_reverse.mp hq)
  obtain ⟨a, b⟩ := List.getElem?_zip_eq_some.mp hj
  rw [e] at a
  have : k = j := nodup_inj nd hp a
  subst this
  rw [hv] at b; exact (Option.some.inj b).symm
theorem repL_get : ∀ {n k : Nat} {v w : V}, (repL n v)[k]? = some w → w = v
  | 0, _, _, _, h => by cases h
  | n + 1, 0, v, w, h => by
    have h : (v :: repL n v)[0]? = some w := h
    simp at h; exact h.symm
  | n + 1, k + 1, v, w, h => by
    have h : (v :: repL n v)[k + 1]? = some w := h
    rw [List.getElem?_cons_succ] at h
    exact repL_get h
theorem leave_ok {r : RS} {v : V} {h' : Hp} (e : leave r = .ok v h') : r ≠ .fail ∧ ((∃ l, r = .next l h' ∧ v = .no) ∨ r = .ret v h') := by
  cases r with
  | fail => cases e
  | next l h => cases e; exact ⟨(by intro q; cases q), .inl ⟨l, rfl, rfl⟩⟩
  | ret v h => cases e; exact ⟨(by intro q; cases q), .inr rfl⟩
theorem callF_ok {f : Nat} {ih : IH} {vs : List V} {h : Hp} {v : V} {h' : Hp} (e : callF f P ih vs h = .ok v h') : P.con f vs h = .ok v h' ∨ ∃ fn, lget P.fns f = some fn ∧ vs.length = fn.np ∧ leave (ih fn.body (vs ++ repL (Nat.sub fn.nl fn.np) .un) h) = .ok v h' := by
  cases P with
  | mk fns cls con =>
    have e : orC (con f vs h) (oB (lget fns f) (enter ih vs h)) = .ok v h' := e
    cases q : con f vs h with
    | ok a b => rw [q] at e; exact .inl (q.trans e)
    | fail =>
      rw [q] at e
      obtain ⟨fn, h1, e⟩ := oB_ok (show oB (lget fns f) (enter ih vs h) = .ok v h' from e)
      cases fn with
      | mk np nl body =>
        obtain ⟨h2, e⟩ := ifB_ok (show ifB (Nat.beq vs.length np) (lnorm (vs ++ repL (Nat.sub nl np) .un) fun l => leave (ih body l h)) Mine.R.fail = Mine.R.ok v h' from e)
        rw [lnorm_eq] at e
        exact .inr ⟨_, h1, Nat.eq_of_beq_eq_true h2, e⟩
theorem callSnd (hcon : ∀ f fa, FnIs W P f fa → ConSnd W P n f fa) (hL : ∀ k, k < n → Lv W P k) (hHC : ∀ k c, k < n → c.sc.lookup ("__debug__" : Str) = none → c.attrs = W.an → HC W P k c) : ∀ f fa, FnIs W P f fa → CallSnd W P n f fa := by
  intro f fa hf I ok vs h v h' e names ex l m D s vals S hv A hA1 hA2 hA3 hA4 R hR
  rcases callF_ok e with e | ⟨fn, h1, h2, e⟩
  · exact hcon f fa hf I ok vs h v h' e names ex l m D s vals S hv A hA1 hA2 hA3 hA4 R hR
  · obtain ⟨ps, fn', name, qual, params, body, scope, dV, kV, doc, pm, cdv, ct, oc, an, od, osl, c, T⟩ := hf
    have := T.hfn
    rw [h1] at this; cases this
    cases n with
    | zero => cases e
    | succ k =>
      have hvl := hv.length
      have e : leave (evS fn.body P (ev P k) (vs ++ repL (Nat.sub fn.nl fn.np) .un) h) = .ok v h' := e
      obtain ⟨hne, hres⟩ := leave_ok e
      rw [T.hbody] at hne hres
      have hroom : A.depth < recursionLimit := by have := ok.dB; omega
      refine code_def ok.B S.F ok.X S.N ok.T hA2 rfl ok.ck T.ho T.code hroom (T.bind s vals (by omega)) (fun y hy => ?_) (fun g L' h₁ FG F' N' B' X' T' => ?_) T.co T.ge T.ki T.cell
      · have hm : y.1 ∈ ps := (List.of_mem_zip hy).1
        exact T.loc _ hm
      · let I' : Fi := { cn := qual, cs := scope, a := fa, ccd := cdv, outer := I.env :: I.outer, A₀ := A, base := I.base, h₀ := g, L := L', dp := A.depth + 1, un := A.units + 3, gd := A.guards }
        have hAd : A.deeper (envOf qual scope L' fa cdv) = I'.A := by
          cases A
          cases hA1; cases hA2
          rfl
        have ok' : I'.Ok W k := ⟨B', X', T', T.ki, ok.sc, by have := ok.dB; show A.depth + 1 + 2 * k + 8 + 2 * W.bud < recursionLimit; omega, by have := ok.uB; show A.units + 3 + 16 * k + 100 + 16 * W.bud < cLine; omega⟩
        have lc' : LcOk W c I' := ⟨T.hsc, T.attrs, T.gl, T.fns, T.cls⟩
        have S' : SR W I' c.names ex (vs ++ repL (Nat.sub fn.nl fn.np) .un) h h₁ (fun y => (ps.zip vals).reverse.lookup y) D := by
          refine ⟨F', N', S.nd, S.im, S.ex, S.H, fun x j hx w hw => ?_⟩
          rw [lget_some] at hw
          by_cases hj : j < vs.length
          · rw [List.getElem?_append_left hj] at hw
            obtain ⟨val, hval, hvr⟩ := hv.get (lget_some.mpr hw)
            refine .inr ⟨val, ?_, hvr⟩
            refine zip_lookup T.nd ?_ hval
            rw [← T.pre j (by omega)]
            exact idx_ok hx
          · rw [List.getElem?_append_right (by omega)] at hw
            exact .inl (repL_get hw)
        rw [hAd]
        refine sndSl (fun j hj => hL j (by omega)) T.dbg (fun j hj => hHC j c (by omega) T.dbg T.attrs) body k (Nat.le_refl k) I' ok' lc' _ _ _ rfl ex _ D _ S' _ _ ⟨hne, fun l2 h2 q hp tk m2 D2 X2 S2 => ?_, fun v2 h2 q val hp tk m2 D2 l2 X2 S2 V2 => ?_⟩
        · rcases hres with ⟨l3, q2, rfl⟩ | q2
          · rw [q] at q2; cases q2
            refine leaveK_ S2.F S2.N fun kF kN => ?_
            exact hR .none hp _ D2 X2 ⟨kF, kN, S2.nd, S2.im, S2.ex, S2.H, fun x j hx w hw => (S.lc x j hx w hw).imp id fun ⟨val, a, b⟩ => ⟨val, a, b.mono X2⟩⟩ .no
          · rw [q] at q2; cases q2
        · rcases hres with ⟨l3, q2, rfl⟩ | q2
          · rw [q] at q2; cases q2
          · rw [q] at q2; cases q2
            refine leaveK_ S2.F S2.N fun kF kN => ?_
            exact hR val hp _ D2 X2 ⟨kF, kN, S2.nd, S2.im, S2.ex, S2.H, fun x j hx w hw => (S.lc x j hx w hw).imp id fun ⟨val, a, b⟩ => ⟨val, a, b.mono X2⟩⟩ V2
theorem lv_all (G : GlOk W P) (N : Nat) (hcon : ∀ n, n ≤ N → ∀ f fa, FnIs W P f fa → ConSnd W P n f fa) (hHC : ∀ k c, Lv W P k → c.sc.lookup ("__debug__" : Str) = none → c.attrs = W.an → HC W P k c) : ∀ n, n ≤ N → Lv W P n := by
  intro n
  induction n using Nat.strongRecOn with
  | ind n ih =>
    intro hn
    have hL : ∀ k, k < n → Lv W P k := fun k hk => ih k hk (by omega)
    exact ⟨G, callSnd (hcon n hn) hL fun k c hk h1 h2 => hHC k c (hL k hk) h1 h2⟩
end Mine
end
section
open PySem PySem.Calls PyProof.Rows PySem.W PyProof.V
set_option Elab.async false
set_option maxRecDepth 100000
set_option linter.unusedVariables false
set_option autoImplicit false
namespace Mine
/-! the statics, looked at by computation -/
structure Pt where
  name : Str
  qual : Str
  params : Arguments
  body : List Stmt
  scope : Scope
  dV : Value
  kV : Value
  doc : Value
  pm : Value
  an : Option Addr
  cdv : Value
  ct : Value
  oc : Value
  od : Option Addr
  osl : Array (Option Value)
noncomputable def Pt.fd (p : Pt) : FuncData := fnOf p.name p.qual p.params p.body p.scope p.dV p.kV p.doc p.pm p.an p.cdv p.ct
noncomputable def Pt.ps (p : Pt) : List Str := p.params.args.map (·.arg)
noncomputable def ptOf (o : Obj) : Option Pt := match o with
  | ⟨oc, od, .func ⟨name, qual, params, .stmts body, scope, g, [], dV, kV, doc, pm, an, cdv, ct, b⟩, osl⟩ => match Nat.beq g mainGlobals, Nat.beq b builtinsNs with
    | true, true => some ⟨name, qual, params, body, scope, dV, kV, doc, pm, an, cdv, ct, oc, od, osl⟩
    | _, _ => none
  | _ => none
theorem ptOf_ok {o : Obj} {p : Pt} (h : ptOf o = some p) : o = ⟨p.oc, p.od, .func p.fd, p.osl⟩ := by
  unfold ptOf at h
  split at h
  · split at h
    · rename_i h1 h2
      cases h
      have e1 := Nat.eq_of_beq_eq_true h1
      have e2 := Nat.eq_of_beq_eq_true h2
      subst e1; subst e2
      rfl
    · cases h
  · cases h
noncomputable def hasB (x : Str) : List Str → Bool
  | [] => false
  | y :: r => (x == y) || hasB x r
noncomputable def nodupB : List Str → Bool
  | [] => true
  | x :: r => !hasB x r && nodupB r
theorem hasB_ok {x : Str} : ∀ {l : List Str}, hasB x l = false → x ∉ l
  | [], _, h => nomatch h
  | y :: r, h, hm => by
    unfold hasB at h
    rw [Bool.or_eq_false_iff] at h
    rcases List.mem_cons.mp hm with rfl | hm
    · rw [(str_beq x x).mpr rfl] at h; cases h.1
    · exact hasB_ok h.2 hm
theorem nodupB_ok : ∀ {l : List Str}, nodupB l = true → l.Nodup
  | [], _ => List.nodup_nil
  | x :: r, h => by
    unfold nodupB at h
    rw [Bool.and_eq_true_iff] at h
    exact List.nodup_cons.mpr ⟨hasB_ok (by simpa using h.1), nodupB_ok h.2⟩
noncomputable def restOf (ps : List Str) : List (Str × NameKind) → List Str
  | [] => []
  | (x, k) :: r => match k with
    | .local => match hasB x ps with
      | true => restOf ps r
      | false => x :: restOf ps r
    | _ => restOf ps r
noncomputable def Pt.locs (p : Pt) : List Str := p.ps ++ restOf p.ps p.scope.names
noncomputable def ccOf (W : Cs) (p : Pt) : CC := ⟨p.locs, p.scope.names, W.an, W.fns, W.ccls, W.gl⟩
noncomputable def fnPt (W : Cs) (p : Pt) : Fn := ⟨p.ps.length, p.locs.length, cB (ccOf W p) p.body⟩
noncomputable def isLoc (o : Option NameKind) : Bool := match o with
  | some .local => true
  | _ => false
noncomputable def notCell (k : NameKind) : Bool := match k with
  | .cell => false
  | _ => true
noncomputable def isFun (k : ScopeKind) : Bool := match k with
  | .function => true
  | _ => false
noncomputable def isNoneO (o : Option NameKind) : Bool := match o with
  | none => true
  | _ => false
noncomputable def chkPt (K : Frag) (p : Pt) : Bool := codeIn K p.cdv p.qual && nodupB p.ps && p.ps.all (fun x => isLoc (p.scope.names.lookup x)) && !p.scope.isCoroutine && !p.scope.isGenerator && isFun p.scope.kind && p.scope.names.all (fun q => notCell q.2) && isNoneO (p.scope.names.lookup ("__debug__" : Str))
theorem fnIs_of {W : Cs} {P : Prog} {f : Nat} {fa : Addr} {o : Obj} {p : Pt} (hK : W.K.lookup fa = some o) (hp : ptOf o = some p) (hfn : lget P.fns f = some (fnPt W p)) (hc : chkPt W.K p = true) (ha : lget W.fad f = some fa) (hb : ∀ vals : List Value, vals.length = p.ps.length → bindArgs p.fd ⟨vals, []⟩ = pure (p.ps.zip vals)) : FnIs W P f fa := by
  unfold chkPt at hc
  simp only [Bool.and_eq_true, Bool.not_eq_true'] at hc
  obtain ⟨⟨⟨⟨⟨⟨⟨c1, c2⟩, c3⟩, c4⟩, c5⟩, c6⟩, c7⟩, c8⟩ := hc
  refine ⟨p.ps, fnPt W p, p.name, p.qual, p.params, p.body, p.scope, p.dV, p.kV, p.doc, p.pm, p.cdv, p.ct, p.oc, p.an, p.od, p.osl, ccOf W p, ?_⟩
  refine { hfn := hfn, adr := ha, ho := hK.trans (congrArg some (ptOf_ok hp)), code := c1, bind := fun s vals hv => BindsTo.of_eq (hb vals hv), hnp := rfl, hnl := ?_, pre := ?_, nd := nodupB_ok c2, loc := ?_, hbody := rfl, hsc := rfl, attrs := rfl, gl := rfl, fns := rfl, cls := rfl, co := c4, ge := c5, ki := ?_, cell := ?_, dbg := ?_ }
  · show p.ps.length ≤ (p.ps ++ restOf p.ps p.scope.names).length
    rw [List.length_append]; omega
  · intro k hk
    show (p.ps ++ restOf p.ps p.scope.names)[k]? = _
    exact List.getElem?_append_left hk
  · intro x hx
    have := List.all_eq_true.mp c3 x hx
    unfold isLoc at this
    split at this
    · rename_i q; exact q
    · cases this
  · unfold isFun at c6
    split at c6
    · rename_i q; exact q
    · cases c6
  · intro x hx e
    have := List.all_eq_true.mp c7 x hx
    rw [e] at this; cases this
  · unfold isNoneO at c8
    split at c8
    · rename_i q; exact q
    · cases c8
/-! a written constant of the top, by computation -/
noncomputable def seqB (cls : String) (o : Obj) : Option (List Value × Nat) := match o with
  | ⟨.type c, none, .seq ⟨xs⟩ n, ⟨[]⟩⟩ => match c == cls with
    | true => some (xs, n)
    | false => none
  | _ => none
theorem seqB_ok {cls : String} {o : Obj} {xs : List Value} {n : Nat} (h : seqB cls o = some (xs, n)) : o = { cls := .type cls, data := .seq xs.toArray n } := by
  unfold seqB at h
  split at h
  · split at h
    · rename_i q
      cases h
      rw [eq_of_beq q]
    · cases h
  · cases h
noncomputable def vrB (K : Frag) : Nat → V → Value → Bool
  | 0, _, _ => false
  | m + 1, v, x => match v, x with
    | .n k, .int i _ => match i with
      | .ofNat j => Nat.beq j k
      | _ => false
    | .m k, .int i _ => match i with
      | .negSucc j => Nat.beq j k
      | _ => false
    | .str s, .str t _ => s == t && PyData.strOk s
    | .tup l, .ref a => match K.lookup a with
      | some o => match seqB "tuple" o with
        | some (xs, _) => vrsB K m l xs
        | none => false
      | none => false
    | .lst l, .ref a => match K.lookup a with
      | some o => match seqB "list" o with
        | some (xs, _) => vrsB K m l xs
        | none => false
      | none => false
    | _, _ => false
where vrsB (K : Frag) : Nat → List V → List Value → Bool
  | _, [], [] => true
  | m + 1, v :: l, x :: xs => vrB K m v x && vrsB K m l xs
  | _, _, _ => false
mutual
theorem vrB_ok {W : Cw} {D : Ld} : ∀ {m : Nat} {v : V} {x : Value}, vrB W.K m v x = true → VR W D v x
  | 0, _, _, h => by simp [vrB] at h
  | m + 1, v, x, h => by
    unfold vrB at h
    split at h
    · split at h
      · exact .int _ (by rw [Nat.eq_of_beq_eq_true h]; rfl)
      · cases h
    · split at h
      · exact .int _ (by rw [Nat.eq_of_beq_eq_true h]; rfl)
      · cases h
    · rw [Bool.and_eq_true] at h
      obtain ⟨h1, h2⟩ := h
      rw [← (str_beq _ _).mp h1]
      exact .str _ _ h2
    · split at h
      · rename_i o ho
        split at h
        · rename_i xs k hs
          exact .tup (.inr (ho.trans (congrArg some (seqB_ok hs)))) (vrsB_ok h)
        · cases h
      · cases h
    · split at h
      · rename_i o ho
        split at h
        · rename_i xs k hs
          exact .lst (n := k) (ho.trans (congrArg some (seqB_ok hs))) (vrsB_ok h)
        · cases h
      · cases h
    · cases h
theorem vrsB_ok {W : Cw} {D : Ld} : ∀ {m : Nat} {v : List V} {x : List Value}, vrB.vrsB W.K m v x = true → VRs W D v x
  | m, [], [], h => .nil
  | m + 1, v :: l, x :: xs, h => by
    unfold vrB.vrsB at h
    rw [Bool.and_eq_true] at h
    exact .cons (vrB_ok h.1) (vrsB_ok h.2)
  | 0, v :: l, x :: xs, h => by simp [vrB.vrsB] at h
  | m, [], x :: xs, h => by simp [vrB.vrsB] at h
  | m, v :: l, [], h => by cases m <;> simp [vrB.vrsB] at h
end
noncomputable def attrB (K : Frag) (C : Addr) (nm : Str) : Bool := plainGet K C nm && hasDictIn K C && (match findIn K (.ref C) nm with | some a => noGet K a | none => false) && (findIn K (.ref C) "__setattr__" == some (some (.builtin "object.__setattr__"))) && plainOver K C && (takerIn K C nm == some none)
theorem attrB_ok {K : Frag} {C : Addr} {nm : Str} (h : attrB K C nm = true) : AttrOk K C nm := by
  unfold attrB at h
  simp only [Bool.and_eq_true] at h
  obtain ⟨⟨⟨⟨⟨h1, h2⟩, h3⟩, h4⟩, h5⟩, h6⟩ := h
  refine ⟨h1, h2, ?_, eq_of_beq h4, h5, eq_of_beq h6⟩
  split at h3
  · rename_i a q; exact ⟨a, q, h3⟩
  · cases h3
end Mine
end
section
open PySem PySem.Calls PyProof.Rows PySem.W PyProof.V
open PyProof.Rows.LCg
set_option Elab.async false
set_option maxRecDepth 100000
set_option linter.unusedVariables false
set_option autoImplicit false
namespace Mine
/-! a comprehension whose target is a cell -/
noncomputable abbrev nsO : Obj := { cls := .type "dict", data := .dict #[] }
noncomputable abbrev cellO (v : Option Value) : Obj := { cls := .type "cell", data := .cell v }
section
variable {M : Model} {A : Around} {E : Value → Shared → Prop} {s : Shared}
theorem nfe_cell {scope : Scope} {globals : Addr} {d x r : Str} {qual : Str} {outer : Env} {Q : Env → Shared → Prop} (hnm : scope.names = [(d, .local), (x, .cell), (r, .globalImplicit)])
    (hQ : Q (newEnv scope s.heap.objs.size globals [(x, s.heap.objs.size + 1)] qual none .none (some outer) builtinsNs) { s with heap := (s.heap.push nsO).push (cellO none) }) :
    wpAny M A (newFunctionEnv scope globals [] [] qual none .none (some outer)) Q E s := by
  simp only [newFunctionEnv, Option.isSome_some, if_true]
  refine wpAny_bind (wpAny_alloc ?_)
  refine wpAny_bind (wpAny_layCells _ (fun name kind cells => by cases hkc : kind == NameKind.cell <;> simp [hkc]) _ _ _ _ ?_)
  rw [hnm, show ({ s with heap := s.heap.push nsO } : Shared).heap.objs.size = s.heap.objs.size + 1 from Heap.size_push ..]
  exact wpAny_bind (wpAny_pure (wpAny_pure hQ))
end
theorem nsO_ok : NsObj nsO fun _ => none := by
  obtain ⟨o, e, h⟩ := ns_obj (Heap.Ns.new ({ objs := #[] } : Heap) (.type "dict"))
  have e2 := Heap.get?_push_size ({ objs := #[] } : Heap) (o := nsO) rfl
  have : some o = some nsO := e.symm.trans e2
  cases this
  exact h
theorem relabel_nm {scope : Scope} {env : Env} {d x r : Str} (hnm : scope.names = [(d, .local), (x, .cell), (r, .globalImplicit)]) : (relabel scope env).names = [(d, .local), (x, .cell), (r, .globalImplicit)] := by
  unfold relabel
  rw [hnm]
  rfl
section
variable {prog : Program} {w : World} {A : Around} {E : Value → Shared → Prop} {s : Shared} {h₀ : Heap} {L : Addr} {m : Str → Option Value} {env : Env}
noncomputable def Off4 (I C D K : Addr) (l : List (Addr × Obj)) : Prop := ∀ p ∈ l, p.1 ≠ I ∧ p.1 ≠ C ∧ p.1 ≠ D ∧ p.1 ≠ K
theorem block_C {elt iter : Expr} {x d r : Str} {px : Pos} {scope : Scope} {pos : Pos} {s₂ : Shared} {I : Addr} {n : Nat} {a : Int} {news : List (Addr × Obj)} {Inv : Nat → List Value → List (Addr × Obj) → Prop}
    {RR : Value → Addr → Result → Shared → Prop}
    (hh : A.handled = none) (hsz : n ≤ sizeLine) (hnm : scope.names = [(d, .local), (x, .cell), (r, .globalImplicit)]) (hxd : (x == d) = false) (hkind : scope.kind = .function)
    (hst : IsRangeIter s₂.heap I (a + ((0 : Nat) : Int) * 1) ((n : Int) - ((0 : Nat) : Int)) 1)
    (F : Fr h₀ L s₂.heap m) (N : News h₀ L s₂.heap news) (hIL : L ≠ I) (hI₀ : h₀.get? I = none) (off : ∀ p ∈ news, p.1 ≠ I) (R0 : Inv 0 [] news)
    (step : ∀ i ys nw v oI C D K oK h tk (E' : Value → Shared → Prop), i < n → Inv i ys nw → (∃ t, v = .int (a + (i : Int)) t) → oK.data = .cell (some v) → Fr h₀ L h m → News h₀ L h ((I, oI) :: (C, nsO) :: (D, lst ys) :: (K, oK) :: nw) → Off4 I C D K nw →
      wpAny (model prog w) A (eval elt (compEnvC scope [(x, K)] C env)) (fun y s' => ∃ h' tk' nw', s' = { s₂ with heap := h', toks := tk' } ∧ Fr h₀ L h' m ∧ News h₀ L h' ((I, oI) :: (C, nsO) :: (D, lst ys) :: (K, oK) :: nw') ∧ Off4 I C D K nw' ∧ Inv (i + 1) (ys ++ [y]) nw')
        E' { s₂ with heap := h, toks := tk })
    (hRR : ∀ D C h tk m' ys nw, Fr h₀ L h m → News h₀ L h ((D, lst ys) :: nw) → (∀ p ∈ nw, p.1 ≠ D) → h.Ns C m' → h₀.get? C = none → h₀.get? D = none → C ≠ L → D ≠ L → C ≠ D → (∀ p ∈ nw, p.1 ≠ C) → Inv n ys nw → RR (.ref D) C (.ok .next) { s₂ with heap := h, toks := tk }) :
    wpAny (model prog w) A (newList []) (fun acc s₃ => wpAny (model prog w) A (newFunctionEnv scope env.globals [] [] env.qual none .none (some env)) (fun cenv s₄ =>
      codeAny (model prog w) A (.compStart (.ListComp elt [⟨.Name x px, iter, [], 0⟩] scope pos) 0 (.ref I) acc { cenv with scope := relabel scope env }) (RR acc cenv.locals) s₄) E s₃) E s₂ := by
  have W := range_walks (prog := prog) (w := w) (I := I) hh a n
  refine wpAny_newObj_type (nfe_cell hnm ?_)
  dsimp only
  generalize hD : s₂.heap.objs.size = D
  generalize hH1 : s₂.heap.push { cls := .type "list", dict := none, data := .seq ([] : List Value).toArray } = H1
  have sz1 : H1.objs.size = D + 1 := by rw [← hH1, Heap.size_push, hD]
  generalize hC : H1.objs.size = C
  generalize hH3 : (H1.push nsO).push (cellO none) = H3
  generalize hK : C + 1 = K
  have eC : @Eq Nat C (D + 1) := hC ▸ sz1
  have eK : @Eq Nat K (C + 1) := hK.symm
  have sz2 : (H1.push nsO).objs.size = K := by rw [Heap.size_push, hC, hK]
  have iD : H1.get? D = some (lst []) := by rw [← hH1, ← hD]; exact Heap.get?_push_size _ rfl
  have up1 : ∀ b o, s₂.heap.get? b = some o → H1.get? b = some o := fun b o e => by rw [← hH1]; exact Heap.get?_push_of_some _ e
  have up3 : ∀ b o, H1.get? b = some o → H3.get? b = some o := fun b o e => by rw [← hH3]; exact Heap.get?_push_of_some _ (Heap.get?_push_of_some _ e)
  have old : ∀ b o, s₂.heap.get? b = some o → H3.get? b = some o := fun b o e => up3 _ _ (up1 _ _ e)
  have gD : H3.get? D = some (lst []) := up3 _ _ iD
  have gC : H3.get? C = some nsO := by rw [← hH3, ← hC]; exact Heap.get?_push_of_some _ (Heap.get?_push_size _ rfl)
  have gK : H3.get? K = some (cellO none) := by rw [← hH3, ← sz2]; exact Heap.get?_push_size _ rfl
  have hIlt : @LT.lt Nat _ I D := by rw [← hD]; exact Heap.lt_size hst
  have hLlt : @LT.lt Nat _ L D := by rw [← hD]; exact F.ns.lt
  have nsC : ∀ h : Heap, h.get? C = some nsO → h.Ns C fun _ => none := fun h e => nsO_ok.ns e
  have DC : @Ne Nat D C := by omega
  have DK : @Ne Nat D K := by omega
  have CK : @Ne Nat C K := by omega
  have ID : @Ne Nat I D := by omega
  have IC : @Ne Nat I C := by omega
  have IK : @Ne Nat I K := by omega
  have LD : @Ne Nat L D := by omega
  have LC : @Ne Nat L C := by omega
  have LK : @Ne Nat L K := by omega
  have fresh₀ : ∀ b : Nat, @LE.le Nat _ D b → h₀.get? b = none := fun b hb => by
    cases e : h₀.get? b with
    | none => rfl
    | some o' => have z := Heap.lt_size (F.keep b o' e); rw [hD] at z; exact absurd z (Nat.not_lt.mpr hb)
  have D₀ := fresh₀ D (Nat.le_refl _)
  have C₀ := fresh₀ C (by omega)
  have K₀ := fresh₀ K (by omega)
  have hst₁ : IsRangeIter H3 I (a + ((0 : Nat) : Int) * 1) ((n : Int) - ((0 : Nat) : Int)) 1 := old _ _ hst
  have off₀ : Off4 I C D K news := fun p hp => by
    have z : @LT.lt Nat _ p.1 D := by rw [← hD]; exact Heap.lt_size (N p hp).1
    exact ⟨off p hp, by show @Ne Nat _ _; omega, by show @Ne Nat _ _; omega, by show @Ne Nat _ _; omega⟩
  have kx : (compEnvC scope [(x, K)] C env).kindOf x = some .cell := by
    show (relabel scope env).names.lookup x = some .cell
    rw [relabel_nm hnm]
    simp [List.lookup_cons, hxd]
  have cx : (compEnvC scope [(x, K)] C env).cells.lookup x = some K := by
    show List.lookup x [(x, K)] = some K
    simp
  have loop : ∀ s₃ : Shared, s₃ = { s₂ with heap := H3 } →
      codeAny (model prog w) A (.compLoop (.ListComp elt [⟨.Name x px, iter, [], 0⟩] scope pos) 0 (.ref I) (.ref D) (compEnvC scope [(x, K)] C env)) (RR (.ref D) C) s₃ := by
    rintro s₃ rfl
    refine codeAny_compLoop_tests
      (fun k s' => ∃ h' tk i ys oK v₀ nw, s' = { s₂ with heap := h', toks := tk } ∧ i ≤ n ∧ k = n + 1 - i ∧ ys.length = i ∧ IsRangeIter h' I (a + (i : Nat) * 1) ((n : Int) - (i : Nat)) 1 ∧ Fr h₀ L h' m ∧
        News h₀ L h' ((C, nsO) :: (D, lst ys) :: (K, oK) :: nw) ∧ oK.data = .cell v₀ ∧ Off4 I C D K nw ∧ Inv i ys nw) ?_ (n + 1)
      ⟨H3, s₂.toks, 0, [], cellO none, none, news, rfl, Nat.zero_le _, rfl, rfl, hst₁, F.keeps old, fun p hp => ?_, rfl, off₀, R0⟩
    · rintro k s' ⟨h', tk, i, ys, oK, v₀, nw, rfl, hi, rfl, hyl, hst', F', N', dK, off', J⟩
      have ne3 : ∀ p ∈ (C, nsO) :: (D, lst ys) :: (K, oK) :: nw, p.1 ≠ I := fun p hp => by
        rcases List.mem_cons.mp hp with rfl | hp
        · exact Ne.symm IC
        rcases List.mem_cons.mp hp with rfl | hp
        · exact Ne.symm ID
        rcases List.mem_cons.mp hp with rfl | hp
        · exact Ne.symm IK
        exact (off' p hp).1
      by_cases hlt : i < n
      · refine W.item i _ _ _ hlt hst' fun v h₂ tk₂ hPv hst₂ hk₂ => ?_
        have N₂ := news_but N' hk₂ ne3
        have gK₂ : h₂.get? K = some oK := (N₂ (K, oK) (.tail _ (.tail _ (.head _)))).1
        refine wpAny_assign_Name (wpAny_storeName_cell (by exact hkind) kx cx ⟨oK, gK₂, dK⟩ fun h₃ hc₃ hs₃ => ?_)
        refine wpAny_tests_nil ?_
        simp only [if_true]
        obtain ⟨oK', gK₃, dK'⟩ := hc₃
        have st₃ : IsRangeIter h₃ I (a + (i + 1 : Nat) * 1) ((n : Int) - (i + 1 : Nat)) 1 := hs₃.extBut _ _ IK hst₂
        have F₃ : Fr h₀ L h₃ m := (fr_but F' hk₂ hIL hI₀).change hs₃ (Ne.symm LK) K₀
        have N₃ : News h₀ L h₃ ((I, _) :: (C, nsO) :: (D, lst ys) :: (K, oK') :: nw) := fun p hp => by
          rcases List.mem_cons.mp hp with rfl | hp
          · exact ⟨st₃, Ne.symm hIL, hI₀⟩
          rcases List.mem_cons.mp hp with rfl | hp
          · exact ⟨hs₃.extBut _ _ CK (N₂ _ (.head _)).1, Ne.symm LC, C₀⟩
          rcases List.mem_cons.mp hp with rfl | hp
          · exact ⟨hs₃.extBut _ _ DK (N₂ _ (.tail _ (.head _))).1, Ne.symm LD, D₀⟩
          rcases List.mem_cons.mp hp with rfl | hp
          · exact ⟨gK₃, Ne.symm LK, K₀⟩
          have z := N₂ p (.tail _ (.tail _ (.tail _ hp)))
          exact ⟨hs₃.extBut _ _ (off' p hp).2.2.2 z.1, z.2⟩
        refine wpAny_mono (step i ys nw v _ C D K oK' h₃ _ _ hlt J hPv dK' F₃ N₃ off') (fun y s₄ h₄ => ?_) fun _ _ e => e
        obtain ⟨h₄, tk₄, nw₄, rfl, F₄, N₄, off₄, J₄⟩ := h₄
        have zI := (N₄ _ (.head _)).1
        have zC := (N₄ _ (.tail _ (.head _))).1
        have zD := (N₄ _ (.tail _ (.tail _ (.head _)))).1
        have zK := (N₄ _ (.tail _ (.tail _ (.tail _ (.head _))))).1
        refine append_at (hsz := by show ys.toArray.size ≤ sizeLine; rw [List.size_toArray, hyl]; exact Nat.le_trans hi hsz) zD fun h₅ hs₅ hD₅ => ?_
        refine ⟨n + 1 - (i + 1), by omega, h₅, tk₄, i + 1, ys ++ [y], oK', some v, nw₄, rfl, hlt, rfl, by rw [List.length_append, List.length_singleton, hyl], hs₅.extBut _ _ ID zI, F₄.change hs₅ (Ne.symm LD) D₀, fun p hp => ?_, dK', off₄, J₄⟩
        rcases List.mem_cons.mp hp with rfl | hp
        · exact ⟨hs₅.extBut _ _ (Ne.symm DC) zC, Ne.symm LC, C₀⟩
        rcases List.mem_cons.mp hp with rfl | hp
        · exact ⟨hD₅.trans (congrArg some (lst_snoc ys y)), Ne.symm LD, D₀⟩
        rcases List.mem_cons.mp hp with rfl | hp
        · exact ⟨hs₅.extBut _ _ (Ne.symm DK) zK, Ne.symm LK, K₀⟩
        have z := N₄ p (.tail _ (.tail _ (.tail _ (.tail _ hp))))
        exact ⟨hs₅.extBut _ _ (off₄ p hp).2.2.1 z.1, z.2⟩
      · obtain rfl : i = n := Nat.le_antisymm hi (Nat.not_lt.mp hlt)
        refine W.done _ _ _ hst' fun h₂ tk₂ hk₂ => ?_
        have N₂ := news_but N' hk₂ ne3
        exact hRR D C h₂ tk₂ _ ys nw (fr_but F' hk₂ hIL hI₀) (fun p hp => by
          rcases List.mem_cons.mp hp with rfl | hp
          · exact N₂ _ (.tail _ (.head _))
          · exact N₂ p (.tail _ (.tail _ (.tail _ hp)))) (fun p hp => (off' p hp).2.2.1) (nsC _ (N₂ _ (.head _)).1) C₀ D₀ (Ne.symm LC) (Ne.symm LD) (Ne.symm DC) (fun p hp => (off' p hp).2.1) J
    · rcases List.mem_cons.mp hp with rfl | hp
      · exact ⟨gC, Ne.symm LC, C₀⟩
      rcases List.mem_cons.mp hp with rfl | hp
      · exact ⟨gD, Ne.symm LD, D₀⟩
      rcases List.mem_cons.mp hp with rfl | hp
      · exact ⟨gK, Ne.symm LK, K₀⟩
      exact ⟨old _ _ (N p hp).1, (N p hp).2⟩
  exact codeAny_compStart_list (loop _ rfl) (W.self 0 _ _ _ hst₁ (loop _ rfl))
end
end Mine
end
section
open PySem PySem.Calls PyProof.Rows PySem.W PyProof.V
open PyProof.Rows.LCg
set_option Elab.async false
set_option maxRecDepth 100000
set_option linter.unusedVariables false
set_option autoImplicit false
namespace Mine
section
variable {W : Cs} {A : Around} {E : Value → Shared → Prop} {s : Shared} {h₀ : Heap} {L : Addr} {m : Str → Option Value}
theorem name_Bc {K : Frag} {mg mb : Str → Option Value} {env : Env} {p : Program} {loose : List Str} {x : Str} {pos : Pos} {v : Value} {Q : Value → Shared → Prop} (F : Fr h₀ L s.heap m) (X : K.In h₀) (T : TopRead p loose mg mb h₀)
    (e : nsIn K mainGlobals x = some none) (hv : bootBuiltins x = some v) (hn : x ≠ ("__name__" : Str)) (h : Q v s) (hg : env.globals = mainGlobals) (hb : env.builtins = builtinsNs) (hk : env.scope.kind = .function) (hx : env.kindOf x = some .globalImplicit)
    (hd : (x == ("__debug__" : Str)) = false) : wpAny (model W.prog W.w) A (eval (.Name x pos) env) Q E s :=
  Calls.Name_function_global hk hx (Calls.loadGlobal_builtin (env := env) (hg ▸ T.g.keeps F.keep) (mg_none_of X T.g e) (hb ▸ T.b.keeps F.keep) ((T.builtins x hn).trans hv) h) hd
theorem elt_in {env : Env} {sq man : Str} {K : Addr} {i j : Nat} {t u : Tok} {m₂ : Str → Option Value} {k1 : Nat} {p1 p2 p3 p4 p5 : Pos} {Q : Value → Shared → Prop} (hk : env.scope.kind = .function) (ks : env.kindOf sq = some .local) (km : env.kindOf man = some .cell)
    (cm : env.cells.lookup man = some K) (hK : s.heap.IsCell K (some (.int (Int.ofNat i) t))) (hC : s.heap.Ns env.locals m₂) (hs : m₂ sq = some (.int (Int.ofNat j) u)) (hi : i < 1000) (dm : (man == ("__debug__" : Str)) = false) (ds : (sq == ("__debug__" : Str)) = false)
    (hQ : ∀ tk t', Q (.int (Int.ofNat (20 * i + j)) t') { s with toks := tk }) :
    wpAny (model W.prog W.w) A (eval (.BinOp (.BinOp (.Constant (.int (.ofNat 20)) k1 p1) .Mult (.Name man p2) p3) .Add (.Name sq p4) p5) env) Q E s := by
  refine wpAny_BinOp (wpAny_BinOp (wpAny_Constant_int (wpAny_Name (wpAny_loadName_cell hk km cm hK ?_) dm)))
  refine bin_int (op := .mul) (o := .Mult) rfl (.mul (Int.ofNat 20) (Int.ofNat i) (by decide) (by show i < 2 ^ 62; omega)) ?_
  refine wpAny_Name (wpAny_loadName_local hk ks hC hs ?_) ds
  refine bin_int (op := .add) (o := .Add) rfl (.add (Int.ofNat 20 * Int.ofNat i) (Int.ofNat j)) ?_
  have e : (Int.ofNat 20 * Int.ofNat i + Int.ofNat j) = Int.ofNat (20 * i + j) := by simp only [Int.ofNat_eq_natCast]; omega
  rw [e]
  exact hQ _ _
theorem relabel_in {scope : Scope} {env : Env} {d s m : Str} (hnm : scope.names = [(d, .local), (s, .local), (m, .free)]) (hk : env.scope.kind = .function) (km : env.kindOf m = some .cell) : (relabel scope env).names = [(d, .local), (s, .local), (m, .cell)] := by
  unfold relabel
  rw [hnm]
  show [(d, NameKind.local), (s, NameKind.local), (if (NameKind.free == .free && env.scope.kind == .function && env.kindOf m == some .cell) = true then (m, NameKind.cell) else (m, .free))] = _
  rw [hk, km]
  rfl
theorem clos_in {scope : Scope} {env : Env} {d s m : Str} {K : Addr} (hnm : scope.names = [(d, .local), (s, .local), (m, .free)]) (cm : env.cells.lookup m = some K) : closureFor scope env = pure [(m, K)] := by
  have e : cellOf env m = pure K := by unfold cellOf; rw [cm]
  unfold closureFor
  rw [hnm]
  simp only [List.forIn_cons, List.forIn_nil, show (NameKind.local == NameKind.free) = false from rfl, show (NameKind.free == NameKind.free) = true from rfl, if_true, Bool.false_eq_true, if_false, e]
  rfl
theorem clos_out {scope : Scope} {env : Env} {d x r : Str} (hnm : scope.names = [(d, .local), (x, .cell), (r, .globalImplicit)]) : closureFor scope env = pure [] := by
  unfold closureFor
  rw [hnm]
  rfl
theorem inner_U {mg mb : Str → Option Value} {Kf : Frag} {p : Program} {loose : List Str} {oE : Env} {sc2 : Scope} {d2 man sq : Str} {K : Addr} {oK : Obj} {i : Nat} {t : Tok} {news : List (Addr × Obj)} {k1 k2 : Nat} {p1 p2 p3 p4 p5 p6 p7 p8 p9 p10 : Pos} {Q : Value → Shared → Prop}
    (F : Fr h₀ L s.heap m) (N : News h₀ L s.heap news) (X : Kf.In h₀) (T : TopRead p loose mg mb h₀) (er : nsIn Kf mainGlobals ("range" : Str) = some none) (hh : A.handled = none)
    (mK : (K, oK) ∈ news) (dK : oK.data = .cell (some (.int (Int.ofNat i) t))) (hi : i < 1000)
    (hg : oE.globals = mainGlobals) (hb : oE.builtins = builtinsNs) (hk : oE.scope.kind = .function) (hr : oE.kindOf ("range" : Str) = some .globalImplicit) (km : oE.kindOf man = some .cell) (cm : oE.cells.lookup man = some K)
    (hnm : sc2.names = [(d2, .local), (sq, .local), (man, .free)]) (hk2 : sc2.kind = .function) (ne1 : (man == d2) = false) (ne2 : (man == sq) = false) (ne3 : (sq == d2) = false) (dm : (man == ("__debug__" : Str)) = false) (ds : (sq == ("__debug__" : Str)) = false)
    (hQ : ∀ D us h tk, Fr h₀ L h m → News h₀ L h ((D, lst us) :: news) → Off1 D news → IntsAre us (rangeKs (Int.ofNat (20 * i)) 16) → Q (.ref D) { s with heap := h, toks := tk }) :
    wpAny (model W.prog W.w) A (eval (.ListComp (.BinOp (.BinOp (.Constant (.int (.ofNat 20)) k1 p1) .Mult (.Name man p2) p3) .Add (.Name sq p4) p5) [⟨.Name sq p6, .Call (.Name ("range" : Str) p7) [.Constant (.int (.ofNat 16)) k2 p8] [] p9, [], 0⟩] sc2 p10) oE) Q E s := by
  have lsq : sc2.names.lookup sq = some .local := by rw [hnm]; simp [List.lookup_cons, ne3]
  refine ListComp_U F (clos_in hnm cm) (fun y hy => ?_) hk2 (fun y hy hl => ?_) lsq ?_
  · rw [hnm] at hy
    simp only [List.mem_cons, List.not_mem_nil, or_false] at hy
    rcases hy with rfl | rfl | rfl <;> (intro z; cases z)
  · rw [hnm] at hy
    simp only [List.mem_cons, List.not_mem_nil, or_false] at hy
    rcases hy with rfl | rfl | rfl
    · rw [hnm]; simp [List.lookup_cons]
    · exact lsq
    · cases hl
  · refine Call_ (name_Bc F X T er bi_range (by decide) ?_ hg hb hk hr (by decide))
    refine Pv.callWith_type1 (spliced_more (wpAny_Constant_int (spliced_none ?_)) rfl) rfl rfl
    refine range1_rows F N fun hp2 tk2 t1 u1 v1 R2 F2 N2 K2 => ?_
    have key : ∀ (g : Heap) (k j : Nat) (ys : List Value), k + j = 16 → ys.length = j → (∀ (q : Nat) (v : Value), ys[q]? = some v → ∃ t, v = .int (Int.ofNat (20 * i) + (q : Int) * 1) t) →
        CompRest W.prog W.w A h₀ L m oE (.BinOp (.BinOp (.Constant (.int (.ofNat 20)) k1 p1) .Mult (.Name man p2) p3) .Add (.Name sq p4) p5) sq sc2 [(man, K)] { s with heap := g, toks := tk2 } (fun _ => True) (fun i v => ∃ t, v = .int ((0 : Int) + (i : Int)) t)
          (FinE h₀ L m { s with heap := g, toks := tk2 } Q) k j ys news := by
      intro g k
      induction k with
      | zero =>
        intro j ys e hl hy D h tk F' N' o1
        have : j = 16 := by omega
        subst this
        exact hQ D ys h tk F' N' o1 (kll_ints ys _ 16 hl hy)
      | succ k ih =>
        intro j ys e hl hy
        refine CompRest.succ fun v I oI C oC D m₂ h tk E' hP hoC hmx F' N' off ne => ?_
        obtain ⟨tv, rfl⟩ := hP
        have ej : (0 : Int) + (j : Int) = Int.ofNat j := by simp
        rw [ej] at hmx
        have nm := relabel_in (env := oE) hnm hk km
        refine elt_in (env := compEnvC sc2 [(man, K)] C oE) (K := K) (i := i) (j := j) (by exact hk2) (lookup_relabel_local lsq) (by show (relabel sc2 oE).names.lookup man = _; rw [nm]; simp [List.lookup_cons, ne1, ne2]) (by show List.lookup man [(man, K)] = _; simp)
          ⟨oK, (N' (K, oK) (.tail _ (.tail _ (.tail _ mK)))).1, dK⟩ (hoC.ns (N' (C, oC) (.tail _ (.head _))).1) hmx hi dm ds fun tk' t' => ?_
        refine CompEnd.intro F' N' news (fun p hp => hp) off trivial (ih (j + 1) (ys ++ [_]) (by omega) (by rw [List.length_append, hl]; rfl) fun q v hq => ?_)
        by_cases z : q < ys.length
        · rw [List.getElem?_append_left z] at hq; exact hy q v hq
        · rw [List.getElem?_append_right (by omega)] at hq
          have zz := (List.getElem?_eq_some_iff.mp hq).1
          simp only [List.length_singleton] at zz
          have : q = ys.length := by omega
          subst this
          simp at hq
          refine ⟨t', hq.symm.trans ?_⟩
          congr 1
          simp only [Int.ofNat_eq_natCast]
          omega
    exact CompSrc.range (n := 16) hh F2 N2 R2 (by decide) (by decide) (by rw [sizeLine_eq]; decide) fun g => key g 16 0 [] rfl rfl fun q v hq => by cases hq
end
end Mine
end
section
open PySem PySem.Calls PyProof.Rows PySem.W PyProof.V
open PyProof.Rows.LCg
set_option Elab.async false
set_option maxRecDepth 100000
set_option linter.unusedVariables false
set_option autoImplicit false
namespace Mine
variable {W : Cs} {P : Prog} {n : Nat} {c : CC}
theorem obS_i {α : Type} {o : Option α} {f : α → S} {z : S} (h : obS o f = z) (hb : z ≠ .bad) : ∃ a, o = some a ∧ f a = z := by
  cases o with
  | none => exact absurd h.symm hb
  | some a => exact ⟨a, rfl, h⟩
theorem bif_i {b : Bool} {s z : S} (h : (bif b then s else .bad) = z) (hb : z ≠ .bad) : b = true ∧ s = z := by
  cases b with
  | false => exact absurd h.symm hb
  | true => exact ⟨rfl, h⟩
theorem rowsOf_inv {x : Str} {p : Pos} {e : Expr} {z : S} {P' : Prop} (hz : rowsOf c x p e = z) (hb : z ≠ .bad)
    (H : ∀ man sq d1 d2 k1 k2 k3 p1 p2 p3 p4 p5 p6 p7 p8 p9 p10 p11 p12 p13 p14 pos g2 co2 mo2 g1 co1 mo1 k,
      e = .ListComp (.ListComp (.BinOp (.BinOp (.Constant (.int (.ofNat 20)) k1 p1) .Mult (.Name man p2) p3) .Add (.Name sq p4) p5) [⟨.Name sq p6, .Call (.Name ("range" : Str) p7) [.Constant (.int (.ofNat 16)) k2 p8] [] p9, [], 0⟩] ⟨.function, [(d2, .local), (sq, .local), (man, .free)], g2, co2, mo2⟩ p10)
        [⟨.Name man p11, .Call (.Name ("range" : Str) p12) [.Constant (.int (.ofNat 15)) k3 p13] [] p14, [], 0⟩] ⟨.function, [(d1, .local), (man, .cell), (("range" : Str), .globalImplicit)], g1, co1, mo1⟩ pos →
      (man == d1) = false → (man == d2) = false → (man == sq) = false → (sq == d2) = false → (("range" : Str) == d1) = false → (("range" : Str) == man) = false → (p.line == pos.line) = true → (x == d1) = false → (x == man) = false →
      (man == ("__debug__" : Str)) = false → (sq == ("__debug__" : Str)) = false → c.sc.lookup ("range" : Str) = some .globalImplicit → locOf c x = some k → z = .rows k → P') : P' := by
  unfold rowsOf at hz
  obtain ⟨⟨el, t1, it1, sc1, pos⟩, h1, hz⟩ := obS_i hz hb
  obtain ⟨⟨el2, t2, it2, sc2, pos2⟩, h2, hz⟩ := obS_i hz hb
  obtain ⟨man', h3, hz⟩ := obS_i hz hb
  obtain ⟨rg', h4, hz⟩ := obS_i hz hb
  obtain ⟨⟨d1, m1, r1⟩, h5, hz⟩ := obS_i hz hb
  obtain ⟨sq', h6, hz⟩ := obS_i hz hb
  obtain ⟨rg, h7, hz⟩ := obS_i hz hb
  obtain ⟨⟨d2, s2, m2⟩, h8, hz⟩ := obS_i hz hb
  obtain ⟨⟨man, sq⟩, h9, hz⟩ := obS_i hz hb
  obtain ⟨k, h10, hz⟩ := obS_i hz hb
  dsimp only at h1 h2 h3 h4 h5 h6 h7 h8 h9 h10
  obtain ⟨hc, hF⟩ := bif_i hz hb
  dsimp only at hc
  simp only [Bool.and_eq_true, Bool.not_eq_true'] at hc
  obtain ⟨a1, a2, a3, a4, a5, a6, a7, a8, a9, b1, b2, b3, b4, b5, b6, b7, b8, b9, b10, b11⟩ := hc
  have f1 := seq_str a1
  have f2 := seq_str a2
  have f3 := seq_str a3
  have f4 := seq_str a4
  have f5 := seq_str a5
  have g1 := seq_str b1
  have g2 := seq_str b2
  have g3 := seq_str b3
  subst f1 f2 f3 f4 f5 g1 g2 g3
  obtain ⟨p11, rfl⟩ := vNm_i h3
  obtain ⟨p12, k3, p13, p14, rfl⟩ := vRg_i h4
  obtain ⟨g1, co1, mo1, rfl⟩ := vS3_i h5
  obtain ⟨p6, rfl⟩ := vNm_i h6
  obtain ⟨p7, k2, p8, p9, rfl⟩ := vRg_i h7
  obtain ⟨g2, co2, mo2, rfl⟩ := vS3_i h8
  obtain ⟨k1, p1, p2, p3, p4, p5, rfl⟩ := vPt_i h9
  have h1 := vCp_i h1
  have h2 := vCp_i h2
  subst h1 h2
  exact H _ _ _ _ _ _ _ _ _ _ _ _ _ _ _ _ _ _ _ _ _ _ _ _ _ _ _ _ _ rfl a6 a7 a8 a9 b4 b5 b6 b7 b8 b9 b10 (isGi_i b11) h10 hF.symm
theorem histOf_inv {o : E} {x : Nat} {e : Expr} {z : S} {P' : Prop} (hz : histOf c o x e = z) (hb : z ≠ .bad)
    (H : ∀ y d zz k1 k2 k3 k4 k5 p1 p2 p3 p4 p5 p6 p7 p8 p9 k6 pos g1 co1 mo1 j,
      e = .ListComp (.Tuple [.Constant (.int (.ofNat 0)) k1 p1, .Constant (.int (.ofNat 0)) k2 p2, .Constant (.int (.ofNat 0)) k3 p3, .Constant (.int (.ofNat 0)) k4 p4, .Constant (.int (.ofNat 0)) k5 p5, .Name y p6] k6 p7) [⟨.Name y p8, .Name zz p9, [], 0⟩]
        ⟨.function, [(d, .local), (y, .local)], g1, co1, mo1⟩ pos → (y == d) = false → (y == ("__debug__" : Str)) = false → locOf c zz = some j → z = .hist j o x → P') : P' := by
  unfold histOf at hz
  obtain ⟨⟨el, t1, it1, sc1, pos⟩, h1, hz⟩ := obS_i hz hb
  obtain ⟨y, h2, hz⟩ := obS_i hz hb
  obtain ⟨y', h3, hz⟩ := obS_i hz hb
  obtain ⟨zz, h4, hz⟩ := obS_i hz hb
  obtain ⟨⟨d, y2⟩, h5, hz⟩ := obS_i hz hb
  obtain ⟨j, h6, hz⟩ := obS_i hz hb
  dsimp only at h1 h2 h3 h4 h5 h6
  obtain ⟨hc, hF⟩ := bif_i hz hb
  dsimp only at hc
  simp only [Bool.and_eq_true, Bool.not_eq_true'] at hc
  obtain ⟨a1, a2, a3, a4⟩ := hc
  have f1 := seq_str a1
  have f2 := seq_str a2
  subst f1 f2
  obtain ⟨p8, rfl⟩ := vNm_i h3
  obtain ⟨p9, rfl⟩ := vNm_i h4
  obtain ⟨g1, co1, mo1, rfl⟩ := vS2_i h5
  obtain ⟨k1, k2, k3, k4, k5, p1, p2, p3, p4, p5, p6, k6, p7, rfl⟩ := vZt_i h2
  have h1 := vCp_i h1
  subst h1
  exact H _ _ _ _ _ _ _ _ _ _ _ _ _ _ _ _ _ _ _ _ _ _ _ rfl a3 a4 h6 hF.symm
theorem SR.at_ {I : Fi} {names ex l h hp m} {D : Ld} (R : SR W I names ex l h hp m D) {hp' : Heap} (F : Fr I.h₀ I.L hp' m) (N : News I.h₀ I.L hp' (D.mu ++ D.imm)) : SR W I names ex l h hp' m D := ⟨F, N, R.nd, R.im, R.ex, R.H, R.lc⟩
noncomputable def Ld.addL (D : Ld) (a : Addr) (xs : List Value) (k : Nat) : Ld := ⟨(a, listOf xs.toArray k) :: D.mu, D.imm, D.ρ ++ [(a, a)]⟩
theorem SR.newListE {I : Fi} {names ex l h hp m} {D : Ld} (S : SR W I names ex l h hp m D) {vs : List V} {v : V} {h' : Hp} (e : mkObj (.list vs) h = .ok v h') {a : Addr} {xs : List Value} {k : Nat} {hp' : Heap} (F : Fr I.h₀ I.L hp' m) (N : News I.h₀ I.L hp' ((a, listOf xs.toArray k) :: (D.mu ++ D.imm)))
    (ne : ∀ q ∈ D.mu ++ D.imm, q.1 ≠ a) (r : VRs W.toCw D vs xs) : Ext D (D.addL a xs k) ∧ SR W I names ex l h' hp' m (D.addL a xs k) ∧ VR W.toCw (D.addL a xs k) v (.ref a) := by
  obtain ⟨f1, rfl, f2, hl, hg⟩ := mkObj_ok e
  have X : Ext D ⟨[(a, listOf xs.toArray k)] ++ D.mu, D.imm, D.ρ ++ [(a, a)]⟩ := ⟨fun q hq => hq, fun k q e => by
    show (D.ρ ++ [_])[k]? = some q
    rw [List.getElem?_append_left (List.getElem?_eq_some_iff.mp e).1]; exact e⟩
  obtain ⟨X', h1, S'⟩ := S.objNewE (own := [(a, listOf xs.toArray k)]) (p := (a, a)) f1 f2 hl hg F N (by simp) (fun q hq r hr => by rw [List.mem_singleton.mp hq]; exact ne r hr) ⟨_, .head _⟩ ⟨_, .head _⟩ ⟨rfl, xs.toArray, k, .head _, by simpa using r.mono X⟩
  exact ⟨X', S', .obj h1⟩
theorem allocRows_succ (n i : Nat) (h : Hp) (k : List V → Hp → RS) : allocRows (n + 1) i h k = bndS (mkObj (.list (upL 16 i 1)) h) fun o h => allocRows n (i + 20) h fun r h => k (o :: r) h := by
  show bndS (lnorm (upL 16 i 1) fun l => mkObj (.list l) h) _ = _
  rw [lnorm_eq]; rfl
theorem sub_news {h₀ h : Heap} {L : Addr} {a b : List (Addr × Obj)} (N : News h₀ L h b) (hs : ∀ q ∈ a, q ∈ b) : News h₀ L h a := fun p hp => N p (hs p hp)
noncomputable def RInv (W : Cs) (I : Fi) (c : CC) (ex : List (Addr × Obj)) (l : List V) (h : Hp) (m : Str → Option Value) (D : Ld) (j : Nat) (ys : List Value) (nw : List (Addr × Obj)) : Prop :=
  ∃ D' h' vs hp, nw = D'.mu ++ D'.imm ∧ Ext D D' ∧ SR W I c.names ex l h' hp m D' ∧ VRs W.toCw D' vs ys ∧ ∀ k, allocRows 15 0 h k = allocRows (15 - j) (20 * j) h' fun rs hx => k (vs ++ rs) hx
theorem off1_mem {D : Addr} : ∀ {l : List (Addr × Obj)}, Off1 D l → ∀ p ∈ l, p.1 ≠ D
  | [], _, p, hp => nomatch hp
  | q :: l, o, p, hp => by
    rcases List.mem_cons.mp hp with rfl | hp
    · exact o.1
    · exact off1_mem o.2 p hp
theorem hc_rows (G : GlOk W P) {x : Str} {p pos : Pos} {e : Expr} (hne : noComp e = false) : SndS W P n c (.Assign [.Name x p] e pos) := by
  intro I ok lc l h r ee ex m D s S Q E H
  have ee : evS (rowsOf c x p e) P (ev P n) l h = r := by rw [cS_A1, hne] at ee; exact ee
  refine rowsOf_inv (c := c) (x := x) (p := p) (e := e) rfl (fun z => by rw [z] at ee; exact absurd ee.symm H.no) ?_
  intro man sq d1 d2 k1 k2 k3 p1 p2 p3 p4 p5 p6 p7 p8 p9 p10 p11 p12 p13 p14 pos' g2 co2 mo2 g1 co1 mo1 k he a6 a7 a8 a9 b4 b5 b6 b7 b8 b9 b10 b11 b12 hr
  rw [hr] at ee
  have ea : allocRows 15 0 h (fun vs h => bndS (mkObj (.list vs) h) fun o h => oS (lset l k o) fun l => .next l h) = r := ee
  clear ee
  subst he
  obtain ⟨hx, hxk⟩ := locOf_ok b12
  have kx : I.env.kindOf x = some .local := by show I.cs.names.lookup x = _; rw [lc.sc]; exact hx
  have kr : I.env.kindOf ("range" : Str) = some .globalImplicit := by show I.cs.names.lookup _ = _; rw [lc.sc]; exact b11
  have hsw : swapsWith (.ListComp (.ListComp (.BinOp (.BinOp (.Constant (.int (.ofNat 20)) k1 p1) .Mult (.Name man p2) p3) .Add (.Name sq p4) p5) [⟨.Name sq p6, .Call (.Name ("range" : Str) p7) [.Constant (.int (.ofNat 16)) k2 p8] [] p9, [], 0⟩] ⟨.function, [(d2, .local), (sq, .local), (man, .free)], g2, co2, mo2⟩ p10)
        [⟨.Name man p11, .Call (.Name ("range" : Str) p12) [.Constant (.int (.ofNat 15)) k3 p13] [] p14, [], 0⟩] ⟨.function, [(d1, .local), (man, .cell), (("range" : Str), .globalImplicit)], g1, co1, mo1⟩ pos') (some (.Name x p)) pos.line I.env = pure true := by
    have hbk : I.env.blockKind = .function := by
      unfold Env.blockKind
      rw [show I.env.scope = I.cs from rfl, ok.ck]
      rfl
    unfold swapsWith
    dsimp only
    rw [hbk, kx]
    have q1 : (d1 == x) = false := by rw [beq_eq_false_iff_ne] at b7 ⊢; exact Ne.symm b7
    have q2 : (man == x) = false := by rw [beq_eq_false_iff_ne] at b8 ⊢; exact Ne.symm b8
    show pure (_ && _ && (p.line == pos'.line) && !(List.any [(d1, NameKind.local), (man, .cell), (("range" : Str), .globalImplicit)] _)) = _
    simp only [List.any_cons, List.any_nil, q1, q2, Bool.false_and, Bool.false_or, Bool.or_false]
    rw [b6]
    have q4 : ((NameKind.globalImplicit == NameKind.local || NameKind.globalImplicit == NameKind.cell) : Bool) = false := rfl
    rw [q4, Bool.and_false]
    rfl
  rw [exec_Assign_Name_used _ _ _ _ hsw]
  refine wpAny_bind (wpAny_standAt (wpAny_bind ?_))
  show wpAny _ I.A (do let _ ← comprehension _ ⟨.function, [(d1, .local), (man, .cell), (("range" : Str), .globalImplicit)], g1, co1, mo1⟩ I.env _ (newList []) false (eval (.Call (.Name ("range" : Str) p12) [.Constant (.int (.ofNat 15)) k3 p13] [] p14) I.env) (some (assign (.Name x p) I.env))) _ _ s
  generalize hsc1 : (⟨.function, [(d1, .local), (man, .cell), (("range" : Str), .globalImplicit)], g1, co1, mo1⟩ : Scope) = sc1
  have nm1 : sc1.names = [(d1, .local), (man, .cell), (("range" : Str), .globalImplicit)] := by rw [← hsc1]
  have kf1 : sc1.kind = .function := by rw [← hsc1]
  refine wpAny_bind (wpAny_mono (wpAny_comprehension_free (use := some (assign (.Name x p) I.env)) (Q := fun _ s' => Q .next s') rfl (fun _ => rfl) (clos_out nm1) kf1 (fun y hy hl => ?_) ?_) (fun _ s' hq => wpAny_pure (wpAny_pure hq)) fun _ _ e => e)
  · rw [nm1] at hy ⊢
    simp only [List.mem_cons, List.not_mem_nil, or_false] at hy
    rcases hy with rfl | rfl | rfl
    · simp [List.lookup_cons]
    · cases hl
    · cases hl
  · refine Call_ (name_Bc S.F ok.X (topRead_of ok.T) G.range bi_range (by decide) ?_ rfl rfl ok.ck kr (by decide))
    refine Pv.callWith_type1 (spliced_more (wpAny_Constant_int (spliced_none ?_)) rfl) rfl rfl
    refine range1_rows S.F S.N fun hp2 tk2 t1 u1 v1 R2 F2 N2 K2 => ?_
    refine wpAny_pyIter_range R2 (by decide) ?_
    have hsz : Builtin.Range.rangeSize 0 (Int.ofNat 15) 1 = 15 := by decide
    rw [hsz]
    have F3 := F2.push { cls := .type "range_iterator", data := .fields #[rawInt 0, rawInt 15, rawInt 1] }
    have N3 : News I.h₀ I.L (hp2.push { cls := .type "range_iterator", data := .fields #[rawInt 0, rawInt 15, rawInt 1] }) (D.mu ++ D.imm) := N2.grown fun _ _ e => Heap.get?_push_of_some _ e
    refine block_C (n := 15) (a := 0) (Inv := RInv W I c ex l h m D) (RR := fun acc C r s' => compPost (model W.prog W.w) I.A E (some (assign (.Name x p) I.env)) (fun _ s' => Q .next s') acc C r s') rfl (by rw [sizeLine_eq]; decide) nm1 a6 kf1 (Heap.get?_push_size _ rfl) F3 N3
      (Nat.ne_of_lt F2.ns.lt) (next_is_new F2) (fun p hp => Nat.ne_of_lt (Heap.lt_size (N2 p hp).1)) ⟨D, h, [], _, rfl, Ext.refl D, S, .nil, fun k => rfl⟩ ?_ ?_
    · rintro i ys nw v oI C D0 K oK hh tk E' hi ⟨D', h', vs, hpo, rfl, X', S', V', al⟩ ⟨tv, rfl⟩ dK F4 N4 off
      have ei : (0 : Int) + (i : Int) = Int.ofNat i := by simp
      rw [ei] at dK
      have env1 : (relabel sc1 I.env).names = [(d1, .local), (man, .cell), (("range" : Str), .globalImplicit)] := relabel_nm nm1
      refine inner_U (oE := compEnvC sc1 [(man, K)] C I.env) F4 N4 ok.X (topRead_of ok.T) G.range rfl (.tail _ (.tail _ (.tail _ (.head _)))) dK (by omega) rfl rfl kf1 (by show (relabel sc1 I.env).names.lookup _ = _; rw [env1]; simp [List.lookup_cons, b4, b5])
        (by show (relabel sc1 I.env).names.lookup _ = _; rw [env1]; simp [List.lookup_cons, a6]) (by show List.lookup man [(man, K)] = _; simp) rfl rfl a7 a8 a9 b9 b10 fun D2 us h2 tk2 F5 N5 o5 hus => ?_
      have o5' := off1_mem o5
      have alk := al (fun vs h => bndS (mkObj (.list vs) h) fun o h => oS (lset l k o) fun l => .next l h)
      rw [ea, show 15 - i = (15 - (i + 1)) + 1 by omega, allocRows_succ] at alk
      obtain ⟨o, h3, em, _⟩ := bndS_ok alk.symm H.no
      have S5 : SR W I c.names ex l h' h2 m D' := S'.at_ F5 (sub_news N5 fun q hq => .tail _ (.tail _ (.tail _ (.tail _ (.tail _ hq)))))
      obtain ⟨X6, S6, V6⟩ := S5.newListE em (a := D2) (xs := us) (k := us.length) F5 (sub_news N5 fun q hq => by
        rcases List.mem_cons.mp hq with rfl | hq
        · exact .head _
        · exact .tail _ (.tail _ (.tail _ (.tail _ (.tail _ hq))))) (fun q hq => o5' q (.tail _ (.tail _ (.tail _ (.tail _ hq))))) (upL_ints 16 (20 * i) us hus)
      refine ⟨h2, tk2, (D2, lst us) :: (D'.mu ++ D'.imm), rfl, F5, sub_news N5 fun q hq => ?_, fun q hq => ?_, D'.addL D2 us us.length, h3, vs ++ [o], h2, rfl, X'.trans X6, S6, ?_, fun kk => ?_⟩
      · rcases List.mem_cons.mp hq with rfl | hq
        · exact .tail _ (.head _)
        rcases List.mem_cons.mp hq with rfl | hq
        · exact .tail _ (.tail _ (.head _))
        rcases List.mem_cons.mp hq with rfl | hq
        · exact .tail _ (.tail _ (.tail _ (.head _)))
        rcases List.mem_cons.mp hq with rfl | hq
        · exact .tail _ (.tail _ (.tail _ (.tail _ (.head _))))
        rcases List.mem_cons.mp hq with rfl | hq
        · exact .head _
        exact .tail _ (.tail _ (.tail _ (.tail _ (.tail _ hq))))
      · rcases List.mem_cons.mp hq with rfl | hq
        · exact ⟨Ne.symm (o5' _ (.head _)), Ne.symm (o5' _ (.tail _ (.head _))), Ne.symm (o5' _ (.tail _ (.tail _ (.head _)))), Ne.symm (o5' _ (.tail _ (.tail _ (.tail _ (.head _)))))⟩
        · exact off q hq
      · exact (V'.mono X6).snoc V6
      · rw [al kk, show 15 - i = (15 - (i + 1)) + 1 by omega, allocRows_succ, em]
        show allocRows _ _ _ _ = _
        rw [show 20 * i + 20 = 20 * (i + 1) by omega]
        congr 1
        funext rs hx
        rw [List.append_assoc]
        rfl
    · rintro D0 C hh tk m' ys nw F4 N4 hD hn hC₀ hD₀ hCL hDL hCD offC ⟨D', h', vs, hpo, rfl, X', S', V', al⟩
      have alk := al (fun vs h => bndS (mkObj (.list vs) h) fun o h => oS (lset l k o) fun l => .next l h)
      rw [ea] at alk
      have alk : r = bndS (mkObj (.list (vs ++ [])) h') fun o h => oS (lset l k o) fun l => .next l h := alk
      rw [List.append_nil] at alk
      obtain ⟨o, h3, em, alk⟩ := bndS_ok alk.symm H.no
      obtain ⟨l2, el, rfl⟩ := oS_ok alk H.no
      have S5 : SR W I c.names ex l h' hh m D' := S'.at_ F4 (sub_news N4 fun q hq => .tail _ hq)
      obtain ⟨X6, S6, V6⟩ := S5.newListE em (a := D0) (xs := ys) (k := ys.length) F4 N4 hD V'
      show wpAny _ I.A (assign (.Name x p) I.env (.ref D0)) _ _ _
      refine wpAny_assign_Name (wpAny_storeName_local kx F4.ns (fun h₂ hn₂ hs₂ => ?_) (by show (I.cs.kind == _ || (I.cs.kind == _ && _)) = false; rw [ok.ck]; rfl))
      have hL₀ : I.h₀.get? I.env.locals = none := Heap.get?_none_of_le F4.above
      have F₂ : Fr I.h₀ I.L h₂ (fun z => if z = x then some (.ref D0) else m z) := ⟨hn₂, fun b o e => hs₂.extBut b o (fun q => by rw [q, hL₀] at e; cases e) (F4.keep b o e), F4.above⟩
      have N₂ : News I.h₀ I.L h₂ ((D'.addL D0 ys ys.length).mu ++ (D'.addL D0 ys ys.length).imm) := fun q hq => ⟨hs₂.extBut _ _ (N4 q hq).2.1 (N4 q hq).1, (N4 q hq).2⟩
      have S7 := S6.setLoc hxk V6 el F₂ N₂
      refine ⟨m', hn.sameBut hs₂ hCL, fun h'' hs'' => ?_⟩
      refine H.next l2 h3 rfl h'' _ _ _ (X'.trans X6) (S7.at_ (F₂.change hs'' hCL hC₀) fun q hq => ⟨hs''.extBut _ _ ?_ (N₂ q hq).1, (N₂ q hq).2⟩)
      rcases List.mem_cons.mp hq with rfl | hq
      · exact Ne.symm hCD
      · exact offC q hq
end Mine
end
section
open PySem PySem.Calls PyProof.Rows PySem.W PyProof.V
open PyProof.Rows.LCg
set_option Elab.async false
set_option maxRecDepth 100000
set_option linter.unusedVariables false
set_option autoImplicit false
namespace Mine
variable {W : Cs} {P : Prog} {n : Nat} {c : CC}
noncomputable abbrev hTup (q : Nat) : V := .tup [.n 0, .n 0, .n 0, .n 0, .n 0, .n q]
theorem histV_ok : ∀ {vs rs : List V}, histV vs = some rs → rs.length = vs.length ∧ ∀ (i : Nat) (w : V), vs[i]? = some w → ∃ q : Nat, w = V.n q ∧ rs[i]? = some (hTup q)
  | [], rs, h => by
    cases h
    exact ⟨rfl, fun i w hw => by cases hw⟩
  | v :: vs, rs, h => by
    have h' : (match (generalizing := false) v with
      | .n i => oO (histV vs) fun l => some (hTup i :: l)
      | _ => none) = some rs := h
    split at h'
    · rename_i q
      obtain ⟨l, hl, h'⟩ := oO_some h'
      cases h'
      obtain ⟨a, b⟩ := histV_ok hl
      refine ⟨by simp [a], fun i w hw => ?_⟩
      cases i with
      | zero => cases hw; exact ⟨q, rfl, rfl⟩
      | succ i => exact b i w hw
    · cases h'
theorem VRs.at_ {W : Cw} {D : Ld} : ∀ {l : List V} {xs : List Value}, VRs W D l xs → ∀ {k : Nat} {x : Value}, xs[k]? = some x → ∃ v, l[k]? = some v ∧ VR W D v x
  | _, _, .nil, k, x, e => by cases e
  | _, _, .cons h r, k, x, e => by
    cases k with
    | zero => cases e; exact ⟨_, rfl, h⟩
    | succ k => exact r.at_ e
theorem clos_2 {scope : Scope} {env : Env} {d y : Str} (hnm : scope.names = [(d, .local), (y, .local)]) : closureFor scope env = pure [] := by
  unfold closureFor
  rw [hnm]
  rfl
theorem hc_hist (L : Lv W P n) {o : Expr} {x : Str} {p pos : Pos} {e : Expr} (hd : c.sc.lookup ("__debug__" : Str) = none) (ho : SndE W P n c o) (hne : noComp e = false) : SndS W P n c (.Assign [.Attribute o x p] e pos) := by
  intro I ok lc l h r ee ex m D s S Q E H
  rw [cS_A2] at ee
  cases hx : idx x c.attrs with
  | none => rw [hx] at ee; exact absurd ee.symm H.no
  | some k =>
    rw [hx, hne] at ee
    have ee : evS (histOf c (cE c o) k e) P (ev P n) l h = r := ee
    refine histOf_inv (c := c) (o := cE c o) (x := k) (e := e) rfl (fun z => by rw [z] at ee; exact absurd ee.symm H.no) ?_
    intro y d zz k1 k2 k3 k4 k5 p1 p2 p3 p4 p5 p6 p7 p8 p9 k6 pos' g1 co1 mo1 j he a3 a4 a5 hr
    rw [hr] at ee
    have ea : (oS (lget l j) fun v => match v with
      | .obj j => oS (listAt h j) fun vs => oS (ifB (Nat.blt vs.length 256) (histV vs) none) fun vs => bndS (mkObj (.list vs) h) fun v h => bndS (evE (cE c o) P (ev P n) l h) fun o h => oS (putAttr h k v o) fun h => .next l h
      | _ => .fail) = r := ee
    clear ee
    subst he
    obtain ⟨hz, hzk⟩ := locOf_ok a5
    obtain ⟨u, hu, ea⟩ := oS_ok ea H.no
    split at ea
    rotate_left
    · exact absurd ea.symm H.no
    rename_i jj
    obtain ⟨vs, hl, ea⟩ := oS_ok ea H.no
    obtain ⟨rs, hrs, ea⟩ := oS_ok ea H.no
    obtain ⟨nv, h1, em, ea⟩ := bndS_ok ea H.no
    obtain ⟨ov, h2, eo, ea⟩ := bndS_ok ea H.no
    obtain ⟨h3, ep, rfl⟩ := oS_ok ea H.no
    have hb2 : Nat.blt vs.length 256 = true ∧ histV vs = some rs := by
      cases q : Nat.blt vs.length 256 with
      | true => rw [q] at hrs; exact ⟨rfl, hrs⟩
      | false => rw [q] at hrs; cases hrs
    have hb256 := hb2.1
    have hlen := (histV_ok hb2.2).1
    have hat := (histV_ok hb2.2).2
    generalize hsc : (⟨.function, [(d, .local), (y, .local)], g1, co1, mo1⟩ : Scope) = sc
    have nm : sc.names = [(d, .local), (y, .local)] := by rw [← hsc]
    have kf : sc.kind = .function := by rw [← hsc]
    have ly : sc.names.lookup y = some .local := by rw [nm]; simp [List.lookup_cons, a3]
    refine plainObj_wpAny_Assign_Attribute ?_ rfl
    rcases S.lc zz j hzk _ hu with z | ⟨val, hm, hv⟩
    · cases z
    obtain ⟨adr, its, nn, rfl, hmem, hvs⟩ := S.list hl hv
    refine ListComp_U S.F (clos_2 nm) (fun y hy => ?_) kf (fun y' hy hl => ?_) ly ?_
    · rw [nm] at hy
      simp only [List.mem_cons, List.not_mem_nil, or_false] at hy
      rcases hy with rfl | rfl <;> (intro z; cases z)
    · rw [nm] at hy
      simp only [List.mem_cons, List.not_mem_nil, or_false] at hy
      rcases hy with rfl | rfl
      · rw [nm]; simp [List.lookup_cons]
      · exact ly
    · have e0 : evE (cE c (.Name zz p9)) P (ev P n) l h = .ok (.obj jj) h := by
        rw [cE_Name, hz]
        show evE (match idx zz c.names with | some k => .loc k | none => .bad) P (ev P n) l h = _
        rw [hzk]
        show oB (lget l j) _ = _
        rw [hu]
        rfl
      refine snd_Name L hd zz p9 I ok lc _ _ _ _ e0 ex m D s S _ _ fun val' hp0 tk0 D0 X0 S0 V0 => ?_
      obtain ⟨adr0, its0, nn0, rfl, hmem0, hvs0⟩ := S0.list hl V0
      have key : ∀ (g : Heap) (q i : Nat) (ys : List Value) (D1 : Ld) (hp1 : Heap), q + i = its0.size → ys.length = i → Ext D0 D1 → D1.mu = D0.mu → SR W I c.names ex l h hp1 m D1 → VRs W.toCw D1 (rs.take i) ys →
          CompRest W.prog W.w I.A I.h₀ I.L m I.env (.Tuple [.Constant (.int (.ofNat 0)) k1 p1, .Constant (.int (.ofNat 0)) k2 p2, .Constant (.int (.ofNat 0)) k3 p3, .Constant (.int (.ofNat 0)) k4 p4, .Constant (.int (.ofNat 0)) k5 p5, .Name y p6] k6 p7) y sc []
            { s with heap := g, toks := tk0 } (SrcAt I.h₀ adr0 its0) (fun i v => its0[i]? = some v)
            (FinE I.h₀ I.L m { s with heap := g, toks := tk0 } fun val s₁ => wpAny (model W.prog W.w) I.A (eval o I.env) (fun ov s₂ => wpAny (model W.prog W.w) I.A (setAttr ov x val) (fun _ s' => Q .next s') E s₂) E s₁) q i ys (D1.mu ++ D1.imm) := by
        intro g q
        induction q with
        | zero =>
          intro i ys D1 hp1 e hy X1 hmu S1 V1 Dl hh tk F' N' o1
          have hi : i = rs.length := by
            have := hvs0.length
            rw [hlen, this, Array.length_toList]; omega
          rw [hi, List.take_length] at V1
          obtain ⟨X2, S2, V2⟩ := (S1.at_ F' (sub_news N' fun q hq => .tail _ hq)).newListE em (a := Dl) (xs := ys) (k := ys.length) F' N' (off1_mem o1) V1
          refine ho I ok lc _ _ _ _ eo ex m _ _ S2 _ _ fun ov' p2 t2 D3 X3 S3 V3 => ?_
          exact attr_write L.G S3 ok (idx_an lc.an hx) ep V3 (V2.mono X3) fun hp4 tk4 D4 X4 S4 => H.next l h3 rfl hp4 tk4 m D4 ((((X0.trans X1).trans X2).trans X3).trans X4) S4
        | succ q ih =>
          intro i ys D1 hp1 e hy X1 hmu S1 V1
          refine CompRest.succ fun v I' oI C oC Dl m₂ hh tk E' hP hoC hmx F' N' off ne => ?_
          obtain ⟨w, hw, Vw⟩ := hvs0.at_ (k := i) (x := v) (by simpa using hP)
          obtain ⟨qn, rfl, hri⟩ := hat i w hw
          obtain ⟨tv, rfl⟩ := Vw.toInt (i := Int.ofNat qn) rfl
          refine Tuple_ (spliced_more (wpAny_Constant_int (spliced_more (wpAny_Constant_int (spliced_more (wpAny_Constant_int (spliced_more (wpAny_Constant_int (spliced_more (wpAny_Constant_int (spliced_more (wpAny_Name (wpAny_loadName_local (by exact kf) (lookup_relabel_local ly) (hoC.ns (N' (C, oC) (.tail _ (.head _))).1) hmx (spliced_none ?_)) a4) rfl)) rfl)) rfl)) rfl)) rfl)) rfl)
          refine newTuple_N F' N' (fun h5 F5 N5 => ?_) (by show 6 ≤ sizeLine; rw [sizeLine_eq]; decide)
          have fresh : ∀ p ∈ (I', oI) :: (C, oC) :: (Dl, lst ys) :: (D1.mu ++ D1.imm), @LT.lt Nat _ p.1 hh.objs.size := fun p hp => Heap.lt_size (N' p hp).1
          obtain ⟨X6, S6⟩ := (S1.at_ F5 (sub_news N5 fun q hq => .tail _ (.tail _ (.tail _ (.tail _ hq))))).immNewE (o := tupOf _ 0) (.inl rfl) F5 (sub_news N5 fun q hq => by
            rcases List.mem_cons.mp hq with rfl | hq
            · exact .head _
            · exact .tail _ (.tail _ (.tail _ (.tail _ hq))))
          refine CompEnd.intro F5 N5 (D1.mu ++ (_ :: D1.imm)) (fun p hp => ?_) (Off3.of fun p hp => ?_) ?_ (ih (i + 1) (ys ++ [_]) ⟨D1.mu, _ :: D1.imm, D1.ρ⟩ _ (by omega) (by rw [List.length_append, hy]; rfl) (X1.trans X6) hmu S6 ?_)
          · rcases List.mem_cons.mp hp with rfl | hp
            · exact .tail _ (.head _)
            rcases List.mem_cons.mp hp with rfl | hp
            · exact .tail _ (.tail _ (.head _))
            rcases List.mem_cons.mp hp with rfl | hp
            · exact .tail _ (.tail _ (.tail _ (.head _)))
            rcases List.mem_append.mp hp with hp | hp
            · exact .tail _ (.tail _ (.tail _ (.tail _ (List.mem_append_left _ hp))))
            rcases List.mem_cons.mp hp with rfl | hp
            · exact .head _
            · exact .tail _ (.tail _ (.tail _ (.tail _ (List.mem_append_right _ hp))))
          · rcases List.mem_append.mp hp with hp | hp
            · exact off.mem p (List.mem_append_left _ hp)
            rcases List.mem_cons.mp hp with rfl | hp
            · exact ⟨Ne.symm (Nat.ne_of_lt (fresh _ (.head _))), Ne.symm (Nat.ne_of_lt (fresh _ (.tail _ (.head _)))), Ne.symm (Nat.ne_of_lt (fresh _ (.tail _ (.tail _ (.head _)))))⟩
            · exact off.mem p (List.mem_append_right _ hp)
          · exact .inr ⟨_, List.mem_append_left _ (hmu ▸ hmem0), rfl, _, rfl⟩
          · have ht : rs.take (i + 1) = rs.take i ++ [hTup qn] := by rw [List.take_add_one, hri]; rfl
            rw [ht]
            exact (V1.mono X6).snoc (.tup (.inl (.head _)) (.cons (.int _ rfl) (.cons (.int _ rfl) (.cons (.int _ rfl) (.cons (.int _ rfl) (.cons (.int _ rfl) (.cons (.int _ rfl) .nil)))))))
      refine CompSrc.ledger (its := its0) (k := nn0) rfl S0.F S0.N (List.mem_append_left _ hmem0) ?_ fun g => key g its0.size 0 [] D0 hp0 rfl rfl (Ext.refl D0) rfl S0 .nil
      have h7 : vs.length = its0.size := by rw [hvs0.length, Array.length_toList]
      have h8 := blt_lt hb256
      rw [sizeLine_eq]
      omega
end Mine
end
section
open PySem PySem.Calls PyProof.Rows PySem.W PyProof.V
set_option Elab.async false
set_option maxRecDepth 100000
set_option linter.unusedVariables false
set_option autoImplicit false
namespace Mine
/-! between two levels -/
noncomputable def Cs.lev (W : Cs) (pat : Nat → Hp → Prop) (bud : Nat) : Cs := { W with pat := pat, bud := bud }
section
variable {W : Cs} {pat : Nat → Hp → Prop} {bud : Nat} {D D' : Ld}
theorem FsR.lev {fs : Fs} {es : List DictEntry} (h : FsR W D fs es) : FsR (W.lev pat bud) D fs es := by
  induction h with
  | nil => exact .nil
  | cons hx hv _ ih => exact .cons hx hv ih
theorem OR.lev {a d : Addr} {o : AO} (h : OR W D a d o) : OR (W.lev pat bud) D a d o := by
  cases o with
  | list l => exact h
  | inst c fs =>
    obtain ⟨C, hC, hi, es, n, hd, hf, h100⟩ := h
    exact ⟨C, hC, hi, es, n, hd, hf.lev, h100⟩
  | hole => exact h
theorem HR.lev {h : Hp} (x : HR W D h) : HR (W.lev pat bud) D h := ⟨x.len, x.inj, fun k o e => let ⟨p, a, b⟩ := x.at_ k o e; ⟨p, a, b.lev⟩⟩
theorem HR.unlev {h : Hp} (x : HR (W.lev pat bud) D h) : HR W D h := HR.lev (W := W.lev pat bud) (pat := W.pat) (bud := W.bud) x
variable {I : Fi} {names : List Str} {ex : List (Addr × Obj)} {l : List V} {h : Hp} {hp : Heap} {m : Str → Option Value}
theorem SR.unlev (S : SR (W.lev pat bud) I names ex l h hp m D) (f1 : h.isFrz = false) : SR W I names ex l h hp m D := by
  obtain ⟨Hf, f, H⟩ := S.H
  obtain rfl : h = Hf := (f.eq f1).symm
  exact ⟨S.F, S.N, S.nd, S.im, S.ex, ⟨h, Fill.self f1, H.unlev⟩, S.lc⟩
theorem SR.freeze (S : SR W I names ex l h hp m D) (f1 : h.isFrz = false) {g : Nat} {r : Hp} (hp1 : pat g h) (hr : ∀ k o, hget r k = some o → o ≠ .hole → hget h k = some o) : SR (W.lev pat bud) I names ex l (.frz g r) hp m D := by
  obtain ⟨Hf, f, H⟩ := S.H
  obtain rfl : h = Hf := (f.eq f1).symm
  exact ⟨S.F, S.N, S.nd, S.im, S.ex, ⟨h, ⟨hp1, hr⟩, H.lev⟩, S.lc⟩
theorem SR.melt {g : Nat} {r : Hp} (S : SR (W.lev pat bud) I names ex l (.frz g r) hp m D) : ∃ Hf, pat g Hf ∧ (∀ k o, hget r k = some o → o ≠ .hole → hget Hf k = some o) ∧ (Hf.isFrz = false → SR W I names ex l Hf hp m D) := by
  obtain ⟨Hf, f, H⟩ := S.H
  exact ⟨Hf, f.1, f.2, fun f1 => ⟨S.F, S.N, S.nd, S.im, S.ex, ⟨Hf, Fill.self f1, H.unlev⟩, S.lc⟩⟩
theorem Fi.Ok.unlev {n N : Nat} (ok : I.Ok (W.lev pat bud) n) (h0 : W.bud = 0) (hN : N ≤ bud) : I.Ok W N :=
  ⟨ok.B, ok.X, ok.T, ok.ck, ok.sc, by have := ok.dB; rw [h0]; show I.dp + 2 * N + 8 + 2 * 0 < recursionLimit; have e : I.dp + 2 * n + 8 + 2 * bud < recursionLimit := this; omega,
    by have := ok.uB; rw [h0]; have e : I.un + 16 * n + 100 + 16 * bud < cLine := this; omega⟩
end
section
variable {W : Cw} {D D' : Ld}
mutual
theorem VR.drop {v : V} {x x0 : Value} (h0 : VR W D v x0) (h : VR W D' v x) (e : Ext D D') : VR W ⟨D'.mu, D'.imm, D.ρ⟩ v x := match h with
  | .no => .no
  | .bool b => .bool b
  | .int t hi => .int t hi
  | .str s t hs => .str s t hs
  | .obj hk => match h0 with
    | .obj hk0 => by
      have z := e.ρ _ _ hk0
      rw [hk] at z
      cases z
      exact .obj hk0
    | .int _ hi => nomatch hi
  | .rng ha hb hc h => .rng ha hb hc h
  | .tup h r => match h0 with
    | .tup _ r0 => .tup h (VRs.drop r0 r e)
    | .int _ hi => nomatch hi
  | .lst h r => match h0 with
    | .lst _ r0 => .lst h (VRs.drop r0 r e)
    | .int _ hi => nomatch hi
  | .scr => .scr
theorem VRs.drop {l : List V} {xs xs0 : List Value} (h0 : VRs W D l xs0) (h : VRs W D' l xs) (e : Ext D D') : VRs W ⟨D'.mu, D'.imm, D.ρ⟩ l xs := match h with
  | .nil => .nil
  | .cons a r => match h0 with
    | .cons a0 r0 => .cons (VR.drop a0 a e) (VRs.drop r0 r e)
end
end
section
variable {W : Cs} {D D' : Ld}
theorem FsR.drop {fs : Fs} {es es0 : List DictEntry} (h0 : FsR W D fs es0) (h : FsR W D' fs es) (e : Ext D D') : FsR W ⟨D'.mu, D'.imm, D.ρ⟩ fs es := by
  induction h generalizing es0 with
  | nil => exact .nil
  | cons hx hv _ ih =>
    cases h0 with
    | cons hx0 hv0 h0 => exact .cons hx (hv0.drop hv e) (ih h0)
theorem OR.drop {a d : Addr} {o : AO} (h0 : OR W D a d o) (h : OR W D' a d o) (e : Ext D D') : OR W ⟨D'.mu, D'.imm, D.ρ⟩ a d o := by
  cases o with
  | list l =>
    obtain ⟨h1, its, n, h2, h3⟩ := h
    obtain ⟨_, its0, n0, _, h30⟩ := h0
    exact ⟨h1, its, n, h2, h30.drop h3 e⟩
  | inst c fs =>
    obtain ⟨C, hC, hi, es, n, hd, hf, h100⟩ := h
    obtain ⟨_, _, _, es0, _, _, hf0, _⟩ := h0
    exact ⟨C, hC, hi, es, n, hd, hf0.drop hf e, h100⟩
  | hole => exact h
theorem SR.drop {I : Fi} {names : List Str} {ex : List (Addr × Obj)} {l : List V} {h h' : Hp} {hp hp' : Heap} {m : Str → Option Value} (S : SR W I names ex l h hp m D) (S' : SR W I names ex l h' hp' m D') (e : Ext D D') (f : h.isFrz = false) (f' : h'.isFrz = false)
    (hk : ∀ k o, hget h k = some o → hget h' k = some o) : Ext D ⟨D'.mu, D'.imm, D.ρ⟩ ∧ SR W I names ex l h hp' m ⟨D'.mu, D'.imm, D.ρ⟩ := by
  obtain ⟨H1, g1, x1⟩ := S.H
  obtain ⟨H2, g2, x2⟩ := S'.H
  obtain rfl : h = H1 := (g1.eq f).symm
  obtain rfl : h' = H2 := (g2.eq f').symm
  refine ⟨⟨e.imm, fun _ _ z => z⟩, S'.F, S'.N, S'.nd, S'.im, S'.ex, ⟨h, Fill.self f, x1.len, x1.inj, fun k o z => ?_⟩, fun x k hx v hv => ?_⟩
  · obtain ⟨p, a, b⟩ := x1.at_ k o z
    obtain ⟨p', a', b'⟩ := x2.at_ k o (hk k o z)
    have y := e.ρ _ _ a
    rw [a'] at y
    cases y
    exact ⟨p, a, b.drop b' e⟩
  · rcases S.lc x k hx v hv with z | ⟨val, h1, h2⟩
    · exact .inl z
    · rcases S'.lc x k hx v hv with z | ⟨val', h1', h2'⟩
      · exact .inl z
      · exact .inr ⟨val', h1', h2.drop h2' e⟩
end
theorem hc_all {W : Cs} {P : Prog} {k : Nat} {c : CC} (L : Lv W P k) (hd : c.sc.lookup ("__debug__" : Str) = none) : HC W P k c := ⟨fun x p e pos q => hc_rows L.G q, fun o x p e pos ho q => hc_hist L hd ho q⟩
theorem lv_of {W : Cs} {P : Prog} (G : GlOk W P) (N : Nat) (hcon : ∀ n, n ≤ N → ∀ f fa, FnIs W P f fa → ConSnd W P n f fa) : ∀ n, n ≤ N → Lv W P n := lv_all G N hcon fun k c L hd _ => hc_all L hd
end Mine
end
section
set_option maxRecDepth 100000
namespace Mine
open PySem
noncomputable def f0 : S := (.seq (.ret (.bin .shr (.loc 0) (.c (.n 3)))) .skip)
noncomputable def f1 : S := (.seq (.ret (.bin .and (.loc 0) (.c (.n 7)))) .skip)
noncomputable def f2 : S := (.seq (.asL 4 (.c (.n 0))) (.seq (.iff (.cmp .eq (.loc 2) (.c (.n 1))) (.seq (.asL 4 (.bin .sub (.loc 3) (.c (.n 2)))) .skip) .skip) (.seq (.ret (.bin .or (.bin .or (.bin .or (.loc 1) (.bin .shl (.loc 0) (.c (.n 6)))) (.bin .shl (.loc 4) (.c (.n 12)))) (.bin .shl (.loc 2) (.c (.n 14))))) .skip)))
noncomputable def f3 : S := (.seq (.ret (.bin .and (.bin .shr (.loc 0) (.c (.n 6))) (.c (.n 63)))) .skip)
noncomputable def f4 : S := (.seq (.ret (.bin .and (.loc 0) (.c (.n 63)))) .skip)
noncomputable def f5 : S := (.seq (.ret (.bin .and (.bin .shr (.loc 0) (.c (.n 14))) (.c (.n 3)))) .skip)
noncomputable def f6 : S := (.seq (.ret (.cmp .ne (.bin .and (.loc 0) (.bin .sub (.loc 0) (.c (.n 1)))) (.c (.n 0)))) .skip)
noncomputable def f7 : S := (.seq (.iff (.cmp .eq (.loc 0) (.c (.n 0))) (.seq (.ret (.neg (.c (.n 1)))) .skip) .skip) (.seq (.asL 1 (.c (.n 1))) (.seq (.whl (.bin .shr (.loc 0) (.loc 1)) (.seq (.auL .mul 1 (.c (.n 2))) .skip)) (.seq (.asL 2 (.c (.n 0))) (.seq (.whl (.cmp .gt (.loc 1) (.c (.n 1))) (.seq (.auL .fdiv 1 (.c (.n 2))) (.seq (.iff (.bin .shr (.loc 0) (.loc 1)) (.seq (.auL .shr 0 (.loc 1)) (.seq (.auL .add 2 (.loc 1)) .skip)) .skip) .skip))) (.seq (.ret (.loc 2)) .skip))))))
noncomputable def f8 : S := (.seq (.ret (.call 7 (.cons (.bin .and (.loc 0) (.neg (.loc 0))) .nil))) .skip)
noncomputable def f9 : S := (.seq (.asL 1 (.list .nil)) (.seq (.asL 2 (.c (.n 0))) (.seq (.whl (.loc 0) (.seq (.whl (.nt (.bin .and (.loc 0) (.c (.n 15)))) (.seq (.auL .shr 0 (.c (.n 4))) (.seq (.auL .add 2 (.c (.n 4))) .skip))) (.seq (.iff (.bin .and (.loc 0) (.c (.n 1))) (.seq (.ex (.app (.loc 1) (.loc 2))) .skip) .skip) (.seq (.auL .shr 0 (.c (.n 1))) (.seq (.auL .add 2 (.c (.n 1))) .skip))))) (.seq (.ret (.loc 1)) .skip))))
noncomputable def f10 : S := (.seq (.for1 3 (.rng (.cons (.c (.n 8)) .nil)) (.seq (.iff (.bin .and (.bin .shr (.sub (.sub (.attr (.loc 0) 0) (.loc 3)) (.loc 1)) (.loc 2)) (.c (.n 1))) (.seq (.ret (.loc 3)) .skip) .skip) .skip)) (.seq (.ret (.neg (.c (.n 1)))) .skip))
noncomputable def f11 : S := (.seq (.asL 3 (.call 10 (.cons (.loc 0) (.cons (.loc 1) (.cons (.loc 2) .nil))))) (.seq (.iff (.cmp .lt (.loc 3) (.c (.n 0))) (.seq (.ret (.c (.n 0))) .skip) .skip) (.seq (.ret (.bin .and (.sub (.sub (.attr (.loc 0) 0) (.loc 3)) (.loc 1)) (.sub (.sub (.attr (.loc 0) 0) (.bin .xor (.loc 3) (.c (.n 2)))) (.loc 2)))) .skip)))
noncomputable def f12 : S := (.seq (.asL 3 (.call 10 (.cons (.loc 0) (.cons (.loc 1) (.cons (.loc 2) .nil))))) (.seq (.iff (.cmp .lt (.loc 3) (.c (.n 0))) (.seq (.ret (.c (.n 0))) .skip) .skip) (.seq (.ret (.bin .or (.bin .or (.sub (.sub (.attr (.loc 0) 0) (.loc 3)) (.loc 1)) (.sub (.sub (.attr (.loc 0) 0) (.bin .xor (.loc 3) (.c (.n 2)))) (.loc 1))) (.bin .shl (.c (.n 1)) (.loc 1)))) .skip)))
noncomputable def f13 : S := (.seq (.ret (.cmp .eq (.bin .and (.bin .shr (.call 12 (.cons (.loc 0) (.cons (.loc 1) (.cons (.loc 2) .nil)))) (.loc 3)) (.c (.n 1))) (.c (.n 1)))) .skip)
noncomputable def f14 : S := (.seq (.ex .bad) (.seq (.asA (.loc 0) 1 (.loc 1)) .skip))
noncomputable def f15 : S := (.seq (.asA (.loc 0) 2 (.loc 1)) (.seq (.asA (.loc 0) 3 (.loc 2)) (.seq (.asA (.loc 0) 4 (.bin .mul (.loc 1) (.loc 2))) (.seq (.asA (.loc 0) 5 (.bin .sub (.bin .shl (.c (.n 1)) (.bin .mul (.loc 1) (.loc 2))) (.c (.n 1)))) (.seq (.asA (.loc 0) 6 (.and (.loc 3) (.cmp .ge (.loc 2) (.c (.n 5))))) (.seq (.asA (.loc 0) 7 (.loc 4)) (.seq (.asA (.loc 0) 8 (.list .nil)) (.seq (.asA (.loc 0) 9 (.list .nil)) (.seq (.asA (.loc 0) 0 (.list .nil)) (.seq (.asA (.loc 0) 10 (.list .nil)) (.seq (.asA (.loc 0) 11 (.list .nil)) (.seq (.asA (.loc 0) 12 (.list (.cons (.list .nil) (.cons (.list .nil) .nil)))) (.seq (.asA (.loc 0) 13 (.list .nil)) (.seq (.asA (.loc 0) 14 (.list .nil)) .skip))))))))))))))
noncomputable def f16 : S := (.seq (.ret (.or (.cmp .gt (.sub (.c (.tup [(.n 1), (.n 0), (.m 0), (.n 0), (.n 1), (.m 0), (.m 0), (.n 1)])) (.loc 0)) (.c (.n 0))) (.cmp .eq (.loc 0) (.c (.n 1))))) .skip)
noncomputable def f17 : S := (.seq (.asL 1 (.bin .sub (.bin .shl (.c (.n 1)) (.attr (.loc 0) 2)) (.c (.n 1)))) (.seq (.asL 2 (.c (.n 0))) (.seq (.for1 3 (.rng (.cons (.attr (.loc 0) 3) .nil)) (.seq (.ex (.app (.attr (.loc 0) 9) (.bin .shl (.loc 1) (.bin .mul (.loc 3) (.attr (.loc 0) 2))))) (.seq (.auL .or 2 (.bin .shl (.c (.n 1)) (.bin .mul (.loc 3) (.attr (.loc 0) 2)))) .skip))) (.seq (.for1 4 (.rng (.cons (.attr (.loc 0) 2) .nil)) (.seq (.ex (.app (.attr (.loc 0) 8) (.bin .shl (.loc 2) (.loc 4)))) .skip)) .skip))))
noncomputable def f18 : S := (.seq (.asL 2 (.c (.n 0))) (.seq (.iff (.cmp .gt (.sub (.c (.tup [(.n 0), (.n 1), (.n 0), (.m 0), (.n 1), (.n 1), (.m 0), (.m 0)])) (.loc 1)) (.c (.n 0))) (.seq (.auL .or 2 (.sub (.attr (.loc 0) 8) (.bin .sub (.attr (.loc 0) 2) (.c (.n 1))))) .skip) .skip) (.seq (.iff (.cmp .lt (.sub (.c (.tup [(.n 0), (.n 1), (.n 0), (.m 0), (.n 1), (.n 1), (.m 0), (.m 0)])) (.loc 1)) (.c (.n 0))) (.seq (.auL .or 2 (.sub (.attr (.loc 0) 8) (.c (.n 0)))) .skip) .skip) (.seq (.iff (.cmp .gt (.sub (.c (.tup [(.n 1), (.n 0), (.m 0), (.n 0), (.n 1), (.m 0), (.m 0), (.n 1)])) (.loc 1)) (.c (.n 0))) (.seq (.auL .or 2 (.sub (.attr (.loc 0) 9) (.bin .sub (.attr (.loc 0) 3) (.c (.n 1))))) .skip) .skip) (.seq (.iff (.cmp .lt (.sub (.c (.tup [(.n 1), (.n 0), (.m 0), (.n 0), (.n 1), (.m 0), (.m 0), (.n 1)])) (.loc 1)) (.c (.n 0))) (.seq (.auL .or 2 (.sub (.attr (.loc 0) 9) (.c (.n 0)))) .skip) .skip) (.seq (.ret (.bin .and (.attr (.loc 0) 5) (.inv (.loc 2)))) .skip))))))
noncomputable def f19 : S := (.seq (.asA (.loc 0) 10 (.bin .mul (.list (.cons (.c (.n 0)) .nil)) (.attr (.loc 0) 4))) (.seq (.for1 1 (.rng (.cons (.c (.n 8)) .nil)) (.seq (.asL 2 (.call 18 (.cons (.loc 0) (.cons (.loc 1) .nil)))) (.seq (.asL 3 (.bin .add (.bin .mul (.sub (.c (.tup [(.n 1), (.n 0), (.m 0), (.n 0), (.n 1), (.m 0), (.m 0), (.n 1)])) (.loc 1)) (.attr (.loc 0) 2)) (.sub (.c (.tup [(.n 0), (.n 1), (.n 0), (.m 0), (.n 1), (.n 1), (.m 0), (.m 0)])) (.loc 1)))) (.seq (.asL 4 (.bin .mul (.list (.cons (.c (.n 0)) .nil)) (.attr (.loc 0) 4))) (.seq (.asL 5 (.rng (.cons (.attr (.loc 0) 4) .nil))) (.seq (.iff (.call 16 (.cons (.loc 1) .nil)) (.seq (.asL 5 (.rng (.cons (.bin .sub (.attr (.loc 0) 4) (.c (.n 1))) (.cons (.neg (.c (.n 1))) (.cons (.neg (.c (.n 1))) .nil))))) .skip) .skip) (.seq (.for1 6 (.loc 5) (.seq (.iff (.bin .and (.bin .shr (.loc 2) (.loc 6)) (.c (.n 1))) (.seq (.asL 7 (.bin .add (.loc 6) (.loc 3))) (.seq (.asS (.loc 4) (.loc 6) (.bin .or (.sub (.loc 4) (.loc 7)) (.bin .shl (.c (.n 1)) (.loc 7)))) (.seq (.auS .or (.attr (.loc 0) 10) (.loc 6) (.bin .shl (.c (.n 1)) (.loc 7))) .skip))) .skip) .skip)) (.seq (.ex (.app (.attr (.loc 0) 0) (.loc 4))) .skip)))))))) .skip))
noncomputable def f20 : S := (.seq (.for1 1 (.rng (.cons (.attr (.loc 0) 4) .nil)) (.seq (.ex (.app (.sub (.attr (.loc 0) 12) (.c (.n 0))) (.bin .and (.sub (.attr (.loc 0) 10) (.loc 1)) (.bin .or (.sub (.sub (.attr (.loc 0) 0) (.c (.n 4))) (.loc 1)) (.sub (.sub (.attr (.loc 0) 0) (.c (.n 7))) (.loc 1)))))) (.seq (.ex (.app (.sub (.attr (.loc 0) 12) (.c (.n 1))) (.bin .and (.sub (.attr (.loc 0) 10) (.loc 1)) (.bin .or (.sub (.sub (.attr (.loc 0) 0) (.c (.n 5))) (.loc 1)) (.sub (.sub (.attr (.loc 0) 0) (.c (.n 6))) (.loc 1)))))) .skip))) .skip)
noncomputable def f21 : S := (.seq (.asL 1 (.attr (.loc 0) 2)) (.seq (.asL 2 (.bin .and (.attr (.loc 0) 5) (.inv (.sub (.attr (.loc 0) 8) (.c (.n 0)))))) (.seq (.asL 3 (.bin .and (.attr (.loc 0) 5) (.inv (.sub (.attr (.loc 0) 8) (.bin .sub (.loc 1) (.c (.n 1))))))) (.seq (.asL 4 (.bin .and (.loc 2) (.inv (.sub (.attr (.loc 0) 8) (.c (.n 1)))))) (.seq (.asL 5 (.bin .and (.loc 3) (.inv (.sub (.attr (.loc 0) 8) (.bin .sub (.loc 1) (.c (.n 2))))))) (.seq (.for1 6 (.rng (.cons (.attr (.loc 0) 4) .nil)) (.seq (.asL 7 (.bin .shl (.c (.n 1)) (.loc 6))) (.seq (.asL 8 (.bin .or (.bin .and (.bin .shl (.loc 7) (.c (.n 1))) (.loc 2)) (.bin .and (.bin .shr (.loc 7) (.c (.n 1))) (.loc 3)))) (.seq (.asL 9 (.bin .or (.bin .and (.bin .shl (.loc 7) (.c (.n 2))) (.loc 4)) (.bin .and (.bin .shr (.loc 7) (.c (.n 2))) (.loc 5)))) (.seq (.asL 10 (.bin .or (.bin .or (.bin .or (.bin .shl (.loc 8) (.bin .mul (.c (.n 2)) (.loc 1))) (.bin .shr (.loc 8) (.bin .mul (.c (.n 2)) (.loc 1)))) (.bin .shl (.loc 9) (.loc 1))) (.bin .shr (.loc 9) (.loc 1)))) (.seq (.ex (.app (.attr (.loc 0) 11) (.bin .and (.loc 10) (.attr (.loc 0) 5)))) .skip)))))) .skip))))))
noncomputable def f22 : S := (.seq (.asA (.loc 0) 14 (.bin .mul (.list (.cons (.c (.n 0)) .nil)) (.attr (.loc 0) 4))) (.seq (.asL 1 (.bin .fdiv (.attr (.loc 0) 2) (.c (.n 2)))) (.seq (.for1 2 (.rng (.cons (.c (.n 4)) .nil)) (.seq (.asL 3 (.bin .mul (.bin .mul (.bin .shr (.loc 2) (.c (.n 1))) (.bin .sub (.attr (.loc 0) 3) (.c (.n 1)))) (.attr (.loc 0) 2))) (.seq (.asL 4 (.bin .sub (.attr (.loc 0) 2) (.c (.n 1)))) (.seq (.asL 5 (.c (.n 1))) (.seq (.iff (.bin .and (.loc 2) (.c (.n 1))) (.seq (.asL 4 (.c (.n 0))) (.seq (.asL 5 (.neg (.c (.n 1)))) .skip)) .skip) (.seq (.asL 6 (.bin .add (.loc 1) (.bin .mul (.c (.n 2)) (.loc 5)))) (.seq (.iff (.and (.attr (.loc 0) 7) (.cmp .gt (.bin .mul (.bin .sub (.loc 4) (.loc 6)) (.loc 5)) (.c (.n 0)))) (.seq (.ex (.app (.attr (.loc 0) 13) (.tup (.cons (.bin .add (.loc 3) (.loc 1)) (.cons (.bin .add (.loc 3) (.loc 6)) (.cons (.bin .add (.loc 3) (.loc 4)) (.cons (.bin .sub (.bin .add (.loc 3) (.loc 6)) (.loc 5)) .nil))))))) (.seq (.auS .or (.attr (.loc 0) 14) (.bin .add (.loc 3) (.loc 1)) (.bin .shl (.c (.n 1)) (.loc 2))) (.seq (.auS .or (.attr (.loc 0) 14) (.bin .add (.loc 3) (.loc 4)) (.bin .shl (.c (.n 1)) (.loc 2))) .skip))) (.seq (.ex (.app (.attr (.loc 0) 13) (.c .no))) .skip)) .skip))))))) .skip)))
noncomputable def f23 : S := (.seq (.iff (.or (.cmp .lt (.loc 0) (.c (.n 2))) (.or (.cmp .gt (.loc 0) (.c (.n 8))) (.or (.cmp .lt (.loc 1) (.c (.n 3))) (.cmp .gt (.loc 1) (.c (.n 8)))))) (.seq .bad .skip) .skip) (.seq (.asL 4 (.new 0 (.cons (.loc 0) (.cons (.loc 1) (.cons (.loc 2) (.cons (.loc 3) .nil)))))) (.seq (.ex (.call 17 (.cons (.loc 4) .nil))) (.seq (.ex (.call 19 (.cons (.loc 4) .nil))) (.seq (.ex (.call 20 (.cons (.loc 4) .nil))) (.seq (.ex (.call 21 (.cons (.loc 4) .nil))) (.seq (.ex (.call 22 (.cons (.loc 4) .nil))) (.seq (.ret (.loc 4)) .skip))))))))
noncomputable def f24 : S := (.seq (.asL 4 (.sub (.sub (.attr (.loc 0) 0) (.loc 1)) (.loc 2))) (.seq (.asL 5 (.bin .and (.loc 4) (.loc 3))) (.seq (.iff (.cmp .eq (.loc 5) (.c (.n 0))) (.seq (.ret (.loc 4)) .skip) .skip) (.seq (.iff (.call 16 (.cons (.loc 1) .nil)) (.seq (.ret (.bin .and (.loc 4) (.bin .xor (.loc 5) (.bin .sub (.loc 5) (.c (.n 1)))))) .skip) .skip) (.seq (.asL 6 (.bin .shr (.loc 5) (.c (.n 1)))) (.seq (.auL .or 6 (.bin .shr (.loc 6) (.c (.n 1)))) (.seq (.auL .or 6 (.bin .shr (.loc 6) (.c (.n 2)))) (.seq (.auL .or 6 (.bin .shr (.loc 6) (.c (.n 4)))) (.seq (.auL .or 6 (.bin .shr (.loc 6) (.c (.n 8)))) (.seq (.auL .or 6 (.bin .shr (.loc 6) (.c (.n 16)))) (.seq (.auL .or 6 (.bin .shr (.loc 6) (.c (.n 32)))) (.seq (.ret (.bin .and (.loc 4) (.inv (.loc 6)))) .skip))))))))))))
noncomputable def f25 : S := (.seq (.asL 3 (.c (.n 0))) (.seq (.for1 4 (.rng (.cons (.c (.n 4)) .nil)) (.seq (.auL .or 3 (.call 24 (.cons (.loc 0) (.cons (.loc 4) (.cons (.loc 1) (.cons (.loc 2) .nil)))))) .skip)) (.seq (.ret (.loc 3)) .skip)))
noncomputable def f26 : S := (.seq (.asL 3 (.c (.n 0))) (.seq (.for1 4 (.rng (.cons (.c (.n 4)) (.cons (.c (.n 8)) .nil))) (.seq (.auL .or 3 (.call 24 (.cons (.loc 0) (.cons (.loc 4) (.cons (.loc 1) (.cons (.loc 2) .nil)))))) .skip)) (.seq (.ret (.loc 3)) .skip)))
noncomputable def f27 : S := (.seq (.ret (.bin .or (.call 25 (.cons (.loc 0) (.cons (.loc 1) (.cons (.loc 2) .nil)))) (.call 26 (.cons (.loc 0) (.cons (.loc 1) (.cons (.loc 2) .nil)))))) .skip)
noncomputable def f28 : S := (.seq (.iff (.cmp .eq (.loc 1) (.c (.n 3))) (.seq (.ret (.call 26 (.cons (.loc 0) (.cons (.loc 2) (.cons (.loc 3) .nil))))) .skip) .skip) (.seq (.iff (.cmp .eq (.loc 1) (.c (.n 4))) (.seq (.ret (.call 25 (.cons (.loc 0) (.cons (.loc 2) (.cons (.loc 3) .nil))))) .skip) .skip) (.seq (.iff (.cmp .eq (.loc 1) (.c (.n 5))) (.seq (.ret (.call 27 (.cons (.loc 0) (.cons (.loc 2) (.cons (.loc 3) .nil))))) .skip) .skip) (.seq (.ret (.c (.n 0))) .skip))))
noncomputable def f29 : S := (.seq (.iff (.cmp .eq (.loc 2) (.c (.n 1))) (.seq (.ret (.sub (.sub (.attr (.loc 0) 12) (.loc 1)) (.loc 3))) .skip) .skip) (.seq (.iff (.cmp .eq (.loc 2) (.c (.n 2))) (.seq (.ret (.sub (.attr (.loc 0) 11) (.loc 3))) .skip) .skip) (.seq (.iff (.cmp .eq (.loc 2) (.c (.n 6))) (.seq (.ret (.sub (.attr (.loc 0) 10) (.loc 3))) .skip) .skip) (.seq (.ret (.call 28 (.cons (.loc 0) (.cons (.loc 2) (.cons (.loc 3) (.cons (.loc 4) .nil)))))) .skip))))
noncomputable def f30 : S := (.seq (.asA (.loc 0) 15 (.loc 1)) (.seq (.asA (.loc 0) 16 (.loc 2)) (.seq (.asA (.loc 0) 17 (.bin .mul (.list (.cons (.c (.n 0)) .nil)) (.attr (.loc 1) 4))) (.seq (.asA (.loc 0) 18 (.bin .mul (.list (.cons (.c (.n 0)) .nil)) (.c (.n 7)))) (.seq (.asA (.loc 0) 19 (.list (.cons (.c (.n 0)) (.cons (.c (.n 0)) .nil)))) (.seq (.asA (.loc 0) 20 (.c (.n 0))) (.seq (.asA (.loc 0) 21 (.c (.n 0))) (.seq (.asA (.loc 0) 22 (.neg (.c (.n 1)))) (.seq (.asA (.loc 0) 23 (.c (.n 0))) (.seq (.asA (.loc 0) 5 (.c (.n 1))) (.seq (.asA (.loc 0) 24 (.c (.n 0))) (.seq (.asA (.loc 0) 25 (.list .nil)) .skip))))))))))))
noncomputable def f31 : S := (.seq (.asL 3 (.bin .shl (.c (.n 1)) (.loc 2))) (.seq (.asS (.attr (.loc 0) 17) (.loc 2) (.loc 1)) (.seq (.auS .or (.attr (.loc 0) 18) (.call 1 (.cons (.loc 1) .nil)) (.loc 3)) (.seq (.auS .or (.attr (.loc 0) 19) (.call 0 (.cons (.loc 1) .nil)) (.loc 3)) (.seq (.auA .xor (.loc 0) 24 (.sub (.sub (.attr (.attr (.loc 0) 16) 26) (.loc 1)) (.loc 2))) .skip)))))
noncomputable def f32 : S := (.seq (.ret (.bin .or (.sub (.attr (.loc 0) 19) (.c (.n 0))) (.sub (.attr (.loc 0) 19) (.c (.n 1))))) .skip)
noncomputable def f33 : S := (.seq (.ret (.bin .and (.sub (.attr (.loc 0) 19) (.loc 1)) (.sub (.attr (.loc 0) 18) (.loc 2)))) .skip)
noncomputable def f34 : S := (.seq (.ret (.call 8 (.cons (.bin .and (.sub (.attr (.loc 0) 19) (.loc 1)) (.sub (.attr (.loc 0) 18) (.c (.n 6)))) .nil))) .skip)
noncomputable def f35 : S := (.seq (.ret (.bin .or (.sub (.attr (.loc 0) 18) (.c (.n 4))) (.sub (.attr (.loc 0) 18) (.c (.n 5))))) .skip)
noncomputable def f36 : S := (.seq (.ret (.bin .or (.sub (.attr (.loc 0) 18) (.c (.n 3))) (.sub (.attr (.loc 0) 18) (.c (.n 5))))) .skip)
noncomputable def f37 : S := (.seq (.ret (.bin .and (.bin .and (.sub (.sub (.attr (.attr (.loc 0) 15) 12) (.bin .sub (.c (.n 1)) (.loc 2))) (.loc 1)) (.sub (.attr (.loc 0) 18) (.c (.n 1)))) (.sub (.attr (.loc 0) 19) (.loc 2)))) .skip)
noncomputable def f38 : S := (.seq (.asL 3 (.attr (.loc 0) 15)) (.seq (.asL 4 (.bin .and (.sub (.attr (.loc 3) 11) (.loc 1)) (.sub (.attr (.loc 0) 18) (.c (.n 2))))) (.seq (.auL .or 4 (.bin .and (.sub (.attr (.loc 3) 10) (.loc 1)) (.sub (.attr (.loc 0) 18) (.c (.n 6))))) (.seq (.ret (.bin .or (.call 37 (.cons (.loc 0) (.cons (.loc 1) (.cons (.loc 2) .nil)))) (.bin .and (.loc 4) (.sub (.attr (.loc 0) 19) (.loc 2))))) .skip))))
noncomputable def f39 : S := (.seq (.asL 3 (.c (.n 0))) (.seq (.asL 4 (.call 35 (.cons (.loc 0) .nil))) (.seq (.iff (.loc 4) (.seq (.auL .or 3 (.bin .and (.call 25 (.cons (.attr (.loc 0) 15) (.cons (.loc 1) (.cons (.loc 2) .nil)))) (.loc 4))) .skip) .skip) (.seq (.asL 5 (.call 36 (.cons (.loc 0) .nil))) (.seq (.iff (.loc 5) (.seq (.auL .or 3 (.bin .and (.call 26 (.cons (.attr (.loc 0) 15) (.cons (.loc 1) (.cons (.loc 2) .nil)))) (.loc 5))) .skip) .skip) (.seq (.ret (.loc 3)) .skip))))))
noncomputable def f40 : S := (.seq (.asL 3 (.bin .or (.call 38 (.cons (.loc 0) (.cons (.loc 1) (.cons (.c (.n 0)) .nil)))) (.call 38 (.cons (.loc 0) (.cons (.loc 1) (.cons (.c (.n 1)) .nil)))))) (.seq (.ret (.bin .or (.loc 3) (.call 39 (.cons (.loc 0) (.cons (.loc 1) (.cons (.loc 2) .nil)))))) .skip))
noncomputable def f41 : S := (.seq (.iff (.call 38 (.cons (.loc 0) (.cons (.loc 1) (.cons (.loc 2) .nil)))) (.seq (.ret (.c (.bool true))) .skip) .skip) (.seq (.asL 4 (.attr (.loc 0) 15)) (.seq (.asL 5 (.sub (.attr (.loc 0) 19) (.loc 2))) (.seq (.asL 6 (.bin .and (.call 35 (.cons (.loc 0) .nil)) (.loc 5))) (.seq (.iff (.and (.loc 6) (.bin .and (.call 25 (.cons (.loc 4) (.cons (.loc 1) (.cons (.loc 3) .nil)))) (.loc 6))) (.seq (.ret (.c (.bool true))) .skip) .skip) (.seq (.asL 7 (.bin .and (.call 36 (.cons (.loc 0) .nil)) (.loc 5))) (.seq (.ret (.and (.cmp .ne (.loc 7) (.c (.n 0))) (.cmp .ne (.bin .and (.call 26 (.cons (.loc 4) (.cons (.loc 1) (.cons (.loc 3) .nil)))) (.loc 7)) (.c (.n 0))))) .skip)))))))
noncomputable def f42 : S := (.seq (.asL 2 (.bin .or (.sub (.attr (.loc 0) 19) (.c (.n 0))) (.sub (.attr (.loc 0) 19) (.c (.n 1))))) (.seq (.ret (.bin .and (.call 40 (.cons (.loc 0) (.cons (.call 34 (.cons (.loc 0) (.cons (.loc 1) .nil))) (.cons (.loc 2) .nil)))) (.sub (.attr (.loc 0) 19) (.bin .sub (.c (.n 1)) (.loc 1))))) .skip))
noncomputable def f43 : S := (.seq (.ret (.call 42 (.cons (.loc 0) (.cons (.attr (.loc 0) 20) .nil)))) .skip)
noncomputable def f44 : S := (.seq (.asL 2 (.bin .or (.sub (.attr (.loc 0) 19) (.c (.n 0))) (.sub (.attr (.loc 0) 19) (.c (.n 1))))) (.seq (.ret (.call 41 (.cons (.loc 0) (.cons (.call 34 (.cons (.loc 0) (.cons (.loc 1) .nil))) (.cons (.bin .sub (.c (.n 1)) (.loc 1)) (.cons (.loc 2) .nil)))))) .skip))
noncomputable def f45 : S := (.seq (.ret (.call 44 (.cons (.loc 0) (.cons (.attr (.loc 0) 20) .nil)))) .skip)
noncomputable def f46 : S := (.seq (.asL 2 (.call 34 (.cons (.loc 0) (.cons (.loc 1) .nil)))) (.seq (.asL 3 (.bin .and (.call 25 (.cons (.attr (.loc 0) 15) (.cons (.loc 2) (.cons (.c (.n 0)) .nil)))) (.call 35 (.cons (.loc 0) .nil)))) (.seq (.auL .or 3 (.bin .and (.call 26 (.cons (.attr (.loc 0) 15) (.cons (.loc 2) (.cons (.c (.n 0)) .nil)))) (.call 36 (.cons (.loc 0) .nil)))) (.seq (.ret (.bin .and (.loc 3) (.sub (.attr (.loc 0) 19) (.bin .sub (.c (.n 1)) (.loc 1))))) .skip))))
noncomputable def f47 : S := (.seq (.asL 2 (.call 34 (.cons (.loc 0) (.cons (.loc 1) .nil)))) (.seq (.asL 3 (.call 46 (.cons (.loc 0) (.cons (.loc 1) .nil)))) (.seq (.asL 4 (.bin .xor (.bin .or (.sub (.attr (.loc 0) 19) (.c (.n 0))) (.sub (.attr (.loc 0) 19) (.c (.n 1)))) (.loc 3))) (.seq (.asL 5 (.c (.n 0))) (.seq (.asL 6 (.c (.n 0))) (.seq (.for1 7 (.call 9 (.cons (.loc 3) .nil)) (.seq (.asL 8 (.bin .and (.call 11 (.cons (.attr (.loc 0) 15) (.cons (.loc 2) (.cons (.loc 7) .nil)))) (.loc 4))) (.seq (.iff (.and (.loc 8) (.nt (.call 6 (.cons (.loc 8) .nil)))) (.seq (.auL .or 5 (.loc 8)) (.seq (.iff (.bin .and (.loc 8) (.sub (.attr (.loc 0) 19) (.loc 1))) (.seq (.auL .or 6 (.bin .shl (.c (.n 1)) (.loc 7))) .skip) .skip) .skip)) .skip) .skip))) (.seq (.ret (.tup (.cons (.loc 5) (.cons (.loc 6) .nil)))) .skip)))))))
noncomputable def f48 : S := (.seq (.ret (.bin .and (.sub (.call 47 (.cons (.loc 0) (.cons (.loc 1) .nil))) (.c (.n 0))) (.sub (.attr (.loc 0) 19) (.loc 1)))) .skip)
noncomputable def f49 : S := (.seq (.iff (.cmp .lt (.loc 0) (.loc 1)) (.seq (.ret (.bin .sub (.bin .shl (.c (.n 1)) (.loc 1)) (.bin .shl (.c (.n 2)) (.loc 0)))) .skip) .skip) (.seq (.ret (.bin .sub (.bin .shl (.c (.n 1)) (.loc 0)) (.bin .shl (.c (.n 2)) (.loc 1)))) .skip))
noncomputable def f50 : S := (.seq (.asL 2 (.sub (.attr (.attr (.loc 0) 15) 13) (.loc 1))) (.seq (.iff (.isn (.loc 2)) (.seq (.ret (.c (.n 1))) .skip) .skip) (.seq (.iff (.cmp .eq (.bin .and (.attr (.loc 0) 21) (.bin .shl (.c (.n 1)) (.loc 1))) (.c (.n 0))) (.seq (.ret (.c (.n 2))) .skip) .skip) (.seq (.asT [3, 4, 5, 6] (.loc 2)) (.seq (.asL 7 (.call 32 (.cons (.loc 0) .nil))) (.seq (.iff (.bin .and (.loc 7) (.call 49 (.cons (.loc 3) (.cons (.loc 5) .nil)))) (.seq (.ret (.c (.n 3))) .skip) .skip) (.seq (.asL 8 (.bin .sub (.c (.n 1)) (.bin .shr (.loc 1) (.c (.n 1))))) (.seq (.iff (.call 41 (.cons (.loc 0) (.cons (.loc 3) (.cons (.loc 8) (.cons (.loc 7) .nil))))) (.seq (.ret (.c (.n 4))) .skip) .skip) (.seq (.iff (.call 41 (.cons (.loc 0) (.cons (.loc 6) (.cons (.loc 8) (.cons (.loc 7) .nil))))) (.seq (.ret (.c (.n 5))) .skip) .skip) (.seq (.iff (.call 41 (.cons (.loc 0) (.cons (.loc 4) (.cons (.loc 8) (.cons (.loc 7) .nil))))) (.seq (.ret (.c (.n 6))) .skip) .skip) (.seq (.ret (.c (.n 0))) .skip)))))))))))
noncomputable def f51 : S := (.seq (.for1 2 (.list (.cons (.bin .mul (.c (.n 2)) (.attr (.loc 0) 20)) (.cons (.bin .add (.bin .mul (.c (.n 2)) (.attr (.loc 0) 20)) (.c (.n 1))) .nil))) (.seq (.iff (.cmp .eq (.call 50 (.cons (.loc 0) (.cons (.loc 2) .nil))) (.c (.n 0))) (.seq (.asT [3, 4, 5, 6] (.sub (.attr (.attr (.loc 0) 15) 13) (.loc 2))) (.seq (.ex (.app (.loc 1) (.call 2 (.cons (.loc 3) (.cons (.loc 4) (.cons (.c (.n 3)) (.cons (.c (.n 0)) .nil))))))) .skip)) .skip) .skip)) .skip)
noncomputable def f52 : S := (.seq (.for1 3 (.call 9 (.cons (.loc 1) .nil)) (.seq (.ex (.app (.loc 2) (.call 2 (.cons (.loc 0) (.cons (.loc 3) (.cons (.c (.n 0)) (.cons (.c (.n 0)) .nil))))))) .skip)) .skip)
noncomputable def f53 : S := (.seq (.asL 4 (.call 32 (.cons (.loc 0) .nil))) (.seq (.for1 5 (.call 9 (.cons (.call 33 (.cons (.loc 0) (.cons (.attr (.loc 0) 20) (.cons (.loc 1) .nil)))) .nil)) (.seq (.asL 6 (.call 29 (.cons (.attr (.loc 0) 15) (.cons (.attr (.loc 0) 20) (.cons (.loc 1) (.cons (.loc 5) (.cons (.loc 4) .nil))))))) (.seq (.ex (.call 52 (.cons (.loc 5) (.cons (.bin .and (.loc 6) (.loc 2)) (.cons (.loc 3) .nil))))) .skip))) .skip))
noncomputable def f54 : S := (.seq (.iff (.cmp .eq (.loc 1) (.c (.n 0))) (.seq (.ret (.sub (.attr (.loc 0) 19) (.bin .sub (.c (.n 1)) (.attr (.loc 0) 20)))) .skip) .skip) (.seq (.iff (.cmp .eq (.loc 1) (.c (.n 1))) (.seq (.ret (.bin .and (.attr (.attr (.loc 0) 15) 5) (.inv (.call 32 (.cons (.loc 0) .nil))))) .skip) .skip) (.seq (.ret (.bin .and (.attr (.attr (.loc 0) 15) 5) (.inv (.sub (.attr (.loc 0) 19) (.attr (.loc 0) 20))))) .skip)))
noncomputable def f55 : S := (.seq (.iff (.cmp .eq (.loc 1) (.c (.n 0))) (.seq (.ret (.attr (.loc 0) 2)) .skip) .skip) (.seq (.ret (.neg (.attr (.loc 0) 2))) .skip))
noncomputable def f56 : S := (.seq (.iff (.cmp .eq (.loc 1) (.c (.n 0))) (.seq (.ret (.sub (.attr (.loc 0) 9) (.c (.n 1)))) .skip) .skip) (.seq (.ret (.sub (.attr (.loc 0) 9) (.bin .sub (.attr (.loc 0) 3) (.c (.n 2))))) .skip))
noncomputable def f57 : S := (.seq (.iff (.cmp .eq (.loc 1) (.c (.n 0))) (.seq (.ret (.sub (.attr (.loc 0) 9) (.bin .sub (.attr (.loc 0) 3) (.c (.n 1))))) .skip) .skip) (.seq (.ret (.sub (.attr (.loc 0) 9) (.c (.n 0)))) .skip))
noncomputable def f58 : S := (.seq (.iff (.cmp .eq (.loc 2) (.c (.n 0))) (.seq (.ret (.bin .and (.bin .shl (.loc 1) (.attr (.loc 0) 2)) (.attr (.loc 0) 5))) .skip) .skip) (.seq (.ret (.bin .shr (.loc 1) (.attr (.loc 0) 2))) .skip))
noncomputable def f59 : S := (.seq (.iff (.cmp .eq (.loc 3) (.c (.n 0))) (.seq (.ret (.bin .shl (.call 58 (.cons (.loc 0) (.cons (.bin .and (.loc 1) (.inv (.sub (.attr (.loc 0) 8) (.bin .sub (.attr (.loc 0) 2) (.c (.n 1)))))) (.cons (.loc 2) .nil)))) (.c (.n 1)))) .skip) .skip) (.seq (.ret (.bin .shr (.call 58 (.cons (.loc 0) (.cons (.bin .and (.loc 1) (.inv (.sub (.attr (.loc 0) 8) (.c (.n 0))))) (.cons (.loc 2) .nil)))) (.c (.n 1)))) .skip))
noncomputable def f60 : S := (.seq (.asL 2 (.attr (.loc 0) 15)) (.seq (.asL 3 (.bin .and (.attr (.loc 2) 5) (.inv (.call 32 (.cons (.loc 0) .nil))))) (.seq (.asL 4 (.call 33 (.cons (.loc 0) (.cons (.loc 1) (.cons (.c (.n 1)) .nil))))) (.seq (.asL 5 (.bin .and (.call 58 (.cons (.loc 2) (.cons (.loc 4) (.cons (.loc 1) .nil)))) (.loc 3))) (.seq (.asL 6 (.c (.n 0))) (.seq (.iff (.attr (.loc 2) 6) (.seq (.asL 7 (.bin .and (.call 58 (.cons (.loc 2) (.cons (.bin .and (.loc 4) (.call 56 (.cons (.loc 2) (.cons (.loc 1) .nil)))) (.cons (.loc 1) .nil)))) (.loc 3))) (.seq (.asL 6 (.bin .and (.call 58 (.cons (.loc 2) (.cons (.loc 7) (.cons (.loc 1) .nil)))) (.loc 3))) .skip)) .skip) (.seq (.ret (.tup (.cons (.loc 5) (.cons (.loc 6) .nil)))) .skip)))))))
noncomputable def f61 : S := (.seq (.iff (.cmp .ne (.loc 2) (.c (.n 1))) (.seq (.ex (.app (.loc 4) (.call 2 (.cons (.loc 0) (.cons (.loc 1) (.cons (.c (.n 1)) (.cons (.c (.n 5)) .nil))))))) .skip) .skip) (.seq (.iff (.cmp .eq (.loc 2) (.c (.n 0))) (.seq (.asL 5 (.loc 3)) .skip) (.seq (.iff (.cmp .eq (.loc 2) (.c (.n 1))) (.seq (.asL 5 (.nt (.loc 3))) .skip) (.seq (.asL 5 (.c (.bool true))) .skip)) .skip)) (.seq (.iff (.loc 5) (.seq (.for1 6 (.list (.cons (.c (.n 4)) (.cons (.c (.n 3)) (.cons (.c (.n 2)) .nil)))) (.seq (.ex (.app (.loc 4) (.call 2 (.cons (.loc 0) (.cons (.loc 1) (.cons (.c (.n 1)) (.cons (.loc 6) .nil))))))) .skip)) .skip) .skip) .skip)))
noncomputable def f62 : S := (.seq (.asL 3 (.attr (.loc 0) 15)) (.seq (.asL 4 (.call 55 (.cons (.loc 3) (.cons (.attr (.loc 0) 20) .nil)))) (.seq (.asT [5, 6] (.call 60 (.cons (.loc 0) (.cons (.attr (.loc 0) 20) .nil)))) (.seq (.for1 7 (.call 9 (.cons (.bin .and (.bin .and (.loc 5) (.loc 1)) (.inv (.call 57 (.cons (.loc 3) (.cons (.attr (.loc 0) 20) .nil))))) .nil)) (.seq (.ex (.app (.loc 2) (.call 2 (.cons (.bin .sub (.loc 7) (.loc 4)) (.cons (.loc 7) (.cons (.c (.n 0)) (.cons (.c (.n 0)) .nil))))))) .skip)) (.seq (.for1 7 (.call 9 (.cons (.bin .and (.loc 6) (.loc 1)) .nil)) (.seq (.ex (.app (.loc 2) (.call 2 (.cons (.bin .sub (.loc 7) (.bin .mul (.c (.n 2)) (.loc 4))) (.cons (.loc 7) (.cons (.c (.n 0)) (.cons (.c (.n 0)) .nil))))))) .skip)) .skip)))))
noncomputable def f63 : S := (.seq (.asL 4 (.attr (.loc 0) 15)) (.seq (.asL 5 (.call 55 (.cons (.loc 4) (.cons (.attr (.loc 0) 20) .nil)))) (.seq (.asL 6 (.sub (.call 60 (.cons (.loc 0) (.cons (.attr (.loc 0) 20) .nil))) (.c (.n 0)))) (.seq (.for1 7 (.call 9 (.cons (.bin .and (.bin .and (.loc 6) (.loc 2)) (.call 57 (.cons (.loc 4) (.cons (.attr (.loc 0) 20) .nil)))) .nil)) (.seq (.ex (.call 61 (.cons (.bin .sub (.loc 7) (.loc 5)) (.cons (.loc 7) (.cons (.loc 1) (.cons (.c (.bool false)) (.cons (.loc 3) .nil))))))) .skip)) .skip))))
noncomputable def f64 : S := (.seq (.asL 4 (.attr (.loc 0) 15)) (.seq (.asL 5 (.attr (.loc 0) 20)) (.seq (.asL 6 (.call 57 (.cons (.loc 4) (.cons (.loc 5) .nil)))) (.seq (.asL 7 (.call 33 (.cons (.loc 0) (.cons (.loc 5) (.cons (.c (.n 1)) .nil))))) (.seq (.asL 8 (.bin .and (.loc 2) (.sub (.attr (.loc 0) 19) (.bin .sub (.c (.n 1)) (.loc 5))))) (.seq (.for1 9 (.list (.cons (.c (.n 0)) (.cons (.c (.n 1)) .nil))) (.seq (.asL 10 (.bin .sub (.bin .add (.call 55 (.cons (.loc 4) (.cons (.loc 5) .nil))) (.c (.n 1))) (.bin .mul (.c (.n 2)) (.loc 9)))) (.seq (.for1 11 (.call 9 (.cons (.bin .and (.call 59 (.cons (.loc 4) (.cons (.loc 7) (.cons (.loc 5) (.cons (.loc 9) .nil))))) (.loc 8)) .nil)) (.seq (.iff (.bin .and (.loc 6) (.bin .shl (.c (.n 1)) (.loc 11))) (.seq (.ex (.call 61 (.cons (.bin .sub (.loc 11) (.loc 10)) (.cons (.loc 11) (.cons (.loc 1) (.cons (.c (.bool true)) (.cons (.loc 3) .nil))))))) .skip) (.seq (.ex (.app (.loc 3) (.call 2 (.cons (.bin .sub (.loc 11) (.loc 10)) (.cons (.loc 11) (.cons (.c (.n 0)) (.cons (.c (.n 0)) .nil))))))) .skip)) .skip)) .skip))) .skip))))))
noncomputable def f65 : S := (.seq (.iff (.cmp .ne (.loc 1) (.c (.n 0))) (.seq (.ex (.call 62 (.cons (.loc 0) (.cons (.loc 2) (.cons (.loc 3) .nil))))) .skip) .skip) (.seq (.ex (.call 63 (.cons (.loc 0) (.cons (.loc 1) (.cons (.loc 2) (.cons (.loc 3) .nil)))))) (.seq (.iff (.cmp .ne (.loc 1) (.c (.n 1))) (.seq (.ex (.call 64 (.cons (.loc 0) (.cons (.loc 1) (.cons (.loc 2) (.cons (.loc 3) .nil)))))) .skip) .skip) .skip)))
noncomputable def f66 : S := (.seq (.iff (.cmp .lt (.attr (.loc 0) 22) (.c (.n 0))) (.seq (.ret (.c .no)) .skip) .skip) (.seq (.asL 2 (.bin .and (.sub (.sub (.attr (.attr (.loc 0) 15) 12) (.bin .sub (.c (.n 1)) (.attr (.loc 0) 20))) (.attr (.loc 0) 22)) (.call 33 (.cons (.loc 0) (.cons (.attr (.loc 0) 20) (.cons (.c (.n 1)) .nil)))))) (.seq (.for1 3 (.call 9 (.cons (.loc 2) .nil)) (.seq (.ex (.app (.loc 1) (.call 2 (.cons (.loc 3) (.cons (.attr (.loc 0) 22) (.cons (.c (.n 2)) (.cons (.c (.n 0)) .nil))))))) .skip)) .skip)))
noncomputable def f67 : S := (.seq (.iff (.or (.cmp .eq (.loc 1) (.c (.n 0))) (.call 6 (.cons (.loc 1) .nil))) (.seq (.ret (.c (.n 0))) .skip) .skip) (.seq (.ret (.bin .or (.loc 1) (.call 11 (.cons (.attr (.loc 0) 15) (.cons (.call 34 (.cons (.loc 0) (.cons (.attr (.loc 0) 20) .nil))) (.cons (.call 8 (.cons (.loc 1) .nil)) .nil)))))) .skip))
noncomputable def f68 : S := (.seq (.iff (.cmp .eq (.attr (.loc 0) 20) (.c (.n 0))) (.seq (.ret (.bin .sub (.attr (.loc 0) 22) (.attr (.attr (.loc 0) 15) 2))) .skip) .skip) (.seq (.ret (.bin .add (.attr (.loc 0) 22) (.attr (.attr (.loc 0) 15) 2))) .skip))
noncomputable def f69 : S := (.seq (.iff (.cmp .lt (.attr (.loc 0) 22) (.c (.n 0))) (.seq (.ret (.c (.bool false))) .skip) .skip) (.seq (.ret (.cmp .ne (.bin .and (.loc 1) (.bin .or (.bin .shl (.c (.n 1)) (.attr (.loc 0) 22)) (.bin .shl (.c (.n 1)) (.call 68 (.cons (.loc 0) .nil))))) (.c (.n 0)))) .skip))
noncomputable def f70 : S := (.seq (.asL 2 (.call 67 (.cons (.loc 0) (.cons (.call 43 (.cons (.loc 0) .nil)) .nil)))) (.seq (.iff (.loc 2) (.seq (.ex (.call 65 (.cons (.loc 0) (.cons (.c (.n 3)) (.cons (.loc 2) (.cons (.loc 1) .nil)))))) (.seq (.iff (.call 69 (.cons (.loc 0) (.cons (.loc 2) .nil))) (.seq (.ex (.call 66 (.cons (.loc 0) (.cons (.loc 1) .nil)))) .skip) .skip) (.seq (.for1 3 (.list (.cons (.c (.n 2)) (.cons (.c (.n 3)) (.cons (.c (.n 4)) (.cons (.c (.n 5)) .nil))))) (.seq (.ex (.call 53 (.cons (.loc 0) (.cons (.loc 3) (.cons (.loc 2) (.cons (.loc 1) .nil)))))) .skip)) .skip))) .skip) (.seq (.ex (.call 53 (.cons (.loc 0) (.cons (.c (.n 6)) (.cons (.bin .and (.attr (.attr (.loc 0) 15) 5) (.inv (.sub (.attr (.loc 0) 19) (.attr (.loc 0) 20)))) (.cons (.loc 1) .nil)))))) .skip)))
noncomputable def f71 : S := (.seq (.asL 2 (.call 4 (.cons (.loc 1) .nil))) (.seq (.iff (.cmp .ne (.call 5 (.cons (.loc 1) .nil)) (.c (.n 2))) (.seq (.ret (.loc 2)) .skip) .skip) (.seq (.iff (.cmp .eq (.attr (.loc 0) 20) (.c (.n 0))) (.seq (.ret (.bin .sub (.loc 2) (.attr (.attr (.loc 0) 15) 2))) .skip) .skip) (.seq (.ret (.bin .add (.loc 2) (.attr (.attr (.loc 0) 15) 2))) .skip))))
noncomputable def f72 : S := (.seq (.asL 2 (.bin .shl (.c (.n 1)) (.call 71 (.cons (.loc 0) (.cons (.loc 1) .nil))))) (.seq (.asL 3 (.bin .shl (.c (.n 1)) (.call 4 (.cons (.loc 1) .nil)))) (.seq (.asL 4 (.bin .or (.sub (.attr (.loc 0) 19) (.c (.n 0))) (.sub (.attr (.loc 0) 19) (.c (.n 1))))) (.seq (.asL 5 (.bin .or (.bin .xor (.bin .xor (.loc 4) (.bin .shl (.c (.n 1)) (.call 3 (.cons (.loc 1) .nil)))) (.loc 2)) (.loc 3))) (.seq (.asL 6 (.call 40 (.cons (.loc 0) (.cons (.call 34 (.cons (.loc 0) (.cons (.attr (.loc 0) 20) .nil))) (.cons (.loc 5) .nil))))) (.seq (.ret (.cmp .eq (.bin .and (.bin .and (.loc 6) (.sub (.attr (.loc 0) 19) (.bin .sub (.c (.n 1)) (.attr (.loc 0) 20)))) (.inv (.loc 2))) (.c (.n 0)))) .skip))))))
noncomputable def f73 : S := (.seq (.asL 3 (.call 5 (.cons (.loc 1) .nil))) (.seq (.iff (.cmp .eq (.loc 3) (.c (.n 3))) (.seq (.ret (.c (.bool true))) .skip) .skip) (.seq (.iff (.cmp .eq (.loc 3) (.c (.n 2))) (.seq (.ret (.call 72 (.cons (.loc 0) (.cons (.loc 1) .nil)))) .skip) .skip) (.seq (.asL 4 (.call 3 (.cons (.loc 1) .nil))) (.seq (.asL 5 (.call 4 (.cons (.loc 1) .nil))) (.seq (.asL 6 (.call 34 (.cons (.loc 0) (.cons (.attr (.loc 0) 20) .nil)))) (.seq (.iff (.cmp .eq (.loc 4) (.loc 6)) (.seq (.asL 7 (.bin .xor (.bin .or (.sub (.attr (.loc 0) 19) (.c (.n 0))) (.sub (.attr (.loc 0) 19) (.c (.n 1)))) (.bin .shl (.c (.n 1)) (.loc 6)))) (.seq (.ret (.nt (.call 41 (.cons (.loc 0) (.cons (.loc 5) (.cons (.bin .sub (.c (.n 1)) (.attr (.loc 0) 20)) (.cons (.loc 7) .nil))))))) .skip)) .skip) (.seq (.iff (.cmp .eq (.bin .and (.bin .shr (.loc 2) (.loc 4)) (.c (.n 1))) (.c (.n 0))) (.seq (.ret (.c (.bool true))) .skip) .skip) (.seq (.ret (.call 13 (.cons (.attr (.loc 0) 15) (.cons (.loc 4) (.cons (.loc 5) (.cons (.loc 6) .nil)))))) .skip)))))))))
noncomputable def f74 : S := (.seq (.asL 2 (.list .nil)) (.seq (.iff (.cmp .eq (.loc 1) (.c (.n 3))) (.seq (.ex (.call 70 (.cons (.loc 0) (.cons (.loc 2) .nil)))) (.seq (.ret (.loc 2)) .skip)) .skip) (.seq (.asL 3 (.call 54 (.cons (.loc 0) (.cons (.loc 1) .nil)))) (.seq (.ex (.call 65 (.cons (.loc 0) (.cons (.loc 1) (.cons (.attr (.attr (.loc 0) 15) 5) (.cons (.loc 2) .nil)))))) (.seq (.iff (.cmp .ne (.loc 1) (.c (.n 1))) (.seq (.ex (.call 66 (.cons (.loc 0) (.cons (.loc 2) .nil)))) .skip) .skip) (.seq (.for1 4 (.list (.cons (.c (.n 2)) (.cons (.c (.n 3)) (.cons (.c (.n 4)) (.cons (.c (.n 5)) (.cons (.c (.n 6)) .nil)))))) (.seq (.ex (.call 53 (.cons (.loc 0) (.cons (.loc 4) (.cons (.loc 3) (.cons (.loc 2) .nil)))))) .skip)) (.seq (.iff (.cmp .ne (.loc 1) (.c (.n 0))) (.seq (.ex (.call 51 (.cons (.loc 0) (.cons (.loc 2) .nil)))) .skip) .skip) (.seq (.ret (.loc 2)) .skip))))))))
noncomputable def f75 : S := (.seq (.asL 1 (.ife (.call 45 (.cons (.loc 0) .nil)) (.list (.cons (.c (.n 3)) .nil)) (.list (.cons (.c (.n 0)) (.cons (.c (.n 1)) .nil))))) (.seq (.asL 2 (.call 48 (.cons (.loc 0) (.cons (.attr (.loc 0) 20) .nil)))) (.seq (.for1 3 (.loc 1) (.seq (.for1 4 (.call 74 (.cons (.loc 0) (.cons (.loc 3) .nil))) (.seq (.iff (.call 73 (.cons (.loc 0) (.cons (.loc 4) (.cons (.loc 2) .nil)))) (.seq (.ret (.c (.bool true))) .skip) .skip) .skip)) .skip)) (.seq (.ret (.c (.bool false))) .skip))))
noncomputable def f76 : S := (.seq (.iff (.cmp .lt (.attr (.loc 0) 23) (.len (.attr (.loc 0) 25))) (.seq (.ret (.attr (.loc 0) 23)) .skip) .skip) (.seq (.ret (.len (.attr (.loc 0) 25))) .skip))
noncomputable def f77 : S := (.seq (.iff (.cmp .eq (.loc 1) (.c (.n 0))) (.seq (.ret (.attr (.loc 0) 24)) .skip) .skip) (.seq (.ret (.sub (.sub (.attr (.loc 0) 25) (.bin .sub (.len (.attr (.loc 0) 25)) (.loc 1))) (.c (.n 5)))) .skip))
noncomputable def f78 : S := (.seq (.asL 1 (.c (.n 0))) (.seq (.for1 2 (.rng (.cons (.c (.n 4)) (.cons (.bin .add (.call 76 (.cons (.loc 0) .nil)) (.c (.n 1))) (.cons (.c (.n 2)) .nil)))) (.seq (.iff (.cmp .eq (.call 77 (.cons (.loc 0) (.cons (.loc 2) .nil))) (.attr (.loc 0) 24)) (.seq (.auL .add 1 (.c (.n 1))) .skip) .skip) .skip)) (.seq (.ret (.loc 1)) .skip)))
noncomputable def f79 : S := (.seq (.ret (.cmp .ge (.bin .add (.call 78 (.cons (.loc 0) .nil)) (.c (.n 1))) (.loc 1))) .skip)
noncomputable def f80 : S := (.seq (.asL 1 (.c (.n 0))) (.seq (.for1 2 (.rng (.cons (.c (.n 4)) (.cons (.bin .add (.call 76 (.cons (.loc 0) .nil)) (.c (.n 1))) (.cons (.c (.n 2)) .nil)))) (.seq (.iff (.cmp .eq (.call 77 (.cons (.loc 0) (.cons (.loc 2) .nil))) (.attr (.loc 0) 24)) (.seq (.iff (.cmp .gt (.loc 1) (.c (.n 0))) (.seq (.ret (.neg (.loc 1))) .skip) .skip) (.seq (.asL 1 (.loc 2)) .skip)) .skip) .skip)) (.seq (.ret (.loc 1)) .skip)))
noncomputable def f81 : S := (.seq (.ret (.and (.call 45 (.cons (.loc 0) .nil)) (.nt (.call 75 (.cons (.loc 0) .nil))))) .skip)
noncomputable def f82 : S := (.seq (.ret (.and (.nt (.call 45 (.cons (.loc 0) .nil))) (.nt (.call 75 (.cons (.loc 0) .nil))))) .skip)
noncomputable def f83 : S := (.seq (.ret (.and (.cmp .ge (.attr (.loc 0) 23) (.c (.n 100))) (.nt (.call 81 (.cons (.loc 0) .nil))))) .skip)
noncomputable def f84 : S := (.seq (.ret (.bin .and (.bin .add (.bin .mod (.loc 1) (.attr (.loc 0) 2)) (.bin .fdiv (.loc 1) (.attr (.loc 0) 2))) (.c (.n 1)))) .skip)
noncomputable def f85 : S := (.seq (.asL 1 (.c (.n 0))) (.seq (.for1 2 (.call 9 (.cons (.sub (.attr (.loc 0) 18) (.c (.n 3))) .nil)) (.seq (.auL .or 1 (.bin .shl (.c (.n 1)) (.call 84 (.cons (.attr (.loc 0) 15) (.cons (.loc 2) .nil))))) .skip)) (.seq (.ret (.cmp .ne (.loc 1) (.c (.n 3)))) .skip)))
noncomputable def f86 : S := (.seq (.asL 1 (.attr (.loc 0) 18)) (.seq (.iff (.cmp .ne (.bin .or (.bin .or (.sub (.loc 1) (.c (.n 1))) (.sub (.loc 1) (.c (.n 4)))) (.sub (.loc 1) (.c (.n 5)))) (.c (.n 0))) (.seq (.ret (.c (.bool false))) .skip) .skip) (.seq (.iff (.cmp .eq (.sub (.loc 1) (.c (.n 2))) (.c (.n 0))) (.seq (.ret (.call 85 (.cons (.loc 0) .nil))) .skip) .skip) (.seq (.ret (.and (.cmp .eq (.sub (.loc 1) (.c (.n 3))) (.c (.n 0))) (.nt (.call 6 (.cons (.sub (.loc 1) (.c (.n 2))) .nil))))) .skip))))
noncomputable def f87 : S := (.seq (.ret (.or (.call 86 (.cons (.loc 0) .nil)) (.or (.call 79 (.cons (.loc 0) (.cons (.c (.n 3)) .nil))) (.call 83 (.cons (.loc 0) .nil))))) .skip)
noncomputable def f88 : S := (.seq (.iff (.call 83 (.cons (.loc 0) .nil)) (.seq (.ret (.c (.bool true))) .skip) .skip) (.seq (.asL 2 (.call 80 (.cons (.loc 0) .nil))) (.seq (.ret (.and (.cmp .ne (.loc 2) (.c (.n 0))) (.cmp .lt (.loc 2) (.loc 1)))) .skip)))
noncomputable def f89 : S := (.seq (.iff (.nt (.call 75 (.cons (.loc 0) .nil))) (.seq (.iff (.call 45 (.cons (.loc 0) .nil)) (.seq (.ret (.c (.n 1))) .skip) .skip) (.seq (.ret (.c (.n 2))) .skip)) .skip) (.seq (.iff (.cmp .ge (.attr (.loc 0) 23) (.c (.n 100))) (.seq (.ret (.c (.n 3))) .skip) .skip) (.seq (.iff (.call 79 (.cons (.loc 0) (.cons (.c (.n 3)) .nil))) (.seq (.ret (.c (.n 4))) .skip) .skip) (.seq (.iff (.call 86 (.cons (.loc 0) .nil)) (.seq (.ret (.c (.n 5))) .skip) .skip) (.seq (.ret (.c (.n 0))) .skip)))))
noncomputable def f90 : S := (.seq (.asL 1 (.call 89 (.cons (.loc 0) .nil))) (.seq (.iff (.cmp .eq (.loc 1) (.c (.n 0))) (.seq (.ret (.c (.str (Str.ofString "*")))) .skip) .skip) (.seq (.iff (.cmp .ne (.loc 1) (.c (.n 1))) (.seq (.ret (.c (.str (Str.ofString "1/2-1/2")))) .skip) .skip) (.seq (.iff (.cmp .eq (.attr (.loc 0) 20) (.c (.n 0))) (.seq (.ret (.c (.str (Str.ofString "0-1")))) .skip) .skip) (.seq (.ret (.c (.str (Str.ofString "1-0")))) .skip)))))
noncomputable def f91 : S := (.seq (.asA (.loc 0) 26 (.loc 1)) (.seq (.asA (.loc 0) 22 (.loc 2)) (.seq (.asA (.loc 0) 21 (.loc 3)) (.seq (.asA (.loc 0) 20 (.loc 4)) .skip))))
noncomputable def f92 : S := (.seq (.ret (.list (.cons (.c (.n 0)) (.cons (.c (.n 1)) (.cons (.c (.n 2)) (.cons (.c (.n 3)) (.cons (.c (.n 4)) (.cons (.c (.n 5)) (.cons (.c (.n 6)) (.cons (.c (.n 7)) (.cons (.c (.n 8)) (.cons (.c (.n 99)) (.cons (.c (.n 100)) (.cons (.c (.n 101)) (.cons (.c (.n 150)) .nil))))))))))))))) .skip)
noncomputable def f93 : S := (.seq (.iff (.cmp .lt (.loc 1) (.len (.loc 0))) (.seq (.ret (.bin .mod (.sub (.loc 0) (.loc 1)) (.loc 2))) .skip) .skip) (.seq (.ret (.bin .mod (.bin .fdiv (.bin .add (.bin .add (.bin .mul (.loc 1) (.loc 1)) (.bin .mul (.c (.n 5)) (.loc 1))) (.c (.n 4))) (.c (.n 2))) (.loc 2))) .skip))
noncomputable def f94 : S := (.seq (.asL 3 (.ife (.loc 2) (.bin .sub (.c (.n 3)) (.bin .mod (.loc 0) (.c (.n 4)))) (.bin .mod (.loc 0) (.c (.n 4))))) (.seq (.asL 4 (.ife (.loc 1) (.bin .sub (.c (.n 3)) (.bin .fdiv (.loc 0) (.c (.n 4)))) (.bin .fdiv (.loc 0) (.c (.n 4))))) (.seq (.ret (.bin .add (.bin .mul (.c (.n 4)) (.loc 4)) (.loc 3))) .skip)))
noncomputable def f95 : S := (.seq (.rows 7) (.seq (.asL 8 (.new 1 (.cons (.call 23 (.cons (.c (.n 4)) (.cons (.c (.n 4)) (.cons (.c (.bool false)) (.cons (.c (.bool false)) .nil))))) (.cons (.new 2 (.cons (.loc 7) (.cons (.bin .mul (.list (.cons (.c (.n 2)) .nil)) (.c (.n 4))) (.cons (.ltl (.rng (.cons (.c (.n 16)) .nil))) (.cons (.c (.n 5)) .nil))))) .nil)))) (.seq (.forT [9, 6] (.loc 0) (.seq (.ex (.call 31 (.cons (.loc 8) (.cons (.ife (.loc 2) (.bin .add (.loc 9) (.c (.n 8))) (.loc 9)) (.cons (.call 94 (.cons (.loc 6) (.cons (.loc 2) (.cons (.loc 3) .nil)))) .nil))))) .skip)) (.seq (.ex (.call 31 (.cons (.loc 8) (.cons (.ife (.loc 2) (.c (.n 6)) (.c (.n 14))) (.cons (.call 94 (.cons (.loc 1) (.cons (.loc 2) (.cons (.loc 3) .nil)))) .nil))))) (.seq (.asA (.loc 8) 20 (.ife (.loc 2) (.c (.n 0)) (.c (.n 1)))) (.seq (.asA (.loc 8) 23 (.loc 4)) (.seq (.asA (.loc 8) 24 (.c (.n 70))) (.seq (.asL 10 (.list (.cons (.c (.n 90)) (.cons (.ife (.cmp .gt (.loc 5) (.c (.n 1))) (.c (.n 70)) (.c (.n 91))) (.cons (.c (.n 92)) (.cons (.c (.n 93)) (.cons (.c (.n 94)) (.cons (.ife (.cmp .gt (.loc 5) (.c (.n 0))) (.c (.n 70)) (.c (.n 95))) (.cons (.c (.n 96)) (.cons (.c (.n 97)) (.cons (.c (.n 98)) .nil))))))))))) (.seq (.hist 10 (.loc 8) 25) (.seq (.ret (.loc 8)) .skip))))))))))
noncomputable def f96 : S := (.seq (.iff (.cmp .eq (.loc 0) (.c (.str (Str.ofString "mate")))) (.seq (.ret (.tup (.cons (.c (.n 1)) (.cons (.ife (.loc 3) (.c (.str (Str.ofString "0-1"))) (.c (.str (Str.ofString "1-0")))) .nil)))) .skip) .skip) (.seq (.iff (.cmp .eq (.loc 0) (.c (.str (Str.ofString "stale")))) (.seq (.ret (.tup (.cons (.c (.n 2)) (.cons (.c (.str (Str.ofString "1/2-1/2"))) .nil)))) .skip) .skip) (.seq (.iff (.cmp .ge (.loc 1) (.c (.n 100))) (.seq (.ret (.tup (.cons (.c (.n 3)) (.cons (.c (.str (Str.ofString "1/2-1/2"))) .nil)))) .skip) .skip) (.seq (.iff (.cmp .gt (.loc 2) (.c (.n 1))) (.seq (.ret (.tup (.cons (.c (.n 4)) (.cons (.c (.str (Str.ofString "1/2-1/2"))) .nil)))) .skip) .skip) (.seq (.ret (.ife (.cmp .eq (.loc 0) (.c (.str (Str.ofString "poor")))) (.tup (.cons (.c (.n 5)) (.cons (.c (.str (Str.ofString "1/2-1/2"))) .nil))) (.tup (.cons (.c (.n 0)) (.cons (.c (.str (Str.ofString "*"))) .nil))))) .skip)))))
noncomputable def f97 : S := (.seq (.asT [1, 2, 3] (.sub (.c (.lst [(.tup [(.str (Str.ofString "mate")), (.lst [(.tup [(.n 6), (.n 4)]), (.tup [(.n 4), (.n 15)])]), (.n 12)]), (.tup [(.str (Str.ofString "mate")), (.lst [(.tup [(.n 6), (.n 2)]), (.tup [(.n 4), (.n 15)]), (.tup [(.n 4), (.n 11)])]), (.n 12)]), (.tup [(.str (Str.ofString "stale")), (.lst [(.tup [(.n 6), (.n 10)]), (.tup [(.n 4), (.n 9)])]), (.n 12)]), (.tup [(.str (Str.ofString "stale")), (.lst [(.tup [(.n 6), (.n 3)]), (.tup [(.n 5), (.n 10)])]), (.n 12)]), (.tup [(.str (Str.ofString "check")), (.lst [(.tup [(.n 6), (.n 0)]), (.tup [(.n 4), (.n 15)])]), (.n 12)]), (.tup [(.str (Str.ofString "free")), (.lst [(.tup [(.n 6), (.n 0)]), (.tup [(.n 4), (.n 2)])]), (.n 15)]), (.tup [(.str (Str.ofString "poor")), (.lst [(.tup [(.n 6), (.n 0)])]), (.n 15)])])) (.call 93 (.cons (.loc 0) (.cons (.c (.n 0)) (.cons (.c (.n 7)) .nil)))))) (.seq (.asT [4, 5] (.tup (.cons (.cmp .eq (.call 93 (.cons (.loc 0) (.cons (.c (.n 1)) (.cons (.c (.n 2)) .nil)))) (.c (.n 1))) (.cons (.cmp .eq (.call 93 (.cons (.loc 0) (.cons (.c (.n 2)) (.cons (.c (.n 2)) .nil)))) (.c (.n 1))) .nil)))) (.seq (.asT [6, 7] (.tup (.cons (.sub (.call 92 .nil) (.call 93 (.cons (.loc 0) (.cons (.c (.n 3)) (.cons (.c (.n 13)) .nil))))) (.cons (.call 93 (.cons (.loc 0) (.cons (.c (.n 4)) (.cons (.c (.n 3)) .nil)))) .nil)))) (.seq (.asL 8 (.call 95 (.cons (.loc 2) (.cons (.loc 3) (.cons (.loc 4) (.cons (.loc 5) (.cons (.loc 6) (.cons (.loc 7) .nil)))))))) (.seq (.asL 9 (.bin .add (.toi (.and (.cmp .gt (.loc 7) (.c (.n 0))) (.cmp .ge (.loc 6) (.c (.n 4))))) (.toi (.and (.cmp .gt (.loc 7) (.c (.n 1))) (.cmp .ge (.loc 6) (.c (.n 8))))))) (.seq (.iff (.cmp .ne (.tup (.cons (.call 81 (.cons (.loc 8) .nil)) (.cons (.call 82 (.cons (.loc 8) .nil)) .nil))) (.tup (.cons (.cmp .eq (.loc 1) (.c (.str (Str.ofString "mate")))) (.cons (.cmp .eq (.loc 1) (.c (.str (Str.ofString "stale")))) .nil)))) (.seq (.ret (.c (.bool false))) .skip) .skip) (.seq (.asL 10 (.and (.cmp .ge (.loc 6) (.c (.n 100))) (.cmp .ne (.loc 1) (.c (.str (Str.ofString "mate")))))) (.seq (.iff (.or (.cmp .ne (.call 83 (.cons (.loc 8) .nil)) (.loc 10)) (.cmp .ne (.call 87 (.cons (.loc 8) .nil)) (.or (.loc 10) (.or (.cmp .gt (.loc 9) (.c (.n 1))) (.cmp .eq (.loc 1) (.c (.str (Str.ofString "poor")))))))) (.seq (.ret (.c (.bool false))) .skip) .skip) (.seq (.for1 11 (.tup (.cons (.c (.n 0)) (.cons (.c (.n 4)) (.cons (.c (.n 5)) .nil)))) (.seq (.iff (.cmp .ne (.call 88 (.cons (.loc 8) (.cons (.loc 11) .nil))) (.or (.loc 10) (.or (.cmp .gt (.loc 9) (.c (.n 1))) (.and (.cmp .eq (.loc 9) (.c (.n 1))) (.cmp .gt (.loc 11) (.c (.n 4))))))) (.seq (.ret (.c (.bool false))) .skip) .skip) .skip)) (.seq (.ret (.cmp .eq (.tup (.cons (.call 89 (.cons (.loc 8) .nil)) (.cons (.call 90 (.cons (.loc 8) .nil)) .nil))) (.call 96 (.cons (.loc 1) (.cons (.loc 6) (.cons (.loc 9) (.cons (.loc 4) .nil))))))) .skip))))))))))
noncomputable def FSl : List Fn := [⟨1, 1, f0⟩, ⟨1, 1, f1⟩, ⟨4, 5, f2⟩, ⟨1, 1, f3⟩, ⟨1, 1, f4⟩, ⟨1, 1, f5⟩, ⟨1, 1, f6⟩, ⟨1, 3, f7⟩, ⟨1, 1, f8⟩, ⟨1, 3, f9⟩, ⟨3, 4, f10⟩, ⟨3, 4, f11⟩, ⟨3, 4, f12⟩, ⟨4, 4, f13⟩, ⟨2, 2, f14⟩, ⟨5, 5, f15⟩, ⟨1, 1, f16⟩, ⟨1, 5, f17⟩, ⟨2, 3, f18⟩, ⟨1, 8, f19⟩, ⟨1, 2, f20⟩, ⟨1, 11, f21⟩, ⟨1, 7, f22⟩, ⟨4, 5, f23⟩, ⟨4, 7, f24⟩, ⟨3, 5, f25⟩, ⟨3, 5, f26⟩, ⟨3, 3, f27⟩, ⟨4, 4, f28⟩, ⟨5, 5, f29⟩, ⟨3, 3, f30⟩, ⟨3, 4, f31⟩, ⟨1, 1, f32⟩, ⟨3, 3, f33⟩, ⟨2, 2, f34⟩, ⟨1, 1, f35⟩, ⟨1, 1, f36⟩, ⟨3, 3, f37⟩, ⟨3, 5, f38⟩, ⟨3, 6, f39⟩, ⟨3, 4, f40⟩, ⟨4, 8, f41⟩, ⟨2, 3, f42⟩, ⟨1, 1, f43⟩, ⟨2, 3, f44⟩, ⟨1, 1, f45⟩, ⟨2, 4, f46⟩, ⟨2, 9, f47⟩, ⟨2, 2, f48⟩, ⟨2, 2, f49⟩, ⟨2, 9, f50⟩, ⟨2, 7, f51⟩, ⟨3, 4, f52⟩, ⟨4, 7, f53⟩, ⟨2, 2, f54⟩, ⟨2, 2, f55⟩, ⟨2, 2, f56⟩, ⟨2, 2, f57⟩, ⟨3, 3, f58⟩, ⟨4, 4, f59⟩, ⟨2, 8, f60⟩, ⟨5, 7, f61⟩, ⟨3, 8, f62⟩, ⟨4, 8, f63⟩, ⟨4, 12, f64⟩, ⟨4, 4, f65⟩, ⟨2, 4, f66⟩, ⟨2, 2, f67⟩, ⟨1, 1, f68⟩, ⟨2, 2, f69⟩, ⟨2, 4, f70⟩, ⟨2, 3, f71⟩, ⟨2, 7, f72⟩, ⟨3, 8, f73⟩, ⟨2, 5, f74⟩, ⟨1, 5, f75⟩, ⟨1, 1, f76⟩, ⟨2, 2, f77⟩, ⟨1, 3, f78⟩, ⟨2, 2, f79⟩, ⟨1, 3, f80⟩, ⟨1, 1, f81⟩, ⟨1, 1, f82⟩, ⟨1, 1, f83⟩, ⟨2, 2, f84⟩, ⟨1, 3, f85⟩, ⟨1, 2, f86⟩, ⟨1, 1, f87⟩, ⟨2, 3, f88⟩, ⟨1, 1, f89⟩, ⟨1, 2, f90⟩, ⟨5, 5, f91⟩, ⟨0, 0, f92⟩, ⟨3, 3, f93⟩, ⟨3, 5, f94⟩, ⟨6, 11, f95⟩, ⟨4, 4, f96⟩, ⟨1, 12, f97⟩]
noncomputable def ANl : List Str := [(Str.ofString "rays"), (Str.ofString "text"), (Str.ofString "files"), (Str.ofString "ranks"), (Str.ofString "size"), (Str.ofString "full"), (Str.ofString "has_double"), (Str.ofString "has_castling"), (Str.ofString "file_masks"), (Str.ofString "rank_masks"), (Str.ofString "king"), (Str.ofString "knight"), (Str.ofString "pawn"), (Str.ofString "castles"), (Str.ofString "rights_lost"), (Str.ofString "geo"), (Str.ofString "zob"), (Str.ofString "board"), (Str.ofString "kinds"), (Str.ofString "sides"), (Str.ofString "side"), (Str.ofString "rights"), (Str.ofString "ep"), (Str.ofString "half"), (Str.ofString "key"), (Str.ofString "history"), (Str.ofString "pieces")]
noncomputable def FNl : List (Str × Nat) := [((Str.ofString "side_of"), 0), ((Str.ofString "kind_of"), 1), ((Str.ofString "pack_move"), 2), ((Str.ofString "move_from"), 3), ((Str.ofString "move_to"), 4), ((Str.ofString "move_special"), 5), ((Str.ofString "more_than_one"), 6), ((Str.ofString "highest"), 7), ((Str.ofString "lowest"), 8), ((Str.ofString "squares_of"), 9), ((Str.ofString "direction"), 10), ((Str.ofString "between"), 11), ((Str.ofString "line"), 12), ((Str.ofString "aligned"), 13), ((Str.ofString "is_growing"), 16), ((Str.ofString "add_masks"), 17), ((Str.ofString "inner_squares"), 18), ((Str.ofString "add_rays"), 19), ((Str.ofString "add_pawns"), 20), ((Str.ofString "add_knights"), 21), ((Str.ofString "add_castles"), 22), ((Str.ofString "make_geometry"), 23), ((Str.ofString "ray_attacks"), 24), ((Str.ofString "rook_attacks"), 25), ((Str.ofString "bishop_attacks"), 26), ((Str.ofString "queen_attacks"), 27), ((Str.ofString "slider_attacks"), 28), ((Str.ofString "piece_attacks"), 29), ((Str.ofString "put_piece"), 31), ((Str.ofString "occupied"), 32), ((Str.ofString "pieces"), 33), ((Str.ofString "king_square"), 34), ((Str.ofString "straight_sliders"), 35), ((Str.ofString "slanting_sliders"), 36), ((Str.ofString "pawn_attackers"), 37), ((Str.ofString "step_attackers"), 38), ((Str.ofString "line_attackers"), 39), ((Str.ofString "attackers_to"), 40), ((Str.ofString "is_attacked"), 41), ((Str.ofString "checkers_of"), 42), ((Str.ofString "checkers"), 43), ((Str.ofString "in_check_of"), 44), ((Str.ofString "in_check"), 45), ((Str.ofString "snipers_of"), 46), ((Str.ofString "blockers"), 47), ((Str.ofString "pinned_pieces"), 48), ((Str.ofString "squares_within"), 49), ((Str.ofString "castle_refusal"), 50), ((Str.ofString "add_castling"), 51), ((Str.ofString "add_goals"), 52), ((Str.ofString "add_piece_moves"), 53), ((Str.ofString "stage_target"), 54), ((Str.ofString "push_step"), 55), ((Str.ofString "start_mask"), 56), ((Str.ofString "last_mask"), 57), ((Str.ofString "shift_push"), 58), ((Str.ofString "shift_capture"), 59), ((Str.ofString "push_targets"), 60), ((Str.ofString "add_promotions"), 61), ((Str.ofString "add_plain_pushes"), 62), ((Str.ofString "add_push_promotions"), 63), ((Str.ofString "add_pawn_captures"), 64), ((Str.ofString "add_pawn_moves"), 65), ((Str.ofString "add_en_passant"), 66), ((Str.ofString "evasion_targets"), 67), ((Str.ofString "passed_pawn_square"), 68), ((Str.ofString "may_answer_en_passant"), 69), ((Str.ofString "add_evasions"), 70), ((Str.ofString "taken_square"), 71), ((Str.ofString "is_safe_en_passant"), 72), ((Str.ofString "is_legal"), 73), ((Str.ofString "generate"), 74), ((Str.ofString "has_legal_move"), 75), ((Str.ofString "reversible_plies"), 76), ((Str.ofString "key_before"), 77), ((Str.ofString "repetitions"), 78), ((Str.ofString "is_repetition"), 79), ((Str.ofString "repetition_distance"), 80), ((Str.ofString "is_checkmate"), 81), ((Str.ofString "is_stalemate"), 82), ((Str.ofString "is_fifty"), 83), ((Str.ofString "square_colour"), 84), ((Str.ofString "bishops_on_one_colour"), 85), ((Str.ofString "is_insufficient"), 86), ((Str.ofString "is_draw_by_rule"), 87), ((Str.ofString "is_draw_in_search"), 88), ((Str.ofString "outcome"), 89), ((Str.ofString "result_text"), 90), ((Str.ofString "_law_plies"), 92), ((Str.ofString "_law_said"), 93), ((Str.ofString "_law_square"), 94), ((Str.ofString "_law_position"), 95), ((Str.ofString "_law_ended"), 96), ((Str.ofString "law"), 97)]
noncomputable def CLl : List (Str × Nat) := [((Str.ofString "Geometry"), 0), ((Str.ofString "Position"), 1), ((Str.ofString "Zobrist"), 2)]
noncomputable def GLl : List (Str × V) := [((Str.ofString "WHITE"), (.n 0)), ((Str.ofString "BLACK"), (.n 1)), ((Str.ofString "NO_KIND"), (.n 0)), ((Str.ofString "PAWN"), (.n 1)), ((Str.ofString "KNIGHT"), (.n 2)), ((Str.ofString "BISHOP"), (.n 3)), ((Str.ofString "ROOK"), (.n 4)), ((Str.ofString "QUEEN"), (.n 5)), ((Str.ofString "KING"), (.n 6)), ((Str.ofString "EMPTY"), (.n 0)), ((Str.ofString "NORMAL"), (.n 0)), ((Str.ofString "PROMOTION"), (.n 1)), ((Str.ofString "EN_PASSANT"), (.n 2)), ((Str.ofString "CASTLING"), (.n 3)), ((Str.ofString "STEP_FILES"), (.tup [(.n 0), (.n 1), (.n 0), (.m 0), (.n 1), (.n 1), (.m 0), (.m 0)])), ((Str.ofString "STEP_RANKS"), (.tup [(.n 1), (.n 0), (.m 0), (.n 0), (.n 1), (.m 0), (.m 0), (.n 1)])), ((Str.ofString "MAY"), (.n 0)), ((Str.ofString "NO_WING"), (.n 1)), ((Str.ofString "RIGHT_LOST"), (.n 2)), ((Str.ofString "NOT_FREE"), (.n 3)), ((Str.ofString "IN_CHECK"), (.n 4)), ((Str.ofString "PASSES_ATTACK"), (.n 5)), ((Str.ofString "GOAL_ATTACKED"), (.n 6)), ((Str.ofString "CAPTURES"), (.n 0)), ((Str.ofString "QUIETS"), (.n 1)), ((Str.ofString "EVASIONS"), (.n 3)), ((Str.ofString "ONGOING"), (.n 0)), ((Str.ofString "CHECKMATE"), (.n 1)), ((Str.ofString "STALEMATE"), (.n 2)), ((Str.ofString "FIFTY"), (.n 3)), ((Str.ofString "REPETITION"), (.n 4)), ((Str.ofString "MATERIAL"), (.n 5)), ((Str.ofString "FIFTY_PLIES"), (.n 100)), ((Str.ofString "_law_boards"), (.lst [(.tup [(.str (Str.ofString "mate")), (.lst [(.tup [(.n 6), (.n 4)]), (.tup [(.n 4), (.n 15)])]), (.n 12)]), (.tup [(.str (Str.ofString "mate")), (.lst [(.tup [(.n 6), (.n 2)]), (.tup [(.n 4), (.n 15)]), (.tup [(.n 4), (.n 11)])]), (.n 12)]), (.tup [(.str (Str.ofString "stale")), (.lst [(.tup [(.n 6), (.n 10)]), (.tup [(.n 4), (.n 9)])]), (.n 12)]), (.tup [(.str (Str.ofString "stale")), (.lst [(.tup [(.n 6), (.n 3)]), (.tup [(.n 5), (.n 10)])]), (.n 12)]), (.tup [(.str (Str.ofString "check")), (.lst [(.tup [(.n 6), (.n 0)]), (.tup [(.n 4), (.n 15)])]), (.n 12)]), (.tup [(.str (Str.ofString "free")), (.lst [(.tup [(.n 6), (.n 0)]), (.tup [(.n 4), (.n 2)])]), (.n 15)]), (.tup [(.str (Str.ofString "poor")), (.lst [(.tup [(.n 6), (.n 0)])]), (.n 15)])]))]
end Mine
end
section
open PySem PySem.W
set_option Elab.async false
set_option maxRecDepth 100000
set_option autoImplicit false
namespace Mine
/-! the heap behind the top, made by rule: each def leaves seven objects -/
noncomputable abbrev pw : Program := PySem.Challenge.pw_pq0241_01
noncomputable def mst (i : Nat) : Stmt := (pw.main.body[i]?).getD (.Pass default)
noncomputable def mcl (i k : Nat) : Stmt := match mst i with
  | .ClassDef _ _ _ b _ _ _ _ _ _ _ => (b[k]?).getD (.Pass default)
  | s => s
noncomputable def flS : Str := "/claim/cut.py"
noncomputable def tupO (vs : List Value) : Obj := { cls := .type "tuple", data := .seq ⟨vs⟩ }
noncomputable def fldO (vs : List Value) : Obj := { cls := .none, data := .fields ⟨vs⟩ }
noncomputable def txs : List Str → Nat → List Value
  | [], _ => []
  | x :: r, t => .str x t :: txs r (t + 1)
noncomputable def de (P : Params) (x : Str) (t : Nat) (v : Value) : DictEntry := { hash := PyData.keyHash P x, key := .str x t, val := v }
noncomputable def dctO (es : List DictEntry) (n : Nat) : Obj := { cls := .type "dict", data := .dict ⟨es⟩ n }
/-- a def's seven objects: its code's tuples, the def as written, the code, the function -/
noncomputable def fnO (s : Stmt) (ql : Option Str) (md : Value) (vs : List Str) (c1 c2 c3 : List Value) (fl a t : Nat) : List Obj := match s with
  | .FunctionDef n ps b _ _ _ sc _ _ p =>
    let q := ql.getD n
    let fd : FuncData := { name := n, qualname := q, params := ps, body := .stmts b, scope := sc, globals := 0, closure := [], defaults := .none, kwdefaults := .none }
    let t1 := t + 3 + vs.length
    [tupO c1, fldO c2, tupO (txs vs (t + 3)), tupO c3, { cls := .none, data := .func fd },
     { cls := .type "code", data := .fields ⟨[.str n t, .str q (t + 1), .str flS (t + 2), .int p.line 0, .int ps.args.length 0, .int 0 0, .int 0 0, .int fl 0, .ref a, .bool true, .int 181 0, .ref (a + 1), .none, .ref (a + 2), .ref (a + 3), .ref (a + 4), .int t1 0, .int p.line 0, .str flS (t1 + 1)]⟩ },
     { cls := .type "function", data := .func { fd with globals := 3, pyModule := md, code := .ref (a + 5) } }]
  | _ => []
noncomputable def locN (s : Stmt) : List Str := match s with
  | .FunctionDef _ _ _ _ _ _ sc _ _ _ => sc.names.filterMap fun q => match q.2 with
    | .local => some q.1
    | .cell => some q.1
    | _ => none
  | _ => []
/-- a plain def: its names are its own locals -/
noncomputable def dfO (s : Stmt) (ql : Option Str) (md : Value) (a t : Nat) : List Obj := fnO s ql md (locN s) [] [] [] 3 a t
end Mine
end
section
open PySem PySem.W
set_option Elab.async false
set_option maxRecDepth 100000
set_option autoImplicit false
namespace Mine
/-- a def whose code's names are not laid out: five objects -/
noncomputable def f5O (s : Stmt) (md : Value) (a t : Nat) : List Obj := match s with
  | .FunctionDef n ps b _ _ _ sc _ _ p =>
    let fd : FuncData := { name := n, qualname := n, params := ps, body := .stmts b, scope := sc, globals := 0, closure := [], defaults := .none, kwdefaults := .none }
    [tupO [], fldO [], { cls := .none, data := .func fd },
     { cls := .type "code", data := .fields ⟨[.str n t, .str n (t + 1), .str flS (t + 2), .int p.line 0, .int ps.args.length 0, .int 0 0, .int 0 0, .int 3 0, .ref a, .bool true, .int 181 0, .ref (a + 1), .none, .none, .none, .ref (a + 2), .int (t + 3) 0, .int p.line 0, .str flS (t + 4)]⟩ },
     { cls := .type "function", data := .func { fd with globals := 3, pyModule := md, code := .ref (a + 3) } }]
  | _ => []
noncomputable def en (x : Str) (t : Nat) (v : Value) : Str × Nat × Value := (x, t, v)
noncomputable def enT : List (Str × Nat × Value) := [
  en "__doc__" 166 (.none),
  en "__package__" 167 (.none),
  en "__loader__" 168 (.builtin "__main__.__loader__#opaque"),
  en "__spec__" 169 (.none),
  en "__annotations__" 170 (.ref 6),
  en "__builtins__" 171 (.ref 4),
  en "__file__" 173 (.str "/claim/cut.py" 172),
  en "__cached__" 174 (.none),
  en "WHITE" 190 (.int 0 189),
  en "BLACK" 192 (.int 1 191),
  en "NO_KIND" 194 (.int 0 193),
  en "PAWN" 196 (.int 1 195),
  en "KNIGHT" 198 (.int 2 197),
  en "BISHOP" 200 (.int 3 199),
  en "ROOK" 202 (.int 4 201),
  en "QUEEN" 204 (.int 5 203),
  en "KING" 206 (.int 6 205),
  en "EMPTY" 208 (.int 0 207),
  en "NORMAL" 210 (.int 0 209),
  en "PROMOTION" 212 (.int 1 211),
  en "EN_PASSANT" 214 (.int 2 213),
  en "CASTLING" 216 (.int 3 215),
  en "side_of" 223 (.ref 21),
  en "kind_of" 230 (.ref 28),
  en "pack_move" 241 (.ref 35),
  en "move_from" 248 (.ref 42),
  en "move_to" 255 (.ref 49),
  en "move_special" 262 (.ref 56),
  en "more_than_one" 271 (.ref 63),
  en "highest" 280 (.ref 70),
  en "lowest" 287 (.ref 77),
  en "squares_of" 296 (.ref 84),
  en "direction" 308 (.ref 91),
  en "between" 318 (.ref 98),
  en "line" 328 (.ref 105),
  en "aligned" 338 (.ref 112),
  en "ChessError" 369 (.ref 129),
  en "STEP_FILES" 383 (.ref 133),
  en "STEP_RANKS" 395 (.ref 134),
  en "Geometry" 440 (.ref 151),
  en "is_growing" 447 (.ref 162),
  en "add_masks" 458 (.ref 169),
  en "inner_squares" 467 (.ref 176),
  en "add_rays" 481 (.ref 183),
  en "add_pawns" 489 (.ref 190),
  en "add_knights" 506 (.ref 197),
  en "add_castles" 519 (.ref 204),
  en "make_geometry" 530 (.ref 211),
  en "ray_attacks" 545 (.ref 218),
  en "rook_attacks" 556 (.ref 225),
  en "bishop_attacks" 567 (.ref 232),
  en "queen_attacks" 576 (.ref 239),
  en "slider_attacks" 586 (.ref 246),
  en "piece_attacks" 597 (.ref 253),
  en "Position" 640 (.ref 270),
  en "put_piece" 650 (.ref 281),
  en "occupied" 657 (.ref 288),
  en "pieces" 666 (.ref 295),
  en "king_square" 674 (.ref 302),
  en "straight_sliders" 683 (.ref 309),
  en "slanting_sliders" 690 (.ref 316),
  en "pawn_attackers" 699 (.ref 323),
  en "step_attackers" 710 (.ref 330),
  en "line_attackers" 722 (.ref 337),
  en "attackers_to" 732 (.ref 344),
  en "is_attacked" 746 (.ref 351),
  en "checkers_of" 755 (.ref 358),
  en "checkers" 762 (.ref 365),
  en "in_check_of" 771 (.ref 372),
  en "in_check" 778 (.ref 379),
  en "snipers_of" 788 (.ref 386),
  en "blockers" 803 (.ref 393),
  en "pinned_pieces" 811 (.ref 400),
  en "MAY" 815 (.int 0 814),
  en "NO_WING" 817 (.int 1 816),
  en "RIGHT_LOST" 819 (.int 2 818),
  en "NOT_FREE" 821 (.int 3 820),
  en "IN_CHECK" 823 (.int 4 822),
  en "PASSES_ATTACK" 825 (.int 5 824),
  en "GOAL_ATTACKED" 827 (.int 6 826),
  en "squares_within" 835 (.ref 407),
  en "castle_refusal" 850 (.ref 414),
  en "add_castling" 863 (.ref 421),
  en "CAPTURES" 867 (.int 0 866),
  en "QUIETS" 869 (.int 1 868),
  en "EVASIONS" 871 (.int 3 870),
  en "add_goals" 881 (.ref 428),
  en "add_piece_moves" 894 (.ref 435),
  en "stage_target" 902 (.ref 442),
  en "push_step" 912 (.ref 449),
  en "start_mask" 920 (.ref 456),
  en "last_mask" 928 (.ref 463),
  en "shift_push" 937 (.ref 470),
  en "shift_capture" 947 (.ref 477),
  en "push_targets" 961 (.ref 484),
  en "add_promotions" 974 (.ref 491),
  en "add_plain_pushes" 988 (.ref 498),
  en "add_push_promotions" 1002 (.ref 505),
  en "add_pawn_captures" 1020 (.ref 512),
  en "add_pawn_moves" 1030 (.ref 519),
  en "add_en_passant" 1040 (.ref 526),
  en "evasion_targets" 1050 (.ref 533),
  en "passed_pawn_square" 1057 (.ref 540),
  en "may_answer_en_passant" 1065 (.ref 547),
  en "add_evasions" 1075 (.ref 554),
  en "taken_square" 1086 (.ref 561),
  en "is_safe_en_passant" 1099 (.ref 568),
  en "is_legal" 1113 (.ref 575),
  en "generate" 1126 (.ref 582),
  en "has_legal_move" 1137 (.ref 589),
  en "ONGOING" 1141 (.int 0 1140),
  en "CHECKMATE" 1143 (.int 1 1142),
  en "STALEMATE" 1145 (.int 2 1144),
  en "FIFTY" 1147 (.int 3 1146),
  en "REPETITION" 1149 (.int 4 1148),
  en "MATERIAL" 1151 (.int 5 1150),
  en "FIFTY_PLIES" 1153 (.int 100 1152),
  en "reversible_plies" 1160 (.ref 596),
  en "key_before" 1168 (.ref 603),
  en "repetitions" 1177 (.ref 610),
  en "is_repetition" 1185 (.ref 617),
  en "repetition_distance" 1194 (.ref 624),
  en "is_checkmate" 1201 (.ref 631),
  en "is_stalemate" 1208 (.ref 638),
  en "is_fifty" 1215 (.ref 645),
  en "square_colour" 1223 (.ref 652),
  en "bishops_on_one_colour" 1232 (.ref 659),
  en "is_insufficient" 1240 (.ref 666),
  en "is_draw_by_rule" 1247 (.ref 673),
  en "is_draw_in_search" 1256 (.ref 680),
  en "outcome" 1263 (.ref 687),
  en "result_text" 1271 (.ref 694),
  en "Zobrist" 1308 (.ref 711),
  en "_law_boards" 1353 (.ref 744),
  en "_law_plies" 1359 (.ref 751),
  en "_law_said" 1368 (.ref 758),
  en "_law_square" 1379 (.ref 765),
  en "_law_position" 1385 (.ref 770),
  en "_law_ended" 1395 (.ref 777),
  en "law" 1413 (.ref 784)]
noncomputable def enM (P : Params) : List (Str × Nat × Value) → List DictEntry
  | [] => []
  | (x, t, v) :: r => de P x t v :: enM P r
noncomputable def enL (P : Params) : List DictEntry := enM P enT
noncomputable def nm0 : Value := .str "__main__" 164
noncomputable def glO (P : Params) (nm : Value) (e : Nat) : Obj := dctO (de P "__name__" 165 nm :: (enL P).take (e - 1)) e
noncomputable def tri : List (Nat × Nat) := [(16, 20), (18, 27), (20, 34), (25, 41), (27, 48), (29, 55), (32, 62), (34, 69), (47, 76), (49, 83), (62, 90), (67, 97), (72, 104), (77, 111), (80, 118), (88, 140), (105, 161), (107, 168), (115, 175), (126, 182), (141, 189), (145, 196), (157, 203), (174, 210), (185, 217), (200, 224), (205, 231), (210, 238), (212, 245), (220, 252), (229, 259), (244, 280), (250, 287), (252, 294), (254, 301), (257, 308), (259, 315), (261, 322), (263, 329), (268, 336), (277, 343), (280, 350), (290, 357), (293, 364), (295, 371), (298, 378), (300, 385), (305, 392), (318, 399), (328, 406), (332, 413), (350, 420), (359, 427), (362, 434), (367, 441), (374, 448), (378, 455), (382, 462), (386, 469), (390, 476), (394, 483), (404, 490), (416, 497), (424, 504), (430, 511), (443, 518), (449, 525), (456, 532), (460, 539), (464, 546), (468, 553), (478, 560), (485, 567), (492, 574), (508, 581), (522, 588), (538, 595), (542, 602), (546, 609), (552, 616), (554, 623), (562, 630), (564, 637), (566, 644), (568, 651), (570, 658), (575, 665), (582, 672), (584, 679), (589, 686), (601, 693), (611, 700), (620, 750), (622, 757), (626, 764), (630, 769), (642, 776), (652, 783)]
noncomputable def triV : List (Nat × Nat) → List Value
  | [] => []
  | (a, b) :: r => .int a 0 :: .int 0 0 :: .ref b :: triV r
noncomputable def news (P : Params) : List Obj :=
  dfO (mst 15) none (.str "chess.kinds" 187) 15 217 ++ (
  dfO (mst 16) none (.str "chess.kinds" 187) 22 224 ++ (
  dfO (mst 17) none (.str "chess.kinds" 187) 29 231 ++ (
  dfO (mst 18) none (.str "chess.kinds" 187) 36 242 ++ (
  dfO (mst 19) none (.str "chess.kinds" 187) 43 249 ++ (
  dfO (mst 20) none (.str "chess.kinds" 187) 50 256 ++ (
  dfO (mst 22) none (.str "chess.bits" 263) 57 265 ++ (
  dfO (mst 23) none (.str "chess.bits" 263) 64 272 ++ (
  dfO (mst 24) none (.str "chess.bits" 263) 71 281 ++ (
  dfO (mst 25) none (.str "chess.bits" 263) 78 288 ++ (
  dfO (mst 27) none (.str "chess.lines" 297) 85 299 ++ (
  dfO (mst 28) none (.str "chess.lines" 297) 92 309 ++ (
  dfO (mst 29) none (.str "chess.lines" 297) 99 319 ++ (
  dfO (mst 30) none (.str "chess.lines" 297) 106 329 ++ (
  [{ cls := .type "tuple", data := .seq ⟨[.type "Exception"]⟩ }] ++ (
  [{ cls := .type "builtin_function_or_method", data := .fields ⟨[.builtin "type.__prepare__", .type "type"]⟩ }] ++ (
  [{ cls := .type "dict", data := .dict ⟨[de P "__module__" 348 (.str "chess.errors" 339), de P "__qualname__" 350 (.str "ChessError" 349), de P "__firstlineno__" 352 (.int 80 351), de P "__init__" 360 (.ref 126), de P "__static_attributes__" 362 (.ref 127)]⟩ 5 }] ++ (
  [{ cls := .type "tuple", data := .seq ⟨[]⟩ }] ++ (
  [{ cls := .none, data := .fields ⟨[.int 82 0, .int 4 0, .ref 125]⟩ }] ++ (
  [{ cls := .type "code", data := .fields ⟨[.str "ChessError" 343, .str "ChessError" 344, .str "/claim/cut.py" 345, .int 80 0, .int 0 0, .int 0 0, .int 0 0, .int 0 0, .ref 116, .bool false, .int 181 0, .ref 117, .none, .none, .none, .none, .int 346 0, .int 80 0, .str "/claim/cut.py" 347]⟩ }] ++ (
  [{ cls := .type "frame", slots := ⟨[some (.ref 118), some (.ref 3), some (.ref 115), none, some (.str "chess.errors" 339), none, some (.ref 0)]⟩ }] ++ (
  dfO (mcl 32 0) (some "ChessError.__init__") (.str "chess.errors" 339) 120 353 ++ (
  [{ cls := .type "tuple", data := .seq ⟨[.str "text" 361]⟩ }] ++ (
  [{ cls := .type "dict", data := .dict ⟨[de P "__module__" 348 (.str "chess.errors" 339), de P "__firstlineno__" 352 (.int 80 351), de P "__init__" 360 (.ref 126), de P "__static_attributes__" 362 (.ref 127), de P "__weakref__" 364 (.ref 130), de P "__doc__" 365 (.none)]⟩ 3 }] ++ (
  [{ cls := .type "type", data := .cls { name := "ChessError", bases := [.type "Exception"], mro := [.ref 129, .type "Exception", .type "BaseException", .type "object"], ns := 128, qualname := "ChessError", hasDict := true, slotNames := [], subclasses := [], abstract := false, hasDel := false }, slots := ⟨[some (.ref 113), none, some (.str "ChessError" 341), some (.str "ChessError" 349), some (.builtin "Exception.__new__"), some (.bool true)]⟩ }] ++ (
  [{ cls := .type "getset_descriptor", data := .fields ⟨[.str "__weakref__" 363, .ref 129, .builtin "ExceptionGroup.__weakref__", .none]⟩ }] ++ (
  [{ cls := .type "super", data := .fields ⟨[.ref 129, .ref 129, .ref 129]⟩ }] ++ (
  [{ cls := .type "builtin_function_or_method", data := .fields ⟨[.builtin "object.__init_subclass__", .ref 129]⟩ }] ++ (
  [{ cls := .type "tuple", data := .seq ⟨[.int 0 372, .int 1 373, .int 0 374, .int (-1) 376, .int 1 377, .int 1 378, .int (-1) 380, .int (-1) 382]⟩ }] ++ (
  [{ cls := .type "tuple", data := .seq ⟨[.int 1 384, .int 0 385, .int (-1) 387, .int 0 388, .int 1 389, .int (-1) 391, .int (-1) 393, .int 1 394]⟩ }] ++ (
  [{ cls := .type "tuple", data := .seq ⟨[]⟩ }] ++ (
  [{ cls := .type "builtin_function_or_method", data := .fields ⟨[.builtin "type.__prepare__", .type "type"]⟩ }] ++ (
  [{ cls := .type "dict", data := .dict ⟨[de P "__module__" 403 (.str "chess.geometry" 370), de P "__qualname__" 405 (.str "Geometry" 404), de P "__firstlineno__" 407 (.int 88 406), de P "__init__" 418 (.ref 148), de P "__static_attributes__" 433 (.ref 149)]⟩ 5 }] ++ (
  [{ cls := .type "tuple", data := .seq ⟨[]⟩ }] ++ (
  [{ cls := .none, data := .fields ⟨[.int 90 0, .int 4 0, .ref 147]⟩ }] ++ (
  [{ cls := .type "code", data := .fields ⟨[.str "Geometry" 398, .str "Geometry" 399, .str "/claim/cut.py" 400, .int 88 0, .int 0 0, .int 0 0, .int 0 0, .int 0 0, .ref 138, .bool false, .int 181 0, .ref 139, .none, .none, .none, .none, .int 401 0, .int 88 0, .str "/claim/cut.py" 402]⟩ }] ++ (
  [{ cls := .type "frame", slots := ⟨[some (.ref 140), some (.ref 3), some (.ref 137), none, some (.str "chess.geometry" 370), none, some (.ref 0)]⟩ }] ++ (
  dfO (mcl 36 0) (some "Geometry.__init__") (.str "chess.geometry" 370) 142 408 ++ (
  [{ cls := .type "tuple", data := .seq ⟨[.str "castles" 419, .str "file_masks" 420, .str "files" 421, .str "full" 422, .str "has_castling" 423, .str "has_double" 424, .str "king" 425, .str "knight" 426, .str "pawn" 427, .str "rank_masks" 428, .str "ranks" 429, .str "rays" 430, .str "rights_lost" 431, .str "size" 432]⟩ }] ++ (
  [{ cls := .type "dict", data := .dict ⟨[de P "__module__" 403 (.str "chess.geometry" 370), de P "__firstlineno__" 407 (.int 88 406), de P "__init__" 418 (.ref 148), de P "__static_attributes__" 433 (.ref 149), de P "__dict__" 435 (.ref 152), de P "__weakref__" 437 (.ref 153), de P "__doc__" 438 (.none)]⟩ 4 }] ++ (
  [{ cls := .type "type", data := .cls { name := "Geometry", bases := [.type "object"], mro := [.ref 151, .type "object"], ns := 150, qualname := "Geometry", hasDict := true, slotNames := [], subclasses := [], abstract := false, hasDel := false }, slots := ⟨[none, none, some (.str "Geometry" 396), some (.str "Geometry" 404), some (.builtin "object.__new__"), some (.bool true)]⟩ }] ++ (
  [{ cls := .type "getset_descriptor", data := .fields ⟨[.str "__dict__" 434, .ref 151, .builtin "function.__dict__", .builtin "function.__dict__#set"]⟩ }] ++ (
  [{ cls := .type "getset_descriptor", data := .fields ⟨[.str "__weakref__" 436, .ref 151, .builtin "ExceptionGroup.__weakref__", .none]⟩ }] ++ (
  [{ cls := .type "super", data := .fields ⟨[.ref 151, .ref 151, .ref 151]⟩ }] ++ (
  [{ cls := .type "builtin_function_or_method", data := .fields ⟨[.builtin "object.__init_subclass__", .ref 151]⟩ }] ++ (
  dfO (mst 37) none (.str "chess.geometry" 370) 156 441 ++ (
  dfO (mst 38) none (.str "chess.geometry" 370) 163 448 ++ (
  dfO (mst 39) none (.str "chess.geometry" 370) 170 459 ++ (
  dfO (mst 40) none (.str "chess.geometry" 370) 177 468 ++ (
  dfO (mst 41) none (.str "chess.geometry" 370) 184 482 ++ (
  dfO (mst 42) none (.str "chess.geometry" 370) 191 490 ++ (
  dfO (mst 43) none (.str "chess.geometry" 370) 198 507 ++ (
  dfO (mst 44) none (.str "chess.geometry" 370) 205 520 ++ (
  dfO (mst 46) none (.str "chess.sliders" 531) 212 533 ++ (
  dfO (mst 47) none (.str "chess.sliders" 531) 219 546 ++ (
  dfO (mst 48) none (.str "chess.sliders" 531) 226 557 ++ (
  dfO (mst 49) none (.str "chess.sliders" 531) 233 568 ++ (
  dfO (mst 50) none (.str "chess.sliders" 531) 240 577 ++ (
  dfO (mst 51) none (.str "chess.sliders" 531) 247 587 ++ (
  [{ cls := .type "tuple", data := .seq ⟨[]⟩ }] ++ (
  [{ cls := .type "builtin_function_or_method", data := .fields ⟨[.builtin "type.__prepare__", .type "type"]⟩ }] ++ (
  [{ cls := .type "dict", data := .dict ⟨[de P "__module__" 607 (.str "chess.position" 598), de P "__qualname__" 609 (.str "Position" 608), de P "__firstlineno__" 611 (.int 229 610), de P "__init__" 620 (.ref 267), de P "__static_attributes__" 633 (.ref 268)]⟩ 5 }] ++ (
  [{ cls := .type "tuple", data := .seq ⟨[]⟩ }] ++ (
  [{ cls := .none, data := .fields ⟨[.int 231 0, .int 4 0, .ref 266]⟩ }] ++ (
  [{ cls := .type "code", data := .fields ⟨[.str "Position" 602, .str "Position" 603, .str "/claim/cut.py" 604, .int 229 0, .int 0 0, .int 0 0, .int 0 0, .int 0 0, .ref 257, .bool false, .int 181 0, .ref 258, .none, .none, .none, .none, .int 605 0, .int 229 0, .str "/claim/cut.py" 606]⟩ }] ++ (
  [{ cls := .type "frame", slots := ⟨[some (.ref 259), some (.ref 3), some (.ref 256), none, some (.str "chess.position" 598), none, some (.ref 0)]⟩ }] ++ (
  dfO (mcl 53 0) (some "Position.__init__") (.str "chess.position" 598) 261 612 ++ (
  [{ cls := .type "tuple", data := .seq ⟨[.str "board" 621, .str "ep" 622, .str "full" 623, .str "geo" 624, .str "half" 625, .str "history" 626, .str "key" 627, .str "kinds" 628, .str "rights" 629, .str "side" 630, .str "sides" 631, .str "zob" 632]⟩ }] ++ (
  [{ cls := .type "dict", data := .dict ⟨[de P "__module__" 607 (.str "chess.position" 598), de P "__firstlineno__" 611 (.int 229 610), de P "__init__" 620 (.ref 267), de P "__static_attributes__" 633 (.ref 268), de P "__dict__" 635 (.ref 271), de P "__weakref__" 637 (.ref 272), de P "__doc__" 638 (.none)]⟩ 4 }] ++ (
  [{ cls := .type "type", data := .cls { name := "Position", bases := [.type "object"], mro := [.ref 270, .type "object"], ns := 269, qualname := "Position", hasDict := true, slotNames := [], subclasses := [], abstract := false, hasDel := false }, slots := ⟨[none, none, some (.str "Position" 600), some (.str "Position" 608), some (.builtin "object.__new__"), some (.bool true)]⟩ }] ++ (
  [{ cls := .type "getset_descriptor", data := .fields ⟨[.str "__dict__" 634, .ref 270, .builtin "function.__dict__", .builtin "function.__dict__#set"]⟩ }] ++ (
  [{ cls := .type "getset_descriptor", data := .fields ⟨[.str "__weakref__" 636, .ref 270, .builtin "ExceptionGroup.__weakref__", .none]⟩ }] ++ (
  [{ cls := .type "super", data := .fields ⟨[.ref 270, .ref 270, .ref 270]⟩ }] ++ (
  [{ cls := .type "builtin_function_or_method", data := .fields ⟨[.builtin "object.__init_subclass__", .ref 270]⟩ }] ++ (
  dfO (mst 54) none (.str "chess.position" 598) 275 641 ++ (
  dfO (mst 55) none (.str "chess.position" 598) 282 651 ++ (
  dfO (mst 56) none (.str "chess.position" 598) 289 658 ++ (
  dfO (mst 57) none (.str "chess.position" 598) 296 667 ++ (
  dfO (mst 59) none (.str "chess.attacks" 675) 303 677 ++ (
  dfO (mst 60) none (.str "chess.attacks" 675) 310 684 ++ (
  dfO (mst 61) none (.str "chess.attacks" 675) 317 691 ++ (
  dfO (mst 62) none (.str "chess.attacks" 675) 324 700 ++ (
  dfO (mst 63) none (.str "chess.attacks" 675) 331 711 ++ (
  dfO (mst 64) none (.str "chess.attacks" 675) 338 723 ++ (
  dfO (mst 65) none (.str "chess.attacks" 675) 345 733 ++ (
  dfO (mst 66) none (.str "chess.attacks" 675) 352 747 ++ (
  dfO (mst 67) none (.str "chess.attacks" 675) 359 756 ++ (
  dfO (mst 68) none (.str "chess.attacks" 675) 366 763 ++ (
  dfO (mst 69) none (.str "chess.attacks" 675) 373 772 ++ (
  dfO (mst 70) none (.str "chess.attacks" 675) 380 779 ++ (
  dfO (mst 71) none (.str "chess.attacks" 675) 387 789 ++ (
  dfO (mst 72) none (.str "chess.attacks" 675) 394 804 ++ (
  dfO (mst 81) none (.str "chess.castling" 812) 401 828 ++ (
  dfO (mst 82) none (.str "chess.castling" 812) 408 836 ++ (
  dfO (mst 83) none (.str "chess.castling" 812) 415 851 ++ (
  dfO (mst 88) none (.str "chess.piecemoves" 864) 422 872 ++ (
  dfO (mst 89) none (.str "chess.piecemoves" 864) 429 882 ++ (
  dfO (mst 90) none (.str "chess.piecemoves" 864) 436 895 ++ (
  dfO (mst 92) none (.str "chess.pawnmoves" 903) 443 905 ++ (
  dfO (mst 93) none (.str "chess.pawnmoves" 903) 450 913 ++ (
  dfO (mst 94) none (.str "chess.pawnmoves" 903) 457 921 ++ (
  dfO (mst 95) none (.str "chess.pawnmoves" 903) 464 929 ++ (
  dfO (mst 96) none (.str "chess.pawnmoves" 903) 471 938 ++ (
  dfO (mst 97) none (.str "chess.pawnmoves" 903) 478 948 ++ (
  dfO (mst 98) none (.str "chess.pawnmoves" 903) 485 962 ++ (
  dfO (mst 99) none (.str "chess.pawnmoves" 903) 492 975 ++ (
  dfO (mst 100) none (.str "chess.pawnmoves" 903) 499 989 ++ (
  dfO (mst 101) none (.str "chess.pawnmoves" 903) 506 1003 ++ (
  dfO (mst 102) none (.str "chess.pawnmoves" 903) 513 1021 ++ (
  dfO (mst 103) none (.str "chess.pawnmoves" 903) 520 1031 ++ (
  dfO (mst 105) none (.str "chess.evasions" 1041) 527 1043 ++ (
  dfO (mst 106) none (.str "chess.evasions" 1041) 534 1051 ++ (
  dfO (mst 107) none (.str "chess.evasions" 1041) 541 1058 ++ (
  dfO (mst 108) none (.str "chess.evasions" 1041) 548 1066 ++ (
  dfO (mst 110) none (.str "chess.legality" 1076) 555 1078 ++ (
  dfO (mst 111) none (.str "chess.legality" 1076) 562 1087 ++ (
  dfO (mst 112) none (.str "chess.legality" 1076) 569 1100 ++ (
  dfO (mst 114) none (.str "chess.movegen" 1114) 576 1116 ++ (
  dfO (mst 115) none (.str "chess.movegen" 1114) 583 1127 ++ (
  dfO (mst 124) none (.str "chess.draws" 1138) 590 1154 ++ (
  dfO (mst 125) none (.str "chess.draws" 1138) 597 1161 ++ (
  dfO (mst 126) none (.str "chess.draws" 1138) 604 1169 ++ (
  dfO (mst 127) none (.str "chess.draws" 1138) 611 1178 ++ (
  dfO (mst 128) none (.str "chess.draws" 1138) 618 1186 ++ (
  dfO (mst 129) none (.str "chess.draws" 1138) 625 1195 ++ (
  dfO (mst 130) none (.str "chess.draws" 1138) 632 1202 ++ (
  dfO (mst 131) none (.str "chess.draws" 1138) 639 1209 ++ (
  dfO (mst 132) none (.str "chess.draws" 1138) 646 1216 ++ (
  dfO (mst 133) none (.str "chess.draws" 1138) 653 1224 ++ (
  dfO (mst 134) none (.str "chess.draws" 1138) 660 1233 ++ (
  dfO (mst 135) none (.str "chess.draws" 1138) 667 1241 ++ (
  dfO (mst 136) none (.str "chess.draws" 1138) 674 1248 ++ (
  dfO (mst 137) none (.str "chess.draws" 1138) 681 1257 ++ (
  dfO (mst 138) none (.str "chess.draws" 1138) 688 1264 ++ (
  [{ cls := .type "tuple", data := .seq ⟨[]⟩ }] ++ (
  [{ cls := .type "builtin_function_or_method", data := .fields ⟨[.builtin "type.__prepare__", .type "type"]⟩ }] ++ (
  [{ cls := .type "dict", data := .dict ⟨[de P "__module__" 1281 (.str "chess.zobrist" 1272), de P "__qualname__" 1283 (.str "Zobrist" 1282), de P "__firstlineno__" 1285 (.int 611 1284), de P "__init__" 1296 (.ref 708), de P "__static_attributes__" 1301 (.ref 709)]⟩ 5 }] ++ (
  [{ cls := .type "tuple", data := .seq ⟨[]⟩ }] ++ (
  [{ cls := .none, data := .fields ⟨[.int 613 0, .int 4 0, .ref 707]⟩ }] ++ (
  [{ cls := .type "code", data := .fields ⟨[.str "Zobrist" 1276, .str "Zobrist" 1277, .str "/claim/cut.py" 1278, .int 611 0, .int 0 0, .int 0 0, .int 0 0, .int 0 0, .ref 698, .bool false, .int 181 0, .ref 699, .none, .none, .none, .none, .int 1279 0, .int 611 0, .str "/claim/cut.py" 1280]⟩ }] ++ (
  [{ cls := .type "frame", slots := ⟨[some (.ref 700), some (.ref 3), some (.ref 697), none, some (.str "chess.zobrist" 1272), none, some (.ref 0)]⟩ }] ++ (
  dfO (mcl 140 0) (some "Zobrist.__init__") (.str "chess.zobrist" 1272) 702 1286 ++ (
  [{ cls := .type "tuple", data := .seq ⟨[.str "ep" 1297, .str "pieces" 1298, .str "rights" 1299, .str "side" 1300]⟩ }] ++ (
  [{ cls := .type "dict", data := .dict ⟨[de P "__module__" 1281 (.str "chess.zobrist" 1272), de P "__firstlineno__" 1285 (.int 611 1284), de P "__init__" 1296 (.ref 708), de P "__static_attributes__" 1301 (.ref 709), de P "__dict__" 1303 (.ref 712), de P "__weakref__" 1305 (.ref 713), de P "__doc__" 1306 (.none)]⟩ 4 }] ++ (
  [{ cls := .type "type", data := .cls { name := "Zobrist", bases := [.type "object"], mro := [.ref 711, .type "object"], ns := 710, qualname := "Zobrist", hasDict := true, slotNames := [], subclasses := [], abstract := false, hasDel := false }, slots := ⟨[none, none, some (.str "Zobrist" 1274), some (.str "Zobrist" 1282), some (.builtin "object.__new__"), some (.bool true)]⟩ }] ++ (
  [{ cls := .type "getset_descriptor", data := .fields ⟨[.str "__dict__" 1302, .ref 711, .builtin "function.__dict__", .builtin "function.__dict__#set"]⟩ }] ++ (
  [{ cls := .type "getset_descriptor", data := .fields ⟨[.str "__weakref__" 1304, .ref 711, .builtin "ExceptionGroup.__weakref__", .none]⟩ }] ++ (
  [{ cls := .type "super", data := .fields ⟨[.ref 711, .ref 711, .ref 711]⟩ }] ++ (
  [{ cls := .type "builtin_function_or_method", data := .fields ⟨[.builtin "object.__init_subclass__", .ref 711]⟩ }] ++ (
  [{ cls := .type "tuple", data := .seq ⟨[.int 6 1312, .int 4 1313]⟩ }] ++ (
  [{ cls := .type "tuple", data := .seq ⟨[.int 4 1314, .int 15 1315]⟩ }] ++ (
  [{ cls := .type "list", data := .seq ⟨[.ref 716, .ref 717]⟩ }] ++ (
  [{ cls := .type "tuple", data := .seq ⟨[.str "mate" 1311, .ref 718, .int 12 1316]⟩ }] ++ (
  [{ cls := .type "tuple", data := .seq ⟨[.int 6 1318, .int 2 1319]⟩ }] ++ (
  [{ cls := .type "tuple", data := .seq ⟨[.int 4 1320, .int 15 1321]⟩ }] ++ (
  [{ cls := .type "tuple", data := .seq ⟨[.int 4 1322, .int 11 1323]⟩ }] ++ (
  [{ cls := .type "list", data := .seq ⟨[.ref 720, .ref 721, .ref 722]⟩ }] ++ (
  [{ cls := .type "tuple", data := .seq ⟨[.str "mate" 1317, .ref 723, .int 12 1324]⟩ }] ++ (
  [{ cls := .type "tuple", data := .seq ⟨[.int 6 1326, .int 10 1327]⟩ }] ++ (
  [{ cls := .type "tuple", data := .seq ⟨[.int 4 1328, .int 9 1329]⟩ }] ++ (
  [{ cls := .type "list", data := .seq ⟨[.ref 725, .ref 726]⟩ }] ++ (
  [{ cls := .type "tuple", data := .seq ⟨[.str "stale" 1325, .ref 727, .int 12 1330]⟩ }] ++ (
  [{ cls := .type "tuple", data := .seq ⟨[.int 6 1332, .int 3 1333]⟩ }] ++ (
  [{ cls := .type "tuple", data := .seq ⟨[.int 5 1334, .int 10 1335]⟩ }] ++ (
  [{ cls := .type "list", data := .seq ⟨[.ref 729, .ref 730]⟩ }] ++ (
  [{ cls := .type "tuple", data := .seq ⟨[.str "stale" 1331, .ref 731, .int 12 1336]⟩ }] ++ (
  [{ cls := .type "tuple", data := .seq ⟨[.int 6 1338, .int 0 1339]⟩ }] ++ (
  [{ cls := .type "tuple", data := .seq ⟨[.int 4 1340, .int 15 1341]⟩ }] ++ (
  [{ cls := .type "list", data := .seq ⟨[.ref 733, .ref 734]⟩ }] ++ (
  [{ cls := .type "tuple", data := .seq ⟨[.str "check" 1337, .ref 735, .int 12 1342]⟩ }] ++ (
  [{ cls := .type "tuple", data := .seq ⟨[.int 6 1344, .int 0 1345]⟩ }] ++ (
  [{ cls := .type "tuple", data := .seq ⟨[.int 4 1346, .int 2 1347]⟩ }] ++ (
  [{ cls := .type "list", data := .seq ⟨[.ref 737, .ref 738]⟩ }] ++ (
  [{ cls := .type "tuple", data := .seq ⟨[.str "free" 1343, .ref 739, .int 15 1348]⟩ }] ++ (
  [{ cls := .type "tuple", data := .seq ⟨[.int 6 1350, .int 0 1351]⟩ }] ++ (
  [{ cls := .type "list", data := .seq ⟨[.ref 741]⟩ }] ++ (
  [{ cls := .type "tuple", data := .seq ⟨[.str "poor" 1349, .ref 742, .int 15 1352]⟩ }] ++ (
  [{ cls := .type "list", data := .seq ⟨[.ref 719, .ref 724, .ref 728, .ref 732, .ref 736, .ref 740, .ref 743]⟩ }] ++ (
  dfO (mst 143) none (.str "law_pq0241_01" 1309) 745 1354 ++ (
  dfO (mst 144) none (.str "law_pq0241_01" 1309) 752 1360 ++ (
  dfO (mst 145) none (.str "law_pq0241_01" 1309) 759 1369 ++ (
  f5O (mst 146) (.str "law_pq0241_01" 1309) 766 1380 ++ (
  dfO (mst 147) none (.str "law_pq0241_01" 1309) 771 1386 ++ (
  dfO (mst 148) none (.str "law_pq0241_01" 1309) 778 1396)))))))))))))))))))))))))))))))))))))))))))))))))))))))))))))))))))))))))))))))))))))))))))))))))))))))))))))))))))))))))))))))))))))))))))))))))))))))))))))))))))))))))))))))))))))))
noncomputable def stO (P : Params) (b : Bool) : Obj := { cls := .none, data := .dict ⟨bif b then [de P "type.__subclasses__.Exception.0" 366 (.int 129 0), de P "type.__subclasses__.Exception.n" 367 (.int 1 0)] else []⟩ (bif b then 2 else 0) }
noncomputable def lowO (P : Params) (nm : Value) (e : Nat) (b : Bool) (k : Nat) : List Obj := [boot_o_0 P, boot_o_1 P, stO P b, glO P nm e, boot_o_4 P, boot_o_5 P, boot_o_6 P, boot_o_7 P, boot_o_8 P, boot_o_9 P, boot_o_10 P,
  { cls := .type "tuple", data := .seq ⟨[]⟩ },
  fldO (triV (tri.take k)),
  { cls := .type "code", data := .fields ⟨[.str "<module>" 182, .str "<module>" 183, .str "/claim/cut.py" 184, .int 1 0, .int 0 0, .int 0 0, .int 0 0, .int 0 0, .ref 11, .bool false, .int 181 0, .ref 12, .none, .none, .none, .none, .int 185 0, .int 1 0, .str "/claim/cut.py" 186]⟩ },
  { cls := .type "frame", slots := ⟨[some (.ref 13), some (.ref 3), some (.ref 3), none, some (.str "__main__" 164), none, some (.ref 0)]⟩ }]
noncomputable def evL : List Obj → List Obj × List Obj
  | [] => ([], [])
  | x :: r => let q := evL r; (x :: q.2, q.1)
/-- the tree of a list -/
noncomputable def trL : Nat → List Obj → BT
  | 0, _ => .nil
  | _ + 1, [] => .nil
  | n + 1, x :: r => .node x (trL n (evL r).1) (trL n (evL r).2)
noncomputable def hpL (P : Params) (nm : Value) (e : Nat) (b : Bool) (k n : Nat) : List Obj := lowO P nm e b k ++ (news P).take (n - 15)
noncomputable def stT (P : Params) (os : OsState) (nm : Value) (e : Nat) (b : Bool) (k n t : Nat) : SharedT := ⟨trL 12 (hpL P nm e b k n), n, {}, ⟨[]⟩, {}, t, os⟩
noncomputable def enV : Env := { scope := pw.main.scope, locals := mainNs, globals := mainNs, cells := [], code := .ref 13, frame := some 14 }
noncomputable def coB : Code := .body (behindTheImports pw) enV
noncomputable def frB : List Frame := [topFrame ⟨0, 0, 0, 0⟩]
noncomputable def sgS (k : Nat) (P : Params) (os : OsState) : SharedT := match k with
  | 0 => stT P os nm0 9 false 0 15 187
  | 1 => stT P os (.str "chess.geometry" 370) 41 true 16 156 441
  | 2 => stT P os (.str "chess.attacks" 675) 69 true 44 366 763
  | 3 => stT P os (.str "chess.movegen" 1114) 110 true 75 583 1127
  | 4 => stT P os (.str "law_pq0241_01" 1309) 141 true 98 785 1414
  | _ => stT P os nm0 9 false 0 15 187
noncomputable def sgP (k : Nat) : Pos := match k with
  | 0 => ⟨0, 0, 0, 0⟩
  | 1 => ⟨88, 0, 104, 29⟩
  | 2 => ⟨293, 0, 294, 37⟩
  | 3 => ⟨508, 0, 521, 14⟩
  | 4 => ⟨652, 0, 666, 88⟩
  | _ => ⟨0, 0, 0, 0⟩
noncomputable def sg1 : List Stmt := (pw.main.body.drop 0).take 37
noncomputable def sg2 : List Stmt := (pw.main.body.drop 37).take 31
noncomputable def sg3 : List Stmt := (pw.main.body.drop 68).take 47
noncomputable def sg4 : List Stmt := (pw.main.body.drop 115).take 34
end Mine
end
section
open PySem PySem.W
set_option Elab.async false
set_option maxRecDepth 100000
set_option autoImplicit false
namespace Mine
theorem run1 : ∀ (P : World) (os : OsState), Fast.tw10110043849684766642 Fast.tw14364793385576792824 pw P 11 (some (.ref 6)) 1 1130 (sgS 0 P.params os) (piecesOf sg1 enV coB (sgP 0) frB) = some (.next, sgS 1 P.params os, coB, sgP 1) := fun P os => by kernel_rfl
theorem run2 : ∀ (P : World) (os : OsState), Fast.tw10110043849684766642 Fast.tw14364793385576792824 pw P 11 (some (.ref 6)) 1 1131 (sgS 1 P.params os) (piecesOf sg2 enV coB (sgP 1) frB) = some (.next, sgS 2 P.params os, coB, sgP 2) := fun P os => by kernel_rfl
theorem run3 : ∀ (P : World) (os : OsState), Fast.tw10110043849684766642 Fast.tw14364793385576792824 pw P 11 (some (.ref 6)) 1 1159 (sgS 2 P.params os) (piecesOf sg3 enV coB (sgP 2) frB) = some (.next, sgS 3 P.params os, coB, sgP 3) := fun P os => by kernel_rfl
theorem run4 : ∀ (P : World) (os : OsState), Fast.tw10110043849684766642 Fast.tw14364793385576792824 pw P 11 (some (.ref 6)) 1 1098 (sgS 3 P.params os) (piecesOf sg4 enV coB (sgP 3) frB) = some (.next, sgS 4 P.params os, coB, sgP 4) := fun P os => by kernel_rfl
end Mine
end
section
open PySem PySem.W PySem.Calls PyProof.Rows
set_option Elab.async false
set_option maxRecDepth 100000
set_option autoImplicit false
namespace Mine
/-- the top's run from its four parts -/
theorem run_all {tb : String → Option Builtin} {p : Program} {w : World} {n₀ : Nat} {ann : Option Value} {env : Env} {q : Pos} {b s1 s2 s3 s4 : List Stmt} {N0 N1 N2 N3 N4 N5 N6 : Nat} {S0 Sa Sf : Shared} {T0 T1 T2 T3 T4 : SharedT} {c : Code} {p0 p1 p2 p3 p4 : Pos} {stub : Thread}
    (hb : b = s1 ++ (s2 ++ (s3 ++ (s4 ++ [])))) (hc : c = .body b env)
    (pre : topGo tb p w n₀ ann N0 S0 stub = some (Sa, ⟨denote tb (.body b env), c, p0, [topFrame q]⟩))
    (blk : segRun tb p w n₀ ann 1 N1 Sa (blockOf b env c p0 [topFrame q]) = some (.next, T0.abs, c, p0))
    (r1 : segRunT tb p w n₀ ann 1 N2 T0 (piecesOf s1 env c p0 [topFrame q]) = some (.next, T1, c, p1))
    (r2 : segRunT tb p w n₀ ann 1 N3 T1 (piecesOf s2 env c p1 [topFrame q]) = some (.next, T2, c, p2))
    (r3 : segRunT tb p w n₀ ann 1 N4 T2 (piecesOf s3 env c p2 [topFrame q]) = some (.next, T3, c, p3))
    (r4 : segRunT tb p w n₀ ann 1 N5 T3 (piecesOf s4 env c p3 [topFrame q]) = some (.next, T4, c, p4))
    (fin : topRun tb p w n₀ ann N6 T4.abs ⟨doneF .next, c, p4, [topFrame q]⟩ = some Sf) :
    topRun tb p w n₀ ann (N0 + (N1 + (N2 + (N3 + (N4 + (N5 + N6)))))) S0 stub = some Sf := by
  refine go_top pre (piece_block blk ?_)
  have e : PySem.W.restOf b env c p0 [topFrame q] = PySem.W.restOf (s1 ++ (s2 ++ (s3 ++ (s4 ++ [])))) env c p0 [topFrame q] := by rw [← hb]
  rw [e]
  exact piece_app (segRun_of r1) (piece_app (segRun_of r2) (piece_app (segRun_of r3) (piece_app (segRun_of r4) (piece_nil fin))))
noncomputable def H1 (P : Params) : Heap := ⟨⟨hpL P (.str "law_pq0241_01" 1309) 141 true 98 785⟩, {}⟩
noncomputable def S1 (P : Params) (os : OsState) : Shared := ⟨H1 P, ⟨[]⟩, {}, 1414, os⟩
noncomputable def S0 (P : Params) (os : OsState) : Shared := ⟨boot_heap P, ⟨[]⟩, boot_drawn, boot_toks, os⟩
theorem pre_ok : ∀ (w : World) (os : OsState), Fast.tw15667345088766844465 Fast.tw14364793385576792824 pw w 11 (some (.ref 6)) 12 (S0 w.params os) (topStub pw) = some ((sgS 0 w.params os).abs, ⟨Fast.tw11892475500146522536 Fast.tw14364793385576792824 coB, coB, sgP 0, frB⟩) := fun w os => by kernel_rfl
theorem blk_ok : ∀ (w : World) (os : OsState), Fast.tw14374325043358763698 Fast.tw14364793385576792824 pw w 11 (some (.ref 6)) 1 1 (sgS 0 w.params os).abs (blockOf (behindTheImports pw) enV coB (sgP 0) frB) = some (.next, (sgS 0 w.params os).abs, coB, sgP 0) := fun w os => by kernel_rfl
theorem fin_ok : ∀ (w : World) (os : OsState), Fast.tw14082659384304107361 Fast.tw14364793385576792824 pw w 11 (some (.ref 6)) 2 (sgS 4 w.params os).abs ⟨doneF .next, coB, sgP 4, frB⟩ = some (S1 w.params os) := fun w os => by kernel_rfl
theorem bd_ok : behindTheImports pw = sg1 ++ (sg2 ++ (sg3 ++ (sg4 ++ []))) := by kernel_rfl
theorem top_run (w : World) (os : OsState) : topRun treeTable pw w 11 (some (.ref 6)) (12 + (1 + (1130 + (1131 + (1159 + (1098 + 2)))))) (S0 w.params os) (topStub pw) = some (S1 w.params os) := by
  have a1 := run1 w os
  have a2 := run2 w os
  have a3 := run3 w os
  have a4 := run4 w os
  have b1 := pre_ok w os
  have b2 := blk_ok w os
  have b3 := fin_ok w os
  rw [← Fast.te10110043849684766642, ← Fast.te14364793385576792824] at a1 a2 a3 a4
  rw [← Fast.te15667345088766844465, ← Fast.te11892475500146522536, ← Fast.te14364793385576792824] at b1
  rw [← Fast.te14374325043358763698, ← Fast.te14364793385576792824] at b2
  rw [← Fast.te14082659384304107361, ← Fast.te14364793385576792824] at b3
  exact run_all bd_ok rfl b1 b2 a1 a2 a3 a4 b3
theorem open_ok : ∀ w : World, (fencedOpening treeTable pw w 20000).map (fun s => (s.heap, s.gens, s.drawn, s.toks)) = some (boot_heap w.params, ⟨[]⟩, boot_drawn, boot_toks) :=
  boot_open (by kernel_rfl) (by decide) (fun s => by kernel_rfl)
theorem size_ok : ∀ w : World, ((boot_heap w.params).isNs mainGlobals && (⟨[]⟩ : Array GenState).size == 0, (boot_heap w.params).objs.size, (boot_heap w.params).nsMap mainGlobals "__annotations__") = (true, 11, some (.ref 6)) := fun w => by kernel_rfl
end Mine
end
section
open PySem PySem.W PySem.Calls PyProof.Rows
set_option Elab.async false
set_option maxRecDepth 100000
set_option autoImplicit false
namespace Mine
noncomputable def vw : Program := view pw [148]
noncomputable def lsN : List Str := ((enT.drop 8).map (·.1)).dropLast
noncomputable def numL : Nat → List Obj → Frag
  | _, [] => []
  | n, o :: r => (n, o) :: numL (n + 1) r
noncomputable def KF (P : Params) : Frag := numL 0 (hpL P (.str "law_pq0241_01" 1309) 141 true 98 785)
noncomputable def upto : Nat → Nat → List Addr
  | 0, _ => []
  | k + 1, n => n :: upto k (n + 1)
theorem kf_as : ∀ P : Params, upto 785 0 = (KF P).map (·.1) := fun P => by kernel_rfl
noncomputable abbrev hk : Hook := kHook KF (upto 785 0) kf_as
noncomputable abbrev rwO : OpenRow := PySem.Challenge.rw_pq0241_01.row
noncomputable abbrev xt (s : Shared) : Bool := xlAt vw [] s && recOk (RowW.records rwO.toRowW) s
theorem lk1 : ∀ w : World, staticsOk (importedModules pw.main.body) (boot_heap w.params) (H1 w.params) = true := fun w => by kernel_rfl
theorem lk2 : ∀ w : World, namesBound pw (H1 w.params) = true := fun w => by kernel_rfl
theorem lk3 : ∀ (w : World) (os : OsState), gensDone (S1 w.params os) = true := fun w os => by kernel_rfl
theorem lk4 : ∀ w : World, laidKept (boot_heap w.params) (H1 w.params) = true := fun w => by kernel_rfl
noncomputable def live (o : Obj) : Bool := match o.data with
  | .freed => false
  | _ => true
theorem get_live {h : Heap} {a : Nat} {o : Obj} (e : h.objs[a]? = some o) (q : live o = true) : h.get? a = some o := by
  unfold Heap.get?
  rw [e]
  obtain ⟨c, d, dt, sl⟩ := o
  cases dt <;> first | rfl | cases q
theorem get_all (life : Life) : ∀ (l pre : List Obj), l.all live = true → (upto l.length pre.length).map (Heap.get? ⟨⟨pre ++ l⟩, life⟩) = (numL pre.length l).map fun p => some p.2
  | [], pre, _ => rfl
  | o :: r, pre, h => by
    rw [List.all_cons, Bool.and_eq_true] at h
    have e : (pre ++ [o]) ++ r = pre ++ o :: r := by simp
    have z := get_all life r (pre ++ [o]) h.2
    rw [e, List.length_append, show pre.length + [o].length = pre.length + 1 from rfl] at z
    have g : Heap.get? ⟨⟨pre ++ o :: r⟩, life⟩ pre.length = some o := get_live (by simp) h.1
    show _ :: _ = _ :: _
    rw [z, g]
noncomputable def hpF (P : Params) : List Obj := hpL P (.str "law_pq0241_01" 1309) 141 true 98 785
theorem hp_live : ∀ P : Params, (hpF P).all live = true := fun P => by kernel_rfl
theorem hp_len : ∀ P : Params, (hpF P).length = 785 := fun P => by kernel_rfl
theorem lk6 : ∀ (w : World) (os : OsState), hk.obs (S1 w.params os) = hk.val w := fun w os => by
  have z := get_all {} (hpF w.params) [] (hp_live w.params)
  rw [hp_len w.params] at z
  exact z
theorem lk5 (w : World) (os : OsState) : openSeen vw lsN (importedModules pw.main.body) xt true (S1 w.params os) = openGood vw lsN := by
  have h : Fast.tw4187177175401517315 vw lsN (importedModules pw.main.body) xt true (S1 w.params os) = openGood vw lsN := by kernel_rfl
  rw [← Fast.te4187177175401517315] at h
  exact h
end Mine
end
section
open PySem PySem.W PySem.Calls PyProof.Rows
set_option Elab.async false
set_option maxRecDepth 100000
set_option autoImplicit false
namespace Mine
/-! the looks at the law's text, one by one -/
noncomputable abbrev lw : OpenLaw := PySem.Challenge.rw_pq0241_01
theorem sd1 : sreFenced pw.main = true := by kernel_rfl
theorem sd2 : ((moduleNames pw.main.body).isEmpty || lookedIntoSs (moduleNames pw.main.body) pw.main.body) = true := by kernel_rfl
theorem sd3 : namesResolve pw = true := by
  have h : Fast.tw8377067652309620493 pw = true := by kernel_rfl
  rw [← Fast.te8377067652309620493] at h
  exact h
theorem sd4 : (pw.boundNames.all (fun n => !worldNames.contains n)) = true := by kernel_rfl
noncomputable def lkP : Look := { strict := !(importedModules pw.main.body).all cThrough.contains, foot := none, bare := (["vars", "dir", "locals"] : List Str).filter (readsOut pw pw.main.body) }
theorem lkP_bare : (["vars", "dir", "locals"] : List Str).filter (readsOut pw pw.main.body) = [] := by
  have h : (["vars", "dir", "locals"] : List Str).filter (Fast.tw13343964577679436407 pw pw.main.body) = [] := by kernel_rfl
  rw [← Fast.te13343964577679436407] at h
  exact h
theorem lkP_strict : (!(importedModules pw.main.body).all cThrough.contains) = false := by kernel_rfl
theorem lkP_eq : lkP = { strict := false, foot := none, bare := [] } := by unfold lkP; rw [lkP_bare, lkP_strict]
theorem sd5 : noRoadLSs lkP pw.main.body = true := by
  rw [lkP_eq]
  have h : Fast.tw8326940854005059898 { strict := false, foot := none, bare := [] } pw.main.body = true := by kernel_rfl
  rw [← Fast.te8326940854005059898] at h
  exact h
theorem sd6 : (namesMeet pw pw.main.body fun _ n => attrL n) = true := by
  have h : (Fast.tw17119622794617984870 pw pw.main.body fun _ n => Fast.tw17868728402115742887 n) = true := by kernel_rfl
  rw [← Fast.te17119622794617984870, ← Fast.te17868728402115742887] at h
  exact h
theorem sd_looks : looksOpen pw = true := look_both (look_both (look_both (look_both (look_both sd1 sd2) sd3) sd4) sd5) sd6
theorem sd_part : rwO.partSaid = true := by
  refine look_both (look_both (look_both (look_both (look_both (look_both (look_both (look_both (look_both (look_both (look_both (look_both (look_both sd_looks ?_) ?_) ?_) ?_) ?_) ?_) ?_) ?_) ?_) ?_) ?_) ?_) ?_
  all_goals kernel_rfl
theorem sd_row : rwO.wellSaid = true := by
  refine look_both (look_both sd_part ?_) ?_
  all_goals kernel_rfl
theorem sd7 : noRoadLSs { strict := true, foot := some lw.bound', writes := lw.writes, may := lw.may } lw.footing = true := by kernel_rfl
theorem sd8 : namesMeet lw.prog lw.above (fun _ n => !lw.own.contains n) = true := by kernel_rfl
theorem hd_said : lw.wellSaid = true := by
  refine look_both (look_both (look_both (look_both (look_both (look_both (look_both (look_both (look_both (look_both (look_both (look_both (look_both (look_both (look_both (look_both (look_both (look_both sd_row ?_) ?_) ?_) ?_) ?_) sd7) ?_) ?_) ?_) ?_) ?_) ?_) ?_) ?_) ?_) ?_) sd8) ?_
  all_goals kernel_rfl
end Mine
end
section
open PySem PySem.W PySem.Calls PyProof.Rows
set_option Elab.async false
set_option maxRecDepth 100000
set_option autoImplicit false
namespace Mine
theorem left_ok : LeftO pw vw lsN xt hk.obs hk.val 20000 := by
  refine LeftO.of_pieces (H₀ := boot_heap) (H₁ := H1) (gs₀ := ⟨[]⟩) (gs₁ := ⟨[]⟩) (d₀ := boot_drawn) (d₁ := {}) (k₀ := boot_toks) (k₁ := 1414) open_ok size_ok (fun w os => top_run w os) (by decide) fun w => funext fun os => ?_
  exact looks_pair (by rw [lk1 w, lk2 w, lk4 w]; exact lk3 w os) (looks_pair (lk5 w os) (lk6 w os))
noncomputable def lawBd : List Stmt := match mst 148 with
  | .FunctionDef _ _ b _ _ _ _ _ _ _ => b
  | _ => []
noncomputable def lawScp : Scope := match mst 148 with
  | .FunctionDef _ _ _ _ _ _ s _ _ _ => s
  | _ => ⟨.module, [], false, false, []⟩
noncomputable abbrev lawD : DefRec := { name := "law", params := { posonlyargs := [], args := [⟨"script", none, ⟨652, 8, 652, 14⟩⟩], vararg := none, kwonlyargs := [], kw_defaults := [], kwarg := none, defaults := [] }, body := lawBd, scope := lawScp, pos := ⟨652, 0, 666, 88⟩ }
theorem hd_def : defOf vw rwO.name = some (lawD, []) := by kernel_rfl
theorem hd_the : rwO.prog.theDef rwO.name = some (lawD.params, lawD.body, lawD.scope) := by kernel_rfl
theorem hd_ok : (chainsOk vw && opensWell rwO.prog && (frees rwO.toRowW && rwO.within.isEmpty)) = true := by kernel_rfl
theorem hd_prom : PySem.Challenge.rw_pq0241_01.row.toRowW.promised := by w_witness2
theorem hd (walk : WalkO vw lsN (XL vw []) hk.says rwO.toRowW lawD [] (fun f vs => PySem.call f vs)) : PySem.Challenge.rw_pq0241_01.Holds :=
  holds_law hd_said fun k => holds_open (r := rwO) (q := vw) (loose := lsN) (Xt := xt) (XP := XL vw []) (Yf := hk.obs) (Ya := hk.val) (YP := hk.says) (N := 20000) left_ok hk.of hk.keeps (fun s e => xl_of s (Bool.and_eq_true_iff.mp e).1) XL.keeps hd_def hd_the rfl (fun s e => recFacts_of (Bool.and_eq_true_iff.mp e).2) rfl k hd_ok ⟨rfl, rfl, rfl, rfl, rfl, by decide +kernel⟩ hd_prom walk
end Mine
end
section
set_option maxRecDepth 100000
set_option Elab.async false
set_option autoImplicit false
set_option linter.unusedVariables false
open PySem PySem.W PyProof.Rows
namespace Mine
noncomputable def ADl : List Nat := [21, 28, 35, 42, 49, 56, 63, 70, 77, 84, 91, 98, 105, 112, 126, 148, 162, 169, 176, 183, 190, 197, 204, 211, 218, 225, 232, 239, 246, 253, 267, 281, 288, 295, 302, 309, 316, 323, 330, 337, 344, 351, 358, 365, 372, 379, 386, 393, 400, 407, 414, 421, 428, 435, 442, 449, 456, 463, 470, 477, 484, 491, 498, 505, 512, 519, 526, 533, 540, 547, 554, 561, 568, 575, 582, 589, 596, 603, 610, 617, 624, 631, 638, 645, 652, 659, 666, 673, 680, 687, 694, 708, 751, 758, 765, 770, 777, 784]
noncomputable def ptAt (K : Frag) (a : Addr) : Option Pt := match K.lookup a with
  | some o => ptOf o
  | none => none
noncomputable def ccT (p : Pt) : CC := ⟨p.locs, p.scope.names, ANl, FNl, CLl, GLl⟩
noncomputable def fnT (p : Pt) : Fn := ⟨p.ps.length, p.locs.length, cB (ccT p) p.body⟩
theorem fs_eq : ∀ P : Params, (ADl.map fun a => (ptAt (KF P) a).map fnT) = FSl.map some := fun P => by kernel_rfl
noncomputable def chkAt (K : Frag) (a : Nat) : Bool := match ptAt K a with
  | some p => chkPt K p
  | none => false
theorem chk_all : ∀ P : Params, (ADl.all fun a => chkAt (KF P) a) = true := fun P => by kernel_rfl
noncomputable def bndAt (K : Frag) (vs : List Value) (a : Nat) : Option (List (Str × Value)) := match ptAt K a with
  | some p => pureOf (bindArgs p.fd ⟨vs.take p.ps.length, []⟩)
  | none => none
noncomputable def zipAt (K : Frag) (vs : List Value) (a : Nat) : Option (List (Str × Value)) := match ptAt K a with
  | some p => some (p.ps.zip (vs.take p.ps.length))
  | none => none
noncomputable def lenAt (K : Frag) (a : Nat) : Bool := match ptAt K a with
  | some p => Nat.ble p.ps.length 7
  | none => false
theorem len_all : ∀ P : Params, (ADl.all fun a => lenAt (KF P) a) = true := fun P => by kernel_rfl
theorem bnd_all : ∀ (P : Params) (v1 v2 v3 v4 v5 v6 v7 : Value), (ADl.map fun a => bndAt (KF P) [v1, v2, v3, v4, v5, v6, v7] a) = ADl.map fun a => zipAt (KF P) [v1, v2, v3, v4, v5, v6, v7] a := fun P v1 v2 v3 v4 v5 v6 v7 => by kernel_rfl
end Mine
end
section
set_option maxRecDepth 100000
set_option Elab.async false
set_option autoImplicit false
set_option linter.unusedVariables false
open PySem PySem.W PyProof.Rows
namespace Mine
noncomputable def nsFn (K : Frag) (q : Str × Nat) : Bool := match nsIn K mainGlobals q.1, lget ADl q.2 with
  | some (some (.ref a)), some b => Nat.beq a b && keepIn K (.ref a)
  | _, _ => false
theorem fn_all : ∀ P : Params, (FNl.all fun q => nsFn (KF P) q) = true := fun P => by kernel_rfl
noncomputable def nsGl (K : Frag) (q : Str × V) : Bool := match nsIn K mainGlobals q.1 with
  | some (some v) => vrB K 60 q.2 v
  | _ => false
theorem gl_all : ∀ P : Params, (GLl.all fun q => nsGl (KF P) q) = true := fun P => by kernel_rfl
theorem at_all : ∀ P : Params, ([151, 270, 711].all fun C => ANl.all fun nm => attrB (KF P) C nm) = true := fun P => by kernel_rfl
noncomputable def nsNo (K : Frag) (x : Str) : Bool := match nsIn K mainGlobals x with
  | some none => true
  | _ => false
theorem no_all : ∀ P : Params, ([Str.ofString "range", Str.ofString "len", Str.ofString "list", Str.ofString "int"].all fun x => nsNo (KF P) x) = true := fun P => by kernel_rfl
noncomputable def clAt (K : Frag) (x : Str) (C I : Nat) : Bool := match nsIn K mainGlobals x, findIn K (.ref C) "__init__" with
  | some (some (.ref a)), some (some (.ref b)) => Nat.beq a C && keepIn K (.ref C) && Nat.beq b I && makesIn K C && isFn K (.ref I)
  | _, _ => false
theorem cl_all : ∀ P : Params, (clAt (KF P) (Str.ofString "Geometry") 151 148 && clAt (KF P) (Str.ofString "Position") 270 267 && clAt (KF P) (Str.ofString "Zobrist") 711 708) = true := fun P => by kernel_rfl
theorem an_nd : nodupB ANl = true := by decide +kernel
end Mine
end
section
set_option maxRecDepth 100000
set_option Elab.async false
set_option autoImplicit false
set_option linter.unusedVariables false
open PySem PySem.Calls PyProof.Rows PySem.W PyProof.V
namespace Mine
structure WOk (W : Cs) (Pm : Params) : Prop where
  K : W.K = KF Pm
  an : W.an = ANl
  cls : W.cls = [151, 270, 711]
  gl : W.gl = GLl
  fns : W.fns = FNl
  ccls : W.ccls = CLl
  fad : W.fad = ADl
theorem ptAt_ok {K : Frag} {a : Addr} {p : Pt} (h : ptAt K a = some p) : ∃ o, K.lookup a = some o ∧ ptOf o = some p := by
  unfold ptAt at h
  split at h
  · rename_i o q; exact ⟨o, q, h⟩
  · cases h
theorem map_at {α β : Type} {l : List α} {f g : α → β} (h : l.map f = l.map g) {k : Nat} {a : α} (e : l[k]? = some a) : f a = g a := by
  have : (l.map f)[k]? = (l.map g)[k]? := by rw [h]
  rw [List.getElem?_map, List.getElem?_map, e] at this
  exact Option.some.inj this
theorem fill7 (vals : List Value) (h : vals.length ≤ 7) : ∃ v1 v2 v3 v4 v5 v6 v7 : Value, [v1, v2, v3, v4, v5, v6, v7].take vals.length = vals := by
  match vals, h with
  | [], _ => exact ⟨.none, .none, .none, .none, .none, .none, .none, rfl⟩
  | [a], _ => exact ⟨a, .none, .none, .none, .none, .none, .none, rfl⟩
  | [a, b], _ => exact ⟨a, b, .none, .none, .none, .none, .none, rfl⟩
  | [a, b, c], _ => exact ⟨a, b, c, .none, .none, .none, .none, rfl⟩
  | [a, b, c, d], _ => exact ⟨a, b, c, d, .none, .none, .none, rfl⟩
  | [a, b, c, d, e], _ => exact ⟨a, b, c, d, e, .none, .none, rfl⟩
  | [a, b, c, d, e, f], _ => exact ⟨a, b, c, d, e, f, .none, rfl⟩
  | [a, b, c, d, e, f, g], _ => exact ⟨a, b, c, d, e, f, g, rfl⟩
  | _ :: _ :: _ :: _ :: _ :: _ :: _ :: _ :: _, h => simp only [List.length_cons] at h; omega
theorem fnIs_tab {W : Cs} {Pm : Params} {Pr : Prog} (h : WOk W Pm) (hf : Pr.fns = FSl) {f : Nat} {fa : Addr} (e : lget ADl f = some fa) : FnIs W Pr f fa := by
  have e1 : ADl[f]? = some fa := lget_some.mp e
  have mem : fa ∈ ADl := List.mem_of_getElem? e1
  have q1 : (ADl.map fun a => (ptAt (KF Pm) a).map fnT)[f]? = (FSl.map some)[f]? := by rw [fs_eq Pm]
  rw [List.getElem?_map, List.getElem?_map, e1] at q1
  cases hF : FSl[f]? with
  | none => rw [hF] at q1; cases q1
  | some F =>
    rw [hF] at q1
    have q2 : (ptAt (KF Pm) fa).map fnT = some F := Option.some.inj q1
    cases hp : ptAt (KF Pm) fa with
    | none => rw [hp] at q2; cases q2
    | some p =>
      rw [hp] at q2
      have q3 : fnT p = F := Option.some.inj q2
      obtain ⟨o, ho, hpo⟩ := ptAt_ok hp
      have q4 : fnPt W p = fnT p := by
        show (⟨_, _, cB ⟨p.locs, p.scope.names, W.an, W.fns, W.ccls, W.gl⟩ p.body⟩ : Fn) = _
        rw [h.an, h.fns, h.ccls, h.gl]
        rfl
      have c1 : chkAt (KF Pm) fa = true := List.all_eq_true.mp (chk_all Pm) fa mem
      have c2 : lenAt (KF Pm) fa = true := List.all_eq_true.mp (len_all Pm) fa mem
      unfold chkAt at c1
      unfold lenAt at c2
      rw [hp] at c1 c2
      refine fnIs_of (p := p) (by rw [h.K]; exact ho) hpo (by rw [hf, lget_some, hF, q4, q3]) (by rw [h.K]; exact c1) (by rw [h.fad]; exact e) fun vals hv => ?_
      have hl : vals.length ≤ 7 := by rw [hv]; exact Nat.le_of_ble_eq_true c2
      obtain ⟨v1, v2, v3, v4, v5, v6, v7, ev⟩ := fill7 vals hl
      have b := map_at (bnd_all Pm v1 v2 v3 v4 v5 v6 v7) e1
      unfold bndAt zipAt at b
      rw [hp] at b
      dsimp only at b
      rw [← hv, ev] at b
      exact of_pureOf b
theorem gl_ok {W : Cs} {Pm : Params} {Pr : Prog} (h : WOk W Pm) (hf : Pr.fns = FSl) (hc : Pr.cls = [15, 30, 91]) : GlOk W Pr := by
  refine { gl := fun x v e => ?_, fns := fun x f e => ?_, cls := fun x k e => ?_, attr := fun C hC nm hn => ?_, an := by rw [h.an]; exact nodupB_ok an_nd, range := ?_, len := ?_, list := ?_, int := ?_, dbg := by rw [h.gl, h.fns, h.ccls]; exact ⟨by decide +kernel, by decide +kernel, by decide +kernel⟩ }
  · rw [h.gl] at e
    have c := List.all_eq_true.mp (gl_all Pm) (x, v) (mem_of_lookup_some e)
    unfold nsGl at c
    rw [h.K]
    split at c
    · rename_i val q
      exact ⟨val, q, vrB_ok (m := 60) (W := W.toCw) (by rw [h.K]; exact c)⟩
    · cases c
  · rw [h.fns] at e
    have c := List.all_eq_true.mp (fn_all Pm) (x, f) (mem_of_lookup_some e)
    unfold nsFn at c
    split at c
    · rename_i a b q1 q2
      rw [Bool.and_eq_true] at c
      have := Nat.eq_of_beq_eq_true c.1
      subst this
      exact ⟨a, by rw [h.K]; exact q1, by rw [h.K]; exact c.2, fnIs_tab h hf q2⟩
    · cases c
  · rw [h.ccls] at e
    have m := mem_of_lookup_some e
    have c := cl_all Pm
    rw [Bool.and_eq_true, Bool.and_eq_true] at c
    have key : ∀ {x : Str} {C I : Nat}, clAt (KF Pm) x C I = true → nsIn (KF Pm) mainGlobals x = some (some (.ref C)) ∧ keepIn (KF Pm) (.ref C) = true ∧ makesIn (KF Pm) C = true ∧ findIn (KF Pm) (.ref C) "__init__" = some (some (.ref I)) ∧ isFn (KF Pm) (.ref I) = true := fun {x C I} c => by
      unfold clAt at c
      split at c
      · rename_i a b q1 q2
        simp only [Bool.and_eq_true] at c
        obtain ⟨⟨⟨⟨c1, c2⟩, c3⟩, c4⟩, c5⟩ := c
        have z1 := Nat.eq_of_beq_eq_true c1
        have z2 := Nat.eq_of_beq_eq_true c3
        subst z1; subst z2
        exact ⟨q1, c2, c4, q2, c5⟩
      · cases c
    rw [h.K, h.cls, hc]
    rw [show CLl = [(Str.ofString "Geometry", 0), (Str.ofString "Position", 1), (Str.ofString "Zobrist", 2)] from rfl] at m
    simp only [List.mem_cons, List.not_mem_nil, or_false, Prod.mk.injEq] at m
    rcases m with ⟨rfl, rfl⟩ | ⟨rfl, rfl⟩ | ⟨rfl, rfl⟩
    · obtain ⟨a1, a2, a3, a4, a5⟩ := key c.1.1
      exact ⟨151, 15, 148, a1, a2, rfl, rfl, fnIs_tab h hf rfl, a3, a4, a5⟩
    · obtain ⟨a1, a2, a3, a4, a5⟩ := key c.1.2
      exact ⟨270, 30, 267, a1, a2, rfl, rfl, fnIs_tab h hf rfl, a3, a4, a5⟩
    · obtain ⟨a1, a2, a3, a4, a5⟩ := key c.2
      exact ⟨711, 91, 708, a1, a2, rfl, rfl, fnIs_tab h hf rfl, a3, a4, a5⟩
  · rw [h.cls] at hC
    rw [h.an] at hn
    rw [h.K]
    exact attrB_ok (List.all_eq_true.mp (List.all_eq_true.mp (at_all Pm) C hC) nm hn)
  all_goals
    rw [h.K]
    have c := List.all_eq_true.mp (no_all Pm)
    have key : ∀ {x : Str}, nsNo (KF Pm) x = true → nsIn (KF Pm) mainGlobals x = some none := fun {x} c => by
      unfold nsNo at c
      split at c
      · rename_i q; exact q
      · cases c
    exact key (c _ (by simp))
end Mine
end
section
set_option maxRecDepth 100000
set_option Elab.async false
set_option autoImplicit false
set_option linter.unusedVariables false
open PySem PySem.W
namespace Mine
noncomputable section
noncomputable def P0 : Prog := ⟨FSl, [15, 30, 91], fun _ _ _ => .fail⟩
noncomputable def plies : List V := [.n 0, .n 1, .n 2, .n 3, .n 4, .n 5, .n 6, .n 7, .n 8, .n 99, .n 100, .n 101, .n 150]
noncomputable def Hpl : Hp := .cons (.list plies) .nil
noncomputable def menOf (b : Nat) : V := match b with
  | 0 => .lst [.tup [.n 6, .n 4], .tup [.n 4, .n 15]]
  | 1 => .lst [.tup [.n 6, .n 2], .tup [.n 4, .n 15], .tup [.n 4, .n 11]]
  | 2 => .lst [.tup [.n 6, .n 10], .tup [.n 4, .n 9]]
  | 3 => .lst [.tup [.n 6, .n 3], .tup [.n 5, .n 10]]
  | 4 => .lst [.tup [.n 6, .n 0], .tup [.n 4, .n 15]]
  | 5 => .lst [.tup [.n 6, .n 0], .tup [.n 4, .n 2]]
  | _ => .lst [.tup [.n 6, .n 0]]
noncomputable def kgOf (b : Nat) : V := match b with
  | 5 => .n 15
  | 6 => .n 15
  | _ => .n 12
noncomputable def N0 : Nat := 120
noncomputable def posR (b : Nat) (tu mi : Bool) (x t : Nat) : R V := callF 95 P0 (ev P0 N0) [menOf b, kgOf b, .bool tu, .bool mi, .n x, .n t] Hpl
noncomputable def r_v (r : R V) : V := R.rec .un (fun v _ => v) r
noncomputable def r_h (r : R V) : Hp := R.rec .nil (fun _ h => h) r
noncomputable def hln (h : Hp) : Nat := Hp.rec 0 (fun _ _ n => Nat.succ n) (fun _ _ n => n) h
end
end Mine
end
section
set_option maxRecDepth 100000
set_option Elab.async false
set_option autoImplicit false
set_option linter.unusedVariables false
open PySem PySem.W
namespace Mine
noncomputable section
/-! the second level: the law's own run, with the position and its three questions given -/
noncomputable def holes (n : Nat) (r : Hp) : Hp := @Nat.rec (fun _ => Hp) r (fun _ h => .cons .hole h) n
noncomputable def keyA (t : Nat) : Nat := ifB (Nat.ble 2 t) 70 91
noncomputable def keyB (t : Nat) : Nat := ifB (Nat.ble 1 t) 70 95
noncomputable def hE (k : Nat) : V := .tup [.n 0, .n 0, .n 0, .n 0, .n 0, .n k]
noncomputable def histL (t : Nat) : List V := [hE 90, hE (keyA t), hE 92, hE 93, hE 94, hE (keyB t), hE 96, hE 97, hE 98]
noncomputable def sideN (tu : Bool) : Nat := ifB tu 0 1
noncomputable def posF (tu : Bool) (x : Nat) : Fs := .cons 15 (.obj 17) (.cons 16 (.obj 51) (.cons 17 (.obj 54) (.cons 18 (.obj 56) (.cons 19 (.obj 57) (.cons 20 (.n (sideN tu)) (.cons 21 (.n 0) (.cons 22 (.m 0) (.cons 23 (.n x) (.cons 5 (.n 1) (.cons 24 (.n 70) (.cons 25 (.obj 60) .nil)))))))))))
noncomputable def Hred (tu : Bool) (x t : Nat) : Hp := holes 52 (.cons (.inst 1 (posF tu x)) (holes 7 (.cons (.list (histL t)) .nil)))
noncomputable def legB (b : Nat) : Bool := Nat.ble 4 b
noncomputable def chkB (b : Nat) : Bool := match b with
  | 0 => true
  | 1 => true
  | 4 => true
  | _ => false
noncomputable def poorB (b : Nat) : Bool := Nat.beq b 6
structure Way where
  b : Nat
  tu : Nat
  mi : Nat
  i : Nat
  t : Nat
noncomputable def manyOf (p : Nat) : Nat := match p with
  | 0 => 7
  | 1 => 2
  | 2 => 2
  | 3 => 13
  | _ => 3
noncomputable def resOf (w : Way) (p : Nat) : Nat := match p with
  | 0 => w.b
  | 1 => w.tu
  | 2 => w.mi
  | 3 => w.i
  | _ => w.t
noncomputable def pliesN : List Nat := [0, 1, 2, 3, 4, 5, 6, 7, 8, 99, 100, 101, 150]
noncomputable def halfOf (i : Nat) : Nat := match lget pliesN i with
  | some n => n
  | none => 0
/-- two values alike, looked at as deep as n -/
noncomputable def vEq (n : Nat) : V → V → Bool := @Nat.rec (fun _ => V → V → Bool) (fun _ _ => false) (fun _ ih a b => match a, b with
  | .bool a, .bool b => beqBool a b
  | .n a, .n b => Nat.beq a b
  | .tup a, .tup b => @List.rec V (fun _ => List V → Bool) (fun l => @List.rec V (fun _ => Bool) true (fun _ _ _ => false) l) (fun x _ r l => @List.rec V (fun _ => Bool) false (fun y l _ => ifB (ih x y) (r l) false) l) a b
  | .lst a, .lst b => @List.rec V (fun _ => List V → Bool) (fun l => @List.rec V (fun _ => Bool) true (fun _ _ _ => false) l) (fun x _ r l => @List.rec V (fun _ => Bool) false (fun y l _ => ifB (ih x y) (r l) false) l) a b
  | _, _ => false) n
noncomputable def b01 (n : Nat) : Bool := Nat.beq n 1
noncomputable def argsOf (w : Way) : List V := [menOf w.b, kgOf w.b, .bool (b01 w.tu), .bool (b01 w.mi), .n (halfOf w.i), .n w.t]
noncomputable def conPos (w : Way) (vs : List V) (h : Hp) : R V := match h with
  | .cons (.list l) .nil => ifB (vEq 9 (.tup vs) (.tup (argsOf w))) (ifB (vEq 9 (.tup l) (.tup plies)) (.ok (.obj 52) (.frz 0 (Hred (b01 w.tu) (halfOf w.i) w.t))) .fail) .fail
  | _ => .fail
noncomputable def conQ (r : Bool) (vs : List V) (h : Hp) : R V := match vs, h with
  | [.obj k], .frz g r' => ifB (Nat.beq k 52) (ifB r (.ok (.bool true) (.frz g r')) (.ok (.bool false) (.frz g r'))) .fail
  | _, _ => .fail
noncomputable def conSaid (w : Way) (vs : List V) (h : Hp) : R V := match vs with
  | [.scr, .n p, .n m] => ifB (Nat.ble p 4) (ifB (Nat.beq m (manyOf p)) (forceN (resOf w p) fun r => .ok (.n r) h) .fail) .fail
  | _ => .fail
noncomputable def con2 (w : Way) (f : Nat) (vs : List V) (h : Hp) : R V := ifB (Nat.beq f 93) (conSaid w vs h) (ifB (Nat.beq f 95) (conPos w vs h) (ifB (Nat.beq f 75) (conQ (legB w.b) vs h) (ifB (Nat.beq f 45) (conQ (chkB w.b) vs h) (ifB (Nat.beq f 86) (conQ (poorB w.b) vs h) .fail))))
noncomputable def P2 (w : Way) : Prog := ⟨FSl, [15, 30, 91], con2 w⟩
noncomputable def N2 : Nat := 60
noncomputable def lawR (w : Way) : R V := callF 97 (P2 w) (ev (P2 w) N2) [.scr] .nil
noncomputable def isTr (r : R V) : Bool := R.rec false (fun v _ => match v with
  | .bool b => b
  | _ => false) r
end
end Mine
end
section
set_option maxRecDepth 100000
set_option Elab.async false
set_option autoImplicit false
set_option linter.unusedVariables false
open PySem PySem.W
namespace Mine
noncomputable def allB (b : Nat) : Bool := [0, 1].all fun tu => [0, 1].all fun mi => [0, 1, 2, 3, 4, 5, 6, 7, 8, 9, 10, 11, 12].all fun i => [0, 1, 2].all fun t => isTr (lawR ⟨b, tu, mi, i, t⟩)
theorem q20 : allB 0 = true := by kernel_rfl
theorem q21 : allB 1 = true := by kernel_rfl
theorem q22 : allB 2 = true := by kernel_rfl
theorem q23 : allB 3 = true := by kernel_rfl
theorem q24 : allB 4 = true := by kernel_rfl
theorem q25 : allB 5 = true := by kernel_rfl
theorem q26 : allB 6 = true := by kernel_rfl
theorem mem_upto {n : Nat} : ∀ {k : Nat}, k < n → k ∈ List.range n := fun h => List.mem_range.mpr h
theorem q2_all (b tu mi i t : Nat) (hb : b < 7) (h1 : tu < 2) (h2 : mi < 2) (h3 : i < 13) (h4 : t < 3) : isTr (lawR ⟨b, tu, mi, i, t⟩) = true := by
  have a : allB b = true := match b, hb with
    | 0, _ => q20
    | 1, _ => q21
    | 2, _ => q22
    | 3, _ => q23
    | 4, _ => q24
    | 5, _ => q25
    | 6, _ => q26
    | _ + 7, h => absurd h (by omega)
  unfold allB at a
  have a1 := List.all_eq_true.mp a tu (show tu ∈ List.range 2 from List.mem_range.mpr h1)
  have a2 := List.all_eq_true.mp a1 mi (show mi ∈ List.range 2 from List.mem_range.mpr h2)
  have a3 := List.all_eq_true.mp a2 i (show i ∈ List.range 13 from List.mem_range.mpr h3)
  exact List.all_eq_true.mp a3 t (show t ∈ List.range 3 from List.mem_range.mpr h4)
end Mine
end
section
set_option maxRecDepth 100000
set_option Elab.async false
set_option autoImplicit false
set_option linter.unusedVariables false
open PySem PySem.W
namespace Mine
noncomputable section
noncomputable def takeH (h : Hp) : Nat → Hp := @Hp.rec (fun _ => Nat → Hp) (fun _ => .nil) (fun o _ ih n => @Nat.rec (fun _ => Hp) .nil (fun n _ => .cons o (ih n)) n) (fun _ _ _ _ => .nil) h
structure Q8 where
  v : V
  fz : Bool
  ln : Nat
  o1 : Option AO
  o2 : Option AO
  a : Option (V × Hp)
  b : Option (V × Hp)
  c : Option (V × Hp)
  h : Hp
noncomputable def ask (f : Nat) (h : Hp) : Option (V × Hp) := @R.rec V (fun _ => Option (V × Hp)) none (fun v h1 => some (v, takeH h1 61)) (callF f P0 (ev P0 N0) [.obj 52] h)
noncomputable def sumR (r : R V) : Option Q8 := @R.rec V (fun _ => Option Q8) none (fun v h => some ⟨v, h.isFrz, hlen h, hget h 52, hget h 60, ask 75 h, ask 45 h, ask 86 h, h⟩) r
noncomputable def wantR (b : Nat) (tu : Bool) (x t : Nat) (r : R V) : Option Q8 := @R.rec V (fun _ => Option Q8) (some ⟨.no, false, 0, none, none, none, none, none, .nil⟩) (fun v h => some ⟨.obj 52, false, 61, some (.inst 1 (posF tu x)), some (.list (histL t)), some (.bool (legB b), h), some (.bool (chkB b), h), some (.bool (poorB b), h), h⟩) r
end
theorem q00ff0 : ∀ x : Nat, sumR (posR 0 false false x 0) = wantR 0 false x 0 (posR 0 false false x 0) := fun x => by kernel_rfl
theorem q00ff1 : ∀ x : Nat, sumR (posR 0 false false x 1) = wantR 0 false x 1 (posR 0 false false x 1) := fun x => by kernel_rfl
theorem q00ff2 : ∀ x : Nat, sumR (posR 0 false false x 2) = wantR 0 false x 2 (posR 0 false false x 2) := fun x => by kernel_rfl
theorem q00ft0 : ∀ x : Nat, sumR (posR 0 false true x 0) = wantR 0 false x 0 (posR 0 false true x 0) := fun x => by kernel_rfl
theorem q00ft1 : ∀ x : Nat, sumR (posR 0 false true x 1) = wantR 0 false x 1 (posR 0 false true x 1) := fun x => by kernel_rfl
theorem q00ft2 : ∀ x : Nat, sumR (posR 0 false true x 2) = wantR 0 false x 2 (posR 0 false true x 2) := fun x => by kernel_rfl
theorem q00tf0 : ∀ x : Nat, sumR (posR 0 true false x 0) = wantR 0 true x 0 (posR 0 true false x 0) := fun x => by kernel_rfl
theorem q00tf1 : ∀ x : Nat, sumR (posR 0 true false x 1) = wantR 0 true x 1 (posR 0 true false x 1) := fun x => by kernel_rfl
theorem q00tf2 : ∀ x : Nat, sumR (posR 0 true false x 2) = wantR 0 true x 2 (posR 0 true false x 2) := fun x => by kernel_rfl
theorem q00tt0 : ∀ x : Nat, sumR (posR 0 true true x 0) = wantR 0 true x 0 (posR 0 true true x 0) := fun x => by kernel_rfl
theorem q00tt1 : ∀ x : Nat, sumR (posR 0 true true x 1) = wantR 0 true x 1 (posR 0 true true x 1) := fun x => by kernel_rfl
theorem q00tt2 : ∀ x : Nat, sumR (posR 0 true true x 2) = wantR 0 true x 2 (posR 0 true true x 2) := fun x => by kernel_rfl
theorem q01ff0 : ∀ x : Nat, sumR (posR 1 false false x 0) = wantR 1 false x 0 (posR 1 false false x 0) := fun x => by kernel_rfl
theorem q01ff1 : ∀ x : Nat, sumR (posR 1 false false x 1) = wantR 1 false x 1 (posR 1 false false x 1) := fun x => by kernel_rfl
theorem q01ff2 : ∀ x : Nat, sumR (posR 1 false false x 2) = wantR 1 false x 2 (posR 1 false false x 2) := fun x => by kernel_rfl
theorem q01ft0 : ∀ x : Nat, sumR (posR 1 false true x 0) = wantR 1 false x 0 (posR 1 false true x 0) := fun x => by kernel_rfl
theorem q01ft1 : ∀ x : Nat, sumR (posR 1 false true x 1) = wantR 1 false x 1 (posR 1 false true x 1) := fun x => by kernel_rfl
theorem q01ft2 : ∀ x : Nat, sumR (posR 1 false true x 2) = wantR 1 false x 2 (posR 1 false true x 2) := fun x => by kernel_rfl
theorem q01tf0 : ∀ x : Nat, sumR (posR 1 true false x 0) = wantR 1 true x 0 (posR 1 true false x 0) := fun x => by kernel_rfl
theorem q01tf1 : ∀ x : Nat, sumR (posR 1 true false x 1) = wantR 1 true x 1 (posR 1 true false x 1) := fun x => by kernel_rfl
theorem q01tf2 : ∀ x : Nat, sumR (posR 1 true false x 2) = wantR 1 true x 2 (posR 1 true false x 2) := fun x => by kernel_rfl
theorem q01tt0 : ∀ x : Nat, sumR (posR 1 true true x 0) = wantR 1 true x 0 (posR 1 true true x 0) := fun x => by kernel_rfl
theorem q01tt1 : ∀ x : Nat, sumR (posR 1 true true x 1) = wantR 1 true x 1 (posR 1 true true x 1) := fun x => by kernel_rfl
theorem q01tt2 : ∀ x : Nat, sumR (posR 1 true true x 2) = wantR 1 true x 2 (posR 1 true true x 2) := fun x => by kernel_rfl
theorem q02ff0 : ∀ x : Nat, sumR (posR 2 false false x 0) = wantR 2 false x 0 (posR 2 false false x 0) := fun x => by kernel_rfl
theorem q02ff1 : ∀ x : Nat, sumR (posR 2 false false x 1) = wantR 2 false x 1 (posR 2 false false x 1) := fun x => by kernel_rfl
theorem q02ff2 : ∀ x : Nat, sumR (posR 2 false false x 2) = wantR 2 false x 2 (posR 2 false false x 2) := fun x => by kernel_rfl
theorem q02ft0 : ∀ x : Nat, sumR (posR 2 false true x 0) = wantR 2 false x 0 (posR 2 false true x 0) := fun x => by kernel_rfl
theorem q02ft1 : ∀ x : Nat, sumR (posR 2 false true x 1) = wantR 2 false x 1 (posR 2 false true x 1) := fun x => by kernel_rfl
theorem q02ft2 : ∀ x : Nat, sumR (posR 2 false true x 2) = wantR 2 false x 2 (posR 2 false true x 2) := fun x => by kernel_rfl
theorem q02tf0 : ∀ x : Nat, sumR (posR 2 true false x 0) = wantR 2 true x 0 (posR 2 true false x 0) := fun x => by kernel_rfl
theorem q02tf1 : ∀ x : Nat, sumR (posR 2 true false x 1) = wantR 2 true x 1 (posR 2 true false x 1) := fun x => by kernel_rfl
theorem q02tf2 : ∀ x : Nat, sumR (posR 2 true false x 2) = wantR 2 true x 2 (posR 2 true false x 2) := fun x => by kernel_rfl
theorem q02tt0 : ∀ x : Nat, sumR (posR 2 true true x 0) = wantR 2 true x 0 (posR 2 true true x 0) := fun x => by kernel_rfl
theorem q02tt1 : ∀ x : Nat, sumR (posR 2 true true x 1) = wantR 2 true x 1 (posR 2 true true x 1) := fun x => by kernel_rfl
theorem q02tt2 : ∀ x : Nat, sumR (posR 2 true true x 2) = wantR 2 true x 2 (posR 2 true true x 2) := fun x => by kernel_rfl
theorem q03ff0 : ∀ x : Nat, sumR (posR 3 false false x 0) = wantR 3 false x 0 (posR 3 false false x 0) := fun x => by kernel_rfl
theorem q03ff1 : ∀ x : Nat, sumR (posR 3 false false x 1) = wantR 3 false x 1 (posR 3 false false x 1) := fun x => by kernel_rfl
theorem q03ff2 : ∀ x : Nat, sumR (posR 3 false false x 2) = wantR 3 false x 2 (posR 3 false false x 2) := fun x => by kernel_rfl
theorem q03ft0 : ∀ x : Nat, sumR (posR 3 false true x 0) = wantR 3 false x 0 (posR 3 false true x 0) := fun x => by kernel_rfl
theorem q03ft1 : ∀ x : Nat, sumR (posR 3 false true x 1) = wantR 3 false x 1 (posR 3 false true x 1) := fun x => by kernel_rfl
theorem q03ft2 : ∀ x : Nat, sumR (posR 3 false true x 2) = wantR 3 false x 2 (posR 3 false true x 2) := fun x => by kernel_rfl
theorem q03tf0 : ∀ x : Nat, sumR (posR 3 true false x 0) = wantR 3 true x 0 (posR 3 true false x 0) := fun x => by kernel_rfl
theorem q03tf1 : ∀ x : Nat, sumR (posR 3 true false x 1) = wantR 3 true x 1 (posR 3 true false x 1) := fun x => by kernel_rfl
theorem q03tf2 : ∀ x : Nat, sumR (posR 3 true false x 2) = wantR 3 true x 2 (posR 3 true false x 2) := fun x => by kernel_rfl
theorem q03tt0 : ∀ x : Nat, sumR (posR 3 true true x 0) = wantR 3 true x 0 (posR 3 true true x 0) := fun x => by kernel_rfl
theorem q03tt1 : ∀ x : Nat, sumR (posR 3 true true x 1) = wantR 3 true x 1 (posR 3 true true x 1) := fun x => by kernel_rfl
theorem q03tt2 : ∀ x : Nat, sumR (posR 3 true true x 2) = wantR 3 true x 2 (posR 3 true true x 2) := fun x => by kernel_rfl
theorem q04ff0 : ∀ x : Nat, sumR (posR 4 false false x 0) = wantR 4 false x 0 (posR 4 false false x 0) := fun x => by kernel_rfl
theorem q04ff1 : ∀ x : Nat, sumR (posR 4 false false x 1) = wantR 4 false x 1 (posR 4 false false x 1) := fun x => by kernel_rfl
theorem q04ff2 : ∀ x : Nat, sumR (posR 4 false false x 2) = wantR 4 false x 2 (posR 4 false false x 2) := fun x => by kernel_rfl
theorem q04ft0 : ∀ x : Nat, sumR (posR 4 false true x 0) = wantR 4 false x 0 (posR 4 false true x 0) := fun x => by kernel_rfl
theorem q04ft1 : ∀ x : Nat, sumR (posR 4 false true x 1) = wantR 4 false x 1 (posR 4 false true x 1) := fun x => by kernel_rfl
theorem q04ft2 : ∀ x : Nat, sumR (posR 4 false true x 2) = wantR 4 false x 2 (posR 4 false true x 2) := fun x => by kernel_rfl
theorem q04tf0 : ∀ x : Nat, sumR (posR 4 true false x 0) = wantR 4 true x 0 (posR 4 true false x 0) := fun x => by kernel_rfl
theorem q04tf1 : ∀ x : Nat, sumR (posR 4 true false x 1) = wantR 4 true x 1 (posR 4 true false x 1) := fun x => by kernel_rfl
theorem q04tf2 : ∀ x : Nat, sumR (posR 4 true false x 2) = wantR 4 true x 2 (posR 4 true false x 2) := fun x => by kernel_rfl
theorem q04tt0 : ∀ x : Nat, sumR (posR 4 true true x 0) = wantR 4 true x 0 (posR 4 true true x 0) := fun x => by kernel_rfl
theorem q04tt1 : ∀ x : Nat, sumR (posR 4 true true x 1) = wantR 4 true x 1 (posR 4 true true x 1) := fun x => by kernel_rfl
theorem q04tt2 : ∀ x : Nat, sumR (posR 4 true true x 2) = wantR 4 true x 2 (posR 4 true true x 2) := fun x => by kernel_rfl
theorem q05ff0 : ∀ x : Nat, sumR (posR 5 false false x 0) = wantR 5 false x 0 (posR 5 false false x 0) := fun x => by kernel_rfl
theorem q05ff1 : ∀ x : Nat, sumR (posR 5 false false x 1) = wantR 5 false x 1 (posR 5 false false x 1) := fun x => by kernel_rfl
theorem q05ff2 : ∀ x : Nat, sumR (posR 5 false false x 2) = wantR 5 false x 2 (posR 5 false false x 2) := fun x => by kernel_rfl
theorem q05ft0 : ∀ x : Nat, sumR (posR 5 false true x 0) = wantR 5 false x 0 (posR 5 false true x 0) := fun x => by kernel_rfl
theorem q05ft1 : ∀ x : Nat, sumR (posR 5 false true x 1) = wantR 5 false x 1 (posR 5 false true x 1) := fun x => by kernel_rfl
theorem q05ft2 : ∀ x : Nat, sumR (posR 5 false true x 2) = wantR 5 false x 2 (posR 5 false true x 2) := fun x => by kernel_rfl
theorem q05tf0 : ∀ x : Nat, sumR (posR 5 true false x 0) = wantR 5 true x 0 (posR 5 true false x 0) := fun x => by kernel_rfl
theorem q05tf1 : ∀ x : Nat, sumR (posR 5 true false x 1) = wantR 5 true x 1 (posR 5 true false x 1) := fun x => by kernel_rfl
theorem q05tf2 : ∀ x : Nat, sumR (posR 5 true false x 2) = wantR 5 true x 2 (posR 5 true false x 2) := fun x => by kernel_rfl
theorem q05tt0 : ∀ x : Nat, sumR (posR 5 true true x 0) = wantR 5 true x 0 (posR 5 true true x 0) := fun x => by kernel_rfl
theorem q05tt1 : ∀ x : Nat, sumR (posR 5 true true x 1) = wantR 5 true x 1 (posR 5 true true x 1) := fun x => by kernel_rfl
theorem q05tt2 : ∀ x : Nat, sumR (posR 5 true true x 2) = wantR 5 true x 2 (posR 5 true true x 2) := fun x => by kernel_rfl
theorem q06ff0 : ∀ x : Nat, sumR (posR 6 false false x 0) = wantR 6 false x 0 (posR 6 false false x 0) := fun x => by kernel_rfl
theorem q06ff1 : ∀ x : Nat, sumR (posR 6 false false x 1) = wantR 6 false x 1 (posR 6 false false x 1) := fun x => by kernel_rfl
theorem q06ff2 : ∀ x : Nat, sumR (posR 6 false false x 2) = wantR 6 false x 2 (posR 6 false false x 2) := fun x => by kernel_rfl
theorem q06ft0 : ∀ x : Nat, sumR (posR 6 false true x 0) = wantR 6 false x 0 (posR 6 false true x 0) := fun x => by kernel_rfl
theorem q06ft1 : ∀ x : Nat, sumR (posR 6 false true x 1) = wantR 6 false x 1 (posR 6 false true x 1) := fun x => by kernel_rfl
theorem q06ft2 : ∀ x : Nat, sumR (posR 6 false true x 2) = wantR 6 false x 2 (posR 6 false true x 2) := fun x => by kernel_rfl
theorem q06tf0 : ∀ x : Nat, sumR (posR 6 true false x 0) = wantR 6 true x 0 (posR 6 true false x 0) := fun x => by kernel_rfl
theorem q06tf1 : ∀ x : Nat, sumR (posR 6 true false x 1) = wantR 6 true x 1 (posR 6 true false x 1) := fun x => by kernel_rfl
theorem q06tf2 : ∀ x : Nat, sumR (posR 6 true false x 2) = wantR 6 true x 2 (posR 6 true false x 2) := fun x => by kernel_rfl
theorem q06tt0 : ∀ x : Nat, sumR (posR 6 true true x 0) = wantR 6 true x 0 (posR 6 true true x 0) := fun x => by kernel_rfl
theorem q06tt1 : ∀ x : Nat, sumR (posR 6 true true x 1) = wantR 6 true x 1 (posR 6 true true x 1) := fun x => by kernel_rfl
theorem q06tt2 : ∀ x : Nat, sumR (posR 6 true true x 2) = wantR 6 true x 2 (posR 6 true true x 2) := fun x => by kernel_rfl
theorem q0_all : ∀ (b : Nat) (tu mi : Bool) (x t : Nat), b < 7 → t < 3 → sumR (posR b tu mi x t) = wantR b tu x t (posR b tu mi x t)
  | 0, false, false, x, 0, _, _ => q00ff0 x
  | 0, false, false, x, 1, _, _ => q00ff1 x
  | 0, false, false, x, 2, _, _ => q00ff2 x
  | 0, false, true, x, 0, _, _ => q00ft0 x
  | 0, false, true, x, 1, _, _ => q00ft1 x
  | 0, false, true, x, 2, _, _ => q00ft2 x
  | 0, true, false, x, 0, _, _ => q00tf0 x
  | 0, true, false, x, 1, _, _ => q00tf1 x
  | 0, true, false, x, 2, _, _ => q00tf2 x
  | 0, true, true, x, 0, _, _ => q00tt0 x
  | 0, true, true, x, 1, _, _ => q00tt1 x
  | 0, true, true, x, 2, _, _ => q00tt2 x
  | 1, false, false, x, 0, _, _ => q01ff0 x
  | 1, false, false, x, 1, _, _ => q01ff1 x
  | 1, false, false, x, 2, _, _ => q01ff2 x
  | 1, false, true, x, 0, _, _ => q01ft0 x
  | 1, false, true, x, 1, _, _ => q01ft1 x
  | 1, false, true, x, 2, _, _ => q01ft2 x
  | 1, true, false, x, 0, _, _ => q01tf0 x
  | 1, true, false, x, 1, _, _ => q01tf1 x
  | 1, true, false, x, 2, _, _ => q01tf2 x
  | 1, true, true, x, 0, _, _ => q01tt0 x
  | 1, true, true, x, 1, _, _ => q01tt1 x
  | 1, true, true, x, 2, _, _ => q01tt2 x
  | 2, false, false, x, 0, _, _ => q02ff0 x
  | 2, false, false, x, 1, _, _ => q02ff1 x
  | 2, false, false, x, 2, _, _ => q02ff2 x
  | 2, false, true, x, 0, _, _ => q02ft0 x
  | 2, false, true, x, 1, _, _ => q02ft1 x
  | 2, false, true, x, 2, _, _ => q02ft2 x
  | 2, true, false, x, 0, _, _ => q02tf0 x
  | 2, true, false, x, 1, _, _ => q02tf1 x
  | 2, true, false, x, 2, _, _ => q02tf2 x
  | 2, true, true, x, 0, _, _ => q02tt0 x
  | 2, true, true, x, 1, _, _ => q02tt1 x
  | 2, true, true, x, 2, _, _ => q02tt2 x
  | 3, false, false, x, 0, _, _ => q03ff0 x
  | 3, false, false, x, 1, _, _ => q03ff1 x
  | 3, false, false, x, 2, _, _ => q03ff2 x
  | 3, false, true, x, 0, _, _ => q03ft0 x
  | 3, false, true, x, 1, _, _ => q03ft1 x
  | 3, false, true, x, 2, _, _ => q03ft2 x
  | 3, true, false, x, 0, _, _ => q03tf0 x
  | 3, true, false, x, 1, _, _ => q03tf1 x
  | 3, true, false, x, 2, _, _ => q03tf2 x
  | 3, true, true, x, 0, _, _ => q03tt0 x
  | 3, true, true, x, 1, _, _ => q03tt1 x
  | 3, true, true, x, 2, _, _ => q03tt2 x
  | 4, false, false, x, 0, _, _ => q04ff0 x
  | 4, false, false, x, 1, _, _ => q04ff1 x
  | 4, false, false, x, 2, _, _ => q04ff2 x
  | 4, false, true, x, 0, _, _ => q04ft0 x
  | 4, false, true, x, 1, _, _ => q04ft1 x
  | 4, false, true, x, 2, _, _ => q04ft2 x
  | 4, true, false, x, 0, _, _ => q04tf0 x
  | 4, true, false, x, 1, _, _ => q04tf1 x
  | 4, true, false, x, 2, _, _ => q04tf2 x
  | 4, true, true, x, 0, _, _ => q04tt0 x
  | 4, true, true, x, 1, _, _ => q04tt1 x
  | 4, true, true, x, 2, _, _ => q04tt2 x
  | 5, false, false, x, 0, _, _ => q05ff0 x
  | 5, false, false, x, 1, _, _ => q05ff1 x
  | 5, false, false, x, 2, _, _ => q05ff2 x
  | 5, false, true, x, 0, _, _ => q05ft0 x
  | 5, false, true, x, 1, _, _ => q05ft1 x
  | 5, false, true, x, 2, _, _ => q05ft2 x
  | 5, true, false, x, 0, _, _ => q05tf0 x
  | 5, true, false, x, 1, _, _ => q05tf1 x
  | 5, true, false, x, 2, _, _ => q05tf2 x
  | 5, true, true, x, 0, _, _ => q05tt0 x
  | 5, true, true, x, 1, _, _ => q05tt1 x
  | 5, true, true, x, 2, _, _ => q05tt2 x
  | 6, false, false, x, 0, _, _ => q06ff0 x
  | 6, false, false, x, 1, _, _ => q06ff1 x
  | 6, false, false, x, 2, _, _ => q06ff2 x
  | 6, false, true, x, 0, _, _ => q06ft0 x
  | 6, false, true, x, 1, _, _ => q06ft1 x
  | 6, false, true, x, 2, _, _ => q06ft2 x
  | 6, true, false, x, 0, _, _ => q06tf0 x
  | 6, true, false, x, 1, _, _ => q06tf1 x
  | 6, true, false, x, 2, _, _ => q06tf2 x
  | 6, true, true, x, 0, _, _ => q06tt0 x
  | 6, true, true, x, 1, _, _ => q06tt1 x
  | 6, true, true, x, 2, _, _ => q06tt2 x
  | _ + 7, _, _, _, _, h, _ => absurd h (by omega)
  | _, _, _, _, _ + 3, _, h => absurd h (by omega)
end Mine
end
section
set_option maxRecDepth 100000
set_option Elab.async false
set_option autoImplicit false
set_option linter.unusedVariables false
open PySem PySem.Calls PyProof.Rows PySem.W PyProof.V
namespace Mine
theorem takeH_get : ∀ {h : Hp} {n k : Nat} {o : AO}, hget (takeH h n) k = some o → hget h k = some o
  | .nil, n, k, o, e => e
  | .frz g r, n, k, o, e => by cases e
  | .cons a r, n, k, o, e => by
    cases n with
    | zero => cases e
    | succ n =>
      cases k with
      | zero => exact e
      | succ k => exact takeH_get (h := r) (n := n) (k := k) e
noncomputable def AskOk (f : Nat) (b : Bool) (h : Hp) : Prop := ∃ h1, callF f P0 (ev P0 N0) [.obj 52] h = .ok (.bool b) h1 ∧ h1.isFrz = false ∧ ∀ k o, hget h k = some o → hget h1 k = some o
theorem ask_ok {f : Nat} {b : Bool} {h : Hp} (hl : hlen h = 61) (e : ask f h = some (.bool b, h)) : AskOk f b h := by
  unfold ask at e
  cases q : callF f P0 (ev P0 N0) [.obj 52] h with
  | fail => rw [q] at e; cases e
  | ok v h1 =>
    rw [q] at e
    have e : some (v, takeH h1 61) = some (.bool b, h) := e
    have e1 : v = .bool b := congrArg Prod.fst (Option.some.inj e)
    have e2 : takeH h1 61 = h := congrArg Prod.snd (Option.some.inj e)
    subst e1
    refine ⟨h1, q, ?_, fun k o z => takeH_get (n := 61) (by rw [e2]; exact z)⟩
    cases h1 with
    | nil => rfl
    | cons a r => rfl
    | frz g r =>
      have : h = .nil := e2.symm
      rw [this] at hl
      exact absurd hl (by decide)
structure PosOk (w : Way) (h : Hp) : Prop where
  run : callF 95 P0 (ev P0 N0) (argsOf w) Hpl = .ok (.obj 52) h
  fz : h.isFrz = false
  o1 : hget h 52 = some (.inst 1 (posF (b01 w.tu) (halfOf w.i)))
  o2 : hget h 60 = some (.list (histL w.t))
  a : AskOk 75 (legB w.b) h
  b : AskOk 45 (chkB w.b) h
  c : AskOk 86 (poorB w.b) h
theorem pos_ok (w : Way) (hb : w.b < 7) (ht : w.t < 3) : ∃ h, PosOk w h := by
  have e := q0_all w.b (b01 w.tu) (b01 w.mi) (halfOf w.i) w.t hb ht
  cases q : posR w.b (b01 w.tu) (b01 w.mi) (halfOf w.i) w.t with
  | fail => rw [q] at e; cases e
  | ok v h =>
    rw [q] at e
    have e : some (⟨v, h.isFrz, hlen h, hget h 52, hget h 60, ask 75 h, ask 45 h, ask 86 h, h⟩ : Q8) = some ⟨.obj 52, false, 61, some (.inst 1 (posF (b01 w.tu) (halfOf w.i))), some (.list (histL w.t)), some (.bool (legB w.b), h), some (.bool (chkB w.b), h), some (.bool (poorB w.b), h), h⟩ := e
    have e := Option.some.inj e
    have e1 := congrArg Q8.v e
    have e2 := congrArg Q8.fz e
    have e3 := congrArg Q8.ln e
    have e4 := congrArg Q8.o1 e
    have e5 := congrArg Q8.o2 e
    have e6 := congrArg Q8.a e
    have e7 := congrArg Q8.b e
    have e8 := congrArg Q8.c e
    dsimp only at e1 e2 e3 e4 e5 e6 e7 e8
    subst e1
    exact ⟨h, q, e2, e4, e5, ask_ok e3 e6, ask_ok e3 e7, ask_ok e3 e8⟩
theorem holes_get {r : Hp} : ∀ {n k : Nat} {o : AO}, hget (holes n r) k = some o → o ≠ .hole → n ≤ k ∧ hget r (k - n) = some o
  | 0, k, o, e, ne => ⟨Nat.zero_le _, e⟩
  | n + 1, k, o, e, ne => by
    cases k with
    | zero =>
      have : o = .hole := (Option.some.inj e).symm
      exact absurd this ne
    | succ k =>
      obtain ⟨a, b⟩ := holes_get (n := n) (k := k) (o := o) e ne
      exact ⟨Nat.succ_le_succ a, by rw [Nat.succ_sub_succ]; exact b⟩
theorem red_get {tu : Bool} {x t k : Nat} {o : AO} (e : hget (Hred tu x t) k = some o) (ne : o ≠ .hole) : (k = 52 ∧ o = .inst 1 (posF tu x)) ∨ (k = 60 ∧ o = .list (histL t)) := by
  obtain ⟨a, b⟩ := holes_get (n := 52) e ne
  obtain ⟨j, rfl⟩ : ∃ j, k = j + 52 := ⟨k - 52, by omega⟩
  rw [Nat.add_sub_cancel] at b
  cases j with
  | zero => exact .inl ⟨rfl, (Option.some.inj b).symm⟩
  | succ j =>
    have b' : hget (holes 7 (.cons (.list (histL t)) .nil)) j = some o := b
    obtain ⟨a2, b2⟩ := holes_get (n := 7) (k := j) b' ne
    obtain ⟨i, rfl⟩ : ∃ i, j = i + 7 := ⟨j - 7, by omega⟩
    rw [Nat.add_sub_cancel] at b2
    cases i with
    | zero => exact .inr ⟨rfl, (Option.some.inj b2).symm⟩
    | succ i => cases b2
theorem vEq_ok : ∀ (n : Nat) {a b : V}, vEq n a b = true → a = b
  | 0, a, b, e => by cases e
  | n + 1, a, b, e => by
    have key : ∀ (la lb : List V), (@List.rec V (fun _ => List V → Bool) (fun l => @List.rec V (fun _ => Bool) true (fun _ _ _ => false) l) (fun x _ r l => @List.rec V (fun _ => Bool) false (fun y l _ => ifB (vEq n x y) (r l) false) l) la lb) = true → la = lb := by
      intro la
      induction la with
      | nil => intro lb e; cases lb with
        | nil => rfl
        | cons y l => cases e
      | cons x la ih =>
        intro lb e
        cases lb with
        | nil => cases e
        | cons y lb =>
          have e : ifB (vEq n x y) (@List.rec V (fun _ => List V → Bool) (fun l => @List.rec V (fun _ => Bool) true (fun _ _ _ => false) l) (fun x _ r l => @List.rec V (fun _ => Bool) false (fun y l _ => ifB (vEq n x y) (r l) false) l) la lb) false = true := e
          cases q : vEq n x y with
          | false => rw [q] at e; cases e
          | true => rw [q] at e; rw [vEq_ok n q, ih lb e]
    have e' : (match (generalizing := false) a, b with
      | .bool a, .bool b => beqBool a b
      | .n a, .n b => Nat.beq a b
      | .tup a, .tup b => @List.rec V (fun _ => List V → Bool) (fun l => @List.rec V (fun _ => Bool) true (fun _ _ _ => false) l) (fun x _ r l => @List.rec V (fun _ => Bool) false (fun y l _ => ifB (vEq n x y) (r l) false) l) a b
      | .lst a, .lst b => @List.rec V (fun _ => List V → Bool) (fun l => @List.rec V (fun _ => Bool) true (fun _ _ _ => false) l) (fun x _ r l => @List.rec V (fun _ => Bool) false (fun y l _ => ifB (vEq n x y) (r l) false) l) a b
      | _, _ => false) = true := e
    split at e'
    · rename_i a b
      cases a <;> cases b <;> first | rfl | (simp [beqBool] at e')
    · rw [Nat.eq_of_beq_eq_true e']
    · rw [key _ _ e']
    · rw [key _ _ e']
    · cases e'
end Mine
end
section
set_option maxRecDepth 100000
set_option Elab.async false
set_option autoImplicit false
set_option linter.unusedVariables false
open PySem PySem.Calls PyProof.Rows PySem.W PyProof.V
namespace Mine
noncomputable abbrev W2 (W : Cs) (w : Way) : Cs := W.lev (fun _ Hf => PosOk w Hf) N0
noncomputable def ConS (W : Cs) (n : Nat) (fa : Addr) (con : List V → Hp → R V) : Prop := ∀ (I : Fi), I.Ok W n → ∀ vs h v h', con vs h = .ok v h' →
  ∀ names ex l m D (s : Shared) vals, SR W I names ex l h s.heap m D → VRs W.toCw D vs vals → ∀ A : Around, A.handled = none → A.frames = some (I.env :: I.outer) → A.depth ≤ I.dp + 1 → A.units ≤ I.un + 8 → ∀ R : Result → Shared → Prop,
    (∀ val hp tk D', Ext D D' → SR W I names ex l h' hp m D' → VR W.toCw D' v val → R (.ok (.ret val)) { s with heap := hp, toks := tk }) → codeAny (model W.prog W.w) A (.call (.ref fa) ⟨vals, []⟩) R s
section
variable {W : Cs} {Pm : Params} {w : Way} {n : Nat} {fa : Addr}
theorem lv0 (hW : WOk W Pm) : ∀ n, n ≤ N0 → Lv W P0 n := lv_of (gl_ok hW rfl rfl) N0 fun n _ f fa _ I _ vs h v h' e => by cases e
theorem con_q (hW : WOk W Pm) (h0 : W.bud = 0) {b : Bool} {f : Nat} (hq : ∀ h, PosOk w h → AskOk f b h) (hf : FnIs W P0 f fa) : ConS (W2 W w) n fa (conQ b) := by
  intro I ok vs h v h' e names ex l m D s vals S Vv A hA1 hA2 hA3 hA4 R hR
  unfold conQ at e
  split at e
  · rename_i k g r'
    obtain ⟨hk, e⟩ := ifB_ok e
    have hk := Nat.eq_of_beq_eq_true hk
    subst hk
    have ev : v = .bool b ∧ h' = .frz g r' := by
      cases b with
      | true => obtain ⟨x, y⟩ := R_eq (show Mine.R.ok (V.bool true) (.frz g r') = .ok v h' from e); exact ⟨x.symm, y.symm⟩
      | false => obtain ⟨x, y⟩ := R_eq (show Mine.R.ok (V.bool false) (.frz g r') = .ok v h' from e); exact ⟨x.symm, y.symm⟩
    obtain ⟨rfl, rfl⟩ := ev
    obtain ⟨Hf, hp, hr, S0⟩ := S.melt
    have S0 := S0 hp.fz
    obtain ⟨h1, e1, f1, pre⟩ := hq Hf hp
    refine (lv0 hW N0 (Nat.le_refl _)).call f fa hf I (ok.unlev h0 (Nat.le_refl _)) _ Hf _ h1 e1 names ex l m D s vals S0 Vv A hA1 hA2 hA3 hA4 R fun val hp' tk D' X S' V' => ?_
    obtain ⟨X2, S2⟩ := S0.drop S' X hp.fz f1 pre
    refine hR val hp' tk _ X2 (S2.freeze hp.fz hp hr) ?_
    cases V' with
    | bool => exact .bool _
    | int t hi => cases hi
  · cases e
theorem con_pos (hW : WOk W Pm) (h0 : W.bud = 0) (hb : w.b < 7) (ht : w.t < 3) (hf : FnIs W P0 95 fa) : ConS (W2 W w) n fa (conPos w) := by
  intro I ok vs h v h' e names ex l m D s vals S Vv A hA1 hA2 hA3 hA4 R hR
  unfold conPos at e
  split at e
  · rename_i ll
    obtain ⟨h1, e⟩ := ifB_ok e
    obtain ⟨h2, e⟩ := ifB_ok e
    obtain ⟨rfl, rfl⟩ := R_eq e
    have q1 : vs = argsOf w := V.tup.inj (vEq_ok 9 h1)
    have q2 : ll = plies := V.tup.inj (vEq_ok 9 h2)
    subst q1; subst q2
    obtain ⟨Hf, hp⟩ := pos_ok w hb ht
    refine (lv0 hW N0 (Nat.le_refl _)).call 95 fa hf I (ok.unlev h0 (Nat.le_refl _)) (argsOf w) Hpl _ Hf hp.run names ex l m D s vals (S.unlev rfl) Vv A hA1 hA2 hA3 hA4 R fun val hp' tk D' X S1 V1 => ?_
    refine hR val hp' tk D' X (S1.freeze hp.fz hp fun k o e ne => ?_) V1
    rcases red_get e ne with ⟨rfl, rfl⟩ | ⟨rfl, rfl⟩
    · exact hp.o1
    · exact hp.o2
  · cases e
theorem con_all (hW : WOk W Pm) (h0 : W.bud = 0) (hb : w.b < 7) (ht : w.t < 3) (hS : ConS (W2 W w) n 758 (conSaid w)) {f : Nat} (hf : FnIs (W2 W w) (P2 w) f fa) : ConSnd (W2 W w) (P2 w) n f fa := by
  have ha : lget ADl f = some fa := by
    obtain ⟨ps, fn, name, qual, params, body, scope, dV, kV, doc, pm, cdv, ct, oc, an, od, osl, c, T⟩ := hf
    have := T.adr
    rw [show (W2 W w).fad = W.fad from rfl, hW.fad] at this
    exact this
  have hf0 : FnIs W P0 f fa := fnIs_tab hW rfl ha
  intro I ok vs h v h' e
  have e : ifB (Nat.beq f 93) (conSaid w vs h) (ifB (Nat.beq f 95) (conPos w vs h) (ifB (Nat.beq f 75) (conQ (legB w.b) vs h) (ifB (Nat.beq f 45) (conQ (chkB w.b) vs h) (ifB (Nat.beq f 86) (conQ (poorB w.b) vs h) .fail)))) = .ok v h' := e
  cases q1 : Nat.beq f 93 with
  | true =>
    have := Nat.eq_of_beq_eq_true q1
    subst this
    rw [q1] at e
    have z : fa = 758 := (Option.some.inj ha).symm
    subst z
    exact hS I ok vs h v h' e
  | false =>
    rw [q1] at e
    cases q2 : Nat.beq f 95 with
    | true =>
      have := Nat.eq_of_beq_eq_true q2
      subst this
      rw [q2] at e
      exact con_pos hW h0 hb ht hf0 I ok vs h v h' e
    | false =>
      rw [q2] at e
      cases q3 : Nat.beq f 75 with
      | true =>
        have := Nat.eq_of_beq_eq_true q3
        subst this
        rw [q3] at e
        exact con_q hW h0 (fun h x => x.a) hf0 I ok vs h v h' e
      | false =>
        rw [q3] at e
        cases q4 : Nat.beq f 45 with
        | true =>
          have := Nat.eq_of_beq_eq_true q4
          subst this
          rw [q4] at e
          exact con_q hW h0 (fun h x => x.b) hf0 I ok vs h v h' e
        | false =>
          rw [q4] at e
          cases q5 : Nat.beq f 86 with
          | true =>
            have := Nat.eq_of_beq_eq_true q5
            subst this
            rw [q5] at e
            exact con_q hW h0 (fun h x => x.c) hf0 I ok vs h v h' e
          | false => rw [q5] at e; cases e
theorem lv2 (hW : WOk W Pm) (h0 : W.bud = 0) (hb : w.b < 7) (ht : w.t < 3) (hS : ∀ n, ConS (W2 W w) n 758 (conSaid w)) : ∀ n, n ≤ N2 → Lv (W2 W w) (P2 w) n :=
  lv_of (W := W2 W w) (P := P2 w) (gl_ok (W := W2 W w) (Pr := P2 w) (Pm := Pm) ⟨hW.K, hW.an, hW.cls, hW.gl, hW.fns, hW.ccls, hW.fad⟩ rfl rfl) N2 fun n _ f fa hf => con_all hW h0 hb ht (hS n) hf
end
end Mine
end
section
set_option maxRecDepth 100000
set_option Elab.async false
set_option autoImplicit false
set_option linter.unusedVariables false
open PySem PySem.Calls PyProof.Rows PySem.W PyProof.V
namespace Mine
/-! the law's reader of the script -/
noncomputable def saidT (e : Expr) : Bool := match vLt e with
  | some (a, b) => isNm ("place" : Str) a && (match vCl b with
    | some (f, x) => isNm ("len" : Str) f && isNm ("script" : Str) x
    | none => false)
  | none => false
noncomputable def saidS (e : Expr) : Bool := match vSb e with
  | some (a, b) => isNm ("script" : Str) a && isNm ("place" : Str) b
  | none => false
noncomputable def saidV : Expr → Bool := isBn .Mod saidS (isNm ("many" : Str))
noncomputable def saidW : Expr → Bool := isBn .Mod (isBn .FloorDiv (isBn .Add (isBn .Add (isBn .Mult (isNm ("place" : Str)) (isNm ("place" : Str))) (isBn .Mult (isIt 5) (isNm ("place" : Str)))) (isIt 4)) (isIt 2)) (isNm ("many" : Str))
noncomputable def vRt : Stmt → Option Expr
  | .Return (some e) _ => some e
  | _ => none
theorem vRt_i {s : Stmt} {e : Expr} (h : vRt s = some e) : ∃ p, s = .Return (some e) p := by
  cases s with
  | Return v p => cases v with
    | none => exact noS h
    | some v => cases h; exact ⟨_, rfl⟩
  | _ => exact noS h
noncomputable def vIf : Stmt → Option (Expr × List Stmt × List Stmt)
  | .If t a b _ => some (t, a, b)
  | _ => none
theorem vIf_i {s : Stmt} {t : Expr} {a b : List Stmt} (h : vIf s = some (t, a, b)) : ∃ p, s = .If t a b p := by
  cases s with
  | If t a b p => cases h; exact ⟨_, rfl⟩
  | _ => exact noS h
noncomputable def vIf1 (s : Stmt) : Option (Expr × Stmt) := match vIf s with
  | some (t, [x], []) => some (t, x)
  | _ => none
theorem vIf1_i {s x : Stmt} {t : Expr} (h : vIf1 s = some (t, x)) : ∃ p, s = .If t [x] [] p := by
  unfold vIf1 at h
  split at h
  · rename_i q
    cases h
    exact vIf_i q
  · exact noS h
noncomputable def isRt (f : Expr → Bool) (s : Stmt) : Bool := match vRt s with
  | some e => f e
  | none => false
theorem isRt_i {f : Expr → Bool} {s : Stmt} (h : isRt f s = true) : ∃ e p, s = .Return (some e) p ∧ f e = true := by
  unfold isRt at h
  split at h
  · rename_i e q
    obtain ⟨p, rfl⟩ := vRt_i q
    exact ⟨_, _, rfl, h⟩
  · cases h
noncomputable def saidB (b : List Stmt) : Bool := match b with
  | [s1, s2] => (match vIf1 s1 with
    | some (t, x) => saidT t && isRt saidV x
    | none => false) && isRt saidW s2
  | _ => false
theorem saidT_i {e : Expr} (h : saidT e = true) : ∃ p1 p2 p3 p4 p5, e = .Compare (.Name ("place" : Str) p1) [.Lt] [.Call (.Name ("len" : Str) p2) [.Name ("script" : Str) p3] [] p4] p5 := by
  unfold saidT at h
  split at h
  · rename_i a b q
    rw [Bool.and_eq_true] at h
    obtain ⟨h1, h2⟩ := h
    split at h2
    · rename_i f x q2
      rw [Bool.and_eq_true] at h2
      obtain ⟨p5, rfl⟩ := vLt_i q
      obtain ⟨p4, rfl⟩ := vCl_i q2
      obtain ⟨_, rfl⟩ := isNm_i h1
      obtain ⟨_, rfl⟩ := isNm_i h2.1
      obtain ⟨_, rfl⟩ := isNm_i h2.2
      exact ⟨_, _, _, _, _, rfl⟩
    · cases h2
  · cases h
theorem saidV_i {e : Expr} (h : saidV e = true) : ∃ p6 p7 p8 p9 p10, e = .BinOp (.Subscript (.Name ("script" : Str) p6) (.Name ("place" : Str) p7) p8) .Mod (.Name ("many" : Str) p9) p10 := by
  obtain ⟨a, b, p10, rfl, h1, h2⟩ := isBn_i h
  obtain ⟨_, rfl⟩ := isNm_i h2
  unfold saidS at h1
  split at h1
  · rename_i x y q
    rw [Bool.and_eq_true] at h1
    obtain ⟨_, rfl⟩ := vSb_i q
    obtain ⟨_, rfl⟩ := isNm_i h1.1
    obtain ⟨_, rfl⟩ := isNm_i h1.2
    exact ⟨_, _, _, _, _, rfl⟩
  · cases h1
theorem saidW_i {e : Expr} (h : saidW e = true) : ∃ q1 q2 q3 q4 q5 q6 q7 q8 q9 q10 q11 q12 q13 k1 k2 k3, e = .BinOp (.BinOp (.BinOp (.BinOp (.BinOp (.Name ("place" : Str) q1) .Mult (.Name ("place" : Str) q2) q3) .Add (.BinOp (.Constant (.int (.ofNat 5)) k1 q4) .Mult (.Name ("place" : Str) q5) q6) q7) .Add (.Constant (.int (.ofNat 4)) k2 q8) q9) .FloorDiv (.Constant (.int (.ofNat 2)) k3 q10) q11) .Mod (.Name ("many" : Str) q12) q13 := by
  obtain ⟨a1, b1, _, rfl, h1, g1⟩ := isBn_i h
  obtain ⟨a2, b2, _, rfl, h2, g2⟩ := isBn_i h1
  obtain ⟨a3, b3, _, rfl, h3, g3⟩ := isBn_i h2
  obtain ⟨a4, b4, _, rfl, h4, g4⟩ := isBn_i h3
  obtain ⟨a5, b5, _, rfl, h5, g5⟩ := isBn_i h4
  obtain ⟨a6, b6, _, rfl, h6, g6⟩ := isBn_i g4
  obtain ⟨_, rfl⟩ := isNm_i g1
  obtain ⟨_, _, rfl⟩ := isIt_i g2
  obtain ⟨_, _, rfl⟩ := isIt_i g3
  obtain ⟨_, rfl⟩ := isNm_i h5
  obtain ⟨_, rfl⟩ := isNm_i g5
  obtain ⟨_, _, rfl⟩ := isIt_i h6
  obtain ⟨_, rfl⟩ := isNm_i g6
  exact ⟨_, _, _, _, _, _, _, _, _, _, _, _, _, _, _, _, rfl⟩
theorem saidB_inv {b : List Stmt} (h : saidB b = true) : ∃ p1 p2 p3 p4 p5 p6 p7 p8 p9 p10 p11 p12 q1 q2 q3 q4 q5 q6 q7 q8 q9 q10 q11 q12 q13 q14 k1 k2 k3, b = [.If (.Compare (.Name ("place" : Str) p1) [.Lt] [.Call (.Name ("len" : Str) p2) [.Name ("script" : Str) p3] [] p4] p5) [.Return (some (.BinOp (.Subscript (.Name ("script" : Str) p6) (.Name ("place" : Str) p7) p8) .Mod (.Name ("many" : Str) p9) p10)) p11] [] p12, .Return (some (.BinOp (.BinOp (.BinOp (.BinOp (.BinOp (.Name ("place" : Str) q1) .Mult (.Name ("place" : Str) q2) q3) .Add (.BinOp (.Constant (.int (.ofNat 5)) k1 q4) .Mult (.Name ("place" : Str) q5) q6) q7) .Add (.Constant (.int (.ofNat 4)) k2 q8) q9) .FloorDiv (.Constant (.int (.ofNat 2)) k3 q10) q11) .Mod (.Name ("many" : Str) q12) q13)) q14] := by
  unfold saidB at h
  split at h
  · rename_i s1 s2
    rw [Bool.and_eq_true] at h
    obtain ⟨h1, h2⟩ := h
    split at h1
    · rename_i t x q
      rw [Bool.and_eq_true] at h1
      obtain ⟨_, rfl⟩ := vIf1_i q
      obtain ⟨_, _, rfl, z1⟩ := isRt_i h1.2
      obtain ⟨_, _, rfl, z2⟩ := isRt_i h2
      obtain ⟨_, _, _, _, _, rfl⟩ := saidT_i h1.1
      obtain ⟨_, _, _, _, _, rfl⟩ := saidV_i z1
      obtain ⟨_, _, _, _, _, _, _, _, _, _, _, _, _, _, _, _, rfl⟩ := saidW_i z2
      exact ⟨_, _, _, _, _, _, _, _, _, _, _, _, _, _, _, _, _, _, _, _, _, _, _, _, _, _, _, _, _, rfl⟩
    · cases h1
  · cases h
noncomputable def saidPs (l : List Str) : Bool := match l with
  | [a, b, c] => a == ("script" : Str) && (b == ("place" : Str) && c == ("many" : Str))
  | _ => false
noncomputable def saidAt (K : Frag) : Bool := match ptAt K 758 with
  | some p => saidB p.body && saidPs p.ps && isGi (p.scope.names.lookup ("len" : Str))
  | none => false
theorem said_all : ∀ P : Params, saidAt (KF P) = true := fun P => by kernel_rfl
theorem fnAt_of {W : Cs} {P : Prog} {f : Nat} {fa : Addr} {o : Obj} {p : Pt} (hK : W.K.lookup fa = some o) (hp : ptOf o = some p) (hfn : lget P.fns f = some (fnPt W p)) (hc : chkPt W.K p = true) (ha : lget W.fad f = some fa) (hb : ∀ vals : List Value, vals.length = p.ps.length → bindArgs p.fd ⟨vals, []⟩ = pure (p.ps.zip vals)) : FnAt W P f fa p.ps (fnPt W p) p.name p.qual p.params p.body p.scope p.dV p.kV p.doc p.pm p.cdv p.ct p.oc p.an p.od p.osl (ccOf W p) := by
  unfold chkPt at hc
  simp only [Bool.and_eq_true, Bool.not_eq_true'] at hc
  obtain ⟨⟨⟨⟨⟨⟨⟨c1, c2⟩, c3⟩, c4⟩, c5⟩, c6⟩, c7⟩, c8⟩ := hc
  refine { hfn := hfn, adr := ha, ho := hK.trans (congrArg some (ptOf_ok hp)), code := c1, bind := fun s vals hv => BindsTo.of_eq (hb vals hv), hnp := rfl, hnl := ?_, pre := ?_, nd := nodupB_ok c2, loc := ?_, hbody := rfl, hsc := rfl, attrs := rfl, gl := rfl, fns := rfl, cls := rfl, co := c4, ge := c5, ki := ?_, cell := ?_, dbg := ?_ }
  · show p.ps.length ≤ (p.ps ++ restOf p.ps p.scope.names).length
    rw [List.length_append]; omega
  · intro k hk
    show (p.ps ++ restOf p.ps p.scope.names)[k]? = _
    exact List.getElem?_append_left hk
  · intro x hx
    have := List.all_eq_true.mp c3 x hx
    unfold isLoc at this
    split at this
    · rename_i q; exact q
    · cases this
  · unfold isFun at c6
    split at c6
    · rename_i q; exact q
    · cases c6
  · intro x hx e
    have := List.all_eq_true.mp c7 x hx
    rw [e] at this; cases this
  · unfold isNoneO at c8
    split at c8
    · rename_i q; exact q
    · cases c8
theorem fnAt_tab {W : Cs} {Pm : Params} {Pr : Prog} (h : WOk W Pm) (hf : Pr.fns = FSl) {f : Nat} {fa : Addr} (e : lget ADl f = some fa) : ∃ p, ptAt (KF Pm) fa = some p ∧ FnAt W Pr f fa p.ps (fnPt W p) p.name p.qual p.params p.body p.scope p.dV p.kV p.doc p.pm p.cdv p.ct p.oc p.an p.od p.osl (ccOf W p) := by
  have e1 : ADl[f]? = some fa := lget_some.mp e
  have mem : fa ∈ ADl := List.mem_of_getElem? e1
  have q1 : (ADl.map fun a => (ptAt (KF Pm) a).map fnT)[f]? = (FSl.map some)[f]? := by rw [fs_eq Pm]
  rw [List.getElem?_map, List.getElem?_map, e1] at q1
  cases hF : FSl[f]? with
  | none => rw [hF] at q1; cases q1
  | some F =>
    rw [hF] at q1
    have q2 : (ptAt (KF Pm) fa).map fnT = some F := Option.some.inj q1
    cases hp : ptAt (KF Pm) fa with
    | none => rw [hp] at q2; cases q2
    | some p =>
      rw [hp] at q2
      have q3 : fnT p = F := Option.some.inj q2
      obtain ⟨o, ho, hpo⟩ := ptAt_ok hp
      have q4 : fnPt W p = fnT p := by
        show (⟨_, _, cB ⟨p.locs, p.scope.names, W.an, W.fns, W.ccls, W.gl⟩ p.body⟩ : Fn) = _
        rw [h.an, h.fns, h.ccls, h.gl]
        rfl
      have c1 : chkAt (KF Pm) fa = true := List.all_eq_true.mp (chk_all Pm) fa mem
      have c2 : lenAt (KF Pm) fa = true := List.all_eq_true.mp (len_all Pm) fa mem
      unfold chkAt at c1
      unfold lenAt at c2
      rw [hp] at c1 c2
      refine ⟨p, rfl, fnAt_of (p := p) (by rw [h.K]; exact ho) hpo (by rw [hf, lget_some, hF, q4, q3]) (by rw [h.K]; exact c1) (by rw [h.fad]; exact e) fun vals hv => ?_⟩
      have hl : vals.length ≤ 7 := by rw [hv]; exact Nat.le_of_ble_eq_true c2
      obtain ⟨v1, v2, v3, v4, v5, v6, v7, ev⟩ := fill7 vals hl
      have b := map_at (bnd_all Pm v1 v2 v3 v4 v5 v6 v7) e1
      unfold bndAt zipAt at b
      rw [hp] at b
      dsimp only at b
      rw [← hv, ev] at b
      exact of_pureOf b
structure ScOk (W : Cs) (ns : List Int) : Prop where
  so : ∃ vs k, W.so.cls = .type "list" ∧ W.so.data = .seq (List.toArray vs) k ∧ IntsAre vs ns
  len : ns.length ≤ 63
noncomputable def saidN (ns : List Int) (p : Nat) : Nat := match ns[p]? with
  | some i => (i.fmod (manyOf p : Nat)).toNat
  | none => (p * p + 5 * p + 4) / 2 % manyOf p
theorem saidPs_inv {l : List Str} (h : saidPs l = true) : l = [("script" : Str), ("place" : Str), ("many" : Str)] := by
  unfold saidPs at h
  split at h
  · simp only [Bool.and_eq_true] at h
    obtain ⟨h1, h2, h3⟩ := h
    rw [(str_beq _ _).mp h1, (str_beq _ _).mp h2, (str_beq _ _).mp h3]
  · cases h
theorem said_at (Pm : Params) {q : Pt} (hq : ptAt (KF Pm) 758 = some q) : saidB q.body = true ∧ q.ps = [("script" : Str), ("place" : Str), ("many" : Str)] ∧ q.scope.names.lookup ("len" : Str) = some .globalImplicit := by
  have sa := said_all Pm
  unfold saidAt at sa
  rw [hq] at sa
  have sa : (saidB q.body && saidPs q.ps && isGi (q.scope.names.lookup ("len" : Str))) = true := sa
  simp only [Bool.and_eq_true] at sa
  refine ⟨sa.1.1, saidPs_inv sa.1.2, ?_⟩
  have z := sa.2
  unfold isGi at z
  split at z
  · rename_i w; exact w
  · cases z
theorem many_ne (p : Nat) : Int.ofNat (manyOf p) ≠ 0 := by
  unfold manyOf
  split <;> decide
theorem many_pos (p : Nat) : 0 < Int.ofNat (manyOf p) := by
  unfold manyOf
  split <;> decide
theorem ints_at : ∀ {vs : List Value} {ns : List Int}, IntsAre vs ns → ∀ {p : Nat}, p < ns.length → ∃ iv tv, vs[p]? = some (Value.int iv tv) ∧ ns[p]? = some iv
  | _, _, .nil, p, h => absurd h (Nat.not_lt_zero _)
  | _, _, .cons i t r, p, h => by
    cases p with
    | zero => exact ⟨i, t, rfl, rfl⟩
    | succ p => exact ints_at r (Nat.lt_of_succ_lt_succ h)
theorem said_else (ns : List Int) {p : Nat} (hp : p ≤ 4) (h : ¬ p < ns.length) : ((Int.ofNat p * Int.ofNat p + Int.ofNat 5 * Int.ofNat p + Int.ofNat 4).fdiv (Int.ofNat 2)).fmod (Int.ofNat (manyOf p)) = Int.ofNat (saidN ns p) := by
  unfold saidN
  rw [List.getElem?_eq_none (by omega)]
  match p, hp with
  | 0, _ => decide
  | 1, _ => decide
  | 2, _ => decide
  | 3, _ => decide
  | 4, _ => decide
  | _ + 5, h => omega
theorem said_walk {W : Cs} {Pm : Params} {Pr : Prog} {ns : List Int} (hW : WOk W Pm) (hS : ScOk W ns) (G : GlOk W Pr) {n p : Nat} (hp : p ≤ 4) {I : Fi} (ok : I.Ok W n) {names : List Str} {ex : List (Addr × Obj)} {l : List V} {h : Hp} {m : Str → Option Value} {D : Ld} {s : Shared} {t u : Tok}
    (S : SR W I names ex l h s.heap m D) {A : Around} (hA1 : A.handled = none) (hA2 : A.frames = some (I.env :: I.outer)) (hA3 : A.depth ≤ I.dp + 1) {R : Result → Shared → Prop}
    (hR : ∀ hp tk t', SR W I names ex l h hp m D → R (.ok (.ret (.int (Int.ofNat (saidN ns p)) t'))) { s with heap := hp, toks := tk }) :
    codeAny (model W.prog W.w) A (.call (.ref 758) ⟨[.ref W.sl, .int (Int.ofNat p) t, .int (Int.ofNat (manyOf p)) u], []⟩) R s := by
  obtain ⟨q, hq, T⟩ := fnAt_tab (Pr := P0) hW rfl (f := 93) (fa := 758) rfl
  obtain ⟨hb, hps, hlen⟩ := said_at Pm hq
  obtain ⟨p1, p2, p3, p4, p5, p6, p7, p8, p9, p10, p11, p12, q1, q2, q3, q4, q5, q6, q7, q8, q9, q10, q11, q12, q13, q14, k1, k2, k3, hbody⟩ := saidB_inv hb
  have hroom : A.depth < recursionLimit := by have := ok.dB; omega
  refine code_def ok.B S.F ok.X S.N ok.T hA2 rfl ok.ck T.ho T.code hroom (T.bind s _ (by show 3 = q.ps.length; rw [hps]; rfl)) (fun y hy => T.loc _ (List.of_mem_zip hy).1) (fun g L' h₁ FG F' N' B' X' T' => ?_) T.co T.ge T.ki T.cell
  rw [hbody]
  obtain ⟨vs, ne, hc, hd, hi⟩ := hS.so
  have hl : h₁.IsList W.sl (List.toArray vs) := ⟨W.so, F'.keep _ _ (B'.stays _ _ ok.sc), hc, ne, hd⟩
  have hcc : A.deeper (envOf q.qual q.scope L' 758 q.cdv) = A.deeper (envOf q.qual q.scope L' 758 q.cdv) := rfl
  have kS : (envOf q.qual q.scope L' 758 q.cdv).kindOf ("script" : Str) = some .local := T.loc _ (by rw [hps]; simp)
  have kP : (envOf q.qual q.scope L' 758 q.cdv).kindOf ("place" : Str) = some .local := T.loc _ (by rw [hps]; simp)
  have kM : (envOf q.qual q.scope L' 758 q.cdv).kindOf ("many" : Str) = some .local := T.loc _ (by rw [hps]; simp)
  have mS : (fun y => (q.ps.zip [Value.ref W.sl, Value.int (Int.ofNat p) t, Value.int (Int.ofNat (manyOf p)) u]).reverse.lookup y) ("script" : Str) = some (.ref W.sl) := by dsimp only; rw [hps]; rfl
  have mP : (fun y => (q.ps.zip [Value.ref W.sl, Value.int (Int.ofNat p) t, Value.int (Int.ofNat (manyOf p)) u]).reverse.lookup y) ("place" : Str) = some (.int (Int.ofNat p) t) := by dsimp only; rw [hps]; rfl
  have mM : (fun y => (q.ps.zip [Value.ref W.sl, Value.int (Int.ofNat p) t, Value.int (Int.ofNat (manyOf p)) u]).reverse.lookup y) ("many" : Str) = some (.int (Int.ofNat (manyOf p)) u) := by dsimp only; rw [hps]; rfl
  have hsz := hi.sizeZ
  have hlen63 := hS.len
  refine wpAny_execs_cons (wpAny_If (wpAny_isTrue_Compare1 (ld F' mP (Call_ (name_B F' X' (topRead_of T') G.len bi_len (by decide) ?_ T.ki hlen (by decide))) T.ki kP (by decide))))
  refine PyProof.Rows.callWith_builtin1 (spliced_more (ld F' mS (spliced_none ?_) T.ki kS (by decide)) rfl) rfl rfl
  refine PyProof.Rows.len_list hl (by rw [List.size_toArray] at hsz ⊢; omega) ?_
  refine lt_int (wpAny_truthy_bool ?_)
  by_cases hlt : p < ns.length
  · have hbt : decide (Int.ofNat p < ((List.toArray vs).size : Int)) = true := decide_eq_true (by rw [hsz]; simp only [Int.ofNat_eq_natCast]; omega)
    rw [hbt]
    simp only [if_true]
    have hvl : p < vs.length := by rw [List.size_toArray] at hsz; omega
    obtain ⟨iv, tv, hv, hn⟩ : ∃ iv tv, vs[p]? = some (.int iv tv) ∧ ns[p]? = some iv := ints_at hi (by omega)
    refine wpAny_execs_cons (wpAny_Return_some (wpAny_BinOp (Subscript_ (ld F' mS (ld F' mP (tail_any hl.typeIs slot_list_getitem.lookup (wpAny_getItem_list hl (by simp only [Int.ofNat_eq_natCast]; omega) (by simp only [Int.ofNat_eq_natCast]; omega) (by simpa using hv) (ld F' mM (mod_int ?_ ?_) T.ki kM (by decide))) rfl) T.ki kP (by decide)) T.ki kS (by decide)))))
    · exact many_ne p
    · refine leaveK_ F' N' fun kF kN => ?_
      have e : iv.fmod (Int.ofNat (manyOf p)) = Int.ofNat (saidN ns p) := by
        unfold saidN
        rw [hn]
        exact (Int.toNat_of_nonneg (Int.fmod_nonneg_of_pos _ (many_pos p))).symm
      rw [e]
      exact hR _ _ _ (S.at_ kF kN)
  · have hbf : decide (Int.ofNat p < ((List.toArray vs).size : Int)) = false := decide_eq_false (by rw [hsz]; simp only [Int.ofNat_eq_natCast]; omega)
    rw [hbf]
    simp only [Bool.false_eq_true, if_false]
    refine wpAny_execs_nil ?_
    show wpAny _ _ _ _ _ _
    refine wpAny_execs_cons (wpAny_Return_some (wpAny_BinOp (wpAny_BinOp (wpAny_BinOp (wpAny_BinOp (wpAny_BinOp (ld F' mP (ld F' mP ?_ T.ki kP (by decide)) T.ki kP (by decide))))))))
    refine bin_int (op := .mul) (o := .Mult) rfl (.mul (Int.ofNat p) (Int.ofNat p) (by show p < 2 ^ 62; omega) (by show p < 2 ^ 62; omega)) ?_
    refine wpAny_BinOp (wpAny_Constant_int (ld F' mP ?_ T.ki kP (by decide)))
    refine bin_int (op := .mul) (o := .Mult) rfl (.mul (Int.ofNat 5) (Int.ofNat p) (by decide) (by show p < 2 ^ 62; omega)) ?_
    refine bin_int (op := .add) (o := .Add) rfl (.add _ _) (wpAny_Constant_int ?_)
    refine bin_int (op := .add) (o := .Add) rfl (.add _ _) (wpAny_Constant_int ?_)
    refine bin_int (op := .fdiv) (o := .FloorDiv) rfl (.fdiv _ (Int.ofNat 2) (by decide) (by decide)) (ld F' mM ?_ T.ki kM (by decide))
    refine mod_int (many_ne p) ?_
    refine leaveK_ F' N' fun kF kN => ?_
    have e := said_else ns hp hlt
    have k := hR h₁
    rw [← e] at k
    exact k _ _ (S.at_ kF kN)
end Mine
end
section
set_option maxRecDepth 100000
set_option Elab.async false
set_option autoImplicit false
set_option linter.unusedVariables false
open PySem PySem.Calls PyProof.Rows PySem.W PyProof.V
namespace Mine
theorem said_con {W : Cs} {Pm : Params} {w : Way} {ns : List Int} (hW : WOk W Pm) (hS : ScOk W ns) (hw : ∀ p, p ≤ 4 → resOf w p = saidN ns p) (n : Nat) : ConS (W2 W w) n 758 (conSaid w) := by
  intro I ok vs h v h' e names ex l m D s vals S Vv A hA1 hA2 hA3 hA4 R hR
  unfold conSaid at e
  split at e
  · rename_i p mm
    obtain ⟨h1, e⟩ := ifB_ok e
    obtain ⟨h2, e⟩ := ifB_ok e
    rw [forceN_eq] at e
    obtain ⟨rfl, rfl⟩ := R_eq e
    have hp : p ≤ 4 := Nat.le_of_ble_eq_true h1
    have hm := Nat.eq_of_beq_eq_true h2
    subst hm
    cases Vv with
    | cons x r =>
      cases r with
      | cons y r =>
        cases r with
        | cons z r =>
          cases r
          obtain ⟨t, rfl⟩ := y.toInt (i := Int.ofNat p) rfl
          obtain ⟨u, rfl⟩ := z.toInt (i := Int.ofNat (manyOf p)) rfl
          cases x with
          | int t hi => cases hi
          | scr =>
            refine said_walk (W := W2 W w) (Pm := Pm) (Pr := P2 w) (ns := ns) ⟨hW.K, hW.an, hW.cls, hW.gl, hW.fns, hW.ccls, hW.fad⟩ ⟨hS.so, hS.len⟩ (gl_ok (W := W2 W w) (Pr := P2 w) (Pm := Pm) ⟨hW.K, hW.an, hW.cls, hW.gl, hW.fns, hW.ccls, hW.fad⟩ rfl rfl) hp ok S hA1 hA2 hA3 fun hp' tk t' S' => ?_
            exact hR _ _ _ D (Ext.refl D) S' (.int _ (by rw [hw p hp]; rfl))
  · cases e
end Mine
end
section
set_option maxRecDepth 100000
set_option Elab.async false
set_option autoImplicit false
set_option linter.unusedVariables false
open PySem PySem.Calls PyProof.Rows PySem.W PyProof.V
namespace Mine
theorem law_run {W : Cs} {Pm : Params} {w : Way} {ns : List Int} (hW : WOk W Pm) (h0 : W.bud = 0) (hS : ScOk W ns) (hb : w.b < 7) (ht : w.t < 3) (hw : ∀ p, p ≤ 4 → resOf w p = saidN ns p) (hrun : isTr (lawR w) = true) {q : Pt} (hq : ptAt (KF Pm) 784 = some q) {I : Fi} (ok : I.Ok (W2 W w) N2) (hcs : I.cs = q.scope)
    {s : Shared} {m : Str → Option Value} (F : Fr I.h₀ I.L s.heap m) (N : News I.h₀ I.L s.heap []) (hm : m ("script" : Str) = some (.ref W.sl)) (hps : q.ps = [("script" : Str)]) {Q : Flow → Shared → Prop} {E : Value → Shared → Prop}
    (hQ : ∀ hp tk m', Fr I.h₀ I.L hp m' → Q (.ret (.bool true)) { s with heap := hp, toks := tk }) : wpAny (model W.prog W.w) I.A (execs q.body I.env) Q E s := by
  have hL := lv2 (w := w) hW h0 hb ht (said_con hW hS hw)
  obtain ⟨q', hq', T⟩ := fnAt_tab (W := W2 W w) (Pr := P2 w) (Pm := Pm) ⟨hW.K, hW.an, hW.cls, hW.gl, hW.fns, hW.ccls, hW.fad⟩ rfl (f := 97) (fa := 784) rfl
  obtain rfl : q = q' := Option.some.inj (hq.symm.trans hq')
  cases z : lawR w with
  | fail => rw [z] at hrun; cases hrun
  | ok v h' =>
    rw [z] at hrun
    have hv : v = .bool true := by
      cases v with
      | bool b => cases b with
        | true => rfl
        | false => cases hrun
      | _ => cases hrun
    subst hv
    rcases callF_ok (show callF 97 (P2 w) (ev (P2 w) N2) [.scr] .nil = .ok (.bool true) h' from z) with e | ⟨fn, h1, h2, e⟩
    · cases e
    · rw [T.hfn] at h1
      cases h1
      have e : leave (evS (fnPt (W2 W w) q).body (P2 w) (ev (P2 w) 59) ([V.scr] ++ repL (Nat.sub (fnPt (W2 W w) q).nl (fnPt (W2 W w) q).np) .un) .nil) = .ok (.bool true) h' := e
      obtain ⟨hne, hres⟩ := leave_ok e
      rw [T.hbody] at hne hres
      have S : SR (W2 W w) I (ccOf (W2 W w) q).names [] ([V.scr] ++ repL (Nat.sub (fnPt (W2 W w) q).nl (fnPt (W2 W w) q).np) .un) .nil s.heap m ⟨[], [], []⟩ := by
        refine ⟨F, N, List.nodup_nil, (fun _ hq => nomatch hq), (fun _ hq => nomatch hq), ⟨.nil, Fill.self rfl, rfl, (fun i j p q hi => by simp at hi), fun k o e => by cases e⟩, fun x j hx u hu => ?_⟩
        cases j with
        | zero =>
          have : u = .scr := (Option.some.inj hu).symm
          subst this
          have hx := idx_ok hx
          have hx : some ("script" : Str) = some x := by rw [← hx, T.pre 0 (by show 0 < q.ps.length; rw [hps]; decide), hps]; rfl
          cases hx
          exact .inr ⟨_, hm, .scr⟩
        | succ j => exact .inl (repL_get (lget_some.mp (show lget (repL _ V.un) j = some u from hu)))
      refine sndSl (fun j hj => hL j (by show j ≤ 60; omega)) T.dbg (fun j hj => hc_all (hL j (by show j ≤ 60; omega)) T.dbg) q.body 59 (Nat.le_refl _) I (ok.mono (by decide)) ⟨by rw [hcs]; rfl, rfl, rfl, rfl, rfl⟩ _ _ _ rfl [] _ _ _ S _ _ ⟨hne, fun l2 h2 qq hp tk m2 D2 X2 S2 => ?_, fun v2 h2 qq val hp tk m2 D2 l2 X2 S2 V2 => ?_⟩
      · rcases hres with ⟨l3, q2, c⟩ | q2
        · cases c
        · rw [qq] at q2; cases q2
      · rcases hres with ⟨l3, q2, c⟩ | q2
        · cases c
        · rw [qq] at q2; cases q2
          cases V2 with
          | bool => exact hQ _ _ _ S2.F
          | int t hi => cases hi
end Mine
end
section
set_option maxRecDepth 100000
set_option Elab.async false
set_option autoImplicit false
set_option linter.unusedVariables false
open PySem PySem.Calls PyProof.Rows PySem.W PyProof.V
namespace Mine
noncomputable def lawB (Pm : Params) : List Stmt := match ptAt (KF Pm) 784 with
  | some q => q.body
  | none => []
noncomputable def lawPs (Pm : Params) : Bool := match ptAt (KF Pm) 784 with
  | some q => match q.ps with
    | [a] => a == ("script" : Str)
    | _ => false
  | none => false
theorem law_ps : ∀ Pm : Params, lawPs Pm = true := fun Pm => by kernel_rfl
noncomputable def lawSc (Pm : Params) : Scope := match ptAt (KF Pm) 784 with
  | some q => q.scope
  | none => ⟨.module, [], false, false, []⟩
theorem mod_lt' {x : Nat} {n : Nat} (h : 0 < n) : x % n < n := Nat.mod_lt _ h
theorem saidN_lt (ns : List Int) (p : Nat) : saidN ns p < manyOf p := by
  have hp : 0 < manyOf p := by unfold manyOf; split <;> decide
  unfold saidN
  split
  · rename_i i q
    have h1 : i.fmod (manyOf p : Nat) < (manyOf p : Nat) := Int.fmod_lt_of_pos _ (by omega)
    have h2 : 0 ≤ i.fmod (manyOf p : Nat) := Int.fmod_nonneg_of_pos _ (by omega)
    omega
  · exact Nat.mod_lt _ hp
noncomputable def wayOf (ns : List Int) : Way := ⟨saidN ns 0, saidN ns 1, saidN ns 2, saidN ns 3, saidN ns 4⟩
theorem law_end {prog : Program} {w : World} {p : Program} {loose : List Str} {mean : ExcName → Option Value} {mg mb : Str → Option Value} {s : Shared} {s₁ : Heap} {ns : List Int} {vs : List Value} {sl : Addr} {m : Str → Option Value} {cn : Str} {sc : Scope} {fa : Addr} {ccd : Value} {b : List Stmt} {Q : Flow → Shared → Prop} {E : Value → Shared → Prop}
    (hb : b = lawB w.params) (hsc : sc = lawSc w.params) (KX : (KF w.params).In s₁) (T : Top p loose mean mg mb s₁) (hL : s₁.IsList sl vs.toArray) (hI : IntsAre vs ns) (hn : ns.length ≤ 63)
    (F : Fr s₁ s₁.objs.size s.heap m) (N : News s₁ s₁.objs.size s.heap []) (hm : m ("script" : Str) = some (.ref sl)) (hQ : ∀ hp tk m', Fr s₁ s₁.objs.size hp m' → Q (.ret (.bool true)) { s with heap := hp, toks := tk }) :
    wpAny (model prog w) (callerA.deeper (envOf cn sc s₁.objs.size fa ccd)) (execs b (envOf cn sc s₁.objs.size fa ccd)) Q E s := by
  obtain ⟨so, hso, hcl, ne, hdt⟩ := hL
  let W : Cs := { prog := prog, w := w, K := KF w.params, p := p, loose := loose, mean := mean, mg := mg, mb := mb, sl := sl, an := ANl, cls := [151, 270, 711], pat := fun _ _ => False, bud := 0, gl := GLl, fns := FNl, ccls := CLl, fad := ADl, so := so }
  have hW : WOk W w.params := ⟨rfl, rfl, rfl, rfl, rfl, rfl, rfl⟩
  obtain ⟨q, hq, T'⟩ := fnAt_tab (W := W) (Pr := P0) hW rfl (f := 97) (fa := 784) rfl
  have eb : lawB w.params = q.body := by unfold lawB; rw [hq]
  have es : lawSc w.params = q.scope := by unfold lawSc; rw [hq]
  have ep : q.ps = [("script" : Str)] := by
    have z := law_ps w.params
    unfold lawPs at z
    rw [hq] at z
    dsimp only at z
    split at z
    · rename_i a e
      rw [e, (str_beq _ _).mp z]
    · cases z
  subst hb hsc
  rw [eb]
  let I : Fi := { cn := cn, cs := lawSc w.params, a := fa, ccd := ccd, outer := [], A₀ := callerA, base := s₁, h₀ := s₁, L := s₁.objs.size, dp := callerA.depth + 1, un := callerA.units + 3, gd := callerA.guards }
  have hA : callerA.deeper (envOf cn (lawSc w.params) s₁.objs.size fa ccd) = I.A := rfl
  have ok : I.Ok (W2 W (wayOf ns)) N2 := ⟨below_caller s₁, KX, T, by show (lawSc w.params).kind = _; rw [es]; exact T'.ki, hso, by show callerA.depth + 1 + 2 * 60 + 8 + 2 * 120 < recursionLimit; decide, by show callerA.units + 3 + 16 * 60 + 100 + 16 * 120 < cLine; decide⟩
  rw [hA]
  refine law_run (W := W) (w := wayOf ns) (ns := ns) hW rfl ⟨⟨vs, ne, hcl, hdt, hI⟩, hn⟩ (saidN_lt ns 0) (saidN_lt ns 4) (fun p hp => ?_) ?_ hq ok es F N hm ep hQ
  · match p, hp with
    | 0, _ => rfl
    | 1, _ => rfl
    | 2, _ => rfl
    | 3, _ => rfl
    | 4, _ => rfl
    | _ + 5, h => omega
  · exact q2_all _ _ _ _ _ (saidN_lt ns 0) (saidN_lt ns 1) (saidN_lt ns 2) (saidN_lt ns 3) (saidN_lt ns 4)
end Mine
end
set_option Elab.async false
set_option maxRecDepth 100000
set_option maxHeartbeats 8000000
open PySem PySem.W PyProof.Rows PySem.Calls
theorem PySem.Challenge.cw_pq0241_01_holds : PySem.Challenge.rw_pq0241_01.Holds :=
  Mine.hd (by
    intro w s₀ s₁ mg mb G Y fa o pm cd doc dV kV ho hd hcd hD hmg hg args vals as hpre hlay hrd hwl hlo
    have KX := kIn_of Y
    refine Ground.open G ?_
    intro T B D TE TW
    try (refine guard_noD D (by decide +kernel) ?_; clear D)
    obtain ⟨_, _, M⟩ := bmod_of_top T
    have TA := at_of_top T
    try (obtain ⟨_, _, he, B0⟩ := based_of_top T rfl hmg ho hd; have he' : cd = _ := he; subst he'; clear he)
    clear hmg
    wrow_args hpre hlay hrd hwl hlo
    first | refine callC_kw (enter_call ?_) | refine enter_call ?_
    w_top on
    try refine codeAny_mono ?_ (fun _ _ g => GoodW.toG g)
    have K0 := below_caller (Top.heap T)
    w_call any ho hd hcd hD T F
    clear hd TA
    k_drop
    refine Mine.law_end ?hb ?hsc (by assumption) (by assumption) (by assumption) (by assumption) ?hn (by assumption) (by assumption) ?hm ?hQ
    case hb => kernel_rfl
    case hsc => kernel_rfl
    case hm => rfl
    case hn => omega
    intro hp tk m' F2
    wrow_close)
