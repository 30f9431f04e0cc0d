import PyProof.Rows.All
import Wide.All
import OpenK.AllK
import Wide.FinOn
import KE.KRevSl
import KE.KIsAll
import KE.KDictSum
import KE.KRevIter
import KE.KSetAt
import KE.KLam
import KE.KEqDict
import KE.KNest
import Lean
import PySem.Challenge.RW_og0040_01
set_option Elab.async false
set_option maxRecDepth 100000
set_option genSizeOf false
set_option genCtorIdx false
set_option genInjectivity false
set_option tactic.hygienic false
set_option linter.all false
namespace Mine.Internal
set_option backward.match.sparseCases false
inductive Li where
 | v (i : Nat)
 | n (k : Nat)
 | a (x y : Li)
 | m (k : Nat) (x : Li)
 | w (x : Li) (k : Nat)
noncomputable def Li.ctorIdx (x : Li) : Nat := x.casesOn (fun a => 0) (fun a => 1) (fun a a => 2) (fun a a => 3) (fun a a => 4)
noncomputable def V0 : Li := .v 0
noncomputable def V1 : Li := .v 1
noncomputable def V2 : Li := .v 2
noncomputable def V3 : Li := .v 3
noncomputable def V4 : Li := .v 4
noncomputable def V5 : Li := .v 5
noncomputable def V6 : Li := .v 6
noncomputable def V7 : Li := .v 7
noncomputable def V8 : Li := .v 8
noncomputable def V9 : Li := .v 9
noncomputable def S0 : Li := .a V0 (.n 1)
noncomputable def S1 : Li := .a V1 (.n 1)
noncomputable def S2 : Li := .a V2 (.n 1)
noncomputable def S3 : Li := .a V3 (.n 1)
noncomputable def S4 : Li := .a V4 (.n 1)
noncomputable def S5 : Li := .a V5 (.n 1)
noncomputable def S6 : Li := .a V6 (.n 1)
noncomputable def S7 : Li := .a V7 (.n 1)
noncomputable def U0 : Li := .n 0
noncomputable def U1 : Li := .n 1
noncomputable def U2 : Li := .n 2
noncomputable def U10 : Li := .n 10
noncomputable def U100 : Li := .n 100
noncomputable def U1000 : Li := .n 1000
noncomputable def gt : List Nat → Nat → Nat
 | [], _ => 0
 | a :: _, 0 => a
 | _ :: c, i + 1 => gt c i
noncomputable def Li.d (c : List Nat) : Li → Nat
 | .v i => gt c i
 | .n k => k
 | .a x y => x.d c + y.d c
 | .m k x => k * x.d c
 | .w x k => x.d c * k
noncomputable def vt : List Nat → List Nat → List Nat
 | [], q => q
 | p, [] => p
 | x :: p, y :: q => Nat.add x y :: vt p q
noncomputable def vL (k : Nat) : List Nat → List Nat
 | [] => []
 | x :: p => Nat.mul k x :: vL k p
noncomputable def unit : Nat → List Nat
 | 0 => [1]
 | i + 1 => 0 :: unit i
noncomputable def Li.p : Li → List Nat
 | .v i => 0 :: unit i
 | .n k => [k]
 | .a x y => vt x.p y.p
 | .m k x => vL k x.p
 | .w x k => vL k x.p
noncomputable def ple : List Nat → List Nat → Bool
 | [], _ => true
 | x :: p, [] => match Nat.beq x 0 with
  | true => ple p []
  | false => false
 | x :: p, y :: q => match Nat.ble x y with
  | true => ple p q
  | false => false
noncomputable def dot : List Nat → List Nat → Nat
 | a :: c, x :: p => x * a + dot c p
 | _, _ => 0
theorem yj (c : List Nat) : dot c [] = 0 := by cases c <;> rfl
theorem yv : ∀ (p q c : List Nat), dot c (vt p q) = dot c p + dot c q := by
 intro p
 induction p with
 | nil => intro q c; rw [yj, Nat.zero_add]; rfl
 | cons x p ih =>
  intro q c
  cases q with
  | nil => rw [yj]; rfl
  | cons y q =>
   cases c with
   | nil => rfl
   | cons a c =>
    show (x + y) * a + dot c (vt p q) = (x * a + dot c p) + (y * a + dot c q)
    rw [ih, Nat.add_mul, Nat.add_add_add_comm]
theorem yw (k : Nat) : ∀ (p c : List Nat), dot c (vL k p) = k * dot c p := by
 intro p
 induction p with
 | nil => intro c; rw [yj, Nat.mul_zero]; exact yj c
 | cons x p ih =>
  intro c
  cases c with
  | nil => exact (Nat.mul_zero k).symm
  | cons a c =>
   show k * x * a + dot c (vL k p) = k * (x * a + dot c p)
   rw [ih, Nat.mul_add, Nat.mul_assoc]
theorem nY : ∀ (i : Nat) (c : List Nat), dot c (unit i) = gt c i := by
 intro i
 induction i with
 | zero => intro c; cases c with
  | nil => rfl
  | cons a c => show 1 * a + dot c [] = a; rw [yj, Nat.one_mul]; rfl
 | succ i ih => intro c; cases c with
  | nil => rfl
  | cons a c => show 0 * a + dot c (unit i) = gt c i; rw [ih, Nat.zero_mul, Nat.zero_add]
theorem lR : ∀ (p q c : List Nat), ple p q = true → dot c p ≤ dot c q := by
 intro p
 induction p with
 | nil => intro q c _; rw [yj]; exact Nat.zero_le _
 | cons x p ih =>
  intro q c h
  cases c with
  | nil => exact Nat.le_refl _
  | cons a c =>
   cases q with
   | nil =>
    have h : (match Nat.beq x 0 with | true => ple p [] | false => false) = true := h
    cases e : Nat.beq x 0 with
    | false => rw [e] at h; cases h
    | true =>
     rw [e] at h
     have := ih [] c h
     rw [yj] at this
     show x * a + dot c p ≤ 0
     rw [Nat.eq_of_beq_eq_true e, Nat.zero_mul, Nat.zero_add]; exact this
   | cons y q =>
    have h : (match Nat.ble x y with | true => ple p q | false => false) = true := h
    cases e : Nat.ble x y with
    | false => rw [e] at h; cases h
    | true =>
     rw [e] at h
     exact Nat.add_le_add (Nat.mul_le_mul_right a (Nat.le_of_ble_eq_true e)) (ih q c h)
theorem Li.dp (c : List Nat) (t : Li) : t.d c = dot (1 :: c) t.p := by
 induction t with
 | v i => show gt c i = 0 * 1 + dot c (unit i); rw [nY, Nat.zero_mul, Nat.zero_add]
 | n k => show k = k * 1 + dot c []; rw [yj, Nat.mul_one]; rfl
 | a x y hx hy => show x.d c + y.d c = dot (1 :: c) (vt x.p y.p); rw [yv, hx, hy]
 | m k x hx => show k * x.d c = dot (1 :: c) (vL k x.p); rw [yw, hx]
 | w x k hx => show x.d c * k = dot (1 :: c) (vL k x.p); rw [yw, hx, Nat.mul_comm]
inductive Lh where
 | e
 | c (k : Nat) (x y : Li) (r : Lh)
noncomputable def Lh.ctorIdx (x : Lh) : Nat := x.casesOn 0 (fun a a a a => 1)
noncomputable def Lh.l : Lh → List Nat
 | .e => []
 | .c k x _ r => vt (vL k x.p) r.l
noncomputable def Lh.r : Lh → List Nat
 | .e => []
 | .c k _ y r => vt (vL k y.p) r.r
noncomputable def Lh.H (c : List Nat) : Lh → Prop
 | .e => True
 | .c _ x y r => x.d c ≤ y.d c ∧ r.H c
theorem Lh.le (c : List Nat) : ∀ (h : Lh), h.H c → dot (1 :: c) h.l ≤ dot (1 :: c) h.r := by
 intro h
 induction h with
 | e => intro _; exact Nat.le_refl _
 | c k x y r ih =>
  intro h
  have h1 := h.1
  rw [Li.dp, Li.dp] at h1
  show dot (1 :: c) (vt (vL k x.p) r.l) ≤ dot (1 :: c) (vt (vL k y.p) r.r)
  rw [yv, yv, yw, yw]
  exact Nat.add_le_add (Nat.mul_le_mul_left k h1) (ih h.2)
noncomputable def lok (k : Nat) (X Y : Li) (h : Lh) : Bool := ple (vt (vL (Nat.succ k) X.p) h.r) (vt (vt (vL (Nat.succ k) Y.p) [k]) h.l)
theorem rM {c : List Nat} {k : Nat} {X Y : Li} {h : Lh} (e : lok k X Y h = true) (p : h.H c) : X.d c ≤ Y.d c := by
 have h1 := lR _ _ (1 :: c) e
 rw [yv, yv, yv, yw, yw, ← Li.dp, ← Li.dp] at h1
 have h2 : dot (1 :: c) [k] = k := (Li.dp c (.n k)).symm
 rw [h2] at h1
 have h3 := Lh.le c h p
 have h4 : Nat.succ k * X.d c < Nat.succ k * (Y.d c + 1) := by
  rw [Nat.mul_add, Nat.mul_one]
  exact Nat.lt_of_le_of_lt (Nat.le_of_add_le_add_right (Nat.le_trans h1 (Nat.add_le_add_left h3 _))) (Nat.add_lt_add_left (Nat.lt_succ_self k) _)
 exact Nat.le_of_lt_succ (Nat.lt_of_mul_lt_mul_left h4)
theorem lin0 (c : List Nat) (k : Nat) (X Y : Li) (e : lok k X Y (.e) = true) : X.d c ≤ Y.d c := rM (h := .e) e trivial
theorem lin1 (c : List Nat) (k : Nat) (X Y : Li) (k1 : Nat) (x1 y1 : Li) (e : lok k X Y (.c k1 x1 y1 .e) = true) (h1 : x1.d c ≤ y1.d c) : X.d c ≤ Y.d c := rM (h := .c k1 x1 y1 .e) e ⟨h1, trivial⟩
theorem lin2 (c : List Nat) (k : Nat) (X Y : Li) (k1 : Nat) (x1 y1 : Li) (k2 : Nat) (x2 y2 : Li) (e : lok k X Y (.c k1 x1 y1 (.c k2 x2 y2 .e)) = true) (h1 : x1.d c ≤ y1.d c) (h2 : x2.d c ≤ y2.d c) : X.d c ≤ Y.d c := rM (h := .c k1 x1 y1 (.c k2 x2 y2 .e)) e ⟨h1, h2, trivial⟩
theorem lin3 (c : List Nat) (k : Nat) (X Y : Li) (k1 : Nat) (x1 y1 : Li) (k2 : Nat) (x2 y2 : Li) (k3 : Nat) (x3 y3 : Li) (e : lok k X Y (.c k1 x1 y1 (.c k2 x2 y2 (.c k3 x3 y3 .e))) = true) (h1 : x1.d c ≤ y1.d c) (h2 : x2.d c ≤ y2.d c) (h3 : x3.d c ≤ y3.d c) : X.d c ≤ Y.d c := rM (h := .c k1 x1 y1 (.c k2 x2 y2 (.c k3 x3 y3 .e))) e ⟨h1, h2, h3, trivial⟩
theorem lin4 (c : List Nat) (k : Nat) (X Y : Li) (k1 : Nat) (x1 y1 : Li) (k2 : Nat) (x2 y2 : Li) (k3 : Nat) (x3 y3 : Li) (k4 : Nat) (x4 y4 : Li) (e : lok k X Y (.c k1 x1 y1 (.c k2 x2 y2 (.c k3 x3 y3 (.c k4 x4 y4 .e)))) = true) (h1 : x1.d c ≤ y1.d c) (h2 : x2.d c ≤ y2.d c) (h3 : x3.d c ≤ y3.d c) (h4 : x4.d c ≤ y4.d c) : X.d c ≤ Y.d c := rM (h := .c k1 x1 y1 (.c k2 x2 y2 (.c k3 x3 y3 (.c k4 x4 y4 .e)))) e ⟨h1, h2, h3, h4, trivial⟩
theorem lin5 (c : List Nat) (k : Nat) (X Y : Li) (k1 : Nat) (x1 y1 : Li) (k2 : Nat) (x2 y2 : Li) (k3 : Nat) (x3 y3 : Li) (k4 : Nat) (x4 y4 : Li) (k5 : Nat) (x5 y5 : Li) (e : lok k X Y (.c k1 x1 y1 (.c k2 x2 y2 (.c k3 x3 y3 (.c k4 x4 y4 (.c k5 x5 y5 .e))))) = true) (h1 : x1.d c ≤ y1.d c) (h2 : x2.d c ≤ y2.d c) (h3 : x3.d c ≤ y3.d c) (h4 : x4.d c ≤ y4.d c) (h5 : x5.d c ≤ y5.d c) : X.d c ≤ Y.d c := rM (h := .c k1 x1 y1 (.c k2 x2 y2 (.c k3 x3 y3 (.c k4 x4 y4 (.c k5 x5 y5 .e))))) e ⟨h1, h2, h3, h4, h5, trivial⟩
theorem iz (c : List Nat) (k : Nat) (X Y : Li) (k1 : Nat) (x1 y1 : Li) (k2 : Nat) (x2 y2 : Li) (k3 : Nat) (x3 y3 : Li) (k4 : Nat) (x4 y4 : Li) (k5 : Nat) (x5 y5 : Li) (k6 : Nat) (x6 y6 : Li) (e : lok k X Y (.c k1 x1 y1 (.c k2 x2 y2 (.c k3 x3 y3 (.c k4 x4 y4 (.c k5 x5 y5 (.c k6 x6 y6 .e)))))) = true) (h1 : x1.d c ≤ y1.d c) (h2 : x2.d c ≤ y2.d c) (h3 : x3.d c ≤ y3.d c) (h4 : x4.d c ≤ y4.d c) (h5 : x5.d c ≤ y5.d c) (h6 : x6.d c ≤ y6.d c) : X.d c ≤ Y.d c := rM (h := .c k1 x1 y1 (.c k2 x2 y2 (.c k3 x3 y3 (.c k4 x4 y4 (.c k5 x5 y5 (.c k6 x6 y6 .e)))))) e ⟨h1, h2, h3, h4, h5, h6, trivial⟩
theorem jZ (c : List Nat) (k : Nat) (X Y : Li) (k1 : Nat) (x1 y1 : Li) (k2 : Nat) (x2 y2 : Li) (k3 : Nat) (x3 y3 : Li) (k4 : Nat) (x4 y4 : Li) (k5 : Nat) (x5 y5 : Li) (k6 : Nat) (x6 y6 : Li) (k7 : Nat) (x7 y7 : Li) (e : lok k X Y (.c k1 x1 y1 (.c k2 x2 y2 (.c k3 x3 y3 (.c k4 x4 y4 (.c k5 x5 y5 (.c k6 x6 y6 (.c k7 x7 y7 .e))))))) = true) (h1 : x1.d c ≤ y1.d c) (h2 : x2.d c ≤ y2.d c) (h3 : x3.d c ≤ y3.d c) (h4 : x4.d c ≤ y4.d c) (h5 : x5.d c ≤ y5.d c) (h6 : x6.d c ≤ y6.d c) (h7 : x7.d c ≤ y7.d c) : X.d c ≤ Y.d c := rM (h := .c k1 x1 y1 (.c k2 x2 y2 (.c k3 x3 y3 (.c k4 x4 y4 (.c k5 x5 y5 (.c k6 x6 y6 (.c k7 x7 y7 .e))))))) e ⟨h1, h2, h3, h4, h5, h6, h7, trivial⟩
theorem tt : true = true := rfl
theorem sb1 {a b : Nat} : a ≤ a - b + b := by omega
theorem sb3 {a b : Nat} (h : b ≤ a) : a - b + b ≤ a := Nat.le_of_eq (Nat.sub_add_cancel h)
theorem mn1 {a b : Nat} (h : a ≤ b) : a ≤ min a b := Nat.le_of_eq (Nat.min_eq_left h).symm
theorem mn2 {a b : Nat} (h : b ≤ a) : b ≤ min a b := Nat.le_of_eq (Nat.min_eq_right h).symm
theorem yI {α : Type} {x : α} {a b l : List α} (h : a ++ x :: b = l) : a ++ [x] ++ b = l := (List.append_cons a x b).symm.trans h
theorem ne1 {k j : Nat} (h : k ≠ j) : k ∉ [j] := fun z => h (List.mem_singleton.mp z)
theorem y8 {n k : Nat} {l : List Nat} (h : n ≤ k) : ∀ j ∈ [k], j ∈ l ∨ n ≤ j := fun j z => .inr (List.mem_singleton.mp z ▸ h)
theorem el {a b : Nat} (h : a = b) : a ≤ b := Nat.le_of_eq h
theorem er {a b : Nat} (h : a = b) : b ≤ a := Nat.le_of_eq h.symm
theorem no1 {P : Prop} (h : 1 ≤ 0) : P := absurd h (Nat.not_succ_le_zero 0)
inductive E2 {α β : Type} (p : α → β → Prop) : Prop
 | mk (a : α) (b : β) (h : p a b)
inductive E3 {α β γ : Type} (p : α → β → γ → Prop) : Prop
 | mk (a : α) (b : β) (c : γ) (h : p a b c)
inductive E4 {α β γ δ : Type} (p : α → β → γ → δ → Prop) : Prop
 | mk (a : α) (b : β) (c : γ) (d : δ) (h : p a b c d)
inductive E5 {α β γ δ ε : Type} (p : α → β → γ → δ → ε → Prop) : Prop
 | mk (a : α) (b : β) (c : γ) (d : δ) (e : ε) (h : p a b c d e)
inductive E6 {α β γ δ ε ζ : Type} (p : α → β → γ → δ → ε → ζ → Prop) : Prop
 | mk (a : α) (b : β) (c : γ) (d : δ) (e : ε) (f : ζ) (h : p a b c d e f)
inductive E7 {α β γ δ ε ζ η : Type} (p : α → β → γ → δ → ε → ζ → η → Prop) : Prop
 | mk (a : α) (b : β) (c : γ) (d : δ) (e : ε) (f : ζ) (x : η) (h : p a b c d e f x)
structure A3 (a b c : Prop) : Prop where
 p1 : a
 p2 : b
 p3 : c
structure A4 (a b c d : Prop) : Prop where
 p1 : a
 p2 : b
 p3 : c
 p4 : d
structure A5 (a b c d e : Prop) : Prop where
 p1 : a
 p2 : b
 p3 : c
 p4 : d
 p5 : e
structure A6 (a b c d e f : Prop) : Prop where
 p1 : a
 p2 : b
 p3 : c
 p4 : d
 p5 : e
 p6 : f
structure A7 (a b c d e f x : Prop) : Prop where
 p1 : a
 p2 : b
 p3 : c
 p4 : d
 p5 : e
 p6 : f
 p7 : x
theorem hid {G : Prop} (h : ¬ G → False) : G := Classical.byContradiction h
open PySem PySem.W PySem.Calls PySem.Spec PyProof.Rows
noncomputable abbrev pw : Program := PySem.Challenge.pw_og0040_01
noncomputable def zV (i : Nat) : Stmt := (pw.main.body[i]?).getD (.Pass default)
noncomputable def zC (i j : Nat) : Stmt := match zV i with
 | .ClassDef _ _ _ b _ _ _ _ _ _ _ => (b[j]?).getD (.Pass default)
 | s => s
noncomputable def sv (x : String) (t : Nat) : Value := .str (Str.ofString x) t
noncomputable def en (P : Params) (x : String) (t : Nat) (v : Value) : DictEntry := ⟨PyData.keyHash P (Str.ofString x), .str (Str.ofString x) t, v⟩
noncomputable def dcO (es : List DictEntry) (n : Nat) : Obj := ⟨.type "dict", none, .dict es.toArray n, #[]⟩
noncomputable def coO (vs : List Value) : Obj := ⟨.type "code", none, .fields vs.toArray, #[]⟩
noncomputable def fdO (T : String) (vs : List Value) : Obj := ⟨.type T, none, .fields vs.toArray, #[]⟩
noncomputable def tbO (vs : List Value) : Obj := ⟨.none, none, .fields vs.toArray, #[]⟩
noncomputable def tpO (vs : List Value) : Obj := ⟨.type "tuple", none, .seq vs.toArray 0, #[]⟩
noncomputable def plO (c : Value) (vs : List (Option Value)) : Obj := ⟨c, none, .plain, vs.toArray⟩
noncomputable def fnO (s : Stmt) (q : String) (md df : Value) (code : Nat) : Obj := match s with
 | .FunctionDef n ps b _ _ _ sc _ _ _ => ⟨.type "function", none, .func ⟨n, Str.ofString q, ps, .stmts b, sc, 3, [], df, .none, .none, md, none, .ref code, .none, 0⟩, #[]⟩
 | _ => default
noncomputable def fnT (s : Stmt) (q : String) : Obj := match s with
 | .FunctionDef n ps b _ _ _ sc _ _ _ => ⟨.none, none, .func ⟨n, Str.ofString q, ps, .stmts b, sc, 0, [], .none, .none, .none, .none, none, .none, .none, 0⟩, #[]⟩
 | _ => default
noncomputable def zu (x : String) (s0 : Option Value) (t2 t3 : Nat) (bases mro : List Value) (ns : Nat) (sub : List Value) : Obj :=
 ⟨.type "type", none, .cls ⟨Str.ofString x, bases, mro, ns, Str.ofString x, true, [], sub, false, none, false⟩, #[s0, none, some (sv x t2), some (sv x t3), some (.builtin "object.__new__"), some (.bool true)]⟩
noncomputable def rv : Nat → Value
 | 0 => .none
 | n + 1 => .ref (n + 1)
noncomputable def iv (n : Nat) : Value := .int (Int.ofNat n) 0
noncomputable def coF (g : Bool) (x q : String) (t L n f a b c d e k : Nat) : Obj := coO [sv x t, sv q (t + 1), sv "/claim/cut.py" (t + 2), iv L, iv n, iv 0, iv 0, iv f, .ref a, .bool g, iv 181, rv b, .none, rv c, rv d, rv e, iv k, iv L, sv "/claim/cut.py" (k + 1)]
noncomputable def tbV : List Nat → List Value
 | a :: b :: c :: r => iv a :: iv b :: .ref c :: tbV r
 | _ => []
noncomputable def tb3 (l : List Nat) : Obj := tbO (tbV l)
noncomputable def svs : List String → Nat → List Value
 | [], _ => []
 | x :: r, t => sv x t :: svs r (t + 1)
noncomputable def tpS (l : List String) (t : Nat) : Obj := tpO (svs l t)
noncomputable def eR (P : Params) (x : String) (t r : Nat) : DictEntry := en P x t (.ref r)
noncomputable def tbN : List Nat := [1,0,20,5,0,27,18,0,69,32,0,111,46,0,151,60,0,193,76,0,231,82,0,252,101,0,292,115,0,332,130,0,370,132,0,377,140,0,405,148,0,432,155,0,459,164,0,486,173,0,513,181,0,540,189,0,567,198,0,594,206,0,621,219,0,649,221,0,656,223,0,663,225,0,670,229,0,677,237,0,684,243,0,691,248,0,696,264,0,703,286,0,743,292,0,764,294,0,778,300,0,799,305,0,820,312,0,841,316,0,848,346,0,888,350,0,895,429,0,947,434,0,954,438,0,961,444,0,982,449,0,989,464,0,996,554,0,1060,556,0,1065,564,0,1072,567,0,1079,576,0,1086,588,0,1107,591,0,1114,610,0,1151,617,0,1158,624,0,1165,626,0,1172,638,0,1179,651,0,1186,653,0,1191,676,0,1196]
noncomputable def nsN (P : Params) : List DictEntry := [en P "__name__" 165 (sv "law_og0040_01" 1771), en P "__doc__" 166 .none, en P "__package__" 167 .none, en P "__loader__" 168 (.builtin "__main__.__loader__#op\x61que"), en P "__spec__" 169 .none, eR P "__annotations__" 170 6, eR P "__builtins__" 171 4, en P "__file__" 173 (sv "/claim/cut.py" 172), en P "__cached__" 174 .none, eR P "_wall" 193 21, eR P "Var" 247 59, eR P "Lit" 301 101, eR P "App" 354 141, eR P "Lam" 408 183, eR P "Let" 462 221, eR P "Alt" 495 242, eR P "Case" 554 282, eR P "Con" 607 322, eR P "Prim" 660 362, eR P "rows_of" 668 371, eR P "Node" 704 395, eR P "PVar" 739 424, eR P "PWild" 770 451, eR P "PLit" 805 478, eR P "PCon" 840 505, eR P "PTuple" 873 532, eR P "PList" 906 559, eR P "PAs" 941 586, eR P "PLazy" 974 613, eR P "PBang" 1007 640, en P "NIL" 1011 (sv "[]" 1010), en P "CONS" 1013 (sv ":" 1012), en P "UNIT" 1015 (sv "()" 1014), eR P "BUILT_IN" 1022 643, eR P "tuple_name" 1029 650, eR P "is_tuple_name" 1036 657, eR P "listed" 1043 664, eR P "lettered" 1050 671, eR P "spread" 1057 678, eR P "parts_of" 1064 685, eR P "variables_of" 1073 692, eR P "renamed_pattern" 1079 697, eR P "Constructors" 1130 733, eR P "Leaf" 1165 754, eR P "Nothing" 1185 768, eR P "Switch" 1218 789, eR P "Force" 1249 810, eR P "Project" 1284 831, eR P "is_idle" 1291 842, eR P "Line" 1354 878, eR P "key_of" 1361 889, eR P "Decider" 1447 937, eR P "text_core" 1458 948, eR P "failing" 1465 955, en P "NOBODY" 1470 (.int (-1) 1469), eR P "Row" 1503 972, eR P "row_variables" 1512 983, eR P "uses_of" 1523 990, eR P "Maker" 1627 1050, eR P "kept_body" 1635 1061, eR P "matched_by" 1641 1066, eR P "matched" 1652 1073, eR P "nodes_of" 1666 1080, eR P "ConInfo" 1711 1097, eR P "base_of" 1721 1108, eR P "Fresh" 1770 1141, eR P "_law_pool" 1783 1152, eR P "_law_take" 1792 1159, eR P "_law_one" 1800 1166, eR P "_law_pattern" 1810 1173, eR P "_law_count" 1821 1180, eR P "_law_body" 1833 1187, eR P "_law_core_right" 1839 1192, eR P "law" 1845 1197]
noncomputable def KT (P : Params) : Frag := [
 (1, boot_o_1 P),
 (2, boot_o_2 P),
 (3, dcO ((nsN P).take 74) 74),
 (34, coF true "__init__" "Var.__init__" 208 7 2 3 29 30 31 32 33 213),
 (35, fnO (zC 2 0) "Var.__init__" (sv "lazycore.core" 194) .none 34),
 (48, coF true "parts" "Var.parts" 223 13 1 3 43 44 45 46 47 227),
 (49, fnO (zC 2 2) "Var.parts" (sv "lazycore.core" 194) .none 48),
 (58, dcO [en P "__module__" 203 (sv "lazycore.core" 194), en P "__firstlineno__" 207 (.int 5 206), eR P "__init__" 215 35, eR P "groups" 222 42, eR P "parts" 229 49, eR P "rebuilt" 238 56, eR P "__static_attributes__" 240 57, eR P "__dict__" 242 60, eR P "__weakref__" 244 61, en P "__doc__" 245 .none] 4),
 (59, zu "Var" none 196 204 [(.type "object")] [(.ref 59), (.type "object")] 58 []),
 (76, coF true "__init__" "Lit.__init__" 260 20 3 3 71 72 73 74 75 266),
 (77, fnO (zC 3 0) "Lit.__init__" (sv "lazycore.core" 194) .none 76),
 (90, coF true "parts" "Lit.parts" 276 27 1 3 85 86 87 88 89 280),
 (91, fnO (zC 3 2) "Lit.parts" (sv "lazycore.core" 194) .none 90),
 (100, dcO [en P "__module__" 255 (sv "lazycore.core" 194), en P "__firstlineno__" 259 (.int 18 258), eR P "__init__" 268 77, eR P "groups" 275 84, eR P "parts" 282 91, eR P "rebuilt" 291 98, eR P "__static_attributes__" 294 99, eR P "__dict__" 296 102, eR P "__weakref__" 298 103, en P "__doc__" 299 .none] 4),
 (101, zu "Lit" none 248 256 [(.type "object")] [(.ref 101), (.type "object")] 100 []),
 (118, coF true "__init__" "App.__init__" 314 34 3 3 113 114 115 116 117 320),
 (119, fnO (zC 4 0) "App.__init__" (sv "lazycore.core" 194) .none 118),
 (130, coF true "parts" "App.parts" 330 41 1 3 127 128 0 0 129 333),
 (131, fnO (zC 4 2) "App.parts" (sv "lazycore.core" 194) .none 130),
 (140, dcO [en P "__module__" 309 (sv "lazycore.core" 194), en P "__firstlineno__" 313 (.int 32 312), eR P "__init__" 322 119, eR P "groups" 329 126, eR P "parts" 335 131, eR P "rebuilt" 344 138, eR P "__static_attributes__" 347 139, eR P "__dict__" 349 142, eR P "__weakref__" 351 143, en P "__doc__" 352 .none] 4),
 (141, zu "App" none 302 310 [(.type "object")] [(.ref 141), (.type "object")] 140 []),
 (158, coF true "__init__" "Lam.__init__" 367 48 3 3 153 154 155 156 157 373),
 (159, fnO (zC 5 0) "Lam.__init__" (sv "lazycore.core" 194) .none 158),
 (172, coF true "parts" "Lam.parts" 383 55 1 3 167 168 169 170 171 387),
 (173, fnO (zC 5 2) "Lam.parts" (sv "lazycore.core" 194) .none 172),
 (182, dcO [en P "__module__" 362 (sv "lazycore.core" 194), en P "__firstlineno__" 366 (.int 46 365), eR P "__init__" 375 159, eR P "groups" 382 166, eR P "parts" 389 173, eR P "rebuilt" 398 180, eR P "__static_attributes__" 401 181, eR P "__dict__" 403 184, eR P "__weakref__" 405 185, en P "__doc__" 406 .none] 4),
 (183, zu "Lam" none 355 363 [(.type "object")] [(.ref 183), (.type "object")] 182 []),
 (200, coF true "__init__" "Let.__init__" 421 62 4 3 195 196 197 198 199 428),
 (201, fnO (zC 6 0) "Let.__init__" (sv "lazycore.core" 194) .none 200),
 (210, coF true "parts" "Let.parts" 437 70 1 3 207 208 0 0 209 440),
 (211, fnO (zC 6 2) "Let.parts" (sv "lazycore.core" 194) .none 210),
 (220, dcO [en P "__module__" 416 (sv "lazycore.core" 194), en P "__firstlineno__" 420 (.int 60 419), eR P "__init__" 430 201, eR P "groups" 436 206, eR P "parts" 442 211, eR P "rebuilt" 451 218, eR P "__static_attributes__" 455 219, eR P "__dict__" 457 222, eR P "__weakref__" 459 223, en P "__doc__" 460 .none] 4),
 (221, zu "Let" none 409 417 [(.type "object")] [(.ref 221), (.type "object")] 220 []),
 (238, coF true "__init__" "Alt.__init__" 475 78 4 3 233 234 235 236 237 482),
 (239, fnO (zC 7 0) "Alt.__init__" (sv "lazycore.core" 194) .none 238),
 (241, dcO [en P "__module__" 470 (sv "lazycore.core" 194), en P "__firstlineno__" 474 (.int 76 473), eR P "__init__" 484 239, eR P "__static_attributes__" 488 240, eR P "__dict__" 490 243, eR P "__weakref__" 492 244, en P "__doc__" 493 .none] 4),
 (242, zu "Alt" none 463 471 [(.type "object")] [(.ref 242), (.type "object")] 241 []),
 (259, coF true "__init__" "Case.__init__" 508 84 5 3 254 255 256 257 258 516),
 (260, fnO (zC 8 0) "Case.__init__" (sv "lazycore.core" 194) .none 259),
 (271, coF true "parts" "Case.parts" 525 93 1 3 266 267 268 269 270 531),
 (272, fnO (zC 8 2) "Case.parts" (sv "lazycore.core" 194) .none 271),
 (281, dcO [en P "__module__" 503 (sv "lazycore.core" 194), en P "__firstlineno__" 507 (.int 82 506), eR P "__init__" 518 260, eR P "groups" 524 265, eR P "parts" 533 272, eR P "rebuilt" 542 279, eR P "__static_attributes__" 547 280, eR P "__dict__" 549 283, eR P "__weakref__" 551 284, en P "__doc__" 552 .none] 4),
 (282, zu "Case" none 496 504 [(.type "object")] [(.ref 282), (.type "object")] 281 []),
 (299, coF true "__init__" "Con.__init__" 567 103 3 3 294 295 296 297 298 573),
 (300, fnO (zC 9 0) "Con.__init__" (sv "lazycore.core" 194) .none 299),
 (311, coF true "parts" "Con.parts" 583 110 1 3 308 309 0 0 310 586),
 (312, fnO (zC 9 2) "Con.parts" (sv "lazycore.core" 194) .none 311),
 (321, dcO [en P "__module__" 562 (sv "lazycore.core" 194), en P "__firstlineno__" 566 (.int 101 565), eR P "__init__" 575 300, eR P "groups" 582 307, eR P "parts" 588 312, eR P "rebuilt" 597 319, eR P "__static_attributes__" 600 320, eR P "__dict__" 602 323, eR P "__weakref__" 604 324, en P "__doc__" 605 .none] 4),
 (322, zu "Con" none 555 563 [(.type "object")] [(.ref 322), (.type "object")] 321 []),
 (361, dcO [en P "__module__" 615 (sv "lazycore.core" 194), en P "__firstlineno__" 619 (.int 115 618), eR P "__init__" 628 340, eR P "groups" 635 347, eR P "parts" 641 352, eR P "rebuilt" 650 359, eR P "__static_attributes__" 653 360, eR P "__dict__" 655 363, eR P "__weakref__" 657 364, en P "__doc__" 658 .none] 4),
 (362, zu "Prim" none 608 616 [(.type "object")] [(.ref 362), (.type "object")] 361 []),
 (384, coF true "__init__" "Node.__init__" 681 134 2 3 379 380 381 382 383 686),
 (385, fnO (zC 13 0) "Node.__init__" (sv "lazycore.nodes" 661) .none 384),
 (394, dcO [en P "__module__" 676 (sv "lazycore.nodes" 661), en P "__firstlineno__" 680 (.int 132 679), eR P "__init__" 688 385, eR P "row" 695 392, eR P "__static_attributes__" 697 393, eR P "__dict__" 699 396, eR P "__weakref__" 701 397, en P "__doc__" 702 .none] 4),
 (395, zu "Node" none 669 677 [(.type "object")] [(.ref 395), (.type "object")] 394 [(.ref 424), (.ref 451), (.ref 478), (.ref 505), (.ref 532), (.ref 559), (.ref 586), (.ref 613), (.ref 640)]),
 (407, tpO [.none]),
 (413, coF true "__init__" "PVar.__init__" 719 142 3 3 408 409 410 411 412 725),
 (414, fnO (zC 15 0) "PVar.__init__" (sv "lazycore.pattern_nodes" 705) (.ref 407) 413),
 (423, dcO [en P "__module__" 714 (sv "lazycore.pattern_nodes" 705), en P "__firstlineno__" 718 (.int 140 717), eR P "__init__" 727 414, eR P "row" 734 421, eR P "__static_attributes__" 736 422, en P "__doc__" 737 .none] 2),
 (424, zu "PVar" (some (.ref 400)) 707 715 [(.ref 395)] [(.ref 424), (.ref 395), (.type "object")] 423 []),
 (434, tpO [.none]),
 (440, coF true "__init__" "PWild.__init__" 752 150 2 3 435 436 437 438 439 757),
 (441, fnO (zC 16 0) "PWild.__init__" (sv "lazycore.pattern_nodes" 705) (.ref 434) 440),
 (450, dcO [en P "__module__" 747 (sv "lazycore.pattern_nodes" 705), en P "__firstlineno__" 751 (.int 148 750), eR P "__init__" 759 441, eR P "row" 766 448, eR P "__static_attributes__" 767 449, en P "__doc__" 768 .none] 2),
 (451, zu "PWild" (some (.ref 427)) 740 748 [(.ref 395)] [(.ref 451), (.ref 395), (.type "object")] 450 []),
 (461, tpO [.none]),
 (467, coF true "__init__" "PLit.__init__" 783 157 4 3 462 463 464 465 466 790),
 (468, fnO (zC 17 0) "PLit.__init__" (sv "lazycore.pattern_nodes" 705) (.ref 461) 467),
 (477, dcO [en P "__module__" 778 (sv "lazycore.pattern_nodes" 705), en P "__firstlineno__" 782 (.int 155 781), eR P "__init__" 792 468, eR P "row" 799 475, eR P "__static_attributes__" 802 476, en P "__doc__" 803 .none] 2),
 (478, zu "PLit" (some (.ref 454)) 771 779 [(.ref 395)] [(.ref 478), (.ref 395), (.type "object")] 477 []),
 (488, tpO [.none]),
 (494, coF true "__init__" "PCon.__init__" 818 166 4 3 489 490 491 492 493 825),
 (495, fnO (zC 18 0) "PCon.__init__" (sv "lazycore.pattern_nodes" 705) (.ref 488) 494),
 (504, dcO [en P "__module__" 813 (sv "lazycore.pattern_nodes" 705), en P "__firstlineno__" 817 (.int 164 816), eR P "__init__" 827 495, eR P "row" 834 502, eR P "__static_attributes__" 837 503, en P "__doc__" 838 .none] 2),
 (505, zu "PCon" (some (.ref 481)) 806 814 [(.ref 395)] [(.ref 505), (.ref 395), (.type "object")] 504 []),
 (515, tpO [.none]),
 (521, coF true "__init__" "PTuple.__init__" 853 175 3 3 516 517 518 519 520 859),
 (522, fnO (zC 19 0) "PTuple.__init__" (sv "lazycore.pattern_nodes" 705) (.ref 515) 521),
 (531, dcO [en P "__module__" 848 (sv "lazycore.pattern_nodes" 705), en P "__firstlineno__" 852 (.int 173 851), eR P "__init__" 861 522, eR P "row" 868 529, eR P "__static_attributes__" 870 530, en P "__doc__" 871 .none] 2),
 (532, zu "PTuple" (some (.ref 508)) 841 849 [(.ref 395)] [(.ref 532), (.ref 395), (.type "object")] 531 []),
 (542, tpO [.none]),
 (548, coF true "__init__" "PList.__init__" 886 183 3 3 543 544 545 546 547 892),
 (549, fnO (zC 20 0) "PList.__init__" (sv "lazycore.pattern_nodes" 705) (.ref 542) 548),
 (558, dcO [en P "__module__" 881 (sv "lazycore.pattern_nodes" 705), en P "__firstlineno__" 885 (.int 181 884), eR P "__init__" 894 549, eR P "row" 901 556, eR P "__static_attributes__" 903 557, en P "__doc__" 904 .none] 2),
 (559, zu "PList" (some (.ref 535)) 874 882 [(.ref 395)] [(.ref 559), (.ref 395), (.type "object")] 558 []),
 (569, tpO [.none]),
 (575, coF true "__init__" "PAs.__init__" 919 191 4 3 570 571 572 573 574 926),
 (576, fnO (zC 21 0) "PAs.__init__" (sv "lazycore.pattern_nodes" 705) (.ref 569) 575),
 (585, dcO [en P "__module__" 914 (sv "lazycore.pattern_nodes" 705), en P "__firstlineno__" 918 (.int 189 917), eR P "__init__" 928 576, eR P "row" 935 583, eR P "__static_attributes__" 938 584, en P "__doc__" 939 .none] 2),
 (586, zu "PAs" (some (.ref 562)) 907 915 [(.ref 395)] [(.ref 586), (.ref 395), (.type "object")] 585 []),
 (596, tpO [.none]),
 (602, coF true "__init__" "PLazy.__init__" 954 200 3 3 597 598 599 600 601 960),
 (603, fnO (zC 22 0) "PLazy.__init__" (sv "lazycore.pattern_nodes" 705) (.ref 596) 602),
 (612, dcO [en P "__module__" 949 (sv "lazycore.pattern_nodes" 705), en P "__firstlineno__" 953 (.int 198 952), eR P "__init__" 962 603, eR P "row" 969 610, eR P "__static_attributes__" 971 611, en P "__doc__" 972 .none] 2),
 (613, zu "PLazy" (some (.ref 589)) 942 950 [(.ref 395)] [(.ref 613), (.ref 395), (.type "object")] 612 []),
 (623, tpO [.none]),
 (629, coF true "__init__" "PBang.__init__" 987 208 3 3 624 625 626 627 628 993),
 (630, fnO (zC 23 0) "PBang.__init__" (sv "lazycore.pattern_nodes" 705) (.ref 623) 629),
 (639, dcO [en P "__module__" 982 (sv "lazycore.pattern_nodes" 705), en P "__firstlineno__" 986 (.int 206 985), eR P "__init__" 995 630, eR P "row" 1002 637, eR P "__static_attributes__" 1004 638, en P "__doc__" 1005 .none] 2),
 (640, zu "PBang" (some (.ref 616)) 975 983 [(.ref 395)] [(.ref 640), (.ref 395), (.type "object")] 639 []),
 (677, coF true "spread" "spread" 1051 229 1 3 672 673 674 675 676 1055),
 (678, fnO (zV 33) "spread" (sv "lazycore.pattern_forms" 1008) .none 677),
 (684, coF true "parts_of" "parts_of" 1058 237 1 3 679 680 681 682 683 1062),
 (685, fnO (zV 34) "parts_of" (sv "lazycore.pattern_forms" 1008) .none 684),
 (691, coF true "variables_of" "variables_of" 1065 243 1 3 686 687 688 689 690 1071),
 (692, fnO (zV 35) "variables_of" (sv "lazycore.pattern_forms" 1008) .none 691),
 (710, coF true "__init__" "Constructors.__init__" 1092 266 2 3 705 706 707 708 709 1097),
 (711, fnO (zC 37 0) "Constructors.__init__" (sv "lazycore.pattern_forms" 1008) .none 710),
 (717, coF true "arity" "Constructors.arity" 1100 269 2 3 712 713 714 715 716 1105),
 (718, fnO (zC 37 1) "Constructors.arity" (sv "lazycore.pattern_forms" 1008) .none 717),
 (724, coF true "is_newtype" "Constructors.is_newtype" 1108 274 2 3 719 720 721 722 723 1113),
 (725, fnO (zC 37 2) "Constructors.is_newtype" (sv "lazycore.pattern_forms" 1008) .none 724),
 (729, coF true "siblings" "Constructors.siblings" 1116 277 2 3 726 727 0 0 728 1119),
 (730, fnO (zC 37 3) "Constructors.siblings" (sv "lazycore.pattern_forms" 1008) .none 729),
 (732, dcO [en P "__module__" 1087 (sv "lazycore.pattern_forms" 1008), en P "__firstlineno__" 1091 (.int 264 1090), eR P "__init__" 1099 711, eR P "arity" 1107 718, eR P "is_newtype" 1115 725, eR P "siblings" 1121 730, eR P "__static_attributes__" 1123 731, eR P "__dict__" 1125 734, eR P "__weakref__" 1127 735, en P "__doc__" 1128 .none] 4),
 (733, zu "Constructors" none 1080 1088 [(.type "object")] [(.ref 733), (.type "object")] 732 []),
 (750, coF true "__init__" "Leaf.__init__" 1145 288 4 3 745 746 747 748 749 1152),
 (751, fnO (zC 39 0) "Leaf.__init__" (sv "lazycore.decisions" 1131) .none 750),
 (753, dcO [en P "__module__" 1140 (sv "lazycore.decisions" 1131), en P "__firstlineno__" 1144 (.int 286 1143), eR P "__init__" 1154 751, eR P "__static_attributes__" 1158 752, eR P "__dict__" 1160 755, eR P "__weakref__" 1162 756, en P "__doc__" 1163 .none] 4),
 (754, zu "Leaf" none 1133 1141 [(.type "object")] [(.ref 754), (.type "object")] 753 []),
 (767, dcO [en P "__module__" 1173 (sv "lazycore.decisions" 1131), en P "__firstlineno__" 1177 (.int 292 1176), eR P "__static_attributes__" 1178 766, eR P "__dict__" 1180 769, eR P "__weakref__" 1182 770, en P "__doc__" 1183 .none] 4),
 (768, zu "Nothing" none 1166 1174 [(.type "object")] [(.ref 768), (.type "object")] 767 []),
 (785, coF true "__init__" "Switch.__init__" 1198 296 4 3 780 781 782 783 784 1205),
 (786, fnO (zC 41 0) "Switch.__init__" (sv "lazycore.decisions" 1131) .none 785),
 (788, dcO [en P "__module__" 1193 (sv "lazycore.decisions" 1131), en P "__firstlineno__" 1197 (.int 294 1196), eR P "__init__" 1207 786, eR P "__static_attributes__" 1211 787, eR P "__dict__" 1213 790, eR P "__weakref__" 1215 791, en P "__doc__" 1216 .none] 4),
 (789, zu "Switch" none 1186 1194 [(.type "object")] [(.ref 789), (.type "object")] 788 []),
 (806, coF true "__init__" "Force.__init__" 1231 302 3 3 801 802 803 804 805 1237),
 (807, fnO (zC 42 0) "Force.__init__" (sv "lazycore.decisions" 1131) .none 806),
 (809, dcO [en P "__module__" 1226 (sv "lazycore.decisions" 1131), en P "__firstlineno__" 1230 (.int 300 1229), eR P "__init__" 1239 807, eR P "__static_attributes__" 1242 808, eR P "__dict__" 1244 811, eR P "__weakref__" 1246 812, en P "__doc__" 1247 .none] 4),
 (810, zu "Force" none 1219 1227 [(.type "object")] [(.ref 810), (.type "object")] 809 []),
 (827, coF true "__init__" "Project.__init__" 1262 307 5 3 822 823 824 825 826 1270),
 (828, fnO (zC 43 0) "Project.__init__" (sv "lazycore.decisions" 1131) .none 827),
 (830, dcO [en P "__module__" 1257 (sv "lazycore.decisions" 1131), en P "__firstlineno__" 1261 (.int 305 1260), eR P "__init__" 1272 828, eR P "__static_attributes__" 1277 829, eR P "__dict__" 1279 832, eR P "__weakref__" 1281 833, en P "__doc__" 1282 .none] 4),
 (831, zu "Project" none 1250 1258 [(.type "object")] [(.ref 831), (.type "object")] 830 []),
 (841, coF true "is_idle" "is_idle" 1285 312 1 3 836 837 838 839 840 1289),
 (842, fnO (zV 44) "is_idle" (sv "lazycore.decisions" 1131) .none 841),
 (855, coF true "__init__" "Line.__init__" 1304 318 5 3 850 851 852 853 854 1312),
 (856, fnO (zC 45 0) "Line.__init__" (sv "lazycore.decisions" 1131) .none 855),
 (862, coF true "plain" "Line.plain" 1315 324 4 3 857 858 859 860 861 1325),
 (863, fnO (zC 45 1) "Line.plain" (sv "lazycore.decisions" 1131) .none 862),
 (869, coF true "put" "Line.put" 1328 338 3 3 864 865 866 867 868 1334),
 (870, fnO (zC 45 2) "Line.put" (sv "lazycore.decisions" 1131) .none 869),
 (874, coF true "losing" "Line.losing" 1337 341 3 3 871 872 0 0 873 1340),
 (875, fnO (zC 45 3) "Line.losing" (sv "lazycore.decisions" 1131) .none 874),
 (877, dcO [en P "__module__" 1299 (sv "lazycore.decisions" 1131), en P "__firstlineno__" 1303 (.int 316 1302), eR P "__init__" 1314 856, eR P "plain" 1327 863, eR P "put" 1336 870, eR P "losing" 1342 875, eR P "__static_attributes__" 1347 876, eR P "__dict__" 1349 879, eR P "__weakref__" 1351 880, en P "__doc__" 1352 .none] 4),
 (878, zu "Line" none 1292 1300 [(.type "object")] [(.ref 878), (.type "object")] 877 []),
 (888, coF true "key_of" "key_of" 1355 346 1 3 883 884 885 886 887 1359),
 (889, fnO (zV 46) "key_of" (sv "lazycore.decisions" 1131) .none 888),
 (902, coF true "__init__" "Decider.__init__" 1374 352 4 3 897 898 899 900 901 1381),
 (903, fnO (zC 47 0) "Decider.__init__" (sv "lazycore.decisions" 1131) .none 902),
 (909, coF true "tree" "Decider.tree" 1384 357 3 3 904 905 906 907 908 1394),
 (910, fnO (zC 47 1) "Decider.tree" (sv "lazycore.decisions" 1131) .none 909),
 (914, coF true "looked" "Decider.looked" 1397 371 4 3 911 912 0 0 913 1400),
 (915, fnO (zC 47 2) "Decider.looked" (sv "lazycore.decisions" 1131) .none 914),
 (921, coF true "is_held" "Decider.is_held" 1403 392 2 3 916 917 918 919 920 1408),
 (922, fnO (zC 47 3) "Decider.is_held" (sv "lazycore.decisions" 1131) .none 921),
 (926, coF true "branch" "Decider.branch" 1411 397 5 3 923 924 0 0 925 1414),
 (927, fnO (zC 47 4) "Decider.branch" (sv "lazycore.decisions" 1131) .none 926),
 (936, dcO [en P "__module__" 1369 (sv "lazycore.decisions" 1131), en P "__firstlineno__" 1373 (.int 350 1372), eR P "__init__" 1383 903, eR P "tree" 1396 910, eR P "looked" 1402 915, eR P "is_held" 1410 922, eR P "branch" 1416 927, eR P "projected" 1436 934, eR P "__static_attributes__" 1440 935, eR P "__dict__" 1442 938, eR P "__weakref__" 1444 939, en P "__doc__" 1445 .none] 4),
 (937, zu "Decider" none 1362 1370 [(.type "object")] [(.ref 937), (.type "object")] 936 []),
 (968, coF true "__init__" "Row.__init__" 1483 440 4 3 963 964 965 966 967 1490),
 (969, fnO (zC 53 0) "Row.__init__" (sv "lazycore.clauses" 1466) .none 968),
 (971, dcO [en P "__module__" 1478 (sv "lazycore.clauses" 1466), en P "__firstlineno__" 1482 (.int 438 1481), eR P "__init__" 1492 969, eR P "__static_attributes__" 1496 970, eR P "__dict__" 1498 973, eR P "__weakref__" 1500 974, en P "__doc__" 1501 .none] 4),
 (972, zu "Row" none 1471 1479 [(.type "object")] [(.ref 972), (.type "object")] 971 []),
 (982, coF true "row_variables" "row_variables" 1504 444 1 3 977 978 979 980 981 1510),
 (983, fnO (zV 54) "row_variables" (sv "lazycore.clauses" 1466) .none 982),
 (989, coF true "uses_of" "uses_of" 1513 449 2 3 984 985 986 987 988 1521),
 (990, fnO (zV 55) "uses_of" (sv "lazycore.clauses" 1466) .none 989),
 (1003, coF true "__init__" "Maker.__init__" 1536 466 6 3 998 999 1000 1001 1002 1545),
 (1004, fnO (zC 56 0) "Maker.__init__" (sv "lazycore.clauses" 1466) .none 1003),
 (1010, coF true "whole" "Maker.whole" 1548 474 2 3 1005 1006 1007 1008 1009 1555),
 (1011, fnO (zC 56 1) "Maker.whole" (sv "lazycore.clauses" 1466) .none 1010),
 (1017, coF true "function" "Maker.function" 1558 483 2 3 1012 1013 1014 1015 1016 1564),
 (1018, fnO (zC 56 2) "Maker.function" (sv "lazycore.clauses" 1466) .none 1017),
 (1022, coF true "core" "Maker.core" 1567 487 2 3 1019 1020 0 0 1021 1570),
 (1023, fnO (zC 56 3) "Maker.core" (sv "lazycore.clauses" 1466) .none 1022),
 (1029, coF true "leaf" "Maker.leaf" 1573 503 2 3 1024 1025 1026 1027 1028 1586),
 (1030, fnO (zC 56 4) "Maker.leaf" (sv "lazycore.clauses" 1466) .none 1029),
 (1034, coF true "bound" "Maker.bound" 1589 520 3 3 1031 1032 0 0 1033 1592),
 (1035, fnO (zC 56 5) "Maker.bound" (sv "lazycore.clauses" 1466) .none 1034),
 (1046, coF true "call" "Maker.call" 1608 532 3 3 1043 1044 0 0 1045 1611),
 (1047, fnO (zC 56 7) "Maker.call" (sv "lazycore.clauses" 1466) .none 1046),
 (1049, dcO [en P "__module__" 1531 (sv "lazycore.clauses" 1466), en P "__firstlineno__" 1535 (.int 464 1534), eR P "__init__" 1547 1004, eR P "whole" 1557 1011, eR P "function" 1566 1018, eR P "core" 1572 1023, eR P "leaf" 1588 1030, eR P "bound" 1594 1035, eR P "taken" 1607 1042, eR P "call" 1613 1047, eR P "__static_attributes__" 1620 1048, eR P "__dict__" 1622 1051, eR P "__weakref__" 1624 1052, en P "__doc__" 1625 .none] 4),
 (1050, zu "Maker" none 1524 1532 [(.type "object")] [(.ref 1050), (.type "object")] 1049 []),
 (1065, coF true "matched_by" "matched_by" 1636 556 5 3 1062 1063 0 0 1064 1639),
 (1066, fnO (zV 58) "matched_by" (sv "lazycore.clauses" 1466) .none 1065),
 (1072, coF true "matched" "matched" 1642 564 5 3 1067 1068 1069 1070 1071 1650),
 (1073, fnO (zV 59) "matched" (sv "lazycore.clauses" 1466) .none 1072),
 (1079, coF true "nodes_of" "nodes_of" 1655 567 1 3 1074 1075 1076 1077 1078 1664),
 (1080, fnO (zV 61) "nodes_of" (sv "lazycore.core_walk" 1653) .none 1079),
 (1093, coF true "__init__" "ConInfo.__init__" 1681 578 9 3 1088 1089 1090 1091 1092 1693),
 (1094, fnO (zC 63 0) "ConInfo.__init__" (sv "lazycore.datatypes" 1667) .none 1093),
 (1096, dcO [en P "__module__" 1676 (sv "lazycore.datatypes" 1667), en P "__firstlineno__" 1680 (.int 576 1679), eR P "__init__" 1695 1094, eR P "__static_attributes__" 1704 1095, eR P "__dict__" 1706 1098, eR P "__weakref__" 1708 1099, en P "__doc__" 1709 .none] 4),
 (1097, zu "ConInfo" none 1669 1677 [(.type "object")] [(.ref 1097), (.type "object")] 1096 []),
 (1107, coF true "base_of" "base_of" 1714 588 1 3 1102 1103 1104 1105 1106 1719),
 (1108, fnO (zV 65) "base_of" (sv "lazycore.fresh" 1712) .none 1107),
 (1117, tpO [(.ref 1116)]),
 (1123, coF true "__init__" "Fresh.__init__" 1734 593 2 3 1118 1119 1120 1121 1122 1739),
 (1124, fnO (zC 66 0) "Fresh.__init__" (sv "lazycore.fresh" 1712) (.ref 1117) 1123),
 (1130, coF true "avoid" "Fresh.avoid" 1742 598 2 3 1125 1126 1127 1128 1129 1748),
 (1131, fnO (zC 66 1) "Fresh.avoid" (sv "lazycore.fresh" 1712) .none 1130),
 (1137, coF true "next" "Fresh.next" 1751 602 2 3 1132 1133 1134 1135 1136 1758),
 (1138, fnO (zC 66 2) "Fresh.next" (sv "lazycore.fresh" 1712) .none 1137),
 (1140, dcO [en P "__module__" 1729 (sv "lazycore.fresh" 1712), en P "__firstlineno__" 1733 (.int 591 1732), eR P "__init__" 1741 1124, eR P "avoid" 1750 1131, eR P "next" 1760 1138, eR P "__static_attributes__" 1763 1139, eR P "__dict__" 1765 1142, eR P "__weakref__" 1767 1143, en P "__doc__" 1768 .none] 4),
 (1141, zu "Fresh" none 1722 1730 [(.type "object")] [(.ref 1141), (.type "object")] 1140 []),
 (1151, coF true "_law_pool" "_law_pool" 1773 610 2 3 1146 1147 1148 1149 1150 1781),
 (1152, fnO (zV 68) "_law_pool" (sv "law_og0040_01" 1771) .none 1151),
 (1158, coF true "_law_take" "_law_take" 1784 617 2 3 1153 1154 1155 1156 1157 1790),
 (1159, fnO (zV 69) "_law_take" (sv "law_og0040_01" 1771) .none 1158),
 (1165, coF true "_law_one" "_law_one" 1793 624 2 3 1160 1161 1162 1163 1164 1798),
 (1166, fnO (zV 70) "_law_one" (sv "law_og0040_01" 1771) .none 1165),
 (1172, coF true "_law_pattern" "_law_pattern" 1801 626 3 3 1167 1168 1169 1170 1171 1808),
 (1173, fnO (zV 71) "_law_pattern" (sv "law_og0040_01" 1771) .none 1172),
 (1179, coF true "_law_count" "_law_count" 1811 638 2 3 1174 1175 1176 1177 1178 1819),
 (1180, fnO (zV 72) "_law_count" (sv "law_og0040_01" 1771) .none 1179),
 (1182, tbO []),
 (1186, coF true "_law_body" "_law_body" 1822 651 3 3 1181 1182 1183 1184 1185 1831),
 (1187, fnO (zV 73) "_law_body" (sv "law_og0040_01" 1771) .none 1186),
 (1191, coF true "_law_core_right" "_law_core_right" 1834 653 5 3 1188 1189 0 0 1190 1837),
 (1192, fnO (zV 74) "_law_core_right" (sv "law_og0040_01" 1771) .none 1191),
 (1196, coF true "law" "law" 1840 676 1 3 1193 1194 0 0 1195 1843),
 (1197, fnO (zV 75) "law" (sv "law_og0040_01" 1771) .none 1196)]
noncomputable def RSt (P : Params) : List Obj := [
 boot_o_0 P,
 boot_o_4 P,
 boot_o_5 P,
 boot_o_6 P,
 boot_o_7 P,
 boot_o_8 P,
 boot_o_9 P,
 boot_o_10 P,
 tpO [],
 tb3 (tbN.take 180),
 coF false "<module>" "<module>" 182 1 0 0 11 12 0 0 0 185,
 plO (.type "frame") [(some (.ref 13)), (some (.ref 3)), (some (.ref 3)), none, (some (sv "__main__" 164)), none, (some (.ref 0))],
 tpO [],
 tbO [],
 tpS ["k"] 190,
 tpO [],
 fnT (zV 0) "_wall",
 coF true "_wall" "_wall" 187 1 1 3 15 16 17 18 19 191,
 fnO (zV 0) "_wall" (sv "__main__" 164) .none 20,
 tpO [],
 fdO "builtin_function_or_method" [(.builtin "type.__prepare__"), (.type "type")],
 dcO [en P "__module__" 203 (sv "lazycore.core" 194), en P "__qualname__" 205 (sv "Var" 204), en P "__firstlineno__" 207 (.int 5 206), eR P "__init__" 215 35, eR P "groups" 222 42, eR P "parts" 229 49, eR P "rebuilt" 238 56, eR P "__static_attributes__" 240 57] 8,
 tpO [],
 tb3 [7,4,34,10,4,41,13,4,48,16,4,55],
 coF false "Var" "Var" 198 5 0 0 25 26 0 0 0 201,
 plO (.type "frame") [(some (.ref 27)), (some (.ref 3)), (some (.ref 24)), none, (some (sv "lazycore.core" 194)), none, (some (.ref 0))],
 tpO [],
 tbO [],
 tpS ["self", "name"] 211,
 tpO [],
 fnT (zC 2 0) "Var.__init__",
 tpO [],
 tbO [],
 tpS ["self"] 219,
 tpO [],
 fnT (zC 2 1) "Var.groups",
 coF true "groups" "Var.groups" 216 10 1 3 36 37 38 39 40 220,
 fnO (zC 2 1) "Var.groups" (sv "lazycore.core" 194) .none 41,
 tpO [],
 tbO [],
 tpS ["self"] 226,
 tpO [],
 fnT (zC 2 2) "Var.parts",
 tpO [],
 tbO [],
 tpS ["self", "groups", "parts"] 233,
 tpO [],
 fnT (zC 2 3) "Var.rebuilt",
 coF true "rebuilt" "Var.rebuilt" 230 16 3 3 50 51 52 53 54 236,
 fnO (zC 2 3) "Var.rebuilt" (sv "lazycore.core" 194) .none 55,
 tpS ["name"] 239,
 fdO "getset_descriptor" [(sv "__dict__" 241), (.ref 59), (.builtin "function.__dict__"), (.builtin "function.__dict__#set")],
 fdO "getset_descriptor" [(sv "__weakref__" 243), (.ref 59), (.builtin "ExceptionGroup.__weakref__"), .none],
 fdO "super" [(.ref 59), (.ref 59), (.ref 59)],
 fdO "builtin_function_or_method" [(.builtin "object.__init_subclass__"), (.ref 59)],
 tpO [],
 fdO "builtin_function_or_method" [(.builtin "type.__prepare__"), (.type "type")],
 dcO [en P "__module__" 255 (sv "lazycore.core" 194), en P "__qualname__" 257 (sv "Lit" 256), en P "__firstlineno__" 259 (.int 18 258), eR P "__init__" 268 77, eR P "groups" 275 84, eR P "parts" 282 91, eR P "rebuilt" 291 98, eR P "__static_attributes__" 294 99] 8,
 tpO [],
 tb3 [20,4,76,24,4,83,27,4,90,30,4,97],
 coF false "Lit" "Lit" 250 18 0 0 67 68 0 0 0 253,
 plO (.type "frame") [(some (.ref 69)), (some (.ref 3)), (some (.ref 66)), none, (some (sv "lazycore.core" 194)), none, (some (.ref 0))],
 tpO [],
 tbO [],
 tpS ["self", "kind", "value"] 263,
 tpO [],
 fnT (zC 3 0) "Lit.__init__",
 tpO [],
 tbO [],
 tpS ["self"] 272,
 tpO [],
 fnT (zC 3 1) "Lit.groups",
 coF true "groups" "Lit.groups" 269 24 1 3 78 79 80 81 82 273,
 fnO (zC 3 1) "Lit.groups" (sv "lazycore.core" 194) .none 83,
 tpO [],
 tbO [],
 tpS ["self"] 279,
 tpO [],
 fnT (zC 3 2) "Lit.parts",
 tpO [],
 tbO [],
 tpS ["self", "groups", "parts"] 286,
 tpO [],
 fnT (zC 3 3) "Lit.rebuilt",
 coF true "rebuilt" "Lit.rebuilt" 283 30 3 3 92 93 94 95 96 289,
 fnO (zC 3 3) "Lit.rebuilt" (sv "lazycore.core" 194) .none 97,
 tpS ["kind", "value"] 292,
 fdO "getset_descriptor" [(sv "__dict__" 295), (.ref 101), (.builtin "function.__dict__"), (.builtin "function.__dict__#set")],
 fdO "getset_descriptor" [(sv "__weakref__" 297), (.ref 101), (.builtin "ExceptionGroup.__weakref__"), .none],
 fdO "super" [(.ref 101), (.ref 101), (.ref 101)],
 fdO "builtin_function_or_method" [(.builtin "object.__init_subclass__"), (.ref 101)],
 tpO [],
 fdO "builtin_function_or_method" [(.builtin "type.__prepare__"), (.type "type")],
 dcO [en P "__module__" 309 (sv "lazycore.core" 194), en P "__qualname__" 311 (sv "App" 310), en P "__firstlineno__" 313 (.int 32 312), eR P "__init__" 322 119, eR P "groups" 329 126, eR P "parts" 335 131, eR P "rebuilt" 344 138, eR P "__static_attributes__" 347 139] 8,
 tpO [],
 tb3 [34,4,118,38,4,125,41,4,130,44,4,137],
 coF false "App" "App" 304 32 0 0 109 110 0 0 0 307,
 plO (.type "frame") [(some (.ref 111)), (some (.ref 3)), (some (.ref 108)), none, (some (sv "lazycore.core" 194)), none, (some (.ref 0))],
 tpO [],
 tbO [],
 tpS ["self", "fun", "args"] 317,
 tpO [],
 fnT (zC 4 0) "App.__init__",
 tpO [],
 tbO [],
 tpS ["self"] 326,
 tpO [],
 fnT (zC 4 1) "App.groups",
 coF true "groups" "App.groups" 323 38 1 3 120 121 122 123 124 327,
 fnO (zC 4 1) "App.groups" (sv "lazycore.core" 194) .none 125,
 tpO [],
 tbO [],
 fnT (zC 4 2) "App.parts",
 tpO [],
 tbO [],
 tpS ["self", "groups", "parts"] 339,
 tpO [],
 fnT (zC 4 3) "App.rebuilt",
 coF true "rebuilt" "App.rebuilt" 336 44 3 3 132 133 134 135 136 342,
 fnO (zC 4 3) "App.rebuilt" (sv "lazycore.core" 194) .none 137,
 tpS ["args", "fun"] 345,
 fdO "getset_descriptor" [(sv "__dict__" 348), (.ref 141), (.builtin "function.__dict__"), (.builtin "function.__dict__#set")],
 fdO "getset_descriptor" [(sv "__weakref__" 350), (.ref 141), (.builtin "ExceptionGroup.__weakref__"), .none],
 fdO "super" [(.ref 141), (.ref 141), (.ref 141)],
 fdO "builtin_function_or_method" [(.builtin "object.__init_subclass__"), (.ref 141)],
 tpO [],
 fdO "builtin_function_or_method" [(.builtin "type.__prepare__"), (.type "type")],
 dcO [en P "__module__" 362 (sv "lazycore.core" 194), en P "__qualname__" 364 (sv "Lam" 363), en P "__firstlineno__" 366 (.int 46 365), eR P "__init__" 375 159, eR P "groups" 382 166, eR P "parts" 389 173, eR P "rebuilt" 398 180, eR P "__static_attributes__" 401 181] 8,
 tpO [],
 tb3 [48,4,158,52,4,165,55,4,172,58,4,179],
 coF false "Lam" "Lam" 357 46 0 0 149 150 0 0 0 360,
 plO (.type "frame") [(some (.ref 151)), (some (.ref 3)), (some (.ref 148)), none, (some (sv "lazycore.core" 194)), none, (some (.ref 0))],
 tpO [],
 tbO [],
 tpS ["self", "params", "body"] 370,
 tpO [],
 fnT (zC 5 0) "Lam.__init__",
 tpO [],
 tbO [],
 tpS ["self"] 379,
 tpO [],
 fnT (zC 5 1) "Lam.groups",
 coF true "groups" "Lam.groups" 376 52 1 3 160 161 162 163 164 380,
 fnO (zC 5 1) "Lam.groups" (sv "lazycore.core" 194) .none 165,
 tpO [],
 tbO [],
 tpS ["self"] 386,
 tpO [],
 fnT (zC 5 2) "Lam.parts",
 tpO [],
 tbO [],
 tpS ["self", "groups", "parts"] 393,
 tpO [],
 fnT (zC 5 3) "Lam.rebuilt",
 coF true "rebuilt" "Lam.rebuilt" 390 58 3 3 174 175 176 177 178 396,
 fnO (zC 5 3) "Lam.rebuilt" (sv "lazycore.core" 194) .none 179,
 tpS ["body", "params"] 399,
 fdO "getset_descriptor" [(sv "__dict__" 402), (.ref 183), (.builtin "function.__dict__"), (.builtin "function.__dict__#set")],
 fdO "getset_descriptor" [(sv "__weakref__" 404), (.ref 183), (.builtin "ExceptionGroup.__weakref__"), .none],
 fdO "super" [(.ref 183), (.ref 183), (.ref 183)],
 fdO "builtin_function_or_method" [(.builtin "object.__init_subclass__"), (.ref 183)],
 tpO [],
 fdO "builtin_function_or_method" [(.builtin "type.__prepare__"), (.type "type")],
 dcO [en P "__module__" 416 (sv "lazycore.core" 194), en P "__qualname__" 418 (sv "Let" 417), en P "__firstlineno__" 420 (.int 60 419), eR P "__init__" 430 201, eR P "groups" 436 206, eR P "parts" 442 211, eR P "rebuilt" 451 218, eR P "__static_attributes__" 455 219] 8,
 tpO [],
 tb3 [62,4,200,67,4,205,70,4,210,74,4,217],
 coF false "Let" "Let" 411 60 0 0 191 192 0 0 0 414,
 plO (.type "frame") [(some (.ref 193)), (some (.ref 3)), (some (.ref 190)), none, (some (sv "lazycore.core" 194)), none, (some (.ref 0))],
 tpO [],
 tbO [],
 tpS ["self", "binds", "body", "is_rec"] 424,
 tpO [],
 fnT (zC 6 0) "Let.__init__",
 tpO [],
 tbO [],
 fnT (zC 6 1) "Let.groups",
 coF true "groups" "Let.groups" 431 67 1 3 202 203 0 0 204 434,
 fnO (zC 6 1) "Let.groups" (sv "lazycore.core" 194) .none 205,
 tpO [],
 tbO [],
 fnT (zC 6 2) "Let.parts",
 tpO [],
 tbO [],
 tpS ["self", "groups", "parts"] 446,
 tpO [],
 fnT (zC 6 3) "Let.rebuilt",
 coF true "rebuilt" "Let.rebuilt" 443 74 3 3 212 213 214 215 216 449,
 fnO (zC 6 3) "Let.rebuilt" (sv "lazycore.core" 194) .none 217,
 tpS ["binds", "body", "is_rec"] 452,
 fdO "getset_descriptor" [(sv "__dict__" 456), (.ref 221), (.builtin "function.__dict__"), (.builtin "function.__dict__#set")],
 fdO "getset_descriptor" [(sv "__weakref__" 458), (.ref 221), (.builtin "ExceptionGroup.__weakref__"), .none],
 fdO "super" [(.ref 221), (.ref 221), (.ref 221)],
 fdO "builtin_function_or_method" [(.builtin "object.__init_subclass__"), (.ref 221)],
 tpO [],
 fdO "builtin_function_or_method" [(.builtin "type.__prepare__"), (.type "type")],
 dcO [en P "__module__" 470 (sv "lazycore.core" 194), en P "__qualname__" 472 (sv "Alt" 471), en P "__firstlineno__" 474 (.int 76 473), eR P "__init__" 484 239, eR P "__static_attributes__" 488 240] 5,
 tpO [],
 tb3 [78,4,238],
 coF false "Alt" "Alt" 465 76 0 0 229 230 0 0 0 468,
 plO (.type "frame") [(some (.ref 231)), (some (.ref 3)), (some (.ref 228)), none, (some (sv "lazycore.core" 194)), none, (some (.ref 0))],
 tpO [],
 tbO [],
 tpS ["self", "key", "names", "body"] 478,
 tpO [],
 fnT (zC 7 0) "Alt.__init__",
 tpS ["body", "key", "names"] 485,
 fdO "getset_descriptor" [(sv "__dict__" 489), (.ref 242), (.builtin "function.__dict__"), (.builtin "function.__dict__#set")],
 fdO "getset_descriptor" [(sv "__weakref__" 491), (.ref 242), (.builtin "ExceptionGroup.__weakref__"), .none],
 fdO "super" [(.ref 242), (.ref 242), (.ref 242)],
 fdO "builtin_function_or_method" [(.builtin "object.__init_subclass__"), (.ref 242)],
 tpO [],
 fdO "builtin_function_or_method" [(.builtin "type.__prepare__"), (.type "type")],
 dcO [en P "__module__" 503 (sv "lazycore.core" 194), en P "__qualname__" 505 (sv "Case" 504), en P "__firstlineno__" 507 (.int 82 506), eR P "__init__" 518 260, eR P "groups" 524 265, eR P "parts" 533 272, eR P "rebuilt" 542 279, eR P "__static_attributes__" 547 280] 8,
 tpO [],
 tb3 [84,4,259,90,4,264,93,4,271,99,4,278],
 coF false "Case" "Case" 498 82 0 0 250 251 0 0 0 501,
 plO (.type "frame") [(some (.ref 252)), (some (.ref 3)), (some (.ref 249)), none, (some (sv "lazycore.core" 194)), none, (some (.ref 0))],
 tpO [],
 tbO [],
 tpS ["self", "value", "name", "alts", "other"] 511,
 tpO [],
 fnT (zC 8 0) "Case.__init__",
 tpO [],
 tbO [],
 fnT (zC 8 1) "Case.groups",
 coF true "groups" "Case.groups" 519 90 1 3 261 262 0 0 263 522,
 fnO (zC 8 1) "Case.groups" (sv "lazycore.core" 194) .none 264,
 tpO [],
 tbO [],
 tpS ["self", "found", "at"] 528,
 tpO [],
 fnT (zC 8 2) "Case.parts",
 tpO [],
 tbO [],
 tpS ["self", "groups", "parts"] 537,
 tpO [],
 fnT (zC 8 3) "Case.rebuilt",
 coF true "rebuilt" "Case.rebuilt" 534 99 3 3 273 274 275 276 277 540,
 fnO (zC 8 3) "Case.rebuilt" (sv "lazycore.core" 194) .none 278,
 tpS ["alts", "name", "other", "value"] 543,
 fdO "getset_descriptor" [(sv "__dict__" 548), (.ref 282), (.builtin "function.__dict__"), (.builtin "function.__dict__#set")],
 fdO "getset_descriptor" [(sv "__weakref__" 550), (.ref 282), (.builtin "ExceptionGroup.__weakref__"), .none],
 fdO "super" [(.ref 282), (.ref 282), (.ref 282)],
 fdO "builtin_function_or_method" [(.builtin "object.__init_subclass__"), (.ref 282)],
 tpO [],
 fdO "builtin_function_or_method" [(.builtin "type.__prepare__"), (.type "type")],
 dcO [en P "__module__" 562 (sv "lazycore.core" 194), en P "__qualname__" 564 (sv "Con" 563), en P "__firstlineno__" 566 (.int 101 565), eR P "__init__" 575 300, eR P "groups" 582 307, eR P "parts" 588 312, eR P "rebuilt" 597 319, eR P "__static_attributes__" 600 320] 8,
 tpO [],
 tb3 [103,4,299,107,4,306,110,4,311,113,4,318],
 coF false "Con" "Con" 557 101 0 0 290 291 0 0 0 560,
 plO (.type "frame") [(some (.ref 292)), (some (.ref 3)), (some (.ref 289)), none, (some (sv "lazycore.core" 194)), none, (some (.ref 0))],
 tpO [],
 tbO [],
 tpS ["self", "name", "args"] 570,
 tpO [],
 fnT (zC 9 0) "Con.__init__",
 tpO [],
 tbO [],
 tpS ["self"] 579,
 tpO [],
 fnT (zC 9 1) "Con.groups",
 coF true "groups" "Con.groups" 576 107 1 3 301 302 303 304 305 580,
 fnO (zC 9 1) "Con.groups" (sv "lazycore.core" 194) .none 306,
 tpO [],
 tbO [],
 fnT (zC 9 2) "Con.parts",
 tpO [],
 tbO [],
 tpS ["self", "groups", "parts"] 592,
 tpO [],
 fnT (zC 9 3) "Con.rebuilt",
 coF true "rebuilt" "Con.rebuilt" 589 113 3 3 313 314 315 316 317 595,
 fnO (zC 9 3) "Con.rebuilt" (sv "lazycore.core" 194) .none 318,
 tpS ["args", "name"] 598,
 fdO "getset_descriptor" [(sv "__dict__" 601), (.ref 322), (.builtin "function.__dict__"), (.builtin "function.__dict__#set")],
 fdO "getset_descriptor" [(sv "__weakref__" 603), (.ref 322), (.builtin "ExceptionGroup.__weakref__"), .none],
 fdO "super" [(.ref 322), (.ref 322), (.ref 322)],
 fdO "builtin_function_or_method" [(.builtin "object.__init_subclass__"), (.ref 322)],
 tpO [],
 fdO "builtin_function_or_method" [(.builtin "type.__prepare__"), (.type "type")],
 dcO [en P "__module__" 615 (sv "lazycore.core" 194), en P "__qualname__" 617 (sv "Prim" 616), en P "__firstlineno__" 619 (.int 115 618), eR P "__init__" 628 340, eR P "groups" 635 347, eR P "parts" 641 352, eR P "rebuilt" 650 359, eR P "__static_attributes__" 653 360] 8,
 tpO [],
 tb3 [117,4,339,121,4,346,124,4,351,127,4,358],
 coF false "Prim" "Prim" 610 115 0 0 330 331 0 0 0 613,
 plO (.type "frame") [(some (.ref 332)), (some (.ref 3)), (some (.ref 329)), none, (some (sv "lazycore.core" 194)), none, (some (.ref 0))],
 tpO [],
 tbO [],
 tpS ["self", "op", "args"] 623,
 tpO [],
 fnT (zC 10 0) "Prim.__init__",
 coF true "__init__" "Prim.__init__" 620 117 3 3 334 335 336 337 338 626,
 fnO (zC 10 0) "Prim.__init__" (sv "lazycore.core" 194) .none 339,
 tpO [],
 tbO [],
 tpS ["self"] 632,
 tpO [],
 fnT (zC 10 1) "Prim.groups",
 coF true "groups" "Prim.groups" 629 121 1 3 341 342 343 344 345 633,
 fnO (zC 10 1) "Prim.groups" (sv "lazycore.core" 194) .none 346,
 tpO [],
 tbO [],
 fnT (zC 10 2) "Prim.parts",
 coF true "parts" "Prim.parts" 636 124 1 3 348 349 0 0 350 639,
 fnO (zC 10 2) "Prim.parts" (sv "lazycore.core" 194) .none 351,
 tpO [],
 tbO [],
 tpS ["self", "groups", "parts"] 645,
 tpO [],
 fnT (zC 10 3) "Prim.rebuilt",
 coF true "rebuilt" "Prim.rebuilt" 642 127 3 3 353 354 355 356 357 648,
 fnO (zC 10 3) "Prim.rebuilt" (sv "lazycore.core" 194) .none 358,
 tpS ["args", "op"] 651,
 fdO "getset_descriptor" [(sv "__dict__" 654), (.ref 362), (.builtin "function.__dict__"), (.builtin "function.__dict__#set")],
 fdO "getset_descriptor" [(sv "__weakref__" 656), (.ref 362), (.builtin "ExceptionGroup.__weakref__"), .none],
 fdO "super" [(.ref 362), (.ref 362), (.ref 362)],
 fdO "builtin_function_or_method" [(.builtin "object.__init_subclass__"), (.ref 362)],
 tpO [],
 tbO [],
 fnT (zV 12) "rows_of",
 coF true "rows_of" "rows_of" 663 130 1 3 367 368 0 0 369 666,
 fnO (zV 12) "rows_of" (sv "lazycore.nodes" 661) .none 370,
 tpO [],
 fdO "builtin_function_or_method" [(.builtin "type.__prepare__"), (.type "type")],
 dcO [en P "__module__" 676 (sv "lazycore.nodes" 661), en P "__qualname__" 678 (sv "Node" 677), en P "__firstlineno__" 680 (.int 132 679), eR P "__init__" 688 385, eR P "row" 695 392, eR P "__static_attributes__" 697 393] 6,
 tpO [],
 tb3 [134,4,384,137,4,391],
 coF false "Node" "Node" 671 132 0 0 375 376 0 0 0 674,
 plO (.type "frame") [(some (.ref 377)), (some (.ref 3)), (some (.ref 374)), none, (some (sv "lazycore.nodes" 661)), none, (some (.ref 0))],
 tpO [],
 tbO [],
 tpS ["self", "place"] 684,
 tpO [],
 fnT (zC 13 0) "Node.__init__",
 tpO [],
 tbO [],
 tpS ["self"] 692,
 tpO [],
 fnT (zC 13 1) "Node.row",
 coF true "row" "Node.row" 689 137 1 3 386 387 388 389 390 693,
 fnO (zC 13 1) "Node.row" (sv "lazycore.nodes" 661) .none 391,
 tpS ["place"] 696,
 fdO "getset_descriptor" [(sv "__dict__" 698), (.ref 395), (.builtin "function.__dict__"), (.builtin "function.__dict__#set")],
 fdO "getset_descriptor" [(sv "__weakref__" 700), (.ref 395), (.builtin "ExceptionGroup.__weakref__"), .none],
 fdO "super" [(.ref 395), (.ref 395), (.ref 395)],
 fdO "builtin_function_or_method" [(.builtin "object.__init_subclass__"), (.ref 395)],
 tpO [(.ref 395)],
 fdO "builtin_function_or_method" [(.builtin "type.__prepare__"), (.type "type")],
 dcO [en P "__module__" 714 (sv "lazycore.pattern_nodes" 705), en P "__qualname__" 716 (sv "PVar" 715), en P "__firstlineno__" 718 (.int 140 717), eR P "__init__" 727 414, eR P "row" 734 421, eR P "__static_attributes__" 736 422] 6,
 tpO [],
 tb3 [142,4,413,146,4,420],
 coF false "PVar" "PVar" 709 140 0 0 403 404 0 0 0 712,
 plO (.type "frame") [(some (.ref 405)), (some (.ref 3)), (some (.ref 402)), none, (some (sv "lazycore.pattern_nodes" 705)), none, (some (.ref 0))],
 tpO [],
 tbO [],
 tpS ["self", "name", "place"] 722,
 tpO [],
 fnT (zC 15 0) "PVar.__init__",
 tpO [],
 tbO [],
 tpS ["self"] 731,
 tpO [],
 fnT (zC 15 1) "PVar.row",
 coF true "row" "PVar.row" 728 146 1 3 415 416 417 418 419 732,
 fnO (zC 15 1) "PVar.row" (sv "lazycore.pattern_nodes" 705) .none 420,
 tpS ["name"] 735,
 fdO "super" [(.ref 424), (.ref 424), (.ref 424)],
 fdO "builtin_function_or_method" [(.builtin "object.__init_subclass__"), (.ref 424)],
 tpO [(.ref 395)],
 fdO "builtin_function_or_method" [(.builtin "type.__prepare__"), (.type "type")],
 dcO [en P "__module__" 747 (sv "lazycore.pattern_nodes" 705), en P "__qualname__" 749 (sv "PWild" 748), en P "__firstlineno__" 751 (.int 148 750), eR P "__init__" 759 441, eR P "row" 766 448, eR P "__static_attributes__" 767 449] 6,
 tpO [],
 tb3 [150,4,440,153,4,447],
 coF false "PWild" "PWild" 742 148 0 0 430 431 0 0 0 745,
 plO (.type "frame") [(some (.ref 432)), (some (.ref 3)), (some (.ref 429)), none, (some (sv "lazycore.pattern_nodes" 705)), none, (some (.ref 0))],
 tpO [],
 tbO [],
 tpS ["self", "place"] 755,
 tpO [],
 fnT (zC 16 0) "PWild.__init__",
 tpO [],
 tbO [],
 tpS ["self"] 763,
 tpO [],
 fnT (zC 16 1) "PWild.row",
 coF true "row" "PWild.row" 760 153 1 3 442 443 444 445 446 764,
 fnO (zC 16 1) "PWild.row" (sv "lazycore.pattern_nodes" 705) .none 447,
 tpO [],
 fdO "super" [(.ref 451), (.ref 451), (.ref 451)],
 fdO "builtin_function_or_method" [(.builtin "object.__init_subclass__"), (.ref 451)],
 tpO [(.ref 395)],
 fdO "builtin_function_or_method" [(.builtin "type.__prepare__"), (.type "type")],
 dcO [en P "__module__" 778 (sv "lazycore.pattern_nodes" 705), en P "__qualname__" 780 (sv "PLit" 779), en P "__firstlineno__" 782 (.int 155 781), eR P "__init__" 792 468, eR P "row" 799 475, eR P "__static_attributes__" 802 476] 6,
 tpO [],
 tb3 [157,4,467,162,4,474],
 coF false "PLit" "PLit" 773 155 0 0 457 458 0 0 0 776,
 plO (.type "frame") [(some (.ref 459)), (some (.ref 3)), (some (.ref 456)), none, (some (sv "lazycore.pattern_nodes" 705)), none, (some (.ref 0))],
 tpO [],
 tbO [],
 tpS ["self", "kind", "value", "place"] 786,
 tpO [],
 fnT (zC 17 0) "PLit.__init__",
 tpO [],
 tbO [],
 tpS ["self"] 796,
 tpO [],
 fnT (zC 17 1) "PLit.row",
 coF true "row" "PLit.row" 793 162 1 3 469 470 471 472 473 797,
 fnO (zC 17 1) "PLit.row" (sv "lazycore.pattern_nodes" 705) .none 474,
 tpS ["kind", "value"] 800,
 fdO "super" [(.ref 478), (.ref 478), (.ref 478)],
 fdO "builtin_function_or_method" [(.builtin "object.__init_subclass__"), (.ref 478)],
 tpO [(.ref 395)],
 fdO "builtin_function_or_method" [(.builtin "type.__prepare__"), (.type "type")],
 dcO [en P "__module__" 813 (sv "lazycore.pattern_nodes" 705), en P "__qualname__" 815 (sv "PCon" 814), en P "__firstlineno__" 817 (.int 164 816), eR P "__init__" 827 495, eR P "row" 834 502, eR P "__static_attributes__" 837 503] 6,
 tpO [],
 tb3 [166,4,494,171,4,501],
 coF false "PCon" "PCon" 808 164 0 0 484 485 0 0 0 811,
 plO (.type "frame") [(some (.ref 486)), (some (.ref 3)), (some (.ref 483)), none, (some (sv "lazycore.pattern_nodes" 705)), none, (some (.ref 0))],
 tpO [],
 tbO [],
 tpS ["self", "name", "args", "place"] 821,
 tpO [],
 fnT (zC 18 0) "PCon.__init__",
 tpO [],
 tbO [],
 tpS ["self"] 831,
 tpO [],
 fnT (zC 18 1) "PCon.row",
 coF true "row" "PCon.row" 828 171 1 3 496 497 498 499 500 832,
 fnO (zC 18 1) "PCon.row" (sv "lazycore.pattern_nodes" 705) .none 501,
 tpS ["args", "name"] 835,
 fdO "super" [(.ref 505), (.ref 505), (.ref 505)],
 fdO "builtin_function_or_method" [(.builtin "object.__init_subclass__"), (.ref 505)],
 tpO [(.ref 395)],
 fdO "builtin_function_or_method" [(.builtin "type.__prepare__"), (.type "type")],
 dcO [en P "__module__" 848 (sv "lazycore.pattern_nodes" 705), en P "__qualname__" 850 (sv "PTuple" 849), en P "__firstlineno__" 852 (.int 173 851), eR P "__init__" 861 522, eR P "row" 868 529, eR P "__static_attributes__" 870 530] 6,
 tpO [],
 tb3 [175,4,521,179,4,528],
 coF false "PTuple" "PTuple" 843 173 0 0 511 512 0 0 0 846,
 plO (.type "frame") [(some (.ref 513)), (some (.ref 3)), (some (.ref 510)), none, (some (sv "lazycore.pattern_nodes" 705)), none, (some (.ref 0))],
 tpO [],
 tbO [],
 tpS ["self", "items", "place"] 856,
 tpO [],
 fnT (zC 19 0) "PTuple.__init__",
 tpO [],
 tbO [],
 tpS ["self"] 865,
 tpO [],
 fnT (zC 19 1) "PTuple.row",
 coF true "row" "PTuple.row" 862 179 1 3 523 524 525 526 527 866,
 fnO (zC 19 1) "PTuple.row" (sv "lazycore.pattern_nodes" 705) .none 528,
 tpS ["items"] 869,
 fdO "super" [(.ref 532), (.ref 532), (.ref 532)],
 fdO "builtin_function_or_method" [(.builtin "object.__init_subclass__"), (.ref 532)],
 tpO [(.ref 395)],
 fdO "builtin_function_or_method" [(.builtin "type.__prepare__"), (.type "type")],
 dcO [en P "__module__" 881 (sv "lazycore.pattern_nodes" 705), en P "__qualname__" 883 (sv "PList" 882), en P "__firstlineno__" 885 (.int 181 884), eR P "__init__" 894 549, eR P "row" 901 556, eR P "__static_attributes__" 903 557] 6,
 tpO [],
 tb3 [183,4,548,187,4,555],
 coF false "PList" "PList" 876 181 0 0 538 539 0 0 0 879,
 plO (.type "frame") [(some (.ref 540)), (some (.ref 3)), (some (.ref 537)), none, (some (sv "lazycore.pattern_nodes" 705)), none, (some (.ref 0))],
 tpO [],
 tbO [],
 tpS ["self", "items", "place"] 889,
 tpO [],
 fnT (zC 20 0) "PList.__init__",
 tpO [],
 tbO [],
 tpS ["self"] 898,
 tpO [],
 fnT (zC 20 1) "PList.row",
 coF true "row" "PList.row" 895 187 1 3 550 551 552 553 554 899,
 fnO (zC 20 1) "PList.row" (sv "lazycore.pattern_nodes" 705) .none 555,
 tpS ["items"] 902,
 fdO "super" [(.ref 559), (.ref 559), (.ref 559)],
 fdO "builtin_function_or_method" [(.builtin "object.__init_subclass__"), (.ref 559)],
 tpO [(.ref 395)],
 fdO "builtin_function_or_method" [(.builtin "type.__prepare__"), (.type "type")],
 dcO [en P "__module__" 914 (sv "lazycore.pattern_nodes" 705), en P "__qualname__" 916 (sv "PAs" 915), en P "__firstlineno__" 918 (.int 189 917), eR P "__init__" 928 576, eR P "row" 935 583, eR P "__static_attributes__" 938 584] 6,
 tpO [],
 tb3 [191,4,575,196,4,582],
 coF false "PAs" "PAs" 909 189 0 0 565 566 0 0 0 912,
 plO (.type "frame") [(some (.ref 567)), (some (.ref 3)), (some (.ref 564)), none, (some (sv "lazycore.pattern_nodes" 705)), none, (some (.ref 0))],
 tpO [],
 tbO [],
 tpS ["self", "name", "pattern", "place"] 922,
 tpO [],
 fnT (zC 21 0) "PAs.__init__",
 tpO [],
 tbO [],
 tpS ["self"] 932,
 tpO [],
 fnT (zC 21 1) "PAs.row",
 coF true "row" "PAs.row" 929 196 1 3 577 578 579 580 581 933,
 fnO (zC 21 1) "PAs.row" (sv "lazycore.pattern_nodes" 705) .none 582,
 tpS ["name", "pattern"] 936,
 fdO "super" [(.ref 586), (.ref 586), (.ref 586)],
 fdO "builtin_function_or_method" [(.builtin "object.__init_subclass__"), (.ref 586)],
 tpO [(.ref 395)],
 fdO "builtin_function_or_method" [(.builtin "type.__prepare__"), (.type "type")],
 dcO [en P "__module__" 949 (sv "lazycore.pattern_nodes" 705), en P "__qualname__" 951 (sv "PLazy" 950), en P "__firstlineno__" 953 (.int 198 952), eR P "__init__" 962 603, eR P "row" 969 610, eR P "__static_attributes__" 971 611] 6,
 tpO [],
 tb3 [200,4,602,204,4,609],
 coF false "PLazy" "PLazy" 944 198 0 0 592 593 0 0 0 947,
 plO (.type "frame") [(some (.ref 594)), (some (.ref 3)), (some (.ref 591)), none, (some (sv "lazycore.pattern_nodes" 705)), none, (some (.ref 0))],
 tpO [],
 tbO [],
 tpS ["self", "pattern", "place"] 957,
 tpO [],
 fnT (zC 22 0) "PLazy.__init__",
 tpO [],
 tbO [],
 tpS ["self"] 966,
 tpO [],
 fnT (zC 22 1) "PLazy.row",
 coF true "row" "PLazy.row" 963 204 1 3 604 605 606 607 608 967,
 fnO (zC 22 1) "PLazy.row" (sv "lazycore.pattern_nodes" 705) .none 609,
 tpS ["pattern"] 970,
 fdO "super" [(.ref 613), (.ref 613), (.ref 613)],
 fdO "builtin_function_or_method" [(.builtin "object.__init_subclass__"), (.ref 613)],
 tpO [(.ref 395)],
 fdO "builtin_function_or_method" [(.builtin "type.__prepare__"), (.type "type")],
 dcO [en P "__module__" 982 (sv "lazycore.pattern_nodes" 705), en P "__qualname__" 984 (sv "PBang" 983), en P "__firstlineno__" 986 (.int 206 985), eR P "__init__" 995 630, eR P "row" 1002 637, eR P "__static_attributes__" 1004 638] 6,
 tpO [],
 tb3 [208,4,629,212,4,636],
 coF false "PBang" "PBang" 977 206 0 0 619 620 0 0 0 980,
 plO (.type "frame") [(some (.ref 621)), (some (.ref 3)), (some (.ref 618)), none, (some (sv "lazycore.pattern_nodes" 705)), none, (some (.ref 0))],
 tpO [],
 tbO [],
 tpS ["self", "pattern", "place"] 990,
 tpO [],
 fnT (zC 23 0) "PBang.__init__",
 tpO [],
 tbO [],
 tpS ["self"] 999,
 tpO [],
 fnT (zC 23 1) "PBang.row",
 coF true "row" "PBang.row" 996 212 1 3 631 632 633 634 635 1000,
 fnO (zC 23 1) "PBang.row" (sv "lazycore.pattern_nodes" 705) .none 636,
 tpS ["pattern"] 1003,
 fdO "super" [(.ref 640), (.ref 640), (.ref 640)],
 fdO "builtin_function_or_method" [(.builtin "object.__init_subclass__"), (.ref 640)],
 dcO [en P "[]" 1010 (.int 0 1016), en P ":" 1012 (.int 2 1017), en P "()" 1014 (.int 0 1018)] 3,
 tpO [],
 tbO [],
 tpS ["many"] 1026,
 tpO [],
 fnT (zV 29) "tuple_name",
 coF true "tuple_name" "tuple_name" 1023 219 1 3 644 645 646 647 648 1027,
 fnO (zV 29) "tuple_name" (sv "lazycore.pattern_forms" 1008) .none 649,
 tpO [],
 tbO [],
 tpS ["name"] 1033,
 tpO [],
 fnT (zV 30) "is_tuple_name",
 coF true "is_tuple_name" "is_tuple_name" 1030 221 1 3 651 652 653 654 655 1034,
 fnO (zV 30) "is_tuple_name" (sv "lazycore.pattern_forms" 1008) .none 656,
 tpO [],
 tbO [],
 tpS ["items"] 1040,
 tpO [],
 fnT (zV 31) "listed",
 coF true "listed" "listed" 1037 223 1 3 658 659 660 661 662 1041,
 fnO (zV 31) "listed" (sv "lazycore.pattern_forms" 1008) .none 663,
 tpO [],
 tbO [],
 tpS ["text"] 1047,
 tpO [],
 fnT (zV 32) "lettered",
 coF true "lettered" "lettered" 1044 225 1 3 665 666 667 668 669 1048,
 fnO (zV 32) "lettered" (sv "lazycore.pattern_forms" 1008) .none 670,
 tpO [],
 tbO [],
 tpS ["pattern"] 1054,
 tpO [],
 fnT (zV 33) "spread",
 tpO [],
 tbO [],
 tpS ["pattern"] 1061,
 tpO [],
 fnT (zV 34) "parts_of",
 tpO [],
 tbO [],
 tpS ["pattern", "found", "part"] 1068,
 tpO [],
 fnT (zV 35) "variables_of",
 tpO [],
 tbO [],
 fnT (zV 36) "renamed_pattern",
 coF true "renamed_pattern" "renamed_pattern" 1074 248 2 3 693 694 0 0 695 1077,
 fnO (zV 36) "renamed_pattern" (sv "lazycore.pattern_forms" 1008) .none 696,
 tpO [],
 fdO "builtin_function_or_method" [(.builtin "type.__prepare__"), (.type "type")],
 dcO [en P "__module__" 1087 (sv "lazycore.pattern_forms" 1008), en P "__qualname__" 1089 (sv "Constructors" 1088), en P "__firstlineno__" 1091 (.int 264 1090), eR P "__init__" 1099 711, eR P "arity" 1107 718, eR P "is_newtype" 1115 725, eR P "siblings" 1121 730, eR P "__static_attributes__" 1123 731] 8,
 tpO [],
 tb3 [266,4,710,269,4,717,274,4,724,277,4,729],
 coF false "Constructors" "Constructors" 1082 264 0 0 701 702 0 0 0 1085,
 plO (.type "frame") [(some (.ref 703)), (some (.ref 3)), (some (.ref 700)), none, (some (sv "lazycore.pattern_forms" 1008)), none, (some (.ref 0))],
 tpO [],
 tbO [],
 tpS ["self", "cons"] 1095,
 tpO [],
 fnT (zC 37 0) "Constructors.__init__",
 tpO [],
 tbO [],
 tpS ["self", "name"] 1103,
 tpO [],
 fnT (zC 37 1) "Constructors.arity",
 tpO [],
 tbO [],
 tpS ["self", "name"] 1111,
 tpO [],
 fnT (zC 37 2) "Constructors.is_newtype",
 tpO [],
 tbO [],
 fnT (zC 37 3) "Constructors.siblings",
 tpS ["cons"] 1122,
 fdO "getset_descriptor" [(sv "__dict__" 1124), (.ref 733), (.builtin "function.__dict__"), (.builtin "function.__dict__#set")],
 fdO "getset_descriptor" [(sv "__weakref__" 1126), (.ref 733), (.builtin "ExceptionGroup.__weakref__"), .none],
 fdO "super" [(.ref 733), (.ref 733), (.ref 733)],
 fdO "builtin_function_or_method" [(.builtin "object.__init_subclass__"), (.ref 733)],
 tpO [],
 fdO "builtin_function_or_method" [(.builtin "type.__prepare__"), (.type "type")],
 dcO [en P "__module__" 1140 (sv "lazycore.decisions" 1131), en P "__qualname__" 1142 (sv "Leaf" 1141), en P "__firstlineno__" 1144 (.int 286 1143), eR P "__init__" 1154 751, eR P "__static_attributes__" 1158 752] 5,
 tpO [],
 tb3 [288,4,750],
 coF false "Leaf" "Leaf" 1135 286 0 0 741 742 0 0 0 1138,
 plO (.type "frame") [(some (.ref 743)), (some (.ref 3)), (some (.ref 740)), none, (some (sv "lazycore.decisions" 1131)), none, (some (.ref 0))],
 tpO [],
 tbO [],
 tpS ["self", "number", "binds", "behind"] 1148,
 tpO [],
 fnT (zC 39 0) "Leaf.__init__",
 tpS ["behind", "binds", "number"] 1155,
 fdO "getset_descriptor" [(sv "__dict__" 1159), (.ref 754), (.builtin "function.__dict__"), (.builtin "function.__dict__#set")],
 fdO "getset_descriptor" [(sv "__weakref__" 1161), (.ref 754), (.builtin "ExceptionGroup.__weakref__"), .none],
 fdO "super" [(.ref 754), (.ref 754), (.ref 754)],
 fdO "builtin_function_or_method" [(.builtin "object.__init_subclass__"), (.ref 754)],
 tpO [],
 fdO "builtin_function_or_method" [(.builtin "type.__prepare__"), (.type "type")],
 dcO [en P "__module__" 1173 (sv "lazycore.decisions" 1131), en P "__qualname__" 1175 (sv "Nothing" 1174), en P "__firstlineno__" 1177 (.int 292 1176), eR P "__static_attributes__" 1178 766] 4,
 tpO [],
 tbO [],
 coF false "Nothing" "Nothing" 1168 292 0 0 762 763 0 0 0 1171,
 plO (.type "frame") [(some (.ref 764)), (some (.ref 3)), (some (.ref 761)), none, (some (sv "lazycore.decisions" 1131)), none, (some (.ref 0))],
 tpO [],
 fdO "getset_descriptor" [(sv "__dict__" 1179), (.ref 768), (.builtin "function.__dict__"), (.builtin "function.__dict__#set")],
 fdO "getset_descriptor" [(sv "__weakref__" 1181), (.ref 768), (.builtin "ExceptionGroup.__weakref__"), .none],
 fdO "super" [(.ref 768), (.ref 768), (.ref 768)],
 fdO "builtin_function_or_method" [(.builtin "object.__init_subclass__"), (.ref 768)],
 tpO [],
 fdO "builtin_function_or_method" [(.builtin "type.__prepare__"), (.type "type")],
 dcO [en P "__module__" 1193 (sv "lazycore.decisions" 1131), en P "__qualname__" 1195 (sv "Switch" 1194), en P "__firstlineno__" 1197 (.int 294 1196), eR P "__init__" 1207 786, eR P "__static_attributes__" 1211 787] 5,
 tpO [],
 tb3 [296,4,785],
 coF false "Switch" "Switch" 1188 294 0 0 776 777 0 0 0 1191,
 plO (.type "frame") [(some (.ref 778)), (some (.ref 3)), (some (.ref 775)), none, (some (sv "lazycore.decisions" 1131)), none, (some (.ref 0))],
 tpO [],
 tbO [],
 tpS ["self", "name", "branches", "other"] 1201,
 tpO [],
 fnT (zC 41 0) "Switch.__init__",
 tpS ["branches", "name", "other"] 1208,
 fdO "getset_descriptor" [(sv "__dict__" 1212), (.ref 789), (.builtin "function.__dict__"), (.builtin "function.__dict__#set")],
 fdO "getset_descriptor" [(sv "__weakref__" 1214), (.ref 789), (.builtin "ExceptionGroup.__weakref__"), .none],
 fdO "super" [(.ref 789), (.ref 789), (.ref 789)],
 fdO "builtin_function_or_method" [(.builtin "object.__init_subclass__"), (.ref 789)],
 tpO [],
 fdO "builtin_function_or_method" [(.builtin "type.__prepare__"), (.type "type")],
 dcO [en P "__module__" 1226 (sv "lazycore.decisions" 1131), en P "__qualname__" 1228 (sv "Force" 1227), en P "__firstlineno__" 1230 (.int 300 1229), eR P "__init__" 1239 807, eR P "__static_attributes__" 1242 808] 5,
 tpO [],
 tb3 [302,4,806],
 coF false "Force" "Force" 1221 300 0 0 797 798 0 0 0 1224,
 plO (.type "frame") [(some (.ref 799)), (some (.ref 3)), (some (.ref 796)), none, (some (sv "lazycore.decisions" 1131)), none, (some (.ref 0))],
 tpO [],
 tbO [],
 tpS ["self", "name", "tree"] 1234,
 tpO [],
 fnT (zC 42 0) "Force.__init__",
 tpS ["name", "tree"] 1240,
 fdO "getset_descriptor" [(sv "__dict__" 1243), (.ref 810), (.builtin "function.__dict__"), (.builtin "function.__dict__#set")],
 fdO "getset_descriptor" [(sv "__weakref__" 1245), (.ref 810), (.builtin "ExceptionGroup.__weakref__"), .none],
 fdO "super" [(.ref 810), (.ref 810), (.ref 810)],
 fdO "builtin_function_or_method" [(.builtin "object.__init_subclass__"), (.ref 810)],
 tpO [],
 fdO "builtin_function_or_method" [(.builtin "type.__prepare__"), (.type "type")],
 dcO [en P "__module__" 1257 (sv "lazycore.decisions" 1131), en P "__qualname__" 1259 (sv "Project" 1258), en P "__firstlineno__" 1261 (.int 305 1260), eR P "__init__" 1272 828, eR P "__static_attributes__" 1277 829] 5,
 tpO [],
 tb3 [307,4,827],
 coF false "Project" "Project" 1252 305 0 0 818 819 0 0 0 1255,
 plO (.type "frame") [(some (.ref 820)), (some (.ref 3)), (some (.ref 817)), none, (some (sv "lazycore.decisions" 1131)), none, (some (.ref 0))],
 tpO [],
 tbO [],
 tpS ["self", "name", "con", "value", "tree"] 1265,
 tpO [],
 fnT (zC 43 0) "Project.__init__",
 tpS ["con", "name", "tree", "value"] 1273,
 fdO "getset_descriptor" [(sv "__dict__" 1278), (.ref 831), (.builtin "function.__dict__"), (.builtin "function.__dict__#set")],
 fdO "getset_descriptor" [(sv "__weakref__" 1280), (.ref 831), (.builtin "ExceptionGroup.__weakref__"), .none],
 fdO "super" [(.ref 831), (.ref 831), (.ref 831)],
 fdO "builtin_function_or_method" [(.builtin "object.__init_subclass__"), (.ref 831)],
 tpO [],
 tbO [],
 tpS ["pattern"] 1288,
 tpO [],
 fnT (zV 44) "is_idle",
 tpO [],
 fdO "builtin_function_or_method" [(.builtin "type.__prepare__"), (.type "type")],
 dcO [en P "__module__" 1299 (sv "lazycore.decisions" 1131), en P "__qualname__" 1301 (sv "Line" 1300), en P "__firstlineno__" 1303 (.int 316 1302), eR P "__init__" 1314 856, eR P "plain" 1327 863, eR P "put" 1336 870, eR P "losing" 1342 875, eR P "__static_attributes__" 1347 876] 8,
 tpO [],
 tb3 [318,4,855,324,4,862,338,4,869,341,4,874],
 coF false "Line" "Line" 1294 316 0 0 846 847 0 0 0 1297,
 plO (.type "frame") [(some (.ref 848)), (some (.ref 3)), (some (.ref 845)), none, (some (sv "lazycore.decisions" 1131)), none, (some (.ref 0))],
 tpO [],
 tbO [],
 tpS ["self", "number", "patterns", "binds", "is_lost"] 1307,
 tpO [],
 fnT (zC 45 0) "Line.__init__",
 tpO [],
 tbO [],
 tpS ["self", "place", "column", "is_worked", "pattern", "binds", "patterns"] 1318,
 tpO [],
 fnT (zC 45 1) "Line.plain",
 tpO [],
 tbO [],
 tpS ["self", "place", "patterns"] 1331,
 tpO [],
 fnT (zC 45 2) "Line.put",
 tpO [],
 tbO [],
 fnT (zC 45 3) "Line.losing",
 tpS ["binds", "is_lost", "number", "patterns"] 1343,
 fdO "getset_descriptor" [(sv "__dict__" 1348), (.ref 878), (.builtin "function.__dict__"), (.builtin "function.__dict__#set")],
 fdO "getset_descriptor" [(sv "__weakref__" 1350), (.ref 878), (.builtin "ExceptionGroup.__weakref__"), .none],
 fdO "super" [(.ref 878), (.ref 878), (.ref 878)],
 fdO "builtin_function_or_method" [(.builtin "object.__init_subclass__"), (.ref 878)],
 tpO [],
 tbO [],
 tpS ["pattern"] 1358,
 tpO [],
 fnT (zV 46) "key_of",
 tpO [],
 fdO "builtin_function_or_method" [(.builtin "type.__prepare__"), (.type "type")],
 dcO [en P "__module__" 1369 (sv "lazycore.decisions" 1131), en P "__qualname__" 1371 (sv "Decider" 1370), en P "__firstlineno__" 1373 (.int 350 1372), eR P "__init__" 1383 903, eR P "tree" 1396 910, eR P "looked" 1402 915, eR P "is_held" 1410 922, eR P "branch" 1416 927, eR P "projected" 1436 934, eR P "__static_attributes__" 1440 935] 10,
 tpO [],
 tb3 [352,4,902,357,4,909,371,4,914,392,4,921,397,4,926,412,4,933],
 coF false "Decider" "Decider" 1364 350 0 0 893 894 0 0 0 1367,
 plO (.type "frame") [(some (.ref 895)), (some (.ref 3)), (some (.ref 892)), none, (some (sv "lazycore.decisions" 1131)), none, (some (.ref 0))],
 tpO [],
 tbO [],
 tpS ["self", "known", "falls", "fresh"] 1377,
 tpO [],
 fnT (zC 47 0) "Decider.__init__",
 tpO [],
 tbO [],
 tpS ["self", "columns", "lines", "first", "place", "pattern", "behind"] 1387,
 tpO [],
 fnT (zC 47 1) "Decider.tree",
 tpO [],
 tbO [],
 fnT (zC 47 2) "Decider.looked",
 tpO [],
 tbO [],
 tpS ["self", "pattern"] 1406,
 tpO [],
 fnT (zC 47 3) "Decider.is_held",
 tpO [],
 tbO [],
 fnT (zC 47 4) "Decider.branch",
 tpO [],
 tbO [],
 tpS ["self", "place", "columns", "lines", "first", "con", "name", "found", "line", "plain", "pattern", "is_bang", "inner", "inside"] 1420,
 tpO [],
 fnT (zC 47 5) "Decider.projected",
 coF true "projected" "Decider.projected" 1417 412 4 3 928 929 930 931 932 1434,
 fnO (zC 47 5) "Decider.projected" (sv "lazycore.decisions" 1131) .none 933,
 tpS ["falls", "fresh", "known"] 1437,
 fdO "getset_descriptor" [(sv "__dict__" 1441), (.ref 937), (.builtin "function.__dict__"), (.builtin "function.__dict__#set")],
 fdO "getset_descriptor" [(sv "__weakref__" 1443), (.ref 937), (.builtin "ExceptionGroup.__weakref__"), .none],
 fdO "super" [(.ref 937), (.ref 937), (.ref 937)],
 fdO "builtin_function_or_method" [(.builtin "object.__init_subclass__"), (.ref 937)],
 tpO [],
 tbO [],
 tpS ["text", "found", "sign"] 1453,
 tpO [],
 fnT (zV 49) "text_core",
 coF true "text_core" "text_core" 1450 429 1 3 942 943 944 945 946 1456,
 fnO (zV 49) "text_core" (sv "lazycore.failures" 1448) .none 947,
 tpO [],
 tbO [],
 tpS ["text"] 1462,
 tpO [],
 fnT (zV 50) "failing",
 coF true "failing" "failing" 1459 434 1 3 949 950 951 952 953 1463,
 fnO (zV 50) "failing" (sv "lazycore.failures" 1448) .none 954,
 tpO [],
 fdO "builtin_function_or_method" [(.builtin "type.__prepare__"), (.type "type")],
 dcO [en P "__module__" 1478 (sv "lazycore.clauses" 1466), en P "__qualname__" 1480 (sv "Row" 1479), en P "__firstlineno__" 1482 (.int 438 1481), eR P "__init__" 1492 969, eR P "__static_attributes__" 1496 970] 5,
 tpO [],
 tb3 [440,4,968],
 coF false "Row" "Row" 1473 438 0 0 959 960 0 0 0 1476,
 plO (.type "frame") [(some (.ref 961)), (some (.ref 3)), (some (.ref 958)), none, (some (sv "lazycore.clauses" 1466)), none, (some (.ref 0))],
 tpO [],
 tbO [],
 tpS ["self", "patterns", "body", "can_fail"] 1486,
 tpO [],
 fnT (zC 53 0) "Row.__init__",
 tpS ["body", "can_fail", "patterns"] 1493,
 fdO "getset_descriptor" [(sv "__dict__" 1497), (.ref 972), (.builtin "function.__dict__"), (.builtin "function.__dict__#set")],
 fdO "getset_descriptor" [(sv "__weakref__" 1499), (.ref 972), (.builtin "ExceptionGroup.__weakref__"), .none],
 fdO "super" [(.ref 972), (.ref 972), (.ref 972)],
 fdO "builtin_function_or_method" [(.builtin "object.__init_subclass__"), (.ref 972)],
 tpO [],
 tbO [],
 tpS ["row", "found", "pattern"] 1507,
 tpO [],
 fnT (zV 54) "row_variables",
 tpO [],
 tbO [],
 tpS ["tree", "found", "key", "fields", "inner"] 1516,
 tpO [],
 fnT (zV 55) "uses_of",
 tpO [],
 fdO "builtin_function_or_method" [(.builtin "type.__prepare__"), (.type "type")],
 dcO [en P "__module__" 1531 (sv "lazycore.clauses" 1466), en P "__qualname__" 1533 (sv "Maker" 1532), en P "__firstlineno__" 1535 (.int 464 1534), eR P "__init__" 1547 1004, eR P "whole" 1557 1011, eR P "function" 1566 1018, eR P "core" 1572 1023, eR P "leaf" 1588 1030, eR P "bound" 1594 1035, eR P "taken" 1607 1042, eR P "call" 1613 1047, eR P "__static_attributes__" 1620 1048] 12,
 tpO [],
 tb3 [466,4,1003,474,4,1010,483,4,1017,487,4,1022,503,4,1029,520,4,1034,525,4,1041,532,4,1046],
 coF false "Maker" "Maker" 1526 464 0 0 994 995 0 0 0 1529,
 plO (.type "frame") [(some (.ref 996)), (some (.ref 3)), (some (.ref 993)), none, (some (sv "lazycore.clauses" 1466)), none, (some (.ref 0))],
 tpO [],
 tbO [],
 tpS ["self", "rows", "fail", "known", "fresh", "uses"] 1539,
 tpO [],
 fnT (zC 56 0) "Maker.__init__",
 tpO [],
 tbO [],
 tpS ["self", "tree", "number", "found"] 1551,
 tpO [],
 fnT (zC 56 1) "Maker.whole",
 tpO [],
 tbO [],
 tpS ["self", "row", "fall"] 1561,
 tpO [],
 fnT (zC 56 2) "Maker.function",
 tpO [],
 tbO [],
 fnT (zC 56 3) "Maker.core",
 tpO [],
 tbO [],
 tpS ["self", "tree", "row", "behind", "found", "fall", "told", "column", "name", "core"] 1576,
 tpO [],
 fnT (zC 56 4) "Maker.leaf",
 tpO [],
 tbO [],
 fnT (zC 56 5) "Maker.bound",
 tpO [],
 tbO [],
 tpS ["self", "pattern", "name", "column", "names", "other", "row"] 1598,
 tpO [],
 fnT (zC 56 6) "Maker.taken",
 coF true "taken" "Maker.taken" 1595 525 4 3 1036 1037 1038 1039 1040 1605,
 fnO (zC 56 6) "Maker.taken" (sv "lazycore.clauses" 1466) .none 1041,
 tpO [],
 tbO [],
 fnT (zC 56 7) "Maker.call",
 tpS ["called", "fail", "fresh", "known", "rows", "uses"] 1614,
 fdO "getset_descriptor" [(sv "__dict__" 1621), (.ref 1050), (.builtin "function.__dict__"), (.builtin "function.__dict__#set")],
 fdO "getset_descriptor" [(sv "__weakref__" 1623), (.ref 1050), (.builtin "ExceptionGroup.__weakref__"), .none],
 fdO "super" [(.ref 1050), (.ref 1050), (.ref 1050)],
 fdO "builtin_function_or_method" [(.builtin "object.__init_subclass__"), (.ref 1050)],
 tpO [],
 tbO [],
 tpS ["core"] 1631,
 tpS ["core"] 1632,
 fnT (zV 57) "kept_body",
 coF true "kept_body" "kept_body" 1628 554 1 3 1055 1056 1057 1058 1059 1633,
 fnO (zV 57) "kept_body" (sv "lazycore.clauses" 1466) .none 1060,
 tpO [],
 tbO [],
 fnT (zV 58) "matched_by",
 tpO [],
 tbO [],
 tpS ["names", "rows", "fail", "cons", "fresh"] 1645,
 tpO [],
 fnT (zV 59) "matched",
 tpO [],
 tbO [],
 tpS ["expr", "found", "tasks", "node", "part", "scope"] 1658,
 tpO [],
 fnT (zV 61) "nodes_of",
 tpO [],
 fdO "builtin_function_or_method" [(.builtin "type.__prepare__"), (.type "type")],
 dcO [en P "__module__" 1676 (sv "lazycore.datatypes" 1667), en P "__qualname__" 1678 (sv "ConInfo" 1677), en P "__firstlineno__" 1680 (.int 576 1679), eR P "__init__" 1695 1094, eR P "__static_attributes__" 1704 1095] 5,
 tpO [],
 tb3 [578,4,1093],
 coF false "ConInfo" "ConInfo" 1671 576 0 0 1084 1085 0 0 0 1674,
 plO (.type "frame") [(some (.ref 1086)), (some (.ref 3)), (some (.ref 1083)), none, (some (sv "lazycore.datatypes" 1667)), none, (some (.ref 0))],
 tpO [],
 tbO [],
 tpS ["self", "name", "tag", "arity", "stricts", "type_name", "scheme", "siblings", "is_newtype"] 1684,
 tpO [],
 fnT (zC 63 0) "ConInfo.__init__",
 tpS ["arity", "is_newtype", "name", "scheme", "siblings", "stricts", "tag", "type_name"] 1696,
 fdO "getset_descriptor" [(sv "__dict__" 1705), (.ref 1097), (.builtin "function.__dict__"), (.builtin "function.__dict__#set")],
 fdO "getset_descriptor" [(sv "__weakref__" 1707), (.ref 1097), (.builtin "ExceptionGroup.__weakref__"), .none],
 fdO "super" [(.ref 1097), (.ref 1097), (.ref 1097)],
 fdO "builtin_function_or_method" [(.builtin "object.__init_subclass__"), (.ref 1097)],
 tpO [],
 tbO [],
 tpS ["name", "at"] 1717,
 tpO [],
 fnT (zV 65) "base_of",
 tpO [],
 fdO "builtin_function_or_method" [(.builtin "type.__prepare__"), (.type "type")],
 dcO [en P "__module__" 1729 (sv "lazycore.fresh" 1712), en P "__qualname__" 1731 (sv "Fresh" 1730), en P "__firstlineno__" 1733 (.int 591 1732), eR P "__init__" 1741 1124, eR P "avoid" 1750 1131, eR P "next" 1760 1138, eR P "__static_attributes__" 1763 1139] 7,
 tpO [],
 tb3 [593,4,1123,598,4,1130,602,4,1137],
 coF false "Fresh" "Fresh" 1724 591 0 0 1112 1113 0 0 0 1727,
 plO (.type "frame") [(some (.ref 1114)), (some (.ref 3)), (some (.ref 1111)), none, (some (sv "lazycore.fresh" 1712)), none, (some (.ref 0))],
 tpO [],
 tpO [],
 tbO [],
 tpS ["self", "avoided"] 1737,
 tpO [],
 fnT (zC 66 0) "Fresh.__init__",
 tpO [],
 tbO [],
 tpS ["self", "names", "name"] 1745,
 tpO [],
 fnT (zC 66 1) "Fresh.avoid",
 tpO [],
 tbO [],
 tpS ["self", "base", "told", "number"] 1754,
 tpO [],
 fnT (zC 66 2) "Fresh.next",
 tpS ["avoided", "numbers"] 1761,
 fdO "getset_descriptor" [(sv "__dict__" 1764), (.ref 1141), (.builtin "function.__dict__"), (.builtin "function.__dict__#set")],
 fdO "getset_descriptor" [(sv "__weakref__" 1766), (.ref 1141), (.builtin "ExceptionGroup.__weakref__"), .none],
 fdO "super" [(.ref 1141), (.ref 1141), (.ref 1141)],
 fdO "builtin_function_or_method" [(.builtin "object.__init_subclass__"), (.ref 1141)],
 tpO [],
 tbO [],
 tpS ["script", "k", "cell_one", "size_one", "mixed_one"] 1776,
 tpO [],
 fnT (zV 68) "_law_pool",
 tpO [],
 tbO [],
 tpS ["source_one", "top_one", "digit_one"] 1787,
 tpO [],
 fnT (zV 69) "_law_take",
 tpO [],
 tbO [],
 tpS ["source_one", "things_one"] 1796,
 tpO [],
 fnT (zV 70) "_law_one",
 tpO [],
 tbO [],
 tpS ["source_one", "kind_one", "labels", "way"] 1804,
 tpO [],
 fnT (zV 71) "_law_pattern",
 tpO [],
 tbO [],
 tpS ["tree_one", "found_one", "key_one", "fields_one", "inner_one"] 1814,
 tpO [],
 fnT (zV 72) "_law_count",
 tpO [],
 tpS ["number_one", "owned", "can_fall"] 1825,
 tpS ["number_one", "owned", "can_fall"] 1828,
 fnT (zV 73) "_law_body",
 tpO [],
 tbO [],
 fnT (zV 74) "_law_core_right",
 tpO [],
 tbO [],
 fnT (zV 75) "law"]
noncomputable def ch0 (P : Params) : Frag := [
 (3, boot_o_3 P),
 (12, tbO [])]
noncomputable def ch7 (P : Params) : Frag := [
 (3, dcO ((en P "__name__" 165 (sv "lazycore.core" 194)) :: (nsN P).tail.take 14) 15),
 (12, tb3 (tbN.take 18))]
noncomputable def fO (P : Params) : Frag := [
 (3, dcO ((en P "__name__" 165 (sv "lazycore.nodes" 661)) :: (nsN P).tail.take 20) 21),
 (12, tb3 (tbN.take 36)),
 (395, zu "Node" none 669 677 [(.type "object")] [(.ref 395), (.type "object")] 394 [])]
noncomputable def fP (P : Params) : Frag := [
 (3, dcO ((en P "__name__" 165 (sv "lazycore.pattern_nodes" 705)) :: (nsN P).tail.take 25) 26),
 (12, tb3 (tbN.take 51)),
 (395, zu "Node" none 669 677 [(.type "object")] [(.ref 395), (.type "object")] 394 [(.ref 424), (.ref 451), (.ref 478), (.ref 505), (.ref 532)])]
noncomputable def fQ (P : Params) : Frag := [
 (3, dcO ((en P "__name__" 165 (sv "lazycore.pattern_forms" 1008)) :: (nsN P).tail.take 32) 33),
 (12, tb3 (tbN.take 63))]
noncomputable def fR (P : Params) : Frag := [
 (3, dcO ((en P "__name__" 165 (sv "lazycore.pattern_forms" 1008)) :: (nsN P).tail.take 33) 34),
 (12, tb3 (tbN.take 63))]
noncomputable def fT (P : Params) : Frag := [
 (3, dcO ((en P "__name__" 165 (sv "lazycore.decisions" 1131)) :: (nsN P).tail.take 46) 47),
 (12, tb3 (tbN.take 102))]
noncomputable def fU (P : Params) : Frag := [
 (3, dcO ((en P "__name__" 165 (sv "lazycore.decisions" 1131)) :: (nsN P).tail.take 51) 52),
 (12, tb3 (tbN.take 117))]
noncomputable def hJ (P : Params) : Frag := []
noncomputable def mrg : Nat → Nat → Frag → List Obj → Frag
 | 0, _, _, _ => []
 | n + 1, i, a, b => match a with
  | [] => match b with
   | [] => []
   | y :: b' => (i, y) :: mrg n (Nat.succ i) [] b'
  | (j, x) :: a' => match Nat.beq i j with
   | true => (j, x) :: mrg n (Nat.succ i) a' b
   | false => match b with
    | [] => []
    | y :: b' => (i, y) :: mrg n (Nat.succ i) ((j, x) :: a') b'
noncomputable def pch : Nat → Frag → Frag → List Obj
 | 0, _, _ => []
 | n + 1, a, c => match a with
  | [] => []
  | (i, x) :: a' => match c with
   | [] => x :: pch n a' []
   | (j, y) :: c' => match Nat.beq i j with
    | true => y :: pch n a' c'
    | false => x :: pch n a' ((j, y) :: c')
noncomputable def lS : List Obj → List Obj × List Obj
 | [] => ([], [])
 | a :: l => (a :: (lS l).2, (lS l).1)
noncomputable def pW : Nat → List Obj → BT
 | 0, _ => .nil
 | n + 1, l => match l with
  | [] => .nil
  | o :: r => .node o (pW n (lS r).1) (pW n (lS r).2)
noncomputable def hO (P : Params) : Frag := mrg 1200 0 (KT P) (RSt P)
noncomputable def stQ (ch : Params → Frag) (n tk : Nat) (w : World) (os : OsState) : SharedT := ⟨pW 12 (pch n (hO w.params) (ch w.params)), n, (boot_heap w.params).life, #[], boot_drawn, tk, os⟩
noncomputable abbrev st0 := stQ ch0 15 187
noncomputable abbrev st7 := stQ ch7 226 463
noncomputable abbrev hU := stQ fO 400 705
noncomputable abbrev hY := stQ fP 535 874
noncomputable abbrev j0 := stQ fQ 643 1016
noncomputable abbrev j3 := stQ fR 644 1023
noncomputable abbrev hZ := stQ fT 815 1250
noncomputable abbrev gA := stQ fU 942 1448
noncomputable abbrev j4 := stQ hJ 1198 1846
noncomputable def uJ : Env := { scope := pw.main.scope, locals := mainNs, globals := mainNs, cells := [], code := .ref 13, frame := some 14 }
noncomputable abbrev wN : Option Value := some (.ref 6)
noncomputable abbrev bdQ : Code := .body (behindTheImports pw) uJ
noncomputable abbrev frQ : List Frame := [topFrame default]
noncomputable def gB : List Stmt := ((behindTheImports pw).drop 0).take 7
theorem fV (w : World) (os : OsState) : (PySem.W.Fast.tw10110043849684766642 PySem.W.Fast.tw14364793385576792824 pw w 11 wN 1 1625 (st0 w os) ⟨(PySem.W.Fast.tw12563942051412417395 gB uJ).wrap doneF deadEnd id id, bdQ, default, frQ⟩) = some (.next, st7 w os, bdQ, ⟨60, 0, 75, 16⟩) := by kernel_rfl
noncomputable def jL : List Stmt := ((behindTheImports pw).drop 7).take 7
theorem gC (w : World) (os : OsState) : (PySem.W.Fast.tw10110043849684766642 PySem.W.Fast.tw14364793385576792824 pw w 11 wN 1 1469 (st7 w os) ⟨(PySem.W.Fast.tw12563942051412417395 jL uJ).wrap doneF deadEnd id id, bdQ, ⟨60, 0, 75, 16⟩, frQ⟩) = some (.next, hU w os, bdQ, ⟨132, 0, 138, 24⟩) := by kernel_rfl
noncomputable def jM : List Stmt := ((behindTheImports pw).drop 14).take 6
theorem gD (w : World) (os : OsState) : (PySem.W.Fast.tw10110043849684766642 PySem.W.Fast.tw14364793385576792824 pw w 11 wN 1 1402 (hU w os) ⟨(PySem.W.Fast.tw12563942051412417395 jM uJ).wrap doneF deadEnd id id, bdQ, ⟨132, 0, 138, 24⟩, frQ⟩) = some (.next, hY w os, bdQ, ⟨173, 0, 180, 46⟩) := by kernel_rfl
noncomputable def jN : List Stmt := ((behindTheImports pw).drop 20).take 8
theorem gE (w : World) (os : OsState) : (PySem.W.Fast.tw10110043849684766642 PySem.W.Fast.tw14364793385576792824 pw w 11 wN 1 1151 (hY w os) ⟨(PySem.W.Fast.tw12563942051412417395 jN uJ).wrap doneF deadEnd id id, bdQ, ⟨173, 0, 180, 46⟩, frQ⟩) = some (.next, j0 w os, bdQ, ⟨217, 0, 217, 4⟩) := by kernel_rfl
noncomputable def nZ : List Stmt := ((behindTheImports pw).drop 28).take 1
theorem gF (w : World) (os : OsState) : (PySem.W.Fast.tw10110043849684766642 PySem.W.Fast.tw14364793385576792824 pw w 11 wN 1 59 (j0 w os) ⟨(PySem.W.Fast.tw12563942051412417395 nZ uJ).wrap doneF deadEnd id id, bdQ, ⟨217, 0, 217, 4⟩, frQ⟩) = some (.next, j3 w os, bdQ, ⟨218, 0, 218, 8⟩) := byRow2 "special-get-raises" (P := fun w => (PySem.W.Fast.tw10110043849684766642 PySem.W.Fast.tw14364793385576792824 pw w 11 wN 1 59 (j0 w os) ⟨(PySem.W.Fast.tw12563942051412417395 nZ uJ).wrap doneF deadEnd id id, bdQ, ⟨217, 0, 217, 4⟩, frQ⟩) = some (.next, j3 w os, bdQ, ⟨218, 0, 218, 8⟩)) (fun w => by kernel_rfl) (fun w => by kernel_rfl) w
noncomputable def jO : List Stmt := ((behindTheImports pw).drop 29).take 14
theorem gG (w : World) (os : OsState) : (PySem.W.Fast.tw10110043849684766642 PySem.W.Fast.tw14364793385576792824 pw w 11 wN 1 1421 (j3 w os) ⟨(PySem.W.Fast.tw12563942051412417395 jO uJ).wrap doneF deadEnd id id, bdQ, ⟨218, 0, 218, 8⟩, frQ⟩) = some (.next, hZ w os, bdQ, ⟨300, 0, 304, 24⟩) := by kernel_rfl
noncomputable def jP : List Stmt := ((behindTheImports pw).drop 43).take 5
theorem gH (w : World) (os : OsState) : (PySem.W.Fast.tw10110043849684766642 PySem.W.Fast.tw14364793385576792824 pw w 11 wN 1 1008 (hZ w os) ⟨(PySem.W.Fast.tw12563942051412417395 jP uJ).wrap doneF deadEnd id id, bdQ, ⟨300, 0, 304, 24⟩, frQ⟩) = some (.next, gA w os, bdQ, ⟨350, 0, 427, 57⟩) := by kernel_rfl
noncomputable def jQ : List Stmt := ((behindTheImports pw).drop 48).take 28
theorem gI (w : World) (os : OsState) : (PySem.W.Fast.tw10110043849684766642 PySem.W.Fast.tw14364793385576792824 pw w 11 wN 1 1805 (gA w os) ⟨(PySem.W.Fast.tw12563942051412417395 jQ uJ).wrap doneF deadEnd id id, bdQ, ⟨350, 0, 427, 57⟩, frQ⟩) = some (.next, j4 w os, bdQ, ⟨676, 0, 703, 15⟩) := by kernel_rfl
noncomputable def qv : Program := view pw [73, 75]
noncomputable def sI : List Str := (["_wall", "Var", "Lit", "App", "Lam", "Let", "Alt", "Case", "Con", "Prim", "rows_of", "Node", "PVar", "PWild", "PLit", "PCon", "PTuple", "PList", "PAs", "PLazy", "PBang", "NIL", "CONS", "UNIT", "BUILT_IN", "tuple_name", "is_tuple_name", "listed", "lettered", "spread", "parts_of", "variables_of", "renamed_pattern", "Constructors", "Leaf", "Nothing", "Switch", "Force", "Project", "is_idle", "Line", "key_of", "Decider", "text_core", "failing", "NOBODY", "Row", "row_variables", "uses_of", "Maker", "kept_body", "matched_by", "matched", "nodes_of", "ConInfo", "base_of", "Fresh", "_law_pool", "_law_take", "_law_one", "_law_pattern", "_law_count", "_law_core_right"]).map Str.ofString
noncomputable def jR (w : World) (os : OsState) : Shared := ⟨boot_heap w.params, #[], boot_drawn, boot_toks, os⟩
theorem lT (N : Nat) (hN : Nat.ble 600 N = true) : ∀ w : World, (fencedOpening treeTable pw w N).map (fun s => (s.heap, s.gens, s.drawn, s.toks)) = some (boot_heap w.params, Array.mk [], boot_drawn, boot_toks) :=
 boot_open (by kernel_rfl) hN (fun s => by kernel_rfl)
theorem j5 (w : World) (os : OsState) : PySem.W.Fast.tw15667345088766844465 PySem.W.Fast.tw14364793385576792824 pw w 11 wN 12 (jR w os) (topStub pw) =
  some ((st0 w os).abs, ⟨PySem.W.Fast.tw11892475500146522536 PySem.W.Fast.tw14364793385576792824 bdQ, bdQ, default, frQ⟩) := by kernel_rfl
theorem j6 (w : World) (os : OsState) : PySem.W.Fast.tw10110043849684766642 PySem.W.Fast.tw14364793385576792824 pw w 11 wN 1 1 (st0 w os) ⟨(PySem.W.Fast.tw1066825118222455980 (behindTheImports pw) uJ).wrap (fun U => doneF .next) deadEnd id id, bdQ, default, frQ⟩ = some (.next, st0 w os, bdQ, default) := by kernel_rfl
theorem j7 (w : World) (os : OsState) : PySem.W.Fast.tw14082659384304107361 PySem.W.Fast.tw14364793385576792824 pw w 11 wN 2 (j4 w os).abs ⟨doneF .next, bdQ, ⟨676, 0, 703, 15⟩, frQ⟩ = some (j4 w os).abs := by kernel_rfl
theorem lU : behindTheImports pw = gB ++ (jL ++ (jM ++ (jN ++ (nZ ++ (jO ++ (jP ++ (jQ ++ []))))))) := by kernel_rfl
noncomputable def wH (P : Params) : Heap := absHeap (pW 12 (pch 1198 (hO P) (hJ P))) 1198 (boot_heap P).life
theorem lV (w : World) (os : OsState) : topRun treeTable pw w 11 wN (12 + (1 + (1625 + (1469 + (1402 + (1151 + (59 + (1421 + (1008 + (1805 + 2)))))))))) (jR w os) (topStub pw) = some ⟨wH w.params, #[], boot_drawn, 1846, os⟩ := by
 have h1 := j5 w os
 have h2 := j6 w os
 have h3 := j7 w os
 have r7 := fV w os
 have r14 := gC w os
 have r20 := gD w os
 have r28 := gE w os
 have r29 := gF w os
 have r43 := gG w os
 have r48 := gH w os
 have r76 := gI w os
 simp only [← PySem.W.Fast.te10110043849684766642, ← PySem.W.Fast.te11892475500146522536, ← PySem.W.Fast.te15667345088766844465, ← PySem.W.Fast.te14364793385576792824, ← PySem.W.Fast.te12563942051412417395, ← PySem.W.Fast.te1066825118222455980, ← PySem.W.Fast.te14082659384304107361] at h1 h2 h3 r7 r14 r20 r28 r29 r43 r48 r76
 exact go_top h1 (piece_block (segRun_of h2) (by rw [lU]; exact piece_app (segRun_of r7) (piece_app (segRun_of r14) (piece_app (segRun_of r20) (piece_app (segRun_of r28) (piece_app (segRun_of r29) (piece_app (segRun_of r43) (piece_app (segRun_of r48) (piece_app (segRun_of r76) (piece_nil h3))))))))))
theorem lW (w : World) : ((boot_heap w.params).isNs mainGlobals && (#[] : Array GenState).size == 0, (boot_heap w.params).objs.size, (boot_heap w.params).nsMap mainGlobals "__annotations__") = (true, 11, wN) := by kernel_rfl
noncomputable def XtL (s : Shared) : Bool := xlAt qv [] s && recOk [] s
noncomputable def shQ (P : Params) (os : OsState) : Shared := ⟨wH P, #[], boot_drawn, 1846, os⟩
theorem gJ (P : Params) (os : OsState) : (staticsOk (PySem.W.Fast.tw5923862056798008813 pw.main.body) (boot_heap P) (wH P) && namesBound pw (wH P) && gensDone (shQ P os) && laidKept (boot_heap P) (wH P)) = true := by kernel_rfl
theorem gK (P : Params) (os : OsState) : PySem.W.Fast.tw4187177175401517315 qv sI (PySem.W.Fast.tw5923862056798008813 pw.main.body) XtL true (shQ P os) = openGood qv sI := by kernel_rfl
theorem lX : LeftO pw qv sI XtL (fun s => s.heap) (fun w => wH w.params) 10000 := by
 refine LeftO.of_pieces (H₀ := boot_heap) (gs₀ := #[]) (d₀ := boot_drawn) (k₀ := boot_toks) (m₀ := 11) (ann := wN) (H₁ := wH) (gs₁ := #[]) (d₁ := boot_drawn) (k₁ := 1846)
  (M := 12 + (1 + (1625 + (1469 + (1402 + (1151 + (59 + (1421 + (1008 + (1805 + 2)))))))))) (lT 10000 rfl) lW lV (by decide) fun w => ?_
 funext os
 have h1 := gJ w.params os
 have h2 := gK w.params os
 rw [← PySem.W.Fast.te5923862056798008813] at h1 h2
 rw [← PySem.W.Fast.te4187177175401517315] at h2
 exact Prod.ext h1 (Prod.ext h2 rfl)
theorem lY (P : Params) : (KT P).map (fun x => (wH P).get? x.1) = (KT P).map (fun x => some x.2) := by kernel_rfl
theorem gL (P : Params) (h : Heap) (e : h = wH P) : ∀ x ∈ KT P, h.get? x.1 = some x.2 := by
 subst e
 exact List.map_inj_left.mp (lY P)
theorem j8 : readsOut pw pw.main.body "vars" = false := by decide +kernel
theorem j9 : readsOut pw pw.main.body "dir" = false := by decide +kernel
theorem ja : readsOut pw pw.main.body "locals" = false := by decide +kernel
theorem jb : noRoadLSs { strict := false, foot := none } pw.main.body = true := by decide +kernel
theorem jc {f : Str → Bool} {a b c : Str} (x : f a = false) (y : f b = false) (z : f c = false) : [a, b, c].filter f = [] := by
 rw [List.filter_cons_of_neg (by rw [x]; decide), List.filter_cons_of_neg (by rw [y]; decide), List.filter_cons_of_neg (by rw [z]; decide)]; rfl
theorem jd {s s' : Bool} {b b' : List Str} {l : List Stmt} (x : s = s') (y : b = b') (h : noRoadLSs { strict := s', foot := none, bare := b' } l = true) : noRoadLSs { strict := s, foot := none, bare := b } l = true := by subst x y; exact h
theorem je : looksOpen pw = true := by
 delta looksOpen
 refine (look_both (look_both (look_both (look_both (look_both ?_ ?_) ?_) ?_) (jd ?_ (jc j8 j9 ja) jb)) ?_)
 all_goals decide +kernel
theorem jf : PySem.Challenge.rw_og0040_01.row.partSaid = true := by
 delta OpenRow.partSaid
 refine look_both (look_both (look_both (look_both (look_both (look_both (look_both (look_both (look_both (look_both (look_both (look_both (look_both ?_ ?_) ?_) ?_) ?_) ?_) ?_) ?_) ?_) ?_) ?_) ?_) ?_) ?_
 ·exact je
 all_goals decide +kernel
theorem jg : PySem.Challenge.rw_og0040_01.row.wellSaid = true := by
 delta OpenRow.wellSaid
 refine look_both (look_both jf ?_) ?_
 all_goals decide +kernel
theorem lZ : PySem.Challenge.rw_og0040_01.wellSaid = true := by
 delta OpenLaw.wellSaid
 refine look_both (look_both (look_both (look_both (look_both (look_both (look_both (look_both (look_both (look_both (look_both (look_both (look_both (look_both (look_both (look_both (look_both (look_both ?_ ?_) ?_) ?_) ?_) ?_) ?_) ?_) ?_) ?_) ?_) ?_) ?_) ?_) ?_) ?_) ?_) ?_) ?_
 ·exact jg
 all_goals decide +kernel
theorem nn {α : Type} {b : α} {P : Prop} (h : none = some b) : P := by cases h
theorem ff {P : Prop} (h : false = true) : P := by cases h
theorem cn {α : Type} {a : α} {l : List α} {P : Prop} (h : a :: l = []) : P := by cases h
theorem nc {α : Type} {a : α} {l : List α} {P : Prop} (h : [] = a :: l) : P := by cases h
theorem sn {n : Nat} {P : Prop} (h : n + 1 = 0) : P := by cases h
theorem ns {n : Nat} {P : Prop} (h : 0 = n + 1) : P := by cases h
theorem nm {α : Type} {x : α} {P : Prop} (h : x ∈ []) : P := by cases h
inductive CL (u : Unit) where
 | Var | Lit | App | Lam | Let | Alt | Case | Con
 | PVar | PWild | PLit | PCon | PTuple | PList | PAs | PLazy | PBang
 | Constructors | Leaf | Nothing | Switch | Force | Project | Line | Decider | Row | Maker | ConInfo | Fresh
abbrev Cls := CL ()
noncomputable def CL.ctorIdx {u : Unit} (x : CL u) : Nat := x.casesOn 0 1 2 3 4 5 6 7 8 9 10 11 12 13 14 15 16 17 18 19 20 21 22 23 24 25 26 27 28
inductive FL (u : Unit) where
 | name | kind | value | func | args | params | body | binds | isRec | key | names | alts | other
 | place | cons | number | behind | branches | isLost | patterns | known | falls | fresh | canFail
 | rows | fail | uses | called | tag | arity | stricts | typeName | scheme | siblings | isNewtype | avoided | numbers
abbrev Fld := FL ()
noncomputable def FL.ctorIdx {u : Unit} (x : FL u) : Nat := x.casesOn 0 1 2 3 4 5 6 7 8 9 10 11 12 13 14 15 16 17 18 19 20 21 22 23 24 25 26 27 28 29 30 31 32 33 34 35 36
noncomputable def Fld.str : Fld → Str
 | .name => "name" | .kind => "kind" | .value => "value" | .func => "fun" | .args => "args" | .params => "params" | .body => "body"
 | .binds => "binds" | .isRec => "is_rec" | .key => "key" | .names => "names" | .alts => "alts" | .other => "other"
 | .place => "place" | .cons => "cons" | .number => "number" | .behind => "behind" | .branches => "branches" | .isLost => "is_lost"
 | .patterns => "patterns" | .known => "known" | .falls => "falls" | .fresh => "fresh" | .canFail => "can_fail"
 | .rows => "rows" | .fail => "fail" | .uses => "uses" | .called => "called" | .tag => "tag" | .arity => "arity"
 | .stricts => "stricts" | .typeName => "type_name" | .scheme => "scheme" | .siblings => "siblings" | .isNewtype => "is_newtype"
 | .avoided => "avoided" | .numbers => "numbers"
noncomputable def Fld.all : List Fld := [.name, .kind, .value, .func, .args, .params, .body, .binds, .isRec, .key, .names, .alts, .other,
 .place, .cons, .number, .behind, .branches, .isLost, .patterns, .known, .falls, .fresh, .canFail,
 .rows, .fail, .uses, .called, .tag, .arity, .stricts, .typeName, .scheme, .siblings, .isNewtype, .avoided, .numbers]
noncomputable def wb (l : List Fld) (f : Fld) : Bool := l.any fun g => Nat.beq f.ctorIdx g.ctorIdx
theorem Fld.idx_inj {f g : Fld} (h : Nat.beq f.ctorIdx g.ctorIdx = true) : f = g := by
 have k : ∀ f : Fld, Fld.all[f.ctorIdx]? = some f := by intro f; cases f <;> rfl
 exact Option.some.inj ((k f).symm.trans ((congrArg (Fld.all[·]?) (Nat.eq_of_beq_eq_true h)).trans (k g)))
theorem n7 {l : List Fld} {f : Fld} (h : wb l f = true) : f ∈ l := by
 obtain ⟨g, m, e⟩ := List.any_eq_true.mp h
 rw [Fld.idx_inj e]; exact m
theorem n8 {l : List Fld} {f : Fld} (h : wb l f = false) : f ∉ l := fun m => by
 have := List.any_eq_false.mp h f m
 exact this (Nat.beq_refl _)
noncomputable def xZ (x : Str) : Option Fld := Fld.all.find? fun f => f.str == x
noncomputable def Cls.all : List Cls := [.Var, .Lit, .App, .Lam, .Let, .Alt, .Case, .Con, .PVar, .PWild, .PLit, .PCon, .PTuple, .PList, .PAs, .PLazy, .PBang,
 .Constructors, .Leaf, .Nothing, .Switch, .Force, .Project, .Line, .Decider, .Row, .Maker, .ConInfo, .Fresh]
noncomputable def Cls.addr : Cls → Addr
 | .Var => 59 | .Lit => 101 | .App => 141 | .Lam => 183 | .Let => 221 | .Alt => 242 | .Case => 282 | .Con => 322
 | .PVar => 424 | .PWild => 451 | .PLit => 478 | .PCon => 505 | .PTuple => 532 | .PList => 559 | .PAs => 586 | .PLazy => 613 | .PBang => 640
 | .Constructors => 733 | .Leaf => 754 | .Nothing => 768 | .Switch => 789 | .Force => 810 | .Project => 831 | .Line => 878
 | .Decider => 937 | .Row => 972 | .Maker => 1050 | .ConInfo => 1097 | .Fresh => 1141
noncomputable def Cls.flds : Cls → List Fld
 | .Var => [.name] | .Lit => [.kind, .value] | .App => [.func, .args] | .Lam => [.params, .body] | .Let => [.binds, .body, .isRec]
 | .Alt => [.key, .names, .body] | .Case => [.value, .name, .alts, .other] | .Con => [.name, .args]
 | .PVar => [.place, .name] | .PWild => [.place] | .PLit => [.place, .kind, .value] | .PCon => [.place, .name, .args]
 | .Constructors => [.cons] | .Leaf => [.number, .binds, .behind] | .Nothing => [] | .Switch => [.name, .branches, .other]
 | .Line => [.number, .patterns, .binds, .isLost] | .Decider => [.known, .falls, .fresh] | .Row => [.patterns, .body, .canFail]
 | .Maker => [.rows, .fail, .known, .fresh, .uses, .called]
 | .ConInfo => [.name, .tag, .arity, .stricts, .typeName, .scheme, .siblings, .isNewtype] | .Fresh => [.avoided, .numbers]
 | _ => []
set_option genInjectivity true in
inductive D where
 | none
 | bool (b : Bool)
 | int (i : Int)
 | str (s : Str)
 | list (l : List D)
 | tup (l : List D)
 | obj (t : Nat) (c : Cls) (l : List D)
 | clo (l : List D)
 | val (v : Value)
 | mref (k : Nat)
noncomputable def D.ctorIdx (x : D) : Nat := x.casesOn 0 (fun a => 1) (fun a => 2) (fun a => 3) (fun a => 4) (fun a => 5) (fun a a a => 6) (fun a => 7) (fun a => 8) (fun a => 9)
inductive MO where
 | lst (l : List D)
 | dS (ks : List Str) (l : List D)
 | dI (ks : List Int) (l : List D)
 | ins (c : Cls) (fs : List Fld) (l : List D)
 | fz (l : List D)
 | fS (ks : List Str) (l : List D)
 | gone
 | tab
noncomputable def MO.ctorIdx (x : MO) : Nat := x.casesOn (fun a => 0) (fun a a => 1) (fun a a => 2) (fun a a a => 3) (fun a => 4) (fun a a => 5) 6 7
structure St where
 sto : List MO
 nt : Nat
noncomputable abbrev MC (α : Type) := St → (α → St → Prop) → Prop
noncomputable abbrev Rg := List (Option D)
noncomputable def nth : Rg → Nat → Option D
 | [], _ => none
 | d :: _, 0 => d
 | _ :: r, i + 1 => nth r i
noncomputable def put : Rg → Nat → D → Rg
 | [], _, _ => []
 | _ :: r, 0, d => some d :: r
 | x :: r, i + 1, d => x :: put r i d
noncomputable def rd (ρ : Rg) (i : Nat) (Q : D → Prop) : Prop := match nth ρ i with
 | some d => Q d
 | none => False
inductive Out where
 | fall (ρ : Rg)
 | ret (d : D)
noncomputable def Out.ctorIdx (x : Out) : Nat := x.casesOn (fun a => 0) (fun a => 1)
noncomputable def ofO {α : Type} (x : Option α) (Q : α → Prop) : Prop := match x with
 | some a => Q a
 | none => False
noncomputable def br (b : Bool) (A B : Prop) : Prop := match b with
 | true => A
 | false => B
@[irreducible] noncomputable def uK (o : MO) : MC D := fun st Q => Q (.mref st.sto.length) ⟨st.sto ++ [o], st.nt⟩
@[irreducible] noncomputable def yi (k : Nat) (o : MO) (st : St) (Q : St → Prop) : Prop := Q ⟨st.sto.set k o, st.nt⟩
theorem xF {o : MO} {st : St} {Q : D → St → Prop} : uK o st Q = Q (.mref st.sto.length) ⟨st.sto ++ [o], st.nt⟩ := by with_unfolding_all rfl
theorem yB {k : Nat} {o : MO} {st : St} {Q : St → Prop} : yi k o st Q = Q ⟨st.sto.set k o, st.nt⟩ := by with_unfolding_all rfl
noncomputable def vd (d : D) (st : St) (Q : List D → Prop) : Prop := match d with
 | .list l => Q l
 | .mref k => ofO st.sto[k]? fun o => match o with
  | .lst l => Q l
  | .fz l => Q l
  | _ => False
 | _ => False
noncomputable def eqL (f : D → D → Option Bool) : List D → List D → Option Bool
 | x :: l, y :: m => do let a ← f x y; let b ← eqL f l m; some (a && b)
 | _, _ => some true
noncomputable def eqD : Nat → D → D → Option Bool
 | 0, _, _ => none
 | n + 1, a, b => match a with
  | .none => match b with
   | .none => some true
   | _ => none
  | .int i => match b with
   | .int j => some (i == j)
   | _ => none
  | .str x => match b with
   | .str y => some (x == y)
   | _ => none
  | .list l => match b with
   | .list m => if l.length = m.length then eqL (eqD n) l m else some false
   | _ => none
  | .tup l => match b with
   | .tup m => do let b ← eqL (eqD n) l m; some (b && l.length == m.length)
   | _ => none
  | .obj t c _ => match c with
   | .Con => match b with
    | .obj u d _ => match d with
     | .Con => if t = 0 ∨ u = 0 then none else some (t == u)
     | _ => none
    | _ => none
   | _ => none
  | _ => none
noncomputable def memD (n : Nat) (x : D) : List D → Option Bool
 | [] => some false
 | y :: l => do let a ← eqD n y x; let b ← memD n x l; some (a || b)
noncomputable def qj (d : D) (st : St) (Q : D → Prop) : Prop := match d with
 | .mref k => ofO st.sto[k]? fun o => match o with
  | .lst l => Q (.list l)
  | .fz l => Q (.list l)
  | _ => False
 | d => Q d
noncomputable def dictEqI (ks : List Int) (l : List D) (js : List Int) (m : List D) : Option Bool :=
 if ks.length ≠ js.length then some false else go ks l
where go : List Int → List D → Option Bool
 | k :: ks, x :: l => match (js.zip m).lookup k with
  | none => some false
  | some y => do if ← eqD 1 x y then go ks l else none
 | _, _ => some true
noncomputable def gM (x y : D) (st : St) (Q : D → Prop) : Prop := vd x st fun l => vd y st fun m => l.length + m.length ≤ sizeLine ∧ Q (.list (l ++ m))
noncomputable def vM (x y : D) (Q : Int → Int → Prop) : Prop := match x with
 | .int i => match y with
  | .int j => Q i j
  | _ => False
 | _ => False
noncomputable def l0 (op : Operator) (x y : D) (st : St) (Q : D → Prop) : Prop := match op with
 | .Add => match x with
  | .int i => match y with
   | .int j => Q (.int (i + j))
   | _ => False
  | .str a => match y with
   | .str b => a.length + b.length ≤ sizeLine ∧ Q (.str (a ++ b))
   | _ => False
  | x => gM x y st Q
 | .Sub => vM x y fun i j => Q (.int (i - j))
 | .Mult => vM x y fun i j => (i.natAbs < 2 ^ 64 ∨ j.natAbs < 2 ^ 64) ∧ Q (.int (i * j))
 | .FloorDiv => vM x y fun i j => (0 < j ∧ j < 2 ^ 40) ∧ Q (.int (i.fdiv j))
 | .Mod => vM x y fun i j => (0 < j ∧ j < 2 ^ 40) ∧ Q (.int (i.fmod j))
 | .Pow => vM x y fun i j => (i = 10 ∧ j = 18) ∧ Q (.int (10 ^ 18))
 | _ => False
noncomputable def sJ (d : D) (st : St) (Q : Bool → Prop) : Prop := match d with
 | .bool b => Q b
 | .mref k => ofO st.sto[k]? fun o => match o with
  | .lst l => Q (!l.isEmpty)
  | _ => False
 | _ => False
noncomputable def tB (ks : List Str) (l : List D) (x : Str) : Option D := (ks.zip l).lookup x
noncomputable def xc (ks : List Int) (l : List D) (x : Int) : Option D := (ks.zip l).lookup x
noncomputable def zS {κ : Type} [DecidableEq κ] (ks : List κ) (l : List D) (x : κ) (d : D) : List κ × List D :=
 if ks.contains x then (ks, (ks.zip l).map fun p => if p.1 = x then d else p.2) else (ks ++ [x], l ++ [d])
noncomputable def inW (a b : D) (st : St) (Q : Bool → Prop) : Prop := match b with
 | .mref k => ofO st.sto[k]? fun o => match o with
  | .dS ks _ => match a with
   | .str x => Q (ks.contains x)
   | _ => False
  | .fS ks _ => match a with
   | .str x => Q (ks.contains x)
   | _ => False
  | .dI ks _ => match a with
   | .int x => Q (ks.contains x)
   | _ => False
  | .lst l => ofO (memD 3 a l) Q
  | .fz l => ofO (memD 3 a l) Q
  | _ => False
 | .list l => ofO (memD 3 a l) Q
 | .tup l => ofO (memD 3 a l) Q
 | _ => False
noncomputable def isNone (a : D) (Q : Bool → Prop) : Prop := match a with
 | .none => Q true
 | .val _ => False
 | .clo _ => False
 | _ => Q false
noncomputable def eqW (a b : D) (st : St) (Q : Bool → Prop) : Prop := qj a st fun a => qj b st fun b => match a with
 | .obj _ _ _ => False
 | a => ofO (eqD 3 a b) Q
noncomputable def neW (a b : D) (st : St) (Q : Bool → Prop) : Prop := match a with
 | .mref j => ofO st.sto[j]? fun o => match o with
  | .dI ks l => match b with
   | .mref k => ofO st.sto[k]? fun o => match o with
    | .dI js m => ofO (dictEqI ks l js m) fun r => Q (!r)
    | _ => False
   | _ => False
  | _ => eqW (.mref j) b st fun r => Q (!r)
 | a => eqW a b st fun r => Q (!r)
noncomputable def l4 (op : CmpOp) (a b : D) (st : St) (Q : Bool → Prop) : Prop := match op with
 | .Lt => vM a b fun i j => Q (decide (i < j))
 | .LtE => vM a b fun i j => Q (decide (i ≤ j))
 | .Gt => vM a b fun i j => Q (decide (j < i))
 | .GtE => vM a b fun i j => Q (decide (j ≤ i))
 | .Is => match b with
  | .none => isNone a Q
  | _ => False
 | .IsNot => match b with
  | .none => isNone a fun b => Q (!b)
  | _ => False
 | .In => inW a b st Q
 | .NotIn => inW a b st fun b => Q (!b)
 | .Eq => eqW a b st Q
 | .NotEq => neW a b st Q
noncomputable def wI (l : List D) (i : Int) : Option D := match i with
 | .ofNat n => l[n]?
 | .negSucc n => if n < l.length then l[l.length - (n + 1)]? else none
noncomputable def atW (a i : D) (st : St) (Q : D → Prop) : Prop := match i with
 | .str x => match a with
  | .mref k => ofO st.sto[k]? fun o => match o with
   | .dS ks l => ofO (tB ks l x) Q
   | .fS ks l => ofO (tB ks l x) Q
   | _ => False
  | _ => False
 | .int i => match a with
  | .str s => match i with
   | .ofNat n => ofO s.cps[n]? fun c => n < 2 ^ 62 ∧ Q (.str ⟨#[c]⟩)
   | _ => False
  | .tup l => ofO (wI l i) Q
  | .list l => ofO (wI l i) Q
  | .mref k => ofO st.sto[k]? fun o => match o with
   | .dI ks l => ofO (xc ks l i) Q
   | .lst l => ofO (wI l i) Q
   | .fz l => ofO (wI l i) Q
   | _ => False
  | _ => False
 | _ => False
inductive SL (u : Unit) where
 | upto | from | rev
abbrev Sl := SL ()
noncomputable def SL.ctorIdx {u : Unit} (x : SL u) : Nat := x.casesOn 0 1 2
noncomputable def sL (k : Sl) (a i : D) (st : St) (Q : D → Prop) : Prop := vd a st fun l => match i with
 | .int i => match k with
  | .upto => match i with
   | .ofNat n => Q (.list (l.take n))
   | .negSucc n => n = 0 ∧ Q (.list l.dropLast)
  | .from => match i with
   | .ofNat n => Q (.list (l.drop n))
   | _ => False
  | .rev => i = -1 ∧ Q (.list l.reverse)
 | _ => False
noncomputable def sM (a i d : D) (st : St) (Q : St → Prop) : Prop := match a with
 | .mref k => ofO st.sto[k]? fun o => match o with
  | .dS ks l => match i with
   | .str x => (zS ks l x d).2.length ≤ sizeLine ∧ yi k (.dS (zS ks l x d).1 (zS ks l x d).2) st Q
   | _ => False
  | .dI ks l => match i with
   | .int x => (zS ks l x d).2.length ≤ sizeLine ∧ yi k (.dI (zS ks l x d).1 (zS ks l x d).2) st Q
   | _ => False
  | .lst l => match i with
   | .int x => match x with
    | .ofNat n => (n < l.length ∧ n < 100) ∧ yi k (.lst (l.set n d)) st Q
    | _ => False
   | _ => False
  | _ => False
 | _ => False
noncomputable def zz : List Fld → List D → Fld → Option D
 | g :: fs, d :: l, f => match Nat.beq f.ctorIdx g.ctorIdx with
  | true => some d
  | false => zz fs l f
 | _, _, _ => none
noncomputable def pX (a : D) (f : Fld) (st : St) (Q : D → Prop) : Prop := match a with
 | .obj _ c l => match zz c.flds l f with
  | some d => Q d
  | none => False
 | .mref k => ofO st.sto[k]? fun o => match o with
  | .ins _ fs l => match zz fs l f with
   | some d => Q d
   | none => False
  | _ => False
 | _ => False
noncomputable def vN (a : D) (f : Fld) (d : D) (st : St) (Q : St → Prop) : Prop := match a with
 | .mref k => ofO st.sto[k]? fun o => match o with
  | .ins c fs l => br (!wb fs f && wb c.flds f && Nat.blt fs.length 100) (yi k (.ins c (fs ++ [f]) (l ++ [d])) st Q) False
  | _ => False
 | _ => False
noncomputable def strOf (i : Int) : Str := Str.ofString (toString i)
noncomputable def insKey (i : Int) : List Int → List Int
 | [] => [i]
 | j :: l => if i ≤ j then i :: j :: l else j :: insKey i l
noncomputable def sortI : List Int → List Int
 | [] => []
 | i :: l => insKey i (sortI l)
inductive BI (u : Unit) where
 | len | int | str | list | max | min | sorted
abbrev Bi := BI ()
noncomputable def BI.ctorIdx {u : Unit} (x : BI u) : Nat := x.casesOn 0 1 2 3 4 5 6
noncomputable def biW (b : Bi) (args : List D) (st : St) (Q : D → Prop) : Prop := match args with
 | a :: r => match b with
  | .len => match r with
   | [] => match a with
    | .str s => s.length ≤ sizeLine ∧ Q (.int (.ofNat s.length))
    | a => vd a st fun l => Q (.int (.ofNat l.length))
   | _ => False
  | .int => match r with
   | [] => match a with
    | .int i => Q (.int i)
    | .bool b => Q (.int (if b then 1 else 0))
    | _ => False
   | _ => False
  | .str => match r with
   | [] => match a with
    | .int i => i.natAbs < 2 ^ 64 ∧ Q (.str (strOf i))
    | _ => False
   | _ => False
  | .list => match r with
   | [] => vd a st fun l => Q (.list l)
   | _ => False
  | .max => match r with
   | [c] => vM a c fun i j => Q (.int (if j > i then j else i))
   | _ => False
  | .min => match r with
   | [c] => vM a c fun i j => Q (.int (if j < i then j else i))
   | _ => False
  | .sorted => match r with
   | [] => match a with
    | .mref k => ofO st.sto[k]? fun o => match o with
     | .dI ks _ => ks.length < 64 ∧ Q (.list ((sortI ks).map D.int))
     | _ => False
    | _ => False
   | _ => False
 | _ => False
noncomputable def y9 (n : Nat) : List D → List D
 | [] => []
 | d :: l => .tup [.int (.ofNat n), d] :: y9 (n + 1) l
noncomputable def n9 (d : D) : MC (List D) := fun st Q => match d with
 | .list l => Q l st
 | .mref k => ofO st.sto[k]? fun o => match o with
  | .dS ks l => yi k (.fS ks l) st fun st => Q (ks.map D.str) st
  | .fS ks _ => Q (ks.map D.str) st
  | .fz l => Q l st
  | _ => False
 | _ => False
inductive IT (u : Unit) where
 | range | enum | rev
abbrev It := IT ()
noncomputable def IT.ctorIdx {u : Unit} (x : IT u) : Nat := x.casesOn 0 1 2
noncomputable def itW (k : It) (d : D) (st : St) (Q : List D → Prop) : Prop := match k with
 | .range => match d with
  | .int i => ∃ n : Nat, (i = (n : Int) ∧ n ≤ sizeLine) ∧ Q ((List.range n).map fun i => D.int (Int.ofNat i))
  | _ => False
 | .enum => match d with
  | .list l => Q (y9 0 l)
  | _ => False
 | .rev => match d with
  | .list l => Q l.reverse
  | .mref k => ofO st.sto[k]? fun o => match o with
   | .fz l => Q l.reverse
   | _ => False
  | _ => False
noncomputable def zf : List Str := ["field", "held", "worked", "row", "fall", "inner", "fail"]
inductive ME (u : Unit) where
 | append | extend | pop | get | rfind | no
abbrev Me := ME ()
noncomputable def ME.ctorIdx {u : Unit} (x : ME u) : Nat := x.casesOn 0 1 2 3 4 5
noncomputable def rN (m : Me) (k : Nat) (args : List D) : MC D := fun st Q => ofO st.sto[k]? fun o => match o with
 | .lst l => match m with
  | .append => match args with
   | [a] => l.length < sizeLine ∧ yi k (.lst (l ++ [a])) st fun st => Q .none st
   | _ => False
  | .extend => match args with
   | [a] => vd a st fun n => l.length + n.length ≤ sizeLine ∧ yi k (.lst (l ++ n)) st fun st => Q .none st
   | _ => False
  | .pop => match args with
   | [] => ofO l.getLast? fun a => yi k (.lst l.dropLast) st fun st => Q a st
   | _ => False
  | _ => False
 | .dI ks l => match m with
  | .get => match args with
   | [a, e] => match a with
    | .int i => Q ((xc ks l i).getD e) st
    | _ => False
   | _ => False
  | _ => False
 | .dS ks l => match m with
  | .get => match args with
   | [a, e] => match a with
    | .str i => Q ((tB ks l i).getD e) st
    | _ => False
   | _ => False
  | _ => False
 | _ => False
noncomputable def jh (m : Me) (o : MO) (Q : Prop) : Prop := match o with
 | .lst _ => match m with
  | .append => Q
  | .extend => Q
  | .pop => Q
  | _ => False
 | .dI _ _ => match m with
  | .get => Q
  | _ => False
 | .dS _ _ => match m with
  | .get => Q
  | _ => False
 | _ => False
noncomputable def nf (m : Me) (s : Str) (args : List D) (Q : D → Prop) : Prop := match m with
 | .rfind => match args with
  | [a] => match a with
   | .str t => (t = "." ∧ s ∈ zf) ∧ Q (.int (-1))
   | _ => False
  | _ => False
 | _ => False
inductive Tg where
 | one (i : Nat)
 | many (is : List Nat)
noncomputable def Tg.ctorIdx (x : Tg) : Nat := x.casesOn (fun a => 0) (fun a => 1)
inductive X where
 | v (i : Nat)
 | z (i : Nat)
 | k (d : D)
 | bin (o : Operator) (a b : X)
 | neg (a : X)
 | and (a b : X)
 | or (a b : X)
 | not (a : X)
 | cmp (o : CmpOp) (a b : X)
 | ite (t a b : X)
 | lst (own : Bool) (l : X)
 | tup (l : X)
 | dict (s : Bool)
 | att (a : X) (f : Fld)
 | at (a i : X)
 | slc (s : Sl) (a i : X)
 | lc (own : Bool) (cp : List (Option Nat)) (t : Tg) (it c e : X)
 | tt
 | app (f l : X)
 | new (c : Cls) (p : Option (List Nat)) (l : X)
 | bi (b : Bi) (l : X)
 | isS (a : X)
 | isC (a : X) (l : List Addr)
 | met (a : X) (tb : List (Nat × Addr)) (f : Option Fld) (m : Me) (l : X)
 | it (k : It) (a : X)
 | nil
 | cons (a l : X)
 | nop
 | seq (a b : X)
 | ret (a : X)
 | rlam (is : List Nat)
 | set (t : Tg) (a : X)
 | sta (o : X) (f : Fld) (a : X)
 | stt (o i a : X)
 | aug (i : Nat) (a : X)
 | ex (a : X)
 | if (t a b : X)
 | for (t : Tg) (it b : X)
 | whl (t b : X)
 | bad
noncomputable def X.ctorIdx (x : X) : Nat := x.casesOn (fun a => 0) (fun a => 1) (fun a => 2) (fun a a a => 3) (fun a => 4) (fun a a => 5) (fun a a => 6) (fun a => 7) (fun a a a => 8) (fun a a a => 9) (fun a a => 10) (fun a => 11) (fun a => 12) (fun a a => 13) (fun a a => 14) (fun a a a => 15) (fun a a a a a a => 16) 17 (fun a a => 18) (fun a a a => 19) (fun a a => 20) (fun a => 21) (fun a a => 22) (fun a a a a a => 23) (fun a a => 24) 25 (fun a a => 26) 27 (fun a a => 28) (fun a => 29) (fun a => 30) (fun a a => 31) (fun a a a => 32) (fun a a a => 33) (fun a a => 34) (fun a => 35) (fun a a a => 36) (fun a a a => 37) (fun a a => 38) 39
structure Ev where
 e : Rg → MC D
 l : Rg → MC (List D)
 t : Rg → MC Bool
 i : Rg → MC (List D)
 s : Rg → MC Out
noncomputable abbrev zp := D → List D → MC D
noncomputable def no {α : Type} : MC α := fun U U => False
noncomputable def Ev.ofE (f : Rg → MC D) : Ev where
 e := f
 l := fun U => no
 t := fun ρ st Q => f ρ st fun d st => sJ d st fun b => Q b st
 i := fun ρ st Q => f ρ st fun d st => n9 d st Q
 s := fun U => no
noncomputable def Ev.ofS (f : Rg → MC Out) : Ev where
 e := fun U => no
 l := fun U => no
 t := fun U => no
 i := fun U => no
 s := f
noncomputable def gN (d : D) (st : St) (Q : D → St → Prop) : Prop := match d with
 | .mref k => ofO st.sto[k]? fun o => match o with
  | .lst l => yi k (.fz l) st fun st => Q (.list l) st
  | .fz l => Q (.list l) st
  | _ => Q (.mref k) st
 | d => Q d st
noncomputable def tS (own : Bool) (l : List D) : MC D := fun st Q => match own with
 | true => uK (.lst l) st Q
 | false => Q (.list l) st
noncomputable def putAll : List Nat → List D → Rg → (Rg → Prop) → Prop
 | i :: is, d :: l, ρ, Q => putAll is l (put ρ i d) Q
 | [], [], ρ, Q => Q ρ
 | _, _, _, _ => False
noncomputable def yV (t : Tg) (d : D) (ρ : Rg) (Q : Rg → Prop) : Prop := match t with
 | .one i => Q (put ρ i d)
 | .many is => match d with
  | .tup l => putAll is l ρ Q
  | _ => False
noncomputable def xV (t : Tg) (ρ : Rg) (c : Rg → MC Bool) (e : Rg → MC D) : List D → MC (List D)
 | [] => fun st Q => Q [] st
 | d :: l => fun st Q => yV t d ρ fun ρ' => c ρ' st fun b st => br b (e ρ' st fun x st => xV t ρ c e l st fun r st => Q (x :: r) st) (xV t ρ c e l st Q)
noncomputable def oU (t : Tg) (body : Rg → MC Out) : List D → Rg → MC Out
 | [], ρ => fun st Q => Q (.fall ρ) st
 | d :: l, ρ => fun st Q => yV t d ρ fun ρ => body ρ st fun o st => match o with
  | .fall ρ => oU t body l ρ st Q
  | .ret r => Q (.ret r) st
noncomputable def ji (c : Rg → MC Bool) (body : Rg → MC Out) : Nat → Rg → MC Out
 | 0, _ => no
 | n + 1, ρ => fun st Q => c ρ st fun b st => br b (body ρ st fun o st => match o with
   | .fall ρ => ji c body n ρ st Q
   | .ret r => Q (.ret r) st) (Q (.fall ρ) st)
noncomputable def ng (c : Rg → MC Bool) (body : Rg → MC Out) (ρ : Rg) : MC Out := fun st Q => ∃ n, ji c body n ρ st Q
noncomputable def qk : List Nat → Rg → (List D → Prop) → Prop
 | [], _, Q => Q []
 | i :: is, ρ, Q => rd ρ i fun d => qk is ρ fun l => Q (d :: l)
noncomputable def ve (c : Cls) : List (Nat × Addr) → Option Addr
 | [] => none
 | (i, a) :: r => match Nat.beq c.ctorIdx i with
  | true => some a
  | false => ve c r
noncomputable def isIn (a : Addr) : List Addr → Bool
 | [] => false
 | b :: l => match Nat.beq a b with
  | true => true
  | false => isIn a l
noncomputable def rO (ρ : Rg) : List (Option Nat) → Rg
 | [] => []
 | none :: r => none :: rO ρ r
 | some i :: r => nth ρ i :: rO ρ r
noncomputable def yx (c : Cls) (l : List D) : MC D := fun st Q => match c with
 | .Con => Q (.obj (st.nt + 1) .Con l) ⟨st.sto, st.nt + 1⟩
 | c => Q (.obj 0 c l) st
noncomputable def uL : List Nat → List D → (List D → Prop) → Prop
 | [], _, Q => Q []
 | i :: is, l, Q => match l[i]? with
  | some d => uL is l fun r => Q (d :: r)
  | none => False
noncomputable def pY (call : zp) (x : D) (tb : List (Nat × Addr)) (f : Option Fld) (l : MC (List D)) (c : Cls) : MC D := fun st Q => match ve c tb with
 | some m => l st fun ds st => call (.val (.ref m)) (x :: ds) st Q
 | none => match f with
  | some f => pX x f st fun g => l st fun ds st => call g ds st Q
  | none => False
noncomputable def fW (call : zp) (x : D) (tb : List (Nat × Addr)) (f : Option Fld) (m : Me) (l : MC (List D)) : MC D := fun st Q => match x with
 | .obj t c fs => pY call (.obj t c fs) tb f l c st Q
 | .mref k => ofO st.sto[k]? fun o => match o with
  | .ins c _ _ => pY call (.mref k) tb f l c st Q
  | o => jh m o (l st fun ds st => rN m k ds st Q)
 | .str s => match m with
  | .rfind => l st fun ds st => nf .rfind s ds fun d => Q d st
  | _ => False
 | _ => False
noncomputable def run (call : zp) : X → Ev
 | .v i => .ofE fun ρ st Q => rd ρ i fun d => Q d st
 | .z i => .ofE fun ρ st Q => rd ρ i fun d => gN d st Q
 | .k d => .ofE fun U st Q => Q d st
 | .bin o a b => .ofE fun ρ st Q => (run call a).e ρ st fun x st => (run call b).e ρ st fun y st => l0 o x y st fun d => Q d st
 | .neg a => .ofE fun ρ st Q => (run call a).e ρ st fun x st => match x with
  | .int i => Q (.int (-i)) st
  | _ => False
 | .and a b => {
  e := fun ρ st Q => (run call a).e ρ st fun x st => match x with
   | .bool c => br c ((run call b).e ρ st Q) (Q (.bool false) st)
   | _ => False
  t := fun ρ st Q => (run call a).t ρ st fun c st => br c ((run call b).t ρ st Q) (Q false st)
  l := fun U => no
  i := fun U => no
  s := fun U => no }
 | .or a b => {
  e := fun ρ st Q => (run call a).e ρ st fun x st => match x with
   | .bool c => br c (Q (.bool true) st) ((run call b).e ρ st Q)
   | _ => False
  t := fun ρ st Q => (run call a).t ρ st fun c st => br c (Q true st) ((run call b).t ρ st Q)
  l := fun U => no
  i := fun U => no
  s := fun U => no }
 | .not a => {
  e := fun U => no
  t := fun ρ st Q => (run call a).t ρ st fun c st => Q (!c) st
  l := fun U => no
  i := fun U => no
  s := fun U => no }
 | .cmp o a b => .ofE fun ρ st Q => (run call a).e ρ st fun x st => (run call b).e ρ st fun y st => l4 o x y st fun b => Q (.bool b) st
 | .ite t a b => .ofE fun ρ st Q => (run call t).t ρ st fun c st => br c ((run call a).e ρ st Q) ((run call b).e ρ st Q)
 | .lst o l => .ofE fun ρ st Q => (run call l).l ρ st fun ds st => tS o ds st Q
 | .tup l => .ofE fun ρ st Q => (run call l).l ρ st fun ds st => Q (.tup ds) st
 | .dict s => .ofE fun U st Q => match s with
  | true => uK (.dS [] []) st Q
  | false => uK (.dI [] []) st Q
 | .att a f => .ofE fun ρ st Q => (run call a).e ρ st fun x st => pX x f st fun d => Q d st
 | .at a i => .ofE fun ρ st Q => (run call a).e ρ st fun x st => (run call i).e ρ st fun y st => atW x y st fun d => Q d st
 | .slc s a i => .ofE fun ρ st Q => (run call a).e ρ st fun x st => (run call i).e ρ st fun y st => sL s x y st fun d => Q d st
 | .lc o cp t it c e => .ofE fun ρ st Q => (run call it).i ρ st fun ds st => xV t (rO ρ cp) (run call c).t (run call e).e ds st fun l st => tS o l st Q
 | .tt => {
  e := fun U => no
  t := fun U st Q => Q true st
  l := fun U => no
  i := fun U => no
  s := fun U => no }
 | .app f l => .ofE fun ρ st Q => (run call f).e ρ st fun g st => (run call l).l ρ st fun ds st => call g ds st Q
 | .new c p l => .ofE fun ρ st Q => (run call l).l ρ st fun ds st => match p with
  | none => yx c ds st Q
  | some is => uL is ds fun ds => yx c ds st Q
 | .bi b l => .ofE fun ρ st Q => (run call l).l ρ st fun ds st => biW b ds st fun d => Q d st
 | .isS a => .ofE fun ρ st Q => (run call a).e ρ st fun x st => match x with
  | .str _ => Q (.bool true) st
  | _ => False
 | .isC a l => .ofE fun ρ st Q => (run call a).e ρ st fun x st => match x with
  | .obj _ c _ => Q (.bool (isIn c.addr l)) st
  | _ => False
 | .met a tb f m l => .ofE fun ρ st Q => (run call a).e ρ st fun x st => fW call x tb f m ((run call l).l ρ) st Q
 | .it k a => {
  e := fun U => no
  t := fun U => no
  l := fun U => no
  i := fun ρ st Q => (run call a).e ρ st fun d st => itW k d st fun l => Q l st
  s := fun U => no }
 | .nil => {
  e := fun U => no
  t := fun U => no
  l := fun U st Q => Q [] st
  i := fun U => no
  s := fun U => no }
 | .cons a l => {
  e := fun U => no
  t := fun U => no
  l := fun ρ st Q => (run call a).e ρ st fun d st => (run call l).l ρ st fun ds st => Q (d :: ds) st
  i := fun U => no
  s := fun U => no }
 | .nop => .ofS fun ρ st Q => Q (.fall ρ) st
 | .seq a b => .ofS fun ρ st Q => (run call a).s ρ st fun o st => match o with
  | .fall ρ => (run call b).s ρ st Q
  | .ret d => Q (.ret d) st
 | .ret a => .ofS fun ρ st Q => (run call a).e ρ st fun d st => Q (.ret d) st
 | .rlam is => .ofS fun ρ st Q => st.sto[0]? = some .tab ∧ qk is ρ fun l => Q (.ret (.clo l)) st
 | .set t a => .ofS fun ρ st Q => (run call a).e ρ st fun d st => yV t d ρ fun ρ => Q (.fall ρ) st
 | .sta o f a => .ofS fun ρ st Q => (run call a).e ρ st fun d st => (run call o).e ρ st fun x st => vN x f d st fun st => Q (.fall ρ) st
 | .stt o i a => .ofS fun ρ st Q => (run call a).e ρ st fun d st => (run call o).e ρ st fun x st => (run call i).e ρ st fun j st => sM x j d st fun st => Q (.fall ρ) st
 | .aug i a => .ofS fun ρ st Q => rd ρ i fun x => (run call a).e ρ st fun y st => vM x y fun p q => Q (.fall (put ρ i (.int (p + q)))) st
 | .ex a => .ofS fun ρ st Q => (run call a).e ρ st fun U st => Q (.fall ρ) st
 | .if t a b => .ofS fun ρ st Q => (run call t).t ρ st fun c st => br c ((run call a).s ρ st Q) ((run call b).s ρ st Q)
 | .for t it b => .ofS fun ρ st Q => (run call it).i ρ st fun ds st => oU t (run call b).s ds ρ st Q
 | .whl t b => .ofS fun ρ st Q => ng (run call t).t (run call b).s ρ st Q
 | .bad => ⟨fun U => no, fun U => no, fun U => no, fun U => no, fun U => no⟩
inductive Fn where
 | fn (np : Nat) (ini : List (Option Nat)) (body : X)
 | cls (c : Cls) (ini : Option Addr)
noncomputable def Fn.ctorIdx (x : Fn) : Nat := x.casesOn (fun a a a => 0) (fun a a => 1)
structure Lm where
 np : Nat
 ini : List (Bool × Nat)
 body : X
structure Cx where
 fn : Addr → Option Fn
 lam : Lm
noncomputable def tT (ds l : List D) : List (Bool × Nat) → Rg
 | [] => []
 | (b, i) :: r => (match b with | true => ds[i]? | false => l[i]?) :: tT ds l r
noncomputable def yW (ds : List D) : List (Option Nat) → Rg
 | [] => []
 | none :: r => none :: yW ds r
 | some i :: r => ds[i]? :: yW ds r
noncomputable def wO (Q : D → St → Prop) (o : Out) (st : St) : Prop := match o with
 | .ret d => Q d st
 | .fall _ => Q .none st
noncomputable def tU (x : D) : MC D := fun st Q => match x with
 | .mref k => ofO st.sto[k]? fun o => match o with
  | .ins c fs l => fs = c.flds ∧ yi k .gone st fun st => yx c l st Q
  | _ => False
 | _ => False
noncomputable def rP (call : zp) (c : Cls) (ini : Option Addr) (args : List D) : MC D := fun st Q => uK (.ins c [] []) st fun x st => match ini with
 | some m => call (.val (.ref m)) (x :: args) st fun d st' => match d with
  | .none => tU x st' Q
  | _ => False
 | none => args = [] ∧ tU x st Q
noncomputable def wc (C : Cx) (call : zp) : zp := fun f args st Q => match f with
 | .val v => match v with
  | .ref a => match C.fn a with
   | some o => match o with
    | .fn np ini body => args.length = np ∧ (run call body).s (yW args ini) st (wO Q)
    | .cls c ini => rP call c ini args st Q
   | none => False
  | _ => False
 | .clo l => args.length = C.lam.np ∧ (run call C.lam.body).e (tT args l C.lam.ini) st Q
 | _ => False
@[irreducible] noncomputable def zD (C : Cx) : Nat → zp
 | 0 => fun U U => no
 | n + 1 => wc C (zD C n)
theorem xy (C : Cx) (n : Nat) : zD C (n + 1) = wc C (zD C n) := by with_unfolding_all rfl
noncomputable def zO (sc : Scope) (x : Str) : Option NameKind := sc.names.lookup x
noncomputable def ix : List (Str × NameKind) → Str → Option Nat
 | [], _ => none
 | (y, _) :: l, x => match x == y with
  | true => some 0
  | false => (ix l x).map (· + 1)
noncomputable def nh : NameKind → Bool
 | .globalImplicit => false
 | .globalExplicit => false
 | _ => true
noncomputable def zd (sc : Scope) : List (Str × NameKind) := sc.names.filter fun p => nh p.2
noncomputable def gO : Value → D
 | .none => .none
 | .bool b => .bool b
 | .int i _ => .int i
 | .str s _ => .str s
 | v => .val v
noncomputable def l5 (sc : Scope) : Bool := sc.names.all fun p => p.1 != ("__debug__" : Str) && p.1 != ("__classdict__" : Str)
noncomputable def rQ (sc : Scope) : Bool := l5 sc && sc.kind == .function && !sc.isGenerator && !sc.isCoroutine && decide ((sc.names.map (·.1)).Nodup)
noncomputable def xd (sc csc : Scope) : Bool := rQ csc && csc.names.all fun p => match p.2 with
 | .free => zO sc p.1 == some .cell || zO sc p.1 == some .free
 | .cell => false
 | _ => true
noncomputable def wQ : Expr → Bool
 | .Set _ _ _ => false
 | _ => true
noncomputable def tV (ps : Arguments) : Bool := ps.defaults.isEmpty && ps.kw_defaults.isEmpty && ps.posonlyargs.isEmpty && ps.kwonlyargs.isEmpty && ps.vararg.isNone && ps.kwarg.isNone
noncomputable def yK : Expr → Bool
 | .Call (.Name _ _) [] [] _ => false
 | _ => true
noncomputable def zq : Expr → Option Str
 | .Name x _ => some x
 | _ => none
noncomputable def zg (sc : Scope) (x : Str) : Bool := zO sc x == some .local
noncomputable def storable (sc : Scope) (x : Str) : Bool := zO sc x == some .local || zO sc x == some .cell
noncomputable def vO (e : Expr) : Bool := match e with
 | .Tuple vs _ _ => !vs.all (constantsAlone 8)
 | _ => true
noncomputable def vP : Expr → Bool
 | .ListComp _ _ _ _ => false
 | .SetComp _ _ _ _ => false
 | .DictComp _ _ _ _ _ => false
 | _ => true
noncomputable def ql : Expr → Bool
 | .Tuple _ _ _ => true
 | _ => false
structure Gl where
 glob : Str → Option Value
 own : Pos → Bool
 frz : Pos → Bool
 sdict : Pos → Bool
 meth : Str → List (Nat × Addr)
 base : Addr → Str → Option Addr
 lamNames : List Str
 lamE : Expr
 lamSc : Scope
 lamPs : Arguments
 lamKs : List Str
 lamIs : Arguments → Expr → Scope → Bool
noncomputable def rR (P : Str → Bool) (sc : Scope) (t : Expr) : Option Tg := match t with
 | .Name x _ => match P x with
  | true => (ix (zd sc) x).map Tg.one
  | false => none
 | .Tuple ts _ _ => match ts.all (fun t => (zq t).any P) && decide ((ts.filterMap zq).Nodup) with
  | true => ((ts.filterMap zq).mapM (ix (zd sc))).map Tg.many
  | false => none
 | _ => none
noncomputable def jj : Value → Option Bi
 | .builtin n => if n = "len" then some .len else if n = "max" then some .max else if n = "min" then some .min else if n = "sorted" then some .sorted else none
 | .type n => if n = "int" then some .int else if n = "str" then some .str else if n = "list" then some .list else none
 | _ => none
noncomputable def jk : Value → Option It
 | .type n => if n = "range" then some .range else if n = "enumerate" then some .enum else if n = "reversed" then some .rev else none
 | _ => none
noncomputable def qm (x : Str) : Me := if x = "append" then .append else if x = "extend" then .extend else if x = "pop" then .pop else if x = "get" then .get else if x = "rfind" then .rfind else .no
noncomputable def kOf : X → Option D
 | .k d => some d
 | _ => none
noncomputable def uM : X → Option (List D)
 | .nil => some []
 | .cons a l => (kOf a).bind fun d => (uM l).map (d :: ·)
 | _ => none
theorem l7 {a : X} {d : D} (h : kOf a = some d) : a = .k d := by
 cases a with
 | k => cases h; rfl
 | _ => exact nn h
theorem wd {l : X} {ds : List D} {P : X → Prop} (h : uM l = some ds) (h0 : ds = [] → P .nil) (h1 : ∀ d m es, uM m = some es → ds = d :: es → P (.cons (.k d) m)) : P l := by
 cases l with
 | nil => cases h; exact h0 rfl
 | cons a l =>
  obtain ⟨d, e, h⟩ := Option.bind_eq_some_iff.mp h
  obtain ⟨es, h, f⟩ := Option.map_eq_some_iff.mp h
  rw [l7 e]; exact h1 d l es h f.symm
 | _ => exact nn h
noncomputable def refsOf : List D → Option (List Addr)
 | [] => some []
 | .val (.ref a) :: l => (refsOf l).map (a :: ·)
 | _ => none
noncomputable def zw (G : Gl) (sc : Scope) (e : Expr) : Option Value := match e with
 | .Name x _ => match zO sc x with
  | some .globalImplicit => G.glob x
  | _ => none
 | _ => none
noncomputable def we (sc : Scope) (csc : Scope) : List (Option Nat) := (zd csc).map fun p => match p.2 with
 | .free => ix (zd sc) p.1
 | _ => none
structure Cm where
 e : Scope → Expr → X
 l : Scope → List Expr → X
 t : Scope → Expr → X
 i : Scope → Expr → Expr → X
 s : Scope → Stmt → X
 b : Scope → List Stmt → X
noncomputable def isE : X → Bool
 | .v _ => true
 | .z _ => true
 | .k _ => true
 | .att _ _ => true
 | .at _ _ => true
 | .slc _ _ _ => true
 | .app _ _ => true
 | .new _ _ _ => true
 | .bi _ _ => true
 | .isS _ => true
 | .isC _ _ => true
 | .met _ _ _ _ _ => true
 | .lst _ _ => true
 | .bad => true
 | _ => false
noncomputable def iff (b : Bool) (x : X) : X := match b with
 | true => x
 | false => .bad
noncomputable def opt {α : Type} (o : Option α) (f : α → X) : X := match o with
 | some a => f a
 | none => .bad
noncomputable def yS (x : X) : X := iff (isE x) x
noncomputable def jl (G : Gl) (c : Cm) (sc : Scope) (elt t iter : Expr) (ifs : List Expr) (csc : Scope) (pos : Pos) : X :=
 iff (xd sc csc && wQ iter) (opt (rR (zg csc) csc t) fun tg =>
  .lc (G.own pos) (we sc csc) tg (c.i sc t iter) (match ifs with
   | [] => .tt
   | e :: r => match r with
    | [] => c.t csc e
    | _ => .bad) (c.e csc elt))
noncomputable def tW (a : Addr) : Bool := Cls.all.any fun c => c.addr == a
noncomputable def isX (x : X) (t : X) : X := match t with
 | .k d => match d with
  | .val v => match v with
   | .type n => iff (decide (n = "str")) (.isS x)
   | .ref a => iff (tW a) (.isC x [a])
   | _ => .bad
  | _ => .bad
 | .tup l => opt (uM l) fun ds => opt (refsOf ds) fun as => iff (as.all tW) (.isC x as)
 | _ => .bad
noncomputable abbrev Nw := Addr → Option (Cls × Nat × Option (List Nat))
noncomputable def sN (G : Gl) (nw : Nw) (c : Cm) (sc : Scope) (f : Expr) (args : List Expr) : X := match zw G sc f with
 | some v => match jj v with
  | some b => .bi b (c.l sc args)
  | none => match v with
   | .ref a => match nw a with
    | some p => iff (decide (args.length = p.2.1)) (.new p.1 p.2.2 (c.l sc args))
    | none => .app (.k (.val (.ref a))) (c.l sc args)
   | .builtin n => iff (decide (n = "isinstance")) (match args with
    | a :: r => match r with
     | t :: r => match r with
      | [] => isX (c.e sc a) (c.e sc t)
      | _ => .bad
     | [] => .bad
    | [] => .bad)
   | _ => .bad
 | none => .app (c.e sc f) (c.l sc args)
noncomputable def rS (G : Gl) (nw : Nw) (c : Cm) (sc : Scope) (f : Expr) (args : List Expr) (pos : Pos) : X := match f with
 | .Attribute e x apos => iff (yK e && apos.endLine == pos.line && decide (args.length < 30)) (match zw G sc e with
  | some v => match v with
   | .ref k => opt (G.base k x) fun m => .app (.k (.val (.ref m))) (c.l sc args)
   | _ => .bad
  | none => .met (c.e sc e) (G.meth x) (xZ x) (qm x) (c.l sc args))
 | f => sN G nw c sc f args
noncomputable def pZ : Expr → Bool
 | .Attribute _ _ _ => false
 | _ => true
theorem qn {f : Expr} (h : pZ f = true) (o : Expr) (x : Str) (p : Pos) : f ≠ .Attribute o x p := fun e => by subst e; exact ff h
noncomputable def slO (c : Cm) (sc : Scope) (a : X) (lo hi st : Option Expr) : X := match st with
 | none => match lo with
  | none => match hi with
   | some h => .slc .upto a (c.e sc h)
   | none => .bad
  | some l => match hi with
   | none => .slc .from a (c.e sc l)
   | some _ => .bad
 | some s => match lo with
  | none => match hi with
   | none => .slc .rev a (c.e sc s)
   | some _ => .bad
  | some _ => .bad
noncomputable def jS (G : Gl) (sc : Scope) (x : Str) (pos : Pos) : X := opt (zO sc x) fun k => match k with
 | .globalImplicit => opt (G.glob x) fun v => iff (handedIn v) (.k (gO v))
 | .globalExplicit => .bad
 | _ => opt (ix (zd sc) x) fun i => match G.frz pos with
  | true => .z i
  | false => .v i
noncomputable def xf (G : Gl) (nw : Nw) (c : Cm) : Cm where
 e sc e := match e with
  | .Name x pos => jS G sc x pos
  | .Constant c _ _ => match c with
   | .none => .k .none
   | .bool b => .k (.bool b)
   | .int i => .k (.int i)
   | .str s => .k (.str s)
   | _ => .bad
  | .BinOp a op b _ => .bin op (c.e sc a) (c.e sc b)
  | .UnaryOp op a _ => match op with
   | .USub => .neg (c.e sc a)
   | _ => .bad
  | .BoolOp op vs p => match vs with
   | [] => .bad
   | a :: r => match r with
    | [] => c.e sc a
    | b :: r => match op with
     | .And => .and (c.e sc a) (c.e sc (.BoolOp .And (b :: r) p))
     | .Or => .or (c.e sc a) (c.e sc (.BoolOp .Or (b :: r) p))
  | .Compare a ops cs _ => match ops with
   | [] => .bad
   | op :: r => match r with
    | [] => match cs with
     | [] => .bad
     | b :: r => match r with
      | [] => iff (!behindInMarks op b) (.cmp op (c.e sc a) (c.e sc b))
      | _ => .bad
    | _ => .bad
  | .IfExp t a b _ => .ite (c.t sc t) (c.e sc a) (c.e sc b)
  | .List es pos => iff (decide (es.length < 1000)) (.lst (G.own pos) (c.l sc es))
  | .Tuple es _ _ => iff (decide (es.length < 1000)) (.tup (c.l sc es))
  | .Dict ks vs pos => match ks with
   | [] => match vs with
    | [] => .dict (G.sdict pos)
    | _ => .bad
   | _ => .bad
  | .Attribute e x _ => iff (yK e) (opt (xZ x) fun f => .att (c.e sc e) f)
  | .Subscript e i _ => match i with
   | .Slice lo hi st _ => slO c sc (c.e sc e) lo hi st
   | i => .at (c.e sc e) (c.e sc i)
  | .ListComp elt gs csc pos => match gs with
   | [] => .bad
   | g :: r => match r with
    | [] => match g with
     | ⟨t, iter, ifs, k⟩ => iff (decide (k = 0)) (jl G c sc elt t iter ifs csc pos)
    | _ => .bad
  | .Call f args kws pos => match kws with
   | [] => iff (args.all fun a => !isStarred a) (rS G nw c sc f args pos)
   | _ => .bad
  | _ => .bad
 l sc es := match es with
  | [] => .nil
  | e :: es => iff (!isStarred e) (.cons (c.e sc e) (c.l sc es))
 t sc e := match e with
  | .UnaryOp op a _ => match op with
   | .Not => .not (c.t sc a)
   | _ => .bad
  | .BoolOp op vs p => match vs with
   | [] => .bad
   | a :: r => match r with
    | [] => c.t sc a
    | b :: r => match op with
     | .And => .and (c.t sc a) (c.t sc (.BoolOp .And (b :: r) p))
     | .Or => .or (c.t sc a) (c.t sc (.BoolOp .Or (b :: r) p))
  | .Compare a ops cs _ => match ops with
   | [] => .bad
   | op :: r => match r with
    | [] => match cs with
     | [] => .bad
     | b :: r => match r with
      | [] => iff (!behindInMarks op b) (.cmp op (c.e sc a) (c.e sc b))
      | _ => .bad
    | _ => .bad
  | .Name x pos => yS (c.e sc (.Name x pos))
  | .Attribute e x pos => yS (c.e sc (.Attribute e x pos))
  | .Subscript e x pos => yS (c.e sc (.Subscript e x pos))
  | .Call f args kws pos => yS (c.e sc (.Call f args kws pos))
  | _ => .bad
 i sc t e := match e with
  | .Call f args kws pos => match (zw G sc f).bind jk with
   | some k => match args with
    | [] => .bad
    | a :: r => match r with
     | [] => match kws with
      | [] => iff (!isStarred a && (ql t || match k with | .enum => false | _ => true)) (.it k (c.e sc a))
      | _ => .bad
     | _ => .bad
   | none => yS (c.e sc (.Call f args kws pos))
  | .Name x pos => yS (c.e sc (.Name x pos))
  | .Attribute e x pos => yS (c.e sc (.Attribute e x pos))
  | .Subscript e x pos => yS (c.e sc (.Subscript e x pos))
  | .List es pos => yS (c.e sc (.List es pos))
  | _ => .bad
 s sc s := match s with
  | .Pass _ => .nop
  | .Return e _ => opt e fun e => match e with
   | .Lambda ps e lsc _ => iff (G.lamIs ps e lsc && xd sc lsc && decide (sc.names.map (·.1) = G.lamNames) && lsc.names.all (fun p => p.2 != .free || zO sc p.1 == some .cell) && tV ps
      && decide (((lsc.names.filter fun x => x.2 == .free).map (·.1)).reverse = G.lamKs)) (opt ((G.lamKs).mapM (ix (zd sc))) .rlam)
   | e => .ret (c.e sc e)
  | .Assign ts e _ => match ts with
   | [] => .bad
   | t :: r => match r with
    | [] => match t with
     | .Name x p => iff (vO e) (opt (rR (storable sc) sc (.Name x p)) fun tg => .set tg (c.e sc e))
     | .Tuple us k p => iff (vP e && vO e) (opt (rR (storable sc) sc (.Tuple us k p)) fun tg => .set tg (c.e sc e))
     | .Attribute o x _ => iff (vP e && vO e) (opt (xZ x) fun f => .sta (c.e sc o) f (c.e sc e))
     | .Subscript o i _ => iff (vP e && vO e) (.stt (c.e sc o) (c.e sc i) (c.e sc e))
     | _ => .bad
    | _ => .bad
  | .AugAssign t op e _ => match t with
   | .Name x _ => match op with
    | .Add => iff (zg sc x) (opt (ix (zd sc) x) fun i => .aug i (c.e sc e))
    | _ => .bad
   | _ => .bad
  | .Expr e _ => iff (vP e) (.ex (c.e sc e))
  | .If t a b _ => .if (c.t sc t) (c.b sc a) (c.b sc b)
  | .For t iter body orelse _ => match orelse with
   | [] => iff (wQ iter) (opt (rR (storable sc) sc t) fun tg => .for tg (c.i sc t iter) (c.b sc body))
   | _ => .bad
  | .While t body orelse _ => match orelse with
   | [] => .whl (c.t sc t) (c.b sc body)
   | _ => .bad
  | _ => .bad
 b sc ss := match ss with
  | [] => .nop
  | s :: ss => .seq (c.s sc s) (c.b sc ss)
noncomputable def Cm.zero : Cm := ⟨fun U U => .bad, fun U es => (match es with | [] => .nil | _ => .bad), fun U U => .bad, fun U U U => .bad, fun U U => .bad, fun U U => .bad⟩
noncomputable def comp (G : Gl) (nw : Nw) : Nat → Cm
 | 0 => .zero
 | k + 1 => xf G nw (comp G nw k)
noncomputable def p8 (ps : Arguments) (sc : Scope) : Bool :=
 rQ sc && sc.names.all (fun p => p.2 != .free) && ps.args.all (fun a => zO sc a.arg == some .local || zO sc a.arg == some .cell)
noncomputable def yk : List Str → Str → Option Nat
 | [], _ => none
 | y :: l, x => match x == y with
  | true => some 0
  | false => (yk l x).map (· + 1)
noncomputable def uN (G : Gl) (nw : Nw) (fd : FuncData) : Option Fn := match fd.body with
 | .stmts body => match p8 fd.params fd.scope with
  | true => some (.fn fd.params.args.length ((zd fd.scope).map fun p => yk (fd.params.args.map (·.arg)) p.1) ((comp G nw 60).b fd.scope body))
  | false => none
 | _ => none
noncomputable def p9 (ps : Arguments) (sc : Scope) (ks : List Str) : Bool :=
 rQ sc && tV ps && decide ((ps.args.map (·.arg)).Nodup) && ps.args.all (fun a => zO sc a.arg == some .local) && sc.names.all (fun p => p.2 != .cell && (p.2 != .free || ks.contains p.1)) && ks.all (fun x => zO sc x == some .free)
noncomputable def wg (G : Gl) (nw : Nw) : Option Lm := match p9 G.lamPs G.lamSc G.lamKs with
 | false => none
 | true => some ⟨G.lamPs.args.length, (zd G.lamSc).map fun p => match yk (G.lamPs.args.map (·.arg)) p.1 with | some i => (true, i) | none => (false, (yk G.lamKs p.1).getD 1000), (comp G nw 60).e G.lamSc G.lamE⟩
noncomputable def glL : List (Str × Value) := [
 (Str.ofString "Var", (.ref 59)), (Str.ofString "Lit", (.ref 101)), (Str.ofString "App", (.ref 141)), (Str.ofString "Lam", (.ref 183)), (Str.ofString "Let", (.ref 221)), (Str.ofString "Alt", (.ref 242)), (Str.ofString "Case", (.ref 282)), (Str.ofString "Con", (.ref 322)), (Str.ofString "Prim", (.ref 362)), (Str.ofString "Node", (.ref 395)), (Str.ofString "PVar", (.ref 424)), (Str.ofString "PWild", (.ref 451)), (Str.ofString "PLit", (.ref 478)), (Str.ofString "PCon", (.ref 505)), (Str.ofString "PTuple", (.ref 532)), (Str.ofString "PList", (.ref 559)), (Str.ofString "PAs", (.ref 586)), (Str.ofString "PLazy", (.ref 613)), (Str.ofString "PBang", (.ref 640)), (Str.ofString "NIL", (sv "[]" 1010)), (Str.ofString "CONS", (sv ":" 1012)), (Str.ofString "UNIT", (sv "()" 1014)), (Str.ofString "spread", (.ref 678)), (Str.ofString "parts_of", (.ref 685)), (Str.ofString "variables_of", (.ref 692)), (Str.ofString "Constructors", (.ref 733)), (Str.ofString "Leaf", (.ref 754)), (Str.ofString "Nothing", (.ref 768)), (Str.ofString "Switch", (.ref 789)), (Str.ofString "Force", (.ref 810)), (Str.ofString "Project", (.ref 831)), (Str.ofString "is_idle", (.ref 842)), (Str.ofString "Line", (.ref 878)), (Str.ofString "key_of", (.ref 889)), (Str.ofString "Decider", (.ref 937)), (Str.ofString "NOBODY", (.int (-1) 1469)), (Str.ofString "Row", (.ref 972)), (Str.ofString "row_variables", (.ref 983)), (Str.ofString "uses_of", (.ref 990)), (Str.ofString "Maker", (.ref 1050)), (Str.ofString "matched_by", (.ref 1066)), (Str.ofString "matched", (.ref 1073)), (Str.ofString "nodes_of", (.ref 1080)), (Str.ofString "ConInfo", (.ref 1097)), (Str.ofString "base_of", (.ref 1108)), (Str.ofString "Fresh", (.ref 1141)), (Str.ofString "_law_pool", (.ref 1152)), (Str.ofString "_law_take", (.ref 1159)), (Str.ofString "_law_one", (.ref 1166)), (Str.ofString "_law_pattern", (.ref 1173)), (Str.ofString "_law_count", (.ref 1180)), (Str.ofString "_law_body", (.ref 1187)), (Str.ofString "_law_core_right", (.ref 1192)), (Str.ofString "law", (.ref 1197)),
 (Str.ofString "len", .builtin "len"), (Str.ofString "isinstance", .builtin "isinstance"), (Str.ofString "max", .builtin "max"), (Str.ofString "min", .builtin "min"), (Str.ofString "sorted", .builtin "sorted"), (Str.ofString "int", .type "int"), (Str.ofString "str", .type "str"), (Str.ofString "list", .type "list"), (Str.ofString "range", .type "range"), (Str.ofString "enumerate", .type "enumerate"), (Str.ofString "reversed", .type "reversed")]
noncomputable def meL : List (Addr × Str × Addr) := [(59, Str.ofString "__init__", 35), (59, Str.ofString "parts", 49), (101, Str.ofString "__init__", 77), (101, Str.ofString "parts", 91), (141, Str.ofString "__init__", 119), (141, Str.ofString "parts", 131), (183, Str.ofString "__init__", 159), (183, Str.ofString "parts", 173), (221, Str.ofString "__init__", 201), (221, Str.ofString "parts", 211), (242, Str.ofString "__init__", 239), (282, Str.ofString "__init__", 260), (282, Str.ofString "parts", 272), (322, Str.ofString "__init__", 300), (322, Str.ofString "parts", 312), (395, Str.ofString "__init__", 385), (424, Str.ofString "__init__", 414), (451, Str.ofString "__init__", 441), (478, Str.ofString "__init__", 468), (505, Str.ofString "__init__", 495), (532, Str.ofString "__init__", 522), (559, Str.ofString "__init__", 549), (586, Str.ofString "__init__", 576), (613, Str.ofString "__init__", 603), (640, Str.ofString "__init__", 630), (733, Str.ofString "__init__", 711), (733, Str.ofString "arity", 718), (733, Str.ofString "is_newtype", 725), (733, Str.ofString "siblings", 730), (754, Str.ofString "__init__", 751), (789, Str.ofString "__init__", 786), (810, Str.ofString "__init__", 807), (831, Str.ofString "__init__", 828), (878, Str.ofString "__init__", 856), (878, Str.ofString "plain", 863), (878, Str.ofString "put", 870), (878, Str.ofString "losing", 875), (937, Str.ofString "__init__", 903), (937, Str.ofString "tree", 910), (937, Str.ofString "looked", 915), (937, Str.ofString "is_held", 922), (937, Str.ofString "branch", 927), (972, Str.ofString "__init__", 969), (1050, Str.ofString "__init__", 1004), (1050, Str.ofString "whole", 1011), (1050, Str.ofString "function", 1018), (1050, Str.ofString "core", 1023), (1050, Str.ofString "leaf", 1030), (1050, Str.ofString "bound", 1035), (1050, Str.ofString "call", 1047), (1097, Str.ofString "__init__", 1094), (1141, Str.ofString "__init__", 1124), (1141, Str.ofString "avoid", 1131), (1141, Str.ofString "next", 1138)]
noncomputable def fX (l c : Nat) : Bool := (l == 94 && c == 16) || (l == 379 && c == 15) || (l == 385 && c == 17) || (l == 400 && c == 15) || (l == 533 && c == 24) || (l == 541 && c == 15) || (l == 568 && c == 20) || (l == 568 && c == 24) || (l == 616 && c == 11) || (l == 681 && c == 52) || (l == 683 && c == 37) || (l == 683 && c == 41) || (l == 683 && c == 45)
noncomputable def fY (l c : Nat) : Bool := (l == 97 && c == 15) || (l == 97 && c == 48) || (l == 384 && c == 71) || (l == 390 && c == 86) || (l == 410 && c == 87) || (l == 550 && c == 51) || (l == 574 && c == 11) || (l == 690 && c == 101) || (l == 691 && c == 51) || (l == 699 && c == 42) || (l == 699 && c == 57)
noncomputable def fZ (l c : Nat) : Bool := (l == 533 && c == 28) || (l == 594 && c == 23) || (l == 595 && c == 23) || (l == 654 && c == 49) || (l == 677 && c == 15)
noncomputable def lamS : Expr × Scope × Arguments := match zV 73 with
 | .FunctionDef _ _ b _ _ _ _ _ _ _ => match b with
  | [.Return (some (.Lambda ps e sc _)) _] => (e, sc, ps)
  | _ => default
 | _ => default
noncomputable def newsQ : List (Addr × Cls × Nat × Option (List Nat)) := [(59, .Var, 1, none), (141, .App, 2, none), (183, .Lam, 2, none), (221, .Let, 3, none), (242, .Alt, 3, none), (282, .Case, 4, none), (322, .Con, 2, none),
 (424, .PVar, 2, some [1, 0]), (451, .PWild, 1, none), (478, .PLit, 3, some [2, 0, 1]), (505, .PCon, 3, some [2, 0, 1]), (733, .Constructors, 1, none), (754, .Leaf, 3, none), (768, .Nothing, 0, none), (789, .Switch, 3, none),
 (878, .Line, 4, none), (937, .Decider, 3, none), (972, .Row, 3, none), (1097, .ConInfo, 8, none)]
noncomputable def G0 : Gl where
 glob x := glL.lookup x
 own p := fX p.line p.col
 frz p := fY p.line p.col
 sdict p := fZ p.line p.col
 meth x := Cls.all.filterMap fun c => (meL.find? fun e => e.1 == c.addr && e.2.1 == x).map fun e => (c.ctorIdx, e.2.2)
 base a x := if a == 395 && x == ("__init__" : Str) then some 385 else none
 lamNames := ["number_one", "owned", "can_fall"]
 lamE := lamS.1
 lamSc := lamS.2.1
 lamPs := lamS.2.2
 lamKs := ((lamS.2.1.names.filter fun x => x.2 == .free).map (·.1)).reverse
 lamIs ps e sc := @decide (ps = lamS.2.2 ∧ e = lamS.1 ∧ sc = lamS.2.1) (Classical.propDecidable _)
noncomputable def nwQ : Nw := fun a => newsQ.lookup a
noncomputable def rT : X := (.seq (.sta (.v 0) .name (.v 1))
 .nop)
noncomputable def sO : X := (.seq (.ret (.lst false .nil))
 .nop)
noncomputable def rU : X := (.seq (.sta (.v 0) .kind (.v 1))
 (.seq (.sta (.v 0) .value (.v 2))
 .nop))
noncomputable def sP : X := (.seq (.ret (.lst false .nil))
 .nop)
noncomputable def rV : X := (.seq (.sta (.v 0) .func (.v 1))
 (.seq (.sta (.v 0) .args (.v 2))
 .nop))
noncomputable def sQ : X := (.seq (.ret (.bin .Add (.lst false (.cons (.tup (.cons (.att (.v 0) .func) (.cons (.tup .nil) .nil))) .nil)) (.lc false [none, none] (.one 1) (.att (.v 0) .args) .tt (.tup (.cons (.v 1) (.cons (.tup .nil) .nil))))))
 .nop)
noncomputable def rW : X := (.seq (.sta (.v 0) .params (.v 1))
 (.seq (.sta (.v 0) .body (.v 2))
 .nop))
noncomputable def sR : X := (.seq (.ret (.lst false (.cons (.tup (.cons (.att (.v 0) .body) (.cons (.tup (.cons (.k (.int 0)) .nil)) .nil))) .nil)))
 .nop)
noncomputable def rX : X := (.seq (.sta (.v 0) .binds (.v 1))
 (.seq (.sta (.v 0) .body (.v 2))
 (.seq (.sta (.v 0) .isRec (.v 3))
 .nop)))
noncomputable def sS : X := (.seq (.set (.one 1) (.ite (.att (.v 0) .isRec) (.tup (.cons (.k (.int 0)) .nil)) (.tup .nil)))
 (.seq (.ret (.bin .Add (.lc false [none, none, none, some 1] (.many [1, 2]) (.att (.v 0) .binds) .tt (.tup (.cons (.v 2) (.cons (.v 3) .nil)))) (.lst false (.cons (.tup (.cons (.att (.v 0) .body) (.cons (.tup (.cons (.k (.int 0)) .nil)) .nil))) .nil))))
 .nop))
noncomputable def rY : X := (.seq (.sta (.v 0) .key (.v 1))
 (.seq (.sta (.v 0) .names (.v 2))
 (.seq (.sta (.v 0) .body (.v 3))
 .nop)))
noncomputable def sT : X := (.seq (.sta (.v 0) .value (.v 1))
 (.seq (.sta (.v 0) .name (.v 2))
 (.seq (.sta (.v 0) .alts (.v 3))
 (.seq (.sta (.v 0) .other (.v 4))
 .nop))))
noncomputable def tC : X := (.seq (.set (.one 1) (.lst true (.cons (.tup (.cons (.att (.v 0) .value) (.cons (.tup .nil) .nil))) .nil)))
 (.seq (.for (.one 2) (.it .range (.bi .len (.cons (.att (.v 0) .alts) .nil))) (.seq (.ex (.met (.v 1) [] none .append (.cons (.tup (.cons (.att (.at (.att (.v 0) .alts) (.v 2)) .body) (.cons (.tup (.cons (.k (.int 0)) (.cons (.bin .Add (.v 2) (.k (.int 1))) .nil))) .nil))) .nil)))
 .nop))
 (.seq (.ret (.ite (.cmp .Is (.att (.v 0) .other) (.k .none)) (.z 1) (.bin .Add (.z 1) (.lst false (.cons (.tup (.cons (.att (.v 0) .other) (.cons (.tup (.cons (.k (.int 0)) .nil)) .nil))) .nil)))))
 .nop)))
noncomputable def rZ : X := (.seq (.sta (.v 0) .name (.v 1))
 (.seq (.sta (.v 0) .args (.v 2))
 .nop))
noncomputable def sU : X := (.seq (.ret (.lc false [none, none] (.one 1) (.att (.v 0) .args) .tt (.tup (.cons (.v 1) (.cons (.tup .nil) .nil)))))
 .nop)
noncomputable def sV : X := (.seq (.sta (.v 0) .place (.v 1))
 .nop)
noncomputable def sW : X := (.seq (.ex (.app (.k (.val (.ref 385))) (.cons (.v 0) (.cons (.v 2) .nil))))
 (.seq (.sta (.v 0) .name (.v 1))
 .nop))
noncomputable def tD : X := (.seq (.ex (.app (.k (.val (.ref 385))) (.cons (.v 0) (.cons (.v 1) .nil))))
 .nop)
noncomputable def sX : X := (.seq (.ex (.app (.k (.val (.ref 385))) (.cons (.v 0) (.cons (.v 3) .nil))))
 (.seq (.sta (.v 0) .kind (.v 1))
 (.seq (.sta (.v 0) .value (.v 2))
 .nop)))
noncomputable def sY : X := (.seq (.ex (.app (.k (.val (.ref 385))) (.cons (.v 0) (.cons (.v 3) .nil))))
 (.seq (.sta (.v 0) .name (.v 1))
 (.seq (.sta (.v 0) .args (.v 2))
 .nop)))
noncomputable def oV : X := (.seq (.if (.isC (.v 0) [532]) (.seq (.ret (.new .PCon (some [2, 0, 1]) (.cons (.app .bad (.cons (.bi .len (.cons .bad .nil)) .nil)) (.cons .bad (.cons (.k .none) .nil)))))
 .nop) .nop)
 (.seq (.if (.isC (.v 0) [559]) (.seq (.ret (.app .bad (.cons .bad .nil)))
 .nop) .nop)
 (.seq (.if (.and (.isC (.v 0) [478]) (.cmp .Eq (.att (.v 0) .kind) (.k (.str "text")))) (.seq (.ret (.app .bad (.cons (.att (.v 0) .value) .nil)))
 .nop) .nop)
 (.seq (.ret (.v 0))
 .nop))))
noncomputable def r4 : X := (.seq (.if (.isC (.v 0) [505]) (.seq (.ret (.att (.v 0) .args))
 .nop) .nop)
 (.seq (.if (.isC (.v 0) [532, 559]) (.seq (.ret .bad)
 .nop) .nop)
 (.seq (.ret (.ite (.isC (.v 0) [586, 613, 640]) (.lst false (.cons .bad .nil)) (.lst false .nil)))
 .nop)))
noncomputable def vu : X := (.seq (.set (.one 1) (.ite (.isC (.v 0) [424, 586]) (.lst false (.cons (.att (.v 0) .name) .nil)) (.lst false .nil)))
 (.seq (.for (.one 2) (.app (.k (.val (.ref 685))) (.cons (.v 0) .nil)) (.seq (.set (.one 1) (.bin .Add (.v 1) (.app (.k (.val (.ref 692))) (.cons (.v 2) .nil))))
 .nop))
 (.seq (.ret (.v 1))
 .nop)))
noncomputable def xg : X := (.seq (.sta (.v 0) .cons (.v 1))
 .nop)
noncomputable def xY : X := (.seq (.if (.cmp .In (.v 1) (.att (.v 0) .cons)) (.seq (.ret (.att (.at (.att (.v 0) .cons) (.v 1)) .arity))
 .nop) .nop)
 (.seq (.ret (.ite (.app .bad (.cons (.v 1) .nil)) (.bin .Sub (.bi .len (.cons (.v 1) .nil)) (.k (.int 1))) (.at .bad (.v 1))))
 .nop))
noncomputable def ya : X := (.seq (.ret (.and (.cmp .In (.v 1) (.att (.v 0) .cons)) (.att (.at (.att (.v 0) .cons) (.v 1)) .isNewtype)))
 .nop)
noncomputable def yo : X := (.seq (.if (.cmp .NotIn (.v 1) (.att (.v 0) .cons)) (.seq (.ret (.ite (.cmp .In (.v 1) (.tup (.cons (.k (.str "[]")) (.cons (.k (.str ":")) .nil)))) (.lst false (.cons (.k (.str "[]")) (.cons (.k (.str ":")) .nil))) (.lst false (.cons (.v 1) .nil))))
 .nop) .nop)
 (.seq (.set (.one 2) (.dict false))
 (.seq (.for (.one 3) (.att (.v 0) .cons) (.seq (.if (.cmp .Eq (.att (.at (.att (.v 0) .cons) (.v 3)) .typeName) (.att (.at (.att (.v 0) .cons) (.v 1)) .typeName)) (.seq (.stt (.v 2) (.att (.at (.att (.v 0) .cons) (.v 3)) .tag) (.v 3))
 .nop) .nop)
 .nop))
 (.seq (.ret (.lc false [none, none, some 2] (.one 1) (.bi .sorted (.cons (.v 2) .nil)) .tt (.at (.v 2) (.v 1))))
 .nop))))
noncomputable def sZ : X := (.seq (.sta (.v 0) .number (.v 1))
 (.seq (.sta (.v 0) .binds (.v 2))
 (.seq (.sta (.v 0) .behind (.v 3))
 .nop)))
noncomputable def uO : X := (.seq (.sta (.v 0) .name (.v 1))
 (.seq (.sta (.v 0) .branches (.v 2))
 (.seq (.sta (.v 0) .other (.v 3))
 .nop)))
noncomputable def qo : X := (.seq (.whl (.isC (.v 0) [586]) (.seq (.set (.one 0) .bad)
 .nop))
 (.seq (.ret (.isC (.v 0) [451, 424, 613]))
 .nop))
noncomputable def s6 : X := (.seq (.sta (.v 0) .number (.v 1))
 (.seq (.sta (.v 0) .patterns (.v 2))
 (.seq (.sta (.v 0) .binds (.v 3))
 (.seq (.sta (.v 0) .isLost (.v 4))
 .nop))))
noncomputable def tE : X := (.seq (.set (.many [4, 5]) (.tup (.cons (.app (.k (.val (.ref 678))) (.cons (.at (.att (.v 0) .patterns) (.v 1)) .nil)) (.cons (.att (.v 0) .binds) .nil))))
 (.seq (.whl (.or (.isC (.v 4) [424, 586, 613]) (.and (.v 3) (.isC (.v 4) [640]))) (.seq (.if (.isC (.v 4) [640]) (.seq (.set (.one 4) .bad)
 .nop) (.seq (.if (.isC (.v 4) [613]) (.seq (.set (.many [5, 4]) (.tup (.cons (.bin .Add (.v 5) (.lst false (.cons (.tup (.cons .bad (.cons (.v 2) .nil))) .nil))) (.cons (.new .PWild none (.cons (.k .none) .nil)) .nil))))
 .nop) (.seq (.set (.one 5) (.bin .Add (.v 5) (.lst false (.cons (.tup (.cons (.att (.v 4) .name) (.cons (.v 2) .nil))) .nil))))
 (.seq (.set (.one 4) (.ite (.isC (.v 4) [586]) .bad (.new .PWild none (.cons (.k .none) .nil))))
 .nop)))
 .nop))
 (.seq (.set (.one 4) (.app (.k (.val (.ref 678))) (.cons (.v 4) .nil)))
 .nop)))
 (.seq (.set (.one 6) (.bin .Add (.bin .Add (.slc .upto (.att (.v 0) .patterns) (.v 1)) (.lst false (.cons (.v 4) .nil))) (.slc .from (.att (.v 0) .patterns) (.bin .Add (.v 1) (.k (.int 1))))))
 (.seq (.ret (.new .Line none (.cons (.att (.v 0) .number) (.cons (.v 6) (.cons (.v 5) (.cons (.att (.v 0) .isLost) .nil))))))
 .nop))))
noncomputable def r6 : X := (.seq (.ret (.new .Line none (.cons (.att (.v 0) .number) (.cons (.bin .Add (.bin .Add (.slc .upto (.att (.v 0) .patterns) (.v 1)) (.v 2)) (.slc .from (.att (.v 0) .patterns) (.bin .Add (.v 1) (.k (.int 1))))) (.cons (.att (.v 0) .binds) (.cons (.att (.v 0) .isLost) .nil))))))
 .nop)
noncomputable def uP : X := (.seq (.if (.cmp .Eq (.lc false [none, none] (.one 1) (.slc .upto (.att (.v 0) .patterns) (.v 1)) (.not (.app (.k (.val (.ref 842))) (.cons (.v 1) .nil))) (.v 1)) (.lst false .nil)) (.seq (.ret (.lst false .nil))
 .nop) .nop)
 (.seq (.set (.one 3) (.lc false [none, none] (.one 1) (.it .range (.bin .Sub (.bin .Sub (.bin .Add (.v 2) (.bi .len (.cons (.att (.v 0) .patterns) .nil))) (.v 1)) (.k (.int 1)))) .tt (.new .PWild none (.cons (.k .none) .nil))))
 (.seq (.ret (.lst false (.cons (.new .Line none (.cons (.att (.v 0) .number) (.cons (.bin .Add (.slc .upto (.att (.v 0) .patterns) (.v 1)) (.v 3)) (.cons (.lst false .nil) (.cons (.k (.bool true)) .nil))))) .nil)))
 .nop)))
noncomputable def oW : X := (.seq (.if (.isC (.v 0) [505]) (.seq (.ret (.tup (.cons (.k (.str "con")) (.cons (.att (.v 0) .name) .nil))))
 .nop) .nop)
 (.seq (.ret (.ite (.isC (.v 0) [478]) (.tup (.cons (.k (.str "lit")) (.cons (.att (.v 0) .kind) (.cons (.att (.v 0) .value) .nil)))) (.k .none)))
 .nop))
noncomputable def vv : X := (.seq (.sta (.v 0) .known (.v 1))
 (.seq (.sta (.v 0) .falls (.v 2))
 (.seq (.sta (.v 0) .fresh (.v 3))
 .nop)))
noncomputable def vw : X := (.seq (.if (.cmp .Eq (.v 2) (.lst false .nil)) (.seq (.ret (.new .Nothing none .nil))
 .nop) .nop)
 (.seq (.set (.one 3) (.at (.v 2) (.k (.int 0))))
 (.seq (.for (.one 4) (.it .range (.bi .len (.cons (.v 1) .nil))) (.seq (.set (.one 3) (.met (.v 3) [(23, 863)] none .no (.cons (.v 4) (.cons (.at (.v 1) (.v 4)) (.cons (.k (.bool false)) .nil)))))
 (.seq (.set (.one 5) (.at (.att (.v 3) .patterns) (.v 4)))
 (.seq (.if (.not (.isC (.v 5) [451])) (.seq (.ret (.met (.v 0) [(24, 915)] none .no (.cons (.v 4) (.cons (.v 1) (.cons (.bin .Add (.lst false (.cons (.v 3) .nil)) (.slc .from (.v 2) (.k (.int 1)))) .nil)))))
 .nop) .nop)
 .nop))))
 (.seq (.if (.att (.v 3) .isLost) (.seq (.ret (.met (.v 0) [(24, 910)] none .no (.cons (.v 1) (.cons (.slc .from (.v 2) (.k (.int 1))) .nil))))
 .nop) .nop)
 (.seq (.set (.one 6) (.ite (.at (.att (.v 0) .falls) (.att (.v 3) .number)) (.met (.v 0) [(24, 910)] none .no (.cons (.v 1) (.cons (.slc .from (.v 2) (.k (.int 1))) .nil))) (.k .none)))
 (.seq (.ret (.new .Leaf none (.cons (.att (.v 3) .number) (.cons (.att (.v 3) .binds) (.cons (.v 6) .nil)))))
 .nop))))))
noncomputable def ir_Decider_looked : X := (.seq (.set (.one 4) (.at (.att (.at (.v 3) (.k (.int 0))) .patterns) (.v 1)))
 (.seq (.if (.met (.v 0) [(24, 922)] none .no (.cons (.v 4) .nil)) (.seq (.ret (.met (.v 0) [] none .no (.cons (.v 1) (.cons (.v 2) (.cons (.v 3) .nil)))))
 .nop) .nop)
 (.seq (.if (.isC (.v 4) [640]) (.seq (.set (.one 5) (.met (.at (.v 3) (.k (.int 0))) [(23, 870)] none .no (.cons (.v 1) (.cons (.lst false (.cons .bad .nil)) .nil))))
 (.seq (.ret (.app (.k (.val (.ref 810))) (.cons (.at (.v 2) (.v 1)) (.cons (.met (.v 0) [(24, 910)] none .no (.cons (.v 2) (.cons (.bin .Add (.lst false (.cons (.v 5) .nil)) (.slc .from (.v 3) (.k (.int 1)))) .nil))) .nil))))
 .nop)) .nop)
 (.seq (.set (.one 7) (.lc false [none, none, some 2, some 1] (.one 1) (.v 3) .tt (.met (.v 1) [(23, 863)] none .no (.cons (.v 3) (.cons (.at (.v 2) (.v 3)) (.cons (.k (.bool true)) .nil))))))
 (.seq (.set (.one 8) (.lst true .nil))
 (.seq (.for (.one 6) (.v 7) (.seq (.set (.one 9) (.app (.k (.val (.ref 889))) (.cons (.at (.att (.v 6) .patterns) (.v 1)) .nil)))
 (.seq (.if (.and (.cmp .IsNot (.v 9) (.k .none)) (.cmp .NotIn (.v 9) (.v 8))) (.seq (.ex (.met (.v 8) [] none .append (.cons (.v 9) .nil)))
 .nop) .nop)
 .nop)))
 (.seq (.set (.one 10) (.lc false [none, none, some 2, some 1, some 7, some 0] (.one 1) (.z 8) .tt (.met (.v 5) [(24, 927)] none .no (.cons (.v 1) (.cons (.v 3) (.cons (.v 2) (.cons (.v 4) .nil)))))))
 (.seq (.set (.one 11) (.lst true .nil))
 (.seq (.for (.one 6) (.v 7) (.seq (.ex (.met (.v 11) [] none .extend (.cons (.ite (.cmp .Is (.app (.k (.val (.ref 889))) (.cons (.at (.att (.v 6) .patterns) (.v 1)) .nil)) (.k .none)) (.lst false (.cons (.met (.v 6) [(23, 870)] none .no (.cons (.v 1) (.cons (.lst false .nil) .nil))) .nil)) (.met (.v 6) [(23, 875)] none .no (.cons (.v 1) (.cons (.k (.int 0)) .nil)))) .nil)))
 .nop))
 (.seq (.set (.one 12) (.and (.cmp .Eq (.at (.at (.v 8) (.k (.int 0))) (.k (.int 0))) (.k (.str "con"))) (.cmp .Eq (.bi .len (.cons (.v 8) .nil)) (.bi .len (.cons (.met (.att (.v 0) .known) [(17, 730)] (some .siblings) .no (.cons (.at (.at (.v 8) (.k (.int 0))) (.k (.int 1))) .nil)) .nil)))))
 (.seq (.set (.one 13) (.bin .Add (.slc .upto (.v 2) (.v 1)) (.slc .from (.v 2) (.bin .Add (.v 1) (.k (.int 1))))))
 (.seq (.ret (.new .Switch none (.cons (.at (.v 2) (.v 1)) (.cons (.v 10) (.cons (.ite (.v 12) (.k .none) (.met (.v 0) [(24, 910)] none .no (.cons (.v 13) (.cons (.z 11) .nil)))) .nil)))))
 .nop))))))))))))
noncomputable def wR : X := (.seq (.if (.isC (.v 1) [640]) (.seq (.set (.one 1) (.app (.k (.val (.ref 678))) (.cons .bad .nil)))
 .nop) .nop)
 (.seq (.ret (.and (.isC (.v 1) [505]) (.met (.att (.v 0) .known) [(17, 725)] (some .isNewtype) .no (.cons (.att (.v 1) .name) .nil))))
 .nop))
noncomputable def ir_Decider_branch : X := (.seq (.set (.one 5) (.ite (.cmp .Eq (.at (.v 1) (.k (.int 0))) (.k (.str "con"))) (.met (.att (.v 0) .known) [(17, 718)] (some .arity) .no (.cons (.at (.v 1) (.k (.int 1))) .nil)) (.k (.int 0))))
 (.seq (.set (.one 6) (.lc false [none, none, some 0] (.one 1) (.it .range (.v 5)) .tt (.met (.att (.v 2) .fresh) [(28, 1138)] none .no (.cons (.k (.str "field")) .nil))))
 (.seq (.set (.one 7) (.lst true .nil))
 (.seq (.for (.one 8) (.v 4) (.seq (.set (.one 9) (.at (.att (.v 8) .patterns) (.v 2)))
 (.seq (.set (.one 10) (.app (.k (.val (.ref 889))) (.cons (.v 9) .nil)))
 (.seq (.if (.cmp .Is (.v 10) (.k .none)) (.seq (.ex (.met (.v 7) [] none .append (.cons (.met (.v 8) [(23, 870)] none .no (.cons (.v 2) (.cons (.lc false [none, none] (.one 1) (.v 6) .tt (.new .PWild none (.cons (.k .none) .nil))) .nil))) .nil)))
 .nop) (.seq (.if (.cmp .Eq (.v 10) (.v 1)) (.seq (.ex (.met (.v 7) [] none .append (.cons (.met (.v 8) [(23, 870)] none .no (.cons (.v 2) (.cons (.ite (.cmp .Eq (.at (.v 1) (.k (.int 0))) (.k (.str "con"))) (.bi .list (.cons (.att (.v 9) .args) .nil)) (.lst false .nil)) .nil))) .nil)))
 .nop) (.seq (.ex (.met (.v 7) [] none .extend (.cons (.met (.v 8) [(23, 875)] none .no (.cons (.v 2) (.cons (.v 5) .nil))) .nil)))
 .nop))
 .nop))
 .nop))))
 (.seq (.ret (.tup (.cons (.v 1) (.cons (.v 6) (.cons (.met (.v 0) [(24, 910)] none .no (.cons (.bin .Add (.bin .Add (.slc .upto (.v 3) (.v 2)) (.v 6)) (.slc .from (.v 3) (.bin .Add (.v 2) (.k (.int 1))))) (.cons (.z 7) .nil))) .nil)))))
 .nop)))))
noncomputable def r8 : X := (.seq (.sta (.v 0) .patterns (.v 1))
 (.seq (.sta (.v 0) .body (.v 2))
 (.seq (.sta (.v 0) .canFail (.v 3))
 .nop)))
noncomputable def vQ : X := (.seq (.set (.one 1) (.lst false .nil))
 (.seq (.for (.one 2) (.att (.v 0) .patterns) (.seq (.set (.one 1) (.bin .Add (.v 1) (.app (.k (.val (.ref 692))) (.cons (.v 2) .nil))))
 .nop))
 (.seq (.ret (.v 1))
 .nop)))
noncomputable def qp : X := (.seq (.if (.isC (.v 0) [768]) (.seq (.stt (.v 1) (.k (.int (-1))) (.bin .Add (.met (.v 1) [] none .get (.cons (.k (.int (-1))) (.cons (.k (.int 0)) .nil))) (.k (.int 1))))
 .nop) (.seq (.if (.isC (.v 0) [754]) (.seq (.stt (.v 1) (.att (.v 0) .number) (.bin .Add (.met (.v 1) [] none .get (.cons (.att (.v 0) .number) (.cons (.k (.int 0)) .nil))) (.k (.int 1))))
 (.seq (.if (.cmp .IsNot (.att (.v 0) .behind) (.k .none)) (.seq (.ex (.app (.k (.val (.ref 990))) (.cons (.att (.v 0) .behind) (.cons (.v 1) .nil))))
 .nop) .nop)
 .nop)) (.seq (.if (.isC (.v 0) [789]) (.seq (.for (.many [2, 3, 4]) (.att (.v 0) .branches) (.seq (.ex (.app (.k (.val (.ref 990))) (.cons (.v 4) (.cons (.v 1) .nil))))
 .nop))
 (.seq (.if (.cmp .IsNot (.att (.v 0) .other) (.k .none)) (.seq (.ex (.app (.k (.val (.ref 990))) (.cons (.att (.v 0) .other) (.cons (.v 1) .nil))))
 .nop) .nop)
 .nop)) (.seq (.ex (.app (.k (.val (.ref 990))) (.cons .bad (.cons (.v 1) .nil))))
 .nop))
 .nop))
 .nop))
 (.seq (.ret (.v 1))
 .nop))
noncomputable def tF : X := (.seq (.sta (.v 0) .rows (.v 1))
 (.seq (.sta (.v 0) .fail (.v 2))
 (.seq (.sta (.v 0) .known (.v 3))
 (.seq (.sta (.v 0) .fresh (.v 4))
 (.seq (.sta (.v 0) .uses (.v 5))
 (.seq (.sta (.v 0) .called (.dict false))
 .nop))))))
noncomputable def uQ : X := (.seq (.for (.one 2) (.it .range (.bi .len (.cons (.att (.v 0) .rows) .nil))) (.seq (.if (.cmp .Gt (.met (.att (.v 0) .uses) [] none .get (.cons (.v 2) (.cons (.k (.int 0)) .nil))) (.k (.int 1))) (.seq (.stt (.att (.v 0) .called) (.v 2) (.met (.att (.v 0) .fresh) [(28, 1138)] none .no (.cons (.k (.str "row")) .nil)))
 .nop) .nop)
 .nop))
 (.seq (.set (.one 3) (.met (.v 0) [(26, 1023)] none .no (.cons (.v 1) .nil)))
 (.seq (.for (.one 2) (.bi .sorted (.cons (.att (.v 0) .called) .nil)) (.seq (.set (.one 3) (.new .Let none (.cons (.lst false (.cons (.tup (.cons (.at (.att (.v 0) .called) (.v 2)) (.cons (.met (.v 0) [(26, 1018)] none .no (.cons (.at (.att (.v 0) .rows) (.v 2)) .nil)) .nil))) .nil)) (.cons (.v 3) (.cons (.k (.bool false)) .nil)))))
 .nop))
 (.seq (.ret (.v 3))
 .nop))))
noncomputable def wh : X := (.seq (.set (.one 2) (.met (.att (.v 0) .fresh) [(28, 1138)] none .no (.cons (.k (.str "fall")) .nil)))
 (.seq (.ret (.new .Lam none (.cons (.bin .Add (.app (.k (.val (.ref 983))) (.cons (.v 1) .nil)) (.lst false (.cons (.v 2) .nil))) (.cons (.met (.v 1) [] (some .body) .no (.cons (.new .Var none (.cons (.v 2) .nil)) .nil)) .nil))))
 .nop))
noncomputable def ir_Maker_core : X := (.seq (.if (.isC (.v 1) [768]) (.seq (.ret (.att (.v 0) .fail))
 .nop) .nop)
 (.seq (.if (.isC (.v 1) [754]) (.seq (.ret (.met (.v 0) [(26, 1030)] none .no (.cons (.v 1) .nil)))
 .nop) .nop)
 (.seq (.if (.isC (.v 1) [810]) (.seq (.ret (.new .Case none (.cons (.new .Var none (.cons (.att (.v 1) .name) .nil)) (.cons (.met (.att (.v 0) .fresh) [(28, 1138)] none .no (.cons (.k (.str "worked")) .nil)) (.cons (.lst false .nil) (.cons (.met (.v 0) [(26, 1023)] none .no (.cons .bad .nil)) .nil))))))
 .nop) .nop)
 (.seq (.if (.isC (.v 1) [831]) (.seq (.set (.one 2) (.met (.att (.v 0) .fresh) [(28, 1138)] none .no (.cons (.k (.str "inner")) .nil)))
 (.seq (.set (.one 3) (.new .Alt none (.cons (.tup (.cons (.k (.str "con")) (.cons .bad .nil))) (.cons (.lst false (.cons (.v 2) .nil)) (.cons (.new .Var none (.cons (.v 2) .nil)) .nil)))))
 (.seq (.set (.one 4) (.new .Case none (.cons (.new .Var none (.cons (.att (.v 1) .value) .nil)) (.cons (.met (.att (.v 0) .fresh) [(28, 1138)] none .no (.cons (.k (.str "worked")) .nil)) (.cons (.lst false (.cons (.v 3) .nil)) (.cons (.k .none) .nil))))))
 (.seq (.ret (.new .Let none (.cons (.lst false (.cons (.tup (.cons (.att (.v 1) .name) (.cons (.v 4) .nil))) .nil)) (.cons (.met (.v 0) [(26, 1023)] none .no (.cons .bad .nil)) (.cons (.k (.bool false)) .nil)))))
 .nop)))) .nop)
 (.seq (.set (.one 5) (.lc false [none, none, none, none, some 0] (.many [1, 2, 3]) (.att (.v 1) .branches) .tt (.new .Alt none (.cons (.v 1) (.cons (.v 2) (.cons (.met (.v 4) [(26, 1023)] none .no (.cons (.v 3) .nil)) .nil))))))
 (.seq (.set (.one 6) (.ite (.cmp .Is (.att (.v 1) .other) (.k .none)) (.k .none) (.met (.v 0) [(26, 1023)] none .no (.cons (.att (.v 1) .other) .nil))))
 (.seq (.ret (.new .Case none (.cons (.new .Var none (.cons (.att (.v 1) .name) .nil)) (.cons (.met (.att (.v 0) .fresh) [(28, 1138)] none .no (.cons (.k (.str "worked")) .nil)) (.cons (.v 5) (.cons (.v 6) .nil))))))
 .nop)))))))
noncomputable def ir_Maker_leaf : X := (.seq (.set (.one 2) (.at (.att (.v 0) .rows) (.att (.v 1) .number)))
 (.seq (.set (.one 3) (.ite (.cmp .Is (.att (.v 1) .behind) (.k .none)) (.att (.v 0) .fail) (.met (.v 0) [(26, 1023)] none .no (.cons (.att (.v 1) .behind) .nil))))
 (.seq (.if (.cmp .In (.att (.v 1) .number) (.att (.v 0) .called)) (.seq (.ret (.met (.v 0) [(26, 1047)] none .no (.cons (.v 1) (.cons (.v 3) .nil))))
 .nop) .nop)
 (.seq (.if (.isC (.v 3) [59]) (.seq (.set (.one 4) (.met (.v 2) [] (some .body) .no (.cons (.v 3) .nil)))
 .nop) (.seq (.if (.att (.v 2) .canFail) (.seq (.set (.one 5) (.met (.att (.v 0) .fresh) [(28, 1138)] none .no (.cons (.k (.str "fall")) .nil)))
 (.seq (.set (.one 4) (.new .Let none (.cons (.lst false (.cons (.tup (.cons (.v 5) (.cons (.v 3) .nil))) .nil)) (.cons (.met (.v 2) [] (some .body) .no (.cons (.new .Var none (.cons (.v 5) .nil)) .nil)) (.cons (.k (.bool false)) .nil)))))
 .nop)) (.seq (.set (.one 4) (.met (.v 2) [] (some .body) .no (.cons (.new .Con none (.cons (.k (.str "()")) (.cons (.lst false .nil) .nil))) .nil)))
 .nop))
 .nop))
 (.seq (.for (.many [6, 7]) (.slc .rev (.att (.v 1) .binds) (.neg (.k (.int 1)))) (.seq (.for (.many [8, 9]) (.slc .rev (.met (.v 0) [(26, 1035)] none .no (.cons (.v 6) (.cons (.v 7) .nil))) (.neg (.k (.int 1)))) (.seq (.set (.one 4) (.new .Let none (.cons (.lst false (.cons (.tup (.cons (.v 8) (.cons (.v 9) .nil))) .nil)) (.cons (.v 4) (.cons (.k (.bool false)) .nil)))))
 .nop))
 .nop))
 (.seq (.ret (.v 4))
 .nop))))))
noncomputable def uR : X := (.seq (.if (.isS (.v 1)) (.seq (.ret (.lst false (.cons (.tup (.cons (.v 1) (.cons (.new .Var none (.cons (.v 2) .nil)) .nil))) .nil)))
 .nop) .nop)
 (.seq (.ret (.lc false [none, none, some 2, some 0, some 1] (.one 1) (.app (.k (.val (.ref 692))) (.cons (.v 1) .nil)) .tt (.tup (.cons (.v 1) (.cons (.met (.v 3) [] none .no (.cons (.v 4) (.cons (.v 1) (.cons (.v 2) .nil)))) .nil)))))
 .nop))
noncomputable def tG : X := (.seq (.set (.many [3, 4]) (.tup (.cons (.lst true .nil) (.cons (.dict true) .nil))))
 (.seq (.for (.many [5, 6]) (.att (.v 1) .binds) (.seq (.if (.isS (.v 5)) (.seq (.stt (.v 4) (.v 5) (.v 6))
 .nop) (.seq (.for (.many [7, 8]) (.met (.v 0) [(26, 1035)] none .no (.cons (.v 5) (.cons (.v 6) .nil))) (.seq (.stt (.v 4) (.v 7) (.met (.att (.v 0) .fresh) [(28, 1138)] none .no (.cons (.v 7) .nil)))
 (.seq (.ex (.met (.v 3) [] none .append (.cons (.tup (.cons (.at (.v 4) (.v 7)) (.cons (.v 8) .nil))) .nil)))
 .nop)))
 .nop))
 .nop))
 (.seq (.set (.one 9) (.lc true [none, none, some 4] (.one 1) (.app (.k (.val (.ref 983))) (.cons (.at (.att (.v 0) .rows) (.att (.v 1) .number)) .nil)) .tt (.new .Var none (.cons (.at (.v 2) (.v 1)) .nil))))
 (.seq (.if (.isC (.v 2) [59]) (.seq (.ex (.met (.v 9) [] none .append (.cons (.v 2) .nil)))
 .nop) (.seq (.if (.att (.at (.att (.v 0) .rows) (.att (.v 1) .number)) .canFail) (.seq (.set (.one 10) (.met (.att (.v 0) .fresh) [(28, 1138)] none .no (.cons (.k (.str "fall")) .nil)))
 (.seq (.ex (.met (.v 3) [] none .append (.cons (.tup (.cons (.v 10) (.cons (.v 2) .nil))) .nil)))
 (.seq (.ex (.met (.v 9) [] none .append (.cons (.new .Var none (.cons (.v 10) .nil)) .nil)))
 .nop))) (.seq (.ex (.met (.v 9) [] none .append (.cons (.new .Con none (.cons (.k (.str "()")) (.cons (.lst false .nil) .nil))) .nil)))
 .nop))
 .nop))
 (.seq (.set (.one 11) (.new .App none (.cons (.new .Var none (.cons (.at (.att (.v 0) .called) (.att (.v 1) .number)) .nil)) (.cons (.z 9) .nil))))
 (.seq (.for (.many [7, 8]) (.slc .rev (.v 3) (.neg (.k (.int 1)))) (.seq (.set (.one 11) (.new .Let none (.cons (.lst false (.cons (.tup (.cons (.v 7) (.cons (.v 8) .nil))) .nil)) (.cons (.v 11) (.cons (.k (.bool false)) .nil)))))
 .nop))
 (.seq (.ret (.v 11))
 .nop)))))))
noncomputable def ir_matched_by : X := (.seq (.set (.one 5) (.lc false [none, none, none] (.many [1, 2]) (.it .enum (.v 1)) .tt (.new .Line none (.cons (.v 1) (.cons (.bi .list (.cons (.att (.v 2) .patterns) .nil)) (.cons (.lst false .nil) (.cons (.k (.bool false)) .nil)))))))
 (.seq (.set (.one 6) (.met (.new .Decider none (.cons (.v 3) (.cons (.lc false [none, none] (.one 1) (.v 1) .tt (.att (.v 1) .canFail)) (.cons (.v 4) .nil)))) [(24, 910)] none .no (.cons (.bi .list (.cons (.v 0) .nil)) (.cons (.v 5) .nil))))
 (.seq (.set (.one 7) (.app (.k (.val (.ref 990))) (.cons (.v 6) (.cons (.dict false) .nil))))
 (.seq (.if (.or (.cmp .Lt (.met (.v 7) [] none .get (.cons (.k (.int (-1))) (.cons (.k (.int 0)) .nil))) (.k (.int 2))) (.isC (.v 2) [59])) (.seq (.ret (.met (.app (.k (.val (.ref 1050))) (.cons (.v 1) (.cons (.v 2) (.cons (.v 3) (.cons (.v 4) (.cons (.v 7) .nil)))))) [(26, 1011)] none .no (.cons (.v 6) .nil)))
 .nop) .nop)
 (.seq (.set (.one 8) (.met (.v 4) [(28, 1138)] none .no (.cons (.k (.str "fail")) .nil)))
 (.seq (.ret (.new .Let none (.cons (.lst false (.cons (.tup (.cons (.v 8) (.cons (.v 2) .nil))) .nil)) (.cons (.met (.app (.k (.val (.ref 1050))) (.cons (.v 1) (.cons (.new .Var none (.cons (.v 8) .nil)) (.cons (.v 3) (.cons (.v 4) (.cons (.v 7) .nil)))))) [(26, 1011)] none .no (.cons (.v 6) .nil)) (.cons (.k (.bool false)) .nil)))))
 .nop))))))
noncomputable def qq : X := (.seq (.ret (.app (.k (.val (.ref 1066))) (.cons (.v 0) (.cons (.v 1) (.cons (.v 2) (.cons (.new .Constructors none (.cons (.v 3) .nil)) (.cons (.v 4) .nil)))))))
 .nop)
noncomputable def r9 : X := (.seq (.set (.many [1, 2]) (.tup (.cons (.lst true .nil) (.cons (.lst true (.cons (.v 0) .nil)) .nil))))
 (.seq (.whl (.v 2) (.seq (.set (.one 3) (.met (.v 2) [] none .pop .nil))
 (.seq (.ex (.met (.v 1) [] none .append (.cons (.v 3) .nil)))
 (.seq (.for (.many [4, 5]) (.it .rev (.met (.v 3) [(0, 49), (1, 91), (2, 131), (3, 173), (4, 211), (6, 272), (7, 312)] none .no .nil)) (.seq (.ex (.met (.v 2) [] none .append (.cons (.v 4) .nil)))
 .nop))
 .nop))))
 (.seq (.ret (.z 1))
 .nop)))
noncomputable def vx : X := (.seq (.sta (.v 0) .name (.v 1))
 (.seq (.sta (.v 0) .tag (.v 2))
 (.seq (.sta (.v 0) .arity (.v 3))
 (.seq (.sta (.v 0) .stricts (.v 4))
 (.seq (.sta (.v 0) .typeName (.v 5))
 (.seq (.sta (.v 0) .scheme (.v 6))
 (.seq (.sta (.v 0) .siblings (.v 7))
 (.seq (.sta (.v 0) .isNewtype (.v 8))
 .nop))))))))
noncomputable def qr : X := (.seq (.set (.one 1) (.met (.v 0) [] none .rfind (.cons (.k (.str ".")) .nil)))
 (.seq (.ret (.ite (.and (.cmp .Gt (.v 1) (.k (.int 0))) (.met (.slc .from (.v 0) (.bin .Add (.v 1) (.k (.int 1)))) [] none .no .nil)) (.slc .upto (.v 0) (.v 1)) (.v 0)))
 .nop))
noncomputable def tH : X := (.seq (.sta (.v 0) .avoided (.dict true))
 (.seq (.sta (.v 0) .numbers (.dict true))
 (.seq (.ex (.met (.v 0) [(28, 1131)] none .no (.cons (.v 1) .nil)))
 .nop)))
noncomputable def uS : X := (.seq (.for (.one 2) (.v 1) (.seq (.stt (.att (.v 0) .avoided) (.v 2) (.k (.bool true)))
 .nop))
 .nop)
noncomputable def tI : X := (.seq (.set (.one 2) (.app (.k (.val (.ref 1108))) (.cons (.v 1) .nil)))
 (.seq (.set (.one 3) (.bin .Add (.met (.att (.v 0) .numbers) [] none .get (.cons (.v 2) (.cons (.k (.int 0)) .nil))) (.k (.int 1))))
 (.seq (.whl (.cmp .In (.bin .Add (.bin .Add (.v 2) (.k (.str "."))) (.bi .str (.cons (.v 3) .nil))) (.att (.v 0) .avoided)) (.seq (.aug 3 (.k (.int 1)))
 .nop))
 (.seq (.stt (.att (.v 0) .numbers) (.v 2) (.v 3))
 (.seq (.ret (.bin .Add (.bin .Add (.v 2) (.k (.str "."))) (.bi .str (.cons (.v 3) .nil))))
 .nop)))))
noncomputable def ir__law_pool : X := (.seq (.set (.one 2) (.k (.int 0)))
 (.seq (.if (.cmp .Lt (.v 1) (.bi .len (.cons (.v 0) .nil))) (.seq (.set (.one 2) (.at (.v 0) (.v 1)))
 .nop) .nop)
 (.seq (.set (.one 3) (.bi .max (.cons (.bi .int (.cons (.v 2) .nil)) (.cons (.bi .int (.cons (.bin .Sub (.neg (.k (.int 1))) (.v 2)) .nil)) .nil))))
 (.seq (.set (.one 4) (.bin .Mod (.bi .int (.cons (.bin .Mult (.bin .Add (.bin .Add (.bin .Add (.bin .Mod (.bi .int (.cons (.v 3) .nil)) (.k (.int 2147483629))) (.bin .Mult (.bin .Mult (.k (.int 7919)) (.v 1)) (.v 1))) (.bin .Mult (.k (.int 31)) (.v 1))) (.k (.int 17))) (.k (.int 48271))) .nil)) (.k (.int 2147483647))))
 (.seq (.ret (.lst true (.cons (.bin .Mult (.v 3) (.bi .int (.cons (.cmp .GtE (.v 3) (.bin .Pow (.k (.int 10)) (.k (.int 18)))) .nil))) (.cons (.v 4) .nil))))
 .nop)))))
noncomputable def s7 : X := (.seq (.if (.cmp .Gt (.at (.v 0) (.k (.int 0))) (.k (.int 0))) (.seq (.set (.one 2) (.bin .Mod (.bi .int (.cons (.at (.v 0) (.k (.int 0))) .nil)) (.v 1)))
 (.seq (.stt (.v 0) (.k (.int 0)) (.bin .FloorDiv (.at (.v 0) (.k (.int 0))) (.v 1)))
 (.seq (.ret (.v 2))
 .nop))) .nop)
 (.seq (.stt (.v 0) (.k (.int 1)) (.bin .Mod (.bi .int (.cons (.bin .Add (.bin .Mult (.at (.v 0) (.k (.int 1))) (.k (.int 39373))) (.k (.int 7))) .nil)) (.k (.int 2147483647))))
 (.seq (.ret (.bin .Mod (.bi .int (.cons (.bin .FloorDiv (.bin .Mod (.bi .int (.cons (.bin .Mult (.at (.v 0) (.k (.int 1))) (.at (.v 0) (.k (.int 1)))) .nil)) (.k (.int 2147483629))) (.k (.int 32))) .nil)) (.v 1)))
 .nop)))
noncomputable def rg : X := (.seq (.ret (.at (.v 1) (.app (.k (.val (.ref 1159))) (.cons (.v 0) (.cons (.bi .len (.cons (.v 1) .nil)) .nil)))))
 .nop)
noncomputable def vy : X := (.seq (.set (.one 3) (.app (.k (.val (.ref 1159))) (.cons (.v 0) (.cons (.k (.int 5)) .nil))))
 (.seq (.if (.cmp .Eq (.v 3) (.k (.int 0))) (.seq (.ret (.new .PWild none (.cons (.k .none) .nil)))
 .nop) .nop)
 (.seq (.if (.cmp .Eq (.v 3) (.k (.int 1))) (.seq (.ex (.met (.v 2) [] none .append (.cons (.bin .Add (.k (.str "v.")) (.bi .str (.cons (.bin .Add (.bi .len (.cons (.v 2) .nil)) (.k (.int 1))) .nil))) .nil)))
 (.seq (.ret (.new .PVar (some [1, 0]) (.cons (.at (.v 2) (.neg (.k (.int 1)))) (.cons (.k .none) .nil))))
 .nop)) .nop)
 (.seq (.if (.cmp .Eq (.v 1) (.k (.str "I"))) (.seq (.ret (.new .PLit (some [2, 0, 1]) (.cons (.k (.str "int")) (.cons (.app (.k (.val (.ref 1159))) (.cons (.v 0) (.cons (.k (.int 2)) .nil))) (.cons (.k .none) .nil)))))
 .nop) .nop)
 (.seq (.if (.cmp .Lt (.v 3) (.k (.int 4))) (.seq (.ret (.new .PCon (some [2, 0, 1]) (.cons (.k (.str "M.A")) (.cons (.lst false .nil) (.cons (.k .none) .nil)))))
 .nop) .nop)
 (.seq (.ret (.new .PCon (some [2, 0, 1]) (.cons (.k (.str "M.B")) (.cons (.lst false (.cons (.app (.k (.val (.ref 1173))) (.cons (.v 0) (.cons (.k (.str "I")) (.cons (.v 2) .nil)))) .nil)) (.cons (.k .none) .nil)))))
 .nop))))))
noncomputable def tJ : X := (.seq (.if (.isC (.v 0) [768]) (.seq (.stt (.v 1) (.neg (.k (.int 1))) (.bin .Add (.met (.v 1) [] none .get (.cons (.neg (.k (.int 1))) (.cons (.k (.int 0)) .nil))) (.k (.int 1))))
 .nop) (.seq (.if (.isC (.v 0) [754]) (.seq (.stt (.v 1) (.att (.v 0) .number) (.bin .Add (.met (.v 1) [] none .get (.cons (.att (.v 0) .number) (.cons (.k (.int 0)) .nil))) (.k (.int 1))))
 (.seq (.if (.cmp .IsNot (.att (.v 0) .behind) (.k .none)) (.seq (.ex (.app (.k (.val (.ref 1180))) (.cons (.att (.v 0) .behind) (.cons (.v 1) .nil))))
 .nop) .nop)
 .nop)) (.seq (.for (.many [2, 3, 4]) (.att (.v 0) .branches) (.seq (.ex (.app (.k (.val (.ref 1180))) (.cons (.v 4) (.cons (.v 1) .nil))))
 .nop))
 (.seq (.if (.cmp .IsNot (.att (.v 0) .other) (.k .none)) (.seq (.ex (.app (.k (.val (.ref 1180))) (.cons (.att (.v 0) .other) (.cons (.v 1) .nil))))
 .nop) .nop)
 .nop)))
 .nop))
 (.seq (.ret (.v 1))
 .nop))
noncomputable def xG : X := (.seq (.rlam [1, 0, 2])
 .nop)
noncomputable def wU : X := (.seq (.set (.many [5, 6]) (.tup (.cons (.app (.k (.val (.ref 1080))) (.cons (.v 0) .nil)) (.cons (.dict true) .nil))))
 (.seq (.for (.one 7) (.v 5) (.seq (.if (.and (.isC (.v 7) [221]) (.isC (.at (.at (.att (.v 7) .binds) (.k (.int 0))) (.k (.int 1))) [183])) (.seq (.stt (.v 6) (.at (.at (.att (.v 7) .binds) (.k (.int 0))) (.k (.int 0))) (.at (.at (.att (.v 7) .binds) (.k (.int 0))) (.k (.int 1))))
 .nop) .nop)
 .nop))
 (.seq (.set (.one 8) (.lc false [none, none] (.one 1) (.v 5) (.isC (.v 1) [141]) (.v 1)))
 (.seq (.for (.one 9) (.it .range (.bi .len (.cons (.v 1) .nil))) (.seq (.set (.one 10) (.lc false [none, none, some 9] (.one 1) (.v 5) (.and (.isC (.v 1) [322]) (.cmp .Eq (.att (.v 1) .name) (.bin .Add (.k (.str "row")) (.bi .str (.cons (.v 2) .nil))))) (.v 1)))
 (.seq (.set (.one 11) (.met (.v 2) [] none .get (.cons (.v 9) (.cons (.k (.int 0)) .nil))))
 (.seq (.if (.cmp .NotEq (.bi .len (.cons (.v 10) .nil)) (.bi .int (.cons (.cmp .Gt (.v 11) (.k (.int 0))) .nil))) (.seq (.ret (.k (.bool false)))
 .nop) .nop)
 (.seq (.set (.one 12) (.lc false [none, none, some 6, some 10] (.one 1) (.v 6) (.cmp .In (.att (.at (.v 2) (.v 1)) .body) (.v 3)) (.v 1)))
 (.seq (.if (.cmp .NotEq (.bi .len (.cons (.v 12) .nil)) (.bi .int (.cons (.cmp .Gt (.v 11) (.k (.int 1))) .nil))) (.seq (.ret (.k (.bool false)))
 .nop) .nop)
 (.seq (.if (.cmp .Gt (.v 11) (.k (.int 1))) (.seq (.set (.one 13) (.att (.at (.v 6) (.at (.v 12) (.k (.int 0)))) .params))
 (.seq (.if (.or (.cmp .NotEq (.slc .upto (.v 13) (.neg (.k (.int 1)))) (.at (.v 1) (.v 9))) (.cmp .NotEq (.bi .len (.cons (.v 13) .nil)) (.bin .Add (.bi .len (.cons (.at (.v 1) (.v 9)) .nil)) (.k (.int 1))))) (.seq (.ret (.k (.bool false)))
 .nop) .nop)
 (.seq (.set (.one 14) (.lc false [none, none, some 12] (.one 1) (.v 8) (.cmp .Eq (.att (.att (.v 1) .func) .name) (.at (.v 2) (.k (.int 0)))) (.v 1)))
 (.seq (.if (.or (.cmp .NotEq (.bi .len (.cons (.v 14) .nil)) (.v 11)) (.cmp .NotEq (.lc false [none, none, some 13] (.one 1) (.v 14) (.cmp .NotEq (.bi .len (.cons (.att (.v 1) .args) .nil)) (.bi .len (.cons (.v 2) .nil))) (.v 1)) (.lst false .nil))) (.seq (.ret (.k (.bool false)))
 .nop) .nop)
 .nop)))) .nop)
 .nop)))))))
 (.seq (.set (.one 15) (.lc false [none, none] (.one 1) (.v 5) (.and (.isC (.v 1) [322]) (.cmp .Eq (.att (.v 1) .name) (.k (.str "none")))) (.v 1)))
 (.seq (.ret (.cmp .Eq (.bi .len (.cons (.v 15) .nil)) (.ite (.v 4) (.k (.int 0)) (.bi .min (.cons (.k (.int 1)) (.cons (.met (.v 2) [] none .get (.cons (.neg (.k (.int 1))) (.cons (.k (.int 0)) .nil))) .nil))))))
 .nop))))))
noncomputable def ir_law : X := (.seq (.set (.one 1) (.dict true))
 (.seq (.for (.many [2, 3]) (.it .enum (.lst false (.cons (.tup (.cons (.k (.str "M.A")) (.cons (.k (.int 0)) .nil))) (.cons (.tup (.cons (.k (.str "M.B")) (.cons (.k (.int 1)) .nil))) .nil)))) (.seq (.stt (.v 1) (.at (.v 3) (.k (.int 0))) (.new .ConInfo none (.cons (.at (.v 3) (.k (.int 0))) (.cons (.v 2) (.cons (.at (.v 3) (.k (.int 1))) (.cons (.lst false .nil) (.cons (.k (.str "T")) (.cons (.k .none) (.cons (.k (.int 2)) (.cons (.k (.bool false)) .nil))))))))))
 .nop))
 (.seq (.for (.one 4) (.it .range (.bi .max (.cons (.k (.int 1)) (.cons (.bi .min (.cons (.bi .len (.cons (.v 0) .nil)) (.cons (.k (.int 2)) .nil))) .nil)))) (.seq (.set (.many [5, 6]) (.tup (.cons (.app (.k (.val (.ref 1152))) (.cons (.v 0) (.cons (.v 4) .nil))) (.cons (.lst true .nil) .nil))))
 (.seq (.set (.one 7) (.lc false [none, none, some 5] (.one 1) (.it .range (.bin .Add (.k (.int 2)) (.app (.k (.val (.ref 1159))) (.cons (.v 5) (.cons (.k (.int 2)) .nil))))) .tt (.app (.k (.val (.ref 1166))) (.cons (.v 2) (.cons (.k (.str "TTI")) .nil)))))
 (.seq (.set (.many [8, 9, 10]) (.tup (.cons (.lst true .nil) (.cons (.lst true .nil) (.cons (.lst true .nil) .nil)))))
 (.seq (.for (.one 11) (.it .range (.bin .Add (.k (.int 2)) (.app (.k (.val (.ref 1159))) (.cons (.v 5) (.cons (.k (.int 3)) .nil))))) (.seq (.set (.one 12) (.bi .len (.cons (.v 6) .nil)))
 (.seq (.ex (.met (.v 8) [] none .append (.cons (.lc false [none, none, some 6, some 5] (.one 1) (.v 7) .tt (.app (.k (.val (.ref 1173))) (.cons (.v 3) (.cons (.v 1) (.cons (.v 2) .nil))))) .nil)))
 (.seq (.ex (.met (.v 9) [] none .append (.cons (.slc .from (.v 6) (.v 12)) .nil)))
 (.seq (.ex (.met (.v 10) [] none .append (.cons (.cmp .Eq (.app (.k (.val (.ref 1159))) (.cons (.v 5) (.cons (.k (.int 4)) .nil))) (.k (.int 0))) .nil)))
 .nop)))))
 (.seq (.set (.one 13) (.lc false [none, none] (.one 1) (.it .range (.bi .len (.cons (.v 7) .nil))) .tt (.bin .Add (.k (.str "s")) (.bi .str (.cons (.v 1) .nil)))))
 (.seq (.set (.one 14) (.lc false [none, none, none] (.many [1, 2]) (.it .enum (.z 8)) .tt (.new .Line none (.cons (.v 1) (.cons (.bi .list (.cons (.v 2) .nil)) (.cons (.lst false .nil) (.cons (.k (.bool false)) .nil)))))))
 (.seq (.set (.one 15) (.met (.new .Decider none (.cons (.new .Constructors none (.cons (.v 1) .nil)) (.cons (.z 10) (.cons (.app (.k (.val (.ref 1141))) (.cons (.bin .Add (.v 6) (.v 13)) .nil)) .nil)))) [(24, 910)] none .no (.cons (.v 13) (.cons (.v 14) .nil))))
 (.seq (.set (.one 16) (.app (.k (.val (.ref 1180))) (.cons (.v 15) (.cons (.dict false) .nil))))
 (.seq (.if (.or (.cmp .NotEq (.app (.k (.val (.ref 990))) (.cons (.v 15) (.cons (.dict false) .nil))) (.v 16)) (.cmp .NotEq (.k (.int (-1))) (.neg (.k (.int 1))))) (.seq (.ret (.k (.bool false)))
 .nop) .nop)
 (.seq (.set (.one 17) (.lc false [none, none, some 10, some 9, some 8] (.one 1) (.it .range (.bi .len (.cons (.v 8) .nil))) .tt (.new .Row none (.cons (.at (.v 4) (.v 1)) (.cons (.app (.k (.val (.ref 1187))) (.cons (.v 1) (.cons (.at (.v 3) (.v 1)) (.cons (.at (.v 2) (.v 1)) .nil)))) (.cons (.at (.v 2) (.v 1)) .nil))))))
 (.seq (.set (.one 18) (.cmp .Eq (.app (.k (.val (.ref 1159))) (.cons (.v 5) (.cons (.k (.int 2)) .nil))) (.k (.int 0))))
 (.seq (.set (.one 19) (.ite (.v 18) (.new .Var none (.cons (.k (.str "f")) .nil)) (.new .Con none (.cons (.k (.str "none")) (.cons (.lst false .nil) .nil)))))
 (.seq (.set (.one 20) (.app (.k (.val (.ref 1073))) (.cons (.v 13) (.cons (.v 17) (.cons (.v 19) (.cons (.v 1) (.cons (.app (.k (.val (.ref 1141))) (.cons (.bin .Add (.bin .Add (.v 6) (.v 13)) (.lst false (.cons (.k (.str "f")) .nil))) .nil)) .nil)))))))
 (.seq (.if (.not (.app (.k (.val (.ref 1192))) (.cons (.v 20) (.cons (.z 9) (.cons (.v 16) (.cons (.z 10) (.cons (.v 18) .nil))))))) (.seq (.ret (.k (.bool false)))
 .nop) .nop)
 (.seq (.if (.and (.isC (.v 15) [789]) (.cmp .Lt (.met (.v 16) [] none .get (.cons (.k (.int 0)) (.cons (.k (.int 0)) .nil))) (.k (.int 1)))) (.seq (.ret (.k (.bool false)))
 .nop) .nop)
 .nop))))))))))))))))
 (.seq (.ret (.k (.bool true)))
 .nop))))
noncomputable def fnL : List (Nat × Fn) := [
 (35, .fn 2 [some 0, some 1] rT),
 (49, .fn 1 [some 0] sO),
 (59, .cls .Var (some 35)),
 (77, .fn 3 [some 0, some 1, some 2] rU),
 (91, .fn 1 [some 0] sP),
 (101, .cls .Lit (some 77)),
 (119, .fn 3 [some 0, some 1, some 2] rV),
 (131, .fn 1 [some 0] sQ),
 (141, .cls .App (some 119)),
 (159, .fn 3 [some 0, some 1, some 2] rW),
 (173, .fn 1 [some 0] sR),
 (183, .cls .Lam (some 159)),
 (201, .fn 4 [some 0, some 1, some 2, some 3] rX),
 (211, .fn 1 [some 0, none] sS),
 (221, .cls .Let (some 201)),
 (239, .fn 4 [some 0, some 1, some 2, some 3] rY),
 (242, .cls .Alt (some 239)),
 (260, .fn 5 [some 0, some 1, some 2, some 3, some 4] sT),
 (272, .fn 1 [some 0, none, none] tC),
 (282, .cls .Case (some 260)),
 (300, .fn 3 [some 0, some 1, some 2] rZ),
 (312, .fn 1 [some 0] sU),
 (322, .cls .Con (some 300)),
 (385, .fn 2 [some 0, some 1] sV),
 (414, .fn 3 [some 0, some 1, some 2] sW),
 (424, .cls .PVar (some 414)),
 (441, .fn 2 [some 0, some 1] tD),
 (451, .cls .PWild (some 441)),
 (468, .fn 4 [some 0, some 1, some 2, some 3] sX),
 (478, .cls .PLit (some 468)),
 (495, .fn 4 [some 0, some 1, some 2, some 3] sY),
 (505, .cls .PCon (some 495)),
 (678, .fn 1 [some 0] oV),
 (685, .fn 1 [some 0] r4),
 (692, .fn 1 [some 0, none, none] vu),
 (711, .fn 2 [some 0, some 1] xg),
 (718, .fn 2 [some 0, some 1] xY),
 (725, .fn 2 [some 0, some 1] ya),
 (730, .fn 2 [some 0, some 1, none, none] yo),
 (733, .cls .Constructors (some 711)),
 (751, .fn 4 [some 0, some 1, some 2, some 3] sZ),
 (754, .cls .Leaf (some 751)),
 (768, .cls .Nothing none),
 (786, .fn 4 [some 0, some 1, some 2, some 3] uO),
 (789, .cls .Switch (some 786)),
 (842, .fn 1 [some 0] qo),
 (856, .fn 5 [some 0, some 1, some 2, some 3, some 4] s6),
 (863, .fn 4 [some 0, some 1, some 2, some 3, none, none, none] tE),
 (870, .fn 3 [some 0, some 1, some 2] r6),
 (875, .fn 3 [some 0, some 1, some 2, none] uP),
 (878, .cls .Line (some 856)),
 (889, .fn 1 [some 0] oW),
 (903, .fn 4 [some 0, some 1, some 2, some 3] vv),
 (910, .fn 3 [some 0, some 1, some 2, none, none, none, none] vw),
 (915, .fn 4 [some 0, some 1, some 2, some 3, none, none, none, none, none, none, none, none, none, none] ir_Decider_looked),
 (922, .fn 2 [some 0, some 1] wR),
 (927, .fn 5 [some 0, some 1, some 2, some 3, some 4, none, none, none, none, none, none] ir_Decider_branch),
 (937, .cls .Decider (some 903)),
 (969, .fn 4 [some 0, some 1, some 2, some 3] r8),
 (972, .cls .Row (some 969)),
 (983, .fn 1 [some 0, none, none] vQ),
 (990, .fn 2 [some 0, some 1, none, none, none] qp),
 (1004, .fn 6 [some 0, some 1, some 2, some 3, some 4, some 5] tF),
 (1011, .fn 2 [some 0, some 1, none, none] uQ),
 (1018, .fn 2 [some 0, some 1, none] wh),
 (1023, .fn 2 [some 0, some 1, none, none, none, none, none] ir_Maker_core),
 (1030, .fn 2 [some 0, some 1, none, none, none, none, none, none, none, none] ir_Maker_leaf),
 (1035, .fn 3 [some 0, some 1, some 2] uR),
 (1047, .fn 3 [some 0, some 1, some 2, none, none, none, none, none, none, none, none, none] tG),
 (1050, .cls .Maker (some 1004)),
 (1066, .fn 5 [some 0, some 1, some 2, some 3, some 4, none, none, none, none] ir_matched_by),
 (1073, .fn 5 [some 0, some 1, some 2, some 3, some 4] qq),
 (1080, .fn 1 [some 0, none, none, none, none, none] r9),
 (1094, .fn 9 [some 0, some 1, some 2, some 3, some 4, some 5, some 6, some 7, some 8] vx),
 (1097, .cls .ConInfo (some 1094)),
 (1108, .fn 1 [some 0, none] qr),
 (1124, .fn 2 [some 0, some 1] tH),
 (1131, .fn 2 [some 0, some 1, none] uS),
 (1138, .fn 2 [some 0, some 1, none, none] tI),
 (1141, .cls .Fresh (some 1124)),
 (1152, .fn 2 [some 0, some 1, none, none, none] ir__law_pool),
 (1159, .fn 2 [some 0, some 1, none] s7),
 (1166, .fn 2 [some 0, some 1] rg),
 (1173, .fn 3 [some 0, some 1, some 2, none] vy),
 (1180, .fn 2 [some 0, some 1, none, none, none] tJ),
 (1187, .fn 3 [some 0, some 1, some 2] xG),
 (1192, .fn 5 [some 0, some 1, some 2, some 3, some 4, none, none, none, none, none, none, none, none, none, none, none] wU),
 (1197, .fn 1 [some 0, none, none, none, none, none, none, none, none, none, none, none, none, none, none, none, none, none, none, none, none] ir_law)]
noncomputable def qs (a : Nat) : List (Nat × Fn) → Option Fn
 | [] => none
 | (b, f) :: r => match Nat.beq a b with
  | true => some f
  | false => qs a r
noncomputable def l8 : Lm := ⟨1, [(true, 0), (false, 2), (false, 1), (false, 0)], (.new .Con none (.cons (.bin .Add (.k (.str "row")) (.bi .str (.cons (.v 2) .nil))) (.cons (.bin .Add (.lc false [none, none] (.one 1) (.v 3) .tt (.new .Var none (.cons (.v 1) .nil))) (.ite (.v 1) (.lst false (.cons (.v 0) .nil)) (.lst false .nil))) .nil)))⟩
noncomputable def CQ : Cx := ⟨fun a => qs a fnL, l8⟩
set_option genInjectivity true in
inductive G where
 | frz (o : Obj) (t : Nat)
 | sig (k : Nat)
noncomputable def G.ctorIdx (x : G) : Nat := x.casesOn (fun a a => 0) (fun a => 1)
structure Wd where
 Ψ : Addr → Option G
 μ : List Addr
 τ : List Addr
structure Sta where
 prog : Program
 w : World
 b₀ : Heap
 tabP : Addr
 lamQual : Str
 g : Gl
 K : Frag
 p : Program
 loose : List Str
 mg : Str → Option Value
 mb : Str → Option Value
 kin : K.In b₀
 top : TopRead p loose mg mb b₀
 sys : ∃ o, b₀.get? sysModules = some o
 lamOk : ∀ ps e sc, g.lamIs ps e sc = true → ps = g.lamPs ∧ e = g.lamE ∧ sc = g.lamSc
 glob : ∀ x v, g.glob x = some v → mg x = some v ∨ (mg x = none ∧ mb x = some v)
noncomputable abbrev yC (its : Array Value) (n : Nat) : Obj := { cls := .type "tuple", data := .seq its n }
inductive Ents : List Fld → List DictEntry → List Value → Prop
 | nil : Ents [] [] []
 | cons {f : Fld} {fs : List Fld} {h : Int} {t : Tok} {v : Value} {es : List DictEntry} {vs : List Value} : Ents fs es vs → Ents (f :: fs) (⟨h, .str f.str t, v⟩ :: es) (v :: vs)
structure IsClo (g : Gl) (fd : FuncData) : Prop where
 body : fd.body = .expr g.lamE
 scope : fd.scope = g.lamSc
 params : fd.params = g.lamPs
 glob : fd.globals = mainGlobals
 blt : fd.builtins = builtinsNs
 dflt : fd.defaults = .none
inductive Caps (Ψ : Addr → Option G) (cl : List (Str × Addr)) : List Str → List Value → Prop
 | nil : Caps Ψ cl [] []
 | cons {x : Str} {c : Addr} {o : Obj} {v : Value} {ks : List Str} {vs : List Value} : cl.lookup x = some c → Ψ c = some (.frz o 0) → o.data = .cell (some v) → Caps Ψ cl ks vs → Caps Ψ cl (x :: ks) (v :: vs)
inductive RSeq (W : Wd) (f : Array Value → Nat → Obj) (R : List Value → Prop) : Value → Prop
 | mk (a : Addr) (vs : List Value) (n : Nat) (h : W.Ψ a = some (.frz (f (List.toArray vs) n) 0)) (r : R vs) (z : vs.length ≤ sizeLine) : RSeq W f R (.ref a)
inductive RObj (W : Wd) (t : Nat) (c : Cls) (R : List Value → Prop) : Value → Prop
 | mk (a dx : Addr) (es : List DictEntry) (n : Nat) (vs : List Value) (h : W.Ψ a = some (.frz (instObj c.addr dx) t)) (hd : W.Ψ dx = some (.frz (dictOf es n) 0)) (e : Ents c.flds es vs) (r : R vs) : RObj W t c R (.ref a)
inductive RClo (S : Sta) (W : Wd) (R : List Value → Prop) : Value → Prop
 | mk (a : Addr) (o : Obj) (fd : FuncData) (cd : Addr) (oc : Obj) (vs : List Value) (h : W.Ψ a = some (.frz o 0)) (hc : o.cls = .type "function") (hd : o.data = .func fd) (i : IsClo S.g fd) (e : fd.code = .ref cd) (hoc : W.Ψ cd = some (.frz oc 0))
   (q : ∃ fs t, oc.data = .fields fs ∧ fs[1]? = some (.str fd.qualname t)) (cs : Caps W.Ψ fd.closure S.g.lamKs vs) (r : R vs) : RClo S W R (.ref a)
inductive RCons (P : Value → Prop) (R : List Value → Prop) : List Value → Prop
 | mk (v : Value) (r : List Value) (p : P v) (q : R r) : RCons P R (v :: r)
mutual
noncomputable def Rep (S : Sta) (W : Wd) : D → Value → Prop
 | .none => fun v => v = .none
 | .bool b => fun v => v = .bool b
 | .int i => fun v => ∃ t, v = .int i t
 | .str s => fun v => ∃ t, v = .str s t
 | .list l => RSeq W listOf (RepL S W l)
 | .tup l => RSeq W yC (RepL S W l)
 | .obj t c l => RObj W t c (RepL S W l)
 | .clo l => RClo S W (RepL S W l)
 | .val u => fun v => v = u ∧ handedIn u = true
 | .mref k => fun v => ∃ a, v = .ref a ∧ W.μ[k]? = some a
noncomputable def RepL (S : Sta) (W : Wd) : List D → List Value → Prop
 | [] => fun vs => vs = []
 | d :: l => RCons (Rep S W d) (RepL S W l)
end
structure Wd.Le (W W' : Wd) : Prop where
 frz : ∀ a o t, W.Ψ a = some (.frz o t) → W'.Ψ a = some (.frz o t)
 μ : W.μ <+: W'.μ
 τ : W.τ <+: W'.τ
 told : ∀ a, W.Ψ a ≠ none → W'.Ψ a ≠ none
theorem Wd.Le.refl (W : Wd) : W.Le W := ⟨fun U U U h => h, List.prefix_refl _, List.prefix_refl _, fun U h => h⟩
theorem Wd.Le.trans {W W' W'' : Wd} (a : W.Le W') (b : W'.Le W'') : W.Le W'' :=
 ⟨fun U U U h => b.frz _ _ _ (a.frz _ _ _ h), a.μ.trans b.μ, a.τ.trans b.τ, fun c h => b.told c (a.told c h)⟩
theorem zT {α : Type} {l l' : List α} (h : l <+: l') {i : Nat} {x : α} (e : l[i]? = some x) : l'[i]? = some x := by
 obtain ⟨r, rfl⟩ := h
 rw [List.getElem?_append_left (by
  have := (List.getElem?_eq_some_iff.mp e).1; exact this)]
 exact e
theorem Caps.mono {Ψ Ψ' : Addr → Option G} (h : ∀ a o t, Ψ a = some (.frz o t) → Ψ' a = some (.frz o t)) {ks : List Str} {cl : List (Str × Addr)} {vs : List Value} (c : Caps Ψ cl ks vs) : Caps Ψ' cl ks vs := by
 induction c with
 | nil => exact .nil
 | cons e a b _ ih => exact .cons e (h _ _ _ a) b ih
mutual
theorem Rep.mono {S : Sta} {W W' : Wd} (h : W.Le W') : ∀ {d : D} {v : Value}, Rep S W d v → Rep S W' d v
 | .none, _, r => r
 | .bool _, _, r => r
 | .int _, _, r => r
 | .str _, _, r => r
 | .list _, _, r => by obtain ⟨a, vs, n, f, r, z⟩ := r; exact .mk a vs n (h.frz _ _ _ f) (RepL.mono h r) z
 | .tup _, _, r => by obtain ⟨a, vs, n, f, r, z⟩ := r; exact .mk a vs n (h.frz _ _ _ f) (RepL.mono h r) z
 | .obj _ _ _, _, r => by obtain ⟨a, dx, es, n, vs, f, g, e, r⟩ := r; exact .mk a dx es n vs (h.frz _ _ _ f) (h.frz _ _ _ g) e (RepL.mono h r)
 | .clo _, _, r => by obtain ⟨a, o, fd, cd, oc, vs, f, hc, hd, i, e, ho, q, cs, r⟩ := r; exact .mk a o fd cd oc vs (h.frz _ _ _ f) hc hd i e (h.frz _ _ _ ho) q (cs.mono h.frz) (RepL.mono h r)
 | .val _, _, r => r
 | .mref _, _, r => r.imp fun U z => ⟨z.1, zT h.μ z.2⟩
theorem RepL.mono {S : Sta} {W W' : Wd} (h : W.Le W') : ∀ {l : List D} {vs : List Value}, RepL S W l vs → RepL S W' l vs
 | [], _, r => r
 | _ :: _, _, r => by obtain ⟨v, r, p, q⟩ := r; exact .mk v r (Rep.mono h p) (RepL.mono h q)
end
section
variable {S : Sta} {W : Wd}
theorem RepL.nil : RepL S W [] [] := rfl
theorem RepL.cons {d : D} {l : List D} {v : Value} {vs : List Value} (a : Rep S W d v) (b : RepL S W l vs) : RepL S W (d :: l) (v :: vs) := .mk v vs a b
theorem RepL.length : ∀ {l : List D} {vs : List Value}, RepL S W l vs → l.length = vs.length
 | [], _, r => by cases r; rfl
 | _ :: _, _, r => by obtain ⟨v, r, p, q⟩ := r; exact congrArg (· + 1) (RepL.length q)
inductive RAt (S : Sta) (W : Wd) (d : D) (o : Option Value) : Prop
 | mk (v : Value) (e : o = some v) (r : Rep S W d v)
theorem RepL.at : ∀ {l : List D} {vs : List Value}, RepL S W l vs → ∀ {i : Nat} {d : D}, l[i]? = some d → RAt S W d vs[i]?
 | [], _, r, i, d, e => nn e
 | _ :: _, _, r, 0, d, e => by obtain ⟨v, r, p, q⟩ := r; cases e; exact ⟨v, rfl, p⟩
 | _ :: _, _, r, i + 1, d, e => by obtain ⟨v, r, p, q⟩ := r; exact RepL.at q e
theorem RepL.append : ∀ {l l' : List D} {vs vs' : List Value}, RepL S W l vs → RepL S W l' vs' → RepL S W (l ++ l') (vs ++ vs')
 | [], _, _, _, r, r' => by cases r; exact r'
 | _ :: _, _, _, _, r, r' => by obtain ⟨v, r, p, q⟩ := r; exact .mk v _ p (RepL.append q r')
theorem RepL.one {d : D} {v : Value} (r : Rep S W d v) : RepL S W [d] [v] := .cons r .nil
theorem RepL.take : ∀ {l : List D} {vs : List Value} (i : Nat), RepL S W l vs → RepL S W (l.take i) (vs.take i)
 | _, _, 0, _ => rfl
 | [], _, _ + 1, r => by cases r; rfl
 | _ :: _, _, i + 1, r => by obtain ⟨v, r, p, q⟩ := r; exact .mk v _ p (RepL.take i q)
theorem RepL.drop : ∀ {l : List D} {vs : List Value} (i : Nat), RepL S W l vs → RepL S W (l.drop i) (vs.drop i)
 | _, _, 0, r => r
 | [], _, _ + 1, r => by cases r; rfl
 | _ :: _, _, i + 1, r => by obtain ⟨v, r, p, q⟩ := r; exact RepL.drop i q
theorem RepL.reverse : ∀ {l : List D} {vs : List Value}, RepL S W l vs → RepL S W l.reverse vs.reverse
 | [], _, r => by cases r; exact .nil
 | _ :: _, _, r => by obtain ⟨v, r, p, q⟩ := r; rw [List.reverse_cons, List.reverse_cons]; exact (RepL.reverse q).append (.one p)
theorem RepL.set : ∀ {l : List D} {vs : List Value} (i : Nat) {d : D} {v : Value}, RepL S W l vs → Rep S W d v → RepL S W (l.set i d) (vs.set i v)
 | [], _, i, d, v, r, _ => by cases r; exact .nil
 | _ :: _, _, 0, d, v, r, q => by obtain ⟨_, r, _, q'⟩ := r; exact .mk v r q q'
 | _ :: _, _, i + 1, d, v, r, q => by obtain ⟨u, r, p, q'⟩ := r; exact .mk u _ p (RepL.set i q' q)
end
inductive MLst (S : Sta) (W : Wd) (h : Heap) (k : Nat) (a : Addr) (l : List D) : Prop
 | mk (vs : List Value) (n : Nat) (p : W.Ψ a = some (.sig k)) (o : h.get? a = some (listOf (List.toArray vs) n)) (r : RepL S W l vs) (z : vs.length ≤ sizeLine)
inductive MDic {κ : Type} [DecidableEq κ] (S : Sta) (W : Wd) (h : Heap) (K : PySem.KeyKind S.prog S.w κ) (k : Nat) (a : Addr) (ks : List κ) (l : List D) : Prop
 | mk (o : Obj) (vs : List Value) (p : W.Ψ a = some (.sig k)) (s : (a == sysModules) = false) (g : h.get? a = some o) (d : o.IsDictOf K (ks.zip vs)) (e : ks.length = vs.length) (r : RepL S W l vs) (z : vs.length ≤ sizeLine)
inductive MIns (S : Sta) (W : Wd) (h : Heap) (k : Nat) (a : Addr) (c : Cls) (fs : List Fld) (l : List D) : Prop
 | mk (dx : Addr) (es : List DictEntry) (n : Nat) (vs : List Value) (p : W.Ψ a = some (.sig k)) (g : h.get? a = some (instObj c.addr dx)) (pd : W.Ψ dx = some (.sig k)) (gd : h.get? dx = some (dictOf es n)) (e : Ents fs es vs) (r : RepL S W l vs) (s : ∀ f ∈ fs, f ∈ c.flds)
inductive MFs (S : Sta) (W : Wd) (a : Addr) (ks : List Str) (l : List D) : Prop
 | mk (o : Obj) (vs : List Value) (s : (a == sysModules) = false) (g : W.Ψ a = some (.frz o 0)) (d : o.IsDictOf (strKind S.prog S.w) (ks.zip vs)) (e : ks.length = vs.length) (r : RepL S W l vs) (z : vs.length ≤ sizeLine)
inductive MTab (S : Sta) (W : Wd) (h : Heap) (k : Nat) (a : Addr) : Prop
 | mk (ps : Array Value) (p : W.Ψ a = some (.sig k)) (e : a = S.tabP) (g : h.get? a = some (tabObj ps)) (t : TriplesOk ps.toList) (c : ∀ pos cv, codeAmong pos ps.toList = some cv → ∃ c oc fs t, cv = .ref c ∧ W.Ψ c = some (.frz oc 0) ∧ oc.data = .fields fs ∧ fs[1]? = some (.str S.lamQual t))
noncomputable def IsMO (S : Sta) (W : Wd) (h : Heap) (k : Nat) (a : Addr) : MO → Prop
 | .lst l => MLst S W h k a l
 | .dS ks l => MDic S W h (strKind S.prog S.w) k a ks l
 | .dI ks l => MDic S W h (intKind S.prog S.w) k a ks l
 | .ins c fs l => MIns S W h k a c fs l
 | .fz l => Rep S W (.list l) (.ref a)
 | .fS ks l => MFs S W a ks l
 | .gone => True
 | .tab => MTab S W h k a
structure Ok (S : Sta) (W : Wd) (st : St) (h : Heap) : Prop where
 frz : ∀ a o t, W.Ψ a = some (.frz o t) → h.get? a = some o
 low : ∀ a g, W.Ψ a = some g → ∃ o, h.get? a = some o
 base : ∀ a o, S.b₀.get? a = some o → W.Ψ a = some (.frz o 0)
 len : W.μ.length = st.sto.length
 sto : ∀ k mo, st.sto[k]? = some mo → ∃ a, W.μ[k]? = some a ∧ IsMO S W h k a mo
 tag : ∀ a o t, W.Ψ a = some (.frz o (t + 1)) → W.τ[t]? = some a
 tags : W.τ.length = st.nt
theorem Ok.keep {S : Sta} {W : Wd} {st : St} {h : Heap} (O : Ok S W st h) : ∀ b o, S.b₀.get? b = some o → h.get? b = some o :=
 fun b o e => O.frz b o 0 (O.base b o e)
theorem Ok.kin {S : Sta} {W : Wd} {st : St} {h : Heap} (O : Ok S W st h) : S.K.In h := S.kin.keeps O.keep
theorem Ok.topr {S : Sta} {W : Wd} {st : St} {h : Heap} (O : Ok S W st h) : TopRead S.p S.loose S.mg S.mb h := S.top.keeps O.keep
theorem zX {h : Heap} {a : Addr} (ha : h.objs.size ≤ a) : h.get? a = none := by
 cases q : h.get? a with
 | none => rfl
 | some o => exact absurd (Heap.lt_size q) (Nat.not_lt.mpr ha)
theorem Ok.fresh {S : Sta} {W : Wd} {st : St} {h : Heap} (O : Ok S W st h) {a : Addr} (ha : h.get? a = none) : W.Ψ a = none := by
 cases q : W.Ψ a with
 | none => rfl
 | some g => obtain ⟨o, e⟩ := O.low a g q; rw [ha] at e; cases e
theorem ni {h h' : Heap} {a : Addr} (k : ∀ b o, h.get? b = some o → h'.get? b = some o) (ha : h'.get? a = none) : h.get? a = none := by
 cases q : h.get? a with
 | none => rfl
 | some o => rw [k _ _ q] at ha; cases ha
noncomputable def NotSig (W : Wd) (a : Addr) : Prop := ∀ k, W.Ψ a ≠ some (.sig k)
theorem NotSig.of_none {W : Wd} {a : Addr} (h : W.Ψ a = none) : NotSig W a := fun k e => by rw [h] at e; cases e
theorem NotSig.of_frz {W : Wd} {a : Addr} {o : Obj} {t : Nat} (h : W.Ψ a = some (.frz o t)) : NotSig W a := fun k e => by rw [h] at e; cases e
theorem Ok.alive {S : Sta} {W : Wd} {st : St} {h : Heap} (O : Ok S W st h) {a : Addr} (ha : W.Ψ a ≠ none) : ∃ o, h.get? a = some o := by
 cases q : W.Ψ a with
 | none => exact absurd q ha
 | some g => exact O.low a g q
structure Stp (S : Sta) (W : Wd) (s : Shared) (st' : St) (s' : Shared) (W' : Wd) : Prop where
 eq : ∃ h' tk, s' = { s with heap := h', toks := tk }
 ok : Ok S W' st' s'.heap
 le : W.Le W'
 non : ∀ a o, s.heap.get? a = some o → W.Ψ a = none → W'.Ψ a = none
 keep : ∀ a o, s.heap.get? a = some o → NotSig W a → s'.heap.get? a = some o
theorem Stp.refl {S : Sta} {W : Wd} {st : St} {s : Shared} (O : Ok S W st s.heap) : Stp S W s st s W :=
 ⟨⟨_, _, rfl⟩, O, .refl _, fun U U U h => h, fun U U e U => e⟩
theorem Stp.nsig {S : Sta} {W W' : Wd} {s s' : Shared} {st' : St} (x : Stp S W s st' s' W') {a : Addr} {o : Obj} (ha : s.heap.get? a = some o) (n : NotSig W a) : NotSig W' a := by
 cases q : W.Ψ a with
 | none => exact .of_none (x.non a o ha q)
 | some g => cases g with
  | frz o t => exact .of_frz (x.le.frz _ _ _ q)
  | sig k => exact absurd q (n k)
theorem Stp.trans {S : Sta} {W W' W'' : Wd} {s s' s'' : Shared} {st' st'' : St} (x : Stp S W s st' s' W') (y : Stp S W' s' st'' s'' W'') : Stp S W s st'' s'' W'' := by
 have k := fun a o e n => y.keep a o (x.keep a o e n) (x.nsig e n)
 have nn := fun a o e n => y.non a o (x.keep a o e (.of_none n)) (x.non a o e n)
 obtain ⟨h', tk, rfl⟩ := x.eq
 obtain ⟨h'', tk', rfl⟩ := y.eq
 exact ⟨⟨h'', tk', rfl⟩, y.ok, x.le.trans y.le, nn, k⟩
theorem IsMO.move {S : Sta} {W W' : Wd} {h h' : Heap} {k : Nat} {a : Addr} {mo : MO} (l : W.Le W') (y : ∀ b, W.Ψ b = some (.sig k) → W'.Ψ b = some (.sig k)) (z : ∀ b o, W.Ψ b = some (.sig k) → h.get? b = some o → h'.get? b = some o)
  (x : IsMO S W h k a mo) : IsMO S W' h' k a mo := by
 cases mo with
 | lst _ => obtain ⟨vs, n, p, o, r, q⟩ := x; exact .mk vs n (y _ p) (z _ _ p o) (r.mono l) q
 | dS _ _ => obtain ⟨o, vs, p, q, h1, h2, h3, h4, h5⟩ := x; exact .mk o vs (y _ p) q (z _ _ p h1) h2 h3 (h4.mono l) h5
 | dI _ _ => obtain ⟨o, vs, p, q, h1, h2, h3, h4, h5⟩ := x; exact .mk o vs (y _ p) q (z _ _ p h1) h2 h3 (h4.mono l) h5
 | ins _ _ _ => obtain ⟨dx, es, n, vs, p, h1, h2, h3, h4, h5, h6⟩ := x; exact .mk dx es n vs (y _ p) (z _ _ p h1) (y _ h2) (z _ _ h2 h3) h4 (h5.mono l) h6
 | fz _ => exact Rep.mono l x
 | fS _ _ => obtain ⟨o, vs, q, h1, h2, h3, h4, h5⟩ := x; exact .mk o vs q (l.frz _ _ _ h1) h2 h3 (h4.mono l) h5
 | gone => trivial
 | tab => obtain ⟨ps, p, q, h1, h2, h3⟩ := x; exact .mk ps (y _ p) q (z _ _ p h1) h2 fun pos cv e => by obtain ⟨c, oc, fs, t, e1, e2, e3⟩ := h3 pos cv e; exact ⟨c, oc, fs, t, e1, l.frz _ _ _ e2, e3⟩
theorem Ok.of_keep {S : Sta} {W : Wd} {st : St} {h h' : Heap} (O : Ok S W st h) (k : ∀ a o, h.get? a = some o → W.Ψ a ≠ none → h'.get? a = some o) : Ok S W st h' where
 frz := fun a o t e => k a o (O.frz a o t e) (by rw [e]; exact fun z => by cases z)
 low := fun a g e => (O.low a g e).imp fun o ho => k a o ho (by rw [e]; exact fun z => by cases z)
 base := O.base
 len := O.len
 sto := fun i mo e => by
  obtain ⟨a, e1, e2⟩ := O.sto i mo e
  exact ⟨a, e1, e2.move (.refl _) (fun U h => h) fun b o p q => k b o q (by rw [p]; exact fun z => by cases z)⟩
 tag := O.tag
 tags := O.tags
theorem Stp.quiet {S : Sta} {W : Wd} {st : St} {s : Shared} (O : Ok S W st s.heap) {h' : Heap} {tk : Nat} (k : ∀ a o, s.heap.get? a = some o → h'.get? a = some o) :
  Stp S W s st { s with heap := h', toks := tk } W :=
 ⟨⟨_, _, rfl⟩, O.of_keep (fun a o e U => k a o e), .refl _, fun U U U h => h, fun a o e U => k a o e⟩
theorem Stp.toks {S : Sta} {W : Wd} {st : St} {s : Shared} (O : Ok S W st s.heap) (tk : Nat) : Stp S W s st { s with toks := tk } W :=
 .quiet (h' := s.heap) O (fun U U e => e)
noncomputable def Wd.put (W : Wd) (a : Addr) (g : G) : Wd := { W with Ψ := fun b => if b = a then some g else W.Ψ b }
theorem Wd.put_self (W : Wd) (a : Addr) (g : G) : (W.put a g).Ψ a = some g := by simp [Wd.put]
theorem Wd.put_ne (W : Wd) {a b : Addr} (g : G) (h : b ≠ a) : (W.put a g).Ψ b = W.Ψ b := by simp [Wd.put, h]
theorem Wd.put_le {W : Wd} {a : Addr} {g : G} (h : ∀ o t, W.Ψ a ≠ some (.frz o t)) : W.Le (W.put a g) :=
 ⟨fun b o t e => by
  by_cases q : b = a
  ·subst q; exact absurd e (h o t)
  ·rw [W.put_ne g q]; exact e, List.prefix_refl _, List.prefix_refl _, fun b h => by
  by_cases q : b = a
  ·subst q; rw [W.put_self]; exact fun z => by cases z
  ·rw [W.put_ne g q]; exact h⟩
theorem Ok.put {S : Sta} {W : Wd} {st : St} {h : Heap} (O : Ok S W st h) {a : Addr} {o : Obj} (ha : h.get? a = some o) (hn : W.Ψ a = none) : Ok S (W.put a (.frz o 0)) st h where
 frz := fun b ob t e => by
  by_cases q : b = a
  ·subst q; rw [W.put_self] at e; cases e; exact ha
  ·rw [W.put_ne _ q] at e; exact O.frz b ob t e
 low := fun b g e => by
  by_cases q : b = a
  ·subst q; exact ⟨_, ha⟩
  ·rw [W.put_ne _ q] at e; exact O.low b g e
 base := fun b ob e => by
  by_cases q : b = a
  ·subst q; have := O.base _ _ e; rw [hn] at this; cases this
  ·rw [W.put_ne _ q]; exact O.base b ob e
 len := O.len
 sto := fun i mo e => by
  obtain ⟨b, e1, e2⟩ := O.sto i mo e
  refine ⟨b, e1, e2.move (Wd.put_le fun o t q => by rw [hn] at q; cases q) (fun c hc => ?_) fun U U U e => e⟩
  rw [W.put_ne _ (fun q => by rw [q, hn] at hc; cases hc)]; exact hc
 tag := fun b ob t e => by
  by_cases q : b = a
  ·subst q; rw [W.put_self] at e; cases e
  ·rw [W.put_ne _ q] at e; exact O.tag b ob t e
 tags := O.tags
theorem Stp.tell {S : Sta} {W W' : Wd} {st : St} {s s' : Shared} (x : Stp S W s st s' W') {a : Addr} {o : Obj} (ha : s.heap.get? a = none) (ho : s'.heap.get? a = some o) (hn : W'.Ψ a = none) : Stp S W s st s' (W'.put a (.frz o 0)) :=
 ⟨x.eq, x.ok.put ho hn, x.le.trans (Wd.put_le fun o t q => by rw [hn] at q; cases q), fun b ob e n => by rw [W'.put_ne _ (fun q => by rw [q, ha] at e; cases e)]; exact x.non b ob e n, x.keep⟩
theorem Stp.made {S : Sta} {W : Wd} {st : St} {s : Shared} (O : Ok S W st s.heap) {h' : Heap} {tk : Nat} {a : Addr} {o : Obj} (ha : s.heap.get? a = none) (ho : h'.get? a = some o)
  (k : ∀ a o, s.heap.get? a = some o → h'.get? a = some o) : Stp S W s st { s with heap := h', toks := tk } (W.put a (.frz o 0)) :=
 (Stp.quiet O k).tell ha ho (O.fresh ha)
theorem Stp.push {S : Sta} {W : Wd} {st : St} {s : Shared} (O : Ok S W st s.heap) {tk : Nat} (o : Obj) (hf : o.isFreed = false := by rfl) :
  Stp S W s st { s with heap := s.heap.push o, toks := tk } (W.put s.heap.objs.size (.frz o 0)) :=
 .made O (zX (Nat.le_refl _)) (Heap.get?_push_size _ hf) (fun U U e => Heap.get?_push_of_some _ e)
noncomputable def Wd.cell (W : Wd) (a : Addr) : Wd := { W.put a (.sig W.μ.length) with μ := W.μ ++ [a] }
theorem Wd.cell_self (W : Wd) (a : Addr) : (W.cell a).Ψ a = some (.sig W.μ.length) := W.put_self _ _
theorem Wd.cell_ne (W : Wd) {a b : Addr} (h : b ≠ a) : (W.cell a).Ψ b = W.Ψ b := W.put_ne _ h
theorem Wd.cell_le {W : Wd} {a : Addr} (h : W.Ψ a = none) : W.Le (W.cell a) :=
 ⟨fun b o t e => by
  by_cases q : b = a
  ·subst q; rw [h] at e; cases e
  ·rw [W.cell_ne q]; exact e, List.prefix_append _ _, List.prefix_refl _, fun b h => by
  by_cases q : b = a
  ·subst q; rw [W.cell_self]; exact fun z => by cases z
  ·rw [W.cell_ne q]; exact h⟩
theorem Wd.cell_at (W : Wd) (a : Addr) : (W.cell a).μ[W.μ.length]? = some a := by simp [Wd.cell]
theorem Ok.cell {S : Sta} {W : Wd} {st : St} {h : Heap} (O : Ok S W st h) {a : Addr} (hlt : ∃ o, h.get? a = some o) (hn : W.Ψ a = none) {mo : MO} (x : IsMO S (W.cell a) h st.sto.length a mo) :
  Ok S (W.cell a) ⟨st.sto ++ [mo], st.nt⟩ h where
 frz := fun b ob t e => by
  by_cases q : b = a
  ·subst q; rw [W.cell_self] at e; cases e
  ·rw [W.cell_ne q] at e; exact O.frz b ob t e
 low := fun b g e => by
  by_cases q : b = a
  ·subst q; exact hlt
  ·rw [W.cell_ne q] at e; exact O.low b g e
 base := fun b ob e => by
  by_cases q : b = a
  ·subst q; have := O.base _ _ e; rw [hn] at this; cases this
  ·rw [W.cell_ne q]; exact O.base b ob e
 len := by simp [Wd.cell, O.len]
 sto := fun i mo' e => by
  by_cases q : i < st.sto.length
  ·rw [List.getElem?_append_left q] at e
   obtain ⟨b, e1, e2⟩ := O.sto i mo' e
   refine ⟨b, zT (List.prefix_append _ _) e1, e2.move (Wd.cell_le hn) (fun c hc => ?_) fun U U U e => e⟩
   rw [W.cell_ne (fun q => by rw [q, hn] at hc; cases hc)]; exact hc
  ·have hi : i = st.sto.length := by
    have := (List.getElem?_eq_some_iff.mp e).1
    simp at this; exact Nat.le_antisymm (lin1 [_,_] 0 V0 V1 1 S0 S1 tt this) (lin1 [_,_] 0 V0 V1 1 V0 V1 tt (Nat.le_of_not_lt q))
   subst hi
   simp at e; subst e
   exact ⟨a, by rw [← O.len]; exact W.cell_at a, x⟩
 tag := fun b ob t e => by
  by_cases q : b = a
  ·subst q; rw [W.cell_self] at e; cases e
  ·rw [W.cell_ne q] at e; exact O.tag b ob t e
 tags := O.tags
theorem Stp.cell {S : Sta} {W W' : Wd} {st : St} {s s' : Shared} (x : Stp S W s st s' W') {a : Addr} (ha : s.heap.get? a = none) (hlt : ∃ o, s'.heap.get? a = some o) (hn : W'.Ψ a = none) {mo : MO} (y : IsMO S (W'.cell a) s'.heap st.sto.length a mo) :
  Stp S W s ⟨st.sto ++ [mo], st.nt⟩ s' (W'.cell a) :=
 ⟨x.eq, x.ok.cell hlt hn y, x.le.trans (Wd.cell_le hn), fun b ob e n => by rw [W'.cell_ne (fun q => by rw [q, ha] at e; cases e)]; exact x.non b ob e n, x.keep⟩
theorem Ok.write {S : Sta} {W : Wd} {st : St} {h h' : Heap} (O : Ok S W st h) {k : Nat} {a b : Addr} {mo mo' : MO} (hk : st.sto[k]? = some mo) (ha : W.μ[k]? = some a) (hb : W.Ψ b = some (.sig k)) (hs : Heap.ExtBut b h h') (hb' : ∃ o, h'.get? b = some o) (x : IsMO S W h' k a mo') :
  Ok S W ⟨st.sto.set k mo', st.nt⟩ h' where
 frz := fun c o t e => hs c o (fun q => by rw [q, hb] at e; cases e) (O.frz c o t e)
 low := fun c g e => by
  by_cases q : c = b
  ·subst q; exact hb'
  ·obtain ⟨o, ho⟩ := O.low c g e; exact ⟨o, hs c o q ho⟩
 base := O.base
 len := by simp [O.len]
 sto := fun i m e => by
  by_cases q : i = k
  ·subst q
   rw [List.getElem?_set_self (List.getElem?_eq_some_iff.mp hk).1] at e
   cases e
   exact ⟨a, ha, x⟩
  ·rw [List.getElem?_set_ne (Ne.symm q)] at e
   obtain ⟨c, e1, e2⟩ := O.sto i m e
   refine ⟨c, e1, e2.move (.refl _) (fun U h => h) fun d o p r => ?_⟩
   exact hs d o (fun z => by rw [z, hb] at p; cases p; exact q rfl) r
 tag := O.tag
 tags := O.tags
theorem Stp.write {S : Sta} {W : Wd} {st : St} {s : Shared} (O : Ok S W st s.heap) {h' : Heap} {tk : Nat} {k : Nat} {a b : Addr} {mo mo' : MO} (hk : st.sto[k]? = some mo) (ha : W.μ[k]? = some a) (hb : W.Ψ b = some (.sig k)) (hs : Heap.ExtBut b s.heap h') (hb' : ∃ o, h'.get? b = some o) (x : IsMO S W h' k a mo') :
  Stp S W s ⟨st.sto.set k mo', st.nt⟩ { s with heap := h', toks := tk } W :=
 ⟨⟨_, _, rfl⟩, O.write hk ha hb hs hb' x, .refl _, fun U U U h => h, fun c o e n => hs c o (fun q => by rw [q] at n; exact n k hb) e⟩
theorem Ok.freeze {S : Sta} {W : Wd} {st : St} {h : Heap} (O : Ok S W st h) {k : Nat} {a c : Addr} {o : Obj} {mo mo' : MO} (hk : st.sto[k]? = some mo) (ha : W.μ[k]? = some a) (hc : W.Ψ c = some (.sig k)) (ho : h.get? c = some o)
  (x : IsMO S (W.put c (.frz o 0)) h k a mo') : Ok S (W.put c (.frz o 0)) ⟨st.sto.set k mo', st.nt⟩ h where
 frz := fun b ob t e => by
  by_cases q : b = c
  ·subst q; rw [W.put_self] at e; cases e; exact ho
  ·rw [W.put_ne _ q] at e; exact O.frz b ob t e
 low := fun b g e => by
  by_cases q : b = c
  ·subst q; exact ⟨_, ho⟩
  ·rw [W.put_ne _ q] at e; exact O.low b g e
 base := fun b ob e => by
  by_cases q : b = c
  ·subst q; have := O.base _ _ e; rw [hc] at this; cases this
  ·rw [W.put_ne _ q]; exact O.base b ob e
 len := by simp [O.len, Wd.put]
 sto := fun i m e => by
  by_cases q : i = k
  ·subst q
   rw [List.getElem?_set_self (List.getElem?_eq_some_iff.mp hk).1] at e
   cases e
   exact ⟨a, ha, x⟩
  ·rw [List.getElem?_set_ne (Ne.symm q)] at e
   obtain ⟨d, e1, e2⟩ := O.sto i m e
   refine ⟨d, e1, e2.move (Wd.put_le fun o t z => by rw [hc] at z; cases z) (fun b hb => ?_) fun U U U e => e⟩
   rw [W.put_ne _ (fun z => by rw [z, hc] at hb; cases hb; exact q rfl)]; exact hb
 tag := fun b ob t e => by
  by_cases q : b = c
  ·subst q; rw [W.put_self] at e; cases e
  ·rw [W.put_ne _ q] at e; exact O.tag b ob t e
 tags := O.tags
theorem Stp.freeze {S : Sta} {W : Wd} {st : St} {s : Shared} (O : Ok S W st s.heap) {k : Nat} {a c : Addr} {o : Obj} {mo mo' : MO} (hk : st.sto[k]? = some mo) (ha : W.μ[k]? = some a) (hc : W.Ψ c = some (.sig k)) (ho : s.heap.get? c = some o)
  (x : IsMO S (W.put c (.frz o 0)) s.heap k a mo') : Stp S W s ⟨st.sto.set k mo', st.nt⟩ s (W.put c (.frz o 0)) :=
 ⟨⟨_, _, rfl⟩, O.freeze hk ha hc ho x, Wd.put_le (fun o t z => by rw [hc] at z; cases z), fun b U U n => by rw [W.put_ne _ (fun z => by rw [z, hc] at n; cases n)]; exact n, fun U U e U => e⟩
noncomputable def Wd.tagged (W : Wd) (c : Addr) (o : Obj) : Wd := { W.put c (.frz o (W.τ.length + 1)) with τ := W.τ ++ [c] }
theorem Wd.tagged_self (W : Wd) (c : Addr) (o : Obj) : (W.tagged c o).Ψ c = some (.frz o (W.τ.length + 1)) := W.put_self _ _
theorem Wd.tagged_ne (W : Wd) {c b : Addr} (o : Obj) (h : b ≠ c) : (W.tagged c o).Ψ b = W.Ψ b := W.put_ne _ h
theorem Wd.tagged_le {W : Wd} {c : Addr} {o' : Obj} (h : ∀ o t, W.Ψ c ≠ some (.frz o t)) : W.Le (W.tagged c o') :=
 ⟨fun b o t e => by
  by_cases q : b = c
  ·subst q; exact absurd e (h o t)
  ·rw [W.tagged_ne _ q]; exact e, List.prefix_refl _, List.prefix_append _ _, fun b h => by
  by_cases q : b = c
  ·subst q; rw [W.tagged_self]; exact fun z => by cases z
  ·rw [W.tagged_ne _ q]; exact h⟩
theorem Ok.freezeT {S : Sta} {W : Wd} {st : St} {h : Heap} (O : Ok S W st h) {k : Nat} {a c : Addr} {o : Obj} {mo mo' : MO} (hk : st.sto[k]? = some mo) (ha : W.μ[k]? = some a) (hc : W.Ψ c = some (.sig k)) (ho : h.get? c = some o)
  (x : IsMO S (W.tagged c o) h k a mo') : Ok S (W.tagged c o) ⟨st.sto.set k mo', st.nt + 1⟩ h where
 frz := fun b ob t e => by
  by_cases q : b = c
  ·subst q; rw [W.tagged_self] at e; cases e; exact ho
  ·rw [W.tagged_ne _ q] at e; exact O.frz b ob t e
 low := fun b g e => by
  by_cases q : b = c
  ·subst q; exact ⟨_, ho⟩
  ·rw [W.tagged_ne _ q] at e; exact O.low b g e
 base := fun b ob e => by
  by_cases q : b = c
  ·subst q; have := O.base _ _ e; rw [hc] at this; cases this
  ·rw [W.tagged_ne _ q]; exact O.base b ob e
 len := by simp [O.len, Wd.put, Wd.tagged]
 sto := fun i m e => by
  by_cases q : i = k
  ·subst q
   rw [List.getElem?_set_self (List.getElem?_eq_some_iff.mp hk).1] at e
   cases e
   exact ⟨a, ha, x⟩
  ·rw [List.getElem?_set_ne (Ne.symm q)] at e
   obtain ⟨d, e1, e2⟩ := O.sto i m e
   refine ⟨d, e1, e2.move (Wd.tagged_le fun o t z => by rw [hc] at z; cases z) (fun b hb => ?_) fun U U U e => e⟩
   rw [W.tagged_ne _ (fun z => by rw [z, hc] at hb; cases hb; exact q rfl)]; exact hb
 tag := fun b ob t e => by
  by_cases q : b = c
  ·subst q; rw [W.tagged_self] at e; cases e; simp [Wd.tagged]
  ·rw [W.tagged_ne _ q] at e; exact zT (List.prefix_append _ _) (O.tag b ob t e)
 tags := by simp [Wd.tagged, O.tags]
theorem Stp.freezeT {S : Sta} {W : Wd} {st : St} {s : Shared} (O : Ok S W st s.heap) {k : Nat} {a c : Addr} {o : Obj} {mo mo' : MO} (hk : st.sto[k]? = some mo) (ha : W.μ[k]? = some a) (hc : W.Ψ c = some (.sig k)) (ho : s.heap.get? c = some o)
  (x : IsMO S (W.tagged c o) s.heap k a mo') : Stp S W s ⟨st.sto.set k mo', st.nt + 1⟩ s (W.tagged c o) :=
 ⟨⟨_, _, rfl⟩, O.freezeT hk ha hc ho x, Wd.tagged_le (fun o t z => by rw [hc] at z; cases z), fun b U U n => by rw [W.tagged_ne _ (fun z => by rw [z, hc] at n; cases n)]; exact n, fun U U e U => e⟩
noncomputable abbrev noE : Value → Shared → Prop := fun U U => False
structure Room (n : Nat) (A : Around) : Prop where
 hd : A.handled = none
 depth : A.depth + 4 * n + 4 < recursionLimit
 units : A.units + 40 * n + 40 < cLine
noncomputable def Reads (W : Wd) (env : Env) (h : Heap) (x : Str) (v : Value) : Prop :=
 (env.kindOf x = some .local ∧ ∃ m, h.Ns env.locals m ∧ m x = some v) ∨
 ((env.kindOf x = some .cell ∨ env.kindOf x = some .free) ∧ ∃ c, env.cells.lookup x = some c ∧ h.IsCell c (some v) ∧ NotSig W c)
inductive VAt (S : Sta) (W : Wd) (env : Env) (h : Heap) (x : Str) (d : D) : Prop
 | mk (v : Value) (r : Reads W env h x v) (p : Rep S W d v)
noncomputable def yb (sc : Scope) (ρ : Rg) (x : Str) : Option D := (ix (zd sc) x).bind (nth ρ)
structure EnvR (S : Sta) (W : Wd) (env : Env) (sc : Scope) (ρ : Rg) (h : Heap) : Prop where
 kind : env.scope.kind = .function
 kl : ∀ x, zO sc x = some .local → env.kindOf x = some .local
 kc : ∀ x, zO sc x = some .cell → env.kindOf x = some .cell
 kf : ∀ x, zO sc x = some .free → env.kindOf x = some .cell ∨ env.kindOf x = some .free
 kg : ∀ x, zO sc x = some .globalImplicit → env.kindOf x = some .globalImplicit
 glob : env.globals = mainGlobals
 blt : env.builtins = builtinsNs
 ns : ∃ m, h.Ns env.locals m
 loc : W.Ψ env.locals = none
 nm : ∀ x k, zO sc x = some k → (x == ("__debug__" : Str)) = false ∧ (x == ("__classdict__" : Str)) = false
 clo : ∀ x, zO sc x = some .cell ∨ zO sc x = some .free → ∃ c, env.cells.lookup x = some c
 vars : ∀ x d, yb sc ρ x = some d → VAt S W env h x d
theorem wi {W : Wd} {h h' : Heap} {a : Addr} {m : Str → Option Value} (k : ∀ a o, h.get? a = some o → NotSig W a → h'.get? a = some o) (n : NotSig W a) (x : h.Ns a m) : h'.Ns a m :=
 by obtain ⟨o, es, ep, e, r⟩ := x; exact ⟨o, es, ep, k _ _ e n, r⟩
theorem Reads.step {S : Sta} {W W' : Wd} {s s' : Shared} {st' : St} {env : Env} {x : Str} {v : Value} (y : Stp S W s st' s' W') (loc : NotSig W env.locals) (r : Reads W env s.heap x v) : Reads W' env s'.heap x v := by
 rcases r with ⟨k, m, hm, hv⟩ | ⟨k, c, hc, ⟨o, ho, hd⟩, hn⟩
 ·exact .inl ⟨k, m, wi y.keep loc hm, hv⟩
 ·exact .inr ⟨k, c, hc, ⟨o, y.keep _ _ ho hn, hd⟩, y.nsig ho hn⟩
theorem EnvR.step {S : Sta} {W W' : Wd} {s s' : Shared} {st' : St} {env : Env} {sc : Scope} {ρ : Rg} (e : EnvR S W env sc ρ s.heap) (y : Stp S W s st' s' W') : EnvR S W' env sc ρ s'.heap :=
 { e with
  ns := e.ns.imp fun U hm => wi y.keep (.of_none e.loc) hm
  loc := by obtain ⟨_, o, _, _, ho, _⟩ := e.ns; exact y.non _ o ho e.loc
  vars := fun x d hx => by obtain ⟨v, r, p⟩ := e.vars x d hx; exact ⟨v, r.step y (.of_none e.loc), p.mono y.le⟩ }
structure Jd where
 S : Sta
 n : Nat
 call : zp
 nw : Nw
inductive PostD (S : Sta) (W : Wd) (s : Shared) (Q : D → St → Prop) (v : Value) (s' : Shared) : Prop
 | mk (d : D) (st' : St) (W' : Wd) (q : Q d st') (y : Stp S W s st' s' W') (r : Rep S W' d v)
inductive PostB (S : Sta) (W : Wd) (s : Shared) (Q : Bool → St → Prop) (b : Bool) (s' : Shared) : Prop
 | mk (st' : St) (W' : Wd) (q : Q b st') (y : Stp S W s st' s' W')
inductive PostL (S : Sta) (W : Wd) (s : Shared) (Q : List D → St → Prop) (vs : List Value) (s' : Shared) : Prop
 | mk (l : List D) (st' : St) (W' : Wd) (q : Q l st') (y : Stp S W s st' s' W') (r : RepL S W' l vs)
section
variable {S : Sta} {W W₁ : Wd} {s s₁ : Shared} {st₁ : St}
theorem PostD.trans {Q : D → St → Prop} (y : Stp S W s st₁ s₁ W₁) : ∀ v s', PostD S W₁ s₁ Q v s' → PostD S W s Q v s'
 | _, _, ⟨d, st, W', q, z, r⟩ => ⟨d, st, W', q, y.trans z, r⟩
theorem PostB.trans {Q : Bool → St → Prop} (y : Stp S W s st₁ s₁ W₁) : ∀ v s', PostB S W₁ s₁ Q v s' → PostB S W s Q v s'
 | _, _, ⟨st, W', q, z⟩ => ⟨st, W', q, y.trans z⟩
end
noncomputable abbrev Wq {α : Type} (S : Sta) (A : Around) (t : Sem α) (R : α → Shared → Prop) (s : Shared) : Prop := wpAny (model S.prog S.w) A t R noE s
structure Here (J : Jd) (A : Around) (env : Env) (sc : Scope) (ρ : Rg) (st : St) (s : Shared) (W : Wd) : Prop where
 hr : Room J.n A
 he : EnvR J.S W env sc ρ s.heap
 O : Ok J.S W st s.heap
theorem Here.step {J : Jd} {A : Around} {env : Env} {sc : Scope} {ρ : Rg} {st st' : St} {s s' : Shared} {W W' : Wd} (H : Here J A env sc ρ st s W) (y : Stp J.S W s st' s' W') : Here J A env sc ρ st' s' W' := ⟨H.hr, H.he.step y, y.ok⟩
structure RE (J : Jd) (sc : Scope) (e : Expr) (x : X) : Prop where
 go : ∀ {ρ : Rg} {st : St} {Q : D → St → Prop} {A : Around} {s : Shared} {W : Wd} {env : Env}, Here J A env sc ρ st s W → (run J.call x).e ρ st Q → Wq J.S A (eval e env) (PostD J.S W s Q) s
structure RT (J : Jd) (sc : Scope) (e : Expr) (x : X) : Prop where
 go : ∀ {ρ : Rg} {st : St} {Q : Bool → St → Prop} {A : Around} {s : Shared} {W : Wd} {env : Env}, Here J A env sc ρ st s W → (run J.call x).t ρ st Q → Wq J.S A (isTrue e env (eval e env)) (PostB J.S W s Q) s
structure RL (J : Jd) (sc : Scope) (es : List Expr) (x : X) : Prop where
 go : ∀ {ρ : Rg} {st : St} {Q : List D → St → Prop} {A : Around} {s : Shared} {W : Wd} {env : Env} (pos : Pos), Here J A env sc ρ st s W → (run J.call x).l ρ st Q → Wq J.S A (spliced (backTo pos (starEach es env))) (fun vs s' => PostL J.S W s Q vs s' ∧ vs.length = es.length) s
section
variable {J : Jd} {sc : Scope}
theorem zb {P : X → Prop} {b : Bool} {x : X} (hb : P .bad) (h : b = true → P x) : P (iff b x) := by
 cases b with
 | true => exact h rfl
 | false => exact hb
theorem yl {P : X → Prop} {α : Type} {o : Option α} {f : α → X} (hb : P .bad) (h : ∀ a, o = some a → P (f a)) : P (opt o f) := by
 cases o with
 | some a => exact h a rfl
 | none => exact hb
theorem zH {e : Expr} : RE J sc e .bad := ⟨fun U q => q.elim⟩
theorem yr {e : Expr} : RT J sc e .bad := ⟨fun U q => q.elim⟩
theorem nj {e : List Expr} : RL J sc e .bad := ⟨fun U U q => q.elim⟩
theorem zB {α : Type} {Mo : Model} {A : Around} {t : Sem α} {P Q : α → Shared → Prop} {s : Shared} (h : wpAny Mo A t P noE s) (f : ∀ a s', P a s' → Q a s') : wpAny Mo A t Q noE s := wpAny_mono h f fun U U x => x
theorem nq {S : Sta} {W : Wd} (v : Value) (h : handedIn v = true) : Rep S W (gO v) v := by
 cases v <;> first | rfl | exact ⟨_, rfl⟩ | exact ⟨rfl, h⟩
theorem Ok.place {S : Sta} {W : Wd} {st : St} {h : Heap} (O : Ok S W st h) {k : Nat} {a : Addr} {mo : MO} (e : st.sto[k]? = some mo) (ha : W.μ[k]? = some a) : IsMO S W h k a mo := by
 obtain ⟨b, e1, e2⟩ := O.sto k mo e
 rw [ha] at e1; cases e1; exact e2
theorem qt {S : Sta} {W : Wd} {st : St} {s : Shared} (O : Ok S W st s.heap) {k : Nat} {l : List D} {a : Addr} {Q : D → St → Prop} (hk : st.sto[k]? = some (.lst l)) (ha : W.μ[k]? = some a) (q : Q (.list l) ⟨st.sto.set k (.fz l), st.nt⟩) :
  PostD S W s Q (.ref a) s := by
 obtain ⟨vs, n, hs, ho, hr, z⟩ := O.place hk ha
 have le : W.Le (W.put a (.frz (listOf vs.toArray n) 0)) := Wd.put_le fun o t z => by rw [hs] at z; cases z
 have rep : Rep S (W.put a (.frz (listOf vs.toArray n) 0)) (.list l) (.ref a) := .mk a vs n (Wd.put_self ..) (hr.mono le) z
 exact ⟨_, _, _, q, .freeze O hk ha hs ho rep, rep⟩
theorem rh {S : Sta} {W : Wd} {env : Env} {x : Str} {pos : Pos} {v : Value} {A : Around} {s : Shared} {Q : Value → Shared → Prop} (hk : env.scope.kind = .function) (r : Reads W env s.heap x v)
  (h : (x == ("__debug__" : Str)) = false ∧ (x == ("__classdict__" : Str)) = false) (q : Q v s) : Wq S A (eval (.Name x pos) env) Q s := by
 refine wpAny_Name ?_ h.1
 rcases r with ⟨k, m, hm, hv⟩ | ⟨k | k, c, hc', hi, hn⟩
 ·exact wpAny_loadName_local hk k hm hv q
 ·exact wpAny_loadName_cell hk k hc' hi q
 ·exact wpAny_loadName_free hk k hc' hi q h.2
theorem jm {S : Sta} {W : Wd} {st : St} {s : Shared} (O : Ok S W st s.heap) {d : D} {v : Value} {Q : D → St → Prop} (r : Rep S W d v) (q : gN d st Q) : PostD S W s Q v s := by
 cases d with
 | mref k =>
  obtain ⟨a, rfl, ha⟩ := r
  have q : ofO st.sto[k]? _ := q
  cases hm : st.sto[k]? with
  | none => rw [hm] at q; exact q.elim
  | some mo =>
   rw [hm] at q
   cases mo with
   | lst l => exact qt O hm ha (by have q : yi k (.fz l) st _ := q; rw [yB] at q; exact q)
   | fz l => exact ⟨_, _, W, q, .refl O, O.place hm ha⟩
   | _ => exact ⟨_, _, W, q, .refl O, ⟨a, rfl, ha⟩⟩
 | _ => exact ⟨_, _, W, q, .refl O, r⟩
theorem uC {ρ : Rg} {i : Nat} {Q : D → Prop} (h : rd ρ i Q) : ∃ d, nth ρ i = some d ∧ Q d := by
 have h : (match nth ρ i with | some d => Q d | none => False) := h
 split at h
 ·exact ⟨_, by assumption, h⟩
 ·exact h.elim
end
section
variable {J : Jd} {sc : Scope}
theorem jn {x : Str} {pos : Pos} {i : Nat} {k : NameKind} (hi : ix (zd sc) x = some i) (hk : zO sc x = some k) : RE J sc (.Name x pos) (.v i) := by
 refine ⟨@fun ρ st Q A s W env H q => ?_⟩
 refine hid fun hG => ?_
 obtain ⟨d, e, q⟩ := uC q
 obtain ⟨v, r, p⟩ := H.he.vars x d (by unfold yb; rw [hi]; exact e)
 refine hG ?_
 exact rh H.he.kind r (H.he.nm x _ hk) ⟨d, st, W, q, .refl H.O, p⟩
theorem jo {x : Str} {pos : Pos} {i : Nat} {k : NameKind} (hi : ix (zd sc) x = some i) (hk : zO sc x = some k) : RE J sc (.Name x pos) (.z i) := by
 refine ⟨@fun ρ st Q A s W env H q => ?_⟩
 refine hid fun hG => ?_
 obtain ⟨d, e, q⟩ := uC q
 obtain ⟨v, r, p⟩ := H.he.vars x d (by unfold yb; rw [hi]; exact e)
 refine hG ?_
 exact rh H.he.kind r (H.he.nm x _ hk) (jm H.O p q)
theorem l9 {x : Str} {pos : Pos} : RE J sc (.Name x pos) (jS J.S.g sc x pos) := by
 refine yl zH fun k hk => ?_
 have loc : RE J sc (.Name x pos) (opt (ix (zd sc) x) fun i => match J.S.g.frz pos with | true => .z i | false => .v i) := by
  refine yl zH fun i hi => ?_
  cases J.S.g.frz pos with
  | true => exact jo hi hk
  | false => exact jn hi hk
 cases k with
 | globalImplicit =>
  refine yl zH fun v hv => zb zH fun hh => ?_
  refine ⟨@fun ρ st Q A s W env H q => ?_⟩
  have T := H.O.topr
  have R : PostD J.S W s Q v s := ⟨_, st, W, q, .refl H.O, nq v hh⟩
  refine Name_function_global H.he.kind (H.he.kg x hk) ?_ (H.he.nm x _ hk).1
  rcases J.S.glob x v hv with h | ⟨h, h'⟩
  ·exact loadGlobal_global (H.he.glob ▸ T.g) h R
  ·exact loadGlobal_builtin (H.he.glob ▸ T.g) h (H.he.blt ▸ T.b) h' R
 | globalExplicit => exact zH
 | «local» => exact loc
 | cell => exact loc
 | free => exact loc
theorem zm {e : Expr} {rest : List Expr} {env : Env} (h : isStarred e = false) : starEach (e :: rest) env = (false, eval e env) :: starEach rest env := by
 cases e <;> first | rfl | cases h
theorem nr : RL J sc [] .nil := by
 refine ⟨@fun ρ st Q A s W env pos H q => ?_⟩
 exact wpAny_items_nil ⟨⟨_, st, W, q, .refl H.O, .nil⟩, rfl⟩
theorem la {e : Expr} {es : List Expr} {x y : X} (h : RE J sc e x) (hs : RL J sc es y) (ne : isStarred e = false) : RL J sc (e :: es) (.cons x y) := by
 refine ⟨@fun ρ st Q A s W env pos H q => ?_⟩
 refine wpAny_items_cons (zB (h.go H q) ?_) (zm ne)
 intro v s₁ hz2
 refine hid fun hG => ?_
 obtain ⟨d, st₁, W₁, q, y₁, r₁⟩ := hz2
 refine hG ?_
 refine zB (hs.go pos (H.step y₁) q) ?_
 intro vs s₂ hz2
 refine hid fun hG => ?_
 obtain ⟨⟨l, st₂, W₂, q, y₂, r₂⟩, z⟩ := hz2
 refine hG ?_
 exact ⟨⟨_, st₂, W₂, q, y₁.trans y₂, .cons (r₁.mono y₂.le) r₂⟩, congrArg (· + 1) z⟩
theorem lg {c : Const} {k : Nat} {pos : Pos} {d : D} (h : ∀ {S : Sta} {W : Wd} {st : St} {A : Around} {s : Shared} {env : Env} {Q : Value → Shared → Prop}, Ok S W st s.heap → (∀ v tk, Rep S W d v → Q v { s with toks := tk }) → Wq S A (eval (.Constant c k pos) env) Q s) : RE J sc (.Constant c k pos) (.k d) :=
 ⟨@fun ρ st Q A s W env H q => h H.O fun v tk r => ⟨d, st, W, q, .toks H.O tk, r⟩⟩
theorem nu {c : Const} {k : Nat} {pos : Pos} : RE J sc (.Constant c k pos) (match c with
   | .none => .k .none
   | .bool b => .k (.bool b)
   | .int i => .k (.int i)
   | .str s => .k (.str s)
   | _ => .bad) := by
 cases c with
 | none => exact lg fun O q => wpAny_Constant_none (q _ _ rfl)
 | bool b => exact lg fun O q => wpAny_Constant_bool (q _ _ rfl)
 | int i => exact lg fun O q => wpAny_mkInt (q _ _ ⟨_, rfl⟩)
 | str x => exact lg fun O q => wpAny_Constant_str (q _ _ ⟨_, rfl⟩)
 | _ => exact zH
theorem lh {S : Sta} {W : Wd} {st : St} {s : Shared} {own : Bool} {l : List D} {vs : List Value} {h' : Heap} {tk : Nat} {a : Addr} {n : Nat} {Q : D → St → Prop} (O : Ok S W st s.heap) (q : tS own l st Q) (r : RepL S W l vs) (z : vs.length ≤ sizeLine)
  (ha : s.heap.get? a = none) (ho : h'.get? a = some (listOf vs.toArray n)) (k : ∀ b o, s.heap.get? b = some o → h'.get? b = some o) : PostD S W s Q (.ref a) { s with heap := h', toks := tk } := by
 have y₀ : Stp S W s st { s with heap := h', toks := tk } W := .quiet O k
 have fr := O.fresh ha
 cases own with
 | true =>
  have q : uK (.lst l) st Q := q
  rw [xF] at q
  exact ⟨_, _, _, q, y₀.cell ha ⟨_, ho⟩ fr (.mk vs n (by rw [← O.len]; exact W.cell_self a) ho (r.mono (Wd.cell_le fr)) z), ⟨a, rfl, by rw [← O.len]; exact W.cell_at a⟩⟩
 | false =>
  have y := y₀.tell ha ho fr
  exact ⟨_, _, _, q, y, .mk a vs n (Wd.put_self ..) (r.mono y.le) z⟩
theorem oX {S : Sta} {W : Wd} {st : St} {s : Shared} {own : Bool} {l : List D} {vs : List Value} {Q : D → St → Prop} (O : Ok S W st s.heap) (q : tS own l st Q) (r : RepL S W l vs) (z : vs.length ≤ sizeLine) :
  PostD S W s Q (.ref s.heap.objs.size) { s with heap := s.heap.push (listOf vs.toArray 0) } :=
 lh (n := 0) (tk := s.toks) (h' := s.heap.push (listOf vs.toArray 0)) O q r z (zX (Nat.le_refl _)) (Heap.get?_push_size _ rfl) (fun U U e => Heap.get?_push_of_some _ e)
theorem uT {n : Nat} (h : n < 1000) : n ≤ sizeLine := Nat.le_trans (Nat.le_of_lt h) (by decide)
theorem lj {es : List Expr} {x : X} {own : Bool} {pos : Pos} (h : RL J sc es x) (hz : es.length < 1000) : RE J sc (.List es pos) (.lst own x) := by
 refine ⟨@fun ρ st Q A s W env H q => wpAny_List (zB (h.go pos H q) ?_)⟩
 intro vs s₁ hz2
 refine hid fun hG => ?_
 obtain ⟨⟨l, st₁, W₁, q, y₁, r₁⟩, z⟩ := hz2
 refine hG ?_
 have z := uT (z ▸ hz)
 exact ⟨z, .trans y₁ _ _ (oX y₁.ok q r₁ z)⟩
theorem jq {es : List Expr} {x : X} {k : Nat} {pos : Pos} (h : RL J sc es x) (hz : es.length < 1000) : RE J sc (.Tuple es k pos) (.tup x) := by
 refine ⟨@fun ρ st Q A s W env H q => wpAny_Tuple (zB (h.go pos H q) ?_)⟩
 intro vs s₁ hz2
 refine hid fun hG => ?_
 obtain ⟨⟨l, st₁, W₁, q, y₁, r₁⟩, z⟩ := hz2
 refine hG ?_
 have z := uT (z ▸ hz)
 have y := Stp.push (tk := s₁.toks) y₁.ok (yC vs.toArray 0)
 exact ⟨z, _, _, _, q, y₁.trans y, .mk _ vs 0 (Wd.put_self ..) (r₁.mono y.le) z⟩
theorem two {a b : Expr} {x y : X} {F : D → D → St → Prop} {t : Value → Value → Sem Value} {R : Value → Shared → Prop} {ρ : Rg} {st : St} {A : Around} {s : Shared} {W : Wd} {env : Env} (ha : RE J sc a x) (hb : RE J sc b y) (H : Here J A env sc ρ st s W)
  (q : (run J.call x).e ρ st fun u st => (run J.call y).e ρ st fun v st => F u v st) (hf : ∀ {u v m n st' s' W'}, Stp J.S W s st' s' W' → Rep J.S W' u m → Rep J.S W' v n → F u v st' → Wq J.S A (t m n) R s') :
  Wq J.S A (eval a env) (fun m s₁ => Wq J.S A (eval b env) (fun n s₂ => Wq J.S A (t m n) R s₂) s₁) s := by
 refine zB (ha.go H q) ?_
 rintro u s₁ ⟨_, _, W₁, q, y₁, r₁⟩
 refine zB (hb.go (H.step y₁) q) ?_
 rintro v s₂ ⟨_, _, W₂, q, y₂, r₂⟩
 exact hf (y₁.trans y₂) (r₁.mono y₂.le) r₂ q
structure RV2 (J : Jd) (f : D → D → St → (D → Prop) → Prop) (t : Value → Value → Sem Value) : Prop where
 go : ∀ {x y : D} {st : St} {Q : D → St → Prop} {A : Around} {s : Shared} {W : Wd} {u v : Value}, Room J.n A → Ok J.S W st s.heap → Rep J.S W x u → Rep J.S W y v → f x y st (fun d => Q d st) → Wq J.S A (t u v) (PostD J.S W s Q) s
theorem nv {op : Operator} {a b : Expr} {x y : X} {pos : Pos} (ha : RE J sc a x) (hb : RE J sc b y) (hf : RV2 J (l0 op) (binaryOp op)) : RE J sc (.BinOp a op b pos) (.bin op x y) :=
 ⟨@fun ρ st Q A s W env H q => wpAny_BinOp (two ha hb H q fun y ru rv q => zB (hf.go H.hr y.ok ru rv q) (PostD.trans y))⟩
inductive LAt (S : Sta) (W : Wd) (h : Heap) (Q : List D → Prop) : Value → Prop
 | mk (a : Addr) (l : List D) (vs : List Value) (n : Nat) (g : h.get? a = some (listOf (List.toArray vs) n)) (r : RepL S W l vs) (z : vs.length ≤ sizeLine) (q : Q l) : LAt S W h Q (.ref a)
theorem zL {α : Type} {x : Option α} {Q : α → Prop} (h : ofO x Q) : ∃ a, x = some a ∧ Q a := by
 cases x with
 | some a => exact ⟨a, rfl, h⟩
 | none => exact h.elim
theorem y0 {S : Sta} {W : Wd} {st : St} {h : Heap} {d : D} {v : Value} {Q : List D → Prop} (q : vd d st Q) (O : Ok S W st h) (r : Rep S W d v) : LAt S W h Q v := by
 cases d with
 | list l => obtain ⟨a, vs, n, f, r, z⟩ := r; exact .mk a l vs n (O.frz _ _ _ f) r z q
 | mref k =>
  obtain ⟨a, rfl, ha⟩ := r
  obtain ⟨mo, hm, q⟩ := zL q
  have P := O.place hm ha
  cases mo with
  | lst l => obtain ⟨vs, n, _, o, r, z⟩ := P; exact .mk a l vs n o r z q
  | fz l => obtain ⟨a, vs, n, f, r, z⟩ := P; exact .mk a l vs n (O.frz _ _ _ f) r z q
  | _ => exact q.elim
 | _ => exact q.elim
theorem f6 {i j : Int} (h : 0 < j ∧ j < 2 ^ 40) : Builtin.divisionGoesByPylong i j = false := by
 refine PyProof.noPylong_of_log2 ?_
 have h1 : j.natAbs < 2 ^ 40 := by omega
 have h2 : j.natAbs ≠ 0 := by omega
 have := (Nat.log2_lt h2).mpr h1
 exact lin1 [_] 0 S0 (.n 9000) 1 S0 (.n 40) tt this
inductive I2 (S : Sta) (W : Wd) (Q : Int → Int → Prop) : Value → Value → Prop
 | mk (i j : Int) (t t' : Tok) (q : Q i j) : I2 S W Q (.int i t) (.int j t')
theorem zh {S : Sta} {W : Wd} {x y : D} {u v : Value} {Q : Int → Int → Prop} (q : vM x y Q) (rx : Rep S W x u) (ry : Rep S W y v) : I2 S W Q u v := by
 cases x with
 | int i =>
  cases y with
  | int j => obtain ⟨t, rfl⟩ := rx; obtain ⟨t', rfl⟩ := ry; exact .mk i j t t' q
  | _ => exact q.elim
 | _ => exact q.elim
theorem jr {x y : D} {st : St} {Q : D → St → Prop} {A : Around} {s : Shared} {W : Wd} {u v : Value} (O : Ok J.S W st s.heap) (rx : Rep J.S W x u) (ry : Rep J.S W y v) (q : gM x y st fun d => Q d st) : Wq J.S A (binaryOp .Add u v) (PostD J.S W s Q) s := by
 obtain ⟨a, l, vs, n, ha, hl, z, q⟩ := y0 q O rx
 obtain ⟨b, m, us, k, hb, hm, z', q⟩ := y0 q O ry
 refine concat_meets ⟨_, ha, rfl⟩ ⟨_, hb, rfl⟩ noFill_list_add seq_list_add PySem.F.slot_list_add PySem.F.entry_list_add (PySem.F.args_list_add_2 _ _) (list_addW a b vs.toArray us.toArray n k none none #[] #[] (by simpa [← hl.length, ← hm.length] using q.1)) ⟨ha, hb, ?_⟩
 have y := Stp.push (tk := s.toks) O (listOf (vs ++ us).toArray 0)
 rw [show vs.toArray ++ us.toArray = (vs ++ us).toArray by simp]
 exact ⟨_, _, _, q.2, y, .mk _ (vs ++ us) 0 (Wd.put_self ..) ((hl.append hm).mono y.le) (by rw [List.length_append, ← hl.length, ← hm.length]; exact q.1)⟩
theorem jt {op : Operator} : RV2 J (l0 op) (binaryOp op) := by
 refine ⟨@fun x y st Q A s W u v hr O rx ry q => ?_⟩
 have R : ∀ {i : Int} {t : Tok} {tk : Nat}, Q (.int i) st → PostD J.S W s Q (.int i t) { s with toks := tk } := fun q => ⟨_, _, W, q, .toks O _, ⟨_, rfl⟩⟩
 cases op with
 | Add =>
  cases x with
  | int i =>
   cases y with
   | int j => obtain ⟨t, rfl⟩ := rx; obtain ⟨t', rfl⟩ := ry; exact P.add_int (R q)
   | _ => exact q.elim
  | str a =>
   cases y with
   | str b => obtain ⟨t, rfl⟩ := rx; obtain ⟨t', rfl⟩ := ry; exact PyProof.Rows.add_str (fun t' tk => ⟨_, _, W, q.2, .toks O _, ⟨_, rfl⟩⟩) q.1
   | _ => exact q.elim
  | _ => exact jr O rx ry q
 | Sub => obtain ⟨i, j, t, t', q⟩ := zh q rx ry; exact P.sub_int (R q)
 | Mult => obtain ⟨i, j, t, t', q⟩ := zh q rx ry; exact P.mul_int (R q.2) (q.1.elim (fun h => .of_left (intBits_le h)) fun h => .of_right (intBits_le h))
 | FloorDiv => obtain ⟨i, j, t, t', q⟩ := zh q rx ry; exact floordiv_int (by omega) (R q.2) (.inl (f6 q.1))
 | Mod => obtain ⟨i, j, t, t', q⟩ := zh q rx ry; exact mod_int (by omega) (R q.2)
 | Pow => obtain ⟨i, j, t, t', ⟨rfl, rfl⟩, q⟩ := zh q rx ry; exact pow_int_small (by decide) (by decide) (by decide) (R q)
 | _ => exact q.elim
end
section
open PySem.SeqAt
inductive EqL (f : D → D → Option Bool) (l m : List D) : Bool → Prop
 | mk (e : Nat → Bool) (h : ∀ j x y, l[j]? = some x → m[j]? = some y → f x y = some (e j)) : EqL f l m ((List.range (min l.length m.length)).all e)
theorem z7 {α β : Type} {x : Option α} {f : α → Option β} {b : β} (h : x.bind f = some b) : ∃ a, x = some a ∧ f a = some b := Option.bind_eq_some_iff.mp h
theorem wj {f : D → D → Option Bool} : ∀ {l m : List D} {b : Bool}, eqL f l m = some b → EqL f l m b
 | [], m, b, h => by cases h; rw [show true = (List.range (min ([] : List D).length m.length)).all fun U => true by simp]; exact .mk _ fun j x y h => nn h
 | x :: l, [], b, h => by cases h; exact .mk (fun U => true) fun j x y U h => nn h
 | x :: l, y :: m, b, h => by
  obtain ⟨a, ha, h⟩ := z7 h
  obtain ⟨c, hc, h⟩ := z7 h
  cases h
  obtain ⟨e, h1⟩ := wj hc
  rw [show (a && (List.range (min l.length m.length)).all e) = (List.range (min (x :: l).length (y :: m).length)).all fun j => match j with | 0 => a | j + 1 => e j by
   simp only [List.length_cons, Nat.succ_min_succ, List.range_succ_eq_map, List.all_cons, List.all_map]; rfl]
  refine .mk _ fun j p q hp hq => ?_
  cases j with
  | zero => cases hp; cases hq; exact ha
  | succ j => exact h1 j p q hp hq
inductive EqV (n : Nat) : D → D → Bool → Prop
 | none : EqV n .none .none true
 | int (i j : Int) : EqV n (.int i) (.int j) (i == j)
 | str (x y : Str) : EqV n (.str x) (.str y) (x == y)
 | list (l m : List D) (b : Bool) (h : (if l.length = m.length then eqL (eqD n) l m else some false) = some b) : EqV n (.list l) (.list m) b
 | tup (l m : List D) (b : Bool) (h : eqL (eqD n) l m = some b) : EqV n (.tup l) (.tup m) (b && l.length == m.length)
 | obj (t u : Nat) (l m : List D) (h : ¬ (t = 0 ∨ u = 0)) : EqV n (.obj t .Con l) (.obj u .Con m) (t == u)
theorem s8 {n : Nat} {d e : D} {b : Bool} (h : eqD (n + 1) d e = some b) : EqV n d e b := by
 cases d with
 | none => cases e with
  | none => cases h; exact .none
  | _ => exact nn h
 | int i => cases e with
  | int j => cases h; exact .int i j
  | _ => exact nn h
 | str i => cases e with
  | str j => cases h; exact .str i j
  | _ => exact nn h
 | list l => cases e with
  | list m => exact .list l m b h
  | _ => exact nn h
 | tup l => cases e with
  | tup m => obtain ⟨c, hc, h⟩ := z7 h; cases h; exact .tup l m c hc
  | _ => exact nn h
 | obj t c l => cases c with
  | Con => cases e with
   | obj u c m => cases c with
    | Con =>
     have h : (if t = 0 ∨ u = 0 then none else some (t == u)) = some b := h
     by_cases z : t = 0 ∨ u = 0
     ·rw [if_pos z] at h; exact nn h
     ·rw [if_neg z] at h; cases h; exact .obj t u l m z
    | _ => exact nn h
   | _ => exact nn h
  | _ => exact nn h
 | _ => exact nn h
section
variable {S : Sta} {W : Wd}
theorem s9 {a : Addr} {vs us : List Value} {n m t u : Nat} (h : W.Ψ a = some (.frz (listOf vs.toArray n) t)) (k : W.Ψ a = some (.frz (listOf us.toArray m) u)) : vs = us := by
 rw [h] at k; cases k; rfl
theorem rj {a : Addr} {vs us : List Value} {n m t u : Nat} (h : W.Ψ a = some (.frz (yC vs.toArray n) t)) (k : W.Ψ a = some (.frz (yC us.toArray m) u)) : vs = us := by
 rw [h] at k; cases k; rfl
theorem uU {n : Nat} (H : ∀ {d e : D} {b : Bool} {v : Value}, eqD n d e = some b → Rep S W d v → Rep S W e v → b = true) {l m : List D} {c : Bool} {vs : List Value} (h : eqL (eqD n) l m = some c) (p : RepL S W l vs) (q : RepL S W m vs) : c = true := by
 obtain ⟨e, h1⟩ := wj h
 refine List.all_eq_true.mpr fun j hj => ?_
 have hj := Nat.lt_min.mp (List.mem_range.mp hj)
 have a1 := List.getElem?_eq_getElem hj.1
 have a2 := List.getElem?_eq_getElem hj.2
 obtain ⟨v, e1, p'⟩ := p.at a1
 obtain ⟨v', e2, q'⟩ := q.at a2
 rw [e1] at e2; cases e2
 exact H (h1 j _ _ a1 a2) p' q'
theorem vR : ∀ (n : Nat) {d e : D} {b : Bool} {v : Value}, eqD n d e = some b → Rep S W d v → Rep S W e v → b = true
 | 0, _, _, _, _, h, _, _ => nn h
 | n + 1, d, e, b, v, h, p, q => by
  cases s8 h with
  | none => rfl
  | int i j => obtain ⟨t, rfl⟩ := p; obtain ⟨u, e⟩ := q; cases e; exact beq_self_eq_true _
  | str i j => obtain ⟨t, rfl⟩ := p; obtain ⟨u, e⟩ := q; cases e; exact beq_self_eq_true _
  | list l m b h' =>
   refine hid fun hG => ?_
   obtain ⟨a, vs, k, f, p, _⟩ := p
   obtain ⟨_, us, k', g, q, _⟩ := q
   refine hG ?_
   cases s9 f g
   rw [if_pos (p.length.trans q.length.symm)] at h'
   exact uU (vR n) h' p q
  | tup l m c h' =>
   refine hid fun hG => ?_
   obtain ⟨a, vs, k, f, p, _⟩ := p
   obtain ⟨_, us, k', g, q, _⟩ := q
   refine hG ?_
   cases rj f g
   rw [uU (vR n) h' p q, p.length, q.length]
   exact beq_self_eq_true _
  | obj t u l m h =>
   refine hid fun hG => ?_
   obtain ⟨a, dx, es, k, vs, f, _⟩ := p
   obtain ⟨_, dx', es', k', vs', g, _⟩ := q
   refine hG ?_
   rw [f] at g; cases g
   exact beq_self_eq_true _
structure Sta.ConEq (S : Sta) : Prop where
 eq : ∀ (A : Around) (s : Shared) (x y dx dy : Addr), (∀ b o, S.b₀.get? b = some o → s.heap.get? b = some o) → s.heap.get? x = some (instObj (Cls.addr .Con) dx) → s.heap.get? y = some (instObj (Cls.addr .Con) dy) → x ≠ y → A.units + 1 < cLine → RcAt A s (.ref x) (.ref y) false
variable {st : St} {s : Shared}
theorem zI {h : Heap} {a : Addr} {vs : List Value} {n : Nat} (e : h.get? a = some (listOf vs.toArray n)) : h.IsList a vs.toArray := ⟨_, e, rfl, n, rfl⟩
theorem zW {h : Heap} {a : Addr} {vs : List Value} {n : Nat} (e : h.get? a = some (yC vs.toArray n)) : h.IsTuple a vs.toArray := ⟨_, e, rfl, n, rfl⟩
theorem nz {vs : List Value} {j : Nat} {v : Value} (h : j < vs.toArray.size) (e : vs[j]? = some v) : vs.toArray[j] = v := by simpa [h] using (List.getElem?_eq_some_iff.mp e).2
theorem pb {n : Nat} (H : ∀ {A : Around} {d e : D} {b : Bool} {u v : Value}, A.units + n + 1 < cLine → eqD n d e = some b → Rep S W d u → Rep S W e v → EqAt A s u v b) {A : Around} (hu : A.units + n + 2 < cLine) {l m : List D} {e : Nat → Bool} (h1 : ∀ j x y, l[j]? = some x → m[j]? = some y → eqD n x y = some (e j)) {vs us : List Value} (p : RepL S W l vs) (q : RepL S W m us) :
  ∀ j (h1 : j < vs.toArray.size) (h2 : j < us.toArray.size), EqAt A.in1 s vs.toArray[j] us.toArray[j] (e j) := by
 intro j j1 j2
 have a1 := List.getElem?_eq_getElem (show j < l.length by rw [p.length]; exact j1)
 have a2 := List.getElem?_eq_getElem (show j < m.length by rw [q.length]; exact j2)
 refine hid fun hG => ?_
 obtain ⟨v, e1, p'⟩ := p.at a1
 obtain ⟨v', e2, q'⟩ := q.at a2
 refine hG ?_
 rw [nz j1 e1, nz j2 e2]
 exact H (show A.units + 1 + n + 1 < cLine by exact lin1 [_,_,_] 0 (.a (.a (.a S0 V1) U1) U1) V2 1 (.a (.a (.a V0 V1) U2) U1) V2 tt hu) (h1 j _ _ a1 a2) p' q'
theorem rk {n : Nat} (H : ∀ {A : Around} {d e : D} {b : Bool} {u v : Value}, A.units + n + 1 < cLine → eqD n d e = some b → Rep S W d u → Rep S W e v → EqAt A s u v b) {A : Around} {l m : List D} {b : Bool} {x y : Addr} {vs us : List Value} {k j : Nat} (hu : A.units + n + 2 < cLine)
  (h : (if l.length = m.length then eqL (eqD n) l m else some false) = some b) (hx : s.heap.get? x = some (listOf vs.toArray k)) (hy : s.heap.get? y = some (listOf us.toArray j)) (p : RepL S W l vs) (q : RepL S W m us) : RcAt A s (.ref x) (.ref y) b ∧ RcNeAt A s (.ref x) (.ref y) (!b) := by
 by_cases hlen : l.length = m.length
 ·rw [if_pos hlen] at h
  obtain ⟨e, h1⟩ := wj h
  have hsz : vs.toArray.size = us.toArray.size := p.length.symm.trans (hlen.trans q.length)
  have he := pb H hu h1 p q
  rw [← hlen, Nat.min_self, p.length]
  exact ⟨RcAt.lists (zI hx) (zI hy) hsz (by exact lin1 [_,_,_] 0 S0 V1 1 (.a (.a (.a V0 V2) U2) U1) V1 tt hu) he, RcNeAt.lists (zI hx) (zI hy) hsz (by exact lin1 [_,_,_] 0 S0 V1 1 (.a (.a (.a V0 V2) U2) U1) V1 tt hu) he⟩
 ·rw [if_neg hlen] at h
  cases h
  have hsz : (vs.toArray.size != us.toArray.size) = true := by simpa [← p.length, ← q.length] using hlen
  exact ⟨RcAt.lists_lengths (zI hx) (zI hy) hsz (by exact lin1 [_,_,_] 0 S0 V1 1 (.a (.a (.a V0 V2) U2) U1) V1 tt hu), RcNeAt.lists_lengths (zI hx) (zI hy) hsz (by exact lin1 [_,_,_] 0 S0 V1 1 (.a (.a (.a V0 V2) U2) U1) V1 tt hu)⟩
theorem pe {n : Nat} (H : ∀ {A : Around} {d e : D} {b : Bool} {u v : Value}, A.units + n + 1 < cLine → eqD n d e = some b → Rep S W d u → Rep S W e v → EqAt A s u v b) {A : Around} {l m : List D} {b : Bool} {x y : Addr} {vs us : List Value} {k j : Nat} (hu : A.units + n + 2 < cLine)
  (h : eqL (eqD n) l m = some b) (hx : s.heap.get? x = some (yC vs.toArray k)) (hy : s.heap.get? y = some (yC us.toArray j)) (p : RepL S W l vs) (q : RepL S W m us) : RcAt A s (.ref x) (.ref y) (b && l.length == m.length) ∧ RcNeAt A s (.ref x) (.ref y) (!(b && l.length == m.length)) := by
 obtain ⟨e, h1⟩ := wj h
 have he := pb H hu h1 p q
 rw [p.length, q.length]
 exact ⟨RcAt.tuples (zW hx) (zW hy) (by exact lin1 [_,_,_] 0 S0 V1 1 (.a (.a (.a V0 V2) U2) U1) V1 tt hu) he, RcNeAt.tuples (zW hx) (zW hy) (by exact lin1 [_,_,_] 0 S0 V1 1 (.a (.a (.a V0 V2) U2) U1) V1 tt hu) he⟩
theorem ju (hc : S.ConEq) (O : Ok S W st s.heap) {A : Around} {t u : Nat} {a a' dx dx' : Addr} (haa : a ≠ a') (h : ¬ (t = 0 ∨ u = 0)) (f : W.Ψ a = some (.frz (instObj (Cls.addr .Con) dx) t)) (g : W.Ψ a' = some (.frz (instObj (Cls.addr .Con) dx') u)) (hu : A.units + 1 < cLine) : RcAt A s (.ref a) (.ref a') (t == u) := by
 rw [show (t == u) = false by
  rw [beq_eq_false_iff_ne]; rintro rfl
  obtain ⟨t, rfl⟩ : ∃ x, t = x + 1 := ⟨t - 1, by omega⟩
  have := O.tag _ _ _ f; rw [O.tag _ _ _ g] at this; cases this; exact haa rfl]
 exact hc.eq A s a a' dx dx' O.keep (O.frz _ _ _ f) (O.frz _ _ _ g) haa hu
theorem uV (hc : S.ConEq) (O : Ok S W st s.heap) : ∀ (n : Nat) {A : Around} {d e : D} {b : Bool} {u v : Value}, A.units + n + 1 < cLine → eqD n d e = some b → Rep S W d u → Rep S W e v → EqAt A s u v b
 | 0, _, _, _, _, _, _, _, h, _, _ => nn h
 | n + 1, A, d, e, b, u, v, hu, h₀, p₀, q₀ => by
  by_cases huv : u = v
  ·subst huv; rw [vR _ h₀ p₀ q₀]; exact EqAt.same _
  cases s8 h₀ with
  | none => cases p₀; cases q₀; exact EqAt.same _
  | int i j => obtain ⟨t, rfl⟩ := p₀; obtain ⟨t', rfl⟩ := q₀; exact EqAt.int_int _ _ _ _
  | str i j => obtain ⟨t, rfl⟩ := p₀; obtain ⟨t', rfl⟩ := q₀; exact EqAt.str_str _ _ _ _
  | list l m b h =>
   obtain ⟨a, vs, k, f, p, _⟩ := p₀
   obtain ⟨a', us, k', g, q, _⟩ := q₀
   exact .of_refs (fun e => huv (congrArg _ e)) (rk (uV hc O n) (by exact lin1 [_,_,_] 0 (.a (.a (.a V0 V1) U2) U1) V2 1 (.a (.a (.a V0 S1) U1) U1) V2 tt hu) h (O.frz _ _ _ f) (O.frz _ _ _ g) p q).1
  | tup l m c h =>
   obtain ⟨a, vs, k, f, p, _⟩ := p₀
   obtain ⟨a', us, k', g, q, _⟩ := q₀
   exact .of_refs (fun e => huv (congrArg _ e)) (pe (uV hc O n) (by exact lin1 [_,_,_] 0 (.a (.a (.a V0 V1) U2) U1) V2 1 (.a (.a (.a V0 S1) U1) U1) V2 tt hu) h (O.frz _ _ _ f) (O.frz _ _ _ g) p q).1
  | obj t u l m h =>
   obtain ⟨a, dx, es, k, vs, f, _⟩ := p₀
   obtain ⟨a', dx', es', k', vs', g, _⟩ := q₀
   have haa : a ≠ a' := fun e => huv (congrArg _ e)
   exact .of_refs haa (ju hc O haa h f g (by exact lin1 [_,_,_] 0 (.a S0 U1) V1 1 (.a (.a (.a V0 S2) U1) U1) V1 tt hu))
inductive Fz (S : Sta) (W : Wd) (h : Heap) : D → Value → Prop
 | lst (a : Addr) (l : List D) (vs : List Value) (n : Nat) (g : h.get? a = some (listOf (List.toArray vs) n)) (r : RepL S W l vs) : Fz S W h (.list l) (.ref a)
 | rep (d : D) (v : Value) (r : Rep S W d v) (ne : ∀ l, d ≠ .list l) : Fz S W h d v
noncomputable def isObj : D → Bool
 | .obj _ _ _ => true
 | _ => false
theorem gP {d : D} (h : isObj d = false) (t : Nat) (c : Cls) (l : List D) : d ≠ .obj t c l := fun e => by subst e; exact ff h.symm
noncomputable def gQ : D → Bool
 | .list _ => true
 | _ => false
theorem gR {d : D} (h : gQ d = false) (l : List D) : d ≠ .list l := fun e => by subst e; exact ff h.symm
theorem uW {h : Heap} {d : D} {v : Value} {Q : D → Prop} (q : qj d st Q) (O : Ok S W st h) (r : Rep S W d v) : ∃ e, Fz S W h e v ∧ Q e := by
 cases d with
 | list l => obtain ⟨a, vs, n, f, r, z⟩ := r; exact ⟨_, .lst a l vs n (O.frz _ _ _ f) r, q⟩
 | mref k =>
  obtain ⟨a, rfl, ha⟩ := r
  obtain ⟨mo, hm, q⟩ := zL q
  have P := O.place hm ha
  cases mo with
  | lst l => obtain ⟨vs, n, _, o, r, z⟩ := P; exact ⟨_, .lst a l vs n o r, q⟩
  | fz l => obtain ⟨a, vs, n, f, r, z⟩ := P; exact ⟨_, .lst a l vs n (O.frz _ _ _ f) r, q⟩
  | _ => exact q.elim
 | _ => exact ⟨_, .rep _ _ r (gR rfl), q⟩
theorem gS (hc : S.ConEq) (O : Ok S W st s.heap) {n : Nat} {A : Around} {d e : D} {b : Bool} {u v : Value} (hu : A.units + n + 2 < cLine) (ho : ∀ t c l, d ≠ .obj t c l) (h : eqD (n + 1) d e = some b) (p : Fz S W s.heap d u) (q : Fz S W s.heap e v) : RcAt A s u v b ∧ RcNeAt A s u v (!b) := by
 cases s8 h with
 | none =>
  obtain _ | ⟨_, _, p, _⟩ := p
  obtain _ | ⟨_, _, q, _⟩ := q
  cases p; cases q
  exact ⟨RcAt.none_none, RcNeAt.none_none⟩
 | int i j =>
  obtain _ | ⟨_, _, ⟨t, rfl⟩, _⟩ := p
  obtain _ | ⟨_, _, ⟨t', rfl⟩, _⟩ := q
  exact ⟨RcAt.int_int _ _ _ _, RcNeAt.int_int _ _ _ _⟩
 | str i j =>
  obtain _ | ⟨_, _, ⟨t, rfl⟩, _⟩ := p
  obtain _ | ⟨_, _, ⟨t', rfl⟩, _⟩ := q
  exact ⟨RcAt.str_str _ _ _ _, RcNeAt.str_str _ _ _ _⟩
 | list l m b h' =>
  cases p with
  | rep _ _ _ ne => exact absurd rfl (ne _)
  | lst a _ vs n₁ ha p => cases q with
   | rep _ _ _ ne => exact absurd rfl (ne _)
   | lst a' _ us n₂ ha' q => exact rk (uV hc O n) hu h' ha ha' p q
 | tup l m c h' =>
  obtain _ | ⟨_, _, ⟨a, vs, k, f, p, _⟩, _⟩ := p
  obtain _ | ⟨_, _, ⟨a', us, k', g, q, _⟩, _⟩ := q
  exact pe (uV hc O n) hu h' (O.frz _ _ _ f) (O.frz _ _ _ g) p q
 | obj t u l m h => exact absurd rfl (ho _ _ _)
inductive EqA (S : Sta) (A : Around) (s : Shared) (Q : Bool → Prop) (u v : Value) : Prop
 | mk (b : Bool) (h : RcAt A s u v b) (k : RcNeAt A s u v (!b)) (q : Q b)
theorem pf (hc : S.ConEq) {A : Around} {d e : D} {Q : Bool → Prop} {u v : Value} (q : eqW d e st Q) (O : Ok S W st s.heap) (hu : A.units + 4 < cLine) (p : Rep S W d u) (r : Rep S W e v) : EqA S A s Q u v := by
 refine hid fun hG => ?_
 obtain ⟨d', p', q⟩ := uW q O p
 obtain ⟨e', r', q⟩ := uW q O r
 refine hG ?_
 cases d' with
 | obj => exact q.elim
 | _ =>
  obtain ⟨b, h, q⟩ := zL q
  have := gS hc O hu (gP rfl) h p' r'
  exact ⟨b, this.1, this.2, q⟩
theorem tX {n : Nat} {x : D} : ∀ {l : List D} {b : Bool}, memD n x l = some b → (∀ d ∈ l, ∃ c, eqD n d x = some c) ∧ (b = true ↔ ∃ d ∈ l, eqD n d x = some true)
 | [], b, h => by cases h; simp
 | y :: l, b, h => by
  obtain ⟨a, ha, h⟩ := z7 h
  obtain ⟨c, hc, h⟩ := z7 h
  cases h
  obtain ⟨h1, h2⟩ := tX hc
  refine ⟨fun d hd => ?_, ?_⟩
  ·rcases List.mem_cons.mp hd with rfl | hd
   ·exact ⟨a, ha⟩
   ·exact h1 d hd
  ·rw [Bool.or_eq_true, h2]
   constructor
   ·rintro (rfl | ⟨d, hd, e⟩)
    ·exact ⟨y, .head _, ha⟩
    ·exact ⟨d, .tail _ hd, e⟩
   ·rintro ⟨d, hd, e⟩
    rcases List.mem_cons.mp hd with rfl | hd
    ·rw [ha] at e; cases e; exact .inl rfl
    ·exact .inr ⟨d, hd, e⟩
theorem mA (hc : S.ConEq) (O : Ok S W st s.heap) {n : Nat} {A : Around} {x : D} {l : List D} {b : Bool} {v : Value} {vs : List Value} (hu : A.units + n + 2 < cLine) (h : memD n x l = some b) (p : RepL S W l vs) (q : Rep S W x v) :
  ∃ e : Value → Bool, (∀ y, y ∈ vs.toArray → EqAt A.in1 s y v (e y)) ∧ vs.toArray.any e = b := by
 refine hid fun hG => ?_
 obtain ⟨h1, h2⟩ := tX h
 refine hG ?_
 classical
 let e : Value → Bool := fun y => decide (E2 fun (j : Nat) (d : D) => A3 (l[j]? = some d) (vs[j]? = some y) (eqD n d x = some true))
 refine ⟨e, fun y hy => ?_, ?_⟩
 ·by_cases he : E2 fun (j : Nat) (d : D) => A3 (l[j]? = some d) (vs[j]? = some y) (eqD n d x = some true)
  ·rw [show e y = true from decide_eq_true he]
   refine hid fun hG => ?_
   obtain ⟨j, d, a1, a2, a3⟩ := he
   obtain ⟨y', e1, p'⟩ := p.at a1
   refine hG ?_
   rw [a2] at e1; cases e1
   exact uV hc O n (by show A.units + 1 + n + 1 < cLine; exact lin1 [_,_,_] 0 (.a (.a (.a S0 V1) U1) U1) V2 1 (.a (.a (.a V0 V1) U2) U1) V2 tt hu) a3 p' q
  ·rw [show e y = false from decide_eq_false he]
   refine hid fun hG => ?_
   obtain ⟨j, hj⟩ := List.getElem?_of_mem (List.mem_toArray.mp hy)
   have hl : j < l.length := by rw [p.length]; exact (List.getElem?_eq_some_iff.mp hj).1
   have a1 : l[j]? = some l[j] := List.getElem?_eq_getElem hl
   obtain ⟨y', e1, p'⟩ := p.at a1
   rw [hj] at e1; cases e1
   obtain ⟨c, hc'⟩ := h1 _ (List.getElem_mem hl)
   refine hG ?_
   have : c = false := by
    cases c with
    | false => rfl
    | true => exact absurd ⟨j, _, a1, hj, hc'⟩ he
   subst this
   exact uV hc O n (by show A.units + 1 + n + 1 < cLine; exact lin1 [_,_,_] 0 (.a (.a (.a S0 V1) U1) U1) V2 1 (.a (.a (.a V0 V1) U2) U1) V2 tt hu) hc' p' q
 ·rw [Bool.eq_iff_iff, h2]
  simp only [List.any_toArray, List.any_eq_true]
  constructor
  ·intro hz0
   refine hid fun hG => ?_
   obtain ⟨y, hy, he⟩ := hz0
   obtain ⟨j, d, a1, a2, a3⟩ := of_decide_eq_true he
   refine hG ?_
   exact ⟨d, List.mem_of_getElem? a1, a3⟩
  ·intro hz0
   refine hid fun hG => ?_
   obtain ⟨d, hd, he⟩ := hz0
   obtain ⟨j, hj⟩ := List.getElem?_of_mem hd
   obtain ⟨y, e1, p'⟩ := p.at hj
   refine hG ?_
   exact ⟨y, List.mem_of_getElem? e1, decide_eq_true ⟨j, d, hj, e1, he⟩⟩
theorem vf {κ : Type} [DecidableEq κ] (k : κ) : ∀ (ks : List κ) (vs : List Value), ks.length = vs.length → ((valueAt (ks.zip vs) k).isSome = ks.contains k)
 | [], _, _ => by simp [valueAt]
 | x :: ks, [], h => by simp at h
 | x :: ks, v :: vs, h => by
  have ih := vf k ks vs (by simpa using h)
  simp only [valueAt, List.zip_cons_cons, List.find?_cons, List.contains_cons] at ih ⊢
  by_cases e : x = k
  ·subst e; simp
  ·have e' : (k == x) = false := beq_eq_false_iff_ne.mpr (Ne.symm e)
   simp only [decide_eq_false e, e', Bool.false_or]; exact ih
theorem pg {S : Sta} {W : Wd} {st : St} {h : Heap} (O : Ok S W st h) {a : Addr} (ha : h.get? a = none) : (a == sysModules) = false := by
 rw [beq_eq_false_iff_ne]; rintro rfl
 obtain ⟨o, ho⟩ := S.sys
 rw [O.keep _ _ ho] at ha; cases ha
inductive DAt {κ : Type} [DecidableEq κ] (S : Sta) (W : Wd) (h : Heap) (K : PySem.KeyKind S.prog S.w κ) (a : Addr) (ks : List κ) (l : List D) : Prop
 | mk (vs : List Value) (sz : (a == sysModules) = false) (d : h.DictOf K a (ks.zip vs)) (e : ks.length = vs.length) (r : RepL S W l vs) (z : vs.length ≤ sizeLine)
theorem MDic.at {κ : Type} [DecidableEq κ] {h : Heap} {K : PySem.KeyKind S.prog S.w κ} {k : Nat} {a : Addr} {ks : List κ} {l : List D} : MDic S W h K k a ks l → DAt S W h K a ks l
 | ⟨o, vs, _, sz, ho, hd, hl, hr, z⟩ => ⟨vs, sz, Heap.dictOf_iff.mpr ⟨o, ho, hd⟩, hl, hr, z⟩
theorem MFs.at {h : Heap} (O : Ok S W st h) {a : Addr} {ks : List Str} {l : List D} : MFs S W a ks l → DAt S W h (strKind S.prog S.w) a ks l
 | ⟨o, vs, sz, ho, hd, hl, hr, z⟩ => ⟨vs, sz, Heap.dictOf_iff.mpr ⟨o, O.frz _ _ _ ho, hd⟩, hl, hr, z⟩
end
structure Sta.DictNe (S : Sta) : Prop where
 ne : ∀ (A : Around) (s : Shared) (x y : Addr) (ks js : List Int) (l m : List D) (vs us : List Value) (W : Wd) (b : Bool) (Q : Value → Shared → Prop) (st : St), Ok S W st s.heap → A.units + 40 < cLine →
  s.heap.DictOf (intKind S.prog S.w) x (ks.zip vs) → s.heap.DictOf (intKind S.prog S.w) y (js.zip us) → ks.length = vs.length → js.length = us.length → RepL S W l vs → RepL S W m us → (x == sysModules) = false → (y == sysModules) = false →
  dictEqI ks l js m = some b → (∀ tk, Q (.bool (!b)) { s with toks := tk }) → Wq S A (compareOp .NotEq (.ref x) (.ref y)) Q s
section
variable {J : Jd}
inductive InA (S : Sta) (A : Around) (W : Wd) (st : St) (s : Shared) (Q : Bool → Prop) (u v : Value) : Prop
 | mk (b : Bool) (q : Q b) (h : ∀ {R : Value → Shared → Prop}, (∀ tk, R (.bool b) { s with toks := tk }) → Wq S A (compareOp .In u v) R s) (k : ∀ {R : Value → Shared → Prop}, (∀ tk, R (.bool (!b)) { s with toks := tk }) → Wq S A (compareOp .NotIn u v) R s)
theorem in_dict {κ : Type} [DecidableEq κ] {S : Sta} {A : Around} {W : Wd} {st : St} {s : Shared} {Q : Bool → Prop} {u : Value} {K : PySem.KeyKind S.prog S.w κ} {a : Addr} {ks : List κ} {l : List D} {x : κ} (hk : K.is x u = true) : DAt S W s.heap K a ks l → Q (ks.contains x) → InA S A W st s Q u (.ref a)
 | ⟨vs, sz, hd, hl, _, _⟩, q => by
  have e := vf x ks vs hl
  exact ⟨_, q, fun r => wpAny_in_of hk sz hd.mapOf (by rw [e]; exact r _), fun r => wpAny_notIn_of hk sz hd.mapOf (by rw [e]; exact r _)⟩
theorem ph (hc : J.S.ConEq) {A : Around} {s : Shared} {W : Wd} {x y : D} {st : St} {Q : Bool → Prop} {u v : Value} (q : inW x y st Q) (hr : Room J.n A) (O : Ok J.S W st s.heap) (p : Rep J.S W x u) (r : Rep J.S W y v) : InA J.S A W st s Q u v := by
 have hu : A.units + 3 + 2 < cLine := by have := hr.units; exact lin1 [_,_,_] 0 (.a (.a (.a V0 (.n 3)) U2) U1) V1 1 (.a (.a (.a V0 (.m 40 V2)) (.n 40)) U1) V1 tt this
 have lists : ∀ {l : List D} {a : Addr} {vs : List Value} {n : Nat}, ofO (memD 3 x l) Q → s.heap.get? a = some (listOf vs.toArray n) → RepL J.S W l vs → InA J.S A W st s Q u (.ref a) := by
  intro l a vs n q ha hl
  obtain ⟨b, h, q⟩ := zL q
  obtain ⟨e, h1, h2⟩ := mA hc O hu h hl p
  exact ⟨b, q, fun r => in_listAt e (zI ha) h1 (by rw [h2]; exact r _), fun r => notIn_listAt e (zI ha) h1 (by rw [h2]; exact r _)⟩
 cases y with
 | mref k =>
  obtain ⟨a, rfl, ha⟩ := r
  obtain ⟨mo, hm, q⟩ := zL q
  have P := O.place hm ha
  cases mo with
  | dS ks l => cases x with
   | str x => obtain ⟨t, rfl⟩ := p; exact in_dict (strKind_is _ _ _ _) (MDic.at P) q
   | _ => exact q.elim
  | fS ks l => cases x with
   | str x => obtain ⟨t, rfl⟩ := p; exact in_dict (strKind_is _ _ _ _) (MFs.at O P) q
   | _ => exact q.elim
  | dI ks l => cases x with
   | int x => obtain ⟨t, rfl⟩ := p; exact in_dict (intKind_is _ _ _ _) (MDic.at P) q
   | _ => exact q.elim
  | lst l => obtain ⟨vs, n, _, o, r, z⟩ := P; exact lists q o r
  | fz l => obtain ⟨a, vs, n, f, r, z⟩ := P; exact lists q (O.frz _ _ _ f) r
  | _ => exact q.elim
 | list l => obtain ⟨a, vs, n, f, r, z⟩ := r; exact lists q (O.frz _ _ _ f) r
 | tup l =>
  obtain ⟨a, vs, n, f, r, z⟩ := r
  obtain ⟨b, h, q⟩ := zL q
  obtain ⟨e, h1, h2⟩ := mA hc O hu h r p
  exact ⟨b, q, fun r => in_tupleAt e (zW (O.frz _ _ _ f)) h1 (by rw [h2]; exact r _), fun r => notIn_tupleAt e (zW (O.frz _ _ _ f)) h1 (by rw [h2]; exact r _)⟩
 | _ => exact q.elim
theorem uX {S : Sta} {W : Wd} {a : D} {v : Value} {Q : Bool → Prop} (q : isNone a Q) (r : Rep S W a v) : Q (v == .none) := by
 cases a with
 | none => cases r; exact q
 | bool => cases r; exact q
 | int => obtain ⟨t, rfl⟩ := r; exact q
 | str => obtain ⟨t, rfl⟩ := r; exact q
 | list => obtain ⟨a⟩ := r; exact q
 | tup => obtain ⟨a⟩ := r; exact q
 | obj => obtain ⟨a⟩ := r; exact q
 | clo => exact q.elim
 | val => exact q.elim
 | mref => obtain ⟨a, rfl, _⟩ := r; exact q
theorem lk (hc : J.S.ConEq) (hd : J.S.DictNe) {A : Around} {s : Shared} {W : Wd} {x y : D} {st : St} {Q : Bool → Prop} {u v : Value} {R : Value → Shared → Prop} (q : neW x y st Q) (hr : Room J.n A) (O : Ok J.S W st s.heap) (p : Rep J.S W x u) (r : Rep J.S W y v) (k : ∀ b tk, Q b → R (.bool b) { s with toks := tk }) : Wq J.S A (compareOp .NotEq u v) R s := by
 have hu : A.units + 40 < cLine := by have := hr.units; exact lin1 [_,_,_] 0 (.a (.a V0 (.n 40)) U1) V1 1 (.a (.a (.a V0 (.m 40 V2)) (.n 40)) U1) V1 tt this
 have eqs : eqW x y st (fun r => Q (!r)) → Wq J.S A (compareOp .NotEq u v) R s := fun q => by
  refine hid fun hG => ?_
  obtain ⟨b, _, h, q⟩ := pf hc q O (by exact lin1 [_,_] 0 (.a (.a V0 (.n 4)) U1) V1 1 (.a (.a V0 (.n 40)) U1) V1 tt hu : A.units + 4 < cLine) p r
  refine hG ?_
  exact h J.S.prog J.S.w _ _ (k _ s.toks q)
 cases x with
 | mref j =>
  obtain ⟨mo, hm, q⟩ := zL q
  cases mo with
  | dI ks l => cases y with
   | mref k' =>
    refine hid fun hG => ?_
    obtain ⟨a, rfl, ha⟩ := p
    obtain ⟨a', rfl, ha'⟩ := r
    obtain ⟨mo', hm', q⟩ := zL q
    refine hG ?_
    cases mo' with
    | dI js m =>
     refine hid fun hG => ?_
     obtain ⟨b, h5, q⟩ := zL q
     obtain ⟨vs, sz, hd1, hl, hr1, _⟩ := MDic.at (O.place hm ha)
     obtain ⟨us, sz', hd2, hl', hr2, _⟩ := MDic.at (O.place hm' ha')
     refine hG ?_
     exact hd.ne A s a a' _ _ _ _ vs us W b _ _ O hu hd1 hd2 hl hl' hr1 hr2 sz sz' h5 fun tk => k _ _ q
    | _ => exact q.elim
   | _ => exact q.elim
  | _ => exact eqs q
 | _ => exact eqs q
theorem mB (hc : J.S.ConEq) (hd : J.S.DictNe) {op : CmpOp} : RV2 J (fun x y st Q => l4 op x y st fun b => Q (.bool b)) (compareOp op) := by
 refine ⟨@fun x y st Q A s W u v hr O rx ry q => ?_⟩
 have R : ∀ {b : Bool}, Q (.bool b) st → PostD J.S W s Q (.bool b) s := fun q => ⟨_, _, W, q, .refl O, rfl⟩
 have T : ∀ (b : Bool) (tk : Nat), Q (.bool b) st → PostD J.S W s Q (.bool b) { s with toks := tk } := fun U U q => ⟨_, _, W, q, .toks O _, rfl⟩
 cases op with
 | Lt => obtain ⟨i, j, t, t', q⟩ := zh q rx ry; exact P.lt_int (R q)
 | LtE => obtain ⟨i, j, t, t', q⟩ := zh q rx ry; exact P.le_int (R q)
 | Gt => obtain ⟨i, j, t, t', q⟩ := zh q rx ry; exact P.gt_int (R q)
 | GtE => obtain ⟨i, j, t, t', q⟩ := zh q rx ry; exact P.ge_int (R q)
 | Is => cases y with
  | none => cases ry; exact is_none_gen (R (uX (Q := fun b => Q (.bool b) st) q rx))
  | _ => exact q.elim
 | IsNot => cases y with
  | none => cases ry; exact isnot_none_gen (R (uX (Q := fun b => Q (.bool !b) st) q rx))
  | _ => exact q.elim
 | In => obtain ⟨b, q, h, _⟩ := ph (Q := fun b => Q (.bool b) st) hc q hr O rx ry; exact h fun tk => T _ tk q
 | NotIn => obtain ⟨b, q, _, h⟩ := ph (Q := fun b => Q (.bool !b) st) hc q hr O rx ry; exact h fun tk => T _ tk q
 | Eq =>
  obtain ⟨b, h, _, q⟩ := pf hc q O (by have := hr.units; exact lin1 [_,_,_] 0 (.a (.a V0 (.n 4)) U1) V1 1 (.a (.a (.a V0 (.m 40 V2)) (.n 40)) U1) V1 tt this : A.units + 4 < cLine) rx ry
  exact h J.S.prog J.S.w _ _ (R q)
 | NotEq => exact lk (Q := fun b => Q (.bool b) st) hc hd q hr O rx ry T
end
section
variable {J : Jd} {sc : Scope}
theorem jv {op : CmpOp} {a b : Expr} {x y : X} {pos : Pos} (ha : RE J sc a x) (hb : RE J sc b y) (hf : RV2 J (fun x y st Q => l4 op x y st fun b => Q (.bool b)) (compareOp op)) (hm : (!behindInMarks op b) = true) : RE J sc (.Compare a [op] [b] pos) (.cmp op x y) :=
 ⟨@fun ρ st Q A s W env H q => wpAny_Compare1 (two ha hb H q fun y ru rv q => zB (hf.go H.hr y.ok ru rv q) (PostD.trans y)) (by simpa using hm)⟩
theorem rm {S : Sta} {W : Wd} {d : D} {v : Value} {st : St} {A : Around} {s : Shared} {Q : Bool → Prop} {R : Bool → Shared → Prop} (q : sJ d st Q) (O : Ok S W st s.heap) (r : Rep S W d v) (k : ∀ b tk, Q b → R b { s with toks := tk }) : Wq S A (truthy v) R s := by
 cases d with
 | bool b => cases r; exact wpAny_truthy_bool (k b s.toks q)
 | mref i =>
  obtain ⟨a, rfl, ha⟩ := r
  obtain ⟨mo, hm, q⟩ := zL q
  cases mo with
  | lst l =>
   obtain ⟨vs, n, _, ho, hl, z⟩ := O.place hm ha
   have hle := hl.length
   have e : vs.toArray.isEmpty = l.isEmpty := by cases vs <;> cases l <;> first | rfl | first | exact cn hle | exact nc hle | exact sn hle | exact ns hle | exact nn hle | exact ff hle
   refine wpAny_truthy_list (zI ho) (by have h63 := (by decide : sizeLine < 2 ^ 63); simp; omega) ?_
   rw [e]; exact k _ _ q
  | _ => exact q.elim
 | _ => exact q.elim
theorem gT {call : zp} {x : X} {ρ : Rg} {st : St} {Q : Bool → St → Prop} (h : isE x = true) (q : (run call x).t ρ st Q) : (run call x).e ρ st fun d st => sJ d st fun b => Q b st := by
 cases x <;> first | exact q | exact ff h
theorem gU {call : zp} {x : X} {ρ : Rg} {st : St} {Q : List D → St → Prop} (h : isE x = true) (q : (run call x).i ρ st Q) : (run call x).e ρ st fun d st => n9 d st Q := by
 cases x <;> first | exact q | exact ff h
theorem wk {e : Expr} {x : X} (h : RE J sc e x) (he : ∀ env whole, isTrue e env whole = (do let v ← whole; standAt e.pos; holding [v] (truthy v))) : RT J sc e (yS x) := by
 refine zb yr fun hx => ⟨@fun ρ st Q A s W env H q => isTrue_plain (zB (h.go H (gT hx q)) ?_) (he _ _)⟩
 rintro v s₁ ⟨d, st₁, W₁, q, y₁, r₁⟩
 exact rm q y₁.ok r₁ fun b tk q => ⟨st₁, W₁, q, y₁.trans (.toks y₁.ok tk)⟩
theorem jw {e : Expr} {x : X} {pos : Pos} (h : RT J sc e x) : RT J sc (.UnaryOp .Not e pos) (.not x) := by
 refine ⟨@fun ρ st Q A s W env H q => wpAny_isTrue_Not (zB (h.go H q) ?_)⟩
 rintro v s₁ ⟨st₁, W₁, q, y₁⟩
 exact ⟨st₁, W₁, q, y₁⟩
theorem jx {op : BoolOp} {e : Expr} {x : X} {pos : Pos} (h : RT J sc e x) : RT J sc (.BoolOp op [e] pos) x := by
 refine ⟨@fun ρ st Q A s W env H q => ?_⟩
 cases op with
 | And =>
  refine wpAny_isTrue_BoolOp (wpAny_allTrue_And_cons (zB (h.go H q) ?_))
  rintro v s₁ p
  cases v with
  | true => exact wpAny_allTrue_And_nil p
  | false => exact p
 | Or =>
  refine wpAny_isTrue_BoolOp (wpAny_allTrue_Or_cons (zB (h.go H q) ?_))
  rintro v s₁ p
  cases v with
  | true => exact p
  | false => exact wpAny_allTrue_Or_nil p
theorem jy {a b : Expr} {r : List Expr} {x y : X} {pos : Pos} (h : RT J sc a x) (h' : RT J sc (.BoolOp .And (b :: r) pos) y) : RT J sc (.BoolOp .And (a :: b :: r) pos) (.and x y) := by
 refine ⟨@fun ρ st Q A s W env H q => isTrue_and (zB (h.go H q) ?_)⟩
 rintro v s₁ ⟨st₁, W₁, q, y₁⟩
 cases v with
 | true => exact zB (h'.go (H.step y₁) q) (PostB.trans y₁)
 | false => exact ⟨st₁, W₁, q, y₁⟩
theorem gV {a b : Expr} {r : List Expr} {x y : X} {pos : Pos} (h : RT J sc a x) (h' : RT J sc (.BoolOp .Or (b :: r) pos) y) : RT J sc (.BoolOp .Or (a :: b :: r) pos) (.or x y) := by
 refine ⟨@fun ρ st Q A s W env H q => isTrue_or (zB (h.go H q) ?_)⟩
 rintro v s₁ ⟨st₁, W₁, q, y₁⟩
 cases v with
 | true => exact ⟨st₁, W₁, q, y₁⟩
 | false => exact zB (h'.go (H.step y₁) q) (PostB.trans y₁)
theorem jz {op : CmpOp} {a b : Expr} {x y : X} {pos : Pos} (ha : RE J sc a x) (hb : RE J sc b y) (hf : RV2 J (fun x y st Q => l4 op x y st fun b => Q (.bool b)) (compareOp op)) (hm : (!behindInMarks op b) = true) : RT J sc (.Compare a [op] [b] pos) (.cmp op x y) := by
 refine ⟨@fun ρ st Q A s W env H q => wpAny_isTrue_Compare1 (two ha hb H q fun y ru rv q => ?_) (by simpa using hm)⟩
 refine zB (hf.go (Q := fun d st => sJ d st fun b => Q b st) H.hr y.ok ru rv q) ?_
 rintro v s₁ ⟨d, st₁, W₁, q, y₁, r₁⟩
 exact rm q y₁.ok r₁ fun b tk q => ⟨st₁, W₁, q, (y.trans y₁).trans (.toks y₁.ok tk)⟩
theorem iA {e : Expr} {x : X} {pos : Pos} (h : RE J sc e x) : RE J sc (.UnaryOp .USub e pos) (.neg x) := by
 refine ⟨@fun ρ st Q A s W env H q => wpAny_UnaryOp (zB (h.go H q) ?_)⟩
 rintro v s₁ ⟨d, st₁, W₁, q, y₁, r₁⟩
 cases d with
 | int i => obtain ⟨t, rfl⟩ := r₁; exact P.neg_int ⟨_, _, W₁, q, y₁.trans (.toks y₁.ok _), ⟨_, rfl⟩⟩
 | _ => exact q.elim
theorem gW {t a b : Expr} {x y z : X} {pos : Pos} (h : RT J sc t x) (ha : RE J sc a y) (hb : RE J sc b z) : RE J sc (.IfExp t a b pos) (.ite x y z) := by
 refine ⟨@fun ρ st Q A s W env H q => wpAny_IfExp (zB (h.go H q) ?_)⟩
 rintro v s₁ ⟨st₁, W₁, q, y₁⟩
 cases v with
 | true => exact zB (ha.go (H.step y₁) q) (PostD.trans y₁)
 | false => exact zB (hb.go (H.step y₁) q) (PostD.trans y₁)
theorem iB {op : BoolOp} {e : Expr} {x : X} {pos : Pos} (h : RE J sc e x) : RE J sc (.BoolOp op [e] pos) x :=
 ⟨@fun ρ st Q A s W env H q => by rw [arm_eval_BoolOp]; exact h.go H q⟩
set_option backward.match.sparseCases true in
theorem vg {pos : Pos} {op : BoolOp} {x y : Sem Value} {r : List (Sem Value)} : boolOp pos op (x :: y :: r) = (do
  let v ← x
  standAt pos
  let t ← holding [v] (truthy v)
  match op, t with
  | .And, false | .Or, true => pure v
  | _, _ => boolOp pos op (y :: r)) := rfl
theorem iC {a b : Expr} {r : List Expr} {x y : X} {pos : Pos} (h : RE J sc a x) (h' : RE J sc (.BoolOp .And (b :: r) pos) y) : RE J sc (.BoolOp .And (a :: b :: r) pos) (.and x y) := by
 refine ⟨@fun ρ st Q A s W env H q => ?_⟩
 rw [arm_eval_BoolOp]
 show Wq J.S A (boolOp pos .And (eval a env :: eval b env :: evalEach r env)) _ s
 rw [vg]
 refine wpAny_bind (zB (h.go H q) ?_)
 rintro v s₁ ⟨d, st₁, W₁, q, y₁, r₁⟩
 refine wpAny_bind (wpAny_standAt (wpAny_bind (wpAny_holding ?_)))
 cases d with
 | bool c =>
  cases r₁
  refine wpAny_truthy_bool ?_
  cases c with
  | true =>
   have := h'.go (H.step y₁) q
   rw [arm_eval_BoolOp] at this
   exact zB this (PostD.trans y₁)
  | false => exact wpAny_pure ⟨_, _, W₁, q, y₁, rfl⟩
 | _ => exact q.elim
theorem gX {a b : Expr} {r : List Expr} {x y : X} {pos : Pos} (h : RE J sc a x) (h' : RE J sc (.BoolOp .Or (b :: r) pos) y) : RE J sc (.BoolOp .Or (a :: b :: r) pos) (.or x y) := by
 refine ⟨@fun ρ st Q A s W env H q => ?_⟩
 rw [arm_eval_BoolOp]
 show Wq J.S A (boolOp pos .Or (eval a env :: eval b env :: evalEach r env)) _ s
 rw [vg]
 refine wpAny_bind (zB (h.go H q) ?_)
 rintro v s₁ ⟨d, st₁, W₁, q, y₁, r₁⟩
 refine wpAny_bind (wpAny_standAt (wpAny_bind (wpAny_holding ?_)))
 cases d with
 | bool c =>
  cases r₁
  refine wpAny_truthy_bool ?_
  cases c with
  | false =>
   have := h'.go (H.step y₁) q
   rw [arm_eval_BoolOp] at this
   exact zB this (PostD.trans y₁)
  | true => exact wpAny_pure ⟨_, _, W₁, q, y₁, rfl⟩
 | _ => exact q.elim
end
section
variable {J : Jd} {sc : Scope}
theorem mC : sizeLine < 2 ^ 62 := by decide
inductive SAt (S : Sta) (W : Wd) (vs : List Value) (i : Int) (d : D) : Prop
 | mk (j : Nat) (v : Value) (hb : i.natAbs < 2 ^ 62) (h : seqIndex? i vs.length = some j) (hv : vs[j]? = some v) (r : Rep S W d v)
theorem xh {i : Int} {len j : Nat} (h : (if i < 0 then i + len else i) = (j : Int)) (hj : j < len) : seqIndex? i len = some j := by
 unfold seqIndex?
 rw [h]
 exact if_pos (by simp only [Bool.and_eq_true, decide_eq_true_eq]; omega)
theorem tY {S : Sta} {W : Wd} {l : List D} {i : Int} {d : D} {vs : List Value} (h : wI l i = some d) (r : RepL S W l vs) (z : vs.length ≤ sizeLine) : SAt S W vs i d := by
 have hl := r.length
 have h62 := mC
 cases i with
 | ofNat n =>
  have h : l[n]? = some d := h
  have hj := (List.getElem?_eq_some_iff.mp h).1
  obtain ⟨v, e, p⟩ := r.at h
  exact ⟨n, v, show n < 2 ^ 62 by exact lin4 [_,_,_,_] 0 S0 (.n 4611686018427387904) 1 V1 V2 1 V3 V1 1 S2 (.n 4611686018427387904) 1 S0 V3 tt z (el hl) h62 hj, xh (if_neg (Int.not_lt.mpr (Int.natCast_nonneg n))) (hl ▸ hj), e, p⟩
 | negSucc n =>
  have h : (if n < l.length then l[l.length - (n + 1)]? else none) = some d := h
  by_cases hn : n < l.length
  ·rw [if_pos hn] at h
   obtain ⟨v, e, p⟩ := r.at h
   exact ⟨l.length - (n + 1), v, show n + 1 < 2 ^ 62 by exact lin4 [_,_,_,_] 0 (.a S0 U1) (.n 4611686018427387904) 1 V1 V2 1 V3 V1 1 S2 (.n 4611686018427387904) 1 S0 V3 tt z (el hl) h62 hn, xh ((if_pos (Int.negSucc_lt_zero n)).trans (by rw [Int.negSucc_eq, ← hl]; omega)) (by exact lin2 [_,_,_,_] 0 S0 V1 1 V2 V1 1 (.a V0 S3) V2 tt (el hl) (sb3 (lin1 [_,_] 0 S0 V1 1 S0 V1 tt hn))), e, p⟩
  ·rw [if_neg hn] at h; cases h
set_option tactic.hygienic true in
theorem tK {S : Sta} {W : Wd} {A : Around} {s : Shared} {a : Addr} {vs : List Value} {n : Nat} {i : Int} {t : Tok} {d : D} {Q : Value → Shared → Prop} (ho : s.heap.get? a = some (listOf vs.toArray n)) (h : SAt S W vs i d) (q : ∀ v, Rep S W d v → Q v s) : Wq S A (getItem (.ref a) (.int i t)) Q s := by
 refine hid fun hG => ?_
 obtain ⟨j, v, hz, hj, hv, r⟩ := h
 refine hG ?_
 unfold seqIndex? at hj
 by_cases hi : i < 0
 ·simp only [hi, if_true] at hj
  split at hj
  ·rename_i hb
   simp only [Bool.and_eq_true, decide_eq_true_eq] at hb
   cases hj
   exact wpAny_getItem_list_neg (zI ho) hi (by simp; omega) (by omega) (by simpa using hv) (q v r)
  ·cases hj
 ·simp only [hi, if_false] at hj
  split at hj
  ·cases hj
   exact wpAny_getItem_list (zI ho) (by omega) (by omega) (by simpa using hv) (q v r)
  ·cases hj
theorem wm {κ : Type} [DecidableEq κ] {S : Sta} {W : Wd} {k : κ} : ∀ {ks : List κ} {l : List D} {vs : List Value} {d : D}, RepL S W l vs → (ks.zip l).lookup k = some d → RAt S W d (valueAt (ks.zip vs) k)
 | [], _, _, _, _, h => nn h
 | x :: ks, [], _, _, _, h => nn h
 | x :: ks, e :: l, _, d, r, h => by
  obtain ⟨v, vs, a, b⟩ := r
  simp only [List.zip_cons_cons, List.lookup_cons] at h
  by_cases q : k = x
  ·subst q
   simp at h; subst h
   exact ⟨v, by simp [valueAt], a⟩
  ·simp only [beq_eq_false_iff_ne.mpr q] at h
   obtain ⟨u, h1, h2⟩ := wm b h
   refine ⟨u, ?_, h2⟩
   simp only [valueAt, List.zip_cons_cons, List.find?_cons] at h1 ⊢
   rw [decide_eq_false (Ne.symm q)]; exact h1
section
variable {value slice : Expr} {x y : D} {st : St} {Q : D → St → Prop} {A : Around} {s : Shared} {W : Wd} {u v : Value}
theorem sa (hs : ∀ o i, ∃ ops, subscripted slice false o i = operate ops (getItem o i)) (O : Ok J.S W st s.heap) {κ : Type} [DecidableEq κ] {K : PySem.KeyKind J.S.prog J.S.w κ} {ks : List κ} {l : List D} {a : Addr} {k : κ} (hk : K.is k v = true) (q : ofO ((ks.zip l).lookup k) fun d => Q d st) : DAt J.S W s.heap K a ks l → Wq J.S A (subscriptTail value slice (.ref a) v) (PostD J.S W s Q) s
 | ⟨vs, _, hd, _, hl, _⟩ => by
  refine hid fun hG => ?_
  obtain ⟨d, h', q⟩ := zL q
  obtain ⟨v, h1, h2⟩ := wm hl h'
  obtain ⟨ops, he⟩ := hs (.ref a) _
  refine hG ?_
  exact tail_any hd.mapOf.typeIs slot_dict_getitem.lookup (wpAny_getItem_of hk hd.mapOf h1 ⟨d, st, W, q, .toks O _, h2⟩) he
theorem sd (hs : ∀ o i, ∃ ops, subscripted slice false o i = operate ops (getItem o i)) (O : Ok J.S W st s.heap) {l : List D} {a : Addr} {vs : List Value} {n : Nat} {i : Int} {t : Tok} (ho : s.heap.get? a = some (listOf vs.toArray n)) (hl : RepL J.S W l vs) (z : vs.length ≤ sizeLine) (q : ofO (wI l i) fun d => Q d st) :
  Wq J.S A (subscriptTail value slice (.ref a) (.int i t)) (PostD J.S W s Q) s := by
 refine hid fun hG => ?_
 obtain ⟨d, h', q⟩ := zL q
 obtain ⟨ops, he⟩ := hs (.ref a) (.int i t)
 refine hG ?_
 exact tail_any (zI ho).typeIs slot_list_getitem.lookup (tK ho (tY h' hl z) fun v r => ⟨d, st, W, q, .refl O, r⟩) he
theorem gY (hs : ∀ o i, ∃ ops, subscripted slice false o i = operate ops (getItem o i)) : RV2 J atW (subscriptTail value slice) := by
 refine ⟨@fun x y st Q A s W u v hr O rx ry q => ?_⟩
 cases y with
 | str k =>
  obtain ⟨t, rfl⟩ := ry
  cases x with
  | mref j =>
   obtain ⟨a, rfl, ha⟩ := rx
   obtain ⟨mo, hm, q⟩ := zL q
   have P := O.place hm ha
   cases mo with
   | dS ks l => exact sa hs O (strKind_is _ _ _ _) q (MDic.at P)
   | fS ks l => exact sa hs O (strKind_is _ _ _ _) q (MFs.at O P)
   | _ => exact q.elim
  | _ => exact q.elim
 | int i =>
  obtain ⟨t, rfl⟩ := ry
  cases x with
  | str x => cases i with
   | ofNat n =>
    obtain ⟨c, h3, hz, q⟩ := zL q
    obtain ⟨t', rfl⟩ := rx
    obtain ⟨ops, he⟩ := hs (.str x t') (.int (.ofNat n) t)
    refine tail_any (typeIs_str s x t') slot_str_getitem.lookup (P.getItem_str (c := c) ?_ ?_ ⟨_, st, W, q, .toks O _, ⟨_, rfl⟩⟩) he
    ·simp; omega
    ·have e : seqIndex? (Int.ofNat n) x.length = some n := xh (if_neg (Int.not_lt.mpr (Int.natCast_nonneg n))) (Array.getElem?_eq_some_iff.mp h3).1
     rw [e]
     exact h3
   | negSucc n => exact q.elim
  | tup l =>
   obtain ⟨a, vs, n, f, hl, z⟩ := rx
   obtain ⟨d, h', q⟩ := zL q
   obtain ⟨j, v, hb, h1, h3, h4⟩ := tY h' hl z
   obtain ⟨ops, he⟩ := hs (.ref a) (.int i t)
   have h62 := mC
   have hT : IsTup s.heap a vs.toArray := zW (O.frz _ _ _ f)
   exact tail_any hT.typeIs slot_tuple_getitem.lookup (getItem_tuple hT (by omega) (by omega) (by simpa using h1) (by simpa using h3) ⟨d, st, W, q, .refl O, h4⟩) he
  | list l => obtain ⟨a, vs, n, f, r, z⟩ := rx; exact sd hs O (O.frz _ _ _ f) r z q
  | mref j =>
   obtain ⟨a, rfl, ha⟩ := rx
   obtain ⟨mo, hm, q⟩ := zL q
   have P := O.place hm ha
   cases mo with
   | dI ks l => exact sa hs O (intKind_is _ _ _ _) q (MDic.at P)
   | lst l => obtain ⟨vs, n, _, o, r, z⟩ := P; exact sd hs O o r z q
   | fz l => obtain ⟨a, vs, n, f, r, z⟩ := P; exact sd hs O (O.frz _ _ _ f) r z q
   | _ => exact q.elim
  | _ => exact q.elim
 | _ => exact q.elim
end
theorem pn (slice : Expr) (o i : Value) : ∃ ops, subscripted slice false o i = operate ops (getItem o i) := by
 cases slice with
 | Slice lo hi st p => cases st <;> exact ⟨_, rfl⟩
 | _ => exact ⟨_, rfl⟩
theorem gZ {e i : Expr} {x y : X} {pos : Pos} (ha : RE J sc e x) (hb : RE J sc i y) : RE J sc (.Subscript e i pos) (.at x y) :=
 ⟨@fun ρ st Q A s W env H q => Subscript_ (two ha hb H q fun y ru rv q => zB ((gY (pn i)).go H.hr y.ok ru rv q) (PostD.trans y))⟩
noncomputable def Sl.lo (i : Int) : Sl → Option Int
 | .from => some i
 | _ => none
noncomputable def Sl.hi (i : Int) : Sl → Option Int
 | .upto => some i
 | _ => none
noncomputable def Sl.st (i : Int) : Sl → Option Int
 | .rev => some i
 | _ => none
inductive SlA (S : Sta) (W : Wd) (h : Heap) (k : Sl) (i : Int) (Q : D → Prop) : Value → Prop
 | mk (x : Addr) (vs : List Value) (n : Nat) (l : List D) (us : List Value) (g : h.get? x = some (listOf (List.toArray vs) n)) (z : vs.length ≤ sizeLine) (e : slicePick vs.toArray (k.lo i) (k.hi i) (k.st i) = us.toArray) (r : RepL S W l us) (z' : us.length ≤ sizeLine) (h0 : k.st i ≠ some 0) (q : Q (.list l)) : SlA S W h k i Q (.ref x)
theorem qu {S : Sta} {W : Wd} {st : St} {h : Heap} {a : D} {k : Sl} {i : Int} {v : Value} {Q : D → Prop} (q : sL k a (.int i) st Q) (O : Ok S W st h) (r : Rep S W a v) : SlA S W h k i Q v := by
 obtain ⟨x, l, vs, n, ho, hl, z, q⟩ := y0 q O r
 cases k with
 | upto => cases i with
  | ofNat m => exact .mk x vs n _ (vs.take m) ho z (slicePick_upto' _ _) (hl.take m) (by rw [List.length_take]; exact lin2 [_,_,_] 0 V0 V1 1 V2 V1 1 V0 V2 tt z (Nat.min_le_right _ _)) (by simp [Sl.st]) q
  | negSucc m =>
   obtain ⟨hm, q₁⟩ := q
   subst hm
   refine .mk x vs n l.dropLast vs.dropLast ho z ?_ (by rw [List.dropLast_eq_take, List.dropLast_eq_take, hl.length]; exact hl.take _) (by rw [List.length_dropLast]; exact lin2 [_,_,_] 0 V0 V1 1 V2 V1 1 V0 V2 tt z (Nat.sub_le _ _)) (by simp [Sl.st]) q₁
   show slicePick _ none (some (-((1 : Nat) : Int))) none = _
   rw [slicePick_butLast _ 1 (Nat.le_refl _)]
   simp [List.dropLast_eq_take]
 | «from» => cases i with
  | ofNat m => exact .mk x vs n _ (vs.drop m) ho z (slicePick_from' _ _) (hl.drop m) (by rw [List.length_drop]; exact lin2 [_,_,_] 0 V0 V1 1 V2 V1 1 V0 V2 tt z (Nat.sub_le _ _)) (by simp [Sl.st]) q
  | negSucc m => exact q.elim
 | rev =>
  obtain ⟨hm, q₁⟩ := q
  subst hm
  exact .mk x vs n _ vs.reverse ho z (krv_pick _) hl.reverse (by rw [List.length_reverse]; exact z) (by simp [Sl.st]) q₁
theorem uY {value : Expr} {lo hi stp : Option Expr} {pos' : Pos} {k : Sl} {i : Int} {a : D} {v v1 v2 v3 : Value} {st : St} {Q : D → St → Prop} {A : Around} {s : Shared} {W : Wd} (O : Ok J.S W st s.heap) (r : Rep J.S W a v) (q : sL k a (.int i) st fun d => Q d st)
  (p1 : IsPart v1 (k.lo i)) (p2 : IsPart v2 (k.hi i)) (p3 : IsPart v3 (k.st i)) : Wq J.S A (subscriptTail value (.Slice lo hi stp pos') v (.ref s.heap.objs.size)) (PostD J.S W s Q) { s with heap := s.heap.push { cls := .type "slice", data := .fields #[v1, v2, v3] } } := by
 refine hid fun hG => ?_
 obtain ⟨x, vs, n, l, us, ho, hz, hpick, hus, hz', h0, q⟩ := qu q O r
 have ho' : (s.heap.push { cls := .type "slice", data := .fields #[v1, v2, v3] }).get? x = some (listOf vs.toArray n) := Heap.get?_push_of_some _ ho
 obtain ⟨ops, hops⟩ := pn (.Slice lo hi stp pos') (.ref x) (.ref s.heap.objs.size)
 refine hG ?_
 refine tail_any (T := "list") (zI ho').typeIs slot_list_getitem.lookup ?_ hops
 refine wpAny_getItem_list_slice (zI ho') (Heap.IsSliceOf.new s.heap v1 v2 v3) p1 p2 p3 h0 ?_ (by simpa using hz)
 have yq : Stp J.S W s st { s with heap := s.heap.push { cls := .type "slice", data := .fields #[v1, v2, v3] } } W := .quiet O (fun U U e => Heap.get?_push_of_some _ e)
 rw [hpick]
 have yp := Stp.push (tk := s.toks) yq.ok (listOf us.toArray 0)
 exact ⟨_, _, _, q, yq.trans yp, .mk _ us 0 (Wd.put_self ..) (hus.mono yp.le) hz'⟩
theorem se {e : Expr} {x : X} (h : RE J sc e x) {F : D → St → Prop} {ρ : Rg} {st : St} {A : Around} {s : Shared} {W : Wd} {env : Env} {R : Value → Shared → Prop} (H : Here J A env sc ρ st s W) (q : (run J.call x).e ρ st F) (hF : ∀ d st, F d st → ∃ i, d = .int i)
  (k : ∀ i v st' s' W', F (.int i) st' → Stp J.S W s st' s' W' → IsPart v (some i) → R v s') : Wq J.S A (evalPart (some e) env) R s := by
 refine zB (h.go H q) ?_
 rintro v s₁ ⟨d, st₁, W₁, q, y₁, r₁⟩
 obtain ⟨i, rfl⟩ := hF _ _ q
 obtain ⟨t, rfl⟩ := r₁
 exact k i _ st₁ _ W₁ q y₁ (.int _ _)
theorem sh {k : Sl} {a d : D} {st : St} {Q : D → Prop} (q : sL k a d st Q) : ∃ i, d = .int i := by
 cases d with
 | int i => exact ⟨i, rfl⟩
 | _ =>
  exfalso
  cases a with
  | list l => exact q
  | mref j =>
   obtain ⟨mo, hm, q⟩ := zL q
   cases mo <;> exact q
  | _ => exact q
theorem ll {e h : Expr} {x y : X} {pos pos' : Pos} (ha : RE J sc e x) (hb : RE J sc h y) : RE J sc (.Subscript e (.Slice none (some h) none pos') pos) (.slc .upto x y) := by
 refine ⟨@fun ρ st Q A s W env H q => Subscript_ (zB (ha.go H q) ?_)⟩
 rintro v s₁ ⟨d, st₁, W₁, q, y₁, r₁⟩
 refine wpAny_Slice (wpAny_pure (se hb (H.step y₁) q (fun U U q => sh q) fun i v2 st₂ s₂ W₂ q y₂ p => wpAny_pure ?_))
 exact zB (uY y₂.ok (r₁.mono y₂.le) q .none p .none) (PostD.trans (y₁.trans y₂))
theorem lp {e h : Expr} {x y : X} {pos pos' : Pos} (ha : RE J sc e x) (hb : RE J sc h y) : RE J sc (.Subscript e (.Slice (some h) none none pos') pos) (.slc .from x y) := by
 refine ⟨@fun ρ st Q A s W env H q => Subscript_ (zB (ha.go H q) ?_)⟩
 rintro v s₁ ⟨d, st₁, W₁, q, y₁, r₁⟩
 refine wpAny_Slice (se hb (H.step y₁) q (fun U U q => sh q) fun i v2 st₂ s₂ W₂ q y₂ p => wpAny_pure (wpAny_pure ?_))
 exact zB (uY y₂.ok (r₁.mono y₂.le) q p .none .none) (PostD.trans (y₁.trans y₂))
theorem iD {e h : Expr} {x y : X} {pos pos' : Pos} (ha : RE J sc e x) (hb : RE J sc h y) : RE J sc (.Subscript e (.Slice none none (some h) pos') pos) (.slc .rev x y) := by
 refine ⟨@fun ρ st Q A s W env H q => Subscript_ (zB (ha.go H q) ?_)⟩
 rintro v s₁ ⟨d, st₁, W₁, q, y₁, r₁⟩
 refine wpAny_Slice (wpAny_pure (wpAny_pure (se hb (H.step y₁) q (fun U U q => sh q) fun i v2 st₂ s₂ W₂ q y₂ p => ?_)))
 exact zB (uY y₂.ok (r₁.mono y₂.le) q .none .none p) (PostD.trans (y₁.trans y₂))
end
theorem yT {α β : Type} [BEq α] [LawfulBEq α] {n : α} : ∀ {ks : List α} {vs : List β}, n ∈ ks → ks.length = vs.length → ((ks.zip vs).lookup n).isSome = true
 | [], _, h, _ => by cases h
 | k :: ks, [], _, h => by simp at h
 | k :: ks, v :: vs, h, hl => by
  simp only [List.zip_cons_cons, List.lookup_cons]
  by_cases e : n == k
  ·simp [e]
  ·simp only [e]
   rcases List.mem_cons.mp h with rfl | h
   ·simp at e
   ·exact yT h (by simpa using hl)
theorem xj {α β : Type} {f g : α → Option β} : ∀ {l : List α}, (∀ x ∈ l, f x = g x) → l.filterMap f = l.filterMap g
 | [], _ => rfl
 | x :: l, h => by
  simp only [List.filterMap_cons, h x (.head _), xj fun y hy => h y (.tail _ hy)]
theorem wJ {α β : Type} [BEq α] [LawfulBEq α] : ∀ {ks : List α} {vs : List β}, ks.Nodup → ks.length = vs.length → (ks.filterMap fun n => ((ks.zip vs).lookup n).map (n, ·)) = ks.zip vs
 | [], _, _, _ => rfl
 | k :: ks, [], _, h => by simp at h
 | k :: ks, v :: vs, nd, hl => by
  obtain ⟨nk, nd⟩ := List.nodup_cons.mp nd
  have ih := wJ nd (by simpa using hl : ks.length = vs.length)
  simp only [List.zip_cons_cons, List.filterMap_cons, List.lookup_cons, beq_self_eq_true, Option.map_some]
  congr 1
  refine (xj fun n hn => ?_).trans ih
  have : (n == k) = false := beq_eq_false_iff_ne.mpr fun e => nk (e ▸ hn)
  simp only [this]
theorem rn {α β : Type} [BEq α] [LawfulBEq α] {ks ks' : List α} {vs : List β} (h : ∀ k ∈ ks', k ∈ ks) (hl : ks.length = vs.length) : (ks'.filter fun n => ((ks.zip vs).lookup n).isNone) = [] := by
 refine List.filter_eq_nil_iff.mpr fun n hn => ?_
 have := yT (h n hn) hl
 cases e : (ks.zip vs).lookup n <;> simp_all
theorem rp {α β : Type} {l : List α} {f : α → β → Sem (ForInStep β)} {c : β} (h : ∀ x ∈ l, f x c = pure (.yield c)) : forIn l c f = pure c := by
 induction l with
 | nil => rfl
 | cons x l ih =>
  rw [List.forIn_cons, h x List.mem_cons_self, pure_bind]
  exact ih fun y hy => h y (List.mem_cons_of_mem _ hy)
structure PlainArgs (ps : Arguments) : Prop where
 pos : ps.posonlyargs = []
 kwo : ps.kwonlyargs = []
 var : ps.vararg = none
 kw : ps.kwarg = none
 nd : (ps.args.map (·.arg)).Nodup
theorem oY {fd : FuncData} {ks : List Arg} {kd : List (Option Expr)} {df : List Expr} {vs : List Value} (hp : fd.params = ⟨[], ks, none, [], kd, none, df⟩) (nd : (ks.map (·.arg)).Nodup) (hlen : (ks.map (·.arg)).length = vs.length) : bindArgs fd ⟨vs, []⟩ = seqItems? fd.defaults >>= fun U => pure ((ks.map (·.arg)).zip vs) := by
 obtain ⟨x1, x2, x3, x4, x5, x6, x7, x8, x9, x10, x11, x12, x13, x14, x15⟩ := fd
 cases hp
 refine congrArg (fun k => seqItems? x8 >>= k) (funext fun x => ?_)
 have h1 : ¬ ((decide (vs.length > (ks.map (·.arg)).length) && true) = true) := by rw [hlen, decide_eq_false (Nat.lt_irrefl _)]; decide
 refine (if_neg h1).trans ?_
 show (if (!(List.filter (fun n => (((ks.map (·.arg)).zip vs).lookup n).isNone) ((ks.map (·.arg)).take _)).isEmpty) = true then _ else _) = _
 rw [rn (fun k hk => List.mem_of_mem_take hk) hlen]
 refine (congrArg (· >>= _) (rp (fun p hp => ?_))).trans ?_
 ·have hm : p.1 ∈ ks.map (·.arg) := List.mem_of_mem_drop (List.of_mem_zip (a := p.1) (b := p.2) hp).1
  have := yT hm hlen
  refine if_neg fun e => ?_
  have e : ((ks.map (·.arg)).zip vs).lookup p.1 = none := Option.isNone_iff_eq_none.mp e
  rw [e] at this
  exact ff this
 ·refine congrArg (pure : List (Str × Value) → Sem (List (Str × Value))) ?_
  show (((ks.map fun a : Arg => a.arg) ++ []).filterMap fun n => (((ks.map fun a : Arg => a.arg).zip vs).lookup n).map (n, ·)) = _
  rw [List.append_nil]
  exact wJ nd hlen
theorem uZ {fd : FuncData} {vs : List Value} {s : Shared} (hp : PlainArgs fd.params) (hl : fd.params.args.length = vs.length)
  (hd : fd.defaults = .none ∨ ∃ T o items n, fd.defaults = .ref T ∧ s.heap.get? T = some o ∧ o.data = .seq items n) : BindsTo s fd ⟨vs, []⟩ ((fd.params.args.map (·.arg)).zip vs) := by
 intro M A E Q hq
 have hlen : (fd.params.args.map (·.arg)).length = vs.length := (List.length_map _).trans hl
 have e : fd.params = ⟨[], fd.params.args, none, [], fd.params.kw_defaults, none, fd.params.defaults⟩ := by
  obtain ⟨h1, h2, h3, h4, _⟩ := hp
  generalize fd.params = p at h1 h2 h3 h4
  obtain ⟨p1, p2, p3, p4, p5, p6, p7⟩ := p
  cases h1; cases h2; cases h3; cases h4; rfl
 rw [oY e hp.nd hlen]
 rcases hd with hd | ⟨T, o, items, n, hd, ho, hs⟩
 ·rw [hd]; exact wpAny_bind (show wpAny _ _ (pure none) _ _ _ from wpAny_pure (wpAny_pure hq))
 ·rw [hd]
  refine wpAny_bind ?_
  unfold seqItems?
  refine wpAny_bind (wpAny_load ho ?_)
  rw [hs]
  exact wpAny_pure (wpAny_pure hq)
structure FunOk (S : Sta) (fd : FuncData) : Prop where
 args : PlainArgs fd.params
 dflt : fd.defaults = .none ∨ ∃ T o items n, fd.defaults = .ref T ∧ S.b₀.get? T = some o ∧ o.data = .seq items n
 glob : fd.globals = mainGlobals
 blt : fd.builtins = builtinsNs
 clo : fd.closure = []
 code : S.b₀.CodeRec fd.code fd.qualname
inductive IsFun (S : Sta) (a : Addr) (fd : FuncData) : Prop
 | mk (o : Obj) (h : S.b₀.get? a = some o) (d : o.data = .func fd) (k : keepIn S.K (.ref a) = true) (ok : FunOk S fd)
structure Facts (S : Sta) : Prop where
 conEq : S.ConEq
 dictNe : S.DictNe
 get : ∀ c : Cls, plainGet S.K c.addr "" = true
 hasd : ∀ c : Cls, hasDictIn S.K c.addr = true
 fld : ∀ (c : Cls), ∀ f ∈ c.flds, findIn S.K (.ref c.addr) f.str = some none
 meth : ∀ (c : Cls) x m, ve c (S.g.meth x) = some m → findIn S.K (.ref c.addr) x = some (some (.ref m)) ∧ isFn S.K (.ref m) = true ∧ ∀ f ∈ c.flds, f.str ≠ x
 make : ∀ c : Cls, makesIn S.K c.addr = true
section
variable {J : Jd} {sc : Scope}
theorem wV {x : Str} {f : Fld} (h : xZ x = some f) : f.str = x := beq_iff_eq.mp (List.find?_some (p := fun f : Fld => f.str == x) h)
theorem vT (a x : Str) (t : Tok) : (Value.str a t).isStr x = (a == x) := rfl
theorem Fld.str_inj {f g : Fld} (h : f.str = g.str) : f = g := by
 have k : ∀ f : Fld, xZ f.str = some f := by intro f; cases f <;> rfl
 exact Option.some.inj ((k f).symm.trans ((congrArg xZ h).trans (k g)))
inductive EAt (S : Sta) (W : Wd) (c : List Fld) (f : Fld) (es : List DictEntry) (d : D) : Prop
 | mk (v : Value) (m : f ∈ c) (e : getL f.str es = some (some v)) (r : Rep S W d v)
set_option tactic.hygienic true in
theorem tZ {S : Sta} {W : Wd} {f : Fld} {fs : List Fld} {es : List DictEntry} {vs : List Value} (y : Ents fs es vs) : ∀ {l : List D} {d : D}, RepL S W l vs → zz fs l f = some d → EAt S W fs f es d := by
 induction y with
 | nil => exact fun U h => nn h
 | @cons g fs _ t _ es vs _ ih =>
  intro l d r h
  cases l with
  | nil => exact nn h
  | cons e l =>
   obtain ⟨v, r, a, b⟩ := r
   have h : (match Nat.beq f.ctorIdx g.ctorIdx with | true => some e | false => zz fs l f) = some d := h
   cases q : Nat.beq f.ctorIdx g.ctorIdx with
   | true =>
    rw [q] at h
    cases h; cases Fld.idx_inj q
    exact ⟨_, .head _, by simp [getL, vT], a⟩
   | false =>
    rw [q] at h
    have q2 : (g.str == f.str) = false := beq_eq_false_iff_ne.mpr fun e => by
     cases Fld.str_inj e
     exact absurd q (by rw [Nat.beq_refl]; decide)
    obtain ⟨u, m, h1, h2⟩ := ih b h
    refine ⟨u, .tail _ m, ?_, h2⟩
    unfold getL at h1 ⊢
    simp only [List.find?_cons, vT, q2]
    split at h1
    ·rename_i e he; cases h1; rw [he]
    ·split at h1 <;> cases h1
set_option tactic.hygienic true in
theorem oZ {x : Str} {fs : List Fld} {es : List DictEntry} {vs : List Value} (en : Ents fs es vs) : (∀ f ∈ fs, f.str ≠ x) → getL x es = some none := by
 induction en with
 | nil => intro _; rfl
 | @cons f _ _ _ _ es _ en ih =>
  intro hx
  have ih := ih (fun g hg => hx g (.tail _ hg))
  have q : (f.str == x) = false := beq_eq_false_iff_ne.mpr (hx f (.head _))
  unfold getL at ih ⊢
  simp only [List.find?_cons, vT, q]
  split at ih
  ·cases ih
  ·rename_i he
   rw [he]
   split at ih
   ·cases ih
   ·rename_i hr
    refine if_neg fun h => hr ?_
    rw [List.any_cons, Bool.or_eq_true] at h
    rcases h with h | h
    ·cases h
    ·exact h
theorem u0 {S : Sta} {W : Wd} {d : D} {v : Value} (r : Rep S W d v) : handedIn v = true := by
 cases d with
 | val u => obtain ⟨rfl, h⟩ := r; exact h
 | none => cases r; rfl
 | bool => cases r; rfl
 | int => obtain ⟨t, rfl⟩ := r; rfl
 | str => obtain ⟨t, rfl⟩ := r; rfl
 | list => obtain ⟨a⟩ := r; rfl
 | tup => obtain ⟨a⟩ := r; rfl
 | obj => obtain ⟨a⟩ := r; rfl
 | clo => obtain ⟨a⟩ := r; rfl
 | mref => obtain ⟨a, rfl, _⟩ := r; rfl
theorem wA {c : Cls} {h : Heap} {a dx : Addr} {es : List DictEntry} {n : Nat} (h1 : h.get? a = some (instObj c.addr dx)) (h2 : h.get? dx = some (dictOf es n)) : InstAt h a (instObj c.addr dx) c.addr (some (dictOf es n)) :=
 ⟨h1, rfl, rfl, h2⟩
theorem pq (T : Facts J.S) {c : Cls} {f : Fld} {A : Around} {s : Shared} {W : Wd} {st : St} {a dx : Addr} {es : List DictEntry} {n : Nat} {v : Value} {ex : Bool} {Q : Value → Shared → Prop} (O : Ok J.S W st s.heap)
  (h1 : s.heap.get? a = some (instObj c.addr dx)) (h2 : s.heap.get? dx = some (dictOf es n)) (hf : f ∈ c.flds) (hg : getL f.str es = some (some v)) (hv : handedIn v = true) (q : Q v { s with toks := s.toks + 1 }) : Wq J.S A (getAttr (.ref a) f.str ex) Q s :=
 get_value O.kin (wA h1 h2) (plainGet_of (name := f.str) (T.get c)).1 (findObj_own (T.hasd c) (T.fld c f hf) rfl hg) hv q
theorem pz (T : Facts J.S) {f : Fld} {d : D} {st : St} {Q : D → St → Prop} {A : Around} {s : Shared} {W : Wd} {v : Value} {ex : Bool} (O : Ok J.S W st s.heap) (r : Rep J.S W d v) (q : pX d f st fun d => Q d st) : Wq J.S A (getAttr v f.str ex) (PostD J.S W s Q) s := by
 have some_of : ∀ {fs : List Fld} {l : List D} {F : D → Prop}, (match zz fs l f with | some d => F d | none => False) → ∃ d, zz fs l f = some d ∧ F d := by
  intro fs l F h
  cases e : zz fs l f with
  | some d => rw [e] at h; exact ⟨d, rfl, h⟩
  | none => rw [e] at h; exact h.elim
 cases d with
 | obj t c l =>
  obtain ⟨d, hd, q⟩ := some_of q
  obtain ⟨a, dx, es, n, vs, f1, f2, en, rl⟩ := r
  obtain ⟨u, m, g1, g2⟩ := tZ en rl hd
  exact pq T O (O.frz _ _ _ f1) (O.frz _ _ _ f2) m g1 (u0 g2) ⟨d, st, W, q, .toks O _, g2⟩
 | mref k =>
  obtain ⟨a, rfl, ha⟩ := r
  obtain ⟨mo, hm, q⟩ := zL q
  cases mo with
  | ins c fs l =>
   obtain ⟨d, hd, q⟩ := some_of q
   obtain ⟨dx, es, n, vs, _, i1, _, i2, en, rl, hs⟩ := O.place hm ha
   obtain ⟨u, m, g1, g2⟩ := tZ en rl hd
   exact pq T O i1 i2 (hs f m) g1 (u0 g2) ⟨d, st, W, q, .toks O _, g2⟩
  | _ => exact q.elim
 | _ => exact q.elim
theorem u1 {e : Expr} (h : yK e = true) (attr : Str) (env : Env) (whole : Sem Value) : attributeBase e attr env whole = whole := by
 cases e with
 | Call f a k p => cases f with
  | Name => cases a with
   | nil => cases k with
    | nil => exact ff h
    | cons => rfl
   | cons => rfl
  | _ => rfl
 | _ => rfl
theorem lq (T : Facts J.S) {e : Expr} {x : X} {n : Str} {f : Fld} {pos : Pos} (h : RE J sc e x) (hb : yK e = true) (hf : xZ n = some f) : RE J sc (.Attribute e n pos) (.att x f) := by
 cases wV hf
 refine ⟨@fun ρ st Q A s W env H q => Attribute_any_ (zB (h.go H q) ?_) (by rw [arm_eval_Attribute, u1 hb])⟩
 rintro v s₁ ⟨d, st₁, W₁, q, y₁, r₁⟩
 exact zB (pz T y₁.ok r₁ q) (PostD.trans y₁)
end
theorem vh {kindOf : Str → Option NameKind} {x : Str} : ∀ {ks : List Str} {vs : List Value} {m : Str → Option Value}, x ∉ ks → bindL kindOf (ks.zip vs) m x = m x
 | [], _, _, _ => rfl
 | k :: ks, [], _, _ => rfl
 | k :: ks, v :: vs, m, h => by
  have h1 : x ≠ k := fun e => h (e ▸ .head _)
  simp only [List.zip_cons_cons, bindL]
  rw [vh fun q => h (.tail _ q)]
  split
  ·simp [h1]
  ·rfl
theorem rq {kindOf : Str → Option NameKind} {x : Str} {v : Value} (hk : kindOf x = some .local) : ∀ {ks : List Str} {vs : List Value} {m : Str → Option Value}, ks.Nodup → (ks.zip vs).lookup x = some v → bindL kindOf (ks.zip vs) m x = some v
 | [], _, _, _, h => by simp at h
 | k :: ks, [], _, _, h => by simp at h
 | k :: ks, u :: vs, m, nd, h => by
  obtain ⟨nk, nd⟩ := List.nodup_cons.mp nd
  simp only [List.zip_cons_cons, List.lookup_cons] at h
  simp only [List.zip_cons_cons, bindL]
  by_cases q : x = k
  ·subst q
   simp at h; subst h
   rw [vh nk]; simp [hk]
  ·have q1 : (x == k) = false := beq_eq_false_iff_ne.mpr q
   simp only [q1] at h
   exact rq hk nd h
theorem vi {kindOf : Str → Option NameKind} {x : Str} : ∀ {ks : List Str} {vs : List Value} {m : Str → Option Value}, x ∉ ks → bindC kindOf (ks.zip vs) m x = m x
 | [], _, _, _ => rfl
 | k :: ks, [], _, _ => rfl
 | k :: ks, v :: vs, m, h => by
  have h1 : x ≠ k := fun e => h (e ▸ .head _)
  simp only [List.zip_cons_cons, bindC]
  rw [vi fun q => h (.tail _ q)]
  split
  ·rfl
  ·simp [h1]
theorem rt {kindOf : Str → Option NameKind} {x : Str} {v : Value} (hk : kindOf x = some .cell) : ∀ {ks : List Str} {vs : List Value} {m : Str → Option Value}, ks.Nodup → (ks.zip vs).lookup x = some v → bindC kindOf (ks.zip vs) m x = some v
 | [], _, _, _, h => by simp at h
 | k :: ks, [], _, _, h => by simp at h
 | k :: ks, u :: vs, m, nd, h => by
  obtain ⟨nk, nd⟩ := List.nodup_cons.mp nd
  simp only [List.zip_cons_cons, List.lookup_cons] at h
  simp only [List.zip_cons_cons, bindC]
  by_cases q : x = k
  ·subst q
   simp at h; subst h
   rw [vi nk]; simp [hk]
  ·have q1 : (x == k) = false := beq_eq_false_iff_ne.mpr q
   simp only [q1] at h
   exact rt hk nd h
set_option tactic.hygienic true in
theorem zv {x : Str} : ∀ {l : List (Str × NameKind)} {n : Nat} {acc : List (Str × Addr)}, (l.lookup x = some .cell ∨ (acc.lookup x).isSome = true) → (l.map (·.1)).Nodup → ((cellsFrom n l acc).lookup x).isSome = true
 | [], n, acc, h, _ => by
  rcases h with h | h
  ·simp at h
  ·exact h
 | (y, k) :: l, n, acc, h, nd₀ => by
  have nd := (List.nodup_cons.mp nd₀).2
  clear nd₀
  unfold cellsFrom
  by_cases q : x = y
  ·subst q
   have key : k = .cell ∨ (acc.lookup x).isSome = true := by
    rcases h with h | h
    ·simp at h; exact .inl h
    ·exact .inr h
   split
   ·exact zv (.inr (by simp)) nd
   ·rename_i hk
    rcases key with rfl | h
    ·simp at hk
    ·exact zv (.inr h) nd
  ·have q1 : (x == y) = false := beq_eq_false_iff_ne.mpr q
   simp only [List.lookup_cons, q1] at h
   split
   ·refine zv ?_ nd
    rcases h with h | h
    ·exact .inl h
    ·exact .inr (by simp only [List.lookup_cons, q1]; exact h)
   ·exact zv h nd
set_option tactic.hygienic true in
theorem mem_lookup {x : Str} {c : Addr} : ∀ {l : List (Str × Addr)}, l.lookup x = some c → (x, c) ∈ l
 | [], h => by simp at h
 | (y, d) :: l, h => by
  simp only [List.lookup_cons] at h
  split at h
  ·rename_i q; cases h; rw [beq_iff_eq.mp q]; exact .head _
  ·exact .tail _ (mem_lookup h)
theorem rz {x y : Str} {c : Addr} : ∀ {l : List (Str × Addr)}, l.Pairwise (fun a b => a.2 ≠ b.2) → l.lookup x = some c → l.lookup y = some c → y = x
 | [], _, h, _ => by simp at h
 | (z, d) :: l, p, h, k => by
  obtain ⟨p1, p2⟩ := List.pairwise_cons.mp p
  by_cases qx : x = z
  ·by_cases qy : y = z
   ·rw [qx, qy]
   ·have e1 : (y == z) = false := beq_eq_false_iff_ne.mpr qy
    subst qx
    simp only [List.lookup_cons, beq_self_eq_true] at h
    simp only [List.lookup_cons, e1] at k
    cases h
    exact (p1 (y, c) (mem_lookup k) rfl).elim
  ·have e1 : (x == z) = false := beq_eq_false_iff_ne.mpr qx
   simp only [List.lookup_cons, e1] at h
   by_cases qy : y = z
   ·subst qy
    simp only [List.lookup_cons, beq_self_eq_true] at k
    cases k
    exact (p1 (x, c) (mem_lookup h) rfl).elim
   ·have e2 : (y == z) = false := beq_eq_false_iff_ne.mpr qy
    simp only [List.lookup_cons, e2] at k
    exact rz p2 h k
noncomputable def Own (env : Env) (a : Addr) : Prop := a = env.locals ∨ ∃ x, env.kindOf x = some .cell ∧ env.cells.lookup x = some a
structure FrR (S : Sta) (W : Wd) (env : Env) (sc : Scope) (h : Heap) : Prop where
 own : ∃ a fd, IsFun S a fd ∧ fd.scope = sc ∧ env.code = fd.code ∧ env.qual = fd.qualname ++ ".<locals>."
 cell : ∀ x, env.kindOf x = some .cell → ∃ c, env.cells.lookup x = some c ∧ W.Ψ c = none ∧ (∃ v, h.IsCell c v) ∧ c ≠ env.locals ∧ ∀ y, env.cells.lookup y = some c → y = x
structure StpF (S : Sta) (env : Env) (W : Wd) (s : Shared) (st' : St) (s' : Shared) (W' : Wd) : Prop where
 eq : ∃ h' tk, s' = { s with heap := h', toks := tk }
 ok : Ok S W' st' s'.heap
 le : W.Le W'
 non : ∀ a o, s.heap.get? a = some o → W.Ψ a = none → ¬ Own env a → W'.Ψ a = none
 keep : ∀ a o, s.heap.get? a = some o → NotSig W a → ¬ Own env a → s'.heap.get? a = some o
section
variable {S : Sta} {W W' W'' : Wd} {s s' s'' : Shared} {st' st'' : St} {env : Env}
theorem Stp.toF (x : Stp S W s st' s' W') : StpF S env W s st' s' W' := ⟨x.eq, x.ok, x.le, fun a o h n U => x.non a o h n, fun a o e n U => x.keep a o e n⟩
theorem StpF.nsig (x : StpF S env W s st' s' W') {a : Addr} {o : Obj} (ha : s.heap.get? a = some o) (n : NotSig W a) (no : ¬ Own env a) : NotSig W' a := by
 cases q : W.Ψ a with
 | none => exact .of_none (x.non a o ha q no)
 | some g => cases g with
  | frz o t => exact .of_frz (x.le.frz _ _ _ q)
  | sig k => exact absurd q (n k)
theorem StpF.trans (x : StpF S env W s st' s' W') (y : StpF S env W' s' st'' s'' W'') : StpF S env W s st'' s'' W'' := by
 have k := fun a o e n no => y.keep a o (x.keep a o e n no) (x.nsig e n no) no
 have nn := fun a o e n no => y.non a o (x.keep a o e (.of_none n) no) (x.non a o e n no) no
 refine hid fun hG => ?_
 obtain ⟨h', tk, rfl⟩ := x.eq
 obtain ⟨h'', tk', rfl⟩ := y.eq
 refine hG ?_
 exact ⟨⟨h'', tk', rfl⟩, y.ok, x.le.trans y.le, nn, k⟩
theorem FrR.step (f : FrR S W env sc s.heap) (y : Stp S W s st' s' W') : FrR S W' env sc s'.heap :=
 ⟨f.own, fun x hx => by obtain ⟨c, h1, h2, ⟨v, o, ho, hv⟩, h4, h5⟩ := f.cell x hx; exact ⟨c, h1, y.non c o ho h2, ⟨v, o, y.keep _ _ ho (.of_none h2), hv⟩, h4, h5⟩⟩
end
inductive PostS (S : Sta) (env : Env) (sc : Scope) (W : Wd) (s : Shared) (Q : Out → St → Prop) : Flow → Shared → Prop
 | fall (ρ : Rg) (st' : St) (s' : Shared) (W' : Wd) (q : Q (.fall ρ) st') (y : StpF S env W s st' s' W') (he : EnvR S W' env sc ρ s'.heap) (f : FrR S W' env sc s'.heap) : PostS S env sc W s Q .next s'
 | ret (d : D) (v : Value) (st' : St) (s' : Shared) (W' : Wd) (q : Q (.ret d) st') (y : StpF S env W s st' s' W') (r : Rep S W' d v) : PostS S env sc W s Q (.ret v) s'
structure RS (J : Jd) (sc : Scope) (t : Env → Sem Flow) (x : X) : Prop where
 go : ∀ {ρ : Rg} {st : St} {Q : Out → St → Prop} {A : Around} {s : Shared} {W : Wd} {env : Env}, Here J A env sc ρ st s W → FrR J.S W env sc s.heap → (run J.call x).s ρ st Q → Wq J.S A (t env) (PostS J.S env sc W s Q) s
structure CallOK (S : Sta) (n : Nat) (c : zp) : Prop where
 go : ∀ {f : D} {args : List D} {st : St} {Q : D → St → Prop} {A : Around} {s : Shared} {W : Wd} {fv : Value} {vs : List Value}, Room n A → Ok S W st s.heap → Rep S W f fv → RepL S W args vs → c f args st Q → Wq S A (call fv vs) (PostD S W s Q) s
structure CodeOK (S : Sta) (n : Nat) (c : zp) : Prop where
 go : ∀ {f : D} {args : List D} {st : St} {Q : D → St → Prop} {A : Around} {s : Shared} {W : Wd} {fv : Value} {vs : List Value} {R : Result → Shared → Prop}, Room n A → Ok S W st s.heap → Rep S W f fv → RepL S W args vs → c f args st Q → (∀ v s', PostD S W s Q v s' → R (.ok (.ret v)) s') → codeAny (model S.prog S.w) A (.call fv ⟨vs, []⟩) R s
theorem ym : ∀ {l : List (Str × NameKind)} {x : Str} {i : Nat}, ix l x = some i → ∃ k, l[i]? = some (x, k)
 | [], _, _, h => nn h
 | (y, k) :: l, x, i, h => by
  have h : (match x == y with | true => some 0 | false => (ix l x).map (· + 1)) = some i := h
  cases q : x == y with
  | true => rw [q] at h; cases h; rw [beq_iff_eq.mp q]; exact ⟨k, rfl⟩
  | false =>
   rw [q] at h
   obtain ⟨j, hj, rfl⟩ := Option.map_eq_some_iff.mp h
   obtain ⟨k', e⟩ := ym hj
   exact ⟨k', e⟩
theorem u2 {x : Str} {k : NameKind} : ∀ {l : List (Str × NameKind)}, (l.map (·.1)).Nodup → (x, k) ∈ l → l.lookup x = some k
 | [], _, h => nm h
 | (y, k') :: l, nd, h => by
  obtain ⟨n1, n2⟩ := List.nodup_cons.mp nd
  rw [List.lookup_cons]
  rcases List.mem_cons.mp h with h | h
  ·cases h; rw [beq_self_eq_true]
  ·have q : (x == y) = false := beq_eq_false_iff_ne.mpr fun e => n1 (by rw [← e]; exact List.mem_map.mpr ⟨_, h, rfl⟩)
   rw [q]; exact u2 n2 h
theorem yD {x : Str} {k : NameKind} : ∀ {l : List (Str × NameKind)}, l.lookup x = some k → (x, k) ∈ l
 | [], h => nn h
 | (y, k') :: l, h => by
  rw [List.lookup_cons] at h
  cases q : x == y with
  | true => rw [q] at h; cases h; rw [beq_iff_eq.mp q]; exact .head _
  | false => rw [q] at h; exact .tail _ (yD h)
theorem si {sc : Scope} {x : Str} {i : Nat} (nd : (sc.names.map (·.1)).Nodup) (h : ix (zd sc) x = some i) : ∃ k, zO sc x = some k ∧ nh k = true ∧ (zd sc)[i]? = some (x, k) := by
 obtain ⟨k, e⟩ := ym h
 have m := List.mem_filter.mp (List.mem_of_getElem? e)
 exact ⟨k, u2 nd m.1, m.2, e⟩
theorem sj {ds : List D} {d : D} : ∀ {ini : List (Option Nat)} {i : Nat}, nth (yW ds ini) i = some d → ∃ j, ini[i]? = some (some j) ∧ ds[j]? = some d
 | [], _, h => nn h
 | none :: _, 0, h => nn h
 | some j :: _, 0, h => ⟨j, rfl, h⟩
 | none :: _, i + 1, h => sj (i := i) h
 | some _ :: _, i + 1, h => sj (i := i) h
theorem xH {x : Str} {α : Type} {d : α} : ∀ {ks : List Str} {ds : List α} {j : Nat}, yk ks x = some j → ds[j]? = some d → (ks.zip ds).lookup x = some d
 | [], _, _, h, _ => nn h
 | y :: ks, [], _, _, h => nn h
 | y :: ks, e :: ds, j, h, hd => by
  have h : (match x == y with | true => some 0 | false => (yk ks x).map (· + 1)) = some j := h
  rw [List.zip_cons_cons, List.lookup_cons]
  cases q : x == y with
  | true => rw [q] at h; cases h; exact hd
  | false =>
   rw [q] at h
   refine hid fun hG => ?_
   obtain ⟨i, hi, rfl⟩ := Option.map_eq_some_iff.mp h
   refine hG ?_
   exact xH hi hd
theorem mD {sc : Scope} {ks : List Str} {args : List D} {x : Str} {d : D} (nd : (sc.names.map (·.1)).Nodup) (h : yb sc (yW args ((zd sc).map fun p => yk ks p.1)) x = some d) : (∃ k, zO sc x = some k ∧ nh k = true) ∧ (ks.zip args).lookup x = some d := by
 refine hid fun hG => ?_
 obtain ⟨i, hi, h⟩ := z7 h
 obtain ⟨k, h1, h2, h3⟩ := si nd hi
 obtain ⟨j, e, hj⟩ := sj h
 refine hG ?_
 rw [List.getElem?_map, h3] at e
 exact ⟨⟨k, h1, h2⟩, xH (Option.some.inj e) hj⟩
theorem wW {S : Sta} {W : Wd} {x : Str} : ∀ {ks : List Str} {l : List D} {vs : List Value} {d : D}, RepL S W l vs → (ks.zip l).lookup x = some d → RAt S W d ((ks.zip vs).lookup x)
 | [], _, _, _, _, h => nn h
 | k :: ks, [], _, _, _, h => nn h
 | k :: ks, e :: l, _, d, r, h => by
  obtain ⟨v, r, a, b⟩ := r
  rw [List.zip_cons_cons, List.lookup_cons] at h ⊢
  cases q : x == k with
  | true => rw [q] at h; cases h; exact ⟨v, rfl, a⟩
  | false => rw [q] at h; exact wW b h
structure ScOk (sc : Scope) : Prop where
 kind : sc.kind = .function
 gen : sc.isGenerator = false
 cor : sc.isCoroutine = false
 nd : (sc.names.map (·.1)).Nodup
 nm : ∀ x k, zO sc x = some k → (x == ("__debug__" : Str)) = false ∧ (x == ("__classdict__" : Str)) = false
theorem vU {sc : Scope} (h : rQ sc = true) : ScOk sc := by
 unfold rQ at h
 simp only [Bool.and_eq_true, Bool.not_eq_true', beq_iff_eq, decide_eq_true_eq] at h
 exact ⟨h.1.1.1.2, h.1.1.2, h.1.2, h.2, fun x k hk => by simpa using List.all_eq_true.mp h.1.1.1.1 _ (yD hk)⟩
section
variable {S : Sta} {n : Nat}
theorem mE {call : zp} {nw : Nw} {fd : FuncData} {a : Addr} {body : List Stmt} {args : List D} {x : X} {st : St} {Q : D → St → Prop} {A : Around} {s : Shared} {W : Wd} {vs : List Value} {R : Result → Shared → Prop}
  (hf : IsFun S a fd) (hb : fd.body = .stmts body) (hk : p8 fd.params fd.scope = true) (hlen : args.length = fd.params.args.length) (hs : RS ⟨S, n, call, nw⟩ fd.scope (execs body) x)
  (q : (run call x).s (yW args ((zd fd.scope).map fun p => yk (fd.params.args.map (·.arg)) p.1)) st (wO Q)) (hr : Room (n + 1) A) (O : Ok S W st s.heap) (r : RepL S W args vs)
  (hR : ∀ v s', PostD S W s Q v s' → R (.ok (.ret v)) s') : codeAny (model S.prog S.w) A (.call (.ref a) ⟨vs, []⟩) R s := by
 refine hid fun hG => ?_
 obtain ⟨o, ho, hd, hkp, F⟩ := hf
 unfold p8 at hk
 simp only [Bool.and_eq_true] at hk
 obtain ⟨⟨hk1, hk2⟩, hk3⟩ := hk
 obtain ⟨hk12, hk14, hk13, nd, nm⟩ := vU hk1
 refine hG ?_
 have keep := O.keep
 refine codeAny_call_function (by have := hr.depth; exact lin1 [_,_,_] 0 S0 V1 1 (.a (.a (.a V0 (.m 4 S2)) (.n 4)) U1) V1 tt this) (keep _ _ ho) hd hk13 hk14 hb (F.code.keeps keep) (uZ F.args (hlen.symm.trans r.length) ?_ _ _ _ _ ?_)
 ·rcases F.dflt with h | ⟨T, o, items, m, h1, h2, h3⟩
  ·exact .inl h
  ·exact .inr ⟨T, o, items, m, h1, keep _ _ h2, h3⟩
 rw [F.clo, F.glob, F.blt]
 refine wpAny_newFunctionEnv_cells hk12 (fun y hy => ?_) fun env he s₁ x => ?_
 ·obtain ⟨b, hb, e⟩ := List.mem_map.mp (List.of_mem_zip (a := y.1) (b := y.2) hy).1
  have := List.all_eq_true.mp hk3 b hb
  rw [e] at this
  simp only [Bool.or_eq_true, beq_iff_eq] at this
  rcases this with h | h
  ·exact .inl h
  ·exact .inr ⟨h, zv (.inl h) nd⟩
 subst he
 let env := newEnv fd.scope s.heap.objs.size mainGlobals (cellsFrom (s.heap.objs.size + 1) fd.scope.names []) (fd.qualname ++ ".<locals>.") (some a) fd.code none builtinsNs
 have hL : env.locals = s.heap.objs.size := rfl
 refine hid fun hG => ?_
 obtain ⟨h₁, tk, rfl, hkeep⟩ := x.done
 refine hG ?_
 have ns := x.toInCall.ns
 have y₀ : Stp S W s st { s with heap := h₁, toks := tk } W := .quiet O hkeep
 have above : ∀ y c, env.cells.lookup y = some c → s.heap.objs.size < c := fun y c h => x.above y c (mem_lookup h)
 have fresh : ∀ y c, env.cells.lookup y = some c → W.Ψ c = none := fun y c h => O.fresh (zX (Nat.le_of_lt (above y c h)))
 refine ⟨O.topr.nolimit.keeps hkeep, codeAny_func ?_⟩
 have nofree : ∀ y, zO fd.scope y ≠ some .free := fun y h => by
  have := List.all_eq_true.mp hk2 (y, .free) (yD h)
  simp at this
 have hcell : ∀ y, zO fd.scope y = some .cell → ∃ c, env.cells.lookup y = some c := fun y h => Option.isSome_iff_exists.mp (zv (.inl h) nd)
 have E₁ : EnvR S W env fd.scope (yW args ((zd fd.scope).map fun p => yk (fd.params.args.map (·.arg)) p.1)) h₁ :=
  {kind := hk12
   kl := fun y h => h
   kc := fun y h => h
   kf := fun y h => .inr h
   kg := fun y h => h
   glob := rfl
   blt := rfl
   ns := ⟨_, ns⟩
   loc := O.fresh (zX (Nat.le_refl _))
   nm := nm
   clo := fun y h => h.elim (hcell y) fun h => absurd h (nofree y)
   vars := fun y e h => by
    refine hid fun hG => ?_
    obtain ⟨⟨k, hk, hreg⟩, h⟩ := mD nd h
    obtain ⟨v, hv, hrep⟩ := wW r h
    refine hG ?_
    cases k with
    | «local» => exact ⟨v, .inl ⟨hk, _, ns, rq hk F.args.nd hv⟩, hrep⟩
    | cell =>
     obtain ⟨c, hc⟩ := hcell y hk
     have := x.cell y c hc
     rw [rt (kindOf := env.kindOf) hk F.args.nd hv] at this
     exact ⟨v, .inr ⟨.inl hk, c, hc, this, .of_none (fresh y c hc)⟩, hrep⟩
    | free => exact absurd hk (nofree y)
    | globalImplicit => cases hreg
    | globalExplicit => cases hreg }
 have F₁ : FrR S W env fd.scope h₁ := ⟨⟨a, fd, ⟨o, ho, hd, hkp, F⟩, rfl, rfl, rfl⟩, fun y h => by
  obtain ⟨c, hc⟩ := hcell y h
  exact ⟨c, hc, fresh y c hc, ⟨_, x.cell y c hc⟩, Nat.ne_of_gt (above y c hc), fun z hz => rz x.apart hc hz⟩⟩
 have notOwn : ∀ b, b < s.heap.objs.size → ¬ Own env b := fun b hb h => by
  rcases h with h | ⟨y, _, h⟩
  ·exact absurd hb (by rw [h, hL]; exact Nat.lt_irrefl _)
  ·have := above y b h; exact no1 (lin2 [_,_] 1 U1 U0 1 S0 V1 1 S1 V0 tt hb this)
 have hr' : Room n (A.deeper env) := ⟨hr.hd, by show A.depth + 1 + 4 * n + 4 < _; have := hr.depth; exact lin1 [_,_,_] 0 (.a (.a (.a S0 (.m 4 V1)) (.n 4)) U1) V2 1 (.a (.a (.a V0 (.m 4 S1)) (.n 4)) U1) V2 tt this, by show A.units + 3 + 40 * n + 40 < _; have := hr.units; exact lin1 [_,_,_] 0 (.a (.a (.a (.a V0 (.n 3)) (.m 40 V1)) (.n 40)) U1) V2 1 (.a (.a (.a V0 (.m 40 S1)) (.n 40)) U1) V2 tt this⟩
 have hst : ∀ {st₁ s₂ W'}, StpF S env W { s with heap := h₁, toks := tk } st₁ s₂ W' → Stp S W s st₁ s₂ W' := by
  intro st₁ s₂ W' y
  obtain ⟨h'', tk', rfl⟩ := y.eq
  exact ⟨⟨_, _, rfl⟩, y.ok, y.le, fun b ob e hn => y.non b ob (hkeep _ _ e) hn (notOwn b (Heap.lt_size e)), fun b ob e hn => y.keep b ob (hkeep _ _ e) hn (notOwn b (Heap.lt_size e))⟩
 refine wpAny_mono (hs.go (env := env) ⟨hr', E₁, y₀.ok⟩ F₁ q) (fun fl s₂ h => ?_) fun U U h => h.elim
 cases h with
 | fall ρ st₁ _ W' q y => exact hR _ _ ⟨.none, st₁, W', q, hst y, rfl⟩
 | ret e v st₁ _ W' q y hv => exact hR _ _ ⟨e, st₁, W', q, hst y, hv⟩
end
theorem Ok.putSig {S : Sta} {W : Wd} {st : St} {h : Heap} (O : Ok S W st h) {a : Addr} (k : Nat) (ha : ∃ o, h.get? a = some o) (hn : W.Ψ a = none) : Ok S (W.put a (.sig k)) st h where
 frz := fun b ob t e => by
  by_cases q : b = a
  ·subst q; rw [W.put_self] at e; cases e
  ·rw [W.put_ne _ q] at e; exact O.frz b ob t e
 low := fun b g e => by
  by_cases q : b = a
  ·subst q; exact ha
  ·rw [W.put_ne _ q] at e; exact O.low b g e
 base := fun b ob e => by
  by_cases q : b = a
  ·subst q; have := O.base _ _ e; rw [hn] at this; cases this
  ·rw [W.put_ne _ q]; exact O.base b ob e
 len := O.len
 sto := fun i mo e => by
  obtain ⟨b, e1, e2⟩ := O.sto i mo e
  refine ⟨b, e1, e2.move (Wd.put_le fun o t q => by rw [hn] at q; cases q) (fun c hc => ?_) fun U U U e => e⟩
  rw [W.put_ne _ (fun q => by rw [q, hn] at hc; cases hc)]; exact hc
 tag := fun b ob t e => by
  by_cases q : b = a
  ·subst q; rw [W.put_self] at e; cases e
  ·rw [W.put_ne _ q] at e; exact O.tag b ob t e
 tags := O.tags
section
variable {S : Sta}
theorem mF {W : Wd} {st : St} {h : Heap} {g : Array GenState} {d : Drawn} {t : Nat} {os : OsState} (O : Ok S W st h) (c : Cls) :
  ∃ W', Stp S W ⟨h, g, d, t, os⟩ ⟨st.sto ++ [.ins c [] []], st.nt⟩ ⟨(h.push emptyDict).push (instObj c.addr h.objs.size), g, d, t, os⟩ W' ∧ W'.μ[st.sto.length]? = some (h.objs.size + 1) := by
 have z1 : (h.push emptyDict).objs.size = h.objs.size + 1 := Heap.size_push ..
 have k : ∀ b o, h.get? b = some o → ((h.push emptyDict).push (instObj c.addr h.objs.size)).get? b = some o := fun b o e => Heap.get?_push_of_some _ (Heap.get?_push_of_some _ e)
 have g1 : ((h.push emptyDict).push (instObj c.addr h.objs.size)).get? h.objs.size = some emptyDict := Heap.get?_push_of_some _ (Heap.get?_push_size _ rfl)
 have g2 : ((h.push emptyDict).push (instObj c.addr h.objs.size)).get? (h.objs.size + 1) = some (instObj c.addr h.objs.size) := by rw [← z1]; exact Heap.get?_push_size _ rfl
 have y₀ : Stp S W ⟨h, g, d, t, os⟩ st ⟨(h.push emptyDict).push (instObj c.addr h.objs.size), g, d, t, os⟩ W := Stp.quiet (s := ⟨h, g, d, t, os⟩) (tk := t) O k
 have n1 : W.Ψ h.objs.size = none := O.fresh (zX (Nat.le_refl _))
 have n2 : W.Ψ (h.objs.size + 1) = none := O.fresh (zX (Nat.le_succ _))
 have ne : h.objs.size + 1 ≠ h.objs.size := Nat.succ_ne_self _
 have O₁ := y₀.ok.putSig W.μ.length (a := h.objs.size) ⟨_, g1⟩ n1
 have y₁ : Stp S W ⟨h, g, d, t, os⟩ st ⟨(h.push emptyDict).push (instObj c.addr h.objs.size), g, d, t, os⟩ (W.put h.objs.size (.sig W.μ.length)) :=
  ⟨y₀.eq, O₁, Wd.put_le (fun o t q => by rw [n1] at q; cases q), fun b ob e hn => by rw [W.put_ne _ (Nat.ne_of_lt (Heap.lt_size e))]; exact hn, y₀.keep⟩
 have n3 : (W.put h.objs.size (.sig W.μ.length)).Ψ (h.objs.size + 1) = none := by rw [W.put_ne _ ne]; exact n2
 have y₂ := y₁.cell (a := h.objs.size + 1) (mo := .ins c [] []) (zX (Nat.le_succ _)) ⟨_, g2⟩ n3
  (.mk h.objs.size [] 0 [] (by rw [← O.len]; exact Wd.cell_self _ _) g2 (by rw [Wd.cell_ne _ ne.symm, ← O.len]; exact Wd.put_self _ _ _) g1 .nil .nil fun U h => nm h)
 exact ⟨_, y₂, by rw [← O.len]; exact Wd.cell_at _ _⟩
theorem mG {W : Wd} {st : St} {s : Shared} (O : Ok S W st s.heap) {k : Nat} {a : Addr} {c : Cls} {l : List D} (hk : st.sto[k]? = some (.ins c c.flds l)) (ha : W.μ[k]? = some a) {Q : D → St → Prop} (q : yx c l ⟨st.sto.set k .gone, st.nt⟩ Q) : PostD S W s Q (.ref a) s := by
 obtain ⟨dx, es, n, vs, hs, i1, hsd, i2, en, rl, _⟩ := O.place hk ha
 have ne : a ≠ dx := fun e => by rw [e, i2] at i1; cases i1
 have y₁ := Stp.freeze (s := s) O hk ha hsd i2 (mo' := .gone) trivial
 have hk₁ : (st.sto.set k .gone)[k]? = some .gone := List.getElem?_set_self (List.getElem?_eq_some_iff.mp hk).1
 have hs₁ : (W.put dx (.frz (dictOf es n) 0)).Ψ a = some (.sig k) := by rw [W.put_ne _ ne]; exact hs
 have hd₁ : (W.put dx (.frz (dictOf es n) 0)).Ψ dx = some (.frz (dictOf es n) 0) := W.put_self _ _
 have plain : Q (.obj 0 c l) ⟨st.sto.set k .gone, st.nt⟩ → PostD S W s Q (.ref a) s := fun q => by
  have y₂ := Stp.freeze (s := s) y₁.ok hk₁ ha hs₁ i1 (mo' := .gone) trivial
  rw [List.set_set] at y₂
  have y := y₁.trans y₂
  exact ⟨_, _, _, q, y, .mk a dx es n vs (Wd.put_self _ _ _) (by rw [Wd.put_ne _ _ ne.symm]; exact hd₁) en (rl.mono y.le)⟩
 cases c with
 | Con =>
  have y₂ := Stp.freezeT (s := s) y₁.ok hk₁ ha hs₁ i1 (mo' := .gone) trivial
  rw [List.set_set] at y₂
  have y := y₁.trans y₂
  exact ⟨_, _, _, q, y, .mk a dx es n vs (by rw [Wd.tagged_self, y₁.ok.tags]) (by rw [Wd.tagged_ne _ _ ne.symm]; exact hd₁) en (rl.mono y.le)⟩
 | _ => exact plain q
theorem qA (A : Around) (C : Addr) (vs : List Value) : (A.under (.builtin "type.__call__" ⟨.ref C :: vs, []⟩)).depth = A.depth + 1 := rfl
theorem qB (A : Around) (C : Addr) (vs : List Value) : (A.under (.builtin "type.__call__" ⟨.ref C :: vs, []⟩)).units = A.units + 1 := rfl
theorem o6 {k : Nat} {st : St} {Q : D → St → Prop} (q : tU (.mref k) st Q) : ∃ c l, st.sto[k]? = some (.ins c c.flds l) ∧ yx c l ⟨st.sto.set k .gone, st.nt⟩ Q := by
 refine hid fun hG => ?_
 obtain ⟨mo, hm, q⟩ := zL q
 refine hG ?_
 cases mo with
 | ins c fs l =>
  refine hid fun hG => ?_
  obtain ⟨e, q⟩ := q
  refine hG ?_
  subst e
  have q : yi k .gone st fun st => yx c l st Q := q
  rw [yB] at q
  exact ⟨c, l, hm, q⟩
 | _ => exact q.elim
theorem call_cls (T : Facts S) {n : Nat} {call : zp} (hcal : CodeOK S n call) {c : Cls} {ini : Option Addr} (hi : match ini with
   | some m => findIn S.K (.ref c.addr) "__init__" = some (some (.ref m)) ∧ isFn S.K (.ref m) = true
   | none => findIn S.K (.ref c.addr) "__init__" = some (some (.builtin "object.__init__")))
  {args : List D} {st : St} {Q : D → St → Prop} {A : Around} {s : Shared} {W : Wd} {vs : List Value} {R : Result → Shared → Prop}
  (q : rP call c ini args st Q) (hr : Room (n + 1) A) (O : Ok S W st s.heap) (r : RepL S W args vs) (hR : ∀ v s', PostD S W s Q v s' → R (.ok (.ret v)) s') : codeAny (model S.prog S.w) A (.call (.ref c.addr) ⟨vs, []⟩) R s := by
 obtain ⟨h, g, dr, t, os⟩ := s
 obtain ⟨W₁, y₁, hμ⟩ := mF (g := g) (d := dr) (t := t) (os := os) O c
 have Y := makes_of (M := model S.prog S.w) O.kin (T.make c)
 have fin : ∀ {st₂ : St} {s₂ : Shared} {W₂ : Wd}, Stp S W ⟨h, g, dr, t, os⟩ st₂ s₂ W₂ → W₂.μ[st.sto.length]? = some (h.objs.size + 1) → tU (.mref st.sto.length) st₂ Q → R (.ok (.ret (.ref (h.objs.size + 1)))) s₂ := by
  intro st₂ s₂ W₂ y₂ hm q
  obtain ⟨c', l, hk, q⟩ := o6 q
  exact hR _ _ (PostD.trans y₂ _ _ (mG y₂.ok hk hm q))
 unfold rP at q
 rw [xF] at q
 cases ini with
 | some m =>
  refine make_core Y (looks_findIn O.kin hi.1) (fun self => bind_fn O.kin self (beq_iff_eq.mp hi.2)) (.inl rfl) ?_
  have hr' : Room n (A.under (.builtin "type.__call__" ⟨.ref c.addr :: vs, []⟩)) :=
   ⟨hr.hd, by rw [qA]; have := hr.depth; exact lin1 [_,_,_] 0 (.a (.a (.a S0 (.m 4 V1)) (.n 4)) U1) V2 1 (.a (.a (.a V0 (.m 4 S1)) (.n 4)) U1) V2 tt this, by rw [qB]; have := hr.units; exact lin1 [_,_,_] 0 (.a (.a (.a S0 (.m 40 V1)) (.n 40)) U1) V2 1 (.a (.a (.a V0 (.m 40 S1)) (.n 40)) U1) V2 tt this⟩
  refine hcal.go (f := .val (.ref m)) (args := .mref st.sto.length :: args) hr' y₁.ok ⟨rfl, rfl⟩ (.cons ⟨_, rfl, hμ⟩ (r.mono y₁.le)) q fun v s' ⟨e, st₂, W', q, y', r'⟩ => ?_
  cases e with
  | none => cases r'; exact ⟨rfl, fin (y₁.trans y') (zT y'.le.μ hμ) q⟩
  | _ => exact q.elim
 | none =>
  obtain ⟨hz, q⟩ := q
  subst hz
  cases r
  have z := fin y₁ hμ q
  have hi := looks_findIn (M := model S.prog S.w) O.kin hi
  have gx : ((h.push emptyDict).push (instObj c.addr h.objs.size)).get? (h.objs.size + 1) = some (instObj c.addr h.objs.size) := by rw [← Heap.size_push h emptyDict]; exact Heap.get?_push_size _ rfl
  refine make_core Y hi (fun self => Looks.of_pure (oi_bind self)) (.inr ⟨rfl, rfl⟩) ?_
  have t1 : Looks (model S.prog S.w) ((h.push emptyDict).push (instObj c.addr h.objs.size)) (typeOf (.ref (h.objs.size + 1))) (.ref c.addr) := (Looks.ld gx).andThen .now
  have t2 : Looks (model S.prog S.w) ((h.push emptyDict).push (instObj c.addr h.objs.size)) (isInstance (.ref (h.objs.size + 1)) (.type "object")) true := t1.andThen (Y.top.keeps fun b o e => Heap.get?_push_of_some _ (Heap.get?_push_of_some _ e))
  refine codeAny_call_builtin oi_plain entry_oi (@check_slot (model S.prog S.w) _ _ _ "object.__init__" "object" "__init__" (.ref (h.objs.size + 1)) [] [] _ oi_kind oi_split t2 (oi_args (.ref (h.objs.size + 1))) ?_)
  rw [oi_run]
  exact wpAny_pure (And.intro rfl z)
end
structure IsFacts (S : Sta) : Prop where
 one : ∀ c c' : Cls, kitOne S.K (.ref c.addr) (.ref c'.addr) = some (c.addr == c'.addr)
 cls : ∀ c : Cls, findIn S.K (.ref c.addr) "__class__" = some (some (.builtin "object.__class__"))
 get : specialIn S.K (.builtin "object.__class__") "__get__" = some (some (.builtin "getset_descriptor.__get__"))
 takes : takesIn S.K (.builtin "object.__class__") = some true
 mro : ∀ c : Cls, mroIn S.K c.addr (.type "object") = some true
section
variable {S : Sta}
theorem oA (T : Facts S) (Y : IsFacts S) {W : Wd} {c : Cls} {a dx : Addr} {es : List DictEntry} {n : Nat} : KitX S.K (.ref a) (.ref c.addr) (fun h => InstAt h a (instObj c.addr dx) c.addr (some (dictOf es n))) :=
 kitx_own (T.get c) (T.hasd c) (Y.cls c) Y.get Y.takes (Y.mro c)
theorem o7 {i : Int} (h : i.natAbs < 2 ^ 64) : i.natAbs.log2 < 1920 := by
 by_cases q : i.natAbs = 0
 ·rw [q]; decide
 ·have := (Nat.log2_lt q).mpr h; exact lin1 [_] 0 S0 (.n 1920) 1 S0 (.n 64) tt this
set_option tactic.hygienic true in
theorem xI : ∀ l : List Int, (sortI l).Perm l ∧ (sortI l).Pairwise (· ≤ ·)
 | [] => ⟨.refl _, .nil⟩
 | i :: l => by
  have key : ∀ l : List Int, l.Pairwise (· ≤ ·) → (insKey i l).Perm (i :: l) ∧ (insKey i l).Pairwise (· ≤ ·) := by
   intro l
   induction l with
   | nil => intro _; exact ⟨.refl _, by simp [insKey]⟩
   | cons j l ih =>
    intro h
    obtain ⟨h1, h2⟩ := List.pairwise_cons.mp h
    unfold insKey
    split
    ·rename_i hij
     refine ⟨.refl _, List.pairwise_cons.mpr ⟨fun k hk => ?_, h⟩⟩
     rcases List.mem_cons.mp hk with rfl | hk
     ·exact hij
     ·exact Int.le_trans hij (h1 k hk)
    ·rename_i hij
     obtain ⟨p, q⟩ := ih h2
     refine ⟨(p.cons j).trans (.swap _ _ _), List.pairwise_cons.mpr ⟨fun k hk => ?_, q⟩⟩
     have := p.mem_iff.mp hk
     rcases List.mem_cons.mp this with rfl | hk
     ·omega
     ·exact h1 k hk
  refine hid fun hG => ?_
  obtain ⟨p, q⟩ := xI l
  obtain ⟨p', q'⟩ := key _ q
  refine hG ?_
  exact ⟨p'.trans (p.cons i), q'⟩
theorem o8 {l m : List Int} (p : l.Perm m) (hl : l.Pairwise (· ≤ ·)) (hm : m.Pairwise (· ≤ ·)) : l = m :=
 p.eq_of_pairwise (fun U U U U h1 h2 => Int.le_antisymm h1 h2) hl hm
theorem wo {W : Wd} {P : Nat → Value → Prop} : ∀ {vs : List Value} {ks : List Int}, vs.length = ks.length → (∀ (j : Nat) (v : Value), vs[j]? = some v → ∃ k, ks[j]? = some k ∧ ∃ t, v = .int k t) → IntsAre vs ks
 | [], [], _, _ => .nil
 | [], _ :: _, h, _ => by simp at h
 | _ :: _, [], h, _ => by simp at h
 | v :: vs, k :: ks, h, f => by
  obtain ⟨k', e, t, rfl⟩ := f 0 v rfl
  simp at e; subst e
  exact .cons _ _ (wo (W := W) (P := P) (by simpa using h) fun j v hv => f (j + 1) v (by simpa using hv))
theorem t5 {W : Wd} {vs : List Value} {ks : List Int} (y : IntsAre vs ks) : RepL S W (ks.map D.int) vs := by
 induction y with
 | nil => exact .nil
 | cons _ _ _ h => exact .cons ⟨_, rfl⟩ h
theorem vj {κ : Type} {ks : List κ} {vs : List Value} {j : Nat} {k : κ} {x : Value} (h : (ks.zip vs)[j]? = some (k, x)) : ks[j]? = some k := (List.getElem?_zip_eq_some.mp h).1
theorem vV {W : Wd} {st : St} {s : Shared} {A : Around} {a : Addr} {ks : List Int} {vs : List Value} {Q : Value → Shared → Prop} (hh : A.handled = none) (O : Ok S W st s.heap) (sz : (a == sysModules) = false)
  (hd : s.heap.DictOf (intKind S.prog S.w) a (ks.zip vs)) (hl : ks.length = vs.length) (h64 : ks.length < 64) (q : ∀ u s' W', Stp S W s st s' W' → Rep S W' (.list ((sortI ks).map D.int)) u → Q u s') :
  Wq S A (call (.builtin "sorted") [.ref a]) Q s := by
 obtain ⟨o, es, ep, ho, hx, hdat, hkeys, hp, hnd⟩ := hd
 have hat : s.heap.DictAt (intKind S.prog S.w) a (ks.zip vs) ep := ⟨o, es, ho, hx, hdat, hkeys, hp, hnd⟩
 have hz : (ks.zip vs).length = ks.length := by simp [hl]
 have K := kdl_dict (knd := intKind S.prog S.w) (d := a) (kvs := ks.zip vs) (ep := ep) sz
 refine call_function_entry kind_sorted plain_sorted entry_sorted (args_sorted1 _) ?_
 unfold Builtin.«sorted»
 refine wpAny_bind (m := checkCount "sorted" 1 1 _) (wpAny_pure ?_)
 have hle : (ks.zip vs).length ≤ sizeLine := by rw [hz, sizeLine_eq]; exact lin1 [_] 0 V0 (.n 16777216) 1 S0 (.n 64) tt h64
 refine wpAny_bind (kdu_collect (A := A.in1) K hh hat hle fun h' tk acc' hk hacc => ?_)
 obtain ⟨acc⟩ := acc'
 have hal : acc.length = ks.length := by rw [← hz]; exact hacc.1
 have hI : IntsAre acc ks := wo (W := W) (P := fun U U => True) hal fun j v e => by
  obtain ⟨k, x, h1, h2⟩ := hacc.2 j v (by simpa using e)
  refine ⟨k, vj h1, ?_⟩
  cases v <;> simp [intKind, Value.isInt] at h2
  subst h2; exact ⟨_, rfl⟩
 refine wpAny_bind (wpAny_newList ?_ (by show acc.length ≤ _; rw [hal, ← hz]; exact hle))
 have hoL : (h'.push (seqObj "list" acc.toArray 0)).get? h'.objs.size = some (seqObj "list" acc.toArray 0) := Heap.get?_push_size _ rfl
 refine wpAny_bind (wpAny_holding (wpAny_call_entry slot_list_sort ⟨_, hoL, rfl⟩ entry_list_sort (list_sort_tree (s := { s with heap := h'.push (seqObj "list" acc.toArray 0), toks := tk }) hoL hI (by rw [hal]; exact h64) fun out ns' a1 a2 a3 => ⟨_, rfl, ?_⟩) (args_list_sort _)))
 refine wpAny_pure ⟨_, rfl, ?_⟩
 have e : ns' = sortI ks := o8 (a2.trans (xI ks).1.symm) a3 (xI ks).2
 subst e
 obtain ⟨n, hfin⟩ := sortedHeap_at (h := h'.push (seqObj "list" acc.toArray 0)) (a := h'.objs.size) (vs := acc) (out := out) hoL
 have old : ∀ b o, s.heap.get? b = some o → (sortedHeap (h'.push (seqObj "list" acc.toArray 0)) h'.objs.size acc out).get? b = some o := fun b o e => by
  have hlt : b < h'.objs.size := Heap.lt_size (hk _ _ e)
  rw [sortedHeap_old (Nat.ne_of_lt hlt) (by rw [size_push']; exact Nat.lt_succ_of_lt hlt)]
  exact Heap.get?_push_of_some _ (hk _ _ e)
 have y := Stp.made (S := S) (W := W) (st := st) (s := s) (tk := tk) (h' := sortedHeap (h'.push (seqObj "list" acc.toArray 0)) h'.objs.size acc out) O (ni hk (zX (Nat.le_refl _))) hfin old
 refine q _ _ _ y ?_
 exact .mk _ out.toList n (Wd.put_self _ _ _) (t5 a1) (by rw [← (t5 (S := S) (W := W) a1).length, List.length_map, (xI ks).1.length_eq]; exact uT (by exact lin1 [_] 0 S0 U1000 1 S0 (.n 64) tt h64))
theorem mH {a : Addr} (h : tW a = true) : ∃ c : Cls, c.addr = a := by
 obtain ⟨c, _, e⟩ := List.any_eq_true.mp h
 exact ⟨c, beq_iff_eq.mp e⟩
theorem qC (T : IsFacts S) {c : Cls} : ∀ {l : List Addr}, l.all tW = true → kitAny S.K (.ref c.addr) (l.map .ref) = some (isIn c.addr l)
 | [], _ => rfl
 | a :: l, h => by
  rw [List.all_cons, Bool.and_eq_true] at h
  obtain ⟨c', rfl⟩ := mH h.1
  have e := T.one c c'
  unfold isIn
  rw [List.map_cons]
  unfold kitAny
  rw [e]
  cases q : Nat.beq c.addr c'.addr with
  | true => rw [show (c.addr == c'.addr) = true from beq_iff_eq.mpr (Nat.eq_of_beq_eq_true q)]
  | false => rw [show (c.addr == c'.addr) = false from beq_eq_false_iff_ne.mpr (Nat.ne_of_beq_eq_false q)]; exact qC T h.2
theorem qD {n : Nat} (h : n ≤ sizeLine) : ((n : Nat) : Int) < 2 ^ 63 := by rw [sizeLine_eq] at h; omega
inductive R1 (S : Sta) (W : Wd) (d : D) : List Value → Prop
 | mk (v : Value) (r : Rep S W d v) : R1 S W d [v]
theorem wB {W : Wd} {d : D} {vs : List Value} (r : RepL S W [d] vs) : R1 S W d vs := by
 obtain ⟨v, r, a, b⟩ := r; cases b; exact .mk v a
noncomputable def Bi.val : Bi → Value
 | .len => .builtin "len" | .max => .builtin "max" | .min => .builtin "min" | .sorted => .builtin "sorted" | .int => .type "int" | .str => .type "str" | .list => .type "list"
theorem mI {b : Bi} {args : List D} {st : St} {s : Shared} {W : Wd} {A : Around} {vs : List Value} {n : Nat} {Q : D → St → Prop} (q : biW b args st fun d => Q d st) (hr : Room n A) (O : Ok S W st s.heap) (r : RepL S W args vs) : Wq S A (call b.val vs) (PostD S W s Q) s := by
 have hh := hr.hd
 have R : ∀ {i : Int} {t : Tok} {tk : Nat}, Q (.int i) st → PostD S W s Q (.int i t) { s with toks := tk } := fun q => ⟨_, _, W, q, .toks O _, ⟨_, rfl⟩⟩
 cases args with
 | nil => exact q.elim
 | cons a args =>
  obtain ⟨u, vs, ra, rb⟩ := r
  cases b with
  | len =>
   cases args with
   | cons => exact q.elim
   | nil =>
    cases rb
    have lists : (vd a st fun l => Q (.int (.ofNat l.length)) st) → Wq S A (call (Bi.val .len) [u]) (PostD S W s Q) s := fun q => by
     obtain ⟨x, l, vs, k, ho, hl, z, q⟩ := y0 q O ra
     have e : l.length = vs.toArray.size := hl.length
     refine PyProof.Rows.len_list (zI ho) (qD z) ?_
     rw [e] at q; exact R q
    cases a with
    | str x => obtain ⟨t, rfl⟩ := ra; have := qD q.1; exact len_str (by omega) (R q.2)
    | _ => exact lists q
  | int =>
   cases args with
   | cons => exact q.elim
   | nil =>
    cases rb
    cases a with
    | int i => obtain ⟨t, rfl⟩ := ra; exact call_int_int ⟨.int i, _, W, q, .refl O, ⟨_, rfl⟩⟩
    | bool i => cases ra; exact call_int_bool (R q)
    | _ => exact q.elim
  | str =>
   cases args with
   | cons => exact q.elim
   | nil =>
    cases rb
    cases a with
    | int i => obtain ⟨t, rfl⟩ := ra; exact P.str_of_int (o7 q.1) ⟨.str _, _, W, q.2, .toks O _, ⟨_, rfl⟩⟩
    | _ => exact q.elim
  | list =>
   cases args with
   | cons => exact q.elim
   | nil =>
    cases rb
    obtain ⟨x, l, vs, k, ho, hl, z, q⟩ := y0 q O ra
    refine call_list_seq x (T := "list") (.inl rfl) ho rfl rfl (fun h' c' hk hn => ?_) (by simpa using z)
    have y := Stp.made (S := S) (W := W) (st := st) (s := s) (tk := s.toks) O (zX (Nat.le_refl _)) hn hk
    exact ⟨_, _, _, q, y, .mk _ vs c' (Wd.put_self ..) (hl.mono y.le) z⟩
  | max =>
   cases args with
   | nil => exact q.elim
   | cons c args => cases args with
    | cons => exact q.elim
    | nil =>
     obtain ⟨v, rc⟩ := wB rb
     obtain ⟨i, j, t, t', q⟩ := zh q ra rc
     refine max_two_ints hh fun h' tk hk => ⟨_, _, W, q, .quiet O hk, ?_⟩
     split <;> exact ⟨_, rfl⟩
  | min =>
   cases args with
   | nil => exact q.elim
   | cons c args => cases args with
    | cons => exact q.elim
    | nil =>
     obtain ⟨v, rc⟩ := wB rb
     obtain ⟨i, j, t, t', q⟩ := zh q ra rc
     refine min_two_ints hh fun h' tk hk => ⟨_, _, W, q, .quiet O hk, ?_⟩
     split <;> exact ⟨_, rfl⟩
  | sorted =>
   cases args with
   | cons => exact q.elim
   | nil =>
    cases rb
    cases a with
    | mref k =>
     obtain ⟨x, rfl, hx⟩ := ra
     obtain ⟨mo, hm, q⟩ := zL q
     cases mo with
     | dI ks l =>
      obtain ⟨vs, sz, hd, hl, _, _⟩ := MDic.at (O.place hm hx)
      exact vV hh O sz hd hl q.1 fun u s' W' y r => ⟨_, _, W', q.2, y, r⟩
     | _ => exact q.elim
    | _ => exact q.elim
end
noncomputable def Kept (S : Sta) (h : Heap) (f : Value) : Prop := ∃ k, (k = Keeper.frame ∨ k = Keeper.machine ∨ k = Keeper.boundFrame) ∧ Looks (model S.prog S.w) h (keeperOf f) k
structure CallsOK (S : Sta) (n : Nat) (c : zp) : Prop where
 ok : CallOK S n c
 keep : ∀ {f : D} {args : List D} {st : St} {Q : D → St → Prop} {W : Wd} {st₀ : St} {h : Heap} {fv : Value}, c f args st Q → Ok S W st₀ h → Rep S W f fv → Kept S h fv
section
variable {J : Jd} {sc : Scope}
noncomputable def o9 : Value → Bool
 | .builtin _ => true
 | .type _ => true
 | _ => false
theorem yX {S : Sta} {h : Heap} {v : Value} (e : o9 v = true) : Kept S h v := by
 refine ⟨.machine, .inr (.inl rfl), ?_⟩
 cases v with
 | builtin _ => exact Looks.of_pure rfl
 | type _ => exact Looks.of_pure rfl
 | _ => cases e
theorem wX {args : List Expr} {env : Env} {pos : Pos} (h : (args.all fun a => !isStarred a) = true) : (backTo pos (starEach args env)).any (·.1) = false := by
 induction args with
 | nil => rfl
 | cons a args ih =>
  simp only [List.all_cons, Bool.and_eq_true, Bool.not_eq_true'] at h
  rw [zm h.1]
  show (false || (backTo pos (starEach args env)).any (·.1)) = false
  rw [Bool.false_or]; exact ih h.2
theorem u3 {args : List Expr} (hs : (args.all fun a => !isStarred a) = true) (hn : args ≠ []) {A : Around} {s : Shared} {env : Env} {f : Value} {first : List Value} {pos : Pos} {R : Value → Shared → Prop}
  (h : Wq J.S A (spliced (backTo pos (starEach args env))) (fun vs s₁ => Kept J.S s₁.heap f ∧ Wq J.S A (call f (first ++ vs)) R s₁) s) : Wq J.S A (callWith pos f first (backTo pos (starEach args env)) (backToKw pos (keywordEach [] env))) R s := by
 have hpl := wX (env := env) (pos := pos) hs
 refine callWith_of (P := fun h => Kept J.S h f) (keywords := []) (by rw [hpl]; rfl) (fun U x => x) ?_
 cases args with
 | nil => exact absurd rfl hn
 | cons a args =>
  rw [List.all_cons, Bool.and_eq_true, Bool.not_eq_true'] at hs
  rw [zm hs.1] at h ⊢
  exact evalArgs_plain h
theorem wC {args : List Expr} {y : X} (hs : (args.all fun a => !isStarred a) = true) (hy : RL J sc args y) (hn : args = [] → y = .nil) {ρ : Rg} {st : St} {F : List D → St → Prop} {A : Around} {s : Shared} {W : Wd} {env : Env} (H : Here J A env sc ρ st s W) (q : (run J.call y).l ρ st F)
  {f : Value} {first : List Value} {pos : Pos} {R : Value → Shared → Prop} (h : ∀ {l vs st₁ s₁ W₁}, Stp J.S W s st₁ s₁ W₁ → RepL J.S W₁ l vs → vs.length = args.length → F l st₁ → Kept J.S s₁.heap f ∧ Wq J.S A (call f (first ++ vs)) R s₁) :
  Wq J.S A (callWith pos f first (backTo pos (starEach args env)) (backToKw pos (keywordEach [] env))) R s := by
 cases args with
 | nil =>
  cases hn rfl
  exact callWith_of (P := fun h => Kept J.S h f) (keywords := []) (by rw [wX (env := env) (pos := pos) hs]; rfl) (fun U x => x) (evalArgs_nil3 (h (.refl H.O) .nil rfl q))
 | cons a args =>
  refine u3 hs (by first | exact fun e => cn e | exact fun e => nc e | exact fun e => sn e | exact fun e => ns e | exact fun e => nn e) (zB (hy.go pos H q) ?_)
  intro vs s₁ hz2
  refine hid fun hG => ?_
  obtain ⟨⟨l, st₁, W₁, q, y₁, r₁⟩, z⟩ := hz2
  refine hG ?_
  exact h y₁ r₁ z q
theorem wD {f : Expr} {args : List Expr} {pos : Pos} {env : Env} (hf : ∀ o x p, f ≠ .Attribute o x p) : eval (.Call f args [] pos) env = (do callWith pos (← eval f env) [] (backTo pos (starEach args env)) (backToKw pos (keywordEach [] env))) := by
 cases f <;> first | rfl | exact absurd rfl (hf _ _ _)
set_option tactic.hygienic true in
theorem uD {f : Expr} {v : Value} (h : zw J.S.g sc f = some v) {ρ : Rg} {st : St} {A : Around} {s : Shared} {W : Wd} {env : Env} {R : Value → Shared → Prop} (H : Here J A env sc ρ st s W) (q : R v s) : Wq J.S A (eval f env) R s := by
 cases f with
 | Name x pos =>
  have h : (match zO sc x with | some .globalImplicit => J.S.g.glob x | _ => none) = some v := h
  split at h
  ·rename_i hk
   have T := H.O.topr
   refine Name_function_global H.he.kind (H.he.kg x hk) ?_ (H.he.nm x _ hk).1
   rcases J.S.glob x v h with h | ⟨h, h'⟩
   ·exact loadGlobal_global (H.he.glob ▸ T.g) h q
   ·exact loadGlobal_builtin (H.he.glob ▸ T.g) h (H.he.blt ▸ T.b) h' q
  ·cases h
 | _ => exact nn h
theorem wY {f : Expr} {v : Value} (h : zw J.S.g sc f = some v) : ∀ o x p, f ≠ .Attribute o x p := by
 rintro o x p rfl; exact nn h
section
variable {f : Expr} {args : List Expr} {y : X} {v : Value} {pos : Pos}
theorem u4 (hv : zw J.S.g sc f = some v) (hs : (args.all fun a => !isStarred a) = true) (hy : RL J sc args y) (hn : args = [] → y = .nil) {ρ : Rg} {st : St} {F : List D → St → Prop} {A : Around} {s : Shared} {W : Wd} {env : Env} {Q : D → St → Prop} (H : Here J A env sc ρ st s W) (q : (run J.call y).l ρ st F)
  (h : ∀ {l vs st₁ s₁ W₁}, Stp J.S W s st₁ s₁ W₁ → RepL J.S W₁ l vs → vs.length = args.length → F l st₁ → Kept J.S s₁.heap v ∧ Wq J.S A (call v vs) (PostD J.S W₁ s₁ Q) s₁) : Wq J.S A (eval (.Call f args [] pos) env) (PostD J.S W s Q) s := by
 rw [wD (wY hv)]
 refine wpAny_bind (uD hv H (wC hs hy hn H q fun y₁ r₁ z f => ?_))
 exact (h y₁ r₁ z f).imp id fun h => zB h (PostD.trans y₁)
theorem g0 {b : Bi} (hv : zw J.S.g sc f = some b.val) (hs : (args.all fun a => !isStarred a) = true) (hy : RL J sc args y) (hn : args = [] → y = .nil) : RE J sc (.Call f args [] pos) (.bi b y) :=
 ⟨@fun ρ st Q A s W env H q => u4 hv hs hy hn H q fun y₁ r₁ U q => ⟨yX (by cases b <;> rfl), mI q H.hr y₁.ok r₁⟩⟩
theorem lr (C : CallsOK J.S J.n J.call) {a : Addr} (hv : zw J.S.g sc f = some (.ref a)) (hs : (args.all fun a => !isStarred a) = true) (hy : RL J sc args y) (hn : args = [] → y = .nil) : RE J sc (.Call f args [] pos) (.app (.k (.val (.ref a))) y) :=
 ⟨@fun ρ st Q A s W env H q => u4 hv hs hy hn H q fun y₁ r₁ U q => ⟨C.keep (f := .val (.ref a)) q y₁.ok ⟨rfl, rfl⟩, C.ok.go (f := .val (.ref a)) H.hr y₁.ok ⟨rfl, rfl⟩ r₁ q⟩⟩
theorem iE (C : CallsOK J.S J.n J.call) {x : X} (hf : ∀ o x p, f ≠ .Attribute o x p) (h : RE J sc f x) (hs : (args.all fun a => !isStarred a) = true) (hy : RL J sc args y) (hn : args = [] → y = .nil) : RE J sc (.Call f args [] pos) (.app x y) := by
 refine ⟨@fun ρ st Q A s W env H q => ?_⟩
 rw [wD hf]
 refine wpAny_bind (zB (h.go H q) ?_)
 rintro fv s₁ ⟨g, st₁, W₁, q, y₁, r₁⟩
 refine wC hs hy hn (H.step y₁) q fun y₂ r₂ U q => ?_
 have r := r₁.mono y₂.le
 exact ⟨C.keep q y₂.ok r, zB (C.ok.go H.hr y₂.ok r r₂ q) (PostD.trans (y₁.trans y₂))⟩
theorem oa {call : zp} {l : X} {ds : List D} {ρ : Rg} {st : St} {Q : List D → St → Prop} (h : uM l = some ds) (q : Q ds st) : (run call l).l ρ st Q := by
 induction ds generalizing l Q with
 | nil => exact wd (P := fun l => (run call l).l ρ st Q) h (fun U => q) fun U U U U e => nc e
 | cons d ds ih => exact wd (P := fun l => (run call l).l ρ st Q) h (fun e => cn e) fun d' l' ds' h' e => by cases e; exact ih (Q := fun ds st => Q (d :: ds) st) h' q
theorem t6 {S : Sta} {W : Wd} : ∀ {ds : List D} {as : List Addr} {vs : List Value}, refsOf ds = some as → RepL S W ds vs → vs = as.map .ref
 | [], as, vs, h, r => by cases h; cases r; rfl
 | d :: ds, as, vs, h, r => by
  obtain ⟨v, vs, a, b⟩ := r
  cases d with
  | val u => cases u with
   | ref x =>
    obtain ⟨as', h', rfl⟩ := Option.map_eq_some_iff.mp h
    cases a.1
    rw [t6 h' b]; rfl
   | _ => exact nn h
  | _ => exact nn h
theorem mJ {a b : Addr} : (a == b) = isIn a [b] := by
 unfold isIn
 cases q : Nat.beq a b with
 | true => exact beq_iff_eq.mpr (Nat.eq_of_beq_eq_true q)
 | false => exact beq_eq_false_iff_ne.mpr (Nat.ne_of_beq_eq_false q)
theorem lu (T : Facts J.S) (Y : IsFacts J.S) {a t : Expr} {xa xt : X} (hv : zw J.S.g sc f = some (.builtin "isinstance")) (hs : ([a, t].all fun a => !isStarred a) = true) (ha : RE J sc a xa) (ht : RE J sc t xt) : RE J sc (.Call f [a, t] [] pos) (isX xa xt) := by
 have ns : isStarred a = false ∧ isStarred t = false := by simpa using hs
 have go : ∀ {ρ : Rg} {st : St} {F : D → St → Prop} {d : D} {A : Around} {s : Shared} {W : Wd} {env : Env} {Q : D → St → Prop}, Here J A env sc ρ st s W → (run J.call xa).e ρ st F → (∀ st (K : D → St → Prop), K d st → (run J.call xt).e ρ st K) →
   (∀ {x u v st₁ s₁ W₁}, Ok J.S W₁ st₁ s₁.heap → Rep J.S W₁ x u → Rep J.S W₁ d v → F x st₁ → ∃ b, Q (.bool b) st₁ ∧ ∀ {R : Value → Shared → Prop}, (∀ tk, R (.bool b) { s₁ with toks := tk }) → Wq J.S A (call (.builtin "isinstance") [u, v]) R s₁) → Wq J.S A (eval (.Call f [a, t] [] pos) env) (PostD J.S W s Q) s := by
  intro ρ st F d A s W env Q H q hd k
  rw [wD (wY hv)]
  refine wpAny_bind (uD hv H (u3 hs (by first | exact fun e => cn e | exact fun e => nc e | exact fun e => sn e | exact fun e => ns e | exact fun e => nn e) (wpAny_items_cons (zB (ha.go H q) ?_) (zm ns.1))))
  rintro u s₁ ⟨x, st₁, W₁, q, y₁, r₁⟩
  refine wpAny_items_cons (zB (ht.go (Q := fun d' st' => d' = d ∧ st' = st₁) (H.step y₁) (hd _ _ ⟨rfl, rfl⟩)) ?_) (zm ns.2)
  rintro v s₂ ⟨_, _, W₂, ⟨rfl, rfl⟩, y₂, r₂⟩
  obtain ⟨b, q, h⟩ := k y₂.ok (r₁.mono y₂.le) r₂ q
  exact wpAny_items_nil ⟨yX rfl, h fun tk => ⟨_, _, W₂, q, (y₁.trans y₂).trans (.toks y₂.ok tk), rfl⟩⟩
 have cls : ∀ {as : List Addr} {A : Around} {st₁ : St} {s₁ : Shared} {W₁ : Wd} {x : D} {u w : Value} {Q : D → St → Prop}, as.all tW = true → Ok J.S W₁ st₁ s₁.heap → Rep J.S W₁ x u → ((∃ a, as = [a] ∧ w = .ref a) ∨ E2 fun tp n => w = .ref tp ∧ s₁.heap.get? tp = some (yC (as.map .ref).toArray n)) →
   (match x with | .obj _ c _ => Q (.bool (isIn c.addr as)) st₁ | _ => False) → ∃ b, Q (.bool b) st₁ ∧ ∀ {R : Value → Shared → Prop}, (∀ tk, R (.bool b) { s₁ with toks := tk }) → Wq J.S A (call (.builtin "isinstance") [u, w]) R s₁ := by
  intro as A st₁ s₁ W₁ x u w Q hc O ra hd q
  cases x with
  | obj t c l =>
   obtain ⟨x, dx, es, m, ws, f1, f2, _⟩ := ra
   refine ⟨_, q, fun R => ?_⟩
   rcases hd with ⟨a, rfl, rfl⟩ | ⟨tp, n, rfl, g⟩
   ·obtain ⟨c', rfl⟩ := mH (by simpa using hc : tW a = true)
    exact kia_one (oA T Y (W := W₁)) O.kin (wA (O.frz _ _ _ f1) (O.frz _ _ _ f2)) ((Y.one _ _).trans (congrArg some mJ)) (by intro e; cases e) R
   ·exact kia_tup (oA T Y (W := W₁)) O.kin (wA (O.frz _ _ _ f1) (O.frz _ _ _ f2)) g (qC Y hc) (by intro e; cases e) R
  | _ => exact q.elim
 cases xt with
 | k d => cases d with
  | val v => cases v with
   | type n =>
    refine zb zH fun hn => ?_
    cases of_decide_eq_true hn
    refine ⟨@fun ρ st Q A s W env H q => go H q (fun U U k => k) fun {x u v st₁ s₁ W₁} O r₁ r₂ q => ?_⟩
    cases r₂.1
    cases x with
    | str x =>
     obtain ⟨t, rfl⟩ := r₁
     refine ⟨_, q, fun R => kia_one (K := J.S.K) kitx_str O.kin trivial ?_ (by intro e; cases e) R⟩
     unfold kitOne; rw [if_pos (by simp)]
    | _ => exact q.elim
   | ref a =>
    refine zb zH fun hc => ⟨@fun ρ st Q A s W env H q => go H q (fun U U k => k) fun O r₁ r₂ q => ?_⟩
    exact cls (by simpa using hc) O r₁ (.inl ⟨a, rfl, r₂.1⟩) q
   | _ => exact zH
  | _ => exact zH
 | tup l =>
  refine yl zH fun ds hds => yl zH fun as has => zb zH fun hc => ⟨@fun ρ st Q A s W env H q => go (d := .tup ds) H q (fun st K k => oa (Q := fun ds st => K (.tup ds) st) hds k) fun O r₁ r₂ q => ?_⟩
  obtain ⟨tp, vs, n, g, r, _⟩ := r₂
  cases t6 has r
  exact cls hc O r₁ (.inr ⟨tp, n, rfl, O.frz _ _ _ g⟩) q
 | _ => exact zH
end
end
structure BaseOk (S : Sta) : Prop where
 base : ∀ k x m, S.g.base k x = some m → specialIn S.K (.ref k) "__getattribute__" = some (some (.builtin "type.__getattribute__")) ∧ readsIn S.K k (.type "type") = true ∧ findCls S.K (.ref k) (.type "type") x = some (.val (.ref m))
structure Recv (S : Sta) (W : Wd) (s : Shared) (x : Str) (v : Value) (id : String) : Prop where
 T : ∃ T, s.TypeIs v T ∧ PlainAttrs T ∧ Slot T x id ∧ typeOf (.builtin id) = pure (.type "method_descriptor")
 nodict : ∀ a, v = .ref a → ∃ o, s.heap.get? a = some o ∧ o.dict = none
theorem qw (us : List Value) : us.toArray.eraseIdxIfInBounds (us.toArray.size - 1) = us.dropLast.toArray := by
 apply Array.ext'
 rw [Array.toList_eraseIdxIfInBounds]
 induction us with
 | nil => rfl
 | cons x us ih =>
  cases us with
  | nil => rfl
  | cons y us => simpa using ih
theorem xk (f : Array Value → Array Value) (a : Array Value) (m : Nat) : ∃ n, Obj.mapSeq f (W.listOf a m) = W.listOf (f a) n := ⟨_, rfl⟩
noncomputable def Me.id : Me → String
 | .append => "list.append"
 | .extend => "list.extend"
 | .pop => "list.pop"
 | .get => "dict.get"
 | .rfind => "str.rfind"
 | .no => ""
noncomputable def Me.nm : Me → Str
 | .append => "append"
 | .extend => "extend"
 | .pop => "pop"
 | .get => "get"
 | .rfind => "rfind"
 | .no => ""
theorem oB {x : Str} {m : Me} (h : qm x = m) (hm : m ≠ .no) : x = m.nm := by
 unfold qm at h
 split at h
 ·subst h; assumption
 split at h
 ·subst h; assumption
 split at h
 ·subst h; assumption
 split at h
 ·subst h; assumption
 split at h
 ·subst h; assumption
 ·exact absurd h.symm hm
section
variable {S : Sta}
theorem ly {m : Me} {o : MO} {P : Prop} {st : St} {s : Shared} {W : Wd} {k : Nat} {a : Addr} (q : jh m o P) (O : Ok S W st s.heap) (r : IsMO S W s.heap k a o) : P ∧ Recv S W s m.nm (.ref a) m.id ∧ m ≠ .no := by
 cases o with
 | lst l =>
  obtain ⟨vs, n, _, ho, hl, _⟩ := r
  have T : s.TypeIs (.ref a) "list" := (zI ho).typeIs
  have nd : ∀ b, Value.ref a = .ref b → ∃ o, s.heap.get? b = some o ∧ o.dict = none := fun b e => by cases e; exact ⟨_, ho, rfl⟩
  cases m with
  | append => exact ⟨q, ⟨⟨"list", T, F.plainAttrs_list, F.slot_list_append, F.type_list_append⟩, nd⟩, fun e => nomatch e⟩
  | extend => exact ⟨q, ⟨⟨"list", T, F.plainAttrs_list, F.slot_list_extend, F.type_list_extend⟩, nd⟩, fun e => nomatch e⟩
  | pop => exact ⟨q, ⟨⟨"list", T, F.plainAttrs_list, F.slot_list_pop, F.type_list_pop⟩, nd⟩, fun e => nomatch e⟩
  | _ => exact q.elim
 | dI ks l => cases m with
  | get =>
   obtain ⟨vs, _, hd, _⟩ := MDic.at r
   exact ⟨q, ⟨⟨"dict", hd.mapOf.typeIs, F.plainAttrs_dict, F.slot_dict_get, F.type_dict_get⟩, hd.mapOf.noDict⟩, fun e => nomatch e⟩
  | _ => exact q.elim
 | dS ks l => cases m with
  | get =>
   obtain ⟨vs, _, hd, _⟩ := MDic.at r
   exact ⟨q, ⟨⟨"dict", hd.mapOf.typeIs, F.plainAttrs_dict, F.slot_dict_get, F.type_dict_get⟩, hd.mapOf.noDict⟩, fun e => nomatch e⟩
  | _ => exact q.elim
 | _ => exact q.elim
theorem vW {W : Wd} {st : St} {s : Shared} {k : Nat} {a : Addr} {l l' : List D} {vs' : List Value} {n' : Nat} {h' : Heap} {tk : Nat} {d : D} {v : Value} {Q : D → St → Prop} (O : Ok S W st s.heap) (hm : st.sto[k]? = some (.lst l)) (ha : W.μ[k]? = some a) (q : yi k (.lst l') st fun st => Q d st)
  (hs : Heap.SameBut a s.heap h') (ho : h'.get? a = some (listOf vs'.toArray n')) (r : RepL S W l' vs') (z : vs'.length ≤ sizeLine) (rv : Rep S W d v) : PostD S W s Q v { s with heap := h', toks := tk } := by
 rw [yB] at q
 refine hid fun hG => ?_
 obtain ⟨_, _, hψ, _, _, _⟩ := O.place hm ha
 refine hG ?_
 exact ⟨d, _, W, q, .write O hm ha hψ hs.extBut ⟨_, ho⟩ (.mk vs' n' hψ ho r z), rv⟩
theorem qE {κ : Type} [DecidableEq κ] {W : Wd} {k : κ} : ∀ {ks : List κ} {l : List D} {vs : List Value}, RepL S W l vs → ks.length = vs.length → (ks.zip l).lookup k = none → valueAt (ks.zip vs) k = none
 | [], _, _, _, _, _ => by simp [valueAt]
 | x :: ks, [], _, r, h, _ => by cases r; first | exact cn h | exact nc h | exact sn h | exact ns h | exact nn h | exact ff h
 | x :: ks, e :: l, _, r, hl, h => by
  obtain ⟨v, vs, a, b⟩ := r
  simp only [List.zip_cons_cons, List.lookup_cons] at h
  by_cases q : k = x
  ·subst q; simp at h
  ·simp only [beq_eq_false_iff_ne.mpr q] at h
   have ih := qE b (Nat.succ.inj hl) h
   simp only [valueAt, List.zip_cons_cons, List.find?_cons] at ih ⊢
   rw [decide_eq_false (Ne.symm q)]; exact ih
theorem qF {κ : Type} [DecidableEq κ] {W : Wd} {st : St} {s : Shared} {A : Around} {K : PySem.KeyKind S.prog S.w κ} {ks : List κ} {l : List D} {a : Addr} {k : κ} {key w : Value} {d : D} {Q : D → St → Prop} (O : Ok S W st s.heap) (hk : K.is k key = true) (rw' : Rep S W d w) (q : Q (((ks.zip l).lookup k).getD d) st) :
  DAt S W s.heap K a ks l → Wq S A (call (.builtin "dict.get") [.ref a, key, w]) (PostD S W s Q) s
 | ⟨vs, sz, hd, hlen, hl, _⟩ => by
  refine call_meetsIn F.slot_dict_get hd.mapOf.typeIs F.entry_dict_get (F.args_dict_get_3 _ _ _) (meets_dict_get_default K a hk sz w) ⟨_, hd.mapOf, ⟨_, st, W, q, .toks O _, ?_⟩⟩
  cases hx : (ks.zip l).lookup k with
  | some z => obtain ⟨v, h1, h2⟩ := wm hl hx; rw [h1]; exact h2
  | none => rw [qE hl hlen hx]; exact rw'
theorem oC {W : Wd} {d e : D} {vs : List Value} (r : RepL S W [d, e] vs) : ∃ u v, vs = [u, v] ∧ Rep S W d u ∧ Rep S W e v := by
 obtain ⟨u, vs, a, b⟩ := r
 obtain ⟨v, c⟩ := wB b
 exact ⟨u, v, rfl, a, c⟩
theorem tL {x : Str} (h : x ∈ zf) : Builtin.Str.lastOccurrence x "." 0 x.length = none := by
 simp only [zf, List.mem_cons, List.not_mem_nil, or_false] at h
 rcases h with rfl | rfl | rfl | rfl | rfl | rfl | rfl <;> decide +kernel
theorem mK {m : Me} {x : Str} {t : Tok} {args : List D} {st : St} {s : Shared} {W : Wd} {A : Around} {vs : List Value} {Q : D → St → Prop} (q : nf m x args fun d => Q d st) (O : Ok S W st s.heap) (rs : RepL S W args vs) : m = .rfind ∧ Wq S A (call (.builtin "str.rfind") (.str x t :: vs)) (PostD S W s Q) s := by
 cases m with
 | rfind =>
  refine ⟨rfl, ?_⟩
  cases args with
  | nil => exact q.elim
  | cons a args => cases args with
   | cons => exact q.elim
   | nil => cases a with
    | str y =>
     obtain ⟨⟨hy, hx⟩, q⟩ := q
     subst hy
     obtain ⟨w, t', rfl⟩ := wB rs
     refine call_gives F.slot_str_rfind (typeIs_str _ _ _) F.entry_str_rfind (F.args_str_rfind_2 _ _) (gives_str_rfind _ _ _ _) ?_
     rw [tL hx]
     exact ⟨.int (-1), st, W, q, .toks O _, ⟨_, rfl⟩⟩
    | _ => exact q.elim
 | _ => exact q.elim
theorem lz {m : Me} {k : Nat} {args : List D} {st : St} {s : Shared} {W : Wd} {A : Around} {a : Addr} {vs : List Value} {Q : D → St → Prop} (q : rN m k args st Q) (O : Ok S W st s.heap) (ha : W.μ[k]? = some a) (rs : RepL S W args vs) : Wq S A (call (.builtin m.id) (.ref a :: vs)) (PostD S W s Q) s := by
 obtain ⟨mo, hm, q⟩ := zL q
 have P := O.place hm ha
 cases mo with
 | lst l =>
  obtain ⟨us, n, _, ho, hl, hz⟩ := P
  have hle := hl.length
  cases m with
  | append => cases args with
   | nil => exact q.elim
   | cons b args => cases args with
    | cons => exact q.elim
    | nil =>
     obtain ⟨w, rb⟩ := wB rs
     obtain ⟨z, q⟩ := q
     refine wpAny_list_append_plain (l := a) (items := us.toArray) ⟨n, ho⟩ (fun h' hpl hs => ?_) (by simp; exact lin1 [_,_] 0 V0 V1 1 V0 V1 tt hz)
     obtain ⟨m', ho'⟩ := hpl
     rw [List.push_toArray] at ho'
     exact vW (s := s) (tk := s.toks) O hm ha q hs ho' (hl.append (.one rb)) (by rw [List.length_append, List.length_singleton]; exact lin2 [_,_,_] 0 S0 V1 1 V0 V2 1 S2 V1 tt (er hle) z) rfl
  | extend => cases args with
   | nil => exact q.elim
   | cons b args => cases args with
    | cons => exact q.elim
    | nil =>
     obtain ⟨w, rb⟩ := wB rs
     obtain ⟨c, l2, ws, m2, ho2, hl2, _, z, q⟩ := y0 q O rb
     have hle2 := hl2.length
     have z1 : us.toArray.size + ws.toArray.size ≤ sizeLine := by simp; exact lin3 [_,_,_,_,_] 0 (.a V0 V1) V2 1 V0 V3 1 (.a V3 V4) V2 1 V1 V4 tt (er hle) z (er hle2)
     refine call_meets F.slot_list_extend (zI ho).typeIs F.entry_list_extend (F.args_list_extend_2 _ _)
      (AutoSeq1.list_extend_list_list_0 a us.toArray n c ws.toArray m2 (fun e => ?_) (by exact lin1 [_,_,_] 0 V0 V1 1 (.a V0 V2) V1 tt z1) (by omega)) ⟨ho, ho2, ?_⟩
     ·rw [Bool.and_eq_true] at e
      have := e.2
      unfold Builtin.List.listTooLong at this
      have := of_decide_eq_true this
      exact no1 (lin2 [_,_,_] 0 U1 U0 1 (.a V0 V1) V2 1 S2 (.a V0 V1) tt z1 this)
     ·have e : us.toArray ++ ws.toArray = (us ++ ws).toArray := by simp
      obtain ⟨n', en⟩ := xk (· ++ ws.toArray) us.toArray n
      exact vW (s := s) (tk := s.toks) O hm ha q (Heap.SameBut.update ..) (n' := n') (by rw [Heap.get?_update_self _ ho rfl, ← e, ← en]) (hl.append hl2) (by rw [List.length_append]; exact lin3 [_,_,_,_,_] 0 (.a V0 V1) V2 1 V0 V3 1 (.a V3 V4) V2 1 V1 V4 tt (er hle) z (er hle2)) rfl
  | pop => cases args with
   | cons => exact q.elim
   | nil =>
    cases rs
    obtain ⟨d, hd, q⟩ := zL q
    rw [List.getLast?_eq_getElem?] at hd
    obtain ⟨y, hy, ry⟩ := hl.at hd
    rw [hle] at hy
    refine call_meets F.slot_list_pop (zI ho).typeIs F.entry_list_pop (F.args_list_pop_1 _) (MeetsSeq.list_pop_last a us.toArray n y (by simpa using hy) (by simp; exact lin1 [_,_] 0 V0 V1 1 V0 V1 tt hz)) ⟨ho, ?_⟩
    obtain ⟨n', en⟩ := xk (fun xs => xs.eraseIdxIfInBounds (us.toArray.size - 1)) us.toArray n
    exact vW (s := s) (tk := s.toks) O hm ha q (Heap.SameBut.update ..) (n' := n') (vs' := us.dropLast) (by rw [Heap.get?_update_self _ ho rfl, ← qw us, ← en]) (by rw [List.dropLast_eq_take, List.dropLast_eq_take, hle]; exact hl.take _) (by rw [List.length_dropLast]; exact lin2 [_,_,_] 0 V0 V1 1 V2 V1 1 V0 V2 tt hz (Nat.sub_le _ _)) ry
  | _ => exact q.elim
 | dI ks l => cases m with
  | get => cases args with
   | nil => exact q.elim
   | cons b args => cases args with
    | nil => exact q.elim
    | cons c args => cases args with
     | cons => exact q.elim
     | nil => cases b with
      | int i => obtain ⟨_, w, rfl, ⟨t, rfl⟩, rc⟩ := oC rs; exact qF O (intKind_is _ _ _ _) rc q (MDic.at P)
      | _ => exact q.elim
  | _ => exact q.elim
 | dS ks l => cases m with
  | get => cases args with
   | nil => exact q.elim
   | cons b args => cases args with
    | nil => exact q.elim
    | cons c args => cases args with
     | cons => exact q.elim
     | nil => cases b with
      | str i => obtain ⟨_, w, rfl, ⟨t, rfl⟩, rc⟩ := oC rs; exact qF O (strKind_is _ _ _ _) rc q (MDic.at P)
      | _ => exact q.elim
  | _ => exact q.elim
 | _ => exact q.elim
theorem t7 {S : Sta} {o : Expr} {x : Str} {apos pos : Pos} {args : List Expr} {env : Env} {A : Around} {s : Shared} {Q : Value → Shared → Prop} (hb : yK o = true) (hl : (apos.endLine == pos.line) = true) (hn : args.length < 30) (hs : (args.all fun a => !isStarred a) = true)
  (h : wpAny (model S.prog S.w) A (eval o env) (fun ov s₁ => wpAny (model S.prog S.w) A (getMethod ov x (do return (← importBound o env).getD true)) (fun p s₂ => wpAny (model S.prog S.w) A (callWith pos p.1 p.2 (backTo pos (starEach args env)) (backToKw pos (keywordEach [] env))) Q noE s₂) noE s₁) noE s) :
  wpAny (model S.prog S.w) A (eval (.Call (.Attribute o x apos) args [] pos) env) Q noE s := by
 rw [arm_eval_Call, u1 hb]
 refine wpAny_bind (zB h fun ov s₁ h₁ => ?_)
 refine wpAny_bind (wpAny_standAt ?_)
 have hst := wX (env := env) (pos := pos) hs
 have hform : methodCallForm (args.length + ([] : List Keyword).length) (backTo pos (starEach args env)) (backToKw pos (keywordEach [] env)) = true := by
  unfold methodCallForm
  have e1 : (backTo pos (starEach args env)).all (fun x => !x.1) = true := by
   rw [List.all_eq_not_any_not]; simpa using hst
  rw [e1]
  show (true && true && decide (args.length + 0 + 0 < 30)) = true
  simpa using hn
 have hpos : methodCallPos true o env apos pos = pure pos := by unfold methodCallPos; simp [hl]
 unfold methodCall
 rw [hform]
 refine wpAny_bind (wpAny_holding (zB h₁ fun p s₂ h₂ => ?_))
 exact wpAny_bind (wpAny_of_eq hpos h₂)
end
inductive CAt (S : Sta) (h : Heap) (c : Cls) (d : D) (st : St) : Value → Prop
 | mk (a dx : Addr) (fs : List Fld) (es : List DictEntry) (n : Nat) (vs : List Value) (g : h.get? a = some (instObj c.addr dx)) (gd : h.get? dx = some (dictOf es n)) (e : Ents fs es vs) (s : ∀ f ∈ fs, f ∈ c.flds) (m : ∀ f (F : D → Prop), pX d f st F → f ∈ fs) : CAt S h c d st (.ref a)
theorem t8 {f : Fld} : ∀ {fs : List Fld} {l : List D} {d : D}, zz fs l f = some d → f ∈ fs
 | [], _, _, h => nn h
 | g :: fs, [], _, h => nn h
 | g :: fs, e :: l, d, h => by
  have h : (match Nat.beq f.ctorIdx g.ctorIdx with | true => some e | false => zz fs l f) = some d := h
  cases q : Nat.beq f.ctorIdx g.ctorIdx with
  | true => cases Fld.idx_inj q; exact .head _
  | false => rw [q] at h; exact .tail _ (t8 h)
theorem t9 {f : Fld} {fs : List Fld} {l : List D} {F : D → Prop} (h : match zz fs l f with | some d => F d | none => False) : f ∈ fs := by
 cases e : zz fs l f with
 | some d => exact t8 e
 | none => rw [e] at h; exact h.elim
section
variable {J : Jd} {sc : Scope}
variable {e : Expr} {x : Str} {args : List Expr} {y : X} {apos pos : Pos}
theorem qG (T : Facts J.S) (C : CallsOK J.S J.n J.call) (hs : (args.all fun a => !isStarred a) = true) (hy : RL J sc args y) (hn : args = [] → y = .nil) {ρ : Rg} {st : St} {A : Around} {s : Shared} {W : Wd} {env : Env} {Q : D → St → Prop} {d : D} {c : Cls} {v : Value} {ex : Sem Bool} (H : Here J A env sc ρ st s W) (I : CAt J.S s.heap c d st v) (r : Rep J.S W d v)
  (q : pY J.call d (J.S.g.meth x) (xZ x) ((run J.call y).l ρ) c st Q) : Wq J.S A (getMethod v x ex) (fun p s₂ => Wq J.S A (callWith pos p.1 p.2 (backTo pos (starEach args env)) (backToKw pos (keywordEach [] env))) (PostD J.S W s Q) s₂) s := by
 obtain ⟨a, dx, fs, es, n, vs, g1, g2, en, sb, hm⟩ := I
 have K := H.O.kin
 have I := wA g1 g2
 unfold pY at q
 cases hc : ve c (J.S.g.meth x) with
 | some m =>
  rw [hc] at q
  obtain ⟨hf, hfn, hx⟩ := T.meth c x m hc
  refine method_fn K I (plainGet_of (name := x) (T.get c)).1 (plainGet_of (name := x) (T.get c)).2 hf (beq_iff_eq.mp hfn) (by show (lookIn x (dictOf es n)).map _ = _; rw [lookIn_dict, oZ en (fun f hf => hx f (sb f hf))]; rfl) ?_
  refine wC hs hy hn H q fun y₁ r₁ U q => ?_
  have rs := RepL.cons (r.mono y₁.le) r₁
  exact ⟨C.keep (f := .val (.ref m)) q y₁.ok ⟨rfl, rfl⟩, zB (C.ok.go (f := .val (.ref m)) H.hr y₁.ok ⟨rfl, rfl⟩ rs q) (PostD.trans y₁)⟩
 | none =>
  rw [hc] at q
  cases hf : xZ x with
  | none => rw [hf] at q; exact q.elim
  | some fl =>
   rw [hf] at q
   cases wV hf
   have hmem := sb fl (hm fl _ q)
   refine method_usual (r := none) K I (plainGet_of (name := fl.str) (T.get c)).1 (plainGet_of (name := fl.str) (T.get c)).2 (T.fld c fl hmem) rfl ?_
   refine zB (pz T (Q := fun g st => (run J.call y).l ρ st fun ds st => J.call g ds st Q) H.O r q) ?_
   rintro fv s₁ ⟨g, st₁, W₁, q, y₁, r₁⟩
   refine wC hs hy hn (H.step y₁) q fun y₂ r₂ U q => ?_
   have rf := r₁.mono y₂.le
   exact ⟨C.keep q y₂.ok rf, zB (C.ok.go H.hr y₂.ok rf r₂ q) (PostD.trans (y₁.trans y₂))⟩
theorem iF (T : Facts J.S) (C : CallsOK J.S J.n J.call) {z : X} (h : RE J sc e z) (hp : yK e = true) (hl : (apos.endLine == pos.line) = true) (h30 : args.length < 30) (hs : (args.all fun a => !isStarred a) = true) (hy : RL J sc args y) (hn : args = [] → y = .nil) :
  RE J sc (.Call (.Attribute e x apos) args [] pos) (.met z (J.S.g.meth x) (xZ x) (qm x) y) := by
 refine ⟨@fun ρ st Q A s W env H q => t7 hp hl h30 hs (zB (h.go H q) ?_)⟩
 intro ov s₁ hz2
 refine hid fun hG => ?_
 obtain ⟨d, st₁, W₁, q, y₁, r₁⟩ := hz2
 refine hG ?_
 have H₁ := H.step y₁
 have up : ∀ {p : Value × List Value} {s₂ : Shared}, Wq J.S A (callWith pos p.1 p.2 (backTo pos (starEach args env)) (backToKw pos (keywordEach [] env))) (PostD J.S W₁ s₁ Q) s₂ → Wq J.S A (callWith pos p.1 p.2 (backTo pos (starEach args env)) (backToKw pos (keywordEach [] env))) (PostD J.S W s Q) s₂ := fun h => zB h (PostD.trans y₁)
 have bu : ∀ {id : String} {F : List D → St → Prop}, Recv J.S W₁ s₁ x ov id → (run J.call y).l ρ st₁ F → (∀ {l vs st₂ s₂ W₂}, Stp J.S W₁ s₁ st₂ s₂ W₂ → RepL J.S W₂ l vs → F l st₂ → Wq J.S A (call (.builtin id) (ov :: vs)) (PostD J.S W₂ s₂ Q) s₂) → Wq J.S A (getMethod ov x (do return (← importBound e env).getD true)) (fun p s₂ => Wq J.S A (callWith pos p.1 p.2 (backTo pos (starEach args env)) (backToKw pos (keywordEach [] env))) (PostD J.S W s Q) s₂) s₁ := by
  intro id F hz2 q k
  refine hid fun hG => ?_
  obtain ⟨⟨T, hT, pa, slot, ty⟩, nd⟩ := hz2
  refine hG ?_
  exact getMethod_builtin hT pa slot ty nd (wC hs hy hn H₁ q fun y₂ r₂ U q => ⟨yX rfl, zB (k y₂ r₂ q) (PostD.trans (y₁.trans y₂))⟩)
 cases d with
 | obj t c l =>
  have r₀ := r₁
  refine hid fun hG => ?_
  obtain ⟨a, dx, es, n, vs, f1, f2, en, rl⟩ := r₁
  refine hG ?_
  exact zB (qG T C hs hy hn H₁ (.mk a dx _ es n vs (y₁.ok.frz _ _ _ f1) (y₁.ok.frz _ _ _ f2) en (fun U h => h) fun f F h => t9 h) r₀ q) fun p s₂ h => up h
 | mref k =>
  have r₀ := r₁
  refine hid fun hG => ?_
  obtain ⟨a, rfl, ha⟩ := r₁
  obtain ⟨mo, hm, q⟩ := zL q
  refine hG ?_
  have P := y₁.ok.place hm ha
  have other : ∀ {F : List D → St → Prop}, (jh (qm x) mo ((run J.call y).l ρ st₁ F)) → (∀ l st, F l st → rN (qm x) k l st Q) → Wq J.S A (getMethod (.ref a) x (do return (← importBound e env).getD true)) (fun p s₂ => Wq J.S A (callWith pos p.1 p.2 (backTo pos (starEach args env)) (backToKw pos (keywordEach [] env))) (PostD J.S W s Q) s₂) s₁ := fun q hF => by
   obtain ⟨q, rc, hno⟩ := ly q y₁.ok P
   rw [← oB rfl hno] at rc
   exact bu rc q fun y₂ r₂ q => lz (hF _ _ q) y₂.ok (zT y₂.le.μ ha) r₂
  cases mo with
  | ins c fs l =>
   refine hid fun hG => ?_
   obtain ⟨dx, es, n, vs, _, i1, _, i2, en, rl, sb⟩ := P
   refine hG ?_
   exact zB (qG T C hs hy hn H₁ (.mk a dx fs es n vs i1 i2 en sb fun f F h => by obtain ⟨mo, hm', h⟩ := zL h; rw [hm] at hm'; cases hm'; exact t9 h) r₀ q) fun p s₂ h => up h
  | _ => exact other q fun U U h => h
 | str i =>
  obtain ⟨t, rfl⟩ := r₁
  cases hm : qm x with
  | rfind =>
   rw [hm] at q
   cases oB hm (fun e => nomatch e)
   exact bu ⟨⟨"str", typeIs_str _ _ _, F.plainAttrs_str, F.slot_str_rfind, F.type_str_rfind⟩, fun U e => nomatch e⟩ q fun y₂ r₂ q => (mK q y₂.ok r₂).2
  | _ => rw [hm] at q; exact q.elim
 | _ => exact q.elim
theorem kA (Z : BaseOk J.S) (C : CallsOK J.S J.n J.call) {k m : Addr} (hv : zw J.S.g sc e = some (.ref k)) (hb : J.S.g.base k x = some m) (hp : yK e = true) (hl : (apos.endLine == pos.line) = true) (h30 : args.length < 30) (hs : (args.all fun a => !isStarred a) = true) (hy : RL J sc args y) (hn : args = [] → y = .nil) :
  RE J sc (.Call (.Attribute e x apos) args [] pos) (.app (.k (.val (.ref m))) y) := by
 refine ⟨@fun ρ st Q A s W env H q => t7 hp hl h30 hs (uD hv H ?_)⟩
 refine hid fun hG => ?_
 obtain ⟨b1, b2, b3⟩ := Z.base k x m hb
 refine hG ?_
 refine method_cls H.O.kin b1 (cls_value H.O.kin b2 b3 rfl ?_)
 have yq : Stp J.S W s st { s with toks := s.toks + 1 } W := .toks H.O _
 refine wC hs hy hn (H.step yq) q fun y₂ r₂ U q => ?_
 exact ⟨C.keep (f := .val (.ref m)) q y₂.ok ⟨rfl, rfl⟩, zB (C.ok.go (f := .val (.ref m)) H.hr y₂.ok ⟨rfl, rfl⟩ r₂ q) (PostD.trans (yq.trans y₂))⟩
end
structure ItK (S : Sta) (t : Expr) (it : Value) (F : List Addr) (I : Wd → Heap → List D → Prop) : Prop where
 fld : ∀ {W h ds}, I W h ds → ∀ b ∈ F, W.Ψ b = none ∧ ∃ o fs, h.get? b = some o ∧ o.data = .fields fs
 stay : ∀ {W W' : Wd} {h h' : Heap} {ds}, I W h ds → W.Le W' → (∀ b ∈ F, W'.Ψ b = none) → (∀ b ∈ F, ∀ o, h.get? b = some o → h'.get? b = some o) → (∀ b o t, W'.Ψ b = some (.frz o t) → h'.get? b = some o) → I W' h' ds
 next : ∀ {A : Around} {s : Shared} {W : Wd} {st : St} {ds}, A.handled = none → Ok S W st s.heap → I W s.heap ds → ∀ {E : Value → Shared → Prop}, wpAny (model S.prog S.w) A (pyNext it) (fun r s₁ => match r with
  | none => ds = [] ∧ ∃ h' tk, s₁ = { s with heap := h', toks := tk } ∧ (∀ b o, b ∉ F → s.heap.get? b = some o → h'.get? b = some o)
  | some v => wpAny (model S.prog S.w) A (letOwnedTupleGo t it v) (fun U s₂ => ∃ d ds' h' tk W', ds = d :: ds' ∧ s₂ = { s with heap := h', toks := tk } ∧ (∀ b o, b ∉ F → s.heap.get? b = some o → h'.get? b = some o) ∧
    W.Le W' ∧ Ok S W' st h' ∧ (∀ b o, s.heap.get? b = some o → W.Ψ b = none → W'.Ψ b = none) ∧ (∀ b, NotSig W b → s.heap.get? b ≠ none → NotSig W' b) ∧ Rep S W' d v ∧ I W' h' ds') E s₁) E s
 self : ∀ {A : Around} {s : Shared} {W : Wd} {ds}, A.handled = none → I W s.heap ds → ∀ {Q E : Value → Shared → Prop}, Q it s → wpAny (model S.prog S.w) A (pyIter it) Q E s
noncomputable def keepers : List String := ["enumerate", "zip", "dict_itemiterator", "dict_reverseitemiterator", "odict_iterator", "itertools.zip_longest", "itertools.pairwise"]
set_option backward.match.sparseCases true in
theorem oe {M : Model} {A : Around} {s : Shared} {Q : Unit → Shared → Prop} {E : Value → Shared → Prop} {t : Expr} {I : Addr} {v : Value} {o : Obj} {T : String} {fs : Array Value} (ho : s.heap.get? I = some o) (hc : o.cls = .type T) (hd : o.data = .fields fs) (hT : keepers.contains T = false) (h : Q () s) :
  wpAny M A (letOwnedTupleGo t (.ref I) v) Q E s := by
 have key : ∀ a, wpAny M A (letOwnedTupleGo (.Tuple [] default default) (.ref I) (.ref a)) Q E s := fun a => by
  unfold letOwnedTupleGo
  refine wpAny_bind (wpAny_load ho ?_)
  rw [hc, hd]
  show wpAny _ _ (if (keepers.contains T && fs[0]? == some (rawInt a)) = true then _ else _) _ _ _
  rw [hT]
  exact wpAny_pure h
 unfold letOwnedTupleGo
 cases t with
 | Tuple => cases v with
  | ref a => exact key a
  | _ => exact wpAny_pure h
 | List => cases v with
  | ref a => exact key a
  | _ => exact wpAny_pure h
 | _ => exact wpAny_pure h
structure Wk (S : Sta) (I : Addr) (fp : List Addr) (n : Nat) (P : Nat → Value → Prop) (St : Nat → Heap → Prop) : Prop where
 walk : ∀ A : Around, A.handled = none → Walks S.prog S.w A I fp [I] n P St
 kind : ∀ i h, St i h → ∃ o T fs, h.get? I = some o ∧ o.cls = .type T ∧ o.data = .fields fs ∧ keepers.contains T = false
noncomputable def iG (S : Sta) (I : Addr) (fp : List Addr) (n : Nat) (P : Nat → Value → Prop) (St : Nat → Heap → Prop) (W : Wd) (h : Heap) (ds : List D) : Prop :=
 ∃ i, i + ds.length = n ∧ St i h ∧ W.Ψ I = none ∧ (∀ b ∈ fp, b = I ∨ ∃ o t, W.Ψ b = some (.frz o t) ∧ h.get? b = some o) ∧ (∀ j d v, ds[j]? = some d → P (i + j) v → Rep S W d v)
theorem og {S : Sta} {t : Expr} {I : Addr} {fp : List Addr} {n : Nat} {P : Nat → Value → Prop} {St : Nat → Heap → Prop} (w : Wk S I fp n P St) : ItK S t (.ref I) [I] (iG S I fp n P St) where
 fld := by
  intro W h ds hz3 b hb
  refine hid fun hG => ?_
  obtain ⟨i, _, hs, hn, _⟩ := hz3
  refine hG ?_
  rw [List.mem_singleton.mp hb]
  refine hid fun hG => ?_
  obtain ⟨o, T, fs, h1, _, h2, _⟩ := w.kind i h hs
  refine hG ?_
  exact ⟨hn, o, fs, h1, h2⟩
 stay := by
  intro W W' h h' ds hz5 le n' k f
  refine hid fun hG => ?_
  obtain ⟨i, hi, hs, hn, hf, hp⟩ := hz5
  refine hG ?_
  refine ⟨i, hi, ?_, n' I (by simp), fun b hb => ?_, fun j d v e p => (hp j d v e p).mono le⟩
  ·refine (w.walk {} rfl).frame i h h' hs fun b hb o e => ?_
   rcases hf b hb with rfl | ⟨o', t', h1, h2⟩
   ·exact k b (by simp) o e
   ·rw [e] at h2; cases h2; exact f _ _ _ (le.frz _ _ _ h1)
  ·rcases hf b hb with rfl | ⟨o', t', h1, h2⟩
   ·exact .inl rfl
   ·exact .inr ⟨o', t', le.frz _ _ _ h1, f _ _ _ (le.frz _ _ _ h1)⟩
 next := by
  intro A s W st ds hh O hz7 E
  refine hid fun hG => ?_
  obtain ⟨i, hi, hs, hn, hf, hp⟩ := hz7
  refine hG ?_
  cases ds with
  | nil =>
   simp at hi; subst hi
   refine (w.walk A hh).done s _ _ hs fun h' tk k => ?_
   exact ⟨rfl, h', tk, rfl, k⟩
  | cons d ds =>
   refine (w.walk A hh).item i s _ _ (by simp at hi; exact lin1 [_,_,_] 0 S0 V1 1 (.a V0 S2) V1 tt (el hi)) hs fun v h' tk p hs' k => ?_
   refine hid fun hG => ?_
   obtain ⟨o, T, fs, h1, h2, h3, h4⟩ := w.kind (i + 1) h' hs'
   refine hG ?_
   refine oe h1 h2 h3 h4 ?_
   have k' : ∀ a o, s.heap.get? a = some o → W.Ψ a ≠ none → h'.get? a = some o := fun a o e q => k a o (fun z => q (by rw [List.mem_singleton.mp z]; exact hn)) e
   refine ⟨d, ds, h', tk, W, rfl, rfl, k, .refl _, O.of_keep k', fun U U U e => e, fun U e U => e, hp 0 d v rfl p, i + 1, by simp at hi ⊢; exact Nat.le_antisymm (lin1 [_,_,_] 0 (.a S0 V1) V2 1 (.a V0 S1) V2 tt (el hi)) (lin1 [_,_,_] 0 V0 (.a S1 V2) 1 V0 (.a V1 S2) tt (er hi)), hs', hn, fun b hb => ?_, fun j d' v' e q => hp (j + 1) d' v' (by simpa using e) (by rw [show i + (j + 1) = i + 1 + j by exact Nat.le_antisymm (lin0 [_,_] 0 (.a V0 S1) (.a S0 V1) tt) (lin0 [_,_] 0 (.a S0 V1) (.a V0 S1) tt)]; exact q)⟩
   rcases hf b hb with rfl | ⟨o', t', e1, e2⟩
   ·exact .inl rfl
   ·exact .inr ⟨o', t', e1, k' _ _ e2 (by rw [e1]; exact fun z => by cases z)⟩
 self := by
  intro A s W ds hh hz5 Q E q
  refine hid fun hG => ?_
  obtain ⟨i, _, hs, _⟩ := hz5
  refine hG ?_
  exact (w.walk A hh).self i s _ _ hs q
noncomputable def g7 (S : Sta) (e it l : Addr) (vs : List Value) (m : Nat) (W : Wd) (h : Heap) (ds : List D) : Prop :=
 e ≠ it ∧ W.Ψ l = some (.frz (PySem.W.listOf vs.toArray m) 0) ∧ W.Ψ e = none ∧ W.Ψ it = none ∧ ∃ i old l', ds = y9 i l' ∧ RepL S W l' (vs.drop i) ∧ i ≤ vs.length ∧ IsEnum h e it (i : Int) old ∧ h.IsListIter it l i
theorem mL {S : Sta} {elts : List Expr} {x1 : Nat} {pos : Pos} {e it l : Addr} {vs : List Value} {m : Nat} : ItK S (.Tuple elts x1 pos) (.ref e) [e, it] (g7 S e it l vs m) where
 fld := by
  intro W h ds hz3 b hb
  refine hid fun hG => ?_
  obtain ⟨_, _, he, hi, i, old, l', _, _, _, h1, o, h2, _, h3⟩ := hz3
  refine hG ?_
  rcases List.mem_cons.mp hb with rfl | hb
  ·exact ⟨he, _, _, h1, rfl⟩
  ·rw [List.mem_singleton.mp hb]; exact ⟨hi, o, _, h2, h3⟩
 stay := by
  intro W W' h h' ds hz5 le n k f
  refine hid fun hG => ?_
  obtain ⟨ne, hl, he, hi, i, old, l', e1, r, le', h1, h2⟩ := hz5
  refine hG ?_
  exact ⟨ne, le.frz _ _ _ hl, n e (by simp), n it (by simp), i, old, l', e1, r.mono le, le', k e (by simp) _ h1, h2.at fun o q => k it (by simp) o q⟩
 next := by
  intro A s W st ds hh O hz7 E
  refine hid fun hG => ?_
  obtain ⟨ne, hl, he, hi, i, old, l', e1, r, le', h1, h2⟩ := hz7
  refine hG ?_
  have hL : s.heap.IsList l vs.toArray := zI (O.frz _ _ _ hl)
  cases l' with
  | nil =>
   have hd : vs.drop i = [] := r
   have hi' : vs.toArray[i]? = none := by
    have := congrArg List.length hd
    simp at this; simp; exact lin2 [_,_,_] 0 V0 V1 1 V2 U0 1 V0 (.a V2 V1) tt (el this) sb1
   refine wpAny_pyNext_enum_end hh h1 h2 hL hi' fun h' k => ?_
   exact ⟨e1, h', s.toks, rfl, fun b o hb q => k b o (fun z => hb (by simp [z])) q⟩
  | cons d l' =>
   refine hid fun hG => ?_
   obtain ⟨v, r', hd, rd, rl⟩ : E2 fun v r' => A3 (vs.drop i = v :: r') (Rep S W d v) (RepL S W l' r') := by
    generalize vs.drop i = us at r
    obtain ⟨v, r', a, b⟩ := r
    exact ⟨v, r', rfl, a, b⟩
   refine hG ?_
   have hv : vs[i]? = some v := by
    have : (vs.drop i)[0]? = some v := by rw [hd]; rfl
    simpa using this
   have hr' : vs.drop (i + 1) = r' := by
    have : (vs.drop i).drop 1 = r' := by rw [hd]; rfl
    rw [← this, List.drop_drop]
   refine wpAny_pyNext_enum_item h1 h2 hL (by simpa using hv) ne fun h₁ ho h2' ht hz k₁ => ?_
   refine wpAny_letOwnedTupleGo_enum ho fun h₂ he₂ hs₂ => ?_
   have fr : s.heap.get? s.heap.objs.size = none := zX (Nat.le_refl _)
   have ea : s.heap.objs.size ≠ e := fun z => by have h3 : s.heap.get? e = some _ := h1; rw [← z, fr] at h3; cases h3
   have ia : s.heap.objs.size ≠ it := fun z => by obtain ⟨o, h3, _⟩ := h2; rw [← z, fr] at h3; cases h3
   have k : ∀ b o, b ∉ [e, it] → s.heap.get? b = some o → h₂.get? b = some o := fun b o hb q => by
    have hb1 : b ≠ e := fun z => hb (by simp [z])
    exact (hs₂.2 b hb1).trans (k₁ b o hb1 (fun z => hb (by simp [z])) q)
   have kk : ∀ b o, s.heap.get? b = some o → W.Ψ b ≠ none → h₂.get? b = some o := fun b o q z => k b o (fun hb => by
    rcases List.mem_cons.mp hb with rfl | hb
    ·exact z he
    ·rw [List.mem_singleton.mp hb] at z; exact z hi) q
   have fn : W.Ψ s.heap.objs.size = none := O.fresh fr
   have ht₂ : h₂.get? s.heap.objs.size = some (yC (List.toArray [Value.int (i : Int) s.toks, v]) 0) := (hs₂.2 _ ea).trans ht
   have O₂ := (O.of_keep kk).put ht₂ fn
   have le : W.Le (W.put s.heap.objs.size (.frz (yC (List.toArray [Value.int (i : Int) s.toks, v]) 0) 0)) := Wd.put_le fun o t z => by rw [fn] at z; cases z
   have hlt : i < vs.length := (List.getElem?_eq_some_iff.mp hv).1
   refine ⟨.tup [.int i, d], y9 (i + 1) l', h₂, s.toks + 1, _, by rw [e1]; rfl, rfl, k, le, O₂, fun b o q z => ?_, fun b n z q c => ?_, ?_, ?_⟩
   ·rw [W.put_ne _ (fun z => by rw [z, fr] at q; cases q)]; exact z
   ·rw [W.put_ne _ (fun y => z (by rw [y]; exact fr))] at c; exact n q c
   ·exact .mk _ _ 0 (Wd.put_self ..) (.cons ⟨_, rfl⟩ (.cons (rd.mono le) .nil)) (show 2 ≤ sizeLine by decide)
   ·refine ⟨ne, le.frz _ _ _ hl, by rw [W.put_ne _ ea.symm]; exact he, by rw [W.put_ne _ ia.symm]; exact hi, i + 1, v, l', rfl, ?_, hlt, ?_, ?_⟩
    ·rw [hr']; exact rl.mono le
    ·have : ((i + 1 : Nat) : Int) = (i : Int) + 1 := by push_cast; rfl
     rw [this]; exact he₂
    ·exact h2'.at fun o q => (hs₂.2 _ ne.symm).trans q
 self := by
  intro A s W ds hh hz5 Q E q
  refine hid fun hG => ?_
  obtain ⟨_, _, _, _, i, old, l', _, _, _, h1, _⟩ := hz5
  refine hG ?_
  exact wpAny_pyIter_enum h1 q
noncomputable def Src (S : Sta) (W : Wd) (h : Heap) (t : Expr) (it : Value) (h₀ : Heap) (ds : List D) : Prop := ∃ F I, ItK S t it F I ∧ I W h ds ∧ ∀ b ∈ F, h₀.get? b = none
theorem wF {S : Sta} {t : Expr} {W : Wd} {st : St} {s : Shared} (O : Ok S W st s.heap) {o : Obj} {T : String} {fs : Array Value} (hf : o.isFreed = false) {fp : List Addr} {n : Nat} {P : Nat → Value → Prop} {Z : Nat → Heap → Prop} (w : Wk S s.heap.objs.size fp n P Z)
  (hz : Z 0 (s.heap.push o)) {ds : List D} (hn : ds.length = n) (hfp : ∀ b ∈ fp, b = s.heap.objs.size ∨ ∃ o t, W.Ψ b = some (.frz o t)) (hr : ∀ j d v, ds[j]? = some d → P j v → Rep S W d v) :
  Stp S W s st { s with heap := s.heap.push o } W ∧ Src S W (s.heap.push o) t (.ref s.heap.objs.size) s.heap ds := by
 have fr : s.heap.get? s.heap.objs.size = none := zX (Nat.le_refl _)
 refine ⟨Stp.quiet (tk := s.toks) O (fun U U e => Heap.get?_push_of_some _ e), [s.heap.objs.size], _, og w, ⟨0, by simpa using hn, hz, O.fresh fr, fun b hb => ?_, fun j d v e p => hr j d v e (by simpa using p)⟩, fun b hb => by rw [List.mem_singleton.mp hb]; exact fr⟩
 rcases hfp b hb with h | ⟨o', t', h⟩
 ·exact .inl h
 ·exact .inr ⟨o', t', h, Heap.get?_push_of_some _ (O.frz _ _ _ h)⟩
theorem kB {S : Sta} {I a : Addr} (ne : a ≠ I) (vs : Array Value) : Wk S I [I, a] vs.size (fun i v => vs[i]? = some v) (fun i h => h.IsListIter I a i ∧ h.IsList a vs) :=
 ⟨fun A hh => Walks.list hh I a ne vs, by rintro i h ⟨⟨o, h1, h2, h3⟩, _⟩; exact ⟨o, _, _, h1, h2, h3, by decide +kernel⟩⟩
theorem mM {S : Sta} {I : Addr} (a c : Int) (n : Nat) : Wk S I [I] n (fun i v => ∃ t, v = Value.int (a + i * c) t) (fun i h => IsRangeIter h I (a + i * c) ((n : Int) - i) c) :=
 ⟨fun A hh => Walks.range hh I a c n, fun i h h1 => ⟨_, _, _, h1, rfl, rfl, by decide +kernel⟩⟩
theorem iH {S : Sta} {I a : Addr} (ne : a ≠ I) (vs : Array Value) : Wk S I [I, a] vs.size (fun i v => vs[vs.size - 1 - i]? = some v) (fun i h => i ≤ vs.size ∧ h.IsRevIter I a ((vs.size : Int) - 1 - i) ∧ h.IsList a vs) :=
 ⟨fun A hh => Walks.listRev hh I a ne vs, by rintro i h ⟨_, ⟨o, h1, h2, h3⟩, _⟩; exact ⟨o, _, _, h1, h2, h3, by decide +kernel⟩⟩
theorem kC {S : Sta} {κ : Type} [DecidableEq κ] {knd : KeyKind S.prog S.w κ} {I a : Addr} (ne : a ≠ I) (kvs : List (κ × Value)) (ep : Nat) : Wk S I [I, a] kvs.length (fun i v => ∃ k x, kvs[i]? = some (k, x) ∧ knd.is k v = true) (fun i h => h.IsKeyIter I a i kvs.length ep ∧ h.DictAt knd a kvs ep) :=
 ⟨fun A hh => Walks.dictKeys hh I a ne kvs ep, by rintro i h ⟨⟨o, h1, h2, h3⟩, _⟩; exact ⟨o, _, _, h1, h2, h3, by decide +kernel⟩⟩
theorem src_list {S : Sta} {t : Expr} {W : Wd} {st : St} {s : Shared} {A : Around} (O : Ok S W st s.heap) {l : List D} {v : Value} (r : Rep S W (.list l) v) {Q : Value → Shared → Prop}
  (q : ∀ it s', Stp S W s st s' W → Src S W s'.heap t it s.heap l → Q it s') : Wq S A (pyIter v) Q s := by
 obtain ⟨a, vs, n, f, hl, _⟩ := r
 have ho := O.frz _ _ _ f
 refine wpAny_pyIter_list (zI ho) ?_
 have ne : a ≠ s.heap.objs.size := Nat.ne_of_lt (Heap.lt_size ho)
 obtain ⟨y, z⟩ := wF (t := t) (T := "list_iterator") (fs := #[]) O (o := { cls := .type "list_iterator", data := .fields #[.ref a, .int 0 0] }) rfl (kB ne vs.toArray) ⟨⟨_, Heap.get?_push_size _ rfl, rfl, rfl⟩, ⟨_, Heap.get?_push_of_some _ ho, rfl, n, rfl⟩⟩ (ds := l) (by simpa using hl.length)
  (fun b hb => by
   rcases List.mem_cons.mp hb with h | h
   ·exact .inl h
   ·rw [List.mem_singleton.mp h]; exact .inr ⟨_, _, f⟩)
  (fun j d u e p => by
   obtain ⟨w, h1, h2⟩ := hl.at e
   have : vs.toArray[j]? = some w := by simpa using h1
   rw [this] at p; cases p; exact h2)
 exact q _ _ y z
inductive PostI (S : Sta) (t : Expr) (W : Wd) (s : Shared) (Q : List D → St → Prop) (it : Value) (s' : Shared) : Prop
 | mk (ds : List D) (st' : St) (W' : Wd) (q : Q ds st') (y : Stp S W s st' s' W') (n : ds.length ≤ sizeLine) (z : Src S W' s'.heap t it s.heap ds)
structure RI (J : Jd) (sc : Scope) (t e : Expr) (x : X) : Prop where
 go : ∀ {ρ : Rg} {st : St} {Q : List D → St → Prop} {A : Around} {s : Shared} {W : Wd} {env : Env}, Here J A env sc ρ st s W → (run J.call x).i ρ st Q → Wq J.S A (eval e env) (fun x s₁ => Wq J.S A (pyIter x) (PostI J.S t W s Q) s₁) s
theorem wZ {J : Jd} {sc : Scope} {t e : Expr} : RI J sc t e .bad := ⟨fun U q => q.elim⟩
theorem qz {S : Sta} {k : Str} {v : Value} (h : (strKind S.prog S.w).is k v = true) : ∃ t, v = .str k t := by
 cases v <;> simp [PySem.strKind, Value.isStrOf] at h
 subst h; exact ⟨_, rfl⟩
theorem qH {S : Sta} {t : Expr} {W : Wd} {st : St} {s : Shared} {A : Around} (O : Ok S W st s.heap) {ks : List Str} {l : List D} {a : Addr} (P : MFs S W a ks l) {Q : Value → Shared → Prop}
  (q : ∀ it s', Stp S W s st s' W → Src S W s'.heap t it s.heap (ks.map D.str) → Q it s') : Wq S A (pyIter (.ref a)) Q s := by
 refine hid fun hG => ?_
 obtain ⟨o, vs, hs, f, hd, hl, _, _⟩ := P
 have ho := O.frz _ _ _ f
 obtain ⟨es, ep, hx, hdat, hkeys, hp, hnd⟩ := hd
 refine hG ?_
 have hat : s.heap.DictAt (strKind S.prog S.w) a (ks.zip vs) ep := ⟨o, es, ho, hx, hdat, hkeys, hp, hnd⟩
 refine wpAny_pyIter_dict hs hat ?_
 have ne : a ≠ s.heap.objs.size := Nat.ne_of_lt (Heap.lt_size ho)
 obtain ⟨y, z⟩ := wF (t := t) (T := "") (fs := #[]) O (o := { cls := .type "dict_keyiterator", data := .fields #[.ref a, .int 0 0, .int ((ks.zip vs).length : Nat) 0, .int (ep : Nat) 0] }) rfl (kC (knd := strKind S.prog S.w) ne (ks.zip vs) ep)
  ⟨⟨_, Heap.get?_push_size _ rfl, rfl, rfl⟩, hat.at' fun o e => Heap.get?_push_of_some _ e⟩ (ds := ks.map D.str) (by simp [hl])
  (fun b hb => by
   rcases List.mem_cons.mp hb with h | h
   ·exact .inl h
   ·rw [List.mem_singleton.mp h]; exact .inr ⟨_, _, f⟩)
  (fun j d u e p => by
   refine hid fun hG => ?_
   obtain ⟨k, x, h1, h2⟩ := p
   have h3 := vj h1
   rw [List.getElem?_map, h3] at e
   cases e
   obtain ⟨t, rfl⟩ := qz h2
   refine hG ?_
   exact ⟨_, rfl⟩)
 exact q _ _ y z
theorem kD {S : Sta} {t : Expr} {W : Wd} {st : St} {s : Shared} {A : Around} {d : D} {v : Value} {Q : List D → St → Prop} (q : n9 d st Q) (O : Ok S W st s.heap) (r : Rep S W d v) : Wq S A (pyIter v) (PostI S t W s Q) s := by
 have len : ∀ {l : List D} {v : Value}, Rep S W (.list l) v → l.length ≤ sizeLine := fun r => by obtain ⟨a, vs, n, f, hl, z⟩ := r; rw [hl.length]; exact z
 cases d with
 | list l => exact src_list O r fun it s' y z => ⟨_, _, W, q, y, len r, z⟩
 | mref k =>
  obtain ⟨a, rfl, ha⟩ := r
  obtain ⟨mo, hm, q⟩ := zL q
  have P := O.place hm ha
  cases mo with
  | dS ks l =>
   have q : yi k (.fS ks l) st fun st => Q (ks.map D.str) st := q
   rw [yB] at q
   obtain ⟨o, vs, hs, sz, ho, hd, hl, hr, z⟩ := P
   have le : W.Le (W.put a (.frz o 0)) := Wd.put_le fun o t z => by rw [hs] at z; cases z
   have P' : MFs S (W.put a (.frz o 0)) a ks l := .mk o vs sz (Wd.put_self ..) hd hl (hr.mono le) z
   have y := Stp.freeze (s := s) (mo' := .fS ks l) O hm ha hs ho P'
   exact qH y.ok P' fun it s' y' w => ⟨_, _, _, q, y.trans y', by rw [List.length_map, hl]; exact z, w⟩
  | fS ks l => exact qH O P fun it s' y w => ⟨_, _, W, q, y, by obtain ⟨o, vs, _, _, _, hl, _, z⟩ := P; rw [List.length_map, hl]; exact z, w⟩
  | fz l => exact src_list O P fun it s' y z => ⟨_, _, W, q, y, len P, z⟩
  | _ => exact q.elim
 | _ => exact q.elim
theorem Src.later {S : Sta} {W : Wd} {h h₁ h₀ : Heap} {t : Expr} {it : Value} {ds : List D} (z : Src S W h t it h₁ ds) (k : ∀ a o, h₀.get? a = some o → ∃ o', h₁.get? a = some o') : Src S W h t it h₀ ds := by
 refine hid fun hG => ?_
 obtain ⟨F, I, a, b, c⟩ := z
 refine hG ?_
 refine ⟨F, I, a, b, fun x hx => ?_⟩
 cases q : h₀.get? x with
 | none => rfl
 | some o => obtain ⟨o', e⟩ := k _ _ q; rw [c x hx] at e; cases e
theorem Stp.alive {S : Sta} {W W' : Wd} {s s' : Shared} {st st' : St} (O : Ok S W st s.heap) (y : Stp S W s st' s' W') {a : Addr} {o : Obj} (h : s.heap.get? a = some o) : ∃ o', s'.heap.get? a = some o' := by
 cases q : W.Ψ a with
 | none => exact ⟨o, y.keep a o h (.of_none q)⟩
 | some g => cases g with
  | frz o' t => exact ⟨o, y.keep a o h (.of_frz q)⟩
  | sig k => exact y.ok.alive (y.le.told a (by rw [q]; exact fun z => by cases z))
theorem PostI.trans {S : Sta} {t : Expr} {W W₁ : Wd} {s s₁ : Shared} {st st₁ : St} {Q : List D → St → Prop} (O : Ok S W st s.heap) (y : Stp S W s st₁ s₁ W₁) : ∀ v s', PostI S t W₁ s₁ Q v s' → PostI S t W s Q v s'
 | _, _, ⟨d, st, W', q, z, n, r⟩ => ⟨d, st, W', q, y.trans z, n, r.later fun a o e => y.alive O e⟩
section
variable {J : Jd} {sc : Scope}
theorem xl {t e : Expr} {x : X} (h : RE J sc e x) : RI J sc t e (yS x) := by
 refine zb wZ fun hx => ⟨@fun ρ st Q A s W env H q => zB (h.go H (gU hx q)) ?_⟩
 rintro v s₁ ⟨d, st₁, W₁, q, y₁, r₁⟩
 exact zB (kD (t := t) q y₁.ok r₁) (PostI.trans H.O y₁)
theorem sk {f a : Expr} {T : String} {x : X} (hv : zw J.S.g sc f = some (.type T)) (h : RE J sc a x) (hs : isStarred a = false) {ρ : Rg} {st : St} {F : D → St → Prop} {A : Around} {s : Shared} {W : Wd} {env : Env} {pos : Pos} (H : Here J A env sc ρ st s W) (q : (run J.call x).e ρ st F)
  {Q : Value → Shared → Prop} (k : ∀ {d v st₁ s₁ W₁}, Stp J.S W s st₁ s₁ W₁ → Rep J.S W₁ d v → F d st₁ → Wq J.S A (call (.type T) [v]) Q s₁) : Wq J.S A (eval (.Call f [a] [] pos) env) Q s := by
 rw [wD (wY hv)]
 refine wpAny_bind (uD hv H (u3 (args := [a]) (by simp [hs]) (by first | exact fun e => cn e | exact fun e => nc e | exact fun e => sn e | exact fun e => ns e | exact fun e => nn e) (wpAny_items_cons (zB (h.go H q) ?_) (zm hs))))
 rintro v s₁ ⟨d, st₁, W₁, q, y₁, r₁⟩
 exact wpAny_items_nil ⟨yX rfl, k y₁ r₁ q⟩
theorem mN {t f a : Expr} {x : X} {pos : Pos} (hv : zw J.S.g sc f = some (.type "range")) (h : RE J sc a x) (hs : isStarred a = false) : RI J sc t (.Call f [a] [] pos) (.it .range x) := by
 refine ⟨@fun ρ st Q A s W env H q => sk hv h hs H q fun {d v st₁ s₁ W₁} y₁ r₁ q => ?_⟩
 cases d with
 | int n =>
  obtain ⟨m, ⟨rfl, hz1⟩, q⟩ := q
  obtain ⟨tk, rfl⟩ := r₁
  refine call_range_1 ?_
  let ro : Obj := { cls := .type "range", data := .fields #[.int 0 s₁.toks, .int (m : Int) tk, .int 1 (s₁.toks + 1)] }
  have y₂ : Stp J.S W₁ s₁ st₁ { s₁ with heap := s₁.heap.push ro, toks := s₁.toks + 1 + 1 } W₁ := .quiet y₁.ok fun U U e => Heap.get?_push_of_some _ e
  have hm : (m : Int) < 2 ^ 62 := by rw [sizeLine_eq] at hz1; omega
  refine wpAny_pyIter_range (s := { s₁ with heap := s₁.heap.push ro, toks := s₁.toks + 1 + 1 }) (IsRange.new _ _ _ _ _ _ _) (small_one (by decide) (by decide) (by omega) hm) ?_
  have hsz : Builtin.Range.rangeSize 0 (m : Int) 1 = (m : Int) := by
   rw [rangeSize_one]; split <;> omega
  rw [hsz]
  obtain ⟨y, z⟩ := wF (t := t) (T := "") (fs := #[]) (s := { s₁ with heap := s₁.heap.push ro, toks := s₁.toks + 1 + 1 }) y₂.ok (o := { cls := .type "range_iterator", data := .fields #[rawInt 0, rawInt (m : Int), rawInt 1] }) rfl (mM 0 1 m)
   (by show Heap.get? _ _ = _; rw [Heap.get?_push_size _ rfl]; simp) (ds := (List.range m).map fun i => D.int (Int.ofNat i)) (by simp)
   (fun b hb => .inl (List.mem_singleton.mp hb))
   (fun j d u e p => by
    obtain ⟨t, rfl⟩ := p
    simp only [List.getElem?_map] at e
    obtain ⟨i, hi, rfl⟩ := Option.map_eq_some_iff.mp e
    obtain ⟨hi1, rfl⟩ := List.getElem?_eq_some_iff.mp hi
    have : (0 : Int) + (j : Int) * 1 = Int.ofNat (List.range m)[j] := by simp
    rw [this]; exact ⟨_, rfl⟩)
  exact PostI.trans H.O (y₁.trans y₂) _ _ ⟨_, _, W₁, q, y, by rw [List.length_map, List.length_range]; exact hz1, z⟩
 | _ => exact q.elim
theorem kE {t f a : Expr} {x : X} {pos : Pos} (hv : zw J.S.g sc f = some (.type "enumerate")) (h : RE J sc a x) (hs : isStarred a = false) (ht : ql t = true) : RI J sc t (.Call f [a] [] pos) (.it .enum x) := by
 refine ⟨@fun ρ st Q A s W env H q => sk hv h hs H q fun {d v st₁ s₁ W₁} y₁ r₁ q => ?_⟩
 cases d with
 | list l =>
  obtain ⟨a, vs, m, f, hl, zl⟩ := r₁
  have ho := y₁.ok.frz _ _ _ f
  have en : ∀ (l : List D) (n : Nat), (y9 n l).length = l.length := fun l => by
   induction l with
   | nil => exact fun U => rfl
   | cons x l ih => exact fun n => congrArg (· + 1) (ih (n + 1))
  refine call_enumerate_list (zI ho) fun h' he' hi' hz hk => ?_
  refine wpAny_pyIter_enum he' ?_
  have y₂ : Stp J.S W₁ s₁ st₁ { s₁ with heap := h' } W₁ := .quiet (tk := s₁.toks) y₁.ok hk
  have f1 : s₁.heap.get? s₁.heap.objs.size = none := zX (Nat.le_refl _)
  have f2 : s₁.heap.get? (s₁.heap.objs.size + 1) = none := zX (Nat.le_succ _)
  cases t with
  | Tuple elts x1 tpos =>
   refine PostI.trans H.O y₁ _ _ ⟨_, _, W₁, q, y₂, by rw [en, hl.length]; exact zl, _, _, mL (l := a) (vs := vs) (m := m), ⟨Nat.succ_ne_self _, f, y₁.ok.fresh f2, y₁.ok.fresh f1, 0, _, _, rfl, hl, Nat.zero_le _, he', hi'⟩, fun b hb => ?_⟩
   rcases List.mem_cons.mp hb with rfl | hb
   ·exact f2
   ·rw [List.mem_singleton.mp hb]; exact f1
  | _ => cases ht
 | _ => exact q.elim
theorem kF {S : Sta} {t : Expr} {W : Wd} {st : St} {s : Shared} {A : Around} (O : Ok S W st s.heap) {l : List D} {v : Value} {Q : List D → St → Prop} (r : Rep S W (.list l) v) (q : Q l.reverse st) : Wq S A (call (.type "reversed") [v]) (fun x s₁ => Wq S A (pyIter x) (PostI S t W s Q) s₁) s := by
 obtain ⟨a, vs, m, f, hl, zl⟩ := r
 have ho := O.frz _ _ _ f
 refine call_reversed_list (zI ho) ?_
 have ne : a ≠ s.heap.objs.size := Nat.ne_of_lt (Heap.lt_size ho)
 have hrev : (s.heap.push (revObj a ((vs.toArray.size : Int) - 1))).IsRevIter s.heap.objs.size a ((vs.toArray.size : Int) - 1) := ⟨_, Heap.get?_push_size _ rfl, rfl, rfl⟩
 refine wpAny_pyIter_revIter hrev ?_
 obtain ⟨y, z⟩ := wF (t := t) (T := "") (fs := #[]) (s := s) O (o := revObj a ((vs.toArray.size : Int) - 1)) rfl (iH ne vs.toArray)
  ⟨Nat.zero_le _, by simpa using hrev, ⟨_, Heap.get?_push_of_some _ ho, rfl, m, rfl⟩⟩ (ds := l.reverse) (by simp [hl.length])
  (fun b hb => by
   rcases List.mem_cons.mp hb with h | h
   ·exact .inl h
   ·rw [List.mem_singleton.mp h]; exact .inr ⟨_, _, f⟩)
  (fun j d u e p => by
   obtain ⟨w, h1, h2⟩ := hl.reverse.at e
   have hj : j < vs.length := by simpa using (List.getElem?_eq_some_iff.mp h1).1
   have : vs.toArray[vs.toArray.size - 1 - j]? = some w := by
    rw [List.getElem?_reverse hj] at h1
    simpa using h1
   rw [this] at p; cases p; exact h2)
 exact ⟨_, _, W, q, y, by rw [List.length_reverse, hl.length]; exact zl, z⟩
set_option tactic.hygienic true in
theorem iI {t f a : Expr} {x : X} {pos : Pos} (hv : zw J.S.g sc f = some (.type "reversed")) (h : RE J sc a x) (hs : isStarred a = false) : RI J sc t (.Call f [a] [] pos) (.it .rev x) := by
 refine ⟨@fun ρ st Q A s W env H q => sk hv h hs H q fun {d v st₁ s₁ W₁} y₁ r₁ q => ?_⟩
 have key : ∀ {l : List D}, Rep J.S W₁ (.list l) v → Q l.reverse st₁ → Wq J.S A (call (.type "reversed") [v]) (fun x s₁ => Wq J.S A (pyIter x) (PostI J.S t W s Q) s₁) s₁ :=
  fun r q => zB (kF y₁.ok r q) fun U U h => zB h (PostI.trans H.O y₁)
 cases d with
 | list l => exact key r₁ q
 | mref k =>
  obtain ⟨a, rfl, ha⟩ := r₁
  obtain ⟨mo, hm, q⟩ := zL q
  cases mo with
  | fz l => exact key (y₁.ok.place hm ha) q
  | _ => exact q.elim
 | _ => exact q.elim
end
theorem qI {h : Heap} {a c : Addr} {m : Str → Option Value} {v : Option Value} (hn : h.Ns a m) (hc : h.IsCell c v) : c ≠ a := by
 rintro rfl
 obtain ⟨o, es, ep, ho, hd, _⟩ := hn
 obtain ⟨o', ho', hd'⟩ := hc
 rw [ho] at ho'; cases ho'
 rw [hd] at hd'; cases hd'
theorem EnvR.storable {S : Sta} {W : Wd} {env : Env} {sc : Scope} {ρ : Rg} {h : Heap} (he : EnvR S W env sc ρ h) {x : Str} (hk : Internal.storable sc x = true) : env.kindOf x = some .local ∨ env.kindOf x = some .cell := by
 unfold Internal.storable at hk
 rw [Bool.or_eq_true, beq_iff_eq, beq_iff_eq] at hk
 exact hk.elim (fun h => .inl (he.kl x h)) fun h => .inr (he.kc x h)
theorem oD {d e : D} : ∀ {ρ : Rg} {i j : Nat}, nth (put ρ i d) j = some e → (j = i ∧ e = d) ∨ nth ρ j = some e
 | [], _, _, h => nn h
 | _ :: _, 0, 0, h => by cases h; exact .inl ⟨rfl, rfl⟩
 | _ :: _, 0, j + 1, h => .inr h
 | _ :: _, i + 1, 0, h => .inr h
 | _ :: ρ, i + 1, j + 1, h => (oD (ρ := ρ) h).imp (fun ⟨a, b⟩ => ⟨congrArg (· + 1) a, b⟩) id
theorem qJ {sc : Scope} {ρ : Rg} {i : Nat} {x y : Str} {d e : D} (hi : ix (zd sc) x = some i) (h : yb sc (put ρ i d) y = some e) : (y = x ∧ e = d) ∨ (y ≠ x ∧ yb sc ρ y = some e) := by
 obtain ⟨j, hj, h⟩ := z7 h
 by_cases hxy : y = x
 ·subst hxy
  rw [hi] at hj; cases hj
  have : ∀ {ρ : Rg} {i : Nat}, nth (put ρ i d) i = some e → e = d := by
   intro ρ
   induction ρ with
   | nil => intro i h; exact nn h
   | cons r ρ ih => intro i h; cases i with
    | zero => cases h; rfl
    | succ i => exact ih h
  exact .inl ⟨rfl, this h⟩
 ·refine .inr ⟨hxy, ?_⟩
  rcases oD h with ⟨rfl, _⟩ | h
  ·obtain ⟨k, e1⟩ := ym hi
   obtain ⟨k', e2⟩ := ym hj
   rw [e1] at e2; cases e2; exact absurd rfl hxy
  ·unfold yb; rw [hj]; exact h
section
variable {S : Sta} {W : Wd} {env : Env} {sc : Scope} {ρ : Rg} {st : St} {s : Shared} {A : Around}
theorem xm {x : Str} {i : Nat} {d : D} {v : Value} (he : EnvR S W env sc ρ s.heap) (O : Ok S W st s.heap) (hk : env.kindOf x = some .local) (hi : ix (zd sc) x = some i) (r : Rep S W d v) {Q : Unit → Shared → Prop}
  (q : ∀ h', Heap.SameBut env.locals s.heap h' → Ok S W st h' → EnvR S W env sc (put ρ i d) h' → Q () { s with heap := h', toks := s.toks + 1 }) : Wq S A (storeName env x v) Q s := by
 obtain ⟨m, hn⟩ := he.ns
 refine wpAny_storeName_local hk hn (fun h' hn' hs => ?_) (by rw [he.kind]; rfl)
 have O' : Ok S W st h' := O.of_keep fun a o e h => (hs.2 a fun z => h (by rw [z]; exact he.loc)).trans e
 refine q h' hs O' { he with ns := ⟨_, hn'⟩, vars := fun y e hy => ?_ }
 rcases qJ hi hy with ⟨rfl, rfl⟩ | ⟨hxy, hy⟩
 ·exact ⟨v, .inl ⟨hk, _, hn', by simp⟩, r⟩
 ·obtain ⟨u, ru, pu⟩ := he.vars y e hy
  refine ⟨u, ?_, pu⟩
  rcases ru with ⟨k1, m1, h1, h2⟩ | ⟨k1, c, h1, ⟨o, h2, h3⟩, h4⟩
  ·refine .inl ⟨k1, _, hn', ?_⟩
   have : m1 y = m y := by
    refine hid fun hG => ?_
    obtain ⟨o1, es1, ep1, e1, e2, _, e3⟩ := h1
    obtain ⟨o2, es2, ep2, e4, e5, _, e6⟩ := hn
    refine hG ?_
    rw [e1] at e4; cases e4
    rw [e2] at e5; cases e5
    rw [← e3, ← e6]
   simp [hxy, ← this, h2]
  ·exact .inr ⟨k1, c, h1, ⟨o, (hs.2 c (qI hn ⟨o, h2, h3⟩)).trans h2, h3⟩, h4⟩
inductive Stored (S : Sta) (env : Env) (sc : Scope) (W : Wd) (s : Shared) (st : St) (K : Rg → Prop) (s' : Shared) : Prop
 | mk (ρ : Rg) (q : K ρ) (y : StpF S env W s st s' W) (he : EnvR S W env sc ρ s'.heap) (f : FrR S W env sc s'.heap)
theorem yy {x : Str} {i : Nat} {d : D} {v : Value} {K : Rg → Prop} (he : EnvR S W env sc ρ s.heap) (hf : FrR S W env sc s.heap) (O : Ok S W st s.heap) (hk : env.kindOf x = some .local ∨ env.kindOf x = some .cell) (hi : ix (zd sc) x = some i) (r : Rep S W d v) (q : K (put ρ i d)) :
  Wq S A (storeName env x v) (fun U s' => Stored S env sc W s st K s') s := by
 obtain ⟨m, hn⟩ := id he.ns
 rcases hk with hk | hk
 ·refine xm he O hk hi r fun h' hs O' he' => ?_
  refine ⟨_, q, ⟨⟨_, _, rfl⟩, O', .refl _, fun U U U h U => h, fun a o e U no => (hs.2 a (fun z => no (.inl z))).trans e⟩, he', ⟨hf.own, fun y hy => ?_⟩⟩
  refine hid fun hG => ?_
  obtain ⟨c, h1, h2, ⟨w, o, h3, h4⟩, h5, h6⟩ := hf.cell y hy
  refine hG ?_
  exact ⟨c, h1, h2, ⟨w, o, (hs.2 c h5).trans h3, h4⟩, h5, h6⟩
 ·refine hid fun hG => ?_
  obtain ⟨c, h1, h2, ⟨w, h3⟩, h5, h6⟩ := hf.cell x hk
  refine hG ?_
  refine wpAny_storeName_cell he.kind hk h1 h3 fun h' hc hs => ?_
  have O' : Ok S W st h' := O.of_keep fun a o e h => (hs.2 a fun z => h (by rw [z]; exact h2)).trans e
  have hn' : h'.Ns env.locals m := hn.sameBut hs h5.symm
  refine ⟨_, q, ⟨⟨_, _, rfl⟩, O', .refl _, fun U U U h U => h, fun a o e U no => (hs.2 a (fun z => no (.inr ⟨x, hk, by rw [z]; exact h1⟩))).trans e⟩, { he with ns := ⟨_, hn'⟩, vars := fun y e hy => ?_ }, ⟨hf.own, fun y hy => ?_⟩⟩
  ·rcases qJ hi hy with ⟨rfl, rfl⟩ | ⟨hxy, hy⟩
   ·exact ⟨v, .inr ⟨.inl hk, c, h1, hc, .of_none h2⟩, r⟩
   ·obtain ⟨u, ru, pu⟩ := he.vars y e hy
    refine ⟨u, ?_, pu⟩
    rcases ru with ⟨k1, m1, z1, z2⟩ | ⟨k1, c', z1, ⟨o, z2, z3⟩, z4⟩
    ·exact .inl ⟨k1, m1, z1.sameBut hs h5.symm, z2⟩
    ·exact .inr ⟨k1, c', z1, ⟨o, (hs.2 c' (fun z => hxy (h6 y (by rw [← z]; exact z1)))).trans z2, z3⟩, z4⟩
  ·refine hid fun hG => ?_
   obtain ⟨c', g1, g2, ⟨w', o', g3, g4⟩, g5, g6⟩ := hf.cell y hy
   refine hG ?_
   by_cases hcc : c' = c
   ·subst hcc; exact ⟨c', g1, g2, ⟨_, hc⟩, g5, g6⟩
   ·exact ⟨c', g1, g2, ⟨w', o', (hs.2 c' hcc).trans g3, g4⟩, g5, g6⟩
end
inductive Ixs (sc : Scope) (P : Str → Bool) : List (Str × Pos) → List Nat → Prop
 | nil : Ixs sc P [] []
 | cons {x : Str} {p : Pos} {i : Nat} {ps : List (Str × Pos)} {is : List Nat} : P x = true → ix (zd sc) x = some i → Ixs sc P ps is → Ixs sc P ((x, p) :: ps) (i :: is)
noncomputable def wK (p : Str × Pos) : Expr := .Name p.1 p.2
theorem oh {x : Str} {p : Pos} : zq (.Name x p) = some x := rfl
theorem mO {P : Str → Bool} {t : Expr} (h : (zq t).any P = true) : ∃ x p, t = .Name x p := by
 cases t with
 | Name x p => exact ⟨x, p, rfl⟩
 | _ => exact ff h
theorem u5 {P : Str → Bool} {sc : Scope} : ∀ {ts : List Expr} {is : List Nat}, ts.all (fun t => (zq t).any P) = true → (ts.filterMap zq).mapM (ix (zd sc)) = some is → ∃ ps, ts = ps.map wK ∧ Ixs sc P ps is
 | [], is, _, h => by cases h; exact ⟨[], rfl, .nil⟩
 | t :: ts, is, ha, h => by
  rw [List.all_cons, Bool.and_eq_true] at ha
  refine hid fun hG => ?_
  obtain ⟨x, p, rfl⟩ := mO ha.1
  simp only [List.filterMap_cons, oh, List.mapM_cons] at h
  obtain ⟨i, hi, h⟩ := z7 h
  obtain ⟨is', his, h⟩ := z7 h
  cases h
  obtain ⟨ps, rfl, e⟩ := u5 ha.2 his
  refine hG ?_
  exact ⟨(x, p) :: ps, rfl, .cons ha.1 hi e⟩
inductive TgOk (sc : Scope) (P : Str → Bool) : Expr → Tg → Prop
 | one (x : Str) (p : Pos) (i : Nat) (h : P x = true) (e : ix (zd sc) x = some i) : TgOk sc P (.Name x p) (.one i)
 | many (ps : List (Str × Pos)) (is : List Nat) (k : Nat) (p : Pos) (e : Ixs sc P ps is) (nd : (ps.map (·.1)).Nodup) : TgOk sc P (.Tuple (ps.map wK) k p) (.many is)
theorem vX : ∀ {ps : List (Str × Pos)}, (ps.map wK).filterMap zq = ps.map (·.1)
 | [] => rfl
 | p :: ps => by rw [List.map_cons, List.filterMap_cons, vX]; rfl
theorem xn {P : Str → Bool} {sc : Scope} {t : Expr} {tg : Tg} (h : rR P sc t = some tg) : TgOk sc P t tg := by
 cases t with
 | Name x p =>
  have h : (match P x with | true => (ix (zd sc) x).map Tg.one | false => none) = some tg := h
  cases hp : P x with
  | true => rw [hp] at h; obtain ⟨i, hi, rfl⟩ := Option.map_eq_some_iff.mp h; exact .one x p i hp hi
  | false => rw [hp] at h; cases h
 | Tuple ts k p =>
  have h : (match ts.all (fun t => (zq t).any P) && decide ((ts.filterMap zq).Nodup) with | true => ((ts.filterMap zq).mapM (ix (zd sc))).map Tg.many | false => none) = some tg := h
  cases hp : ts.all (fun t => (zq t).any P) && decide ((ts.filterMap zq).Nodup) with
  | true =>
   rw [hp] at h
   rw [Bool.and_eq_true, decide_eq_true_eq] at hp
   obtain ⟨is, his, rfl⟩ := Option.map_eq_some_iff.mp h
   obtain ⟨ps, rfl, e⟩ := u5 hp.1 his
   exact .many ps is k p e (by rw [← vX]; exact hp.2)
  | false => rw [hp] at h; cases h
 | _ => exact nn h
section
variable {S : Sta} {env : Env} {sc : Scope} {A : Around} {P : Str → Bool}
theorem vY {K : Rg → Prop} (hP : ∀ x, P x = true → env.kindOf x = some .local ∨ env.kindOf x = some .cell) (g : Str × Pos → Value → Sem Unit) (hg : ∀ p v Q s, Wq S A (storeName env p.1 v) Q s → Wq S A (g p v) Q s)
  {ps : List (Str × Pos)} {is : List Nat} {vs : List Value} {l : List D} {W : Wd} {ρ : Rg} {st : St} {s : Shared} (y : Ixs sc P ps is) : EnvR S W env sc ρ s.heap → FrR S W env sc s.heap → Ok S W st s.heap → RepL S W l vs → putAll is l ρ K →
  Wq S A (assignInOrder (ps.map g) vs) (fun U s' => Stored S env sc W s st K s') s := by
 induction y generalizing vs l W ρ s with
 | nil =>
  intro he hf O r q
  cases l with
  | nil => cases r; exact wpAny_pure ⟨ρ, q, (Stp.refl O).toF, he, hf⟩
  | cons _ _ => exact q.elim
 | @cons x p i ps _ hx hi _ ih =>
  intro he hf O r q
  cases l with
  | nil => exact q.elim
  | cons d l =>
   obtain ⟨v, vs, rd, rl⟩ := r
   show Wq S A (do holding vs (g (x, p) v); assignInOrder (ps.map g) vs) _ s
   refine wpAny_bind (wpAny_holding (hg (x, p) v _ s (zB (yy (K := fun ρ => putAll _ l ρ K) he hf O (hP x hx) hi rd q) ?_)))
   rintro _ s₁ ⟨ρ₁, q, y₁, e₁, f₁⟩
   refine zB (ih e₁ f₁ y₁.ok rl q) ?_
   rintro _ s₂ ⟨ρ₂, q, y₂, e₂, f₂⟩
   exact ⟨ρ₂, q, y₁.trans y₂, e₂, f₂⟩
theorem yc {K : Rg → Prop} : ∀ {is : List Nat} {l : List D} {ρ : Rg}, putAll is l ρ K → is.length = l.length
 | [], [], _, _ => rfl
 | [], _ :: _, _, h => h.elim
 | _ :: _, [], _, h => h.elim
 | _ :: is, _ :: l, _, h => congrArg (· + 1) (yc (is := is) h)
theorem Ixs.len {ps : List (Str × Pos)} {is : List Nat} (h : Ixs sc P ps is) : ps.length = is.length := by
 induction h with
 | nil => rfl
 | cons _ _ _ ih => exact congrArg (· + 1) ih
theorem xJ : ∀ {ps : List (Str × Pos)}, (assignEach (ps.map wK) env).length = ps.length ∧ List.findIdx? (fun x => x.1) (assignEach (ps.map wK) env) = none ∧ (assignEach (ps.map wK) env).map (·.2) = ps.map fun p => assign (.Name p.1 p.2) env
 | [] => ⟨rfl, rfl, rfl⟩
 | p :: ps => by
  refine hid fun hG => ?_
  obtain ⟨h1, h2, h3⟩ := xJ (ps := ps)
  refine hG ?_
  refine ⟨congrArg (· + 1) h1, ?_, congrArg (_ :: ·) h3⟩
  show List.findIdx? (fun x => x.1) ((false, _) :: assignEach (ps.map wK) env) = none
  simp only [List.findIdx?_cons, h2]; rfl
end
structure SetFacts (S : Sta) : Prop where
 set : ∀ c : Cls, findIn S.K (.ref c.addr) "__setattr__" = some (some (.builtin "object.__setattr__"))
 over : ∀ c : Cls, plainOver S.K c.addr = true
 taker : ∀ (c : Cls), ∀ f ∈ c.flds, takerIn S.K c.addr f.str = some none
section
variable {S : Sta}
theorem oi {f : Fld} {h : Int} {t : Tok} {v : Value} {fs : List Fld} {es : List DictEntry} {vs : List Value} (y : Ents fs es vs) : Ents (fs ++ [f]) (es ++ [⟨h, .str f.str t, v⟩]) (vs ++ [v]) := by
 induction y with
 | nil => exact .cons .nil
 | cons _ e => exact .cons e
theorem oj {f : Fld} {fs : List Fld} {es : List DictEntry} {vs : List Value} (y : Ents fs es vs) : f ∉ fs → (∀ e ∈ es, e.key.isStr f.str = false) ∧ (∀ e ∈ es, e.refKey = false) ∧ es.length = fs.length := by
 induction y with
 | nil => exact fun U => ⟨fun U h => nm h, fun U h => nm h, rfl⟩
 | cons _ e =>
  intro h
  refine hid fun hG => ?_
  obtain ⟨h1, h2, h3⟩ := e fun z => h (.tail _ z)
  refine hG ?_
  refine ⟨fun x hx => ?_, fun x hx => ?_, congrArg (· + 1) h3⟩
  ·rcases List.mem_cons.mp hx with rfl | hx
   ·exact beq_eq_false_iff_ne.mpr fun z => h (by rw [Fld.str_inj z]; exact .head _)
   ·exact h1 x hx
  ·rcases List.mem_cons.mp hx with rfl | hx
   ·rfl
   ·exact h2 x hx
theorem ta {x : Str} {h : Int} {k v : Value} : ∀ {es : List DictEntry}, (∀ e ∈ es, e.key.isStr x = false) → putL x h k v es = es ++ [⟨h, k, v⟩]
 | [], _ => rfl
 | e :: es, q => by
  unfold putL
  rw [if_neg (by rw [q e (.head _)]; decide), ta fun y hy => q y (.tail _ hy)]; rfl
theorem kG (X : Facts S) (V : SetFacts S) {W : Wd} {st : St} {s : Shared} {A : Around} {tk : Tok} (O : Ok S W st s.heap) {k : Nat} {a : Addr} {c : Cls} {fs : List Fld} {l : List D} {f : Fld} {d : D} {v : Value} (hm : st.sto[k]? = some (.ins c fs l)) (ha : W.μ[k]? = some a) (hf : f ∉ fs) (hc : f ∈ c.flds) (hz : fs.length < 100) (r : Rep S W d v) {R : Result → Shared → Prop}
  (q : ∀ s', Stp S W s ⟨st.sto.set k (.ins c (fs ++ [f]) (l ++ [d])), st.nt⟩ s' W → R (.ok (.ret .none)) s') :
  codeAny (model S.prog S.w) A (.call (.builtin "object.__setattr__") ⟨[.ref a, .str f.str tk, v], []⟩) R s := by
 refine hid fun hG => ?_
 obtain ⟨dx, es, n, vs, hs, i1, hsd, i2, en, rl, sb⟩ := O.place hm ha
 obtain ⟨m1, m2, m3⟩ := oj en hf
 refine hG ?_
 have X₀ := O.kin
 refine osa_open X₀ (wA i1 i2) (V.over c) (V.taker c f hc) fun b => ?_
 refine hid fun hG => ?_
 obtain ⟨cd, hcl, hd'⟩ := any_some (X.hasd c)
 refine hG ?_
 refine wpAny_bind (wpAny_pure (wpAny_bind (wpAny_bind (wpAny_loadPart i1 (wpAny_bind ((looks_clsIn X₀ hcl).here ?_))))))
 rw [hd']
 refine wpAny_pure (a := some dx) (wpAny_bind (wpAny_pure (wpAny_bind ?_)))
 unfold nsSet
 refine wpAny_bind (wpAny_bind (wpAny_askSetting (wpAny_pure (wpAny_bind (wpAny_mkText (wpAny_bind (wpAny_loadPart i2 ?_)))))))
 dsimp only
 have cc : (!es.toArray.any (·.key.isStr f.str) && es.toArray.any (·.refKey)) = false := by
  rw [Bool.and_eq_false_iff]; right
  rw [← Array.any_toList, List.any_eq_false]
  intro x hx; rw [m2 x hx]; decide
 rw [aRefKeyMayBeTheName_at, cc]
 refine wpAny_updatePart i2 ?_
 have D' : ∀ hsh tk, (s.heap.update dx (Obj.putName f.str hsh (.str f.str tk) v)).get? dx = some (dictOf (es ++ [⟨hsh, .str f.str tk, v⟩]) (n + 1)) := by
  intro hsh tk
  rw [Heap.get?_update_self _ i2 (by rw [putName_dict]; rfl), putName_dict, ta m1]
  unfold putN
  rw [if_neg (by rw [Bool.not_eq_true, List.any_eq_false]; intro x hx; rw [m1 x hx]; decide)]
 refine wpAny_bind (wpAny_lookBehind (D' _ _) (pastItsLine_dict (by simp; rw [m3, sizeLine_eq]; exact lin1 [_] 0 V0 (.n 16777216) 1 S0 U100 tt hz)) ?_)
 refine wpAny_pure ?_
 have ne : dx ≠ a := fun e => by rw [← e, i2] at i1; cases i1
 exact q _ (Stp.write (s := s) O hm ha hsd (Heap.SameBut.update ..).extBut ⟨_, D' _ _⟩ (.mk dx _ _ _ hs ((Heap.get?_update_other _ _ ne).trans i1) hsd (D' _ _) (oi en) (rl.append (.one r)) fun g hg => (List.mem_append.mp hg).elim (sb g) fun z => by rw [List.mem_singleton.mp z]; exact hc))
theorem kH (X : Facts S) (V : SetFacts S) {W : Wd} {st : St} {s : Shared} {A : Around} (O : Ok S W st s.heap) {k : Nat} {a : Addr} {c : Cls} {fs : List Fld} {l : List D} {f : Fld} {d : D} {v : Value} (hm : st.sto[k]? = some (.ins c fs l)) (ha : W.μ[k]? = some a) (hf : f ∉ fs) (hc : f ∈ c.flds) (hz : fs.length < 100) (r : Rep S W d v) :
  wpAny (model S.prog S.w) A (setAttr (.ref a) f.str v) (fun U s' => Stp S W s ⟨st.sto.set k (.ins c (fs ++ [f]) (l ++ [d])), st.nt⟩ s' W) noE s := by
 refine hid fun hG => ?_
 obtain ⟨dx, es, n, vs, hs, i1, hsd, i2, en, rl, sb⟩ := O.place hm ha
 refine hG ?_
 refine set_plain O.kin (wA i1 i2) (V.set c) ?_
 have y : Stp S W s st { s with toks := s.toks + 1 } W := .toks O _
 exact kG (s := { s with toks := s.toks + 1 }) X V y.ok hm ha hf hc hz r fun s' y' => y.trans y'
inductive PostN (S : Sta) (W : Wd) (s : Shared) (Q : St → Prop) (s' : Shared) : Prop
 | mk (st' : St) (q : Q st') (y : Stp S W s st' s' W)
inductive Sk {κ : Type} [DecidableEq κ] (S : Sta) (W : Wd) (kvs : List (κ × Value)) (r : List κ × List D) : Prop
 | mk (vs : List Value) (e : kvs = r.1.zip vs) (h : r.1.length = vs.length) (q : RepL S W r.2 vs)
theorem qK {κ : Type} [DecidableEq κ] {W : Wd} {ks : List κ} {l : List D} {vs : List Value} {k : κ} {d : D} {v : Value} (r : RepL S W l vs) (hl : ks.length = vs.length) (rd : Rep S W d v) : Sk S W (stored (ks.zip vs) k v) (zS ks l k d) := by
 have ha : (ks.zip vs).any (fun kv => decide (kv.1 = k)) = ks.contains k := by
  clear r rd
  induction ks generalizing vs with
  | nil => rfl
  | cons x ks ih =>
   cases vs with
   | nil => first | exact cn hl | exact nc hl | exact sn hl | exact ns hl | exact nn hl | exact ff hl
   | cons v vs =>
    simp only [List.zip_cons_cons, List.any_cons, List.contains_cons, ih (Nat.succ.inj hl)]
    congr 1
    rw [Bool.eq_iff_iff, decide_eq_true_eq, beq_iff_eq]; exact eq_comm
 unfold stored zS
 rw [ha]
 by_cases hc : ks.contains k = true
 ·rw [if_pos hc, if_pos hc]
  refine ⟨(ks.zip vs).map fun p => if p.1 = k then v else p.2, ?_, by simp [hl], ?_⟩
  ·clear hc ha r rd
   induction ks generalizing vs with
   | nil => rfl
   | cons x ks ih =>
    cases vs with
    | nil => first | exact cn hl | exact nc hl | exact sn hl | exact ns hl | exact nn hl | exact ff hl
    | cons w vs =>
     simp only [List.zip_cons_cons, List.map_cons, ih (Nat.succ.inj hl)]
     by_cases q : x = k <;> simp [q]
  ·clear hc ha
   induction ks generalizing vs l with
   | nil => exact .nil
   | cons x ks ih =>
    cases l with
    | nil => cases r; first | exact cn hl | exact nc hl | exact sn hl | exact ns hl | exact nn hl | exact ff hl
    | cons e l =>
     obtain ⟨w, vs, ra, rb⟩ := r
     simp only [List.zip_cons_cons, List.map_cons]
     refine .cons ?_ (ih rb (Nat.succ.inj hl))
     by_cases q : x = k
     ·simp only [q, if_true]; exact rd
     ·simp only [q, if_false]; exact ra
 ·rw [if_neg hc, if_neg hc]
  refine ⟨vs ++ [v], ?_, by simp [hl], r.append (.one rd)⟩
  rw [List.zip_append hl]; rfl
theorem set_dict {κ : Type} [DecidableEq κ] {K : PySem.KeyKind S.prog S.w κ} {W : Wd} {st : St} {s : Shared} {A : Around} {k : Nat} {a : Addr} {ks : List κ} {l : List D} {x : κ} {j v : Value} {d : D} {mk : List κ → List D → MO} {Q : St → Prop} (hmk : ∀ {W h a ks l}, MDic S W h K k a ks l → IsMO S W h k a (mk ks l)) (O : Ok S W st s.heap) (hm : st.sto[k]? = some (mk ks l)) (ha : W.μ[k]? = some a) (hk : K.is x j = true) (rd : Rep S W d v)
  (P : MDic S W s.heap K k a ks l) (q : (zS ks l x d).2.length ≤ sizeLine ∧ yi k (mk (zS ks l x d).1 (zS ks l x d).2) st Q) : Wq S A (setItem (.ref a) j v) (fun U s' => PostN S W s Q s') s := by
 refine hid fun hG => ?_
 obtain ⟨z, q⟩ := q
 rw [yB] at q
 obtain ⟨o, vs, hs, sz, ho, hd, hl, hr1, z1⟩ := P
 obtain ⟨vs', e1, e2, e3⟩ := qK (k := x) hr1 hl rd
 refine hG ?_
 have hle : (ks.zip vs).length ≤ sizeLine := by simp [hl]; exact z1
 refine wpAny_setItem_pairs (hsz := hle) hk (Heap.dictOf_iff.mpr ⟨o, ho, hd⟩) fun h' hd' hs' => ?_
 rw [e1] at hd'
 refine hid fun hG => ?_
 obtain ⟨o', ho', hd'⟩ := Heap.dictOf_iff.mp hd'
 refine hG ?_
 exact ⟨_, q, .write O hm ha hs hs'.extBut ⟨_, ho'⟩ (hmk (.mk o' vs' hs sz ho' hd' e2 e3 (by rw [← e3.length]; exact z)))⟩
theorem pA {W : Wd} {st : St} {s : Shared} {A : Around} {x i d : D} {u j v : Value} {Q : St → Prop} (q : sM x i d st Q) (O : Ok S W st s.heap) (rx : Rep S W x u) (ri : Rep S W i j) (rd : Rep S W d v) : Wq S A (setItem u j v) (fun U s' => PostN S W s Q s') s := by
 cases x with
 | mref k =>
  obtain ⟨a, rfl, ha⟩ := rx
  obtain ⟨mo, hm, q⟩ := zL q
  have P := O.place hm ha
  cases mo with
  | dS ks l => cases i with
   | str y => obtain ⟨t, rfl⟩ := ri; exact set_dict (mk := .dS) (fun h => h) O hm ha (strKind_is _ _ _ _) rd P q
   | _ => exact q.elim
  | dI ks l => cases i with
   | int y => obtain ⟨t, rfl⟩ := ri; exact set_dict (mk := .dI) (fun h => h) O hm ha (intKind_is _ _ _ _) rd P q
   | _ => exact q.elim
  | lst l => cases i with
   | int y => cases y with
    | ofNat n =>
     obtain ⟨t, rfl⟩ := ri
     obtain ⟨⟨z1, z2⟩, q⟩ := q
     rw [yB] at q
     obtain ⟨vs, m, hs, ho, hl, hz⟩ := P
     have hle := hl.length
     refine ki_setAt ho (Int.natCast_nonneg n) (by simp; omega) (by simp; exact lin2 [_,_,_] 0 S0 V1 1 S0 V2 1 V2 V1 tt z1 (el hle)) ?_
     obtain ⟨m', em⟩ := xk (fun x => x.setIfInBounds n v) vs.toArray m
     have e1 : vs.toArray.setIfInBounds n v = (vs.set n v).toArray := by simp
     have ho' : (s.heap.update a (Obj.mapSeq fun x => x.setIfInBounds n v)).get? a = some (PySem.W.listOf (vs.set n v).toArray m') := by
      rw [Heap.get?_update_self _ ho rfl, em, e1]
     exact ⟨_, q, Stp.write (s := s) O hm ha hs (Heap.SameBut.update ..).extBut ⟨_, ho'⟩ (.mk _ _ hs ho' (hl.set _ rd) (by rw [List.length_set]; exact hz))⟩
    | negSucc n => exact q.elim
   | _ => exact q.elim
  | _ => exact q.elim
 | _ => exact q.elim
theorem sm (T : Facts S) (V : SetFacts S) {W : Wd} {st : St} {s : Shared} {A : Around} {a d : D} {f : Fld} {u v : Value} {Q : St → Prop} (q : vN a f d st Q) (O : Ok S W st s.heap) (ra : Rep S W a u) (rd : Rep S W d v) : Wq S A (setAttr u f.str v) (fun U s' => PostN S W s Q s') s := by
 cases a with
 | mref k =>
  obtain ⟨b, rfl, ha⟩ := ra
  obtain ⟨mo, hm, q⟩ := zL q
  cases mo with
  | ins c fs l =>
   cases hc : !wb fs f && wb c.flds f && Nat.blt fs.length 100 with
   | true =>
    have q : br (!wb fs f && wb c.flds f && Nat.blt fs.length 100) (yi k (.ins c (fs ++ [f]) (l ++ [d])) st Q) False := q
    rw [hc] at q
    have q : yi k (.ins c (fs ++ [f]) (l ++ [d])) st Q := q
    rw [yB] at q
    simp only [Bool.and_eq_true, Bool.not_eq_true'] at hc
    exact zB (kH T V O hm ha (n8 hc.1.1) (n7 hc.1.2) (Nat.blt_eq.mp hc.2) rd) fun U U y => ⟨_, q, y⟩
   | false =>
    have q : br (!wb fs f && wb c.flds f && Nat.blt fs.length 100) (yi k (.ins c (fs ++ [f]) (l ++ [d])) st Q) False := q
    rw [hc] at q; exact q.elim
  | _ => exact q.elim
 | _ => exact q.elim
end
section
variable {S : Sta}
theorem xo {prog : Program} {w : World} {A : Around} {R : Result → Shared → Prop} {s : Shared} {elt target iter : Expr} {ifs : List Expr} {scope : Scope} {pos : Pos} {it acc : Value} {env : Env} (I : Nat → Shared → Prop)
  (turn : ∀ n s, I n s → wpAny (model prog w) A (pyNext it) (fun r s₁ => match r with
   | none => R (.ok .next) s₁
   | some v => wpAny (model prog w) A (letOwnedTupleGo target it v) (fun U s₁' => wpAny (model prog w) A (assign target env v) (fun U s₂ =>
     wpAny (model prog w) A (forIn ifs true fun c r => if r = true then do let ok ← isTrue c env (eval c env); pure (ForInStep.yield ok) else pure (ForInStep.yield r)) (fun ok s₃ =>
      if ok = true then wpAny (model prog w) A (eval elt env) (fun x s₄ =>
       wpAny (model prog w) A (call (.builtin "list.append") [acc, x]) (fun U s₅ => ∃ m, m < n ∧ I m s₅) noE s₄) noE s₃
      else ∃ m, m < n ∧ I m s₃) noE s₂) noE s₁') noE s₁) noE s)
  (n : Nat) (h : I n s) : codeAny (model prog w) A (.compLoop (.ListComp elt [⟨target, iter, ifs, 0⟩] scope pos) 0 it acc env) R s := by
 refine codeAny_loop rfl I (fun n s hI => ?_) n h
 show wpAny _ A ((compTurn (.ListComp elt [⟨target, iter, ifs, 0⟩] scope pos) 0 it acc env).onRaise (fun x => do noteFrame x env; theTreesLotGoes x)) _ _ s
 refine wpAny_noted ?_
 rw [compTurn_list]
 refine wpAny_bind (wpAny_standAt (wpAny_bind (wpAny_mono (turn n s hI) (fun r s₁ h₁ => ?_) fun U U h' => h'.elim)))
 cases r with
 | none => exact wpAny_pure h₁
 | some v =>
  refine wpAny_bind (wpAny_mono h₁ (fun U s₁' h₁' => ?_) fun U U h' => h'.elim)
  refine wpAny_bind (wpAny_mono h₁' (fun U s₂ h₂ => wpAny_bind (wpAny_mono h₂ (fun ok s₃ h₃ => ?_) fun U U h' => h'.elim)) fun U U h' => h'.elim)
  cases ok with
  | false => exact wpAny_pure ⟨rfl, h₃⟩
  | true =>
   exact wpAny_bind (wpAny_bind (wpAny_mono h₃ (fun x s₄ h₄ => wpAny_bind (wpAny_mono h₄ (fun U s₅ h₅ => wpAny_pure (wpAny_pure ⟨rfl, h₅⟩)) fun U U h' => h'.elim)) fun U U h' => h'.elim))
set_option tactic.hygienic true in
theorem xK {env : Env} : ∀ {names : List (Str × NameKind)} {acc : List (Str × Addr)}, (∀ x k, (x, k) ∈ names → k = .free → ∃ c, env.cells.lookup x = some c) → (∀ x c, acc.lookup x = some c → env.cells.lookup x = some c) →
  ∃ cl, (forIn names acc fun p cs => (match p with | (name, kind) => if (kind == NameKind.free) = true then do let a ← cellOf env name; pure (ForInStep.yield ((name, a) :: cs)) else pure (ForInStep.yield cs) : Sem (ForInStep (List (Str × Addr))))) = pure cl ∧ (∀ x c, cl.lookup x = some c → env.cells.lookup x = some c) ∧
   (∀ x, ((x, NameKind.free) ∈ names ∨ (acc.lookup x).isSome = true) → (cl.lookup x).isSome = true)
 | [], acc, _, h => ⟨acc, rfl, h, fun x hx => hx.elim (fun z => nm z) id⟩
 | (y, k) :: names, acc, hf, h => by
  by_cases hk : k = .free
  ·subst hk
   obtain ⟨c, hc⟩ := hf y .free (.head _) rfl
   have h' : ∀ x c', ((y, c) :: acc).lookup x = some c' → env.cells.lookup x = some c' := fun x c' e => by
    rw [List.lookup_cons] at e
    split at e
    ·rename_i q; rw [beq_iff_eq.mp q]; rw [hc]; exact e
    ·exact h x c' e
   obtain ⟨cl, h1, h2, h3⟩ := xK (names := names) (fun x k hm => hf x k (.tail _ hm)) h'
   refine ⟨cl, ?_, h2, fun x hx => h3 x ?_⟩
   ·rw [List.forIn_cons]
    simp only [beq_self_eq_true, if_true]
    have : cellOf env y = pure c := by unfold cellOf; rw [hc]
    rw [this]; simp only [pure_bind]; exact h1
   ·rcases hx with hx | hx
    ·rcases List.mem_cons.mp hx with e | hx
     ·cases e; right; simp
     ·exact .inl hx
    ·right
     rw [List.lookup_cons]; split
     ·rfl
     ·exact hx
  ·have hb : (k == NameKind.free) = false := beq_eq_false_iff_ne.mpr hk
   obtain ⟨cl, h1, h2, h3⟩ := xK (names := names) (fun x k hm => hf x k (.tail _ hm)) h
   refine ⟨cl, ?_, h2, fun x hx => h3 x ?_⟩
   ·rw [List.forIn_cons]
    simp only [hb, Bool.false_eq_true, if_false, pure_bind]; exact h1
   ·rcases hx with hx | hx
    ·rcases List.mem_cons.mp hx with e | hx
     ·cases e; exact absurd rfl hk
     ·exact .inl hx
    ·exact .inr hx
theorem yd {env : Env} {x : Str} {names : List (Str × NameKind)} : (names.map fun (n, k) => if (k == NameKind.free && env.scope.kind == .function && env.kindOf n == some .cell) then (n, NameKind.cell) else (n, k)).lookup x =
  (names.lookup x).map fun k => if (k == NameKind.free && env.scope.kind == .function && env.kindOf x == some .cell) = true then NameKind.cell else k := by
 induction names with
 | nil => rfl
 | cons e r ih =>
  obtain ⟨n, k⟩ := e
  rw [List.map_cons]
  by_cases q : x = n
  ·subst q
   rw [List.lookup_cons_self, Option.map_some]
   by_cases c : (k == NameKind.free && env.scope.kind == .function && env.kindOf x == some .cell) = true
   ·simp only [c, if_true, List.lookup_cons_self]
   ·simp only [c, if_false, List.lookup_cons_self, Bool.false_eq_true]
  ·have q' : (x == n) = false := beq_eq_false_iff_ne.mpr q
   by_cases c : (k == NameKind.free && env.scope.kind == .function && env.kindOf n == some .cell) = true
   ·simp only [c, if_true, List.lookup_cons, q']; exact ih
   ·simp only [c, if_false, List.lookup_cons, q', Bool.false_eq_true]; exact ih
structure CompOk (sc csc : Scope) : Prop where
 fn : ScOk csc
 free : ∀ x k, (x, k) ∈ csc.names → k = .free → zO sc x = some .cell ∨ zO sc x = some .free
 cell : ∀ x k, (x, k) ∈ csc.names → k ≠ .cell
theorem tc {sc csc : Scope} (h : xd sc csc = true) : CompOk sc csc := by
 unfold xd at h
 rw [Bool.and_eq_true] at h
 have h3 := List.all_eq_true.mp h.2
 refine ⟨vU h.1, fun x k hm e => ?_, fun x k hm e => ?_⟩
 ·subst e; have := h3 _ hm; simpa using this
 ·subst e; have := h3 _ hm; simp at this
theorem u6 {ρ : Rg} {d : D} : ∀ {l : List (Option Nat)} {i : Nat}, nth (rO ρ l) i = some d → ∃ j, l[i]? = some (some j) ∧ nth ρ j = some d
 | [], _, h => nn h
 | none :: _, 0, h => nn h
 | some j :: _, 0, h => ⟨j, rfl, h⟩
 | none :: _, i + 1, h => u6 (i := i) h
 | some _ :: _, i + 1, h => u6 (i := i) h
theorem td {sc csc : Scope} {ρ : Rg} {x : Str} {d : D} (nd : (csc.names.map (·.1)).Nodup) (h : yb csc (rO ρ (we sc csc)) x = some d) : zO csc x = some .free ∧ yb sc ρ x = some d := by
 refine hid fun hG => ?_
 obtain ⟨i, hi, h⟩ := z7 h
 obtain ⟨k, h1, h2, h3⟩ := si nd hi
 obtain ⟨j, e, hj⟩ := u6 h
 refine hG ?_
 unfold we at e
 rw [List.getElem?_map, h3] at e
 have e := Option.some.inj e
 cases k with
 | free => exact ⟨h1, by unfold yb; rw [show ix (zd sc) x = some j from e]; exact hj⟩
 | _ => exact nn e
theorem mP {W : Wd} {env : Env} {sc csc : Scope} {ρ : Rg} {h h₁ : Heap} {L : Addr} {cl : List (Str × Addr)} {m : Str → Option Value} (ok : CompOk sc csc) (he : EnvR S W env sc ρ h) (k : ∀ a o, h.get? a = some o → h₁.get? a = some o) (hn : h₁.Ns L m) (hL : W.Ψ L = none)
  (hc : ∀ x c, cl.lookup x = some c → env.cells.lookup x = some c) (hc' : ∀ x, (x, NameKind.free) ∈ csc.names → (cl.lookup x).isSome = true) : EnvR S W (compEnvC csc cl L env) csc (rO ρ (we sc csc)) h₁ where
 kind := ok.fn.kind
 kl := fun x hx => lookup_relabel_local hx
 kc := fun x hx => absurd rfl (ok.cell x .cell (yD hx))
 kf := fun x hx => by
  show (compEnvC csc cl L env).scope.names.lookup x = _ ∨ (compEnvC csc cl L env).scope.names.lookup x = _
  show (List.map _ csc.names).lookup x = _ ∨ (List.map _ csc.names).lookup x = _
  rw [yd]
  unfold zO at hx
  rw [hx, Option.map_some]
  split
  ·exact .inl rfl
  ·exact .inr rfl
 kg := fun x hx => by
  show (List.map _ csc.names).lookup x = _
  rw [yd]
  unfold zO at hx
  rw [hx]; rfl
 glob := he.glob
 blt := he.blt
 ns := ⟨m, hn⟩
 loc := hL
 nm := fun x k hx => ok.fn.nm x k hx
 clo := fun x hx => by
  rcases hx with hx | hx
  ·exact absurd rfl (ok.cell x .cell (yD hx))
  ·exact Option.isSome_iff_exists.mp (hc' x (yD hx))
 vars := fun x d hx => by
  refine hid fun hG => ?_
  obtain ⟨hf, hx⟩ := td ok.fn.nd hx
  have hm := yD hf
  have hsc := ok.free x .free hm rfl
  obtain ⟨v, r, p⟩ := he.vars x d hx
  refine hG ?_
  refine ⟨v, .inr ?_, p⟩
  refine hid fun hG => ?_
  obtain ⟨c, hcx⟩ := Option.isSome_iff_exists.mp (hc' x hm)
  refine hG ?_
  have hce := hc x c hcx
  have hko : env.kindOf x = some .cell ∨ env.kindOf x = some .free := hsc.elim (fun z => .inl (he.kc x z)) (he.kf x)
  rcases r with ⟨k1, _⟩ | ⟨_, c', h1, ⟨o, h2, h3⟩, h4⟩
  ·rcases hko with q | q <;> (rw [q] at k1; cases k1)
  ·rw [hce] at h1; cases h1
   refine ⟨?_, c, hcx, ⟨o, k _ _ h2, h3⟩, h4⟩
   show (List.map _ csc.names).lookup x = _ ∨ (List.map _ csc.names).lookup x = _
   rw [yd]
   unfold zO at hf
   rw [hf, Option.map_some]
   split
   ·exact .inl rfl
   ·exact .inr rfl
theorem Stp.move {W W₁ : Wd} {s s₁ : Shared} {st₁ : St} (y : Stp S W s st₁ s₁ W₁) {h₂ : Heap} {tk : Nat} (X : Addr → Prop) (k : ∀ a o, s₁.heap.get? a = some o → ¬ X a → h₂.get? a = some o) (nx : ∀ a, X a → s.heap.get? a = none) (ny : ∀ a, X a → W₁.Ψ a = none) :
  Stp S W s st₁ { s₁ with heap := h₂, toks := tk } W₁ := by
 obtain ⟨h', tk', rfl⟩ := y.eq
 refine ⟨⟨_, _, rfl⟩, y.ok.of_keep fun a o e z => k a o e fun q => z (ny a q), y.le, y.non, fun a o e n => ?_⟩
 exact k a o (y.keep a o e n) fun q => by rw [nx a q] at e; cases e
noncomputable def wq (o : Obj) : Prop := (∃ es n, o.data = .dict es n) ∨ ∃ v, o.data = .cell v
theorem EnvR.hop {W W' : Wd} {env : Env} {sc : Scope} {ρ : Rg} {h h' : Heap} (he : EnvR S W env sc ρ h) (le : W.Le W') (hk : ∀ a o, h.get? a = some o → wq o → h'.get? a = some o) (hn : ∀ a o, h.get? a = some o → W.Ψ a = none → W'.Ψ a = none)
  (hs : ∀ a, NotSig W a → h.get? a ≠ none → NotSig W' a) : EnvR S W' env sc ρ h' :=
 { he with
  ns := by
   obtain ⟨m, o, es, ep, e, hd, r⟩ := he.ns
   exact ⟨m, o, es, ep, hk _ _ e (.inl ⟨_, _, hd⟩), hd, r⟩
  loc := by obtain ⟨m, o, es, ep, e, _⟩ := he.ns; exact hn _ o e he.loc
  vars := fun x d hx => by
   obtain ⟨v, r, p⟩ := he.vars x d hx
   refine ⟨v, ?_, p.mono le⟩
   rcases r with ⟨k, m, ⟨o, es, ep, e, hd, r⟩, hv⟩ | ⟨k, c, hc, ⟨o, ho, hd⟩, hns⟩
   ·exact .inl ⟨k, m, ⟨o, es, ep, hk _ _ e (.inl ⟨_, _, hd⟩), hd, r⟩, hv⟩
   ·exact .inr ⟨k, c, hc, ⟨o, hk _ _ ho (.inr ⟨_, hd⟩), hd⟩, hs c hns (by rw [ho]; exact fun z => by cases z)⟩ }
theorem Stp.iter {W W₁ W₂ : Wd} {s s₁ : Shared} {st₁ : St} (y : Stp S W s st₁ s₁ W₁) {F : List Addr} (hF : ∀ b ∈ F, s.heap.get? b = none) {h₂ : Heap} {tk : Nat} (k : ∀ b o, b ∉ F → s₁.heap.get? b = some o → h₂.get? b = some o) (le : W₁.Le W₂) (O : Ok S W₂ st₁ h₂)
  (hn : ∀ b o, s₁.heap.get? b = some o → W₁.Ψ b = none → W₂.Ψ b = none) : Stp S W s st₁ { s₁ with heap := h₂, toks := tk } W₂ := by
 obtain ⟨h', tk', rfl⟩ := y.eq
 exact ⟨⟨_, _, rfl⟩, O, y.le.trans le, fun a o e n => hn a o (y.keep a o e (.of_none n)) (y.non a o e n), fun a o e n => k a o (fun q => by rw [hF a q] at e; cases e) (y.keep a o e n)⟩
theorem EnvR.less {W : Wd} {env : Env} {sc : Scope} {ρ ρ' : Rg} {h : Heap} (he : EnvR S W env sc ρ h) (k : ∀ x d, yb sc ρ' x = some d → yb sc ρ x = some d) : EnvR S W env sc ρ' h :=
 { he with vars := fun x d hx => he.vars x d (k x d hx) }
theorem xM {W : Wd} {env : Env} {sc : Scope} {ρ : Rg} {h : Heap} (he : EnvR S W env sc ρ h) {x : Str} (hx : zg sc x = true) : env.kindOf x = some .local := he.kl x (by unfold zg at hx; exact beq_iff_eq.mp hx)
theorem u7 {d : D} : ∀ {ρ : Rg} {i j : Nat}, j ≠ i → nth (put ρ i d) j = nth ρ j
 | [], _, _, _ => rfl
 | _ :: _, 0, 0, h => absurd rfl h
 | _ :: _, 0, j + 1, h => rfl
 | _ :: _, i + 1, 0, h => rfl
 | _ :: ρ, i + 1, j + 1, h => u7 (ρ := ρ) fun e => h (congrArg (· + 1) e)
theorem vk {sc : Scope} {ρ : Rg} {i : Nat} {x y : Str} {d : D} (hi : ix (zd sc) x = some i) (h : y ≠ x) : yb sc (put ρ i d) y = yb sc ρ y := by
 unfold yb
 cases hj : ix (zd sc) y with
 | none => rfl
 | some j =>
  refine u7 fun e => ?_
  subst e
  obtain ⟨k, e1⟩ := ym hi
  obtain ⟨k', e2⟩ := ym hj
  rw [e1] at e2; cases e2; exact h rfl
inductive Locs (S : Sta) (env : Env) (sc : Scope) (W : Wd) (s : Shared) (st : St) (ρ₀ : Rg) (K : Rg → Prop) : Shared → Prop
 | mk (ρ : Rg) (h' : Heap) (tk : Nat) (q : K ρ) (k : ∀ a o, a ≠ env.locals → s.heap.get? a = some o → h'.get? a = some o) (O : Ok S W st h') (he : EnvR S W env sc ρ h') (l : ∀ x, zg sc x = false → yb sc ρ x = yb sc ρ₀ x) : Locs S env sc W s st ρ₀ K { s with heap := h', toks := tk }
theorem tM {env : Env} {sc : Scope} {A : Around} {K : Rg → Prop} {ps : List (Str × Pos)} {is : List Nat} {vs : List Value} {l : List D} {W : Wd} {ρ : Rg} {st : St} {s : Shared} (y : Ixs sc (zg sc) ps is) : EnvR S W env sc ρ s.heap → Ok S W st s.heap → RepL S W l vs → putAll is l ρ K →
  Wq S A (assignInOrder (ps.map fun p => assign (.Name p.1 p.2) env) vs) (fun U s' => Locs S env sc W s st ρ K s') s := by
 induction y generalizing vs l ρ s with
 | nil =>
  intro he O r q
  cases l with
  | nil => cases r; exact wpAny_pure (.mk ρ s.heap s.toks q (fun U U U e => e) O he fun U U => rfl)
  | cons _ _ => exact q.elim
 | @cons x p i ps _ hx hi _ ih =>
  intro he O r q
  cases l with
  | nil => exact q.elim
  | cons d l =>
   obtain ⟨v, vs, rd, rl⟩ := r
   show Wq S A (do holding vs (assign (.Name x p) env v); assignInOrder (ps.map fun p => assign (.Name p.1 p.2) env) vs) _ s
   refine wpAny_bind (wpAny_holding (PyProof.Rows.assign_Name (xm he O (xM he hx) hi rd fun h' hs O' he' => ?_)))
   refine zB (ih (s := { s with heap := h', toks := s.toks + 1 }) he' O' rl q) ?_
   rintro _ s₂ ⟨ρ₂, h₂, tk, q, k, O₂, e₂, l₂⟩
   exact .mk ρ₂ h₂ tk q (fun a o ne e => k a o ne ((hs.2 a ne).trans e)) O₂ e₂ fun y hy => (l₂ y hy).trans (vk hi fun e => by rw [e, hx] at hy; cases hy)
theorem so {env : Env} {sc : Scope} {A : Around} {t : Expr} {tg : Tg} {W : Wd} {ρ : Rg} {st : St} {s : Shared} {d : D} {v : Value} {K : Rg → Prop} (hh : A.handled = none) (ht : TgOk sc (zg sc) t tg) (q : yV tg d ρ K) (he : EnvR S W env sc ρ s.heap) (O : Ok S W st s.heap) (r : Rep S W d v) :
  Wq S A (assign t env v) (fun U s' => Locs S env sc W s st ρ K s') s := by
 cases ht with
 | one x p i hx hi => exact PyProof.Rows.assign_Name (xm he O (xM he hx) hi r fun h' hs O' he' => .mk _ h' _ q (fun a o ne e => (hs.2 a ne).trans e) O' he' fun y hy => vk hi fun e => by rw [e, hx] at hy; cases hy)
 | many ps is k p e nd =>
  cases d with
  | tup l =>
   obtain ⟨a, vs, n, f, hr, _⟩ := r
   have ho := O.frz _ _ _ f
   obtain ⟨g1, g2, g4⟩ := xJ (env := env) (ps := ps)
   refine wpAny_assign_Tuple hh (zW ho) (by rw [g1, e.len, yc q, hr.length]; rfl) g2 fun h' hx => ?_
   rw [g4]
   have kp : ∀ b o, s.heap.get? b = some o → h'.get? b = some o := fun b o e => hx b o (Nat.ne_of_lt (Heap.lt_size e)) e
   have y : Stp S W s st { s with heap := h' } W := .quiet (tk := s.toks) O kp
   refine zB (tM (s := { s with heap := h' }) e (he.step y) y.ok hr q) ?_
   rintro _ s₂ ⟨ρ₂, h₂, tk, q, k, O₂, e₂, l₂⟩
   exact .mk ρ₂ h₂ tk q (fun a o ne e => k a o ne (kp a o e)) O₂ e₂ l₂
  | _ => exact q.elim
inductive Told (S : Sta) (W : Wd) (s : Shared) (W' : Wd) (a : Addr) (Q : D → St → Prop) (s' : Shared) : Prop
 | mk (d : D) (st' : St) (W'' : Wd) (q : Q d st') (y : Stp S W s st' s' W'') (r : Rep S W'' d (.ref a)) (h : ∀ b, b ≠ a → W''.Ψ b = W'.Ψ b)
theorem om {W W' : Wd} {s s' : Shared} {st : St} {own : Bool} {l : List D} {vs : List Value} {a : Addr} {n : Nat} {Q : D → St → Prop} (y : Stp S W s st s' W') (ha : s.heap.get? a = none) (ho : s'.heap.get? a = some (PySem.W.listOf vs.toArray n)) (hn : W'.Ψ a = none) (r : RepL S W' l vs) (z : vs.length ≤ sizeLine) (q : tS own l st Q) : Told S W s W' a Q s' := by
 cases own with
 | true =>
  have q : uK (.lst l) st Q := q
  rw [xF] at q
  have y₂ := y.cell (mo := .lst l) ha ⟨_, ho⟩ hn (.mk vs n (by rw [← y.ok.len]; exact W'.cell_self a) ho (r.mono (Wd.cell_le hn)) z)
  exact ⟨_, _, _, q, y₂, ⟨a, rfl, by rw [← y.ok.len]; exact W'.cell_at a⟩, fun b hb => Wd.cell_ne _ hb⟩
 | false =>
  have y₂ := y.tell ha ho hn
  exact ⟨_, _, _, q, y₂, .mk a vs n (Wd.put_self ..) (r.mono (Wd.put_le fun o t q => by rw [hn] at q; cases q)) z, fun b hb => Wd.put_ne _ _ hb⟩
end
theorem vl {iter : Expr} (h : wQ iter = true) (env : Env) (x : Value) : foldedSetIterable iter env x = pure x := by
 cases iter <;> first | rfl | cases h
inductive MDone (S : Sta) (W : Wd) (h : Heap) (a : Addr) (l : List D) : Prop
 | mk (vs : List Value) (n : Nat) (o : h.get? a = some (PySem.W.listOf (List.toArray vs) n)) (r : RepL S W l vs)
structure CompSt (J : Jd) (W : Wd) (s : Shared) (cenv : Env) (csc : Scope) (ρ : Rg) (F : List Addr) (I : Wd → Heap → List D → Prop) (Da : Addr) (ds : List D) (done : List D) (st₁ : St) (s₁ : Shared) (W₁ : Wd) : Prop where
 y : Stp J.S W s st₁ s₁ W₁
 e : EnvR J.S W₁ cenv csc ρ s₁.heap
 i : I W₁ s₁.heap ds
 d : MDone J.S W₁ s₁.heap Da done
 dn : W₁.Ψ Da = none
 n : done.length + ds.length ≤ sizeLine
noncomputable def f7 (c : Cm) (csc : Scope) : List Expr → X
 | [] => .tt
 | e :: r => match r with
  | [] => c.t csc e
  | _ => .bad
section
variable {J : Jd} {sc csc : Scope}
structure RTs (J : Jd) (csc : Scope) (ifs : List Expr) (x : X) : Prop where
 go : ∀ {ρ : Rg} {st : St} {Q : Bool → St → Prop} {A : Around} {s : Shared} {W : Wd} {env : Env}, Here J A env csc ρ st s W → (run J.call x).t ρ st Q → Wq J.S A (forIn ifs true fun c r => if r = true then do let ok ← isTrue c env (eval c env); pure (ForInStep.yield ok) else pure (ForInStep.yield r)) (PostB J.S W s Q) s
theorem mQ {ifs : List Expr} {c : Cm} (h : ∀ e, RT J csc e (c.t csc e)) : RTs J csc ifs (f7 c csc ifs) := by
 cases ifs with
 | nil => exact ⟨@fun ρ st Q A s W env H q => wpAny_tests_nil ⟨st, W, q, .refl H.O⟩⟩
 | cons e r => cases r with
  | nil => exact ⟨@fun ρ st Q A s W env H q => wpAny_tests_one ((h e).go H q)⟩
  | cons => exact ⟨fun U q => q.elim⟩
theorem oq {t elt iter : Expr} {tg : Tg} {ifs : List Expr} {pos : Pos} {xt xe : X} {cenv : Env} {F : List Addr} {I : Wd → Heap → List D → Prop} {it : Value} {Da : Addr} {A : Around} {s : Shared} {W : Wd} {R : Result → Shared → Prop} {ρ : Rg} {Q : List D → St → Prop}
  (ht : TgOk csc (zg csc) t tg) (hm : ∀ x, zg csc x = true → yb csc ρ x = none) (htest : RTs J csc ifs xt) (helt : RE J csc elt xe)
  (hr : Room J.n A) (K : ItK J.S t it F I) (hF : ∀ b ∈ F, s.heap.get? b = none) (hC : s.heap.get? cenv.locals = none) (hD : s.heap.get? Da = none) (hDC : Da ≠ cenv.locals)
  (hR : ∀ (s₁ : Shared) (W₁ : Wd) (st₁ : St) (l : List D), Q l st₁ → l.length ≤ sizeLine → Stp J.S W s st₁ s₁ W₁ → MDone J.S W₁ s₁.heap Da l → W₁.Ψ Da = none → W₁.Ψ cenv.locals = none → (∃ m, s₁.heap.Ns cenv.locals m) → R (.ok .next) s₁)
  {ds done : List D} {st₁ : St} {s₁ : Shared} {W₁ : Wd} {Kc : List D → St → Prop} (hp : xV tg ρ (run J.call xt).t (run J.call xe).e ds st₁ Kc) (hl : ∀ r st, Kc r st → Q (done ++ r) st) (Z : CompSt J W s cenv csc ρ F I Da ds done st₁ s₁ W₁) :
   codeAny (model J.S.prog J.S.w) A (.compLoop (.ListComp elt [⟨t, iter, ifs, 0⟩] csc pos) 0 it (.ref Da) cenv) R s₁ := by
 refine xo (fun n s₁ => E5 fun ds done st₁ W₁ Kc => A4 (xV tg ρ (run J.call xt).t (run J.call xe).e ds st₁ Kc) ((∀ r st, Kc r st → Q (done ++ r) st)) (CompSt J W s cenv csc ρ F I Da ds done st₁ s₁ W₁) (n = ds.length)) ?_ ds.length ⟨ds, done, st₁, W₁, Kc, hp, hl, Z, rfl⟩
 clear hp hl Z ds done st₁ s₁ W₁ Kc
 intro n s₁ hz2
 refine hid fun hG => ?_
 obtain ⟨ds, done, st₁, W₁, Kc, hp, hl, ⟨y₁, e₁, i₁, ⟨vs, m, hd, hrl⟩, dn, hn⟩, rfl⟩ := hz2
 refine hG ?_
 refine zB (K.next hr.hd y₁.ok i₁ (E := noE)) ?_
 have notF : ∀ a o, s₁.heap.get? a = some o → (∀ fs, o.data ≠ .fields fs) → a ∉ F := fun a o e hn hb => by
  refine hid fun hG => ?_
  obtain ⟨_, o', fs, h1, h2⟩ := K.fld i₁ a hb
  refine hG ?_
  rw [e] at h1; cases h1; exact hn fs h2
 have dF : Da ∉ F := notF Da _ hd (fun fs z => by cases z)
 rintro (_ | v) s₁' hnext
 ·
  refine hid fun hG => ?_
  obtain ⟨rfl, h', tk, rfl, k⟩ := hnext
  have y₂ := y₁.move (h₂ := h') (tk := tk) (fun a => a ∈ F) (fun a o e q => k a o q e) hF (fun a q => (K.fld i₁ a q).1)
  obtain ⟨m', o, es, ep, h1, h2, h3⟩ := e₁.ns
  refine hG ?_
  have hq := hl [] _ hp
  rw [List.append_nil] at hq
  exact hR _ W₁ st₁ done hq hn y₂ ⟨vs, m, k _ _ dF hd, hrl⟩ dn e₁.loc ⟨m', o, es, ep, k _ _ (notF _ _ h1 fun fs z => by rw [h2] at z; cases z) h1, h2, h3⟩
 ·refine zB hnext ?_
  intro _ s₂ hz2
  refine hid fun hG => ?_
  obtain ⟨d, ds', h₂, tk, W₂, rfl, rfl, k₂, le₂, O₂, n₂, ns₂, rd, i₂⟩ := hz2
  refine hG ?_
  have y₂ := y₁.iter hF (tk := tk) k₂ le₂ O₂ n₂
  have e₂ : EnvR J.S W₂ cenv csc ρ h₂ := e₁.hop le₂ (fun a o e hn => k₂ a o (notF a o e fun fs z => by rcases hn with ⟨_, _, q⟩ | ⟨_, q⟩ <;> (rw [q] at z; cases z)) e) n₂ ns₂
  have d₂ : h₂.get? Da = some (PySem.W.listOf (List.toArray vs) m) := k₂ _ _ dF hd
  have dn₂ : W₂.Ψ Da = none := n₂ _ _ hd dn
  have hp : yV tg d ρ fun ρ' => (run J.call xt).t ρ' st₁ fun b st => br b ((run J.call xe).e ρ' st fun x st => xV tg ρ (run J.call xt).t (run J.call xe).e ds' st fun r st => Kc (x :: r) st) (xV tg ρ (run J.call xt).t (run J.call xe).e ds' st Kc) := hp
  refine zB (so (A := A) (s := { s₁ with heap := h₂, toks := tk }) hr.hd ht hp e₂ O₂ rd) ?_
  intro _ s₃ hz2
  refine hid fun hG => ?_
  obtain ⟨ρ', h₃, tk₃, hp, k₃, O₃, e₃, hlo⟩ := hz2
  refine hG ?_
  have y₃ := y₂.move (h₂ := h₃) (tk := tk₃) (fun a => a = cenv.locals) (fun a o e q => k₃ a o q e) (fun a q => q ▸ hC) (fun a q => q ▸ e₂.loc)
  have fldC : ∀ b ∈ F, b ≠ cenv.locals := fun b hb q => by
   refine hid fun hG => ?_
   obtain ⟨_, o, fs, h1, h2⟩ := K.fld i₂ b hb
   obtain ⟨_, o', es, ep, h3, h4, _⟩ := e₂.ns
   refine hG ?_
   rw [q, h3] at h1; cases h1; rw [h4] at h2; cases h2
  have i₃ : I W₂ h₃ ds' := K.stay i₂ (.refl _) (fun b hb => (K.fld i₂ b hb).1) (fun b hb o e => k₃ b o (fldC b hb) e) (fun b o t e => O₃.frz b o t e)
  have d₃ : h₃.get? Da = some (PySem.W.listOf (List.toArray vs) m) := k₃ _ _ hDC d₂
  have eρ : EnvR J.S W₂ cenv csc ρ h₃ := e₃.less fun x d hx => by
   cases q : zg csc x with
   | true => rw [hm x q] at hx; cases hx
   | false => rw [hlo x q]; exact hx
  have stay : ∀ {s s' : Shared} {st : St} {Wa Wb : Wd}, I Wa s.heap ds' → Stp J.S Wa s st s' Wb → I Wb s'.heap ds' := fun {s s' st Wa Wb} i y =>
   K.stay i y.le (fun b hb => by obtain ⟨h1, o, fs, h2, _⟩ := K.fld i b hb; exact y.non b o h2 h1) (fun b hb o e => y.keep b o e (.of_none (K.fld i b hb).1)) (fun b o t e => y.ok.frz b o t e)
  refine zB (htest.go ⟨hr, e₃, O₃⟩ hp) ?_
  intro ok s₄ hz2
  refine hid fun hG => ?_
  obtain ⟨st₄, W₄, hp, y₄⟩ := hz2
  refine hG ?_
  cases ok with
  | false =>
   refine ⟨ds'.length, Nat.lt_succ_self _, ds', done, st₄, W₄, Kc, hp, hl, ⟨y₃.trans y₄, eρ.step y₄, stay i₃ y₄, ⟨vs, m, y₄.keep _ _ d₃ (.of_none dn₂), (hrl.mono le₂).mono y₄.le⟩, y₄.non _ _ d₃ dn₂, Nat.le_of_succ_le hn⟩, rfl⟩
  | true =>
   refine zB (helt.go ⟨hr, e₃.step y₄, y₄.ok⟩ hp) ?_
   intro u s₅ hz2
   refine hid fun hG => ?_
   obtain ⟨x, st₅, W₅, hp, y₅, r₅⟩ := hz2
   refine hG ?_
   have y45 := y₄.trans y₅
   have d₅ := y45.keep _ _ d₃ (.of_none dn₂)
   have dn₅ := y45.non _ _ d₃ dn₂
   have hvl : vs.length ≤ sizeLine := by rw [← hrl.length]; exact Nat.le_trans (Nat.le_add_right _ _) hn
   refine wpAny_list_append_plain (hsz := by simpa using hvl) ⟨m, d₅⟩ fun h₆ hpl hs => ?_
   obtain ⟨m', d₆⟩ := hpl
   rw [List.push_toArray] at d₆
   have i₅ := stay i₃ y45
   have dF₅ : ∀ b ∈ F, b ≠ Da := fun b hb q => by
    refine hid fun hG => ?_
    obtain ⟨_, o, fs, h1, h2⟩ := K.fld i₅ b hb
    refine hG ?_
    rw [q, d₅] at h1; cases h1; cases h2
   have y₆ := ((y₃.trans y45).move (h₂ := h₆) (tk := s₅.toks) (fun a => a = Da) (fun a o e q => (hs.2 a q).trans e) (fun a q => q ▸ hD) (fun a q => q ▸ dn₅))
   have e₆ : EnvR J.S W₅ cenv csc ρ h₆ := (eρ.step y45).hop (.refl _) (fun a o e hn => (hs.2 a (fun q => by rw [q, d₅] at e; cases e; rcases hn with ⟨_, _, z⟩ | ⟨_, z⟩ <;> cases z)).trans e) (fun U U U n => n) (fun U n U => n)
   have i₆ : I W₅ h₆ ds' := K.stay i₅ (.refl _) (fun b hb => (K.fld i₅ b hb).1) (fun b hb o e => (hs.2 b (dF₅ b hb)).trans e) (fun b o t e => y₆.ok.frz b o t e)
   exact ⟨ds'.length, Nat.lt_succ_self _, ds', done ++ [x], st₅, W₅, fun r st => Kc (x :: r) st, hp, fun r st h => by rw [List.append_assoc]; exact hl _ _ h, ⟨y₆, e₆, i₆, ⟨vs ++ [u], m', d₆, (((hrl.mono le₂).mono y₄.le).mono y₅.le).append (.one r₅)⟩, dn₅, by rw [List.length_append, List.length_singleton]; rw [List.length_cons] at hn; exact lin1 [_,_,_] 0 (.a S0 V1) V2 1 (.a V0 S1) V2 tt hn⟩, rfl⟩
theorem th {t elt iter : Expr} {tg : Tg} {ifs : List Expr} {pos bpos : Pos} {xi xt xe : X} {own : Bool} {env : Env} {A : Around} {s : Shared} {W : Wd} {st : St} {ρ : Rg} {use : Option (Value → Sem Unit)} {P : D → St → Prop} {Q : Value → Shared → Prop}
  (hk : xd sc csc = true) (hk2 : wQ iter = true) (ht : TgOk csc (zg csc) t tg) (hi : RI J sc t iter xi) (htest : RTs J csc ifs xt) (helt : RE J csc elt xe) (H : Here J A env sc ρ st s W)
  (q : (run J.call (.lc own (we sc csc) tg xi xt xe)).e ρ st P)
  (hQ : ∀ (Da C : Addr) (s' : Shared) (W' : Wd) (d : D) (st' : St), P d st' → Stp J.S W s st' s' W' → Rep J.S W' d (.ref Da) → s.heap.get? C = none → W'.Ψ C = none → (∃ m, s'.heap.Ns C m) → compPost (model J.S.prog J.S.w) A noE use Q (.ref Da) C (.ok .next) s') :
  Wq J.S A (comprehension (.ListComp elt [⟨t, iter, ifs, 0⟩] csc pos) csc env bpos (newList []) false (eval iter env) use) Q s := by
 have ok := tc hk
 refine hid fun hG => ?_
 obtain ⟨cl, hclos, hc1, hc2⟩ := xK (env := env) (names := csc.names) (acc := []) (fun x k hm e => H.he.clo x (ok.free x k hm e)) (fun x c h => nn h)
 refine hG ?_
 refine wpAny_comprehension_free (use := use) rfl (vl hk2 env) (cl := cl) ?_ ok.fn.kind (fun x hx hl => by rw [← hl]; exact u2 ok.fn.nd hx) (zB (hi.go H q) ?_)
 ·unfold closureFor; exact (bind_pure _).trans hclos
 rintro xv s₁ h₁
 refine zB h₁ ?_
 intro it s₂ hz2
 refine hid fun hG => ?_
 obtain ⟨ds, st₁, W₂, q, y₂, hn, F, I, K, i₂, hF⟩ := hz2
 refine hG ?_
 have fr2 : s₂.heap.get? s₂.heap.objs.size = none := zX (Nat.le_refl _)
 have frs : ∀ a, s₂.heap.get? a = none → s.heap.get? a = none := fun a ha => by
  cases q : s.heap.get? a with
  | none => rfl
  | some o => obtain ⟨o', e⟩ := y₂.alive H.O q; rw [ha] at e; cases e
 refine wpAny_newObj_type (wpAny_newFunctionEnv (fun x hx e => ok.cell x.1 x.2 hx e) (by intro y hy; simp at hy) (fun h₁ hns hsb => ?_) ok.fn.kind)
 dsimp only at hns hsb ⊢
 generalize hH : s₂.heap.push { cls := .type "list", dict := none, data := .seq ([] : List Value).toArray } = H₂ at hns hsb ⊢
 have hC : H₂.objs.size = s₂.heap.objs.size + 1 := by rw [← hH, Heap.size_push]
 have frC : s₂.heap.get? H₂.objs.size = none := zX (by rw [hC]; exact Nat.le_succ _)
 have hDC : s₂.heap.objs.size ≠ H₂.objs.size := by rw [hC]; exact Nat.ne_of_lt (Nat.lt_succ_self _)
 have kp : ∀ b o, s₂.heap.get? b = some o → h₁.get? b = some o := fun b o e => by
  have hb : b ≠ H₂.objs.size := fun q => by rw [q, frC] at e; cases e
  exact hsb.extBut b o hb (Heap.get?_push_of_some _ (hH ▸ Heap.get?_push_of_some _ e))
 have dD : h₁.get? s₂.heap.objs.size = some (PySem.W.listOf (List.toArray []) 0) := hsb.extBut _ _ hDC (Heap.get?_push_of_some _ (hH ▸ Heap.get?_push_size _ rfl))
 have y₃ : Stp J.S W₂ s₂ st₁ { s₂ with heap := h₁, toks := s₂.toks + ([] : List (Str × Value)).length } W₂ := .quiet y₂.ok kp
 have dn : W₂.Ψ s₂.heap.objs.size = none := y₂.ok.fresh fr2
 have cn : W₂.Ψ H₂.objs.size = none := y₂.ok.fresh frC
 have e₃ : EnvR J.S W₂ (compEnvC csc cl H₂.objs.size env) csc (rO ρ (we sc csc)) h₁ := mP ok (H.he.step y₂) kp hns cn hc1 fun x hx => hc2 x (.inl hx)
 have i₃ : I W₂ h₁ ds := K.stay i₂ (.refl _) (fun b hb => (K.fld i₂ b hb).1) (fun b hb o e => kp b o e) (fun b o t e => y₃.ok.frz b o t e)
 have loop := oq (W := W) (s := s) (pos := pos) (iter := iter) (R := compPost (model J.S.prog J.S.w) A noE use Q (.ref s₂.heap.objs.size) H₂.objs.size) (cenv := compEnvC csc cl H₂.objs.size env) (Q := fun l st => tS own l st P) ht (fun x hx => by
   cases e : yb csc (rO ρ (we sc csc)) x with
   | none => rfl
   | some d =>
    have := (td ok.fn.nd e).1
    unfold zg at hx
    rw [this] at hx; cases hx) htest helt H.hr K hF (frs _ frC) (frs _ fr2) hDC (fun s₄ W₄ st₄ l q hz y₄ hd hdn hcn hm => by
   refine hid fun hG => ?_
   obtain ⟨vs, n, ho, rl⟩ := hd
   obtain ⟨d, st₅, W₅, q, y₅, r₅, hoth⟩ := om y₄ (frs _ fr2) ho hdn rl (by rw [← rl.length]; exact hz) q
   refine hG ?_
   exact hQ _ _ s₄ W₅ d st₅ q y₅ r₅ (frs _ frC) (by rw [hoth _ hDC.symm]; exact hcn) hm) (done := []) q (fun r st h => h) ⟨y₂.trans y₃, e₃, i₃, ⟨[], 0, dD, .nil⟩, dn, by rw [List.length_nil, Nat.zero_add]; exact hn⟩
 exact codeAny_compStart_list loop (K.self H.hr.hd i₃ loop)
theorem jT {t elt iter : Expr} {tg : Tg} {ifs : List Expr} {pos : Pos} {xi xt xe : X} {own : Bool} (hk : xd sc csc = true) (hk2 : wQ iter = true) (ht : TgOk csc (zg csc) t tg) (hi : RI J sc t iter xi) (htest : RTs J csc ifs xt) (helt : RE J csc elt xe) :
  RE J sc (.ListComp elt [⟨t, iter, ifs, 0⟩] csc pos) (.lc own (we sc csc) tg xi xt xe) := by
 refine ⟨@fun ρ st Q A s W env H q => ?_⟩
 rw [eval_ListComp]
 refine th (use := none) (own := own) hk hk2 ht hi htest helt H q fun Da C s' W' d st' q y r hc hcn hm => ?_
 obtain ⟨m, hm⟩ := hm
 exact ⟨m, hm, fun h' hs => ⟨d, st', W', q, y.move (h₂ := h') (tk := s'.toks) (fun a => a = C) (fun a o e q => (hs.2 a q).trans e) (fun a q => q ▸ hc) (fun a q => q ▸ hcn), r⟩⟩
end
section
variable {S : Sta} {env : Env} {sc : Scope} {W W₁ : Wd} {s s₁ : Shared} {st₁ : St} {Q : Out → St → Prop}
theorem PostS.trans (y : StpF S env W s st₁ s₁ W₁) : ∀ v s', PostS S env sc W₁ s₁ Q v s' → PostS S env sc W s Q v s' := fun U U x => by
 cases x with
 | fall ρ st' _ W' q z he f => exact .fall ρ st' _ W' q (y.trans z) he f
 | ret d v st' _ W' q z r => exact .ret d v st' _ W' q (y.trans z) r
end
section
variable {J : Jd} {sc : Scope}
theorem zZ {t : Env → Sem Flow} : RS J sc t .bad := ⟨fun U U q => q.elim⟩
theorem iJ : RS J sc (execs []) .nop := ⟨@fun ρ st Q A s W env H F q => wpAny_execs_nil (.fall ρ st s W q (Stp.refl H.O).toF H.he F)⟩
theorem kI {a : Stmt} {ss : List Stmt} {x y : X} (h : RS J sc (exec a) x) (hs : RS J sc (execs ss) y) : RS J sc (execs (a :: ss)) (.seq x y) := by
 refine ⟨@fun ρ st Q A s W env H F q => wpAny_execs_cons (zB (h.go H F q) ?_)⟩
 rintro fl s₁ h₁
 cases h₁ with
 | fall ρ₁ st₁ _ W₁ q y₁ e₁ f₁ => exact zB (hs.go ⟨H.hr, e₁, y₁.ok⟩ f₁ q) (PostS.trans y₁)
 | ret d v st₁ _ W₁ q y₁ r => exact .ret d v st₁ s₁ W₁ q y₁ r
theorem kJ {pos : Pos} : RS J sc (exec (.Pass pos)) .nop := ⟨@fun ρ st Q A s W env H F q => wpAny_Pass (.fall ρ st s W q (Stp.refl H.O).toF H.he F)⟩
theorem iK {e : Expr} {x : X} {pos : Pos} (h : RE J sc e x) : RS J sc (exec (.Return (some e) pos)) (.ret x) := by
 refine ⟨@fun ρ st Q A s W env H F q => wpAny_Return_some (zB (h.go H q) ?_)⟩
 rintro v s₁ ⟨d, st₁, W₁, q, y₁, r₁⟩
 exact .ret d v st₁ s₁ W₁ q y₁.toF r₁
theorem kK {e : Expr} {x : X} {pos : Pos} (h : RE J sc e x) (hs : ∀ env, swapsWith e none pos.line env = pure false) : RS J sc (exec (.Expr e pos)) (.ex x) := by
 refine ⟨@fun ρ st Q A s W env H F q => wpAny_Expr_any (zB (h.go H q) ?_) (by unfold interactive; rw [H.he.kind]; rfl) (hs env)⟩
 rintro v s₁ ⟨d, st₁, W₁, q, y₁, r₁⟩
 exact .fall ρ st₁ s₁ W₁ q y₁.toF (H.he.step y₁) (F.step y₁)
theorem g8 {t : Expr} {a b : List Stmt} {x y z : X} {pos : Pos} (h : RT J sc t x) (ha : RS J sc (execs a) y) (hb : RS J sc (execs b) z) : RS J sc (exec (.If t a b pos)) (.if x y z) := by
 refine ⟨@fun ρ st Q A s W env H F q => wpAny_If (zB (h.go H q) ?_)⟩
 rintro v s₁ ⟨st₁, W₁, q, y₁⟩
 cases v with
 | true => exact zB (ha.go (H.step y₁) (F.step y₁) q) (PostS.trans y₁.toF)
 | false => exact zB (hb.go (H.step y₁) (F.step y₁) q) (PostS.trans y₁.toF)
theorem iL {n : Str} {i : Nat} {e : Expr} {x : X} {npos pos : Pos} (hk : zg sc n = true) (hi : ix (zd sc) n = some i) (h : RE J sc e x) : RS J sc (exec (.AugAssign (.Name n npos) .Add e pos)) (.aug i x) := by
 refine ⟨@fun ρ st Q A s W env H F q => ?_⟩
 obtain ⟨a, ha, q⟩ := uC q
 have hko := xM H.he hk
 obtain ⟨v, rv, pv⟩ := H.he.vars n a (by unfold yb; rw [hi]; exact ha)
 rcases rv with ⟨_, m, hm, hv⟩ | ⟨k1, _⟩
 ·refine wpAny_AugAssign_Name (wpAny_loadName_local H.he.kind hko hm hv (zB (h.go H q) ?_))
  rintro u s₁ ⟨b, st₁, W₁, q, y₁, r₁⟩
  obtain ⟨i1, j1, t, t', q⟩ := zh q (pv.mono y₁.le) r₁
  refine wpAny_iadd_int ?_
  have y := y₁.trans (.toks y₁.ok (s₁.toks + 1))
  refine zB (yy (s := { s₁ with toks := s₁.toks + 1 }) (K := fun ρ => Q (.fall ρ) st₁) (H.he.step y) (F.step y) y.ok (.inl hko) hi (d := .int _) ⟨_, rfl⟩ q) ?_
  rintro _ s₃ ⟨ρ₃, q, y₃, e₃, f₃⟩
  exact .fall ρ₃ st₁ s₃ W₁ q (y.toF.trans y₃) e₃ f₃
 ·rcases k1 with k1 | k1 <;> (rw [hko] at k1; cases k1)
theorem sq {t value : Expr} {pos : Pos} {env : Env} : exec (.Assign [t] value pos) env = (do
  standAt pos
  if ← swapsWith value (some t) pos.line env then do
   evalThenUse value env fun v => assignAll v ((assignEach [t] env).map (·.2))
   pure .next
  else do
   let v ← eval value env
   assignStores env v (← swappedStores [t] value env) ((assignEach [t] env).map (·.2))) := exec_Assign [t] value pos
theorem yE {t value : Expr} {pos : Pos} {env : Env} {A : Around} {s : Shared} {Q : Flow → Shared → Prop} (hs : swapsWith value (some t) pos.line env = pure false) (hw : swappedStores [t] value env = pure none) (hst : isStarred t = false)
  (h : wpAny (model J.S.prog J.S.w) A (eval value env) (fun v s₁ => wpAny (model J.S.prog J.S.w) A (assign t env v) (fun U => Q .next) noE s₁) noE s) : wpAny (model J.S.prog J.S.w) A (exec (.Assign [t] value pos) env) Q noE s := by
 rw [sq]
 refine wpAny_bind (wpAny_standAt ?_)
 rw [hs]
 refine wpAny_bind (wpAny_pure ?_)
 rw [if_neg (by decide)]
 refine wpAny_bind (zB h fun v s₁ h₁ => ?_)
 rw [hw]
 refine wpAny_bind (wpAny_pure ?_)
 have : (assignEach [t] env).map (·.2) = [assign t env] := by cases t <;> first | rfl | cases hst
 rw [this]
 exact wpAny_bind (zB h₁ fun U U x => wpAny_pure x)
theorem kL {n : Str} {np : Pos} {i : Nat} {e : Expr} {x : X} {pos : Pos} (h : RE J sc e x) (hs : ∀ env, swapsWith e (some (.Name n np)) pos.line env = pure false) (hk : storable sc n = true) (hi : ix (zd sc) n = some i) : RS J sc (exec (.Assign [.Name n np] e pos)) (.set (.one i) x) := by
 refine ⟨@fun ρ st Q A s W env H F q => yE (hs env) rfl rfl (zB (h.go H q) ?_)⟩
 rintro v s₁ ⟨d, st₁, W₁, q, y₁, r₁⟩
 refine PyProof.Rows.assign_Name (zB (yy (K := fun ρ => Q (.fall ρ) st₁) (H.he.step y₁) (F.step y₁) y₁.ok (H.he.storable hk) hi r₁ q) ?_)
 rintro _ s₂ ⟨ρ₂, q, y₂, e₂, f₂⟩
 exact .fall ρ₂ st₁ s₂ W₁ q (y₁.toF.trans y₂) e₂ f₂
theorem iM (T : Facts J.S) (V : SetFacts J.S) {o e : Expr} {n : Str} {f : Fld} {x y : X} {apos pos : Pos} (ho : RE J sc o y) (h : RE J sc e x) (hs : ∀ env, swapsWith e (some (.Attribute o n apos)) pos.line env = pure false) (hf : xZ n = some f) : RS J sc (exec (.Assign [.Attribute o n apos] e pos)) (.sta y f x) := by
 cases wV hf
 refine ⟨@fun ρ st Q A s W env H F q => yE (hs env) rfl rfl (zB (h.go H q) ?_)⟩
 rintro v s₁ ⟨d, st₁, W₁, q, y₁, r₁⟩
 rw [assign_Attribute]
 refine wpAny_bind (wpAny_holding (zB (ho.go (H.step y₁) q) ?_))
 rintro ov s₂ ⟨a, st₂, W₂, q, y₂, r₂⟩
 refine wpAny_bind (wpAny_standAt (wpAny_bind (wpAny_holding (zB (sm T V q y₂.ok r₂ (r₁.mono y₂.le)) ?_))))
 rintro _ s₃ ⟨st₃, q, y₃⟩
 refine wpAny_release ?_
 have y := (y₁.trans y₂).trans y₃
 exact .fall ρ st₃ s₃ W₂ q y.toF (H.he.step y) (F.step y)
theorem iN {o i e : Expr} {x y z : X} {apos pos : Pos} (ho : RE J sc o y) (hi : RE J sc i z) (h : RE J sc e x) (hs : ∀ env, swapsWith e (some (.Subscript o i apos)) pos.line env = pure false) : RS J sc (exec (.Assign [.Subscript o i apos] e pos)) (.stt y z x) := by
 refine ⟨@fun ρ st Q A s W env H F q => yE (hs env) rfl rfl (zB (h.go H q) ?_)⟩
 rintro v s₁ ⟨d, st₁, W₁, q, y₁, r₁⟩
 rw [assign_Subscript]
 refine wpAny_bind (wpAny_holding (zB (ho.go (H.step y₁) q) ?_))
 rintro ov s₂ ⟨a, st₂, W₂, q, y₂, r₂⟩
 have y12 := y₁.trans y₂
 refine wpAny_bind (wpAny_holding (zB (hi.go (H.step y12) q) ?_))
 rintro iv s₃ ⟨j, st₃, W₃, q, y₃, r₃⟩
 refine wpAny_bind (wpAny_standAt (wpAny_bind (wpAny_holding (zB (pA q y₃.ok (r₂.mono y₃.le) r₃ ((r₁.mono y₂.le).mono y₃.le)) ?_))))
 rintro _ s₄ ⟨st₄, q, y₄⟩
 refine wpAny_release ?_
 have y := (y12.trans y₃).trans y₄
 exact .fall ρ st₄ s₄ W₃ q y.toF (H.he.step y) (F.step y)
end
set_option backward.match.sparseCases true
noncomputable def putL : List Nat → List D → Rg → Rg
 | i :: is, d :: l, ρ => putL is l (put ρ i d)
 | _, _, ρ => ρ
theorem ti {K : Rg → Prop} : ∀ {is : List Nat} {l : List D} {ρ : Rg}, putAll is l ρ K → K (putL is l ρ)
 | [], [], _, h => h
 | [], _ :: _, _, h => h.elim
 | _ :: _, [], _, h => h.elim
 | _ :: is, _ :: l, _, h => ti (is := is) h
theorem tj {K : Rg → Prop} : ∀ {is : List Nat} {l : List D} {ρ : Rg}, is.length = l.length → K (putL is l ρ) → putAll is l ρ K
 | [], [], _, _, h => h
 | [], _ :: _, _, h, _ => by first | exact cn h | exact nc h | exact sn h | exact ns h | exact nn h
 | _ :: _, [], _, h, _ => by first | exact cn h | exact nc h | exact sn h | exact ns h | exact nn h
 | _ :: is, _ :: l, _, e, h => tj (is := is) (Nat.succ.inj e) h
theorem qL {d e : D} : ∀ {ρ : Rg} {i j : Nat}, i ≠ j → put (put ρ i d) j e = put (put ρ j e) i d
 | [], _, _, _ => rfl
 | _ :: _, 0, 0, h => absurd rfl h
 | _ :: _, 0, j + 1, _ => rfl
 | _ :: _, i + 1, 0, _ => rfl
 | x :: ρ, i + 1, j + 1, h => congrArg (x :: ·) (qL (ρ := ρ) fun e => h (congrArg (· + 1) e))
theorem qM {d : D} : ∀ {is : List Nat} {l : List D} {ρ : Rg} {i : Nat}, i ∉ is → putL is l (put ρ i d) = put (putL is l ρ) i d
 | [], _, _, _, _ => rfl
 | _ :: _, [], _, _, _ => rfl
 | j :: is, e :: l, ρ, i, h => by
  show putL is l (put (put ρ i d) j e) = put (putL is l (put ρ j e)) i d
  rw [qL (fun q => h (by rw [q]; exact .head _)), qM fun q => h (.tail _ q)]
theorem vm : ∀ {is js : List Nat} {l m : List D} {ρ : Rg}, is.length = l.length → putL (is ++ js) (l ++ m) ρ = putL js m (putL is l ρ)
 | [], _, [], _, _, _ => rfl
 | [], _, _ :: _, _, _, h => by first | exact cn h | exact nc h | exact sn h | exact ns h | exact nn h
 | _ :: _, _, [], _, _, h => by first | exact cn h | exact nc h | exact sn h | exact ns h | exact nn h
 | i :: is, js, d :: l, m, ρ, h => vm (is := is) (Nat.succ.inj h)
theorem wt : ∀ {is : List Nat} {l : List D} {ρ : Rg}, is.Nodup → is.length = l.length → putL is.reverse l.reverse ρ = putL is l ρ
 | [], [], _, _, _ => rfl
 | [], _ :: _, _, _, h => by first | exact cn h | exact nc h | exact sn h | exact ns h | exact nn h
 | _ :: _, [], _, _, h => by first | exact cn h | exact nc h | exact sn h | exact ns h | exact nn h
 | i :: is, d :: l, ρ, nd, h => by
  obtain ⟨nx, nd⟩ := List.nodup_cons.mp nd
  have h := Nat.succ.inj h
  rw [List.reverse_cons, List.reverse_cons, vm (by rw [List.length_reverse, List.length_reverse]; exact h), wt nd h]
  show put (putL is l ρ) i d = putL is l (put ρ i d)
  exact (qM nx).symm
section
variable {sc : Scope} {P : Str → Bool}
theorem Ixs.snoc {x : Str} {p : Pos} {i : Nat} (hp : P x = true) (hi : ix (zd sc) x = some i) {ps : List (Str × Pos)} {is : List Nat} (y : Ixs sc P ps is) : Ixs sc P (ps ++ [(x, p)]) (is ++ [i]) := by
 induction y with
 | nil => exact .cons hp hi .nil
 | cons a b _ c => exact .cons a b c
theorem Ixs.reverse {ps : List (Str × Pos)} {is : List Nat} (y : Ixs sc P ps is) : Ixs sc P ps.reverse is.reverse := by
 induction y with
 | nil => exact .nil
 | cons a b _ c => rw [List.reverse_cons, List.reverse_cons]; exact c.snoc a b
theorem Ixs.mem {ps : List (Str × Pos)} {is : List Nat} (y : Ixs sc P ps is) : ∀ i ∈ is, ∃ x ∈ ps.map (·.1), ix (zd sc) x = some i := by
 induction y with
 | nil => exact fun U h => nm h
 | cons a b _ c =>
  intro i h
  rcases List.mem_cons.mp h with rfl | h
  ·exact ⟨_, .head _, b⟩
  ·obtain ⟨x, hx, e⟩ := c i h; exact ⟨x, .tail _ hx, e⟩
theorem Ixs.nodup {ps : List (Str × Pos)} {is : List Nat} (y : Ixs sc P ps is) : (ps.map (·.1)).Nodup → is.Nodup := by
 induction y with
 | nil => exact fun U => .nil
 | cons a b y c =>
  intro nd
  obtain ⟨n1, n2⟩ := List.nodup_cons.mp nd
  refine List.nodup_cons.mpr ⟨fun h => ?_, c n2⟩
  obtain ⟨x, hx, e⟩ := y.mem _ h
  obtain ⟨k, e1⟩ := ym b
  obtain ⟨k', e2⟩ := ym e
  rw [e1] at e2; cases e2; exact n1 hx
end
theorem ot {α β : Type} {F G : α → Option β} {P : β → Prop} (hF : ∀ t s, F t = some s → G t = some s ∧ P s) {ts : List α} : (ts.filterMap F).length = ts.length → ts.filterMap F = ts.filterMap G ∧ ∀ x ∈ ts.filterMap G, P x := by
 induction ts with
 | nil => exact fun U => ⟨rfl, fun U h => nm h⟩
 | cons t ts ih =>
  intro h
  cases e : F t with
  | none => rw [List.filterMap_cons_none e] at h; exact absurd h (Nat.ne_of_lt (Nat.lt_succ_of_le (List.length_filterMap_le ..)))
  | some s =>
   obtain ⟨g, p⟩ := hF t s e
   rw [List.filterMap_cons_some e] at h ⊢
   rw [List.filterMap_cons_some g]
   obtain ⟨h1, h2⟩ := ih (Nat.succ.inj h)
   rw [h1]
   exact ⟨rfl, fun y hy => (List.mem_cons.mp hy).elim (fun z => z ▸ p) (h2 y)⟩
theorem tN {ts : List Expr} {k : Nat} {p : Pos} {value : Expr} {env : Env} (hk : vO value = true) : swappedStores [.Tuple ts k p] value env = pure none ∨
  (swappedStores [.Tuple ts k p] value env = pure (some (ts.filterMap zq)) ∧ (∀ x ∈ ts.filterMap zq, env.kindOf x = some .local) ∧ (ts.filterMap zq).length = ts.length) := by
 cases value with
 | Tuple vs k' p' =>
  have hc : vs.all (constantsAlone 8) = false := by have hk : (!vs.all (constantsAlone 8)) = true := hk; rwa [Bool.not_eq_true'] at hk
  unfold swappedStores
  dsimp only
  by_cases h1 : (!(ts.length == 2 || ts.length == 3) || vs.length != ts.length || env.blockKind != ScopeKind.function) = true
  ·left; rw [if_pos h1]
  ·rw [if_neg h1]
   split
   ·left; rfl
   ·generalize hn : List.filterMap _ ts = names
    by_cases h3 : (names.length != ts.length || names.eraseDups.length != names.length) = true
    ·left; rw [if_pos h3]
    ·rw [if_neg h3]
     by_cases h4 : vs.all (foldedForSure 8) = true
     ·left; rw [if_pos h4]
     ·rw [if_neg h4, if_neg (by rw [hc]; decide)]
      right
      have h3' : names.length = ts.length := by
       simp only [Bool.or_eq_true, bne_iff_ne, ne_eq, not_or, Decidable.not_not] at h3; exact h3.1
      rw [← hn] at h3'
      obtain ⟨g1, g2⟩ := ot (G := zq) (P := fun x => env.kindOf x = some .local) (fun t s h => by
       cases t with
       | Name x p =>
        have h : (if (env.kindOf x == some .local && p.line == (ts.head?.map (·.pos.line)).getD 0) = true then some x else none) = some s := h
        split at h
        ·rename_i q; cases h; rw [Bool.and_eq_true] at q; exact ⟨rfl, beq_iff_eq.mp q.1⟩
        ·exact nn h
       | _ => exact nn h) h3'
      rw [hn] at g1
      rw [hn, g1] at h3'
      exact ⟨by rw [g1], g2, h3'⟩
 | _ => left; rfl
section
variable {J : Jd} {sc : Scope}
theorem kM {ps : List (Str × Pos)} {is : List Nat} {k : Nat} {tp : Pos} {e : Expr} {x : X} {pos : Pos} (h : RE J sc e x) (hx : Ixs sc (storable sc) ps is) (nd : (ps.map (·.1)).Nodup) (hk : vO e = true) : RS J sc (exec (.Assign [.Tuple (ps.map wK) k tp] e pos)) (.set (.many is) x) := by
 refine ⟨@fun ρ st Q A s W env H F q => ?_⟩
 have hsw : ∀ line, swapsWith e (some (.Tuple (ps.map wK) k tp)) line env = pure false := fun line => by cases e <;> rfl
 have inv : ∀ {d : D} {st₁ : St} {s₁ : Shared} {W₁ : Wd} {v : Value}, yV (.many is) d ρ (fun ρ => Q (.fall ρ) st₁) → Ok J.S W₁ st₁ s₁.heap → Rep J.S W₁ d v → E4 fun a vs n l => A4 (v = .ref a) (s₁.heap.get? a = some (yC (List.toArray vs) n)) (RepL J.S W₁ l vs) (putAll is l ρ fun ρ => Q (.fall ρ) st₁) := by
  intro d st₁ s₁ W₁ v q O r
  cases d with
  | tup l => obtain ⟨a, vs, n, f, hrl, _⟩ := r; exact ⟨a, vs, n, l, rfl, O.frz _ _ _ f, hrl, q⟩
  | _ => exact q.elim
 rcases tN (ts := ps.map wK) (k := k) (p := tp) (env := env) hk with hw | ⟨hw, hloc, hlen⟩
 ·refine yE (hsw _) hw rfl (zB (h.go H q) ?_)
  intro v s₁ hz2
  refine hid fun hG => ?_
  obtain ⟨d, st₁, W₁, q, y₁, r₁⟩ := hz2
  obtain ⟨a, vs, n, l, rfl, ho, hrl, q⟩ := inv q y₁.ok r₁
  obtain ⟨g1, g2, g4⟩ := xJ (env := env) (ps := ps)
  refine hG ?_
  refine wpAny_assign_Tuple H.hr.hd (zW ho) (by rw [g1, hx.len, yc q, hrl.length]; rfl) g2 fun h' hx' => ?_
  rw [g4]
  have y := y₁.trans (.quiet (tk := s₁.toks) y₁.ok fun b o e => hx' b o (Nat.ne_of_lt (Heap.lt_size e)) e)
  refine zB (vY (s := { s₁ with heap := h' }) (fun x hx => H.he.storable hx) (fun p v => assign (.Name p.1 p.2) env v) (fun p v Q s hq => PyProof.Rows.assign_Name hq) hx (H.he.step y) (F.step y) y.ok hrl q) ?_
  intro _ s₂ hz2
  refine hid fun hG => ?_
  obtain ⟨ρ₂, q, y₂, e₂, f₂⟩ := hz2
  refine hG ?_
  exact .fall ρ₂ st₁ s₂ W₁ q (y.toF.trans y₂) e₂ f₂
 ·rw [vX] at hw hloc
  refine Assign_Tuple_swapped (names := ps.map (·.1)) (zB (h.go H q) ?_) (hsw pos.line) hw
  intro v s₁ hz2
  refine hid fun hG => ?_
  obtain ⟨d, st₁, W₁, q, y₁, r₁⟩ := hz2
  obtain ⟨a, vs, n, l, rfl, ho, hrl, q⟩ := inv q y₁.ok r₁
  refine hG ?_
  have e1 := yc q
  have e0 : (ps.map (·.1)).length = vs.toArray.size := by rw [List.length_map, hx.len, e1, hrl.length]; rfl
  rw [e0]
  refine wpAny_unpackItems_tuple H.hr.hd (zW ho) fun h' hx' => ?_
  have y := y₁.trans (.quiet (tk := s₁.toks) y₁.ok fun b o e => hx' b o (Nat.ne_of_lt (Heap.lt_size e)) e)
  have q' : putAll is.reverse l.reverse ρ fun ρ => Q (.fall ρ) st₁ := tj (by rw [List.length_reverse, List.length_reverse]; exact e1) (by rw [wt (hx.nodup nd) e1]; exact ti q)
  have go := vY (A := A) (K := fun ρ => Q (.fall ρ) st₁) (s := { s₁ with heap := h' }) (fun x hx => H.he.storable hx) (fun p v => bindName env p.1 v) (fun p v Q s hq => wpAny_bindName hq) hx.reverse (H.he.step y) (F.step y) y.ok hrl.reverse q'
  rw [show ps.reverse.map (fun p v => bindName env p.1 v) = (ps.map (·.1)).reverse.map (bindName env) by rw [← List.map_reverse, List.map_map]; rfl] at go
  refine zB (by simpa using go) ?_
  intro _ s₃ hz2
  refine hid fun hG => ?_
  obtain ⟨ρ₃, q, y₃, e₃, f₃⟩ := hz2
  refine hG ?_
  exact .fall ρ₃ st₁ s₃ W₁ q (y.toF.trans y₃) e₃ f₃
end
set_option backward.match.sparseCases false
section
variable {J : Jd} {sc csc : Scope}
theorem g9 {x : Str} {px : Pos} {i : Nat} {t elt iter : Expr} {tg : Tg} {ifs : List Expr} {cpos pos : Pos} {xi xt xe : X} {own : Bool} (hst : storable sc x = true) (hix : ix (zd sc) x = some i) (hk : xd sc csc = true) (hk2 : wQ iter = true) (ht : TgOk csc (zg csc) t tg) (hi : RI J sc t iter xi) (htest : RTs J csc ifs xt) (helt : RE J csc elt xe) :
  RS J sc (exec (.Assign [.Name x px] (.ListComp elt [⟨t, iter, ifs, 0⟩] csc cpos) pos)) (.set (.one i) (.lc own (we sc csc) tg xi xt xe)) := by
 refine ⟨@fun ρ st Q A s W env H F q => ?_⟩
 obtain ⟨b, hb⟩ : ∃ b, swapsWith (.ListComp elt [⟨t, iter, ifs, 0⟩] csc cpos) (some (.Name x px)) pos.line env = pure b := ⟨_, rfl⟩
 cases b with
 | false =>
  refine yE hb rfl rfl (zB ((jT hk hk2 ht hi htest helt).go H q) ?_)
  rintro v s₁ ⟨d, st₁, W₁, q, y₁, r₁⟩
  refine PyProof.Rows.assign_Name (zB (yy (K := fun ρ => Q (.fall ρ) st₁) (H.he.step y₁) (F.step y₁) y₁.ok (H.he.storable hst) hix r₁ q) ?_)
  rintro _ s₂ ⟨ρ₂, q, y₂, e₂, f₂⟩
  exact .fall ρ₂ st₁ s₂ W₁ q (y₁.toF.trans y₂) e₂ f₂
 | true =>
  rw [exec_Assign_Name_used _ _ _ _ hb]
  refine wpAny_bind (wpAny_standAt (wpAny_bind ?_))
  show wpAny _ A (do let _ ← comprehension (.ListComp elt [⟨t, iter, ifs, 0⟩] csc cpos) csc env _ (newList []) false (eval iter env) (some (assign (.Name x px) env))) _ _ s
  refine wpAny_bind (zB (th (use := some (assign (.Name x px) env)) (own := own) (Q := fun U s' => PostS J.S env sc W s Q .next s') hk hk2 ht hi htest helt H q fun Da C s' W' d st' q y r hc hcn hm => ?_) fun U s' q => wpAny_pure (wpAny_pure q))
  show wpAny _ A (assign (.Name x px) env (.ref Da)) _ _ _
  refine PyProof.Rows.assign_Name (zB (yy (K := fun ρ => Q (.fall ρ) st') (H.he.step y) (F.step y) y.ok (H.he.storable hst) hix r q) ?_)
  rintro _ s'' ⟨ρ₂, q, y₂, e₂, f₂⟩
  obtain ⟨m, hm⟩ := hm
  have nC : ¬ Own env C := fun q => by
   rcases q with q | ⟨z, hz1, hz2⟩
   ·obtain ⟨_, o, _, _, h1, _⟩ := H.he.ns; rw [← q, hc] at h1; cases h1
   ·obtain ⟨c, h1, _, ⟨_, o, h3, _⟩, _⟩ := F.cell z hz1
    rw [h1] at hz2; cases hz2; rw [hc] at h3; cases h3
  have hm' : s''.heap.Ns C m := by obtain ⟨o, es, ep, h1, r⟩ := hm; exact ⟨o, es, ep, y₂.keep _ _ h1 (.of_none hcn) nC, r⟩
  refine ⟨m, hm', fun h' hs => ?_⟩
  have neL : C ≠ env.locals := fun q => nC (.inl q)
  have kk : ∀ a o, s''.heap.get? a = some o → a ≠ C → h'.get? a = some o := fun a o e q => (hs.2 a q).trans e
  have O' : Ok J.S W' st' h' := y₂.ok.of_keep fun a o e q => kk a o e fun z => q (by rw [z]; exact hcn)
  have yf := y.toF.trans y₂
  obtain ⟨h₂, tk₂, rfl⟩ := yf.eq
  refine .fall ρ₂ st' _ W' q ⟨⟨h', tk₂, rfl⟩, O', yf.le, yf.non, fun a o e n no => kk a o (yf.keep a o e n no) fun z => by rw [z, hc] at e; cases e⟩ ?_ ⟨f₂.own, fun z hz => ?_⟩
  ·refine { e₂ with ns := ?_, vars := fun z dz hz => ?_ }
   ·obtain ⟨m2, o, es, ep, h1, r⟩ := e₂.ns
    exact ⟨m2, o, es, ep, kk _ _ h1 neL.symm, r⟩
   ·obtain ⟨v, rv, pv⟩ := e₂.vars z dz hz
    refine ⟨v, ?_, pv⟩
    rcases rv with ⟨k, m2, ⟨o, es, ep, h1, r⟩, hv⟩ | ⟨k, c, h1, ⟨o, h2, h3⟩, h4⟩
    ·exact .inl ⟨k, m2, ⟨o, es, ep, kk _ _ h1 neL.symm, r⟩, hv⟩
    ·refine .inr ⟨k, c, h1, ⟨o, kk _ _ h2 (fun q => ?_), h3⟩, h4⟩
     obtain ⟨o', es, ep, g1, g2, _⟩ := hm'
     rw [q, g1] at h2; cases h2; rw [g2] at h3; cases h3
  ·obtain ⟨c, h1, h2, ⟨v, o, h3, h4⟩, h5, h6⟩ := f₂.cell z hz
   exact ⟨c, h1, h2, ⟨v, o, kk _ _ h3 (fun q => nC (.inr ⟨z, hz, by rw [← q]; exact h1⟩)), h4⟩, h5, h6⟩
end
theorem FrR.hop {S : Sta} {W W' : Wd} {env : Env} {sc : Scope} {h h' : Heap} (hf : FrR S W env sc h) (hk : ∀ a o, h.get? a = some o → wq o → h'.get? a = some o) (hn : ∀ a o, h.get? a = some o → W.Ψ a = none → W'.Ψ a = none) : FrR S W' env sc h' :=
 ⟨hf.own, fun x hx => by
  refine hid fun hG => ?_
  obtain ⟨c, h1, h2, ⟨v, o, h3, h4⟩, h5, h6⟩ := hf.cell x hx
  refine hG ?_
  exact ⟨c, h1, hn c o h3 h2, ⟨v, o, hk c o h3 (.inr ⟨v, h4⟩), h4⟩, h5, h6⟩⟩
theorem StpF.iter {S : Sta} {env : Env} {W W₁ W₂ : Wd} {s s₁ : Shared} {st₁ : St} (y : StpF S env W s st₁ s₁ W₁) {F : List Addr} (hF : ∀ b ∈ F, s.heap.get? b = none) {h₂ : Heap} {tk : Nat} (k : ∀ b o, b ∉ F → s₁.heap.get? b = some o → h₂.get? b = some o) (le : W₁.Le W₂) (O : Ok S W₂ st₁ h₂)
  (hn : ∀ b o, s₁.heap.get? b = some o → W₁.Ψ b = none → W₂.Ψ b = none) : StpF S env W s st₁ { s₁ with heap := h₂, toks := tk } W₂ := by
 obtain ⟨h', tk', rfl⟩ := y.eq
 exact ⟨⟨_, _, rfl⟩, O, y.le.trans le, fun a o e n no => hn a o (y.keep a o e (.of_none n) no) (y.non a o e n no), fun a o e n no => k a o (fun q => by rw [hF a q] at e; cases e) (y.keep a o e n no)⟩
theorem kN {S : Sta} {W : Wd} {env : Env} {sc : Scope} {ρ : Rg} {h : Heap} (he : EnvR S W env sc ρ h) (hf : FrR S W env sc h) {a : Addr} (ha : Own env a) : ∃ o, h.get? a = some o ∧ wq o := by
 rcases ha with rfl | ⟨x, h1, h2⟩
 ·obtain ⟨m, o, es, ep, e, hd, _⟩ := he.ns; exact ⟨o, e, .inl ⟨_, _, hd⟩⟩
 ·obtain ⟨c, h3, _, ⟨v, o, h4, h5⟩, _⟩ := hf.cell x h1
  rw [h2] at h3; cases h3; exact ⟨o, h4, .inr ⟨_, h5⟩⟩
theorem ou {S : Sta} {env : Env} {sc : Scope} {A : Around} {t : Expr} {tg : Tg} {W : Wd} {ρ : Rg} {st : St} {s : Shared} {d : D} {v : Value} {K : Rg → Prop} (hh : A.handled = none) (ht : TgOk sc (storable sc) t tg) (q : yV tg d ρ K) (he : EnvR S W env sc ρ s.heap) (F : FrR S W env sc s.heap) (O : Ok S W st s.heap) (r : Rep S W d v) :
  Wq S A (assign t env v) (fun U s' => Stored S env sc W s st K s') s := by
 cases ht with
 | one x p i hx hi => exact PyProof.Rows.assign_Name (yy he F O (he.storable hx) hi r q)
 | many ps is k p e nd =>
  cases d with
  | tup l =>
   refine hid fun hG => ?_
   obtain ⟨a, vs, n, f, hr, _⟩ := r
   obtain ⟨g1, g2, g4⟩ := xJ (env := env) (ps := ps)
   refine hG ?_
   refine wpAny_assign_Tuple hh (zW (O.frz _ _ _ f)) (by rw [g1, e.len, yc q, hr.length]; rfl) g2 fun h' hx => ?_
   rw [g4]
   have y : Stp S W s st { s with heap := h' } W := .quiet (tk := s.toks) O fun b o e => hx b o (Nat.ne_of_lt (Heap.lt_size e)) e
   refine zB (vY (s := { s with heap := h' }) (fun x hx => he.storable hx) (fun p v => assign (.Name p.1 p.2) env v) (fun p v Q s hq => PyProof.Rows.assign_Name hq) e (he.step y) (F.step y) y.ok hr q) ?_
   intro _ s₂ hz2
   refine hid fun hG => ?_
   obtain ⟨ρ₂, q, y₂, e₂, f₂⟩ := hz2
   refine hG ?_
   exact ⟨ρ₂, q, y.toF.trans y₂, e₂, f₂⟩
  | _ => exact q.elim
section
variable {J : Jd} {sc : Scope}
theorem iO {t iter : Expr} {tg : Tg} {body : List Stmt} {xi xb : X} {pos : Pos} (hk : wQ iter = true) (ht : TgOk sc (storable sc) t tg) (hi : RI J sc t iter xi) (hb : RS J sc (execs body) xb) : RS J sc (exec (.For t iter body [] pos)) (.for tg xi xb) := by
 refine ⟨@fun ρ st Q A s W env H F q => wpAny_For (zB (hi.go H q) ?_) (vl hk env)⟩
 rintro x s₁ h₁
 refine zB h₁ ?_
 intro it s₂ hz2
 refine hid fun hG => ?_
 obtain ⟨ds, st₁, W₂, q, y₂, _, Fa, I, K, i₂, hF⟩ := hz2
 refine hG ?_
 refine codeAny_forLoop_any (fun n s₃ => E4 fun ds ρ₃ st₃ W₃ => A6 (oU tg (run J.call xb).s ds ρ₃ st₃ Q) (StpF J.S env W s st₃ s₃ W₃) (EnvR J.S W₃ env sc ρ₃ s₃.heap) (FrR J.S W₃ env sc s₃.heap) (I W₃ s₃.heap ds) (n = ds.length)) ?_ ds.length
  ⟨ds, ρ, st₁, W₂, q, y₂.toF, H.he.step y₂, F.step y₂, i₂, rfl⟩
 intro n s₃ hz2
 refine hid fun hG => ?_
 obtain ⟨ds, ρ₃, st₃, W₃, q, y₃, e₃, f₃, i₃, rfl⟩ := hz2
 refine hG ?_
 have notF : ∀ a o, s₃.heap.get? a = some o → wq o → a ∉ Fa := fun a o e hn hb => by
  refine hid fun hG => ?_
  obtain ⟨_, o', fs, h1, h2⟩ := K.fld i₃ a hb
  refine hG ?_
  rw [e] at h1; cases h1
  rcases hn with ⟨_, _, z⟩ | ⟨_, z⟩ <;> (rw [h2] at z; cases z)
 refine wpAny_mono (K.next H.hr.hd y₃.ok i₃ (E := noE)) ?_ fun U U z => z.elim
 rintro (_ | v) s₄ hnext
 ·refine hid fun hG => ?_
  obtain ⟨rfl, h', tk, rfl, k⟩ := hnext
  refine hG ?_
  refine wpAny_execs_nil ?_
  have O' := y₃.ok.of_keep (h' := h') fun a o e h => k a o (fun q => h (K.fld i₃ a q).1) e
  exact .fall ρ₃ st₃ _ W₃ q (y₃.iter hF k (.refl _) O' (fun U U U n => n)) (e₃.hop (.refl _) (fun a o e n => k a o (notF a o e n) e) (fun U U U n => n) (fun U n U => n)) (f₃.hop (fun a o e n => k a o (notF a o e n) e) (fun U U U n => n))
 ·refine wpAny_mono hnext ?_ fun U U z => z.elim
  intro _ s₅ hz2
  refine hid fun hG => ?_
  obtain ⟨d, ds', h₅, tk, W₅, rfl, rfl, k₅, le₅, O₅, n₅, ns₅, rd, i₅⟩ := hz2
  refine hG ?_
  have q : yV tg d ρ₃ fun ρ => (run J.call xb).s ρ st₃ fun o st => match o with
   | .fall ρ => oU tg (run J.call xb).s ds' ρ st Q
   | .ret r => Q (.ret r) st := q
  have y₅ := y₃.iter hF (tk := tk) k₅ le₅ O₅ n₅
  have e₅ : EnvR J.S W₅ env sc ρ₃ h₅ := e₃.hop le₅ (fun a o e n => k₅ a o (notF a o e n) e) n₅ ns₅
  have f₅ : FrR J.S W₅ env sc h₅ := f₃.hop (fun a o e n => k₅ a o (notF a o e n) e) n₅
  refine wpAny_mono (ou (s := { s₃ with heap := h₅, toks := tk }) H.hr.hd ht q e₅ f₅ O₅ rd) ?_ fun U U z => z.elim
  intro _ s₆ hz2
  refine hid fun hG => ?_
  obtain ⟨ρ₆, q, y₆, e₆, f₆⟩ := hz2
  refine hG ?_
  refine wpAny_mono (hb.go ⟨H.hr, e₆, y₆.ok⟩ f₆ q) ?_ fun U U z => z.elim
  rintro fl s₇ h₇
  cases h₇ with
  | fall ρ₇ st₇ _ W₇ q y₇ e₇ f₇ =>
   have y67 := y₆.trans y₇
   refine ⟨ds'.length, Nat.lt_succ_self _, ds', ρ₇, st₇, W₇, q, y₅.trans y67, e₇, f₇, ?_, rfl⟩
   have nOwn : ∀ b ∈ Fa, ¬ Own env b := fun b hb q => by
    refine hid fun hG => ?_
    obtain ⟨o, h1, h2⟩ := kN e₅ f₅ q
    obtain ⟨_, o', fs, h3, h4⟩ := K.fld i₅ b hb
    refine hG ?_
    rw [h1] at h3; cases h3
    rcases h2 with ⟨_, _, z⟩ | ⟨_, z⟩ <;> (rw [h4] at z; cases z)
   exact K.stay i₅ y67.le (fun b hb => by obtain ⟨h1, o, fs, h2, _⟩ := K.fld i₅ b hb; exact y67.non b o h2 h1 (nOwn b hb)) (fun b hb o e => y67.keep b o e (.of_none (K.fld i₅ b hb).1) (nOwn b hb)) (fun b o t e => y67.ok.frz b o t e)
  | ret r v st₇ _ W₇ q y₇ rv => exact .ret r v st₇ s₇ W₇ q (y₅.trans (y₆.trans y₇)) rv
theorem mR {t : Expr} {body : List Stmt} {x y : X} {pos : Pos} (ht : RT J sc t x) (hb : RS J sc (execs body) y) : RS J sc (exec (.While t body [] pos)) (.whl x y) := by
 refine ⟨@fun ρ st Q A s W env H F q => wpAny_While ?_⟩
 obtain ⟨n, q⟩ := q
 refine codeAny_whileLoop (fun m s₃ => E3 fun ρ₃ st₃ W₃ => A4 (ji (run J.call x).t (run J.call y).s m ρ₃ st₃ Q) (StpF J.S env W s st₃ s₃ W₃) (EnvR J.S W₃ env sc ρ₃ s₃.heap) (FrR J.S W₃ env sc s₃.heap)) ?_ n ⟨ρ, st, W, q, (Stp.refl H.O).toF, H.he, F⟩
 rintro m s₃ ⟨ρ₃, st₃, W₃, q, y₃, e₃, f₃⟩
 cases m with
 | zero => exact q.elim
 | succ m =>
  refine wpAny_mono (ht.go ⟨H.hr, e₃, y₃.ok⟩ q) ?_ fun U U z => z.elim
  rintro v s₄ ⟨st₄, W₄, q, y₄⟩
  cases v with
  | true =>
   refine wpAny_mono (hb.go ⟨H.hr, e₃.step y₄, y₄.ok⟩ (f₃.step y₄) q) ?_ fun U U z => z.elim
   rintro fl s₅ h₅
   cases h₅ with
   | fall ρ₅ st₅ _ W₅ q y₅ e₅ f₅ => exact ⟨m, Nat.lt_succ_self _, ρ₅, st₅, W₅, q, (y₃.trans y₄.toF).trans y₅, e₅, f₅⟩
   | ret r v st₅ _ W₅ q y₅ rv => exact .ret r v st₅ s₅ W₅ q ((y₃.trans y₄.toF).trans y₅) rv
  | false => exact wpAny_execs_nil (.fall ρ₃ st₄ s₄ W₄ q (y₃.trans y₄.toF) (e₃.step y₄) (f₃.step y₄))
end
structure LamOk (S : Sta) : Prop where
 lam : ∀ a fd, IsFun S a fd → fd.scope.names.map (·.1) = S.g.lamNames → ∃ c, fd.code = .ref c ∧ CodeHd S.b₀ c S.tabP ∧ fd.qualname ++ ".<locals>." ++ "<lambda>" = S.lamQual
 bmain : ∃ bm ob, S.mg "__builtins__" = some (.ref bm) ∧ bm ≠ builtinsNs ∧ bm ≠ mainGlobals ∧ S.b₀.get? bm = some ob ∧ ob.cls = .type "module" ∧ ob.dict = some builtinsNs ∧ ob.data = .plain
theorem mS {ps : Arguments} (h : tV ps = true) (env : Env) : defaultsOf ps env = ([], []) := by
 unfold tV at h
 simp only [Bool.and_eq_true, List.isEmpty_iff] at h
 rw [defaultsOf_eq, h.1.1.1.1.1, h.1.1.1.1.2]
 rfl
theorem StpF.tellOwn {S : Sta} {W W' : Wd} {s s' : Shared} {st' : St} {env : Env} (y : StpF S env W s st' s' W') {a : Addr} {o : Obj} (ha : Own env a ∨ s.heap.get? a = none) (ho : s'.heap.get? a = some o) (hn : W'.Ψ a = none) : StpF S env W s st' s' (W'.put a (.frz o 0)) :=
 ⟨y.eq, y.ok.put ho hn, y.le.trans (Wd.put_le fun o t q => by rw [hn] at q; cases q), fun b ob e n no => by
  rw [W'.put_ne _ (fun q => by
   rcases ha with ha | ha
   ·exact no (q ▸ ha)
   ·rw [q, ha] at e; cases e)]
  exact y.non b ob e n no, y.keep⟩
theorem ox {α : Type} {l : List α} (h : l.Nodup) : l.reverse.Nodup := by
 unfold List.Nodup
 rw [List.pairwise_reverse]
 exact h.imp fun h => h.symm
set_option tactic.hygienic true in
theorem pB {pos : Pos} {a b : Int} {c : Value} (l : List Value) (h : TriplesOk l) : ∀ cv, codeAmong pos (l ++ [rawInt a, rawInt b, c]) = some cv → codeAmong pos l = some cv ∨ cv = c := by
 fun_induction TriplesOk l with
 | case1 =>
  intro cv e
  simp only [List.nil_append, rawInt, codeAmong] at e
  split at e
  ·cases e; exact .inr rfl
  ·cases e
 | case2 l1 t1 l2 t2 c' rest ih =>
  intro cv e
  simp only [List.cons_append, codeAmong] at e ⊢
  split at e
  ·rename_i hc; rw [if_pos hc]; exact .inl e
  ·rename_i hc; rw [if_neg hc]; exact ih h cv e
 | case3 => exact h.elim
inductive Lks (sc : Scope) (ρ : Rg) : List Str → List D → Prop
 | nil : Lks sc ρ [] []
 | cons {x : Str} {d : D} {xs : List Str} {l : List D} : yb sc ρ x = some d → Lks sc ρ xs l → Lks sc ρ (x :: xs) (d :: l)
theorem u9 {sc : Scope} {ρ : Rg} : ∀ {xs : List Str} {is : List Nat} {K : List D → Prop}, xs.mapM (ix (zd sc)) = some is → qk is ρ K → ∃ l, Lks sc ρ xs l ∧ K l
 | [], is, K, h, q => by cases h; exact ⟨[], .nil, q⟩
 | x :: xs, is, K, h, q => by
  rw [List.mapM_cons] at h
  refine hid fun hG => ?_
  obtain ⟨i, hi, h⟩ := z7 h
  obtain ⟨is', his, h⟩ := z7 h
  cases h
  obtain ⟨d, e, q⟩ := uC q
  obtain ⟨l, hl, q⟩ := u9 his q
  refine hG ?_
  exact ⟨d :: l, .cons (by unfold yb; rw [hi]; exact e) hl, q⟩
theorem ua {S : Sta} {W : Wd} {s s' : Shared} {st' : St} {env : Env} {sc : Scope} {ρ : Rg} {cl : List (Str × Addr)} : ∀ {fr : List Str} {l : List D} {W' : Wd}, fr.Nodup → Lks sc ρ fr l → StpF S env W s st' s' W' →
  (∀ x ∈ fr, ∀ d, yb sc ρ x = some d → ∃ c v o, cl.lookup x = some c ∧ Own env c ∧ W'.Ψ c = none ∧ s'.heap.get? c = some o ∧ o.data = .cell (some v) ∧ Rep S W' d v) → (∀ x ∈ fr, ∀ y ∈ fr, ∀ c, cl.lookup x = some c → cl.lookup y = some c → x = y) →
  ∃ W'' vs, StpF S env W s st' s' W'' ∧ W'.Le W'' ∧ Caps W''.Ψ cl fr vs ∧ RepL S W'' l vs ∧ ∀ b, (∀ x ∈ fr, cl.lookup x ≠ some b) → W''.Ψ b = W'.Ψ b
 | [], l, W', _, h, y, _, _ => by
  cases h
  exact ⟨W', [], y, .refl _, .nil, rfl, fun U U => rfl⟩
 | x :: fr, l, W', nd, h, y, hc, hu => by
  obtain ⟨nx, nd⟩ := List.nodup_cons.mp nd
  obtain _ | ⟨hd, hl⟩ := h
  refine hid fun hG => ?_
  obtain ⟨c, v, o, h1, h2, h3, h4, h5, h6⟩ := hc x (.head _) _ hd
  have y₁ := y.tellOwn (.inl h2) h4 h3
  have le : W'.Le (W'.put c (.frz o 0)) := Wd.put_le fun o t q => by rw [h3] at q; cases q
  obtain ⟨W'', vs, g1, g2, g3, g4, g5⟩ := ua nd hl y₁ (fun z hz dz hdz => by
   obtain ⟨c', v', o', k1, k2, k3, k4, k5, k6⟩ := hc z (.tail _ hz) dz hdz
   have ne : c' ≠ c := fun q => by
    have := hu x (.head _) z (.tail _ hz) c h1 (q ▸ k1)
    exact nx (this ▸ hz)
   exact ⟨c', v', o', k1, k2, by rw [Wd.put_ne _ _ ne]; exact k3, k4, k5, k6.mono le⟩) (fun a ha b hb => hu a (.tail _ ha) b (.tail _ hb))
  refine hG ?_
  refine ⟨W'', v :: vs, g1, le.trans g2, .cons h1 (g2.frz _ _ _ (Wd.put_self _ _ _)) h5 g3, .cons ((h6.mono le).mono g2) g4, fun b hb => ?_⟩
  rw [g5 b fun z hz => hb z (.tail _ hz), Wd.put_ne _ _ fun q => hb x (.head _) (by rw [q]; exact h1)]
section
variable {J : Jd} {sc : Scope}
theorem kO (L : LamOk J.S) {ps : Arguments} {body : Expr} {lsc : Scope} {lpos rpos : Pos} {is : List Nat} (hLam : J.S.g.lamIs ps body lsc = true) (hk1 : xd sc lsc = true) (hk2 : sc.names.map (·.1) = J.S.g.lamNames) (hk3 : lsc.names.all (fun p => p.2 != .free || zO sc p.1 == some .cell) = true) (hk5 : tV ps = true) (hfr : ((lsc.names.filter fun x => x.2 == .free).map (·.1)).reverse = J.S.g.lamKs) (his : (J.S.g.lamKs).mapM (ix (zd sc)) = some is) :
  RS J sc (exec (.Return (some (.Lambda ps body lsc lpos)) rpos)) (.rlam is) := by
 refine ⟨@fun ρ st Q A s W env H hf q => ?_⟩
 have he := H.he
 have O := H.O
 refine hid fun hG => ?_
 obtain ⟨hm, q⟩ := q
 obtain ⟨l, hl, q⟩ := u9 his q
 obtain ⟨eps, ebody, elsc⟩ := J.S.lamOk _ _ _ hLam
 refine hG ?_
 have ok := tc hk1
 have hk4 := ok.fn.nd
 generalize hfr' : J.S.g.lamKs = fr at hfr hl
 have hfrm : ∀ x ∈ fr, (x, NameKind.free) ∈ lsc.names := fun x hx => by
  rw [← hfr, List.mem_reverse] at hx
  refine hid fun hG => ?_
  obtain ⟨⟨y, k⟩, hy, rfl⟩ := List.mem_map.mp hx
  obtain ⟨h1, h2⟩ := List.mem_filter.mp hy
  refine hG ?_
  have : k = .free := beq_iff_eq.mp h2
  rw [← this]; exact h1
 have hnd : fr.Nodup := by
  rw [← hfr]
  exact ox (hk4.sublist ((List.filter_sublist).map _))
 refine hid fun hG => ?_
 obtain ⟨clos, hclos, hc1, hc2⟩ := xK (env := env) (names := lsc.names) (acc := []) (fun x k hm e => he.clo x (ok.free x k hm e)) (fun x c h => nn h)
 have hclos' : closureFor lsc env = pure clos := by unfold closureFor; exact (bind_pure _).trans hclos
 obtain ⟨fa, fd, o1, o3, o4, o5⟩ := hf.own
 obtain ⟨c, hcode, hC, hq⟩ := L.lam fa fd o1 (by rw [o3]; exact hk2)
 obtain ⟨bm, ob, b1, b2, b3, b4, b5, b6, b7⟩ := L.bmain
 obtain ⟨a0, μ0, ps', ψ0, ea, hP, htr, hall⟩ := O.sto 0 .tab hm
 refine hG ?_
 subst ea
 have hCs : CodeHd s.heap c J.S.tabP := hC.keeps O.keep
 have hg := O.topr.g
 have hgP : mainGlobals ≠ J.S.tabP := fun q => by
  refine hid fun hG => ?_
  obtain ⟨o, es, ep, e, hd, _⟩ := hg
  refine hG ?_
  rw [q, hP] at e; cases e; cases hd
 have hbP : bm ≠ J.S.tabP := fun q => by
  have e := O.keep _ _ b4
  rw [q, hP] at e; cases e; cases b7
 have hB : s.heap.BuiltinsAt J.S.mg J.S.tabP := ⟨bm, ob, b1, b2, b3, hbP, O.keep _ _ b4, b5, b6, b7⟩
 have hqual : env.qual ++ "<lambda>" = J.S.lamQual := by rw [o5]; exact hq
 have fin : ∀ {s₁ : Shared} {W₁ : Wd} (cd : Addr) (oc : Obj) (fs : Array Value) (t : Tok) (ctv : Value), Stp J.S W s st s₁ W₁ → W₁.Ψ cd = some (.frz oc 0) → oc.data = .fields fs → fs[1]? = some (.str J.S.lamQual t) →
   ∃ W', StpF J.S env W s st { s₁ with heap := s₁.heap.push (kla_obj "<lambda>" (env.qual ++ "<lambda>") ps body lsc clos ((J.S.mg "__name__").getD .none) cd ctv) } W' ∧ Rep J.S W' (.clo l) (.ref s₁.heap.objs.size) := by
  intro s₁ W₁ cd oc fs t ctv y₁ hcd hod hfs
  have e₁ := he.step y₁
  have f₁ := hf.step y₁
  refine hid fun hG => ?_
  obtain ⟨W₂, vs, y₂, le₂, caps, rl, same⟩ := ua (cl := clos) hnd hl y₁.toF (fun x hx d hd => by
   have hxm := hfrm x hx
   have hkx : zO sc x = some .cell := by
    have := List.all_eq_true.mp hk3 _ hxm
    simpa using this
   have hko := he.kc x hkx
   obtain ⟨cx, hcx⟩ := Option.isSome_iff_exists.mp (hc2 x (.inl hxm))
   have hce := hc1 x cx hcx
   obtain ⟨v, rv, pv⟩ := e₁.vars x d hd
   obtain ⟨c', g1, g2, _, _, _⟩ := f₁.cell x hko
   rw [hce] at g1; cases g1
   rcases rv with ⟨k1, _⟩ | ⟨_, c'', z1, ⟨o, z2, z3⟩, _⟩
   ·rw [hko] at k1; cases k1
   ·rw [hce] at z1; cases z1
    exact ⟨cx, v, o, hcx, .inr ⟨x, hko, hce⟩, g2, z2, z3, pv⟩) (fun x hx y hy c h1 h2 => by
   have hkx : ∀ z ∈ fr, zO sc z = some .cell := fun z hz => by
    have := List.all_eq_true.mp hk3 _ (hfrm z hz)
    simpa using this
   obtain ⟨c', g1, _, _, _, g6⟩ := hf.cell x (he.kc x (hkx x hx))
   rw [hc1 x c h1] at g1; cases g1
   exact (g6 y (hc1 y _ h2)).symm)
  refine hG ?_
  have fr1 : s₁.heap.get? s₁.heap.objs.size = none := zX (Nat.le_refl _)
  have frs : s.heap.get? s₁.heap.objs.size = none := by
   cases q : s.heap.get? s₁.heap.objs.size with
   | none => rfl
   | some o => obtain ⟨o', e⟩ := y₁.alive O q; rw [fr1] at e; cases e
  let fo := kla_obj "<lambda>" (env.qual ++ "<lambda>") ps body lsc clos ((J.S.mg "__name__").getD .none) cd ctv
  have n₂ : W₂.Ψ s₁.heap.objs.size = none := y₂.ok.fresh fr1
  have y₃ : StpF J.S env W s st { s₁ with heap := s₁.heap.push fo } W₂ := by
   obtain ⟨h', tk', e'⟩ := y₂.eq
   subst e'
   exact ⟨⟨_, _, rfl⟩, y₂.ok.of_keep fun a o e U => Heap.get?_push_of_some _ e, y₂.le, y₂.non, fun a o e n no => Heap.get?_push_of_some _ (y₂.keep a o e n no)⟩
  have ho : (s₁.heap.push fo).get? s₁.heap.objs.size = some fo := Heap.get?_push_size _ rfl
  have y₄ := y₃.tellOwn (.inr frs) ho n₂
  have le₃ : W₂.Le (W₂.put s₁.heap.objs.size (.frz fo 0)) := Wd.put_le fun o t q => by rw [n₂] at q; cases q
  refine ⟨_, y₄, ?_⟩
  exact .mk _ fo _ cd oc vs (Wd.put_self ..) rfl rfl ⟨congrArg FuncBody.expr ebody, elsc, eps, rfl, rfl, rfl⟩ rfl (le₃.frz _ _ _ (le₂.frz _ _ _ hcd)) ⟨fs, t, hod, by rw [hfs]; exact congrArg (fun q => some (Value.str q t)) hqual.symm⟩ (by rw [hfr']; exact caps.mono le₃.frz) (rl.mono le₃)
 refine wpAny_Return_some (kla_eval (mS hk5 env) ?_)
 cases hca : codeAmong lpos ps'.toList with
 | none =>
  refine kla_makeFunction (mg := J.S.mg) hclos' he.glob hg (o4.trans hcode) hCs hP htr hca hgP hB fun c' ctv h' tk hx hge hlt hrec htb => ?_
  refine hid fun hG => ?_
  obtain ⟨cd, oc, fs, t, e2, hoc, hod, hfs⟩ := hrec
  cases e2
  have nc : s.heap.get? c' = none := zX hge
  have nn : W.Ψ c' = none := O.fresh nc
  have le : W.Le (W.put c' (.frz oc 0)) := Wd.put_le fun o t q => by rw [nn] at q; cases q
  have nP : ∀ b, W.Ψ b ≠ some (.sig 0) → b ≠ J.S.tabP := fun b h q => h (by rw [q]; exact ψ0)
  have y₀ : Stp J.S W s st { s with heap := h', toks := tk } (W.put c' (.frz oc 0)) :=
   {eq := ⟨_, _, rfl⟩
    le := le
    non := fun b o e n => by rw [W.put_ne _ (fun q => by rw [q, nc] at e; cases e)]; exact n
    keep := fun b o e n => hx b o (nP b fun q => n 0 q) e
    ok :=
     {frz := fun b ob t e => by
       by_cases q : b = c'
       ·subst q; rw [W.put_self] at e; cases e; exact hoc
       ·rw [W.put_ne _ q] at e; exact hx b ob (nP b fun z => by rw [z] at e; cases e) (O.frz b ob t e)
      low := fun b g e => by
       by_cases q : b = c'
       ·subst q; exact ⟨_, hoc⟩
       ·rw [W.put_ne _ q] at e
        obtain ⟨o, ho⟩ := O.low b g e
        by_cases z : b = J.S.tabP
        ·subst z; exact ⟨_, htb⟩
        ·exact ⟨o, hx b o z ho⟩
      base := fun b ob e => by
       have := O.base b ob e
       rw [W.put_ne _ (fun q => by rw [q, nn] at this; cases this)]; exact this
      len := O.len
      sto := fun i m e => by
       obtain ⟨a, e1, e2⟩ := O.sto i m e
       refine ⟨a, e1, ?_⟩
       have ysig : ∀ b, W.Ψ b = some (.sig i) → (W.put c' (.frz oc 0)).Ψ b = some (.sig i) := fun b hb => by
        rw [W.put_ne _ (fun q => by rw [q, nn] at hb; cases hb)]; exact hb
       by_cases hi : i = 0
       ·subst hi
        rw [hm] at e; cases e
        rw [μ0] at e1; cases e1
        refine .mk _ (ysig _ ψ0) rfl htb ?_ fun pos cv e => ?_
        ·rw [Array.toList_append]; exact TriplesOk_snoc _ _ _ _ htr
        ·rw [Array.toList_append] at e
         rcases pB _ htr cv e with h | rfl
         ·obtain ⟨c₁, o₁, fs₁, t₁, z1, z2, z3⟩ := hall pos cv h
          exact ⟨c₁, o₁, fs₁, t₁, z1, le.frz _ _ _ z2, z3⟩
         ·exact ⟨c', oc, fs, t, rfl, Wd.put_self .., hod, by rw [hfs, hqual]⟩
       ·exact e2.move le ysig fun b o hb ho => hx b o (nP b fun z => by rw [hb] at z; cases z; exact hi rfl) ho
      tag := fun b ob t e => by
       by_cases q : b = c'
       ·subst q; rw [W.put_self] at e; cases e
       ·rw [W.put_ne _ q] at e; exact O.tag b ob t e
      tags := O.tags } }
  obtain ⟨W', y', r'⟩ := fin c' oc fs t ctv y₀ (Wd.put_self ..) hod (by rw [hfs, hqual])
  refine hG ?_
  exact .ret _ _ st _ W' q y' r'
 | some cv =>
  refine hid fun hG => ?_
  obtain ⟨c', oc, fs, t, rfl, hψ, hod, hfs⟩ := hall lpos cv hca
  refine hG ?_
  refine kla_makeFunctionHit (mg := J.S.mg) hclos' he.glob hg (o4.trans hcode) hCs hP htr hca hB fun ctv h' tk hk hsz => ?_
  obtain ⟨W', y', r'⟩ := fin (s₁ := { s with heap := h', toks := tk }) c' oc fs t ctv (.quiet O hk) hψ hod hfs
  exact .ret _ _ st _ W' q y' r'
end
section
variable {S : Sta} {n : Nat}
inductive CapAt (S : Sta) (W : Wd) (cl : List (Str × Addr)) (x : Str) (d : D) : Prop
 | mk (c : Addr) (o : Obj) (v : Value) (h : cl.lookup x = some c) (f : W.Ψ c = some (.frz o 0)) (e : o.data = .cell (some v)) (r : Rep S W d v)
theorem kP {cl : List (Str × Addr)} {W : Wd} {x : Str} {d : D} {ks : List Str} {vs : List Value} (y : Caps W.Ψ cl ks vs) : ∀ {l : List D}, RepL S W l vs → (ks.zip l).lookup x = some d → CapAt S W cl x d := by
 induction y with
 | nil => exact fun U h => nn h
 | @cons y _ _ _ _ _ h1 h2 h3 _ ih =>
  intro l r h
  cases l with
  | nil => exact nn h
  | cons e l =>
   refine hid fun hG => ?_
   obtain ⟨v, r, ra, rb⟩ := r
   refine hG ?_
   rw [List.zip_cons_cons, List.lookup_cons] at h
   cases q : x == y with
   | true => rw [q] at h; cases h; rw [beq_iff_eq.mp q]; exact ⟨_, _, _, h1, h2, h3, ra⟩
   | false => rw [q] at h; exact ih rb h
theorem mT {Ψ : Addr → Option G} {cl : List (Str × Addr)} {x : Str} {ks : List Str} {vs : List Value} (y : Caps Ψ cl ks vs) : x ∈ ks → ∃ c, cl.lookup x = some c := by
 induction y with
 | nil => exact fun h => nm h
 | cons h1 _ _ _ ih =>
  intro h
  rcases List.mem_cons.mp h with rfl | h
  ·exact ⟨_, h1⟩
  ·exact ih h
theorem pC {ks : List Str} {vs : List Value} {x : Str} {v : Value} (nd : ks.Nodup) (h : (ks.zip vs).lookup x = some v) : (ks.zip vs).reverse.lookup x = some v := by
 induction ks generalizing vs with
 | nil => simp at h
 | cons k ks ih =>
  cases vs with
  | nil => simp at h
  | cons u vs =>
   obtain ⟨nk, nd⟩ := List.nodup_cons.mp nd
   have app : ∀ (l m : List (Str × Value)), (l ++ m).lookup x = (l.lookup x).or (m.lookup x) := by
    intro l m
    induction l with
    | nil => simp
    | cons e l ih => rw [List.cons_append, List.lookup_cons, List.lookup_cons]; split <;> simp_all
   simp only [List.zip_cons_cons, List.lookup_cons] at h
   rw [List.zip_cons_cons, List.reverse_cons, app]
   by_cases q : x = k
   ·subst q
    simp at h; subst h
    have : (ks.zip vs).reverse.lookup x = none := by
     rw [List.lookup_eq_none_iff]
     intro p hp
     have hp := List.mem_reverse.mp hp
     have := (List.of_mem_zip (a := p.1) (b := p.2) hp).1
     exact bne_iff_ne.mpr fun e => nk (by rw [e]; exact this)
    rw [this]; simp
   ·have q' : (x == k) = false := beq_eq_false_iff_ne.mpr q
    simp only [q'] at h
    rw [ih nd h]; rfl
set_option tactic.hygienic true in
theorem ye {α : Type} {x : Str} {d : α} : ∀ {ks : List Str} {l : List α}, (ks.zip l).lookup x = some d → x ∈ ks
 | [], _, h => by simp at h
 | _ :: _, [], h => by simp at h
 | k :: ks, e :: l, h => by
  simp only [List.zip_cons_cons, List.lookup_cons] at h
  split at h
  ·rename_i q; rw [beq_iff_eq.mp q]; exact .head _
  ·exact .tail _ (ye h)
theorem oE {ds l : List D} {d : D} : ∀ {ini : List (Bool × Nat)} {i : Nat}, nth (tT ds l ini) i = some d → ∃ j, (ini[i]? = some (true, j) ∧ ds[j]? = some d) ∨ (ini[i]? = some (false, j) ∧ l[j]? = some d)
 | [], _, h => nn h
 | (true, j) :: _, 0, h => ⟨j, .inl ⟨rfl, h⟩⟩
 | (false, j) :: _, 0, h => ⟨j, .inr ⟨rfl, h⟩⟩
 | (_, _) :: _, i + 1, h => oE (i := i) h
noncomputable def sr (g : Gl) : List (Bool × Nat) := (zd g.lamSc).map fun p => match yk (g.lamPs.args.map (·.arg)) p.1 with | some i => (true, i) | none => (false, (yk g.lamKs p.1).getD 1000)
theorem mU {Ψ : Addr → Option G} {cl : List (Str × Addr)} {ks : List Str} {vs : List Value} (h : Caps Ψ cl ks vs) : ks.length = vs.length := by
 induction h with
 | nil => rfl
 | cons _ _ _ _ ih => exact congrArg (· + 1) ih
theorem mV {call : zp} {nw : Nw} {l args : List D} {x : X} {st : St} {Q : D → St → Prop} {A : Around} {s : Shared} {W : Wd} {fv : Value} {vs : List Value} {R : Result → Shared → Prop} (h1000 : S.g.lamKs.length ≤ 1000)
  (hk : p9 S.g.lamPs S.g.lamSc S.g.lamKs = true) (hlen : args.length = S.g.lamPs.args.length) (hs : RE ⟨S, n, call, nw⟩ S.g.lamSc S.g.lamE x) (q : (run call x).e (tT args l (sr S.g)) st Q) (hr : Room (n + 1) A) (O : Ok S W st s.heap) (rf : Rep S W (.clo l) fv) (r : RepL S W args vs)
  (hR : ∀ v s', PostD S W s Q v s' → R (.ok (.ret v)) s') : codeAny (model S.prog S.w) A (.call fv ⟨vs, []⟩) R s := by
 refine hid fun hG => ?_
 obtain ⟨a, o, fd, cd, oc, us, fo, ho1, ho2, clo, hcd, foc, ⟨fs, t, hfs, hq⟩, caps, rl⟩ := rf
 unfold p9 tV at hk
 simp only [Bool.and_eq_true, decide_eq_true_eq, List.isEmpty_iff, Option.isNone_iff_eq_none] at hk
 obtain ⟨⟨⟨⟨⟨h1, ⟨⟨⟨⟨hd1, hd2⟩, hd3⟩, hd4⟩, hd5⟩, hd6⟩, h5⟩, h6⟩, h7⟩, h8⟩ := hk
 refine hG ?_
 have ok := vU h1
 have P : PlainArgs fd.params := by rw [clo.params]; exact ⟨hd3, hd4, hd5, hd6, h5⟩
 have hfo := O.frz _ _ _ fo
 refine kla_callFunE (by have := hr.depth; exact lin1 [_,_,_] 0 S0 V1 1 (.a (.a (.a V0 (.m 4 S2)) (.n 4)) U1) V1 tt this) hfo ho2 (by rw [clo.scope]; exact ok.cor) (by rw [clo.scope]; exact ok.gen) clo.body ⟨cd, oc, fs, t, hcd, O.frz _ _ _ foc, hfs, hq⟩ ?_
 have hb := uZ (s := s) (vs := vs) P (by rw [clo.params]; exact hlen.symm.trans r.length) (.inl clo.dflt)
 refine hb _ _ _ _ ?_
 rw [clo.scope, clo.glob, clo.blt, clo.params]
 have h7' := List.all_eq_true.mp h7
 refine wpAny_newFunctionEnv (fun x hx e => by have := h7' x hx; rw [e] at this; simp at this) (fun y hy => by
  refine hid fun hG => ?_
  obtain ⟨b, hb, e⟩ := List.mem_map.mp (List.of_mem_zip (a := y.1) (b := y.2) hy).1
  refine hG ?_
  have := List.all_eq_true.mp h6 b hb
  rw [e] at this
  exact beq_iff_eq.mp this) (fun h₁ hns hsb => ?_) ok.kind
 have keep : ∀ b o, s.heap.get? b = some o → h₁.get? b = some o := fun b o e => hsb.extBut b o (fun q => by rw [q, zX (Nat.le_refl _)] at e; cases e) (Heap.get?_push_of_some _ e)
 refine ⟨O.topr.nolimit.keeps keep, ?_⟩
 have nL : W.Ψ s.heap.objs.size = none := O.fresh (zX (Nat.le_refl _))
 generalize htk : s.toks + ((S.g.lamPs.args.map (·.arg)).zip vs).length = tk
 let env := newEnv S.g.lamSc s.heap.objs.size mainGlobals fd.closure (fd.qualname ++ ".<locals>.") (some a) fd.code none builtinsNs
 have hr' : Room n (A.deeper env) := ⟨hr.hd, by show A.depth + 1 + 4 * n + 4 < _; have := hr.depth; exact lin1 [_,_,_] 0 (.a (.a (.a S0 (.m 4 V1)) (.n 4)) U1) V2 1 (.a (.a (.a V0 (.m 4 S1)) (.n 4)) U1) V2 tt this, by show A.units + 3 + 40 * n + 40 < _; have := hr.units; exact lin1 [_,_,_] 0 (.a (.a (.a (.a V0 (.n 3)) (.m 40 V1)) (.n 40)) U1) V2 1 (.a (.a (.a V0 (.m 40 S1)) (.n 40)) U1) V2 tt this⟩
 have y₀ : Stp S W s st { s with heap := h₁, toks := tk } W := .quiet O keep
 have E₁ : EnvR S W env S.g.lamSc (tT args l (sr S.g)) h₁ :=
  {kind := ok.kind
   kl := fun x h => h
   kc := fun x h => h
   kf := fun x h => .inr h
   kg := fun x h => h
   glob := rfl
   blt := rfl
   ns := ⟨_, hns⟩
   loc := nL
   nm := ok.nm
   clo := fun x h => by
    rcases h with h | h
    ·have := h7' _ (yD h); simp at this
    ·have := h7' _ (yD h)
     simp at this
     exact mT caps this
   vars := fun x dx hx => by
    refine hid fun hG => ?_
    obtain ⟨i, hi, hx⟩ := z7 hx
    obtain ⟨k, k1, k2, k3⟩ := si ok.nd hi
    obtain ⟨j, hx⟩ := oE hx
    refine hG ?_
    unfold sr at hx
    rw [List.getElem?_map, k3] at hx
    cases hp : yk (S.g.lamPs.args.map (·.arg)) x with
    | some i =>
     simp only [Option.map_some, hp] at hx
     rcases hx with ⟨e, hd⟩ | ⟨e, _⟩
     ·cases e
      have hz := xH hp hd
      refine hid fun hG => ?_
      obtain ⟨v, hv, rv⟩ := wW r hz
      obtain ⟨b, hb, e⟩ := List.mem_map.mp (ye hz)
      refine hG ?_
      have hloc : zO S.g.lamSc x = some .local := by
       have := List.all_eq_true.mp h6 b hb
       rw [e] at this; exact beq_iff_eq.mp this
      exact ⟨v, .inl ⟨hloc, _, hns, pC h5 hv⟩, rv⟩
     ·cases e
    | none =>
     simp only [Option.map_some, hp] at hx
     rcases hx with ⟨e, _⟩ | ⟨e, hd⟩
     ·cases e
     ·cases hq' : yk S.g.lamKs x with
      | none =>
       rw [hq'] at e; cases e
       have := (List.getElem?_eq_some_iff.mp hd).1
       have e2 := mU caps
       rw [rl.length, ← e2] at this
       exact absurd this (Nat.not_lt.mpr h1000)
      | some j' =>
       rw [hq'] at e; cases e
       have hz := xH hq' hd
       refine hid fun hG => ?_
       obtain ⟨c, oo, v, g1, g2, g3, g4⟩ := kP caps rl hz
       refine hG ?_
       have hfree : zO S.g.lamSc x = some .free := by
        have := List.all_eq_true.mp h8 x (ye hz)
        exact beq_iff_eq.mp this
       exact ⟨v, .inr ⟨.inr hfree, c, g1, ⟨oo, keep _ _ (O.frz _ _ _ g2), g3⟩, .of_frz g2⟩, g4⟩ }
 refine kla_codeExpr (env := env) (wpAny_mono (hs.go (s := { s with heap := h₁, toks := tk }) ⟨hr', E₁, y₀.ok⟩ q) (fun v s₂ h => ?_) fun U U z => z.elim)
 exact hR v s₂ (PostD.trans y₀ v s₂ h)
end
theorem vn {prog : Program} {w : World} {κ : Type} [DecidableEq κ] (knd : KeyKind prog w κ) (h : Heap) : ({ cls := .type "dict", data := .dict #[] } : Obj).IsDictOf knd [] := by
 obtain ⟨o, ho, hd⟩ := Heap.dictOf_iff.mp (Heap.DictOf.new (knd := knd) h)
 rw [Heap.get?_push_size _ rfl] at ho
 exact (Option.some.inj ho) ▸ hd
section
variable {J : Jd} {sc : Scope}
theorem kQ {pos : Pos} {b : Bool} : RE J sc (.Dict [] [] pos) (.dict b) := by
 refine ⟨@fun ρ st Q A s W env H q => wpAny_Dict_empty ?_⟩
 have O := H.O
 have hn : s.heap.get? s.heap.objs.size = none := zX (Nat.le_refl _)
 have fr := O.fresh hn
 have ho : (s.heap.push { cls := .type "dict", data := .dict #[] }).get? s.heap.objs.size = some { cls := .type "dict", data := .dict #[] } := Heap.get?_push_size _ rfl
 have y₀ : Stp J.S W s st { s with heap := s.heap.push { cls := .type "dict", data := .dict #[] }, toks := s.toks } W := .quiet O (fun U U e => Heap.get?_push_of_some _ e)
 have sg : (W.cell s.heap.objs.size).Ψ s.heap.objs.size = some (.sig st.sto.length) := by rw [← O.len]; exact W.cell_self _
 have key : ∀ {mo : MO}, IsMO J.S (W.cell s.heap.objs.size) (s.heap.push { cls := .type "dict", data := .dict #[] }) st.sto.length s.heap.objs.size mo → uK mo st Q → PostD J.S W s Q (.ref s.heap.objs.size) { s with heap := s.heap.push { cls := .type "dict", data := .dict #[] }, toks := s.toks } := fun h q => by
  rw [xF] at q
  exact ⟨_, _, _, q, y₀.cell hn ⟨_, ho⟩ fr h, ⟨_, rfl, by rw [← O.len]; exact W.cell_at _⟩⟩
 cases b with
 | true => exact key (mo := .dS [] []) (.mk _ [] sg (pg O hn) ho (vn _ s.heap) rfl .nil (Nat.zero_le _)) q
 | false => exact key (mo := .dI [] []) (.mk _ [] sg (pg O hn) ho (vn _ s.heap) rfl .nil (Nat.zero_le _)) q
end
structure Gd (J : Jd) : Prop where
 T : Facts J.S
 Y : IsFacts J.S
 Z : BaseOk J.S
 V : SetFacts J.S
 L : LamOk J.S
 C : CallsOK J.S J.n J.call
 new : ∀ {sc : Scope} {f : Expr} {args : List Expr} {pos : Pos} {a : Addr} {p : Cls × Nat × Option (List Nat)} {y : X}, zw J.S.g sc f = some (.ref a) → J.nw a = some p → args.length = p.2.1 → (args.all fun a => !isStarred a) = true → RL J sc args y → (args = [] → y = .nil) → RE J sc (.Call f args [] pos) (.new p.1 p.2.2 y)
structure Snd (J : Jd) (c : Cm) : Prop where
 e : ∀ sc e, RE J sc e (c.e sc e)
 l : ∀ sc es, RL J sc es (c.l sc es)
 n : ∀ sc, c.l sc [] = .nil
 t : ∀ sc e, RT J sc e (c.t sc e)
 i : ∀ sc t e, RI J sc t e (c.i sc t e)
 s : ∀ sc s, RS J sc (exec s) (c.s sc s)
 b : ∀ sc ss, RS J sc (execs ss) (c.b sc ss)
 a : ∀ sc x p i e pos, storable sc x = true → ix (zd sc) x = some i → RS J sc (exec (.Assign [.Name x p] e pos)) (.set (.one i) (c.e sc e))
section
variable {J : Jd} {c : Cm} (D : Gd J) (H : Snd J c)
include D H
theorem iP {sc : Scope} {f : Expr} {args : List Expr} {pos : Pos} {v : Value} {b : Bi} (hv : zw J.S.g sc f = some v) (hb : jj v = some b) (hs : (args.all fun a => !isStarred a) = true) : RE J sc (.Call f args [] pos) (.bi b (c.l sc args)) := by
 have e : v = b.val := by
  cases v with
  | builtin n =>
   have hb : (if n = "len" then some BI.len else if n = "max" then some .max else if n = "min" then some .min else if n = "sorted" then some .sorted else none) = some b := hb
   repeat (split at hb; · cases hb; subst_vars; rfl)
   cases hb
  | type n =>
   have hb : (if n = "int" then some BI.int else if n = "str" then some .str else if n = "list" then some .list else none) = some b := hb
   repeat (split at hb; · cases hb; subst_vars; rfl)
   cases hb
  | _ => exact nn hb
 subst e
 exact g0 hv hs (H.l sc args) fun e => by subst e; exact H.n sc
theorem mW {sc : Scope} {f : Expr} {args : List Expr} {pos : Pos} (hs : (args.all fun a => !isStarred a) = true) : RE J sc (.Call f args [] pos) (rS J.S.g J.nw c sc f args pos) := by
 have hn : args = [] → c.l sc args = .nil := fun e => by subst e; exact H.n sc
 have plain : pZ f = true → RE J sc (.Call f args [] pos) (sN J.S.g J.nw c sc f args) := fun hf => by
  have hf := qn hf
  delta sN
  cases hv : zw J.S.g sc f with
  | none => exact iE D.C hf (H.e sc f) hs (H.l sc args) hn
  | some v =>
   dsimp only
   cases hb : jj v with
   | some b => exact iP D H hv hb hs
   | none =>
    cases v with
    | ref a =>
     dsimp only
     cases ha : J.nw a with
     | some p => exact zb zH fun h => D.new hv ha (of_decide_eq_true h) hs (H.l sc args) hn
     | none => exact lr D.C hv hs (H.l sc args) hn
    | builtin n =>
     refine zb zH fun h => ?_
     cases of_decide_eq_true h
     cases args with
     | nil => exact zH
     | cons a r => cases r with
      | nil => exact zH
      | cons t r => cases r with
       | nil => exact lu D.T D.Y hv hs (H.e sc a) (H.e sc t)
       | cons => exact zH
    | _ => exact zH
 cases f with
 | Attribute e x apos =>
  refine zb zH fun h => ?_
  simp only [Bool.and_eq_true, decide_eq_true_eq] at h
  refine hid fun hG => ?_
  obtain ⟨⟨h1, h2⟩, h3⟩ := h
  refine hG ?_
  cases hv : zw J.S.g sc e with
  | none => exact iF D.T D.C (H.e sc e) h1 h2 h3 hs (H.l sc args) hn
  | some v =>
   cases v with
   | ref k => exact yl zH fun m hm => kA D.Z D.C hv hm h1 h2 h3 hs (H.l sc args) hn
   | _ => exact zH
 | _ => exact plain rfl
end
section
variable {J : Jd} {c : Cm} (D : Gd J) (H : Snd J c)
include D H
theorem mX {b : Bool} (h : (!b) = true) : b = false := by cases b <;> first | rfl | cases h
theorem gb (sc : Scope) (es : List Expr) : RL J sc es ((xf J.S.g J.nw c).l sc es) := by
 cases es with
 | nil => exact nr
 | cons e es => exact zb nj fun h => la (H.e sc e) (H.l sc es) (mX D H h)
theorem gc (sc : Scope) (ss : List Stmt) : RS J sc (execs ss) ((xf J.S.g J.nw c).b sc ss) := by
 cases ss with
 | nil => exact iJ
 | cons s ss => exact kI (H.s sc s) (H.b sc ss)
theorem jU (sc : Scope) (e : Expr) : RE J sc e ((xf J.S.g J.nw c).e sc e) := by
 cases e with
 | Name x pos => exact l9
 | Constant k kd pos => exact nu
 | BinOp a op b pos => exact nv (H.e sc a) (H.e sc b) jt
 | UnaryOp op a pos => cases op with
  | USub => exact iA (H.e sc a)
  | _ => exact zH
 | BoolOp op vs p => cases vs with
  | nil => exact zH
  | cons a r => cases r with
   | nil => exact iB (H.e sc a)
   | cons b r => cases op with
    | And => exact iC (H.e sc a) (H.e sc _)
    | Or => exact gX (H.e sc a) (H.e sc _)
 | Compare a ops cs pos => cases ops with
  | nil => exact zH
  | cons op r => cases r with
   | cons => exact zH
   | nil => cases cs with
    | nil => exact zH
    | cons b r => cases r with
     | cons => exact zH
     | nil => exact zb zH fun h => jv (H.e sc a) (H.e sc b) (mB D.T.conEq D.T.dictNe) h
 | IfExp t a b pos => exact gW (H.t sc t) (H.e sc a) (H.e sc b)
 | List es pos => exact zb zH fun h => lj (H.l sc es) (of_decide_eq_true h)
 | Tuple es k pos => exact zb zH fun h => jq (H.l sc es) (of_decide_eq_true h)
 | Dict ks vs pos => cases ks with
  | cons => exact zH
  | nil => cases vs with
   | cons => exact zH
   | nil => exact kQ
 | Attribute e x pos => exact zb zH fun h => yl zH fun f hf => lq D.T (H.e sc e) h hf
 | Subscript e i pos =>
  cases i with
  | Slice lo hi st p =>
   show RE J sc _ (slO c sc (c.e sc e) lo hi st)
   cases st with
   | none => cases lo with
    | none => cases hi with
     | none => exact zH
     | some h => exact ll (H.e sc e) (H.e sc h)
    | some l => cases hi with
     | none => exact lp (H.e sc e) (H.e sc l)
     | some _ => exact zH
   | some s => cases lo with
    | none => cases hi with
     | none => exact iD (H.e sc e) (H.e sc s)
     | some _ => exact zH
    | some _ => exact zH
  | _ => exact gZ (H.e sc e) (H.e sc _)
 | ListComp elt gs csc pos => cases gs with
  | nil => exact zH
  | cons g r => cases r with
   | cons => exact zH
   | nil =>
    obtain ⟨t, iter, ifs, k⟩ := g
    refine zb zH fun hk => ?_
    cases of_decide_eq_true hk
    refine zb zH fun hk => yl zH fun tg htg => ?_
    rw [Bool.and_eq_true] at hk
    exact jT hk.1 hk.2 (xn htg) (H.i sc t iter) (mQ (c := c) fun e => H.t csc e) (H.e csc elt)
 | Call f args kws pos => cases kws with
  | cons => exact zH
  | nil => exact zb zH fun h => mW D H h
 | _ => exact zH
theorem gf (sc : Scope) (e : Expr) : RT J sc e ((xf J.S.g J.nw c).t sc e) := by
 cases e with
 | UnaryOp op a pos => cases op with
  | Not => exact jw (H.t sc a)
  | _ => exact yr
 | BoolOp op vs p => cases vs with
  | nil => exact yr
  | cons a r => cases r with
   | nil => exact jx (H.t sc a)
   | cons b r => cases op with
    | And => exact jy (H.t sc a) (H.t sc _)
    | Or => exact gV (H.t sc a) (H.t sc _)
 | Compare a ops cs pos => cases ops with
  | nil => exact yr
  | cons op r => cases r with
   | cons => exact yr
   | nil => cases cs with
    | nil => exact yr
    | cons b r => cases r with
     | cons => exact yr
     | nil => exact zb yr fun h => jz (H.e sc a) (H.e sc b) (mB D.T.conEq D.T.dictNe) h
 | Name x pos => exact wk (H.e sc _) fun U U => rfl
 | Attribute e x pos => exact wk (H.e sc _) fun U U => rfl
 | Subscript e x pos => exact wk (H.e sc _) fun U U => rfl
 | Call f args kws pos => exact wk (H.e sc _) fun U U => rfl
 | _ => exact yr
theorem gg (sc : Scope) (t e : Expr) : RI J sc t e ((xf J.S.g J.nw c).i sc t e) := by
 cases e with
 | Name x pos => exact xl (H.e sc _)
 | Attribute e x pos => exact xl (H.e sc _)
 | Subscript e x pos => exact xl (H.e sc _)
 | List es pos => exact xl (H.e sc _)
 | Call f args kws pos =>
  show RI J sc t _ (match (zw J.S.g sc f).bind jk with
   | some k => match args with
    | [] => .bad
    | a :: r => match r with
     | [] => match kws with
      | [] => iff (!isStarred a && (ql t || match k with | .enum => false | _ => true)) (.it k (c.e sc a))
      | _ => .bad
     | _ => .bad
   | none => yS (c.e sc (.Call f args kws pos)))
  cases hv : (zw J.S.g sc f).bind jk with
  | none => exact xl (H.e sc _)
  | some k =>
   cases args with
   | nil => exact wZ
   | cons a r => cases r with
    | cons => exact wZ
    | nil => cases kws with
     | cons => exact wZ
     | nil =>
      refine zb wZ fun h => ?_
      rw [Bool.and_eq_true] at h
      obtain ⟨v, hg, hv⟩ := z7 hv
      have hs := mX D H h.1
      cases v with
      | type n =>
       have hv : (if n = "range" then some IT.range else if n = "enumerate" then some .enum else if n = "reversed" then some .rev else none) = some k := hv
       split at hv
       ·cases hv; subst_vars; exact mN hg (H.e sc a) hs
       split at hv
       ·cases hv; subst_vars; exact kE hg (H.e sc a) hs (by simpa using h.2)
       split at hv
       ·cases hv; subst_vars; exact iI hg (H.e sc a) hs
       ·cases hv
      | _ => exact nn hv
 | _ => exact wZ
end
theorem xN {J : Jd} {sc : Scope} {t : Env → Sem Flow} {tg : Tg} : RS J sc t (.set tg .bad) := ⟨fun U U q => q.elim⟩
theorem oF {J : Jd} {sc : Scope} {t : Env → Sem Flow} {tg : Tg} {b : Bool} {x : X} (h : b = true → RS J sc t (.set tg x)) : RS J sc t (.set tg (iff b x)) := by
 cases b with
 | true => exact h rfl
 | false => exact xN
theorem kR {J : Jd} {sc : Scope} {t : Env → Sem Flow} {tg : Tg} {α : Type} {o : Option α} {f : α → X} (h : ∀ a, o = some a → RS J sc t (.set tg (f a))) : RS J sc t (.set tg (opt o f)) := by
 cases o with
 | some a => exact h a rfl
 | none => exact xN
theorem yY {e : Expr} (h : vP e = true) (t : Option Expr) (line : Nat) (env : Env) : swapsWith e t line env = pure false := by
 cases e <;> first | rfl | cases h
section
variable {J : Jd} {c : Cm} (D : Gd J) (H : Snd J c)
include D H
theorem gh (sc : Scope) (x : Str) (p : Pos) (i : Nat) (e : Expr) (pos : Pos) (hk : storable sc x = true) (hi : ix (zd sc) x = some i) : RS J sc (exec (.Assign [.Name x p] e pos)) (.set (.one i) ((xf J.S.g J.nw c).e sc e)) := by
 cases hn : vP e with
 | true => exact kL (jU D H sc e) (fun env => yY hn _ _ _) hk hi
 | false =>
  cases e with
  | ListComp elt gs csc cpos => cases gs with
   | nil => exact xN
   | cons g r => cases r with
    | cons => exact xN
    | nil =>
     obtain ⟨t, iter, ifs, k⟩ := g
     refine oF fun hk' => ?_
     cases of_decide_eq_true hk'
     refine oF fun hk' => kR fun tg htg => ?_
     rw [Bool.and_eq_true] at hk'
     exact g9 hk hi hk'.1 hk'.2 (xn htg) (H.i sc t iter) (mQ (c := c) fun e => H.t csc e) (H.e csc elt)
  | SetComp => exact xN
  | DictComp => exact xN
  | _ => cases hn
theorem gi (sc : Scope) (s : Stmt) : RS J sc (exec s) ((xf J.S.g J.nw c).s sc s) := by
 cases s with
 | Pass pos => exact kJ
 | Return e pos =>
  cases e with
  | none => exact zZ
  | some e =>
   cases e with
   | Lambda ps b lsc lpos =>
    refine zb zZ fun h => yl zZ fun is his => ?_
    simp only [Bool.and_eq_true, decide_eq_true_eq] at h
    refine hid fun hG => ?_
    obtain ⟨⟨⟨⟨⟨h1, h2⟩, h3⟩, h4⟩, h5⟩, h6⟩ := h
    refine hG ?_
    exact kO D.L h1 h2 h3 h4 h5 h6 his
   | _ => exact iK (H.e sc _)
 | Assign ts e pos => cases ts with
  | nil => exact zZ
  | cons t r => cases r with
   | cons => exact zZ
   | nil => cases t with
    | Name x p =>
     refine zb zZ fun h => yl zZ fun tg htg => ?_
     cases xn htg with
     | one x p i hx hi => exact H.a sc x p i e pos hx hi
    | Tuple us k p =>
     refine zb zZ fun h => yl zZ fun tg htg => ?_
     rw [Bool.and_eq_true] at h
     cases xn htg with
     | many ps is k p hx nd => exact kM (H.e sc e) hx nd h.2
    | Attribute o x p =>
     refine zb zZ fun h => yl zZ fun f hf => ?_
     rw [Bool.and_eq_true] at h
     exact iM D.T D.V (H.e sc o) (H.e sc e) (fun env => yY h.1 _ _ _) hf
    | Subscript o i p =>
     refine zb zZ fun h => ?_
     rw [Bool.and_eq_true] at h
     exact iN (H.e sc o) (H.e sc i) (H.e sc e) (fun env => yY h.1 _ _ _)
    | _ => exact zZ
 | AugAssign t op e pos => cases t with
  | Name x p => cases op with
   | Add => exact zb zZ fun h => yl zZ fun i hi => iL h hi (H.e sc e)
   | _ => exact zZ
  | _ => exact zZ
 | Expr e pos => exact zb zZ fun h => kK (H.e sc e) fun env => yY h _ _ _
 | If t a b pos => exact g8 (H.t sc t) (H.b sc a) (H.b sc b)
 | For t iter body orelse pos => cases orelse with
  | nil => exact zb zZ fun h => yl zZ fun tg htg => iO h (xn htg) (H.i sc t iter) (H.b sc body)
  | cons => exact zZ
 | While t body orelse pos => cases orelse with
  | nil => exact mR (H.t sc t) (H.b sc body)
  | cons => exact zZ
 | _ => exact zZ
end
theorem mY {J : Jd} : Snd J Cm.zero where
 e _ _ := zH
 l sc es := by
  cases es with
  | nil => exact nr
  | cons => exact nj
 n _ := rfl
 t _ _ := yr
 i _ _ _ := wZ
 s _ _ := zZ
 b _ _ := zZ
 a _ _ _ _ _ _ _ _ := xN
theorem oG {J : Jd} (D : Gd J) : ∀ k, Snd J (comp J.S.g J.nw k)
 | 0 => mY
 | k + 1 =>
  have H := oG D k
  ⟨jU D H, gb D H, fun U => rfl, gf D H, gg D H, gi D H, gc D H, gh D H⟩
structure Tb (S : Sta) (C : Cx) (nw : Nw) : Prop where
 fn : ∀ a np ini body, C.fn a = some (.fn np ini body) → ∃ fd, IsFun S a fd ∧ uN S.g nw fd = some (.fn np ini body)
 cls : ∀ a c ini, C.fn a = some (.cls c ini) → a = c.addr ∧ keepIn S.K (.ref a) = true ∧ (match ini with
   | some m => findIn S.K (.ref c.addr) "__init__" = some (some (.ref m)) ∧ isFn S.K (.ref m) = true
   | none => findIn S.K (.ref c.addr) "__init__" = some (some (.builtin "object.__init__")))
 lam : wg S.g nw = some C.lam
 ks : S.g.lamKs.length ≤ 1000
set_option tactic.hygienic true in
theorem oy {g : Gl} {nw : Nw} {fd : FuncData} {np : Nat} {ini : List (Option Nat)} {x : X} (h : uN g nw fd = some (.fn np ini x)) : ∃ body, fd.body = .stmts body ∧ p8 fd.params fd.scope = true ∧ np = fd.params.args.length ∧ ini = ((zd fd.scope).map fun p => yk (fd.params.args.map (·.arg)) p.1) ∧ x = (comp g nw 60).b fd.scope body := by
 unfold uN at h
 split at h
 ·rename_i body hb
  split at h
  ·rename_i hk
   cases h
   exact ⟨body, hb, hk, rfl, rfl, rfl⟩
  ·cases h
 ·cases h
set_option tactic.hygienic true in
theorem oz {g : Gl} {nw : Nw} {m : Lm} (h : wg g nw = some m) : p9 g.lamPs g.lamSc g.lamKs = true ∧ m.np = g.lamPs.args.length ∧ m.ini = sr g ∧ m.body = (comp g nw 60).e g.lamSc g.lamE := by
 unfold wg at h
 split at h
 ·cases h
 ·rename_i hk
  cases h
  exact ⟨hk, rfl, rfl, rfl⟩
theorem pD {M : Model} {h : Heap} {a : Addr} {o : Obj} {fd : FuncData} (ho : h.get? a = some o) (hd : o.data = .func fd) : Looks M h (keeperOf (.ref a)) .frame := by
 obtain ⟨c, d, p, x⟩ := o
 cases hd
 exact (Looks.ld (part := none) ho).andThen .now
theorem CodeOK.call {S : Sta} {n : Nat} {c : zp} (h : CodeOK S n c) : CallOK S n c := ⟨fun hr O rf r q => wpAny_call (h.go hr O rf r q fun v s' p => p)⟩
inductive CallA (C : Cx) (call : zp) (args : List D) (st : St) (Q : D → St → Prop) : D → Prop
 | fn (a : Addr) (np : Nat) (ini : List (Option Nat)) (body : X) (h : C.fn a = some (.fn np ini body)) (z : args.length = np) (q : (run call body).s (yW args ini) st (wO Q)) : CallA C call args st Q (.val (.ref a))
 | cls (a : Addr) (c : Cls) (ini : Option Addr) (h : C.fn a = some (.cls c ini)) (q : rP call c ini args st Q) : CallA C call args st Q (.val (.ref a))
 | clo (l : List D) (z : args.length = C.lam.np) (q : (run call C.lam.body).e (tT args l C.lam.ini) st Q) : CallA C call args st Q (.clo l)
theorem wu {C : Cx} {call : zp} {f : D} {args : List D} {st : St} {Q : D → St → Prop} (q : wc C call f args st Q) : CallA C call args st Q f := by
 cases f with
 | val v => cases v with
  | ref a =>
   have q : (match C.fn a with
    | some o => match o with
     | .fn np ini body => args.length = np ∧ (run call body).s (yW args ini) st (wO Q)
     | .cls c ini => rP call c ini args st Q
    | none => False) := q
   cases h : C.fn a with
   | none => rw [h] at q; exact q.elim
   | some o =>
    rw [h] at q
    cases o with
    | fn np ini body => exact .fn a np ini body h q.1 q.2
    | cls c ini => exact .cls a c ini h q
  | _ => exact q.elim
 | clo l => exact .clo l q.1 q.2
 | _ => exact q.elim
theorem kS (C : Cx) : zD C 0 = fun U U => no := by with_unfolding_all rfl
structure Gn (S : Sta) : Prop where
 T : Facts S
 Y : IsFacts S
 Z : BaseOk S
 V : SetFacts S
 L : LamOk S
noncomputable def jV (J : Jd) : Prop := ∀ {sc : Scope} {f : Expr} {args : List Expr} {pos : Pos} {a : Addr} {p : Cls × Nat × Option (List Nat)} {y : X}, zw J.S.g sc f = some (.ref a) → J.nw a = some p → args.length = p.2.1 → (args.all fun a => !isStarred a) = true → RL J sc args y → (args = [] → y = .nil) → RE J sc (.Call f args [] pos) (.new p.1 p.2.2 y)
theorem ub {S : Sta} {C : Cx} {nw : Nw} (G : Gn S) (B : Tb S C nw) (m : Nat) (hnew : ∀ n, jV ⟨S, m + n, zD C n, nw⟩) : ∀ n, CodeOK S (m + n) (zD C n) ∧ CallsOK S (m + n) (zD C n)
 | 0 => by
  have no : ∀ {f : D} {args : List D} {st : St} {Q : D → St → Prop}, zD C 0 f args st Q → False := fun q => by rw [kS] at q; exact q
  exact ⟨⟨fun U U U U q => (no q).elim⟩, ⟨⟨fun U U U U q => (no q).elim⟩, fun q => (no q).elim⟩⟩
 | n + 1 => by
  obtain ⟨I, K⟩ := ub G B m hnew n
  have H : Snd ⟨S, m + n, zD C n, nw⟩ (comp S.g nw 60) := oG (J := ⟨S, m + n, zD C n, nw⟩) ⟨G.T, G.Y, G.Z, G.V, G.L, K, hnew n⟩ 60
  generalize hcm : comp S.g nw 60 = cm at H
  have code : CodeOK S (m + n + 1) (zD C (n + 1)) := by
   refine ⟨fun {f args st Q A s W fv vs R} hr O rf r q hR => ?_⟩
   rw [xy] at q
   replace q := wu q
   cases q with
   | fn a np ini body h z q =>
    obtain ⟨fd, hf, hc⟩ := B.fn a np ini body h
    obtain ⟨b, hb, hk, e1, e2, e3⟩ := oy hc
    rw [hcm] at e3
    subst e1 e2 e3
    cases rf.1
    exact mE hf hb hk z (H.b fd.scope b) q hr O r hR
   | cls a c ini h q =>
    obtain ⟨rfl, _, hi⟩ := B.cls a c ini h
    cases rf.1
    exact call_cls G.T I hi q hr O r hR
   | clo l z q =>
    obtain ⟨hk, e1, e2, e3⟩ := oz B.lam
    rw [hcm] at e3
    rw [e2, e3] at q
    exact mV B.ks hk (z.trans e1) (H.e _ _) q hr O rf r hR
  refine ⟨code, code.call, fun {f args st Q W st₀ h fv} q O rf => ?_⟩
  rw [xy] at q
  replace q := wu q
  cases q with
  | fn a np ini body h z q =>
   obtain ⟨fd, ⟨o, _, _, hk, _⟩, _⟩ := B.fn a np ini body h
   cases rf.1
   exact keeps_K hk _ O.kin
  | cls a c ini h q =>
   cases rf.1
   exact keeps_K (B.cls a c ini h).2.1 _ O.kin
  | clo l z q =>
   obtain ⟨a, o, fd, cd, oc, us, fo, ho1, ho2, _⟩ := rf
   exact ⟨.frame, .inl rfl, pD (O.frz _ _ _ fo) ho2⟩
mutual
theorem Rep.drop {S : Sta} {W W' : Wd} (h : W.Le W') : ∀ {d : D} {v v₀ : Value}, Rep S W d v₀ → Rep S W' d v → Rep S ⟨W'.Ψ, W.μ, W'.τ⟩ d v
 | .none, _, _, _, r => r
 | .bool _, _, _, _, r => r
 | .int _, _, _, _, r => r
 | .str _, _, _, _, r => r
 | .list _, _, _, r₀, r => by obtain ⟨_, _, _, _, r₀, _⟩ := r₀; obtain ⟨a, vs, n, f, r, z⟩ := r; exact .mk a vs n f (RepL.drop' h r₀ r) z
 | .tup _, _, _, r₀, r => by obtain ⟨_, _, _, _, r₀, _⟩ := r₀; obtain ⟨a, vs, n, f, r, z⟩ := r; exact .mk a vs n f (RepL.drop' h r₀ r) z
 | .obj _ _ _, _, _, r₀, r => by obtain ⟨_, _, _, _, _, _, _, _, r₀⟩ := r₀; obtain ⟨a, dx, es, n, vs, f, g, e, r⟩ := r; exact .mk a dx es n vs f g e (RepL.drop' h r₀ r)
 | .clo _, _, _, r₀, r => by obtain ⟨_, _, _, _, _, _, _, _, _, _, _, _, _, _, r₀⟩ := r₀; obtain ⟨a, o, fd, cd, oc, vs, f, hc, hd, i, e, ho, q, cs, r⟩ := r; exact .mk a o fd cd oc vs f hc hd i e ho q cs (RepL.drop' h r₀ r)
 | .val _, _, _, _, r => r
 | .mref k, _, _, r₀, r => by obtain ⟨a₀, _, e₀⟩ := r₀; obtain ⟨a, e, f⟩ := r; exact ⟨a, e, by have := zT h.μ e₀; rw [f] at this; cases this; exact e₀⟩
theorem RepL.drop' {S : Sta} {W W' : Wd} (h : W.Le W') : ∀ {l : List D} {vs vs₀ : List Value}, RepL S W l vs₀ → RepL S W' l vs → RepL S ⟨W'.Ψ, W.μ, W'.τ⟩ l vs
 | [], _, _, _, r => r
 | _ :: _, _, _, r₀, r => by obtain ⟨_, _, p₀, q₀⟩ := r₀; obtain ⟨v, r, p, q⟩ := r; exact .mk v r (Rep.drop h p₀ p) (RepL.drop' h q₀ q)
end
theorem IsMO.drop {S : Sta} {W W' : Wd} (l : W.Le W') {h h₀ : Heap} {k : Nat} {a : Addr} {mo : MO} (x₀ : IsMO S W h₀ k a mo) (x : IsMO S W' h k a mo) : IsMO S ⟨W'.Ψ, W.μ, W'.τ⟩ h k a mo := by
 cases mo with
 | lst _ => obtain ⟨_, _, _, _, r₀, _⟩ := x₀; obtain ⟨vs, n, p, o, r, q⟩ := x; exact .mk vs n p o (r₀.drop' l r) q
 | dS _ _ => obtain ⟨_, _, _, _, _, _, _, r₀, _⟩ := x₀; obtain ⟨o, vs, p, q, h1, h2, h3, h4, h5⟩ := x; exact .mk o vs p q h1 h2 h3 (r₀.drop' l h4) h5
 | dI _ _ => obtain ⟨_, _, _, _, _, _, _, r₀, _⟩ := x₀; obtain ⟨o, vs, p, q, h1, h2, h3, h4, h5⟩ := x; exact .mk o vs p q h1 h2 h3 (r₀.drop' l h4) h5
 | ins _ _ _ => obtain ⟨_, _, _, _, _, _, _, _, _, r₀, _⟩ := x₀; obtain ⟨dx, es, n, vs, p, h1, h2, h3, h4, h5, h6⟩ := x; exact .mk dx es n vs p h1 h2 h3 h4 (r₀.drop' l h5) h6
 | fz _ => exact Rep.drop l x₀ x
 | fS _ _ => obtain ⟨_, _, _, _, _, _, r₀, _⟩ := x₀; obtain ⟨o, vs, q, h1, h2, h3, h4, h5⟩ := x; exact .mk o vs q h1 h2 h3 (r₀.drop' l h4) h5
 | gone => trivial
 | tab => obtain ⟨ps, p, q, h1, h2, h3⟩ := x; exact .mk ps p q h1 h2 h3
theorem Stp.drop {S : Sta} {W W' : Wd} {s s' : Shared} {st : St} {nt : Nat} (O : Ok S W st s.heap) (y : Stp S W s ⟨st.sto ++ [.gone], nt⟩ s' W') : Stp S W s ⟨st.sto, nt⟩ s' ⟨W'.Ψ, W.μ, W'.τ⟩ where
 eq := y.eq
 le := ⟨y.le.frz, List.prefix_refl _, y.le.τ, y.le.told⟩
 non := y.non
 keep := y.keep
 ok :=
  {frz := y.ok.frz
   low := y.ok.low
   base := y.ok.base
   len := O.len
   sto := fun k mo e => by
    obtain ⟨a, e1, x₀⟩ := O.sto k mo e
    obtain ⟨a', e2, x⟩ := y.ok.sto k mo (by rw [List.getElem?_append_left (List.getElem?_eq_some_iff.mp e).1]; exact e)
    have := zT y.le.μ e1
    rw [e2] at this; cases this
    exact ⟨_, e1, x₀.drop y.le x⟩
   tag := y.ok.tag
   tags := y.ok.tags }
noncomputable def uc : List (Fld × Nat) → X
 | [] => .nop
 | (f, i) :: r => .seq (.sta (.v 0) f (.v i)) (uc r)
noncomputable def chk (c : Cls) : List Fld → List (Fld × Nat) → Bool
 | _, [] => true
 | gs, (f, _) :: r => !wb gs f && wb c.flds f && Nat.blt gs.length 100 && chk c (gs ++ [f]) r
noncomputable def pk (ρ : Rg) : List (Fld × Nat) → Option (List D)
 | [] => some []
 | (_, i) :: r => match nth ρ i with
  | some d => (pk ρ r).map (d :: ·)
  | none => none
theorem mZ {l : List MO} {o : MO} : (l ++ [o])[l.length]? = some o := by simp
theorem oH {l : List MO} {o o' : MO} : (l ++ [o]).set l.length o' = l ++ [o'] := by simp
theorem qN {α : Type} {x : Option α} {a : α} {Q : α → Prop} (h : x = some a) (q : Q a) : ofO x Q := by subst h; exact q
theorem kT {b : Bool} {A B : Prop} (h : b = true) (q : A) : br b A B := by subst h; exact q
section
variable {call : zp} {c : Cls} {ρ : Rg} {S₀ : List MO} {nt : Nat}
theorem ud {Q : Out → St → Prop} (h0 : nth ρ 0 = some (.mref S₀.length)) : ∀ {fs : List (Fld × Nat)} {gs : List Fld} {l ds : List D}, chk c gs fs = true → pk ρ fs = some ds → Q (.fall ρ) ⟨S₀ ++ [.ins c (gs ++ fs.map (·.1)) (l ++ ds)], nt⟩ → (run call (uc fs)).s ρ ⟨S₀ ++ [.ins c gs l], nt⟩ Q := by
 intro fs
 induction fs with
 | nil =>
  intro gs l ds _ h q
  cases h
  rw [List.append_nil] at q
  have q : Q (.fall ρ) ⟨S₀ ++ [.ins c (gs ++ []) l], nt⟩ := q
  rw [List.append_nil] at q
  exact q
 | cons p fs ih =>
  intro gs l ds h hp q
  obtain ⟨f, i⟩ := p
  have hc : (!wb gs f && wb c.flds f && Nat.blt gs.length 100 && chk c (gs ++ [f]) fs) = true := h
  rw [Bool.and_eq_true] at hc
  have hp : (match nth ρ i with | some d => (pk ρ fs).map (d :: ·) | none => none) = some ds := hp
  cases hi : nth ρ i with
  | none => rw [hi] at hp; cases hp
  | some d =>
   rw [hi] at hp
   obtain ⟨ds', e, rfl⟩ := Option.map_eq_some_iff.mp hp
   show rd ρ i fun d => rd ρ 0 fun x => vN x f d ⟨S₀ ++ [.ins c gs l], nt⟩ fun st => (run call (uc fs)).s ρ st Q
   unfold rd
   rw [hi, h0]
   refine qN mZ (kT hc.1 ?_)
   rw [yB, oH]
   exact ih hc.2 e (by rw [List.append_assoc, List.append_assoc]; exact q)
end
noncomputable def Dr (st : St) (Q : D → St → Prop) (d : D) (st' : St) : Prop := ∃ nt, st' = ⟨st.sto ++ [.gone], nt⟩ ∧ Q d ⟨st.sto, nt⟩
theorem nA {c : Cls} {l : List D} {st : St} {Q : D → St → Prop} (q : yx c l st Q) : yx c l ⟨st.sto ++ [.gone], st.nt⟩ (Dr st Q) := by
 cases c <;> exact ⟨_, rfl, q⟩
noncomputable def kU (c : Cls) (p : Option (List Nat)) (ds : List D) : MC D := fun st Q => match p with
 | none => yx c ds st Q
 | some is => uL is ds fun ds => yx c ds st Q
noncomputable def zr (C : Cx) (a : Addr) (p : Cls × Nat × Option (List Nat)) : Prop := ∀ {ds : List D} {st : St} {Q : D → St → Prop}, ds.length = p.2.1 → kU p.1 p.2.2 ds st Q → zD C 3 (.val (.ref a)) ds st (Dr st Q)
section
variable {C : Cx} {n : Nat} {a m : Addr} {c : Cls} {np i : Nat} {ini : List (Option Nat)} {fs : List (Fld × Nat)} {d : D} {ds es : List D} {st : St} {Q : D → St → Prop}
theorem su (q : yx c es st Q) : tU (.mref st.sto.length) ⟨st.sto ++ [.ins c c.flds es], st.nt⟩ (Dr st Q) := by
 refine qN mZ ⟨rfl, ?_⟩
 rw [yB, oH]
 exact nA q
theorem qO (h1 : C.fn a = some (.cls c (some m))) (q : ∀ P : D → St → Prop, (∀ st', tU (.mref st.sto.length) st' (Dr st Q) → P .none st') → zD C n (.val (.ref m)) (.mref st.sto.length :: ds) ⟨st.sto ++ [.ins c [] []], st.nt⟩ P) : zD C (n + 1) (.val (.ref a)) ds st (Dr st Q) := by
 rw [xy]
 show match C.fn a with
  | some o => _
  | none => False
 rw [h1]
 show uK (.ins c [] []) st _
 rw [xF]
 exact q _ fun st' h => h
theorem sy {P : D → St → Prop} {x : X} (h2 : C.fn m = some (.fn np ini x)) (hn : ds.length = np) (q : (run (zD C n) x).s (yW ds ini) st (wO P)) : zD C (n + 1) (.val (.ref m)) ds st P := by
 rw [xy]
 show match C.fn m with
  | some o => _
  | none => False
 rw [h2]
 exact ⟨hn, q⟩
theorem z8 (h1 : C.fn a = some (.cls c (some m))) (h2 : C.fn m = some (.fn np (some 0 :: ini) (uc fs))) (hn : ds.length + 1 = np) (hc : chk c [] fs = true) (he : fs.map (·.1) = c.flds) (hp : pk (yW (.mref st.sto.length :: ds) (some 0 :: ini)) fs = some es) (q : yx c es st Q) : zD C (n + 2) (.val (.ref a)) ds st (Dr st Q) :=
 qO h1 fun P h => sy h2 hn (ud rfl hc hp (h _ (by rw [he]; exact su q)))
theorem uE (h1 : C.fn a = some (.cls c (some m))) (h2 : C.fn m = some (.fn np (some 0 :: ini) (.seq (.ex (.app (.k (.val (.ref 385))) (.cons (.v 0) (.cons (.v i) .nil)))) (uc fs)))) (h3 : C.fn 385 = some (.fn 2 [some 0, some 1] (uc [(.place, 1)]))) (hn : ds.length + 1 = np)
  (hd : nth (yW (.mref st.sto.length :: ds) (some 0 :: ini)) i = some d) (hf : chk c [] [(.place, 1)] = true) (hc : chk c [.place] fs = true) (he : .place :: fs.map (·.1) = c.flds) (hp : pk (yW (.mref st.sto.length :: ds) (some 0 :: ini)) fs = some es) (q : yx c (d :: es) st Q) : zD C (n + 3) (.val (.ref a)) ds st (Dr st Q) :=
 qO h1 fun P h => sy h2 hn (by
  show rd (yW (.mref st.sto.length :: ds) (some 0 :: ini)) 0 fun x => rd (yW (.mref st.sto.length :: ds) (some 0 :: ini)) i fun y => zD C (n + 1) (.val (.ref 385)) [x, y] ⟨st.sto ++ [.ins c [] []], st.nt⟩ fun U st' => (run (zD C (n + 1)) (uc fs)).s (yW (.mref st.sto.length :: ds) (some 0 :: ini)) st' (wO P)
  unfold rd
  rw [hd]
  exact sy h3 rfl (ud rfl hf rfl (ud rfl hc hp (h _ (by have z := su q; rw [← he] at z; exact z)))))
end
theorem qP {c : Cls} {l ds : List D} (h : ∀ x ∈ l, x ∈ ds) {st : St} {Q : D → St → Prop} (q : yx c l st Q) : yx c l st fun d st' => (∃ t es, d = .obj t c es ∧ ∀ x ∈ es, x ∈ ds) ∧ Q d st' := by
 cases c <;> exact ⟨⟨_, _, rfl, h⟩, q⟩
theorem nB {c : Cls} {ds : List D} {st : St} {Q : D → St → Prop} : ∀ {is : List Nat} {K : List D → List D}, (∀ l, (∀ x ∈ l, x ∈ ds) → ∀ x ∈ K l, x ∈ ds) → uL is ds (fun l => yx c (K l) st Q) → uL is ds fun l => yx c (K l) st fun d st' => (∃ t es, d = .obj t c es ∧ ∀ x ∈ es, x ∈ ds) ∧ Q d st' := by
 intro is
 induction is with
 | nil => intro K h q; exact qP (h [] fun U h => nm h) q
 | cons i is ih =>
  intro K h q
  have q : (match ds[i]? with | some d => uL is ds fun r => yx c (K (d :: r)) st Q | none => False) := q
  show (match ds[i]? with | some d => uL is ds fun r => yx c (K (d :: r)) st _ | none => False)
  cases e : ds[i]? with
  | none => rw [e] at q; exact q
  | some d =>
   rw [e] at q
   refine ih (K := fun r => K (d :: r)) (fun l hl => h _ fun x hx => ?_) q
   cases hx with
   | head => exact List.mem_of_getElem? e
   | tail _ hx => exact hl x hx
theorem m6 {c : Cls} {p : Option (List Nat)} {ds : List D} {st : St} {Q : D → St → Prop} (q : kU c p ds st Q) : kU c p ds st fun d st' => (∃ t es, d = .obj t c es ∧ ∀ x ∈ es, x ∈ ds) ∧ Q d st' := by
 cases p with
 | none => exact qP (fun U h => h) q
 | some is => exact nB (K := id) (fun U h => h) q
theorem kW {S : Sta} {W : Wd} {x : D} : ∀ {ds : List D} {vs : List Value}, RepL S W ds vs → x ∈ ds → ∃ v, Rep S W x v := by
 intro ds
 induction ds with
 | nil => intro vs _ h; exact nm h
 | cons d ds ih =>
  intro vs r h
  obtain ⟨v, r, p, q⟩ := r
  cases h with
  | head => exact ⟨v, p⟩
  | tail _ h => exact ih q h
theorem kX {S : Sta} {W : Wd} {ds : List D} {vs : List Value} (r : RepL S W ds vs) {es : List D} (h : ∀ x ∈ es, x ∈ ds) : ∃ us, RepL S W es us := by
 induction es with
 | nil => exact ⟨_, .nil⟩
 | cons e es ih =>
  obtain ⟨v, p⟩ := kW r (h e (.head _))
  obtain ⟨us, q⟩ := ih fun x hx => h x (.tail _ hx)
  exact ⟨_, .cons p q⟩
theorem iQ {S : Sta} {C : Cx} {call : zp} {n : Nat} {nw : Nw} (K : CallsOK S 3 (zD C 3)) (hN : ∀ a p, nw a = some p → zr C a p) : jV ⟨S, 3 + n, call, nw⟩ := by
 intro sc f args pos a p y hv ha hl hs hy hn
 refine ⟨@fun ρ st Q A s W env H q => u4 hv hs hy hn H (F := fun ds st => kU p.1 p.2.2 ds st Q) q fun {l vs st₁ s₁ W₁} y₁ r₁ z q => ?_⟩
 have q' := hN a p ha (r₁.length.trans (z.trans hl)) (m6 q)
 have hr : Room 3 A := ⟨H.hr.hd, by have := H.hr.depth; dsimp only at this; exact lin1 [_,_,_] 0 (.a (.a (.a V0 (.n 12)) (.n 4)) U1) V1 1 (.a (.a (.a V0 (.m 4 (.a (.n 3) V2))) (.n 4)) U1) V1 tt this, by have := H.hr.units; dsimp only at this; exact lin1 [_,_,_] 0 (.a (.a (.a V0 (.n 120)) (.n 40)) U1) V1 1 (.a (.a (.a V0 (.m 40 (.a (.n 3) V2))) (.n 40)) U1) V1 tt this⟩
 refine ⟨K.keep (f := .val (.ref a)) q' y₁.ok ⟨rfl, rfl⟩, zB (K.ok.go (f := .val (.ref a)) hr y₁.ok ⟨rfl, rfl⟩ r₁ q') ?_⟩
 intro v s' hz2
 refine hid fun hG => ?_
 obtain ⟨d, st', W', ⟨nt, rfl, ⟨t, es, rfl, hm⟩, q⟩, y, r⟩ := hz2
 obtain ⟨us, r₀⟩ := kX r₁ hm
 obtain ⟨a, dx, es', n, vs', f, g, e, r⟩ := r
 refine hG ?_
 exact ⟨_, _, _, q, y.drop y₁.ok, .mk a dx es' n vs' f g e (RepL.drop' y.le r₀ r)⟩
noncomputable def C1 : Cx := ⟨fun a => match isIn a [35, 59, 119, 141, 159, 183, 201, 221, 239, 242, 260, 282, 300, 322, 385, 414, 424, 441, 451, 468, 478, 495, 505, 711, 733, 751, 754, 768, 786, 789, 856, 878, 903, 937, 969, 972, 1094, 1097] with
 | true => qs a fnL
 | false => none, (wg G0 fun U => none).getD l8⟩
section
variable {l : List D}
theorem qQ {n : Nat} (h : l.length = n + 1) : ∃ a l', l = a :: l' ∧ l'.length = n := by
 cases l with
 | nil => first | exact cn h | exact nc h | exact sn h | exact ns h | exact nn h | exact ff h
 | cons a l => exact ⟨a, l, rfl, Nat.succ.inj h⟩
theorem kY (h : l.length = 1) : ∃ a, l = [a] := by
 obtain ⟨a, l, rfl, h1⟩ := qQ h
 cases List.eq_nil_of_length_eq_zero h1
 exact ⟨a, rfl⟩
theorem m7 (h : l.length = 2) : ∃ a b, l = [a, b] := by
 obtain ⟨a, l, rfl, h1⟩ := qQ h
 obtain ⟨b, rfl⟩ := kY h1
 exact ⟨a, b, rfl⟩
theorem rA (h : l.length = 3) : ∃ a b c, l = [a, b, c] := by
 obtain ⟨a, l, rfl, h1⟩ := qQ h
 obtain ⟨b, c, rfl⟩ := m7 h1
 exact ⟨a, b, c, rfl⟩
theorem iR (h : l.length = 4) : ∃ a b c d, l = [a, b, c, d] := by
 obtain ⟨a, l, rfl, h1⟩ := qQ h
 obtain ⟨b, c, d, rfl⟩ := rA h1
 exact ⟨a, b, c, d, rfl⟩
theorem f9 (h : l.length = 8) : ∃ a b c d e f g i, l = [a, b, c, d, e, f, g, i] := by
 obtain ⟨a, l, rfl, h1⟩ := qQ h
 obtain ⟨b, l, rfl, h2⟩ := qQ h1
 obtain ⟨c, l, rfl, h3⟩ := qQ h2
 obtain ⟨d, l, rfl, h4⟩ := qQ h3
 obtain ⟨e, f, g, i, rfl⟩ := iR h4
 exact ⟨a, b, c, d, e, f, g, i, rfl⟩
end
noncomputable def AllN (C : Cx) : List (Addr × Cls × Nat × Option (List Nat)) → Prop
 | [] => True
 | (a, p) :: r => zr C a p ∧ AllN C r
theorem AllN.at {C : Cx} {a : Addr} {p : Cls × Nat × Option (List Nat)} : ∀ {l : List (Addr × Cls × Nat × Option (List Nat))}, AllN C l → l.lookup a = some p → zr C a p := by
 intro l
 induction l with
 | nil => intro _ h; first | exact cn h | exact nc h | exact sn h | exact ns h | exact nn h | exact ff h
 | cons x l ih =>
  obtain ⟨b, q⟩ := x
  intro h e
  rw [List.lookup_cons] at e
  cases z : a == b with
  | true => rw [z] at e; cases e; cases beq_iff_eq.mp z; exact h.1
  | false => rw [z] at e; exact ih h.2 e
theorem n59 : zr C1 59 (.Var, 1, none) := @fun U st Q h q => by obtain ⟨a, rfl⟩ := kY h; exact z8 (fs := [(.name, 1)]) rfl rfl rfl rfl rfl rfl q
theorem fc : zr C1 141 (.App, 2, none) := @fun U st Q h q => by obtain ⟨a, b, rfl⟩ := m7 h; exact z8 (fs := [(.func, 1), (.args, 2)]) rfl rfl rfl rfl rfl rfl q
theorem fe : zr C1 183 (.Lam, 2, none) := @fun U st Q h q => by obtain ⟨a, b, rfl⟩ := m7 h; exact z8 (fs := [(.params, 1), (.body, 2)]) rfl rfl rfl rfl rfl rfl q
theorem fg : zr C1 221 (.Let, 3, none) := @fun U st Q h q => by obtain ⟨a, b, c, rfl⟩ := rA h; exact z8 (fs := [(.binds, 1), (.body, 2), (.isRec, 3)]) rfl rfl rfl rfl rfl rfl q
theorem fh : zr C1 242 (.Alt, 3, none) := @fun U st Q h q => by obtain ⟨a, b, c, rfl⟩ := rA h; exact z8 (fs := [(.key, 1), (.names, 2), (.body, 3)]) rfl rfl rfl rfl rfl rfl q
theorem fi : zr C1 282 (.Case, 4, none) := @fun U st Q h q => by obtain ⟨a, b, c, d, rfl⟩ := iR h; exact z8 (fs := [(.value, 1), (.name, 2), (.alts, 3), (.other, 4)]) rfl rfl rfl rfl rfl rfl q
theorem fj : zr C1 322 (.Con, 2, none) := @fun U st Q h q => by obtain ⟨a, b, rfl⟩ := m7 h; exact z8 (fs := [(.name, 1), (.args, 2)]) rfl rfl rfl rfl rfl rfl q
theorem fk : zr C1 424 (.PVar, 2, some [1, 0]) := @fun U st Q h q => by obtain ⟨a, b, rfl⟩ := m7 h; exact uE (i := 2) (fs := [(.name, 1)]) rfl rfl rfl rfl rfl rfl rfl rfl rfl q
theorem fm : zr C1 451 (.PWild, 1, none) := @fun U st Q h q => by obtain ⟨a, rfl⟩ := kY h; exact uE (i := 1) (fs := []) rfl rfl rfl rfl rfl rfl rfl rfl rfl q
theorem fq : zr C1 478 (.PLit, 3, some [2, 0, 1]) := @fun U st Q h q => by obtain ⟨a, b, c, rfl⟩ := rA h; exact uE (i := 3) (fs := [(.kind, 1), (.value, 2)]) rfl rfl rfl rfl rfl rfl rfl rfl rfl q
theorem ft : zr C1 505 (.PCon, 3, some [2, 0, 1]) := @fun U st Q h q => by obtain ⟨a, b, c, rfl⟩ := rA h; exact uE (i := 3) (fs := [(.name, 1), (.args, 2)]) rfl rfl rfl rfl rfl rfl rfl rfl rfl q
theorem fu : zr C1 733 (.Constructors, 1, none) := @fun U st Q h q => by obtain ⟨a, rfl⟩ := kY h; exact z8 (fs := [(.cons, 1)]) rfl rfl rfl rfl rfl rfl q
theorem fw : zr C1 754 (.Leaf, 3, none) := @fun U st Q h q => by obtain ⟨a, b, c, rfl⟩ := rA h; exact z8 (fs := [(.number, 1), (.binds, 2), (.behind, 3)]) rfl rfl rfl rfl rfl rfl q
theorem fx : zr C1 768 (.Nothing, 0, none) := @fun ds st Q h q => by
 cases List.eq_nil_of_length_eq_zero h
 rw [xy]
 show uK (.ins .Nothing [] []) st _
 rw [xF]
 exact ⟨rfl, su q⟩
theorem fy : zr C1 789 (.Switch, 3, none) := @fun U st Q h q => by obtain ⟨a, b, c, rfl⟩ := rA h; exact z8 (fs := [(.name, 1), (.branches, 2), (.other, 3)]) rfl rfl rfl rfl rfl rfl q
theorem eA : zr C1 878 (.Line, 4, none) := @fun U st Q h q => by obtain ⟨a, b, c, d, rfl⟩ := iR h; exact z8 (fs := [(.number, 1), (.patterns, 2), (.binds, 3), (.isLost, 4)]) rfl rfl rfl rfl rfl rfl q
theorem eB : zr C1 937 (.Decider, 3, none) := @fun U st Q h q => by obtain ⟨a, b, c, rfl⟩ := rA h; exact z8 (fs := [(.known, 1), (.falls, 2), (.fresh, 3)]) rfl rfl rfl rfl rfl rfl q
theorem eC : zr C1 972 (.Row, 3, none) := @fun U st Q h q => by obtain ⟨a, b, c, rfl⟩ := rA h; exact z8 (fs := [(.patterns, 1), (.body, 2), (.canFail, 3)]) rfl rfl rfl rfl rfl rfl q
theorem gj : zr C1 1097 (.ConInfo, 8, none) := @fun U st Q h q => by obtain ⟨a, b, c, d, e, f, g, i, rfl⟩ := f9 h; exact z8 (fs := [(.name, 1), (.tag, 2), (.arity, 3), (.stricts, 4), (.typeName, 5), (.scheme, 6), (.siblings, 7), (.isNewtype, 8)]) rfl rfl rfl rfl rfl rfl q
theorem kZ : ∀ a p, nwQ a = some p → zr C1 a p := fun a p h =>
 AllN.at (l := newsQ) ⟨n59, fc, fe, fg, fh, fi, fj, fk, fm, fq, ft, fu, fw, fx, fy, eA, eB, eC, gj, trivial⟩ h
end
section
variable {α : Type} {x : Option α} {a : α} {Q : α → Prop} {b : Bool} {A B : Prop}
theorem zA (h : x = some a) (q : Q a) : ofO x Q := by subst h; exact q
theorem m8 (h : b = true) (q : A) : br b A B := by subst h; exact q
theorem w0 (h : b = false) (q : B) : br b A B := by subst h; exact q
theorem yJ (p : b = true → A) (q : b = false → B) : br b A B := by
 cases b with
 | true => exact p rfl
 | false => exact q rfl
end
theorem zE {n : Nat} {f : D} {args : List D} {st : St} {Q : D → St → Prop} (h : wc CQ (zD CQ n) f args st Q) : zD CQ (n + 1) f args st Q := by
 rw [xy]; exact h
section
variable {t : Tg} {α : Type}
theorem yF (f : α → D) {body : Rg → MC Out} {Q : Out → St → Prop} (P : List α → List α → Rg → St → Prop)
  (step : ∀ done x rest ρ st (K : Out → St → Prop), P done (x :: rest) ρ st → (∀ ρ' st', P (done ++ [x]) rest ρ' st' → K (.fall ρ') st') → (∀ d st', Q (.ret d) st' → K (.ret d) st') → yV t (f x) ρ fun ρ => body ρ st K)
  (last : ∀ done ρ st, P done [] ρ st → Q (.fall ρ) st) : ∀ {l done : List α} {ρ : Rg} {st : St}, P done l ρ st → oU t body (l.map f) ρ st Q
 | [], done, ρ, st, h => last done ρ st h
 | x :: l, done, ρ, st, h => step done x l ρ st _ h (fun ρ' st' h' => yF f P step last h') fun d st' q => q
theorem xp (f : α → D) {ρ : Rg} {c : Rg → MC Bool} {e : Rg → MC D} (P : List α → List α → List D → St → Prop)
  (step : ∀ done x rest acc st (K : D → St → Prop) (K' : St → Prop), P done (x :: rest) acc st → (∀ d st', P (done ++ [x]) rest (acc ++ [d]) st' → K d st') → (∀ st', P (done ++ [x]) rest acc st' → K' st') →
   yV t (f x) ρ fun ρ' => c ρ' st fun b st => br b (e ρ' st K) (K' st)) :
  ∀ {l done : List α} {acc : List D} {st : St} {Q : List D → St → Prop}, P done l acc st → (∀ r st', P (done ++ l) [] (acc ++ r) st' → Q r st') → xV t ρ c e (l.map f) st Q
 | [], done, acc, st, Q, h, q => q [] st (by simpa using h)
 | x :: l, done, acc, st, Q, h, q => step done x l acc st _ _ h (fun d st' h' => xp f P step h' fun r st'' h'' => q _ _ (by simpa using h'')) fun st' h' => xp f P step h' fun r st'' h'' => q _ _ (by simpa using h'')
theorem zx (f g : α → D) {ρ : Rg} {c : Rg → MC Bool} {e : Rg → MC D} {st : St} : ∀ {l : List α} {Q : List D → St → Prop},
  (∀ x, x ∈ l → ∀ (K : D → St → Prop) (K' : St → Prop), K (g x) st → yV t (f x) ρ fun ρ' => c ρ' st fun b st => br b (e ρ' st K) (K' st)) → Q (l.map g) st → xV t ρ c e (l.map f) st Q
 | [], Q, step, q => q
 | x :: l, Q, step, q => step x (.head _) _ _ (zx f g (fun y hy => step y (.tail _ hy)) q)
theorem yM (f g : α → D) (p : α → Bool) {ρ : Rg} {c : Rg → MC Bool} {e : Rg → MC D} {st : St} : ∀ {l : List α} {Q : List D → St → Prop},
  (∀ x, x ∈ l → ∀ (K : D → St → Prop) (K' : St → Prop), (p x = true → K (g x) st) → (p x = false → K' st) → yV t (f x) ρ fun ρ' => c ρ' st fun b st => br b (e ρ' st K) (K' st)) → Q ((l.filter p).map g) st → xV t ρ c e (l.map f) st Q
 | [], Q, step, q => q
 | x :: l, Q, step, q => step x (.head _) _ _ (fun h => yM f g p (fun y hy => step y (.tail _ hy)) (by rw [List.filter_cons_of_pos h] at q; exact q)) fun h => yM f g p (fun y hy => step y (.tail _ hy)) (by rw [List.filter_cons_of_neg (by rw [h]; decide)] at q; exact q)
theorem k8 {c : Rg → MC Bool} {body : Rg → MC Out} {Q : Out → St → Prop} (P : Nat → Rg → St → Prop)
  (step : ∀ n ρ st (K : Out → St → Prop), P n ρ st → (∀ m ρ' st', n = m + 1 → P m ρ' st' → K (.fall ρ') st') → (∀ d st', Q (.ret d) st' → K (.ret d) st') → c ρ st fun b st' => br b (body ρ st' K) (Q (.fall ρ) st'))
  (n : Nat) {ρ : Rg} {st : St} (h : P n ρ st) : ng c body ρ st Q := by
 refine ⟨n + 1, ?_⟩
 induction n generalizing ρ st with
 | zero => exact step 0 ρ st _ h (fun m U U e => by first | exact cn e | exact nc e | exact sn e | exact ns e) fun U U q => q
 | succ n ih => exact step (n + 1) ρ st _ h (fun m U U e h' => by cases e; exact ih h') fun U U q => q
end
inductive Pat where
 | wild
 | var (s : Str)
 | lit (i : Int)
 | A
 | B (p : Pat)
noncomputable def Pat.ctorIdx (x : Pat) : Nat := x.casesOn 0 (fun a => 1) (fun a => 2) 3 (fun a => 4)
noncomputable def Pat.cls : Pat → Cls
 | .wild => .PWild
 | .var _ => .PVar
 | .lit _ => .PLit
 | _ => .PCon
noncomputable def Pat.fl : Pat → List D
 | .wild => [.none]
 | .var s => [.none, .str s]
 | .lit i => [.none, .str (Str.ofString "int"), .int i]
 | .A => [.none, .str (Str.ofString "M.A"), .list []]
 | .B p => [.none, .str (Str.ofString "M.B"), .list [.obj 0 p.cls p.fl]]
noncomputable def Pat.d (p : Pat) : D := .obj 0 p.cls p.fl
noncomputable def Pat.idle : Pat → Bool
 | .wild => true
 | .var _ => true
 | _ => false
noncomputable def Pat.args : Pat → List Pat
 | .B p => [p]
 | _ => []
noncomputable def Pat.vars : Pat → List Str
 | .var s => [s]
 | .B p => p.vars
 | _ => []
set_option genCtorIdx true in
inductive Key where
 | A
 | B
 | lit (i : Int)
 deriving DecidableEq
noncomputable def Key.l : Key → List D
 | .A => [.str (Str.ofString "con"), .str (Str.ofString "M.A")]
 | .B => [.str (Str.ofString "con"), .str (Str.ofString "M.B")]
 | .lit i => [.str (Str.ofString "lit"), .str (Str.ofString "int"), .int i]
noncomputable def Key.d (k : Key) : D := .tup k.l
noncomputable def Key.many : Key → Nat
 | .B => 1
 | _ => 0
noncomputable def Pat.key : Pat → Option Key
 | .lit i => some (.lit i)
 | .A => some .A
 | .B _ => some .B
 | _ => none
noncomputable def gk : Option Key → D
 | none => .none
 | some k => k.d
structure Ln where
 number : Nat
 pats : List Pat
 binds : List (Str × Str)
 lost : Bool
noncomputable def xq (b : Str × Str) : D := .tup [.str b.1, .str b.2]
noncomputable def Ln.d (l : Ln) : D := .obj 0 .Line [.int l.number, .list (l.pats.map Pat.d), .list (l.binds.map xq), .bool l.lost]
noncomputable def Ln.plain (l : Ln) (i : Nat) (c : Str) : Ln := match l.pats[i]? with
 | some (.var s) => { l with pats := l.pats.set i .wild, binds := l.binds ++ [(s, c)] }
 | _ => l
noncomputable def Ln.put (l : Ln) (i : Nat) (ps : List Pat) : Ln := { l with pats := l.pats.take i ++ ps ++ l.pats.drop (i + 1) }
noncomputable def Ln.losing (l : Ln) (i m : Nat) : List Ln :=
 if (l.pats.take i).all Pat.idle then [] else [{ number := l.number, pats := l.pats.take i ++ List.replicate (m + l.pats.length - i - 1) .wild, binds := [], lost := true }]
noncomputable def Ln.key (l : Ln) (i : Nat) : Option Key := (l.pats[i]?).bind Pat.key
noncomputable def Ln.kept (k : Key) (i : Nat) (l : Ln) : List Ln := match l.key i with
 | none => [l.put i (List.replicate k.many .wild)]
 | some k' => if k' = k then [l.put i ((l.pats[i]?).elim [] Pat.args)] else l.losing i k.many
noncomputable def Ln.others (i : Nat) (l : Ln) : List Ln := match l.key i with
 | none => [l.put i []]
 | some _ => l.losing i 0
mutual
inductive Tree where
 | nothing
 | leaf (n : Nat) (bs : List (Str × Str)) (o : OTree)
 | switch (x : Str) (b : Brs) (o : OTree)
inductive OTree where
 | none
 | some (t : Tree)
inductive Brs where
 | nil
 | cons (k : Key) (fs : List Str) (t : Tree) (r : Brs)
end
noncomputable def Tree.ctorIdx (x : Tree) : Nat := x.casesOn 0 (fun a a a => 1) (fun a a a => 2)
noncomputable def OTree.ctorIdx (x : OTree) : Nat := x.casesOn 0 (fun a => 1)
noncomputable def Brs.ctorIdx (x : Brs) : Nat := x.casesOn 0 (fun a a a a => 1)
noncomputable def Tree.cls : Tree → Cls
 | .nothing => .Nothing
 | .leaf _ _ _ => .Leaf
 | .switch _ _ _ => .Switch
mutual
noncomputable def Tree.fl : Tree → List D
 | .nothing => []
 | .leaf n bs o => [.int n, .list (bs.map xq), o.d]
 | .switch x b o => [.str x, .list b.d, o.d]
noncomputable def OTree.d : OTree → D
 | .none => .none
 | .some t => .obj 0 t.cls t.fl
noncomputable def Brs.d : Brs → List D
 | .nil => []
 | .cons k fs t r => .tup [k.d, .list (fs.map .str), .obj 0 t.cls t.fl] :: r.d
end
noncomputable def Tree.d (t : Tree) : D := .obj 0 t.cls t.fl
open Classical in
noncomputable def scan : List Str → Nat → Ln → Ln × Option Nat
 | [], _, l => (l, none)
 | c :: cs, i, l => if (l.plain i c).pats[i]? = some .wild then scan cs (i + 1) (l.plain i c) else (l.plain i c, some i)
noncomputable def yL (keys : List Key) : Option Key → List Key
 | none => keys
 | some k => if k ∈ keys then keys else keys ++ [k]
noncomputable def zJ (i : Nat) (ls : List Ln) : List Key := ls.foldl (fun ks l => yL ks (l.key i)) []
noncomputable def gm (base : String) (n : Nat) : Str := Str.ofString base ++ Str.ofString "." ++ strOf n
noncomputable def zo : Nat → Nat → List Str
 | _, 0 => []
 | c, m + 1 => gm "field" (c + 1) :: zo (c + 1) m
noncomputable def zQ (tr : List Str → List Ln → Nat → Tree × Nat) (i : Nat) (cols : List Str) (ls : List Ln) : List Key → Nat → Brs × Nat
 | [], c => (.nil, c)
 | k :: ks, c =>
  let fs := zo c k.many
  let t := tr (cols.take i ++ fs ++ cols.drop (i + 1)) (ls.flatMap (Ln.kept k i)) (c + k.many)
  let r := zQ tr i cols ls ks t.2
  (.cons k fs t.1 r.1, r.2)
noncomputable def ue (keys : List Key) : Bool := match keys with
 | .A :: r => r.length == 1
 | .B :: r => r.length == 1
 | _ => false
noncomputable def xW (tr : List Str → List Ln → Nat → Tree × Nat) (i : Nat) (cols : List Str) (ls : List Ln) (c : Nat) : Tree × Nat :=
 let x := (cols[i]?).getD default
 let pl := ls.map fun l => l.plain i x
 let keys := zJ i pl
 let b := zQ tr i cols pl keys c
 if ue keys then (.switch x b.1 .none, b.2) else
  let t := tr (cols.take i ++ cols.drop (i + 1)) (pl.flatMap (Ln.others i)) b.2
  (.switch x b.1 (.some t.1), t.2)
noncomputable def qR (falls : List Bool) (T : Tree × Nat) (f : Ln) (c : Nat) : Tree × Nat := if f.lost then T else if (falls[f.number]?).getD false then (.leaf f.number f.binds (.some T.1), T.2) else (.leaf f.number f.binds .none, c)
noncomputable def m9 (falls : List Bool) (tr : List Str → List Ln → Nat → Tree × Nat) (cols : List Str) (ls : List Ln) (c : Nat) (p : Ln × Option Nat) : Tree × Nat := match p.2 with
 | some i => xW tr i cols (p.1 :: ls) c
 | none => qR falls (tr cols ls c) p.1 c
noncomputable def z9 (falls : List Bool) : Nat → List Str → List Ln → Nat → Tree × Nat
 | 0, _, _, c => (.nothing, c)
 | N + 1, cols, lines, c => match lines with
  | [] => (.nothing, c)
  | l :: ls => m9 falls (z9 falls N) cols ls c (scan cols 0 l)
section
variable {falls : List Bool} {N : Nat} {cols : List Str} {l f : Ln} {ls : List Ln} {c i : Nat}
theorem vZ : z9 falls N cols [] c = (.nothing, c) := by cases N <;> rfl
theorem xO (h : scan cols 0 l = (f, some i)) : z9 falls (N + 1) cols (l :: ls) c = xW (z9 falls N) i cols (f :: ls) c := congrArg (m9 falls (z9 falls N) cols ls c) h
theorem xP (h : scan cols 0 l = (f, none)) : z9 falls (N + 1) cols (l :: ls) c = qR falls (z9 falls N cols ls c) f c := congrArg (m9 falls (z9 falls N) cols ls c) h
end
structure Chg (l : List Nat) (st st' : St) : Prop where
 len : st.sto.length ≤ st'.sto.length
 nt : st.nt ≤ st'.nt
 keep : ∀ k, k < st.sto.length → k ∉ l → st'.sto[k]? = st.sto[k]?
theorem Chg.refl {l : List Nat} {st : St} : Chg l st st := ⟨Nat.le_refl _, Nat.le_refl _, fun U U U => rfl⟩
theorem Chg.trans {l : List Nat} {a b c : St} (x : Chg l a b) (y : Chg l b c) : Chg l a c :=
 ⟨Nat.le_trans x.len y.len, Nat.le_trans x.nt y.nt, fun k h n => (y.keep k (Nat.lt_of_lt_of_le h x.len) n).trans (x.keep k h n)⟩
theorem Chg.mono {l m : List Nat} {a b : St} (x : Chg l a b) (h : ∀ k, k ∈ l → k ∈ m) : Chg m a b := ⟨x.len, x.nt, fun k hk n => x.keep k hk fun z => n (h k z)⟩
theorem Chg.get {l : List Nat} {a b : St} (x : Chg l a b) {k : Nat} {o : MO} (h : a.sto[k]? = some o) (n : k ∉ l) : b.sto[k]? = some o := by
 rw [x.keep k (List.getElem?_eq_some_iff.mp h).1 n, h]
theorem Chg.push {l : List Nat} {st : St} {r : List MO} {n : Nat} (h : st.nt ≤ n) : Chg l st ⟨st.sto ++ r, n⟩ :=
 ⟨by simp, h, fun k hk U => List.getElem?_append_left hk⟩
theorem Chg.set {st : St} {k : Nat} {o : MO} : Chg [k] st { st with sto := st.sto.set k o } :=
 ⟨by simp, Nat.le_refl _, fun j hj n => List.getElem?_set_ne fun e => n (by simp [e])⟩
theorem Chg.fresh {l m : List Nat} {a b c : St} (x : Chg l a b) (y : Chg m b c) (h : ∀ k ∈ m, k ∈ l ∨ a.sto.length ≤ k) : Chg l a c :=
 ⟨Nat.le_trans x.len y.len, Nat.le_trans x.nt y.nt, fun k hk n => (y.keep k (Nat.lt_of_lt_of_le hk x.len) fun z => (h k z).elim n fun q => absurd hk (Nat.not_lt.mpr q)).trans (x.keep k hk n)⟩
section
variable {α β : Type} {l m : List α} {N : Nat}
theorem z5 {f : α → β} (h : l.length ≤ N) : (l.map f).length ≤ N := by rw [List.length_map]; exact h
theorem uf {p : Nat} (h : l.length ≤ N) : (l.take p).length ≤ N := Nat.le_trans (List.length_take_le' _ _) h
theorem oI {p : Nat} (h : l.length ≤ N) : (l.drop p).length ≤ N := Nat.le_trans (by rw [List.length_drop]; exact Nat.sub_le _ _) h
theorem yG (h : l.length ≤ 100) (k : m.length ≤ 100) : l.length + m.length ≤ sizeLine := Nat.le_trans (Nat.add_le_add h k) (by decide)
theorem zU {a : Nat} (h : a ≤ 1000) : a ≤ sizeLine := Nat.le_trans h (by decide)
theorem uF (h : l.length ≤ 100) (k : m.length ≤ 100) : (l ++ m).length ≤ 200 := by rw [List.length_append]; exact Nat.add_le_add h k
theorem uG (h : l.length ≤ 200) (k : m.length ≤ 100) : l.length + m.length ≤ sizeLine := Nat.le_trans (Nat.add_le_add h k) (by decide)
end
section
variable {n : Nat} {st : St} {Q : D → St → Prop}
theorem tm {p : Pat} (q : Q p.d st) : zD CQ (n + 1) (.val (.ref 678)) [p.d] st Q := by
 refine zE ⟨rfl, ?_⟩
 cases p <;> exact q
theorem pE {p : Pat} (q : Q (.bool p.idle) st) : zD CQ (n + 1) (.val (.ref 842)) [p.d] st Q := by
 refine zE ⟨rfl, ?_⟩
 cases p <;> (refine ⟨1, ?_⟩; exact q)
theorem v5 {p : Pat} (q : Q (gk p.key) st) : zD CQ (n + 1) (.val (.ref 889)) [p.d] st Q := by
 refine zE ⟨rfl, ?_⟩
 cases p <;> exact q
theorem pF {l : Ln} {ps : List Pat} {p : Nat} (h1 : l.pats.length ≤ 100) (h2 : ps.length ≤ 100) (q : Q (l.put p ps).d st) :
  zD CQ (n + 1) (.val (.ref 870)) [l.d, .int p, .list (ps.map Pat.d)] st Q := by
 refine zE ⟨rfl, ?_⟩
 refine And.intro (yG (m := ps.map Pat.d) (uf (z5 h1)) (z5 h2)) ?_
 refine And.intro (uG (uF (m := ps.map Pat.d) (uf (z5 h1)) (z5 h2)) (oI (z5 h1))) ?_
 unfold Ln.put Ln.d at q
 rw [List.map_append, List.map_append, List.map_take, List.map_drop] at q
 exact q
theorem qS {l : Ln} {p : Nat} {c : Str} {b : Bool} (h1 : l.pats.length ≤ 100) (h2 : p < l.pats.length) (h3 : l.binds.length ≤ 100) (q : Q (l.plain p c).d st) :
  zD CQ (n + 4) (.val (.ref 863)) [l.d, .int p, .str c, .bool b] st Q := by
 refine zE ⟨rfl, ?_⟩
 have hx : l.pats[p]? = some l.pats[p] := List.getElem?_eq_getElem h2
 generalize l.pats[p] = x at hx
 refine zA (a := x.d) ((List.getElem?_map ..).trans (by rw [hx]; rfl)) ?_
 refine tm ?_
 have fin : ∀ (y : Pat) (bs : List (Str × Str)) (K : D → St → Prop), K (Ln.d { l with pats := l.pats.set p y, binds := bs }) st → yx .Line [.int l.number, .list (((l.pats.map Pat.d).take p ++ [y.d]) ++ (l.pats.map Pat.d).drop (p + 1)), .list (bs.map xq), .bool l.lost] st K := by
  intro y bs K q
  unfold Ln.d at q
  dsimp only at q
  rw [List.set_eq_take_append_cons_drop, if_pos h2, List.map_append, List.map_cons, List.map_take, List.map_drop] at q
  rw [List.append_assoc]
  exact q
 have s1 : ∀ y : D, ((l.pats.map Pat.d).take p).length + [y].length ≤ sizeLine := fun y => yG (m := [y]) (uf (z5 h1)) (Nat.le_of_ble_eq_true rfl)
 have s2 : ∀ y : D, ((l.pats.map Pat.d).take p ++ [y]).length + ((l.pats.map Pat.d).drop (p + 1)).length ≤ sizeLine := fun y => uG (uF (m := [y]) (uf (z5 h1)) (Nat.le_of_ble_eq_true rfl)) (oI (z5 h1))
 have same : ∀ y, l.pats[p]? = some y → Q (Ln.d l) st → Q (Ln.d { l with pats := l.pats.set p y }) st := fun y hy q => by
  obtain ⟨hp, rfl⟩ := List.getElem?_eq_some_iff.mp hy
  rw [List.set_getElem_self]; exact q
 cases x with
 | var s =>
  have e : l.plain p c = { l with pats := l.pats.set p .wild, binds := l.binds ++ [(s, c)] } := by unfold Ln.plain; rw [hx]
  rw [e] at q
  refine ⟨2, ?_⟩
  refine And.intro (yG (m := [_]) (z5 h3) (Nat.le_of_ble_eq_true rfl)) ?_
  refine tm (p := .wild) ?_
  cases b <;>
  ·refine And.intro (s1 _) ?_
   refine And.intro (s2 _) ?_
   have := fin .wild _ _ q
   rw [List.map_append] at this
   exact this
 | _ =>
  have e : l.plain p c = l := by unfold Ln.plain; rw [hx]
  rw [e] at q
  have q' := same _ hx q
  refine ⟨1, ?_⟩
  cases b <;>
  ·refine And.intro (s1 _) ?_
   refine And.intro (s2 _) ?_
   exact fin _ _ _ q'
theorem tn {l : Ln} {p m : Nat} (h1 : l.pats.length ≤ 100) (h2 : p < l.pats.length) (h3 : m ≤ 100) (q : Q (.list ((l.losing p m).map Ln.d)) st) :
  zD CQ (n + 2) (.val (.ref 875)) [l.d, .int p, .int m] st Q := by
 refine zE ⟨rfl, ?_⟩
 conv => whnf
 rw [← List.map_take]
 refine yM Pat.d Pat.d (fun p => !p.idle) (fun x U K K' k1 k2 => ?_) ?_
 ·refine pE ?_
  exact yJ k1 k2
 have he : eqD 3 (.list (((l.pats.take p).filter fun p => !p.idle).map Pat.d)) (.list []) = some ((l.pats.take p).all Pat.idle) := by
  have : (((l.pats.take p).filter fun p => !p.idle).map Pat.d).isEmpty = (l.pats.take p).all Pat.idle := by
   rw [Bool.eq_iff_iff]; simp [List.isEmpty_iff, List.filter_eq_nil_iff]
  rw [← this]
  cases ((l.pats.take p).filter fun p => !p.idle).map Pat.d <;> rfl
 refine zA he ?_
 unfold Ln.losing at q
 refine yJ (fun hb => ?_) fun hb => ?_
 ·rw [if_pos hb] at q
  exact q
 ·rw [if_neg (by rw [hb]; decide)] at q
  refine ⟨m + l.pats.length - p - 1, ⟨?_, zU (by exact lin4 [_,_,_,_] 0 V0 U1000 1 V1 U100 1 V2 U100 1 V0 V3 1 V3 (.a V2 V1) tt h1 h3 (Nat.sub_le _ _) (Nat.sub_le _ _))⟩, ?_⟩
  ·rw [List.length_map]; show (m : Int) + (l.pats.length : Int) - (p : Int) - 1 = _; omega
  refine zx _ (fun U => Pat.wild.d) (fun x U K K' k => k) ?_
  conv => whnf
  rw [← List.map_take]
  refine And.intro (zU (by simp; exact lin5 [_,_,_,_,_,_] 0 (.a V0 V1) U1000 1 V2 U100 1 V3 U100 1 V0 V4 1 V1 V5 1 (.a V5 V4) (.a V3 V2) tt h1 h3 (Nat.min_le_left _ _) (Nat.sub_le _ _) (sb3 (lin1 [_,_,_] 0 V0 (.a V1 V2) 1 S0 V2 tt h2)))) ?_
  have e : (List.range (m + l.pats.length - p - 1)).map (fun U => Pat.wild.d) = (List.replicate (m + l.pats.length - p - 1) Pat.wild).map Pat.d := by
   rw [List.map_const', List.length_range, List.map_replicate]
  rw [e, ← List.map_append]
  exact q
end
section
variable {κ : Type} [DecidableEq κ]
theorem qT {x : κ} {d : D} : ∀ {ks : List κ} {l : List D}, x ∉ ks → ks.length = l.length → (ks.zip l).map (fun p => if p.1 = x then d else p.2) = l
 | [], [], _, _ => rfl
 | [], _ :: _, _, h => by simp at h
 | _ :: _, [], _, h => by simp at h
 | k :: ks, a :: l, hx, h => by
  simp only [List.zip_cons_cons, List.map_cons]
  rw [if_neg (fun e => hx (by simp [← e])), qT (fun z => hx (by simp [z])) (by simpa using h)]
theorem w2 {ks : List κ} {l : List D} {x y : κ} {d : D} (h : ks.length = l.length) :
  ((zS ks l x d).1.zip (zS ks l x d).2).lookup y = if y = x then some d else (ks.zip l).lookup y := by
 unfold zS
 induction ks generalizing l with
 | nil =>
  cases l with
  | nil =>
   by_cases e : y = x
   ·subst e; simp [List.lookup]
   ·simp [List.lookup, e, beq_eq_false_iff_ne.mpr e]
  | cons _ _ => simp at h
 | cons k ks ih =>
  cases l with
  | nil => simp at h
  | cons a l =>
   have ih := ih (l := l) (by simpa using h)
   by_cases hx : x ∈ ks
   ·have h1 : (k :: ks).contains x = true := by simp [hx]
    have h2 : ks.contains x = true := by simp [hx]
    rw [if_pos h1]; rw [if_pos h2] at ih
    simp only [List.zip_cons_cons, List.map_cons, List.lookup_cons]
    by_cases e : y = k
    ·subst e
     simp only [beq_self_eq_true]
     by_cases e2 : y = x <;> simp [e2]
    ·rw [beq_eq_false_iff_ne.mpr e]; exact ih
   ·by_cases hk : x = k
    ·subst hk
     rw [if_pos (by simp)]
     simp only [List.zip_cons_cons, List.map_cons, List.lookup_cons]
     by_cases e : y = x
     ·subst e; simp
     ·rw [beq_eq_false_iff_ne.mpr e, if_neg e]
      rw [qT hx (by simpa using h)]
    ·have h1 : ¬ ((k :: ks).contains x = true) := by simp [hx, hk]
     have h2 : ¬ (ks.contains x = true) := by simp [hx]
     rw [if_neg h1]; rw [if_neg h2] at ih
     simp only [List.cons_append, List.zip_cons_cons, List.lookup_cons]
     by_cases e : y = k
     ·subst e; rw [if_neg (fun z => hk (Eq.symm z))]; simp
     ·rw [beq_eq_false_iff_ne.mpr e]; exact ih
theorem uH {ks : List κ} {l : List D} {x : κ} {d : D} (h : ks.length = l.length) : (zS ks l x d).1.length = (zS ks l x d).2.length := by
 unfold zS
 split <;> simp [h]
theorem ug {ks : List κ} {l : List D} {x : κ} {d : D} : (zS ks l x d).1 = if x ∈ ks then ks else ks ++ [x] := by
 unfold zS
 by_cases h : x ∈ ks <;> simp [h]
set_option tactic.hygienic true in
theorem tq {ks : List κ} {l : List D} {x : κ} {d : D} (h : ks.Nodup) : (zS ks l x d).1.Nodup := by
 rw [ug]
 split
 ·exact h
 ·rename_i hn
  rw [List.nodup_append]
  exact ⟨h, by simp, fun a ha b hb e => hn (by simp at hb; subst hb; exact e ▸ ha)⟩
theorem oJ {ks : List κ} {l : List D} {x : κ} {d : D} (h : x ∉ ks) : zS ks l x d = (ks ++ [x], l ++ [d]) := by
 unfold zS; simp [h]
theorem w3 {ks : List κ} {l : List D} {x : κ} {d : D} : (zS ks l x d).2.length ≤ l.length + 1 := by
 unfold zS
 split
 ·simp; exact lin1 [_,_] 0 V0 S1 1 V0 V1 tt (Nat.min_le_right _ _)
 ·simp
end
theorem yz {n : Nat} (h : n < 10 ^ 18) : (strOf (n : Int)).length ≤ 18 := by
 have e : (strOf (n : Int)).length = n.repr.length := by
  unfold strOf Str.length
  rw [Str.ofString_eq_toList]
  simp only [List.size_toArray, List.length_map]
  rfl
 rw [e, Nat.length_repr_le_iff (by decide)]
 exact h
noncomputable abbrev Cnt := Str → Nat
noncomputable def Cnt.set (f : Cnt) (b : Str) (n : Nat) : Cnt := fun x => if x = b then n else f x
noncomputable def z6 (b : Str) (n : Nat) : Str := b ++ Str.ofString "." ++ strOf n
structure Nums (ks : List Str) (l : List D) (f : Cnt) : Prop where
 len : ks.length = l.length
 nd : ks.Nodup
 sub : ∀ x ∈ ks, x ∈ zf
 val : ∀ x, (tB ks l x).getD (.int 0) = .int (f x)
theorem Nums.small {ks : List Str} {l : List D} {f : Cnt} (h : Nums ks l f) : l.length ≤ 7 := by
 rw [← h.len]; exact h.nd.length_le_of_subset h.sub
theorem Nums.set {ks : List Str} {l : List D} {f : Cnt} (h : Nums ks l f) {b : Str} (hb : b ∈ zf) {n : Nat} : Nums (zS ks l b (.int n)).1 (zS ks l b (.int n)).2 (f.set b n) where
 len := uH h.len
 nd := tq h.nd
 sub x hx := by
  rw [ug] at hx
  split at hx
  ·exact h.sub x hx
  ·rcases List.mem_append.mp hx with q | q
   ·exact h.sub x q
   ·simp at q; exact q ▸ hb
 val x := by
  unfold tB Cnt.set
  rw [w2 h.len]
  split
  ·rfl
  ·exact h.val x
theorem Nums.nil : Nums [] [] (fun U => 0) := ⟨rfl, by simp, by simp, fun U => rfl⟩
noncomputable def iS (nm : String) (tag ar : Int) : D := .obj 0 .ConInfo [.str (Str.ofString nm), .int tag, .int ar, .list [], .str (Str.ofString "T"), .none, .int 2, .bool false]
noncomputable def consK : List Str := [Str.ofString "M.A", Str.ofString "M.B"]
noncomputable def xX : List D := [iS "M.A" 0 0, iS "M.B" 1 1]
structure Env (kc ka kn : Nat) (f : Cnt) (st : St) : Prop where
 cons : st.sto[kc]? = some (.dS consK xX) ∨ st.sto[kc]? = some (.fS consK xX)
 avo : ∃ ks l, st.sto[ka]? = some (.dS ks l) ∧ ∀ x ∈ ks, x.length ≤ 4
 num : ∃ ks l, st.sto[kn]? = some (.dS ks l) ∧ Nums ks l f
 ne1 : kc ≠ ka
 ne2 : kc ≠ kn
 ne3 : ka ≠ kn
theorem Env.keep {kc ka kn : Nat} {f : Cnt} {st st' : St} {l : List Nat} (h : Env kc ka kn f st) (c : Chg l st st') (hl : kc ∉ l ∧ ka ∉ l ∧ kn ∉ l) : Env kc ka kn f st' where
 cons := h.cons.imp (fun z => c.get z hl.1) fun z => c.get z hl.1
 avo := by obtain ⟨ks, l, e, z⟩ := h.avo; exact ⟨ks, l, c.get e hl.2.1, z⟩
 num := by obtain ⟨ks, l, e, z⟩ := h.num; exact ⟨ks, l, c.get e hl.2.2, z⟩
 ne1 := h.ne1
 ne2 := h.ne2
 ne3 := h.ne3
theorem Env.keep0 {kc ka kn : Nat} {f : Cnt} {st st' : St} (h : Env kc ka kn f st) (c : Chg [] st st') : Env kc ka kn f st' := h.keep c (by simp)
theorem dot_len {b : Str} (hb : b ∈ zf) : 4 ≤ b.length ∨ b.length ≤ 6 := by
 have : ∀ b ∈ zf, 4 ≤ b.length ∨ b.length ≤ 6 := by decide +kernel
 exact this b hb
theorem qU {b : Str} (hb : b ∈ zf) : 3 ≤ b.length ∧ b.length ≤ 6 := by
 have : ∀ b ∈ zf, 3 ≤ b.length ∧ b.length ≤ 6 := by decide +kernel
 exact this b hb
theorem nD {n : Nat} : 1 ≤ (strOf (n : Int)).length := by
 have e : (strOf (n : Int)).length = n.repr.length := by
  unfold strOf Str.length
  rw [Str.ofString_eq_toList]
  simp only [List.size_toArray, List.length_map]
  rfl
 rw [e]
 have := @Nat.length_repr_pos n
 exact lin1 [_] 0 U1 V0 1 (.a U0 U1) V0 tt this
theorem pG {b : Str} (hb : b ∈ zf) {n : Nat} : 5 ≤ (z6 b n).length := by
 unfold z6
 rw [Str.length_append, Str.length_append]
 have h1 := qU hb
 have h2 := @nD n
 have h3 : (Str.ofString ".").length = 1 := by decide +kernel
 exact lin3 [_,_,_] 0 (.n 5) (.a (.a V0 V1) V2) 1 (.n 3) V0 1 U1 V2 1 U1 V1 tt h1.1 h2 (er h3)
theorem wx {o : Option MO} {F : MO → Prop} {G : Prop} {a b : MO} (h : o = some a ∨ o = some b) (e1 : F a = G) (e2 : F b = G) (q : G) : ofO o F := by
 rcases h with rfl | rfl
 ·show F a; rw [e1]; exact q
 ·show F b; rw [e2]; exact q
theorem zM {l : List MO} {k : Nat} {o : MO} (h : l[k]? = some o) : k < l.length := (List.getElem?_eq_some_iff.mp h).1
theorem set_at {l : List MO} {k : Nat} {o o' : MO} (h : l[k]? = some o) : (l.set k o')[k]? = some o' := List.getElem?_set_self (zM h)
theorem tu {F : MO → Prop} {G : St → Prop} {st : St} {k : Nat} {a b : MO} (h : st.sto[k]? = some a ∨ st.sto[k]? = some b) (e1 : F a = yi k b st G) (e2 : F b = G st) (q : ∀ st', Chg [k] st st' → st'.nt = st.nt → st'.sto[k]? = some b → G st') : ofO st.sto[k]? F := by
 rcases h with h | h
 ·rw [h]; show F a; rw [e1, yB]; exact q _ .set rfl (set_at h)
 ·rw [h]; show F b; rw [e2]; exact q _ .refl rfl h
section
variable {st : St}
theorem zi {o : MO} {Q : D → St → Prop} (q : ∀ st' k, Chg [] st st' → st'.nt = st.nt → st'.sto[k]? = some o → st.sto.length ≤ k → Q (.mref k) st') : uK o st Q := by
 rw [xF]; exact q _ _ (.push (Nat.le_refl _)) rfl (by simp) (Nat.le_refl _)
theorem zP {k : Nat} {o o' : MO} {Q : St → Prop} (h : st.sto[k]? = some o) (q : ∀ st', Chg [k] st st' → st'.nt = st.nt → st'.sto[k]? = some o' → Q st') : yi k o' st Q := by
 rw [yB]; exact q _ .set rfl (set_at h)
end
theorem push_at {l : List MO} {o : MO} : (l ++ [o])[l.length]? = some o := by simp
section
variable {n : Nat} {st : St} {Q : D → St → Prop}
theorem pH {b : Str} (hb : b ∈ zf) (q : Q (.str b) st) : zD CQ (n + 1) (.val (.ref 1108)) [.str b] st Q := by
 refine zE ⟨rfl, ?_⟩
 exact And.intro ⟨rfl, hb⟩ q
theorem iT {b : Str} (hb : b ∈ zf) {m : Nat} {ks : List Str} (hk : ∀ x ∈ ks, x.length ≤ 4) : ks.contains (z6 b m) = false := by
 rw [List.contains_eq_mem, decide_eq_false_iff_not]
 intro z
 have := hk _ z
 have := @pG b hb m
 omega
noncomputable def ys (ka kn : Nat) : D := .obj 0 .Fresh [.mref ka, .mref kn]
theorem xQ {kc ka kn : Nat} {f : Cnt} {b : Str} (hb : b ∈ zf) (hf : f b < 10 ^ 9) (h : Env kc ka kn f st) (q : ∀ st', Chg [kn] st st' → st'.nt = st.nt → Env kc ka kn (f.set b (f b + 1)) st' → Q (.str (z6 b (f b + 1))) st') :
  zD CQ (n + 2) (.val (.ref 1138)) [ys ka kn, .str b] st Q := by
 refine zE ⟨rfl, ?_⟩
 refine pH hb ?_
 refine hid fun hG => ?_
 obtain ⟨ks, vs, hn, hv⟩ := h.num
 obtain ⟨ms, ws, ha, hm⟩ := h.avo
 refine hG ?_
 refine zA hn ?_
 refine zA hn ?_
 conv => whnf
 rw [hv.val b]
 refine ⟨1, ?_⟩
 have hl := qU hb
 have hd : (Str.ofString ".").length = 1 := by decide +kernel
 have hs := @yz (f b + 1) (by exact lin1 [_] 0 (.a S0 U1) (.n 1000000000000000000) 1 S0 (.n 1000000000) tt hf)
 have z1 : b.length + (Str.ofString ".").length ≤ sizeLine := zU (by exact lin2 [_,_] 0 (.a V0 V1) U1000 1 V0 (.n 6) 1 V1 U1 tt hl.2 (el hd))
 have z2 : ((f b : Int) + 1).natAbs < 2 ^ 64 := by omega
 have z3 : (b ++ Str.ofString ".").length + (strOf ((f b : Int) + 1)).length ≤ sizeLine := zU (by rw [Str.length_append]; have : (strOf ((f b : Int) + 1)).length = (strOf ((f b + 1 : Nat) : Int)).length := rfl; exact lin4 [_,_,_,_] 0 (.a (.a V0 V1) V2) U1000 1 V0 (.n 6) 1 V1 U1 1 V3 (.n 18) 1 V2 V3 tt hl.2 (el hd) hs (el this))
 refine And.intro z1 ?_
 refine And.intro z2 ?_
 refine And.intro z3 ?_
 refine zA ha ?_
 refine w0 (iT hb hm (m := f b + 1)) ?_
 refine zA hn ?_
 have hz := hv.set hb (n := f b + 1)
 refine And.intro (zU (Nat.le_trans hz.small (by decide))) ?_
 refine zP hn fun st' c e hn' => ?_
 refine And.intro z1 ?_
 refine And.intro z2 ?_
 refine And.intro z3 ?_
 exact q _ c e ⟨h.cons.imp (fun z => c.get z (ne1 h.ne2)) fun z => c.get z (ne1 h.ne2), ⟨ms, ws, c.get ha (ne1 h.ne3), hm⟩, ⟨_, _, hn', hz⟩, h.ne1, h.ne2, h.ne3⟩
theorem ma {k ka kn : Nat} {ns : List Str} {ks : List Str} {l : List D} (hn : ns.length ≤ 100) (h0 : st.sto[k]? = some (.ins .Fresh [.avoided, .numbers] [.mref ka, .mref kn])) (h1 : st.sto[ka]? = some (.dS ks l)) (h2 : ks.length = l.length ∧ l.length ≤ 100) (h3 : ∀ x ∈ ks, x.length ≤ 4)
  (h4 : ∀ x ∈ ns, x.length ≤ 4) (hne : k ≠ ka) (q : ∀ st' ks' l', Chg [ka] st st' → st'.nt = st.nt → st'.sto[ka]? = some (.dS ks' l') → (∀ x ∈ ks', x.length ≤ 4) → Q .none st') :
  zD CQ (n + 1) (.val (.ref 1131)) [.mref k, .list (ns.map .str)] st Q := by
 refine zE ⟨rfl, ?_⟩
 refine yF D.str (fun done rest ρ st' => done ++ rest = ns ∧ (∃ y, ρ = [some (.mref k), some (.list (ns.map .str)), y]) ∧ Chg [ka] st st' ∧ st'.nt = st.nt ∧ E2 fun ks' l' => A4 (st'.sto[ka]? = some (.dS ks' l')) (ks'.length = l'.length) (l'.length ≤ 100 + done.length) ((∀ x ∈ ks', x.length ≤ 4))) ?_ ?_ (done := []) ⟨rfl, ⟨_, rfl⟩, .refl, rfl, ks, l, h1, h2.1, h2.2, h3⟩
 ·intro done x rest ρ st' K hz6 k1 k2
  refine hid fun hG => ?_
  obtain ⟨hd, ⟨y, rfl⟩, hc, ht, ks', l', ha, e1, e2, e3⟩ := hz6
  refine hG ?_
  have hl : done.length + 1 + rest.length = ns.length := by rw [← hd]; simp; exact Nat.le_antisymm (lin0 [_,_] 0 (.a S0 V1) (.a V0 S1) tt) (lin0 [_,_] 0 (.a V0 S1) (.a S0 V1) tt)
  have hg := @w3 _ _ ks' l' x (.bool true)
  refine zA (hc.get h0 (ne1 hne)) ?_
  refine zA ha ?_
  refine And.intro (zU (by exact lin4 [_,_,_,_,_] 0 V0 U1000 1 V1 U100 1 V2 (.a U100 V3) 1 (.a S3 V4) V1 1 V0 S2 tt hn e2 (el hl) hg)) ?_
  refine zP ha fun st'' c e ha' => ?_
  refine k1 _ _ ⟨yI hd, ⟨_, rfl⟩, hc.trans c, e.trans ht, _, _, ha', uH e1, by simp; exact lin2 [_,_,_] 0 V0 (.a U100 S1) 1 V2 (.a U100 V1) 1 V0 S2 tt e2 hg, fun y hy => ?_⟩
  rw [ug] at hy
  split at hy
  ·exact e3 y hy
  ·rcases List.mem_append.mp hy with z | z
   ·exact e3 y z
   ·simp at z; subst z; exact h4 y (by rw [← hd]; simp)
 ·intro done ρ st' hz3
  refine hid fun hG => ?_
  obtain ⟨hd, ⟨y, rfl⟩, hc, ht, ks', l', ha, e1, e2, e3⟩ := hz3
  refine hG ?_
  exact q _ _ _ hc ht ha e3
theorem qV {kc : Nat} {ns : List Str} (hn : ns.length ≤ 100) (h4 : ∀ x ∈ ns, x.length ≤ 4) (hc : st.sto[kc]? = some (.dS consK xX) ∨ st.sto[kc]? = some (.fS consK xX))
  (q : ∀ st' ka kn, Chg [] st st' → st'.nt = st.nt → Env kc ka kn (fun U => 0) st' → Q (ys ka kn) st') :
  zD CQ (n + 3) (.val (.ref 1141)) [.list (ns.map .str)] st Q := by
 refine zE ?_
 refine zi fun st₁ k c₁ e₁ h₁ l₁ => ?_
 refine zE ⟨rfl, ?_⟩
 refine zi fun st₂ ka c₂ e₂ h₂ l₂ => ?_
 have h₁ := c₂.get h₁ List.not_mem_nil
 refine zA h₁ ?_
 refine zP h₁ fun st₃ c₃ e₃ h₁ => ?_
 have n1 : k < st₂.sto.length := zM (c₂.get ‹_› List.not_mem_nil)
 refine zi fun st₄ kn c₄ e₄ h₄ l₄ => ?_
 have h₁ := c₄.get h₁ List.not_mem_nil
 refine zA h₁ ?_
 refine zP h₁ fun st₅ c₅ e₅ h₁ => ?_
 have hka : k ≠ ka := by have := zM ‹st₁.sto[k]? = _›; exact Nat.ne_of_lt (lin2 [_,_,_] 0 S0 V1 1 V2 V1 1 S0 V2 tt l₂ this)
 have hkn : k ≠ kn := by have zz1 := c₃.len; have zz2 := c₂.len; have zz3 := zM ‹st₁.sto[k]? = _›; exact Nat.ne_of_lt (lin3 [_,_,_,_] 0 S0 V1 1 S0 V2 1 V3 V1 1 V2 V3 tt n1 l₄ zz1)
 have han : ka ≠ kn := by have zz1 := c₃.len; have zz2 := zM ‹st₂.sto[ka]? = _›; exact Nat.ne_of_lt (lin3 [_,_,_,_] 0 S0 V1 1 V2 V1 1 V3 V2 1 S0 V3 tt l₄ zz1 zz2)
 have h₂ := c₅.get (c₄.get (c₃.get h₂ (by simpa using Ne.symm hka)) List.not_mem_nil) (by simpa using Ne.symm hka)
 have h₄ := c₅.get h₄ (by simpa using Ne.symm hkn)
 refine zA h₁ ?_
 refine ma hn h₁ h₂ ⟨rfl, Nat.zero_le _⟩ nofun h4 hka fun st₆ ks' l' c₆ e₆ h₂ h6 => ?_
 have h₁ := c₆.get h₁ (ne1 hka)
 have h₄ := c₆.get h₄ (by simpa using Ne.symm han)
 refine zA h₁ ?_
 refine And.intro rfl ?_
 refine zP h₁ fun st₇ c₇ e₇ h₁ => ?_
 have l1 := c₁.len
 have l2 := c₂.len
 have l3 := c₃.len
 have cA : Chg [] st st₇ := (((((c₁.trans c₂).fresh c₃ (y8 l₁)).trans c₄).fresh c₅ (y8 l₁)).fresh c₆ (by simp; exact lin2 [_,_,_] 0 V0 V1 1 V2 V1 1 V0 V2 tt l₂ l1)).fresh c₇ (y8 l₁)
 exact q _ _ _ cA (by exact Nat.le_antisymm (jZ [_,_,_,_,_,_,_,_] 0 V0 V1 1 V2 V1 1 V3 V2 1 V4 V3 1 V5 V4 1 V6 V5 1 V7 V6 1 V0 V7 tt (el e₁) (el e₂) (el e₃) (el e₄) (el e₅) (el e₆) (el e₇)) (jZ [_,_,_,_,_,_,_,_] 0 V0 V1 1 V0 V2 1 V2 V3 1 V3 V4 1 V4 V5 1 V5 V6 1 V6 V7 1 V7 V1 tt (er e₁) (er e₂) (er e₃) (er e₄) (er e₅) (er e₆) (er e₇))) ⟨hc.imp (fun z => cA.get z List.not_mem_nil) fun z => cA.get z List.not_mem_nil, ⟨ks', l', c₇.get h₂ (by simpa using Ne.symm hka), h6⟩, ⟨[], [], c₇.get h₄ (by simpa using Ne.symm hkn), .nil⟩, by rcases hc with z | z <;> (have := zM z; exact Nat.ne_of_lt (lin3 [_,_,_,_] 0 S0 V1 1 V2 V1 1 V3 V2 1 S0 V3 tt l₂ l1 this)), by rcases hc with z | z <;> (have := zM z; exact Nat.ne_of_lt (lin5 [_,_,_,_,_,_] 0 S0 V1 1 V2 V3 1 S3 V4 1 V5 V1 1 V4 V5 1 S0 V2 tt l₁ n1 l₄ l3 this)), han⟩
end
noncomputable def Pat.dep : Pat → Nat
 | .B p => p.dep + 1
 | _ => 0
theorem Pat.vars_len : ∀ p : Pat, p.vars.length ≤ 1
 | .wild => Nat.zero_le _
 | .var _ => Nat.le_refl _
 | .lit _ => Nat.zero_le _
 | .A => Nat.zero_le _
 | .B p => p.vars_len
noncomputable def rowVars (ps : List Pat) : List Str := ps.flatMap Pat.vars
theorem za : ∀ ps, (rowVars ps).length ≤ ps.length
 | [] => Nat.zero_le _
 | p :: ps => by
  unfold rowVars
  rw [List.flatMap_cons, List.length_append, List.length_cons, Nat.add_comm]
  exact Nat.add_le_add (za ps) p.vars_len
section
variable {n : Nat} {st : St} {Q : D → St → Prop}
theorem vo {p : Pat} (q : Q (.list (p.args.map Pat.d)) st) : zD CQ (n + 1) (.val (.ref 685)) [p.d] st Q := by
 refine zE ⟨rfl, ?_⟩
 cases p <;> exact q
theorem vz : ∀ {p : Pat} {n : Nat} {Q : D → St → Prop}, p.dep + 2 ≤ n → Q (.list (p.vars.map .str)) st → zD CQ n (.val (.ref 692)) [p.d] st Q := by
 intro p
 induction p with
 | B p ih =>
  intro n Q hn q
  obtain ⟨n, rfl⟩ : ∃ m, n = m + 2 := ⟨n - 2, by exact Nat.le_antisymm (lin1 [_,_] 0 V0 (.a V1 U2) 1 V0 (.a V1 U2) tt sb1) (lin1 [_,_] 0 (.a V0 U2) V1 1 (.a V0 U2) V1 tt (sb3 (lin1 [_,_] 0 U2 V0 1 (.a V1 U2) V0 tt hn)))⟩
  refine zE ⟨rfl, ?_⟩
  refine vo (p := .B p) ?_
  refine ih (Nat.le_of_succ_le_succ hn) ?_
  refine And.intro (zU ?_) q
  rw [List.length_map]
  exact Nat.le_trans (Nat.add_le_add_left p.vars_len 0) (by decide)
 | _ =>
  intro n Q hn q
  obtain ⟨n, rfl⟩ : ∃ m, n = m + 2 := ⟨n - 2, by omega⟩
  refine zE ⟨rfl, ?_⟩
  refine vo ?_
  exact q
noncomputable def iU (ps : List Pat) (b : D) (cf : Bool) : D := .obj 0 .Row [.list (ps.map Pat.d), b, .bool cf]
theorem xA {ps : List Pat} {b : D} {cf : Bool} (hn : ∀ p ∈ ps, p.dep ≤ 10) (hl : ps.length ≤ 100) (q : Q (.list ((rowVars ps).map .str)) st) : zD CQ (n + 13) (.val (.ref 983)) [iU ps b cf] st Q := by
 refine zE ⟨rfl, ?_⟩
 refine yF Pat.d (fun done rest ρ st' => done ++ rest = ps ∧ st' = st ∧ ∃ y, ρ = [some (iU ps b cf), some (.list ((rowVars done).map .str)), y]) ?_ ?_ (done := []) ⟨rfl, rfl, _, rfl⟩
 ·intro done x rest ρ st' K hz6 k1 k2
  refine hid fun hG => ?_
  obtain ⟨hd, rfl, y, rfl⟩ := hz6
  refine hG ?_
  refine vz (Nat.le_trans (Nat.add_le_add_right (hn x (by rw [← hd]; simp)) 2) (by exact lin0 [_] 0 (.n 12) (.a V0 (.n 12)) tt)) ?_
  have h3 : done.length ≤ ps.length := by rw [← hd]; simp
  refine And.intro (yG (z5 (Nat.le_trans (za done) (Nat.le_trans h3 hl))) (z5 (Nat.le_trans x.vars_len (by decide)))) ?_
  refine k1 _ _ ⟨yI hd, rfl, some x.d, ?_⟩
  have : rowVars (done ++ [x]) = rowVars done ++ x.vars := by simp [rowVars]
  rw [this, List.map_append]; rfl
 ·intro done ρ st' hz3
  refine hid fun hG => ?_
  obtain ⟨hd, rfl, y, rfl⟩ := hz3
  refine hG ?_
  rw [List.append_nil] at hd
  exact hd ▸ q
end
noncomputable def yt (kc : Nat) : D := .obj 0 .Constructors [.mref kc]
noncomputable def Key.nm : Key → String
 | .A => "M.A"
 | .B => "M.B"
 | .lit _ => "int"
noncomputable def Key.tg : Key → Int
 | .B => 1
 | _ => 0
theorem Env.frz {kc ka kn : Nat} {f : Cnt} {st st' : St} (h : Env kc ka kn f st) (c : Chg [kc] st st') (hc : st'.sto[kc]? = some (.fS consK xX)) : Env kc ka kn f st' where
 cons := .inr hc
 avo := by obtain ⟨ks, l, e, z⟩ := h.avo; exact ⟨ks, l, c.get e (by simpa using Ne.symm h.ne1), z⟩
 num := by obtain ⟨ks, l, e, z⟩ := h.num; exact ⟨ks, l, c.get e (by simpa using Ne.symm h.ne2), z⟩
 ne1 := h.ne1
 ne2 := h.ne2
 ne3 := h.ne3
theorem rB {k : Key} (hk : k = .A ∨ k = .B) : consK.contains (Str.ofString k.nm) = true := by
 rcases hk with rfl | rfl <;> decide +kernel
theorem yN {k : Key} (hk : k = .A ∨ k = .B) : tB consK xX (Str.ofString k.nm) = some (iS k.nm k.tg k.many) := by
 rcases hk with rfl | rfl <;> kernel_rfl
section
variable {n : Nat} {st : St} {Q : D → St → Prop}
theorem mc {kc ka kn : Nat} {f : Cnt} {k : Key} (hk : k = .A ∨ k = .B) (h : Env kc ka kn f st) (q : Q (.int k.many) st) : zD CQ (n + 1) (.val (.ref 718)) [yt kc, .str (Str.ofString k.nm)] st Q := by
 refine zE ⟨rfl, ?_⟩
 refine wx h.cons rfl rfl ?_
 refine m8 (rB hk) ?_
 refine wx h.cons rfl rfl ?_
 refine zA (yN hk) ?_
 exact q
theorem wL {kc ka kn : Nat} {f : Cnt} {k : Key} (hk : k = .A ∨ k = .B) (h : Env kc ka kn f st) (q : Q (.bool false) st) : zD CQ (n + 1) (.val (.ref 725)) [yt kc, .str (Str.ofString k.nm)] st Q := by
 refine zE ⟨rfl, ?_⟩
 refine wx h.cons rfl rfl ?_
 refine m8 (rB hk) ?_
 refine wx h.cons rfl rfl ?_
 refine zA (yN hk) ?_
 exact q
theorem qW {kc ka kn : Nat} {f : Cnt} {k : Key} (hk : k = .A ∨ k = .B) (h : Env kc ka kn f st) (q : ∀ st', Chg [kc] st st' → st'.nt = st.nt → Env kc ka kn f st' → Q (.list [.str (Str.ofString "M.A"), .str (Str.ofString "M.B")]) st') : zD CQ (n + 1) (.val (.ref 730)) [yt kc, .str (Str.ofString k.nm)] st Q := by
 refine zE ⟨rfl, ?_⟩
 refine wx h.cons rfl rfl ?_
 refine w0 (by rw [rB hk]; rfl) ?_
 refine zi fun st₁ kd c₁ e₁ hd hl => ?_
 have hlt : kc < st.sto.length := h.cons.elim zM zM
 have hne : kc ≠ kd := by exact Nat.ne_of_lt (lin2 [_,_,_] 0 S0 V1 1 V2 V1 1 S0 V2 tt hl hlt)
 refine tu (h.cons.imp (fun z => c₁.get z List.not_mem_nil) fun z => c₁.get z List.not_mem_nil) rfl rfl fun st₂ c₂ e₂ hc => ?_
 have hd := c₂.get hd (by simpa using Ne.symm hne)
 refine zA hc ?_
 refine zA (yN (k := .A) (.inl rfl)) ?_
 refine zA hc ?_
 refine zA (yN hk) ?_
 refine zA hc ?_
 refine zA (yN (k := .A) (.inl rfl)) ?_
 refine zA hd ?_
 refine And.intro (zU (Nat.le_of_ble_eq_true rfl)) ?_
 refine zP hd fun st₃ c₃ e₃ hd => ?_
 have hd : st₃.sto[kd]? = some (.dI [0] [.str (Str.ofString "M.A")]) := hd
 have hc := c₃.get hc (ne1 hne)
 refine zA hc ?_
 refine zA (yN (k := .B) (.inr rfl)) ?_
 refine zA hc ?_
 refine zA (yN hk) ?_
 refine zA hc ?_
 refine zA (yN (k := .B) (.inr rfl)) ?_
 refine zA hd ?_
 refine And.intro (zU (Nat.le_of_ble_eq_true rfl)) ?_
 refine zP hd fun st₄ c₄ e₄ hd => ?_
 have hd : st₄.sto[kd]? = some (.dI [0, 1] [.str (Str.ofString "M.A"), .str (Str.ofString "M.B")]) := hd
 have hc := c₄.get hc (ne1 hne)
 refine zA hd ?_
 refine And.intro (by decide) ?_
 refine zA hd ?_
 refine zA (a := .str (Str.ofString "M.A")) rfl ?_
 refine zA hd ?_
 refine zA (a := .str (Str.ofString "M.B")) rfl ?_
 have c : Chg [kc] st st₄ := (((c₁.mono nofun).trans c₂).fresh c₃ (by simpa using Or.inr hl)).fresh c₄ (by simpa using Or.inr hl)
 exact q _ c (by exact Nat.le_antisymm (lin4 [_,_,_,_,_] 0 V0 V1 1 V2 V1 1 V3 V2 1 V4 V3 1 V0 V4 tt (el e₁) (el e₂) (el e₃) (el e₄)) (lin4 [_,_,_,_,_] 0 V0 V1 1 V0 V2 1 V2 V3 1 V3 V4 1 V4 V1 tt (er e₁) (er e₂) (er e₃) (er e₄))) (h.frz c hc)
end
noncomputable def Fit : Nat → Pat → Bool
 | _, .wild => true
 | _, .var _ => true
 | k, .lit i => Nat.beq k 1 && (i == 0 || i == 1)
 | k, .A => Nat.beq k 2
 | k, .B p => Nat.beq k 2 && Fit 1 p
noncomputable def Fits : List Nat → List Pat → Prop
 | [], [] => True
 | k :: ks, p :: ps => Fit k p = true ∧ Fits ks ps
 | _, _ => False
theorem uh {k : Nat} : Fit k .wild = true := rfl
theorem k9 {k : Nat} {s : Str} : Fit k (.var s) = true := rfl
theorem wy {k : Nat} {p : Pat} {x : Key} (h : Fit k p = true) (e : p.key = some x) : 1 ≤ k ∧ k ≤ 2 ∧ (x = .B → k = 2) ∧ (x = .A → k = 2) ∧ (k = 2 → x = .A ∨ x = .B) ∧ (k = 1 → x = .lit 0 ∨ x = .lit 1) := by
 cases p with
 | wild => cases e
 | var s => cases e
 | lit i =>
  cases e
  have h : (Nat.beq k 1 && (i == 0 || i == 1)) = true := h
  rw [Bool.and_eq_true, Bool.or_eq_true, beq_iff_eq, beq_iff_eq] at h
  cases Nat.eq_of_beq_eq_true h.1
  rcases h.2 with rfl | rfl <;> simp
 | A => cases e; cases Nat.eq_of_beq_eq_true h; simp
 | B p => cases e; cases Nat.eq_of_beq_eq_true ((Bool.and_eq_true _ _).mp h).1; simp
theorem gn {k : Nat} {p : Pat} (h : Fit k (.B p) = true) : Fit (k - 1) p = true := by
 have h : (Nat.beq k 2 && Fit 1 p) = true := h
 rw [Bool.and_eq_true] at h
 cases Nat.eq_of_beq_eq_true h.1; exact h.2
theorem Fits.len : ∀ {K : List Nat} {ps : List Pat}, Fits K ps → ps.length = K.length
 | [], [], _ => rfl
 | _ :: _, _ :: _, h => by simp [Fits.len h.2]
theorem Fits.app : ∀ {K K' : List Nat} {ps ps' : List Pat}, Fits K ps → Fits K' ps' → Fits (K ++ K') (ps ++ ps')
 | [], _, [], _, _, h => h
 | _ :: _, _, _ :: _, _, h, h' => ⟨h.1, Fits.app h.2 h'⟩
theorem Fits.take : ∀ {K : List Nat} {ps : List Pat} (i : Nat), Fits K ps → Fits (K.take i) (ps.take i)
 | [], [], i, _ => by cases i <;> trivial
 | _ :: _, _ :: _, 0, h => trivial
 | _ :: _, _ :: _, i + 1, h => ⟨h.1, Fits.take i h.2⟩
theorem Fits.drop : ∀ {K : List Nat} {ps : List Pat} (i : Nat), Fits K ps → Fits (K.drop i) (ps.drop i)
 | [], [], i, _ => by cases i <;> trivial
 | _ :: _, _ :: _, 0, h => h
 | _ :: _, _ :: _, i + 1, h => Fits.drop i h.2
theorem Fits.at : ∀ {K : List Nat} {ps : List Pat} {i k : Nat} {p : Pat}, Fits K ps → K[i]? = some k → ps[i]? = some p → Fit k p = true
 | [], [], i, _, _, _, h, _ => by simp at h
 | _ :: _, _ :: _, 0, _, _, h, e, e' => by simp at e e'; subst e e'; exact h.1
 | _ :: _, _ :: _, i + 1, _, _, h, e, e' => Fits.at (i := i) h.2 (by simpa using e) (by simpa using e')
theorem Fits.wild : ∀ (K : List Nat), Fits K (List.replicate K.length .wild)
 | [] => trivial
 | _ :: K => ⟨uh, Fits.wild K⟩
theorem Fits.setWild : ∀ {K : List Nat} {ps : List Pat} {i : Nat}, Fits K ps → Fits K (ps.set i .wild)
 | [], [], i, _ => by cases i <;> trivial
 | _ :: _, _ :: _, 0, h => ⟨uh, h.2⟩
 | _ :: _, _ :: _, i + 1, h => ⟨h.1, Fits.setWild (i := i) h.2⟩
theorem zK {a b : List Pat} : rowVars (a ++ b) = rowVars a ++ rowVars b := by unfold rowVars; simp
theorem yZ {n : Nat} : rowVars (List.replicate n .wild) = [] := by
 unfold rowVars; rw [List.flatMap_eq_nil_iff]; intro x hx; rw [List.eq_of_mem_replicate hx]; rfl
theorem yO {p : Pat} : rowVars [p] = p.vars := by unfold rowVars; simp
theorem ui {α : Type} {l : List α} {i : Nat} {x : α} (h : l[i]? = some x) : l = l.take i ++ [x] ++ l.drop (i + 1) := by
 refine hid fun hG => ?_
 obtain ⟨hl, e⟩ := List.getElem?_eq_some_iff.mp h
 refine hG ?_
 rw [List.append_assoc, List.singleton_append, ← e, ← List.drop_eq_getElem_cons hl, List.take_append_drop]
theorem xR {ps : List Pat} {i : Nat} {p : Pat} (h : ps[i]? = some p) : (rowVars ps).length = (rowVars (ps.take i)).length + p.vars.length + (rowVars (ps.drop (i + 1))).length := by
 conv => lhs; rw [ui h]
 rw [zK, zK, yO]; simp; exact Nat.le_antisymm (lin0 [_,_,_] 0 (.a V0 (.a V1 V2)) (.a (.a V0 V1) V2) tt) (lin0 [_,_,_] 0 (.a (.a V0 V1) V2) (.a V0 (.a V1 V2)) tt)
structure LnOk (F : Nat) (K : List Nat) (l : Ln) : Prop where
 fit : Fits K l.pats
 num : l.number < F
 bnd : l.binds.length + (rowVars l.pats).length ≤ 100
theorem tv {α : Type} {l : List α} {i : Nat} {x y : α} (h : l[i]? = some x) : l.set i y = l.take i ++ [y] ++ l.drop (i + 1) := by
 have hl := (List.getElem?_eq_some_iff.mp h).1
 rw [List.set_eq_take_append_cons_drop, if_pos hl]; simp
set_option tactic.hygienic true in
theorem LnOk.plain {F : Nat} {K : List Nat} {l : Ln} {i : Nat} {c : Str} (h : LnOk F K l) : LnOk F K (l.plain i c) := by
 unfold Ln.plain
 split
 ·rename_i s e
  refine ⟨h.fit.setWild, h.num, ?_⟩
  have h1 := h.bnd
  have h2 := xR e
  have h3 : (rowVars (l.pats.set i .wild)).length = (rowVars (l.pats.take i)).length + (rowVars (l.pats.drop (i + 1))).length := by
   rw [tv e, zK, zK, yO]; simp [Pat.vars]
  have h4 : (Pat.var s).vars.length = 1 := rfl
  simp only [List.length_append, List.length_cons, List.length_nil]
  exact lin4 [_,_,_,_,_,_] 0 (.a S0 V1) U100 1 (.a V0 V2) U100 1 (.a (.a V3 V4) V5) V2 1 V1 (.a V3 V5) 1 U1 V4 tt h1 (er h2) (el h3) (er h4)
 ·exact h
theorem v7 {l : Ln} {i : Nat} {c : Str} : (l.plain i c).number = l.number := by unfold Ln.plain; split <;> rfl
theorem w4 {l : Ln} {i : Nat} {c : Str} : (l.plain i c).lost = l.lost := by unfold Ln.plain; split <;> rfl
set_option tactic.hygienic true in
theorem xB {l : Ln} {i : Nat} {c : Str} {s : Str} : (l.plain i c).pats[i]? ≠ some (.var s) := by
 unfold Ln.plain
 split
 ·rename_i s e
  have hl := (List.getElem?_eq_some_iff.mp e).1
  rw [List.getElem?_set_self hl]; simp
 ·rename_i h; exact h s
noncomputable def tO (i : Nat) (k : Key) (K : List Nat) : List Nat := K.take i ++ (match k with | .B => [(K[i]?).getD 0 - 1] | _ => []) ++ K.drop (i + 1)
theorem xS {l : Ln} {i m : Nat} : (l.losing i m).length ≤ 1 := by unfold Ln.losing; split <;> simp
theorem wz {l : Ln} {k : Key} {i : Nat} : (l.kept k i).length ≤ 1 := by
 unfold Ln.kept
 split
 ·simp
 ·split
  ·simp
  ·exact xS
theorem w5 {l : Ln} {i : Nat} : (l.others i).length ≤ 1 := by
 unfold Ln.others
 split
 ·simp
 ·exact xS
theorem yP {g : Ln → List Ln} (h : ∀ l, (g l).length ≤ 1) : ∀ ls : List Ln, (ls.flatMap g).length ≤ ls.length
 | [] => by simp
 | l :: ls => by have zz1 := h l; have zz2 := yP h ls; rw [List.flatMap_cons, List.length_append, List.length_cons]; exact lin2 [_,_,_] 0 (.a V0 V1) S2 1 V0 U1 1 V1 V2 tt zz1 zz2
theorem LnOk.losing {F : Nat} {K X : List Nat} {l : Ln} {i m : Nat} (h : LnOk F K l) (hi : i < K.length) (hm : m = X.length) : ∀ l' ∈ l.losing i m, LnOk F (K.take i ++ X ++ K.drop (i + 1)) l' := by
 intro l' hl
 unfold Ln.losing at hl
 split at hl
 ·simp at hl
 ·simp at hl
  subst hl
  have hp := h.fit.len
  refine ⟨?_, h.num, ?_⟩
  ·rw [List.append_assoc]
   refine (h.fit.take i).app ?_
   have e : m + l.pats.length - i - 1 = (X ++ K.drop (i + 1)).length := by simp; exact Nat.le_antisymm (lin5 [_,_,_,_,_,_,_,_] 0 V0 (.a V1 V2) 1 V3 V1 1 V4 V5 1 V5 (.a V2 S6) 1 S0 V7 1 (.a V7 V6) (.a V3 V4) tt (el hm) (el hp) sb1 (sb3 (lin3 [_,_,_,_,_] 0 U1 V0 1 S1 V2 1 V2 V3 1 (.a V4 V3) (.a V0 V1) tt hi (er hp) sb1)) (sb3 (lin2 [_,_,_,_] 0 V0 (.a V1 V2) 1 S0 V3 1 V3 V2 tt hi (er hp)))) (lin5 [_,_,_,_,_,_,_,_] 0 (.a V0 V1) V2 1 V0 V3 1 V4 V5 1 V6 S2 1 (.a V3 V5) (.a V6 V7) 1 (.a V1 S7) V4 tt (er hm) (er hp) sb1 sb1 (sb3 (lin1 [_,_] 0 S0 V1 1 S0 V1 tt hi)))
   rw [e]; exact .wild _
  ·have h1 := h.bnd
   have h2 : (rowVars (l.pats.take i)).length ≤ (rowVars l.pats).length := by
    conv => rhs; rw [← List.take_append_drop i l.pats, zK, List.length_append]
    exact lin0 [_,_] 0 V0 (.a V0 V1) tt
   rw [zK, yZ]
   simp; exact lin2 [_,_,_] 0 V0 U100 1 (.a V1 V2) U100 1 V0 V2 tt h1 h2
theorem LnOk.put {F : Nat} {K X : List Nat} {l : Ln} {i : Nat} {ps : List Pat} {p : Pat} (h : LnOk F K l) (he : l.pats[i]? = some p) (hx : Fits X ps) (hv : (rowVars ps).length ≤ p.vars.length) : LnOk F (K.take i ++ X ++ K.drop (i + 1)) (l.put i ps) := by
 refine ⟨((h.fit.take i).app hx).app (h.fit.drop (i + 1)), h.num, ?_⟩
 have h1 := h.bnd
 have h2 := xR he
 unfold Ln.put
 dsimp only
 rw [zK, zK]; simp; exact lin3 [_,_,_,_,_,_] 0 (.a V0 (.a V1 (.a V2 V3))) U100 1 V2 V4 1 (.a V0 V5) U100 1 (.a (.a V1 V4) V3) V5 tt hv h1 (er h2)
theorem LnOk.at {F : Nat} {K : List Nat} {l : Ln} {i : Nat} (h : LnOk F K l) (hi : i < K.length) : ∃ p, l.pats[i]? = some p := ⟨_, List.getElem?_eq_getElem (by rw [h.fit.len]; exact hi)⟩
set_option tactic.hygienic true in
theorem LnOk.kept {F : Nat} {K : List Nat} {l : Ln} {i : Nat} {k : Key} (h : LnOk F K l) (hi : i < K.length) : ∀ l' ∈ l.kept k i, LnOk F (tO i k K) l' := by
 intro l' hl
 obtain ⟨p, hp⟩ := h.at hi
 obtain ⟨kk, hk⟩ : ∃ kk, K[i]? = some kk := ⟨_, List.getElem?_eq_getElem hi⟩
 have hf := h.fit.at hk hp
 unfold Ln.kept Ln.key at hl
 unfold tO
 rw [hp] at hl
 rw [hk]
 simp only [Option.bind_some, Option.elim_some, Option.getD_some] at hl ⊢
 have hX : ∀ k : Key, k.many = (match k with | .B => [kk - 1] | _ => [] : List Nat).length := fun k => by cases k <;> rfl
 have hW : ∀ k : Key, Fits (match k with | .B => [kk - 1] | _ => []) (List.replicate k.many .wild) := fun k => by
  rw [hX k]; exact .wild _
 split at hl
 ·simp at hl; subst hl
  exact h.put hp (hW k) (by rw [yZ]; simp)
 ·rename_i k' e
  split at hl
  ·rename_i ek
   subst ek
   simp at hl; subst hl
   cases p with
   | wild => cases e
   | var s => cases e
   | lit j => cases e; exact h.put hp trivial (by simp [Pat.args, rowVars])
   | A => cases e; exact h.put hp trivial (by simp [Pat.args, rowVars])
   | B p => cases e; exact h.put hp ⟨gn hf, trivial⟩ (by simp [Pat.args, rowVars, Pat.vars])
  ·exact h.losing hi (hX k) l' hl
theorem LnOk.others {F : Nat} {K : List Nat} {l : Ln} {i : Nat} (h : LnOk F K l) (hi : i < K.length) : ∀ l' ∈ l.others i, LnOk F (K.take i ++ K.drop (i + 1)) l' := by
 intro l' hl
 obtain ⟨p, hp⟩ := h.at hi
 unfold Ln.others at hl
 split at hl
 ·simp at hl; subst hl
  have := h.put (X := []) (ps := []) hp trivial (by simp [rowVars])
  simpa using this
 ·have := h.losing (X := []) hi rfl l' hl
  simpa using this
theorem rC {K : List Nat} {i kk : Nat} (h : K[i]? = some kk) : K.sum = (K.take i).sum + kk + (K.drop (i + 1)).sum := by
 conv => lhs; rw [ui h]
 simp; exact Nat.le_antisymm (lin0 [_,_,_] 0 (.a V0 (.a V1 V2)) (.a (.a V0 V1) V2) tt) (lin0 [_,_,_] 0 (.a (.a V0 V1) V2) (.a V0 (.a V1 V2)) tt)
theorem uj {K : List Nat} {i kk : Nat} {k : Key} (h : K[i]? = some kk) (h1 : 1 ≤ kk) : (tO i k K).sum + 1 ≤ K.sum := by
 have := rC h
 unfold tO
 rw [h]
 cases k <;> simp <;> (first | exact lin2 [_,_,_,_] 0 (.a (.a V0 V1) U1) V2 1 U1 V3 1 (.a (.a V0 V3) V1) V2 tt h1 (er this) | exact lin2 [_,_,_,_,_] 0 (.a (.a V0 (.a V1 V2)) U1) V3 1 (.a (.a V0 V4) V2) V3 1 S1 V4 tt (er this) (sb3 (lin1 [_] 0 U1 V0 1 U1 V0 tt h1)))
theorem uk {K : List Nat} {i : Nat} {k : Key} (h : i < K.length) : (tO i k K).length = K.length - 1 + k.many := by
 unfold tO
 cases k <;> simp [Key.many] <;> (first | exact Nat.le_antisymm (lin3 [_,_,_,_,_] 0 (.a V0 V1) V2 1 V0 V3 1 V4 S2 1 (.a V1 S3) V4 tt (Nat.min_le_left _ _) sb1 (sb3 (lin1 [_,_] 0 S0 V1 1 S0 V1 tt h))) (lin3 [_,_,_,_,_] 0 V0 (.a V1 V2) 1 V3 (.a V2 S4) 1 V4 V1 1 S0 V3 tt sb1 (mn1 (lin1 [_,_] 0 V0 V1 1 S0 V1 tt h)) (sb3 (lin1 [_,_] 0 U1 V0 1 S1 V0 tt h))) | exact Nat.le_antisymm (lin3 [_,_,_,_,_] 0 (.a V0 S1) S2 1 V0 V3 1 V4 S2 1 (.a V1 S3) V4 tt (Nat.min_le_left _ _) sb1 (sb3 (lin1 [_,_] 0 S0 V1 1 S0 V1 tt h))) (lin3 [_,_,_,_,_] 0 S0 (.a V1 S2) 1 V3 (.a V2 S4) 1 V4 V1 1 S0 V3 tt sb1 (mn1 (lin1 [_,_] 0 V0 V1 1 S0 V1 tt h)) (sb3 (lin1 [_,_] 0 U1 V0 1 S1 V0 tt h))))
noncomputable def X.tl : X → X
 | .seq _ b => b
 | x => x
noncomputable def X.dr (x : X) : Nat → X
 | 0 => x
 | n + 1 => (x.dr n).tl
theorem oK (m : Nat) (a b : Key) : eqD (m + 2) a.d b.d = some (decide (a = b)) := by
 have e2 : ∀ t n t' n' : Str, eqD (m + 2) (.tup [.str t, .str n]) (.tup [.str t', .str n']) = some ((t == t' && (n == n' && true)) && true) := fun U U U U => rfl
 have e3 : ∀ (t n t' n' : Str) (i j : Int), eqD (m + 2) (.tup [.str t, .str n, .int i]) (.tup [.str t', .str n', .int j]) = some ((t == t' && (n == n' && (i == j && true))) && true) := fun U U U U U U => rfl
 have e4 : ∀ (t n t' n' : Str) (j : Int), eqD (m + 2) (.tup [.str t, .str n]) (.tup [.str t', .str n', .int j]) = some ((t == t' && (n == n' && true)) && false) := fun U U U U U => rfl
 have e5 : ∀ (t n t' n' : Str) (j : Int), eqD (m + 2) (.tup [.str t, .str n, .int j]) (.tup [.str t', .str n']) = some ((t == t' && (n == n' && true)) && false) := fun U U U U U => rfl
 have ab : (Str.ofString "M.A" == Str.ofString "M.B") = false := by decide +kernel
 have ba : (Str.ofString "M.B" == Str.ofString "M.A") = false := by decide +kernel
 cases a with
 | A => cases b with
  | A => refine (e2 _ _ _ _).trans ?_; rw [beq_self_eq_true, beq_self_eq_true]; rfl
  | B => refine (e2 _ _ _ _).trans ?_; rw [ab, Bool.false_and, Bool.and_false]; rfl
  | lit j => refine (e4 _ _ _ _ _).trans ?_; rw [Bool.and_false]; rfl
 | B => cases b with
  | A => refine (e2 _ _ _ _).trans ?_; rw [ba, Bool.false_and, Bool.and_false]; rfl
  | B => refine (e2 _ _ _ _).trans ?_; rw [beq_self_eq_true, beq_self_eq_true]; rfl
  | lit j => refine (e4 _ _ _ _ _).trans ?_; rw [Bool.and_false]; rfl
 | lit i => cases b with
  | lit j =>
   refine (e3 _ _ _ _ _ _).trans ?_
   rw [beq_self_eq_true, beq_self_eq_true, Bool.and_true, Bool.true_and, Bool.true_and, Bool.and_true]
   by_cases h : i = j
   ·subst h; rw [beq_self_eq_true, decide_eq_true rfl]
   ·rw [beq_eq_false_iff_ne.mpr h, decide_eq_false fun z => h (by cases z; rfl)]
  | _ => refine (e5 _ _ _ _ _).trans ?_; rw [Bool.and_false]; rfl
theorem qX (m : Nat) (a : Key) : ∀ l : List Key, memD (m + 2) a.d (l.map Key.d) = some (decide (a ∈ l))
 | [] => rfl
 | b :: l => by
  rw [List.map_cons, memD, qX m a l, oK]
  simp [eq_comm]
noncomputable def Key.isCon : Key → Bool
 | .lit _ => false
 | _ => true
noncomputable def Key.tag : Key → String
 | .lit _ => "lit"
 | _ => "con"
section
variable {st : St} {k : Key} {Q : Bool → Prop} {R : D → Prop}
theorem rD : wI k.l 0 = some (.str (Str.ofString k.tag)) := by cases k <;> rfl
theorem oL : wI k.l 1 = some (.str (Str.ofString k.nm)) := by cases k <;> rfl
theorem pI {A B : Prop} (h1 : k.isCon = true → A) (h2 : k.isCon = false → B) : br (Str.ofString k.tag == Str.ofString "con") A B := by
 cases k with
 | lit i => exact w0 (b := Str.ofString "lit" == Str.ofString "con") (by decide +kernel) (h2 rfl)
 | _ => exact m8 (b := Str.ofString "con" == Str.ofString "con") (by decide +kernel) (h1 rfl)
theorem pJ (h : k.isCon = true) : k = .A ∨ k = .B := by
 cases k with
 | lit i => cases h
 | A => exact .inl rfl
 | B => exact .inr rfl
theorem me (h : k.isCon = false) : k.many = 0 := by
 cases k with
 | lit i => rfl
 | _ => cases h
theorem mf {p : Pat} (h : p.key = some k) (hc : k.isCon = false) : p.args = [] := by
 cases p with
 | B p => cases h; cases hc
 | _ => rfl
end
theorem mh (p : Pat) : p.args.length ≤ 1 := by cases p <;> exact Nat.le_of_ble_eq_true rfl
noncomputable def vA (kc ka kn : Nat) (falls : List Bool) : D := .obj 0 .Decider [yt kc, .list (falls.map .bool), ys ka kn]
noncomputable def zG : Str := Str.ofString "field"
theorem nE : zG ∈ zf := by decide +kernel
structure LinesOk (F : Nat) (K : List Nat) (cols : List Str) (lines : List Ln) : Prop where
 klen : K.length = cols.length
 clen : cols.length ≤ 100
 llen : lines.length ≤ 100
 ok : ∀ l ∈ lines, LnOk F K l
set_option tactic.hygienic true in
theorem Cnt.set_self {f : Cnt} {b : Str} : f.set b (f b) = f := by
 funext x; unfold Cnt.set; split
 ·rename_i e; rw [e]
 ·rfl
theorem Cnt.set_set {f : Cnt} {b : Str} {m n : Nat} : (f.set b m).set b n = f.set b n := by
 funext x; unfold Cnt.set; split <;> rfl
theorem Cnt.set_at {f : Cnt} {b : Str} {m : Nat} : (f.set b m) b = m := by unfold Cnt.set; rw [if_pos rfl]
noncomputable def vB (kc ka kn : Nat) (falls : List Bool) (n N : Nat) (tr : List Str → List Ln → Nat → Tree × Nat) : Prop :=
 ∀ (K : List Nat) (cols : List Str) (lines : List Ln) (f : Cnt) (st : St) (Q : D → St → Prop), LinesOk falls.length K cols lines → K.sum + lines.length < N → Env kc ka kn f st → (tr cols lines (f zG)).2 < 10 ^ 9 →
  (∀ st', Chg [kc, kn] st st' → st'.nt = st.nt → Env kc ka kn (f.set zG (tr cols lines (f zG)).2) st' → Q (tr cols lines (f zG)).1.d st') →
  zD CQ n (.val (.ref 910)) [vA kc ka kn falls, .list (cols.map .str), .list (lines.map Ln.d)] st Q
set_option tactic.hygienic true in
theorem pK {k : Key} {o : Option Key} {ks : List Key} : k ∈ yL ks o ↔ k ∈ ks ∨ o = some k := by
 cases o with
 | none => simp [yL]
 | some k' =>
  unfold yL
  dsimp only
  split
  ·rename_i h
   exact ⟨.inl, fun z => z.elim id fun e => by cases e; exact h⟩
  ·simp [eq_comm]
theorem vC {k : Key} {i : Nat} : ∀ {ls : List Ln} {ks : List Key}, k ∈ ls.foldl (fun ks l => yL ks (l.key i)) ks ↔ k ∈ ks ∨ ∃ l ∈ ls, l.key i = some k
 | [], ks => by simp
 | l :: ls, ks => by rw [List.foldl_cons, vC, pK]; simp [or_assoc]
theorem keysOf_mem {k : Key} {i : Nat} {ls : List Ln} : k ∈ zJ i ls ↔ ∃ l ∈ ls, l.key i = some k := by unfold zJ; rw [vC]; simp
theorem LinesOk.below {F i : Nat} {K : List Nat} {cols fs : List Str} {lines : List Ln} {k : Key} (h : LinesOk F K cols lines) (hi : i < cols.length) (hk : k ∈ zJ i lines) (hf : fs.length = k.many) :
  LinesOk F (tO i k K) (cols.take i ++ fs ++ cols.drop (i + 1)) (lines.flatMap (Ln.kept k i)) ∧ (tO i k K).sum + (lines.flatMap (Ln.kept k i)).length + 1 ≤ K.sum + lines.length := by
 have h1 := h.klen
 have h2 := yP (g := Ln.kept k i) (fun l => wz) lines
 have hm : k.many ≤ 1 := by cases k <;> simp [Key.many]
 have h3 := h.llen
 have h4 := h.clen
 refine hid fun hG => ?_
 obtain ⟨l, hl, hlk⟩ := keysOf_mem.mp hk
 have hiK : i < K.length := by exact lin2 [_,_,_] 0 S0 V1 1 S0 V2 1 V2 V1 tt hi (er h1)
 obtain ⟨p, hp⟩ := (h.ok l hl).at hiK
 refine hG ?_
 have hK : K[i]? = some K[i] := List.getElem?_eq_getElem hiK
 have hpk : p.key = some k := by unfold Ln.key at hlk; rw [hp] at hlk; exact hlk
 have hfk := wy ((h.ok l hl).fit.at hK hp) hpk
 have h5 := uj (k := k) hK hfk.1
 have h6 := uk (k := k) hiK
 refine ⟨⟨?_, ?_, by exact lin2 [_,_] 0 V0 U100 1 V0 V1 1 V1 U100 tt h2 h3, ?_⟩, by exact lin2 [_,_,_,_] 0 (.a (.a V0 V1) U1) (.a V2 V3) 1 V1 V3 1 S0 V2 tt h2 h5⟩
 ·rw [h6]; simp; exact Nat.le_antisymm (lin5 [_,_,_,_,_,_,_,_] 0 (.a V0 V1) (.a V2 (.a V3 V4)) 1 V1 V3 1 V5 V6 1 V6 (.a V4 S7) 1 S0 V5 1 V7 V2 tt (er hf) (el h1) sb1 (sb3 (lin1 [_,_] 0 U1 V0 1 S1 V0 tt hiK)) (mn1 (lin1 [_,_] 0 V0 V1 1 S0 V1 tt hi))) (lin5 [_,_,_,_,_,_,_,_] 0 (.a V0 (.a V1 V2)) (.a V3 V4) 1 V1 V4 1 V5 V6 1 V6 S3 1 V0 V7 1 (.a V2 S7) V5 tt (el hf) (er h1) sb1 (Nat.min_le_left _ _) (sb3 (lin1 [_,_] 0 S0 V1 1 S0 V1 tt hi)))
 ·simp; exact lin5 [_,_,_,_,_,_] 0 (.a V0 (.a V1 V2)) U100 1 V1 V3 1 V3 U1 1 V4 U100 1 V0 V5 1 (.a V2 S5) V4 tt (el hf) hm h4 (Nat.min_le_left _ _) (sb3 (lin1 [_,_] 0 S0 V1 1 S0 V1 tt hi))
 ·intro l' hl'
  refine hid fun hG => ?_
  obtain ⟨l₀, hl₀, hk⟩ := List.mem_flatMap.mp hl'
  refine hG ?_
  exact (h.ok l₀ hl₀).kept hiK l' hk
theorem LinesOk.rest {F i : Nat} {K : List Nat} {cols : List Str} {lines : List Ln} (h : LinesOk F K cols lines) (hi : i < cols.length) (hk : ∃ l ∈ lines, l.key i ≠ none) :
  LinesOk F (K.take i ++ K.drop (i + 1)) (cols.take i ++ cols.drop (i + 1)) (lines.flatMap (Ln.others i)) ∧ (K.take i ++ K.drop (i + 1)).sum + (lines.flatMap (Ln.others i)).length + 1 ≤ K.sum + lines.length := by
 have h1 := h.klen
 have h2 := yP (g := Ln.others i) (fun l => w5) lines
 have h3 := h.llen
 have h4 := h.clen
 refine hid fun hG => ?_
 obtain ⟨l, hl, hlk⟩ := hk
 have hiK : i < K.length := by exact lin2 [_,_,_] 0 S0 V1 1 S0 V2 1 V2 V1 tt hi (er h1)
 obtain ⟨p, hp⟩ := (h.ok l hl).at hiK
 refine hG ?_
 have hK : K[i]? = some K[i] := List.getElem?_eq_getElem hiK
 have h5 : 1 ≤ K[i] := by
  cases hpk : p.key with
  | none => exact absurd (by unfold Ln.key; rw [hp]; exact hpk) hlk
  | some k => exact (wy ((h.ok l hl).fit.at hK hp) hpk).1
 have h6 := rC hK
 refine ⟨⟨by simp; exact Nat.le_antisymm (lin5 [_,_,_,_,_,_,_] 0 (.a V0 V1) (.a V2 V3) 1 V4 V5 1 V0 V6 1 V5 (.a V3 S6) 1 (.a V1 S6) V4 1 V6 V2 tt (el h1) (Nat.min_le_left _ _) sb1 (sb3 (lin1 [_,_] 0 S0 V1 1 S0 V1 tt hiK)) (mn1 (lin1 [_,_] 0 V0 V1 1 S0 V1 tt hi))) (lin5 [_,_,_,_,_,_,_] 0 (.a V0 V1) (.a V2 V3) 1 V4 V5 1 V5 (.a V3 S6) 1 V0 V6 1 V6 V2 1 (.a V1 S6) V4 tt (er h1) sb1 (Nat.min_le_left _ _) (mn1 (lin1 [_,_] 0 V0 V1 1 S0 V1 tt hiK)) (sb3 (lin1 [_,_] 0 S0 V1 1 S0 V1 tt hi))), by simp; exact lin3 [_,_,_,_] 0 (.a V0 V1) U100 1 V2 U100 1 V0 V3 1 (.a V1 S3) V2 tt h4 (Nat.min_le_left _ _) (sb3 (lin1 [_,_] 0 S0 V1 1 S0 V1 tt hi)), by exact lin2 [_,_] 0 V0 U100 1 V0 V1 1 V1 U100 tt h2 h3, ?_⟩, by rw [List.sum_append]; exact lin3 [_,_,_,_,_,_] 0 (.a (.a (.a V0 V1) V2) U1) (.a V3 V4) 1 V2 V4 1 U1 V5 1 (.a (.a V0 V5) V1) V3 tt h2 h5 (er h6)⟩
 intro l' hl'
 refine hid fun hG => ?_
 obtain ⟨l₀, hl₀, hk⟩ := List.mem_flatMap.mp hl'
 refine hG ?_
 exact (h.ok l₀ hl₀).others hiK l' hk
section
variable {n : Nat} {st : St} {Q : D → St → Prop}
theorem pL {kc ka kn : Nat} {f : Cnt} {falls : List Bool} {p : Pat} (h : Env kc ka kn f st) (q : Q (.bool false) st) : zD CQ (n + 2) (.val (.ref 922)) [vA kc ka kn falls, p.d] st Q := by
 refine zE ⟨rfl, ?_⟩
 cases p with
 | A => exact wL (k := .A) (.inl rfl) h q
 | B p => exact wL (k := .B) (.inr rfl) h q
 | _ => exact q
theorem nF {kc ka kn N : Nat} {f : Cnt} {falls : List Bool} {tr : List Str → List Ln → Nat → Tree × Nat} {k : Key} {i : Nat} {K : List Nat} {cols : List Str} {lines : List Ln} (hT : vB kc ka kn falls (n + 9) N tr) (hM : ∀ cols lines c, c ≤ (tr cols lines c).2)
  (hL : LinesOk falls.length K cols lines) (hi : i < cols.length) (hp : ∀ l ∈ lines, ∀ s, l.pats[i]? ≠ some (.var s)) (hk : k ∈ zJ i lines) (hN : K.sum + lines.length ≤ N) (hm : k.many ≤ 1)
  (h : Env kc ka kn f st) (hcb : (zQ tr i cols lines [k] (f zG)).2 < 10 ^ 9)
  (q : ∀ st', Chg [kc, kn] st st' → st'.nt = st.nt → Env kc ka kn (f.set zG (zQ tr i cols lines [k] (f zG)).2) st' → ∀ fs t, (zQ tr i cols lines [k] (f zG)).1 = .cons k fs t .nil → Q (.tup [k.d, .list (fs.map .str), t.d]) st') :
  zD CQ (n + 10) (.val (.ref 927)) [vA kc ka kn falls, k.d, .int i, .list (cols.map .str), .list (lines.map Ln.d)] st Q := by
 have hc1 : f zG + k.many ≤ (zQ tr i cols lines [k] (f zG)).2 := by simp only [zQ]; exact hM _ _ _
 have hm01 : k.many = 0 ∨ k.many = 1 := by omega
 have hfl : (zo (f zG) k.many).length = k.many := by rcases hm01 with e | e <;> rw [e] <;> rfl
 have hll := hL.llen
 have hcl := hL.clen
 have hkl2 := hL.klen
 have sc : (cols.map D.str).length ≤ 100 := z5 hcl
 have sf : ((zo (f zG) k.many).map D.str).length ≤ 100 := z5 (by rw [hfl]; exact lin1 [_] 0 V0 U100 1 V0 U1 tt hm)
 refine zE ⟨rfl, ?_⟩
 have rest : (run (zD CQ (n + 9)) ir_Decider_branch.tl).s [some (vA kc ka kn falls), some k.d, some (.int i), some (.list (cols.map .str)), some (.list (lines.map Ln.d)), some (.int k.many), none, none, none, none, none] st (wO Q) := by
  refine ⟨k.many, ⟨rfl, zU (by exact lin1 [_] 0 V0 U1000 1 V0 U1 tt hm)⟩, ?_⟩
  have rest : ∀ st₁, Chg [kn] st st₁ → st₁.nt = st.nt → Env kc ka kn (f.set zG (f zG + k.many)) st₁ → (run (zD CQ (n + 9)) ir_Decider_branch.tl.tl).s [some (vA kc ka kn falls), some k.d, some (.int i), some (.list (cols.map .str)), some (.list (lines.map Ln.d)), some (.int k.many), some (.list ((zo (f zG) k.many).map .str)), none, none, none, none] st₁ (wO Q) := by
   intro st₁ c₁ e₁ h₁
   refine zi fun st₂ kk c₂ e₂ hkk hkl => ?_
   have h₂ := h₁.keep0 c₂
   refine yF Ln.d (fun done rest ρ st' => done ++ rest = lines ∧ (E3 fun a b c => ρ = [some (vA kc ka kn falls), some k.d, some (.int i), some (.list (cols.map .str)), some (.list (lines.map Ln.d)), some (.int k.many), some (.list ((zo (f zG) k.many).map .str)), some (.mref kk), a, b, c]) ∧
    Chg [kk] st₂ st' ∧ st'.nt = st₂.nt ∧ st'.sto[kk]? = some (.lst ((done.flatMap (Ln.kept k i)).map Ln.d))) ?_ ?_ (done := []) ⟨rfl, ⟨_, _, _, rfl⟩, .refl, rfl, hkk⟩
   ·intro done x rest ρ st' KK hz6 k1 k2
    refine hid fun hG => ?_
    obtain ⟨hd, ⟨a, b, c, rfl⟩, hc, ht, hs⟩ := hz6
    have hx : x ∈ lines := hd ▸ List.mem_append_right _ (.head _)
    have hxo := hL.ok x hx
    obtain ⟨p, hxp⟩ := hxo.at (i := i) (by rw [hL.klen]; exact hi)
    refine hG ?_
    have hxl := hxo.fit.len
    have hdl : done.length + 1 + rest.length = lines.length := by rw [← hd]; simp; exact Nat.le_antisymm (lin0 [_,_] 0 (.a S0 V1) (.a V0 S1) tt) (lin0 [_,_] 0 (.a V0 S1) (.a S0 V1) tt)
    have hfl2 := yP (g := Ln.kept k i) (fun l => wz) done
    have hz : ((done.flatMap (Ln.kept k i)).map Ln.d).length ≤ 99 := z5 (by exact lin3 [_,_,_,_] 0 V0 (.n 99) 1 V1 U100 1 (.a S2 V3) V1 1 V0 V2 tt hll (el hdl) hfl2)
    have hkey : x.key i = p.key := by unfold Ln.key; rw [hxp]; rfl
    refine zA (a := p.d) ((List.getElem?_map ..).trans (by rw [hxp]; rfl)) ?_
    refine v5 ?_
    have nxt : ∀ l a b c, x.kept k i = l → st'.sto[kk]? = some (.lst ((done.flatMap (Ln.kept k i)).map Ln.d)) → yi kk (.lst ((done.flatMap (Ln.kept k i)).map Ln.d ++ l.map Ln.d)) st' fun st'' => KK (.fall [some (vA kc ka kn falls), some k.d, some (.int i), some (.list (cols.map .str)), some (.list (lines.map Ln.d)), some (.int k.many), some (.list ((zo (f zG) k.many).map .str)), some (.mref kk), a, b, c]) st'' := by
     intro l a b c e hs
     refine zP hs fun st'' c' e' hs => ?_
     refine k1 _ _ ⟨yI hd, ⟨_, _, _, rfl⟩, hc.trans c', e'.trans ht, ?_⟩
     rw [hs, ← e]; simp
    cases hpk : p.key with
    | none =>
     have hkept : x.kept k i = [x.put i (List.replicate k.many .wild)] := by unfold Ln.kept; rw [hkey, hpk]
     refine zA hs ?_
     refine zx D.str (fun U => Pat.wild.d) (fun x U K K' q => q) ?_
     rw [List.map_const', hfl, ← List.map_replicate]
     refine pF (by exact lin3 [_,_,_] 0 V0 U100 1 V1 U100 1 V2 V1 1 V0 V2 tt hcl (el hkl2) (el hxl)) (by simp; exact lin1 [_] 0 V0 U100 1 V0 U1 tt hm) ?_
     refine zA hs ?_
     refine And.intro (Nat.lt_of_le_of_lt hz (by decide)) ?_
     exact nxt _ _ _ _ hkept hs
    | some k' =>
     refine zA (oK 1 k' k) ?_
     refine yJ (fun ek => ?_) fun ek => ?_
     ·have ek := of_decide_eq_true ek
      subst ek
      have hal := mh p
      have hkept : x.kept k' i = [x.put i p.args] := by unfold Ln.kept; rw [hkey, hpk, hxp]; simp
      refine zA hs ?_
      have fin : zD CQ (n + 9) (.val (.ref 870)) [x.d, .int i, .list (p.args.map Pat.d)] st' fun d st => rN .append kk [d] st fun U st => KK (.fall [some (vA kc ka kn falls), some k'.d, some (.int i), some (.list (cols.map .str)), some (.list (lines.map Ln.d)), some (.int k'.many), some (.list ((zo (f zG) k'.many).map .str)), some (.mref kk), some x.d, some p.d, some k'.d]) st := by
       refine pF (by exact lin3 [_,_,_] 0 V0 U100 1 V1 U100 1 V2 V1 1 V0 V2 tt hcl (el hkl2) (el hxl)) (by exact lin1 [_] 0 V0 U100 1 V0 U1 tt hal) ?_
       refine zA hs ?_
       refine And.intro (Nat.lt_of_le_of_lt hz (by decide)) ?_
       exact nxt _ _ _ _ hkept hs
      refine zA rD ?_
      refine pI (fun hcon => ?_) fun hcon => ?_
      ·cases p with
       | lit j => cases hpk; cases hcon
       | A => exact fin
       | B p => exact fin
       | _ => cases hpk
      ·rw [mf hpk hcon] at fin
       exact fin
     ·have ek := of_decide_eq_false ek
      have hkept : x.kept k i = x.losing i k.many := by unfold Ln.kept; rw [hkey, hpk]; simp [ek]
      refine zA hs ?_
      refine tn (by exact lin3 [_,_,_] 0 V0 U100 1 V1 U100 1 V2 V1 1 V0 V2 tt hcl (el hkl2) (el hxl)) (by exact lin3 [_,_,_,_] 0 S0 V1 1 S0 V2 1 V2 V3 1 V3 V1 tt hi (er hkl2) (er hxl)) (by exact lin1 [_] 0 V0 U100 1 V0 U1 tt hm) ?_
      refine zA hs ?_
      have := @xS x i k.many
      refine And.intro (yG (Nat.le_succ_of_le hz) (z5 (by exact lin1 [_] 0 V0 U100 1 V0 U1 tt this))) ?_
      exact nxt _ _ _ _ hkept hs
   ·intro done ρ st' hz3
    refine hid fun hG => ?_
    obtain ⟨hd, ⟨a, b, c, rfl⟩, hc, ht, hs⟩ := hz3
    refine hG ?_
    rw [List.append_nil] at hd
    subst hd
    refine And.intro (yG (uf sc) sf) ?_
    refine And.intro (uG (uF (uf sc) sf) (oI sc)) ?_
    refine zA hs ?_
    refine zP hs fun st₃ c₃ e₃ hs => ?_
    obtain ⟨hB, hBN⟩ := hL.below hi hk hfl
    have c₂₃ : Chg [kn] st st₃ := (c₁.trans (c₂.mono nofun)).fresh (hc.trans c₃) (y8 (by have zz1 := c₁.len; have zz2 := hkl; exact lin2 [_,_,_] 0 V0 V1 1 V2 V1 1 V0 V2 tt hkl zz1))
    have hk1 : kc < st₂.sto.length := h₂.cons.elim zM zM
    have hne : kc ≠ kk ∧ ka ≠ kk ∧ kn ≠ kk := by
     refine hid fun hG => ?_
     obtain ⟨_, _, e1, _⟩ := h₁.avo
     obtain ⟨_, _, e2, _⟩ := h₁.num
     refine hG ?_
     have e1 := zM e1
     have e2 := zM e2
     have e3 := h₁.cons.elim zM zM
     exact ⟨Nat.ne_of_lt (lin2 [_,_,_] 0 S0 V1 1 V2 V1 1 S0 V2 tt hkl e3), Nat.ne_of_lt (lin2 [_,_,_] 0 S0 V1 1 V2 V1 1 S0 V2 tt hkl e1), Nat.ne_of_lt (lin2 [_,_,_] 0 S0 V1 1 V2 V1 1 S0 V2 tt hkl e2)⟩
    have h₃ := h₂.keep (hc.trans c₃) (by simpa using hne)
    have hb : zQ tr i cols done [k] (f zG) = (.cons k (zo (f zG) k.many) (tr (cols.take i ++ zo (f zG) k.many ++ cols.drop (i + 1)) (done.flatMap (Ln.kept k i)) (f zG + k.many)).1 .nil, (tr (cols.take i ++ zo (f zG) k.many ++ cols.drop (i + 1)) (done.flatMap (Ln.kept k i)) (f zG + k.many)).2) := rfl
    rw [hb] at q hcb
    have hT := hT _ _ _ _ st₃ (fun d st' => Q (.tup [k.d, .list ((zo (f zG) k.many).map .str), d]) st') hB (by exact lin2 [_,_,_,_,_] 0 (.a (.a V0 V1) U1) V2 1 (.a V3 V4) V2 1 (.a (.a V0 V1) U1) (.a V3 V4) tt hN hBN) h₃
    rw [Cnt.set_at, Cnt.set_set] at hT
    have hT := hT hcb fun st₄ c₄ e₄ h₄ => q st₄ ((c₂₃.mono (by simp)).trans c₄) (by exact Nat.le_antisymm (lin5 [_,_,_,_,_,_] 0 V0 V1 1 V2 V1 1 V3 V2 1 V4 V3 1 V5 V4 1 V0 V5 tt (el e₁) (el e₂) (el ht) (el e₃) (el e₄)) (lin5 [_,_,_,_,_,_] 0 V0 V1 1 V0 V2 1 V2 V3 1 V3 V4 1 V4 V5 1 V5 V1 tt (er e₁) (er e₂) (er ht) (er e₃) (er e₄))) h₄ _ _ rfl
    rw [List.map_append, List.map_append, List.map_take, List.map_drop] at hT
    exact hT
  rcases hm01 with e | e
  ·rw [e] at rest ⊢
   exact rest st .refl rfl (by rw [Nat.add_zero, Cnt.set_self]; exact h)
  ·rw [e] at rest ⊢
   refine xQ (b := zG) nE (by exact lin2 [_,_,_] 0 S0 (.n 1000000000) 1 S1 (.n 1000000000) 1 (.a V0 V2) V1 tt hcb hc1) h fun st₁ c₁ e₁ h₁ => ?_
   exact rest st₁ c₁ e₁ h₁
 refine zA rD ?_
 refine pI (fun hc => ?_) fun hc => ?_
 ·refine zA oL ?_
  exact mc (pJ hc) h rest
 ·rw [me hc] at rest
  exact rest
end
theorem vD {tr : List Str → List Ln → Nat → Tree × Nat} (hM : ∀ cols lines c, c ≤ (tr cols lines c).2) {i : Nat} {cols : List Str} {ls : List Ln} : ∀ (ks : List Key) (c : Nat), c ≤ (zQ tr i cols ls ks c).2
 | [], c => Nat.le_refl _
 | k :: ks, c => by
  rw [zQ]
  exact Nat.le_trans (Nat.le_trans (Nat.le_add_right c k.many) (hM _ _ _)) (vD hM ks _)
theorem rE {tr : List Str → List Ln → Nat → Tree × Nat} {i : Nat} {cols : List Str} {ls : List Ln} : ∀ (a b : List Key) (c : Nat),
  (zQ tr i cols ls (a ++ b) c).1.d = (zQ tr i cols ls a c).1.d ++ (zQ tr i cols ls b (zQ tr i cols ls a c).2).1.d ∧ (zQ tr i cols ls (a ++ b) c).2 = (zQ tr i cols ls b (zQ tr i cols ls a c).2).2
 | [], b, c => by rw [List.nil_append]; simp [zQ, Brs.d]
 | k :: a, b, c => by
  have ih := rE (tr := tr) (i := i) (cols := cols) (ls := ls) a b
  simp only [List.cons_append, zQ, Brs.d, ih]
  simp
theorem um {falls : List Bool} : ∀ (N : Nat) (cols : List Str) (lines : List Ln) (c : Nat), c ≤ (z9 falls N cols lines c).2
 | 0, _, _, c => Nat.le_refl _
 | N + 1, cols, lines, c => by
  have ih := um (falls := falls) N
  cases lines with
  | nil => exact Nat.le_refl _
  | cons l ls =>
   cases e : scan cols 0 l with
   | mk f o => cases o with
    | some i =>
     rw [xO e]; unfold xW; dsimp only
     split
     ·exact vD ih _ _
     ·exact Nat.le_trans (vD ih _ _) (ih _ _ _)
    | none =>
     rw [xP e]; unfold qR
     split
     ·exact ih _ _ _
     ·split
      ·exact ih _ _ _
      ·exact Nat.le_refl _
set_option tactic.hygienic true in
theorem uo {i : Nat} : ∀ {ls : List Ln} {ks : List Key}, ks.Nodup → (ls.foldl (fun ks l => yL ks (l.key i)) ks).Nodup
 | [], ks, h => h
 | l :: ls, ks, h => by
  rw [List.foldl_cons]
  refine uo ?_
  unfold yL
  split
  ·exact h
  ·split
   ·exact h
   ·rename_i hn
    rw [List.nodup_append]
    exact ⟨h, by simp, fun a ha b hb e => hn (by simp at hb; subst hb; exact e ▸ ha)⟩
theorem vE {i : Nat} : ∀ {ls : List Ln} {ks : List Key}, (ls.foldl (fun ks l => yL ks (l.key i)) ks).length ≤ ks.length + ls.length
 | [], ks => by simp
 | l :: ls, ks => by
  rw [List.foldl_cons]
  refine Nat.le_trans vE ?_
  have : (yL ks (l.key i)).length ≤ ks.length + 1 := by
   unfold yL; split
   ·exact lin0 [_] 0 V0 S0 tt
   ·split <;> simp
  simp; exact lin1 [_,_,_] 0 (.a V0 V1) (.a V2 S1) 1 V0 S2 tt this
theorem uq {i : Nat} {ls : List Ln} : (zJ i ls).length ≤ ls.length := by
 have := @vE i ls []
 simpa [zJ] using this
set_option tactic.hygienic true in
theorem w6 {l : Ln} {i : Nat} {c : Str} {k : Key} (h : l.key i = some k) : l.plain i c = l := by
 unfold Ln.key at h
 unfold Ln.plain
 split
 ·rename_i s e; rw [e] at h; cases h
 ·rfl
section
variable {n : Nat} {st : St} {Q : D → St → Prop}
theorem Env.lts {kc ka kn : Nat} {f : Cnt} (h : Env kc ka kn f st) : kc < st.sto.length ∧ ka < st.sto.length ∧ kn < st.sto.length :=
 let ⟨_, _, e1, _⟩ := h.avo
 let ⟨_, _, e2, _⟩ := h.num
 ⟨h.cons.elim zM zM, zM e1, zM e2⟩
theorem nG {kc ka kn N : Nat} {f : Cnt} {falls : List Bool} {tr : List Str → List Ln → Nat → Tree × Nat} {i : Nat} {K : List Nat} {cols : List Str} {l : Ln} {lines : List Ln} {k : Key} (hT : vB kc ka kn falls (n + 9) N tr) (hT' : vB kc ka kn falls (n + 10) N tr) (hM : ∀ cols lines c, c ≤ (tr cols lines c).2)
  (hL : LinesOk falls.length K cols lines) (h0 : lines[0]? = some l) (hi : i < cols.length) (hk : l.key i = some k) (hN : K.sum + lines.length ≤ N)
  (h : Env kc ka kn f st) (hcb : (xW tr i cols lines (f zG)).2 < 10 ^ 9)
  (q : ∀ st', Chg [kc, kn] st st' → st'.nt = st.nt → Env kc ka kn (f.set zG (xW tr i cols lines (f zG)).2) st' → Q (xW tr i cols lines (f zG)).1.d st') :
  zD CQ (n + 11) (.val (.ref 915)) [vA kc ka kn falls, .int i, .list (cols.map .str), .list (lines.map Ln.d)] st Q := by
 have hll := hL.llen
 have hcl := hL.clen
 have hkl := hL.klen
 have hlm := List.mem_of_getElem? h0
 have h0' : (lines.map Ln.d)[0]? = some l.d := by rw [List.getElem?_map, h0]; rfl
 refine hid fun hG => ?_
 obtain ⟨p, hp⟩ := (hL.ok l hlm).at (i := i) (by exact lin2 [_,_,_] 0 S0 V1 1 S0 V2 1 V2 V1 tt hi (er hkl))
 have hp' : (l.pats.map Pat.d)[i]? = some p.d := by rw [List.getElem?_map, hp]; rfl
 have hpk : p.key = some k := by unfold Ln.key at hk; rw [hp] at hk; exact hk
 obtain ⟨x, hx⟩ : ∃ x, cols[i]? = some x := ⟨_, List.getElem?_eq_getElem hi⟩
 have hx' : (cols.map D.str)[i]? = some (.str x) := by rw [List.getElem?_map, hx]; rfl
 obtain ⟨pl, hpl⟩ : ∃ pl, pl = lines.map fun l => l.plain i x := ⟨_, rfl⟩
 refine hG ?_
 have hLp : LinesOk falls.length K cols pl := ⟨hkl, hcl, by rw [hpl, List.length_map]; exact hll, fun l' hl' => by
  rw [hpl] at hl'
  refine hid fun hG => ?_
  obtain ⟨l₀, hl₀, rfl⟩ := List.mem_map.mp hl'
  refine hG ?_
  exact (hL.ok l₀ hl₀).plain⟩
 have hpv : ∀ l ∈ pl, ∀ s, l.pats[i]? ≠ some (.var s) := by
  intro l' hl' s
  rw [hpl] at hl'
  refine hid fun hG => ?_
  obtain ⟨l₀, hl₀, rfl⟩ := List.mem_map.mp hl'
  refine hG ?_
  exact xB
 have hpll : pl.length = lines.length := by rw [hpl, List.length_map]
 have hk0 : k ∈ zJ i pl := by
  rw [keysOf_mem]
  refine ⟨l.plain i x, by rw [hpl]; exact List.mem_map_of_mem hlm, ?_⟩
  rw [w6 hk]; exact hk
 have sc : (cols.map D.str).length ≤ 100 := z5 hcl
 refine zE ⟨rfl, ?_⟩
 refine zA h0' ?_
 refine zA hp' ?_
 refine pL h ?_
 refine w0 (by cases p <;> rfl) ?_
 refine zx Ln.d (fun l => (l.plain i x).d) (fun y hy KK KK' q => ?_) ?_
 ·have hyo := hL.ok y hy
  have hyl := hyo.fit.len
  have hyb := hyo.bnd
  refine zA hx' ?_
  exact qS (by exact lin3 [_,_,_] 0 V0 U100 1 V1 U100 1 V2 V1 1 V0 V2 tt hcl (el hkl) (el hyl)) (by exact lin3 [_,_,_,_] 0 S0 V1 1 S0 V2 1 V2 V3 1 V3 V1 tt hi (er hkl) (er hyl)) (by exact lin1 [_,_] 0 V0 U100 1 (.a V0 V1) U100 tt hyb) q
 rw [show lines.map (fun l => (l.plain i x).d) = pl.map Ln.d by rw [hpl, List.map_map]; rfl]
 refine zi fun st₂ kk c₂ e₂ hkk hkl2 => ?_
 have h₂ := h.keep0 c₂
 refine yF Ln.d (fun done rest ρ st' => done ++ rest = pl ∧ (∃ a b, ρ = [some (vA kc ka kn falls), some (.int i), some (.list (cols.map .str)), some (.list (lines.map Ln.d)), some p.d, none, a, some (.list (pl.map Ln.d)), some (.mref kk), b, none, none, none, none]) ∧
  Chg [kk] st₂ st' ∧ st'.nt = st₂.nt ∧ st'.sto[kk]? = some (.lst ((zJ i done).map Key.d))) ?_ ?_ (done := []) ⟨rfl, ⟨_, _, rfl⟩, .refl, rfl, hkk⟩
 ·intro done y rest ρ st' KK hz6 k1 k2
  refine hid fun hG => ?_
  obtain ⟨hd, ⟨a, b, rfl⟩, hc, ht, hs⟩ := hz6
  have hy : y ∈ pl := hd ▸ List.mem_append_right _ (.head _)
  have hyo := hLp.ok y hy
  obtain ⟨p, hyp⟩ := hyo.at (i := i) (by exact lin2 [_,_,_] 0 S0 V1 1 S0 V2 1 V2 V1 tt hi (er hkl))
  refine hG ?_
  have hyp' : (y.pats.map Pat.d)[i]? = some p.d := by rw [List.getElem?_map, hyp]; rfl
  have hkey : y.key i = p.key := by unfold Ln.key; rw [hyp]; rfl
  have hdl : done.length + 1 + rest.length = pl.length := by rw [← hd]; simp; exact Nat.le_antisymm (lin0 [_,_] 0 (.a S0 V1) (.a V0 S1) tt) (lin0 [_,_] 0 (.a V0 S1) (.a S0 V1) tt)
  have hkl3 := @uq i done
  have hsn : zJ i (done ++ [y]) = yL (zJ i done) p.key := by unfold zJ; rw [List.foldl_append, List.foldl_cons, List.foldl_nil, hkey]
  refine zA hyp' ?_
  refine v5 ?_
  cases hpk : p.key with
  | none => exact k1 _ _ ⟨yI hd, ⟨_, _, rfl⟩, hc, ht, by rw [hsn, hpk]; exact hs⟩
  | some k' =>
   refine zA hs ?_
   refine zA (qX 1 k' _) ?_
   refine yJ (fun hm => ?_) fun hm => ?_
   ·have hm : k' ∉ zJ i done := by simpa using hm
    refine zA hs ?_
    refine zA hs ?_
    refine And.intro (Nat.lt_of_le_of_lt (z5 (N := 100) (by exact lin4 [_,_,_,_,_] 0 V0 U100 1 V1 U100 1 V2 V1 1 (.a S3 V4) V2 1 V0 V3 tt hll (el hpll) (el hdl) hkl3)) (by decide)) ?_
    refine zP hs fun st₅ c₅ e₅ hs => ?_
    refine k1 _ _ ⟨yI hd, ⟨_, _, rfl⟩, hc.trans c₅, e₅.trans ht, by rw [hsn, hpk, hs]; unfold yL; dsimp only; rw [if_neg hm, List.map_append]; rfl⟩
   ·have hm : k' ∈ zJ i done := by simpa using hm
    exact k1 _ _ ⟨yI hd, ⟨_, _, rfl⟩, hc, ht, by rw [hsn, hpk, hs]; unfold yL; dsimp only; rw [if_pos hm]⟩
 intro done ρ st₃ hz3
 refine hid fun hG => ?_
 obtain ⟨hd, ⟨a, b, rfl⟩, hc, ht, hs⟩ := hz3
 refine hG ?_
 rw [List.append_nil] at hd
 subst hd
 have hlook : xW tr i cols lines (f zG) = (if ue (zJ i done) then (.switch x (zQ tr i cols done (zJ i done) (f zG)).1 .none, (zQ tr i cols done (zJ i done) (f zG)).2) else
   (.switch x (zQ tr i cols done (zJ i done) (f zG)).1 (.some (tr (cols.take i ++ cols.drop (i + 1)) (done.flatMap (Ln.others i)) (zQ tr i cols done (zJ i done) (f zG)).2).1), (tr (cols.take i ++ cols.drop (i + 1)) (done.flatMap (Ln.others i)) (zQ tr i cols done (zJ i done) (f zG)).2).2)) := by
  unfold xW; simp only [hx, Option.getD_some, ← hpl]
 have hcb1 : (zQ tr i cols done (zJ i done) (f zG)).2 ≤ (xW tr i cols lines (f zG)).2 := by
  rw [hlook]; split
  ·exact Nat.le_refl _
  ·exact hM _ _ _
 refine zA hs ?_
 refine zP hs fun st₄ c₄ e₄ hs => ?_
 have hl0 := h.lts
 have hne : kc ≠ kk ∧ ka ≠ kk ∧ kn ≠ kk := by exact ⟨Nat.ne_of_lt (lin2 [_,_,_] 0 S0 V1 1 V2 V1 1 S0 V2 tt hkl2 hl0.1), Nat.ne_of_lt (lin2 [_,_,_] 0 S0 V1 1 V2 V1 1 S0 V2 tt hkl2 hl0.2.1), Nat.ne_of_lt (lin2 [_,_,_] 0 S0 V1 1 V2 V1 1 S0 V2 tt hkl2 hl0.2.2)⟩
 have h₄ := h₂.keep (hc.trans c₄) (by simpa using hne)
 have c₀₄ : Chg [] st st₄ := (c₂.fresh (hc.trans c₄) (y8 hkl2))
 refine xp Key.d (fun d rest acc st' => d ++ rest = zJ i done ∧ acc = (zQ tr i cols done d (f zG)).1.d ∧ Chg [kc, kn] st₄ st' ∧ st'.nt = st₄.nt ∧ Env kc ka kn (f.set zG (zQ tr i cols done d (f zG)).2) st') ?_ (done := []) (acc := []) ⟨rfl, rfl, .refl, rfl, by rw [zQ]; dsimp only; rw [Cnt.set_self]; exact h₄⟩ ?_
 ·intro d k' rest acc st' KK KK' hz7 k1 k2
  refine hid fun hG => ?_
  obtain ⟨hd, ha, hc', ht', he⟩ := hz7
  obtain ⟨a1, a2⟩ := rE (tr := tr) (i := i) (cols := cols) (ls := done) d [k'] (f zG)
  obtain ⟨a3, a4⟩ := rE (tr := tr) (i := i) (cols := cols) (ls := done) (d ++ [k']) rest (f zG)
  refine hG ?_
  rw [List.append_assoc, List.singleton_append, hd] at a3 a4
  have a5 : (zQ tr i cols done (d ++ [k']) (f zG)).2 ≤ (zQ tr i cols done (zJ i done) (f zG)).2 := by rw [a4]; exact vD hM _ _
  have hkm : k'.many ≤ 1 := by cases k' <;> exact Nat.le_of_ble_eq_true rfl
  refine nF hT hM hLp hi hpv (by rw [← hd]; simp) (by exact lin2 [_,_,_,_] 0 (.a V0 V1) V2 1 (.a V0 V3) V2 1 V1 V3 tt hN (el hpll)) hkm he (by rw [Cnt.set_at, ← a2]; exact lin3 [_,_,_] 0 S0 (.n 1000000000) 1 S1 (.n 1000000000) 1 V2 V1 1 V0 V2 tt hcb hcb1 a5) fun st'' c'' e'' h'' fs t hb => ?_
  rw [Cnt.set_at] at h'' hb
  rw [Cnt.set_set, ← a2] at h''
  refine k1 _ _ ⟨yI hd, ?_, hc'.trans c'', e''.trans ht', h''⟩
  rw [a1, hb, ha]; rfl
 intro brs st₅ hz2
 refine hid fun hG => ?_
 obtain ⟨_, ha, c₅, ht₅, h₅⟩ := hz2
 refine hG ?_
 simp only [List.nil_append] at ha h₅
 subst ha
 have hl5 := h₅.lts
 have hs := c₅.get hs (by simp; exact ⟨Nat.ne_of_gt (lin2 [_,_,_] 0 S0 V1 1 V2 V1 1 S0 V2 tt hkl2 hl0.1), Nat.ne_of_gt (lin2 [_,_,_] 0 S0 V1 1 V2 V1 1 S0 V2 tt hkl2 hl0.2.2)⟩)
 have hkeys := @uq i done
 refine zi fun st₆ ko c₆ e₆ hso hol => ?_
 have h₆ := h₅.keep0 c₆
 have hs := c₆.get hs List.not_mem_nil
 refine yF Ln.d (fun d rest ρ st' => d ++ rest = done ∧ (∃ a b, ρ = [some (vA kc ka kn falls), some (.int i), some (.list (cols.map .str)), some (.list (lines.map Ln.d)), some p.d, none, a, some (.list (done.map Ln.d)), some (.mref kk), b, some (.list (zQ tr i cols done (zJ i done) (f zG)).1.d), some (.mref ko), none, none]) ∧
  Chg [ko] st₆ st' ∧ st'.nt = st₆.nt ∧ st'.sto[ko]? = some (.lst ((d.flatMap (Ln.others i)).map Ln.d))) ?_ ?_ (done := []) ⟨rfl, ⟨_, _, rfl⟩, .refl, rfl, hso⟩
 ·intro d y rest ρ st' KK hz6 k1 k2
  refine hid fun hG => ?_
  obtain ⟨hd, ⟨a, b, rfl⟩, hc, ht, hs⟩ := hz6
  have hy : y ∈ done := hd ▸ List.mem_append_right _ (.head _)
  have hyo := hLp.ok y hy
  have hyl := hyo.fit.len
  obtain ⟨p', hyp⟩ := hyo.at (i := i) (by exact lin2 [_,_,_] 0 S0 V1 1 S0 V2 1 V2 V1 tt hi (er hkl))
  refine hG ?_
  have hyp' : (y.pats.map Pat.d)[i]? = some p'.d := by rw [List.getElem?_map, hyp]; rfl
  have hkey : y.key i = p'.key := by unfold Ln.key; rw [hyp]; rfl
  have hdl : d.length + 1 + rest.length = done.length := by rw [← hd]; simp; exact Nat.le_antisymm (lin0 [_,_] 0 (.a S0 V1) (.a V0 S1) tt) (lin0 [_,_] 0 (.a V0 S1) (.a S0 V1) tt)
  have hfl := yP (g := Ln.others i) (fun l => w5) d
  have hz : ((d.flatMap (Ln.others i)).map Ln.d).length ≤ 100 := z5 (by exact lin4 [_,_,_,_,_] 0 V0 U100 1 V1 U100 1 V2 V1 1 (.a S3 V4) V2 1 V0 V3 tt hll (el hpll) (el hdl) hfl)
  have nxt : ∀ l a b, y.others i = l → l.length ≤ 1 → rN .extend ko [.list (l.map Ln.d)] st' fun U st'' => KK (.fall [some (vA kc ka kn falls), some (.int i), some (.list (cols.map .str)), some (.list (lines.map Ln.d)), some p.d, none, a, some (.list (done.map Ln.d)), some (.mref kk), b, some (.list (zQ tr i cols done (zJ i done) (f zG)).1.d), some (.mref ko), none, none]) st'' := by
   intro l a b e h1
   refine zA hs ?_
   refine And.intro (yG hz (z5 (Nat.le_trans h1 (by decide)))) ?_
   refine zP hs fun st'' c' e' hs => ?_
   refine k1 _ _ ⟨yI hd, ⟨_, _, rfl⟩, hc.trans c', e'.trans ht, ?_⟩
   rw [hs, ← e]; simp
  refine zA hs ?_
  refine zA hyp' ?_
  refine v5 ?_
  cases hpk : p'.key with
  | none =>
   have ho : y.others i = [y.put i []] := by unfold Ln.others; rw [hkey, hpk]
   refine pF (ps := []) (by exact lin3 [_,_,_] 0 V0 U100 1 V1 U100 1 V2 V1 1 V0 V2 tt hcl (el hkl) (el hyl)) (Nat.zero_le _) ?_
   exact nxt _ _ _ ho (Nat.le_refl _)
  | some k' =>
   have ho : y.others i = y.losing i 0 := by unfold Ln.others; rw [hkey, hpk]
   refine tn (m := 0) (by exact lin3 [_,_,_] 0 V0 U100 1 V1 U100 1 V2 V1 1 V0 V2 tt hcl (el hkl) (el hyl)) (by exact lin3 [_,_,_,_] 0 S0 V1 1 S0 V2 1 V2 V3 1 V3 V1 tt hi (er hkl) (er hyl)) (by exact lin0 [] 0 U0 U100 tt) ?_
   exact nxt _ _ _ ho xS
 intro d ρ st₇ hz3
 refine hid fun hG => ?_
 obtain ⟨hd, ⟨a, b, rfl⟩, hc, ht, hso⟩ := hz3
 rw [List.append_nil] at hd
 subst hd
 have hs := hc.get hs (by simp; have := zM ‹st₅.sto[kk]? = _›; exact Nat.ne_of_lt (lin2 [_,_,_] 0 S0 V1 1 V2 V1 1 S0 V2 tt hol this))
 have h₇ := h₆.keep hc (by simp; exact ⟨Nat.ne_of_lt (lin2 [_,_,_] 0 S0 V1 1 S0 V2 1 V2 V1 tt hl5.1 hol), Nat.ne_of_lt (lin2 [_,_,_] 0 S0 V1 1 S0 V2 1 V2 V1 tt hl5.2.1 hol), Nat.ne_of_lt (lin2 [_,_,_] 0 S0 V1 1 S0 V2 1 V2 V1 tt hl5.2.2 hol)⟩)
 obtain ⟨k1, kr, hks⟩ : ∃ k1 kr, zJ i d = k1 :: kr := by
  cases e : zJ i d with
  | nil => rw [e] at hk0; simp at hk0
  | cons a b => exact ⟨_, _, rfl⟩
 refine hG ?_
 have hkd : (zJ i d).map Key.d = k1.d :: kr.map Key.d := by rw [hks]; rfl
 rw [hkd] at hs
 have hkr : (zJ i d).length = kr.length + 1 := by rw [hks]; rfl
 have cA : Chg [kc, kn] st st₇ := (((c₀₄.mono nofun).trans c₅).trans (c₆.mono nofun)).fresh hc (y8 (by have zz1 := (c₀₄.len); have zz2 := c₅.len; exact lin3 [_,_,_,_] 0 V0 V1 1 V2 V1 1 V0 V3 1 V3 V2 tt hol zz1 zz2))
 have rest : ∀ w, w = ue (zJ i d) → ∀ st₈ a b, Chg [kc] st₇ st₈ → st₈.nt = st₇.nt → Env kc ka kn (f.set zG (zQ tr i cols d (zJ i d) (f zG)).2) st₈ → (run (zD CQ (n + 10)) (ir_Decider_looked.dr 10)).s [some (vA kc ka kn falls), some (.int i), some (.list (cols.map .str)), some (.list (lines.map Ln.d)), some p.d, none, a, some (.list (d.map Ln.d)), some (.mref kk), b, some (.list (zQ tr i cols d (zJ i d) (f zG)).1.d), some (.mref ko), some (.bool w), none] st₈ (wO Q) := by
  rintro w rfl st₈ a b c₈ e₈ h₈
  have hso := c₈.get hso (ne1 (Nat.ne_of_gt (lin2 [_,_,_] 0 S0 V1 1 S0 V2 1 V2 V1 tt hl5.1 hol)))
  have cB : Chg [kc, kn] st st₈ := cA.trans (c₈.mono (by simp))
  refine And.intro (yG (uf sc) (oI sc)) ?_
  refine zA hx' ?_
  rw [hlook] at q hcb
  refine yJ (fun hw => ?_) fun hw => ?_
  ·rw [if_pos hw] at q
   exact q _ cB (by omega) h₈
  ·rw [if_neg (by rw [hw]; decide)] at q hcb
   refine zA hso ?_
   refine zP hso fun st₉ c₉ e₉ U => ?_
   have h₉ := h₈.keep c₉ (by simp; exact ⟨Nat.ne_of_lt (lin2 [_,_,_] 0 S0 V1 1 S0 V2 1 V2 V1 tt hl5.1 hol), Nat.ne_of_lt (lin2 [_,_,_] 0 S0 V1 1 S0 V2 1 V2 V1 tt hl5.2.1 hol), Nat.ne_of_lt (lin2 [_,_,_] 0 S0 V1 1 S0 V2 1 V2 V1 tt hl5.2.2 hol)⟩)
   refine hid fun hG => ?_
   obtain ⟨hR, hRN⟩ := hLp.rest hi ⟨_, (keysOf_mem.mp hk0).choose_spec.1, by rw [(keysOf_mem.mp hk0).choose_spec.2]; simp⟩
   refine hG ?_
   have cC : Chg [kc, kn] st st₉ := cB.fresh c₉ (y8 (by have zz1 := (c₀₄.len); have zz2 := c₅.len; exact lin3 [_,_,_,_] 0 V0 V1 1 V2 V1 1 V0 V3 1 V3 V2 tt hol zz1 zz2))
   conv => whnf
   rw [← List.map_take, ← List.map_drop, ← List.map_append]
   refine hT' _ _ _ _ _ _ hR (by exact lin3 [_,_,_,_,_,_] 0 (.a (.a V0 V1) U1) V2 1 (.a V3 V4) V2 1 V5 V4 1 (.a (.a V0 V1) U1) (.a V3 V5) tt hN (el hpll) hRN) h₉ (by rw [Cnt.set_at]; exact hcb) fun st₁₀ c₁₀ e₁₀ h₁₀ => ?_
   rw [Cnt.set_at, Cnt.set_set] at h₁₀
   rw [Cnt.set_at]
   exact q _ (cC.trans c₁₀) (by omega) h₁₀
 refine zA hs ?_
 refine zA (a := k1.d) rfl ?_
 refine zA rD ?_
 refine pI (fun hcon => ?_) fun hcon => ?_
 ·refine zA hs ?_
  refine zA hs ?_
  refine zA (a := k1.d) rfl ?_
  refine zA oL ?_
  refine qW (pJ hcon) h₇ fun st₈ c₈ e₈ h₈ => ?_
  refine rest (Int.ofNat (k1.d :: List.map Key.d kr).length == Int.ofNat [D.str (Str.ofString "M.A"), D.str (Str.ofString "M.B")].length) ?_ st₈ a b c₈ e₈ h₈
  have : ue (k1 :: kr) = (kr.length == 1) := by rcases pJ hcon with rfl | rfl <;> rfl
  rw [hks, this, Bool.eq_iff_iff, beq_iff_eq, beq_iff_eq, List.length_cons, List.length_map]
  exact ⟨fun z => Nat.succ.inj (Int.ofNat.inj z), fun z => by rw [z]; rfl⟩
 ·have e : ue (zJ i d) = false := by
   rw [hks]
   cases k1 with
   | lit j => rfl
   | _ => cases hcon
  exact rest _ e.symm st₇ a b .refl rfl h₇
end
theorem yg {n x : Nat} {a b : List Nat} (h : a ++ x :: b = List.range n) : x = a.length ∧ a.length < n := by
 have h1 : (List.range n)[a.length]? = some x := by rw [← h]; simp
 rw [List.getElem?_eq_some_iff] at h1
 obtain ⟨h2, h3⟩ := h1
 rw [List.getElem_range] at h3
 exact ⟨h3.symm, by simpa using h2⟩
theorem mi {falls : List Bool} {j : Nat} (h : j < falls.length) : (falls.map D.bool)[j]? = some (.bool ((falls[j]?).getD false)) := by
 rw [List.getElem?_map, List.getElem?_eq_getElem h]; rfl
theorem oM {kc ka kn : Nat} {falls : List Bool} (hF : falls.length ≤ 100) : ∀ (N n : Nat), 3 * N + 20 ≤ n → vB kc ka kn falls n N (z9 falls N) := by
 intro N
 induction N with
 | zero => intro n hn K cols lines f st Q hL hK; exact absurd hK (Nat.not_lt_zero _)
 | succ N ih =>
  intro n hn K cols lines f st Q hL hK h hcb q
  obtain ⟨n, rfl⟩ : ∃ m, n = m + 12 := ⟨n - 12, by exact Nat.le_antisymm (lin1 [_,_] 0 V0 (.a V1 (.n 12)) 1 V0 (.a V1 (.n 12)) tt sb1) (lin1 [_,_] 0 (.a V0 (.n 12)) V1 1 (.a V0 (.n 12)) V1 tt (sb3 (lin1 [_,_] 22 (.n 12) V0 12 (.a (.m 3 S1) (.n 20)) V0 tt hn)))⟩
  have hcl := hL.clen
  have hkl := hL.klen
  have hll := hL.llen
  refine zE ⟨rfl, ?_⟩
  cases lines with
  | nil =>
   have := q st .refl rfl (by rw [vZ]; dsimp only; rw [Cnt.set_self]; exact h)
   rw [vZ] at this
   exact this
  | cons l ls =>
   have hlo := hL.ok l (.head _)
   have hLs : LinesOk falls.length K cols ls := ⟨hkl, hcl, Nat.le_of_succ_le hll, fun l' hl' => hL.ok l' (.tail _ hl')⟩
   have hKs : K.sum + ls.length < N := Nat.lt_of_succ_lt_succ hK
   refine ⟨cols.length, ⟨by rw [List.length_map]; rfl, zU (by exact lin1 [_] 0 V0 U1000 1 V0 U100 tt hcl)⟩, ?_⟩
   refine yF (fun i : Nat => D.int (Int.ofNat i)) (fun done rest ρ st' => done ++ rest = List.range cols.length ∧ st' = st ∧ ∃ cur : Ln, (∃ a b, ρ = [some (vA kc ka kn falls), some (.list (cols.map .str)), some (.list (l.d :: ls.map Ln.d)), some cur.d, a, b, none]) ∧
    LnOk falls.length K cur ∧ cur.number = l.number ∧ cur.lost = l.lost ∧ scan (cols.drop done.length) done.length cur = scan cols 0 l) ?_ ?_ (done := [])
    ⟨rfl, rfl, l, ⟨_, _, rfl⟩, hlo, rfl, rfl, rfl⟩
   ·intro done y rest ρ st' KK hz6 k1 k2
    refine hid fun hG => ?_
    obtain ⟨hd, rfl, cur, ⟨a, b, rfl⟩, ho, hnu, hlo', hsc⟩ := hz6
    obtain ⟨rfl, hyl⟩ := yg hd
    refine hG ?_
    have hx : cols[done.length]? = some cols[done.length] := List.getElem?_eq_getElem hyl
    have hx' : (cols.map D.str)[done.length]? = some (.str cols[done.length]) := by rw [List.getElem?_map, hx]; rfl
    have hol := ho.fit.len
    have hob := ho.bnd
    refine zA hx' ?_
    refine qS (by exact lin3 [_,_,_] 0 V0 U100 1 V1 U100 1 V2 V1 1 V0 V2 tt hcl (el hkl) (el hol)) (by exact lin3 [_,_,_,_] 0 S0 V1 1 V2 V3 1 S0 V2 1 V3 V1 tt (er hkl) hyl (er hol)) (by exact lin1 [_,_] 0 V0 U100 1 (.a V0 V1) U100 tt hob) ?_
    have ho' : LnOk falls.length K (cur.plain done.length cols[done.length]) := ho.plain
    have hnu' : (cur.plain done.length cols[done.length]).number = l.number := by rw [v7, hnu]
    have hlo₂ : (cur.plain done.length cols[done.length]).lost = l.lost := by rw [w4, hlo']
    have hnv : ∀ s, (cur.plain done.length cols[done.length]).pats[done.length]? ≠ some (.var s) := fun s => xB
    rw [List.drop_eq_getElem_cons hyl, scan] at hsc
    generalize cur.plain done.length cols[done.length] = cur' at ho' hnu' hlo₂ hnv hsc ⊢
    obtain ⟨p, hp⟩ := ho'.at (i := done.length) (by exact lin2 [_,_,_] 0 S0 V1 1 V2 V1 1 S0 V2 tt (er hkl) hyl)
    have hp' : (cur'.pats.map Pat.d)[done.length]? = some p.d := by rw [List.getElem?_map, hp]; rfl
    refine zA hp' ?_
    rw [hp] at hsc hnv
    refine yJ (fun hw => ?_) fun hw => ?_
    ·have hw : p ≠ .wild := by rintro rfl; cases hw
     rw [if_neg (by simpa using hw)] at hsc
     obtain ⟨k, hk⟩ : ∃ k, p.key = some k := by
      cases p with
      | wild => exact absurd rfl hw
      | var s => exact absurd rfl (hnv s)
      | lit i => exact ⟨_, rfl⟩
      | A => exact ⟨_, rfl⟩
      | B p => exact ⟨_, rfl⟩
     have ht : z9 falls (N + 1) cols (l :: ls) = fun c => xW (z9 falls N) done.length cols (cur' :: ls) c := by
      funext c; exact xO hsc.symm
     rw [ht] at q hcb
     refine And.intro (yG (l := [_]) (Nat.le_of_ble_eq_true rfl) (z5 (Nat.le_of_succ_le hll))) ?_
     refine nG (lines := cur' :: ls) (l := cur') (k := k) (ih _ (by exact lin1 [_,_] 0 (.a (.m 3 V0) (.n 20)) (.a V1 (.n 9)) 1 (.a (.m 3 S0) (.n 20)) (.a V1 (.n 12)) tt hn)) (ih _ (by exact lin1 [_,_] 0 (.a (.m 3 V0) (.n 20)) (.a V1 U10) 1 (.a (.m 3 S0) (.n 20)) (.a V1 (.n 12)) tt hn)) (um _) ⟨hkl, hcl, hll, fun l' hl' => ?_⟩ rfl hyl (by unfold Ln.key; rw [hp]; exact hk) (Nat.le_of_lt_succ hK) h hcb fun st₂ c₂ e₂ h₂ => ?_
     ·rcases List.mem_cons.mp hl' with rfl | z
      ·exact ho'
      ·exact hL.ok l' (.tail _ z)
     ·refine k2 _ _ ?_
      exact q _ c₂ e₂ h₂
    ·have hw : p = .wild := by
      cases p with
      | wild => rfl
      | _ => cases hw
     subst hw
     rw [if_pos rfl] at hsc
     refine k1 _ _ ⟨yI hd, rfl, cur', ⟨_, _, rfl⟩, ho', hnu', hlo₂, ?_⟩
     rw [List.length_append]; exact hsc
   ·intro done ρ st' hz3
    refine hid fun hG => ?_
    obtain ⟨hd, rfl, cur, ⟨a, b, rfl⟩, ho, hnu, hlo', hsc⟩ := hz3
    refine hG ?_
    rw [List.append_nil] at hd
    have hdl : done.length = cols.length := by rw [hd, List.length_range]
    rw [hdl, List.drop_length, scan] at hsc
    have ht : ∀ c, z9 falls (N + 1) cols (l :: ls) c = (if cur.lost then z9 falls N cols ls c else if (falls[cur.number]?).getD false then
      (.leaf cur.number cur.binds (.some (z9 falls N cols ls c).1), (z9 falls N cols ls c).2) else (.leaf cur.number cur.binds .none, c)) := by
     intro c; exact xP hsc.symm
    have hfl := mi (falls := falls) ho.num
    rw [ht] at q hcb
    refine yJ (fun hlost => ?_) fun hlost => ?_
    ·rw [if_pos hlost] at q hcb
     exact ih _ (by exact lin1 [_,_] 0 (.a (.m 3 V0) (.n 20)) (.a V1 (.n 11)) 1 (.a (.m 3 S0) (.n 20)) (.a V1 (.n 12)) tt hn) _ _ _ _ _ _ hLs hKs h hcb q
    ·rw [if_neg (by rw [hlost]; decide)] at q hcb
     refine zA hfl ?_
     refine yJ (fun hff => ?_) fun hff => ?_
     ·rw [if_pos hff] at q hcb
      exact ih _ (by exact lin1 [_,_] 0 (.a (.m 3 V0) (.n 20)) (.a V1 (.n 11)) 1 (.a (.m 3 S0) (.n 20)) (.a V1 (.n 12)) tt hn) _ _ _ _ _ _ hLs hKs h hcb q
     ·rw [if_neg (by rw [hff]; decide)] at q
      exact q _ .refl rfl (by rw [Cnt.set_self]; exact h)
noncomputable abbrev Br := Key × List Str × Tree
noncomputable def Br.d (x : Br) : D := .tup [x.1.d, .list (x.2.1.map .str), x.2.2.d]
theorem br_d {x : Br} : Br.d x = .tup [x.1.d, .list (x.2.1.map .str), x.2.2.d] := rfl
noncomputable def Brs.toL : Brs → List Br
 | .nil => []
 | .cons k fs t r => (k, fs, t) :: r.toL
theorem Brs.d_eq : ∀ b : Brs, b.d = b.toL.map Br.d
 | .nil => by rw [Brs.d, Brs.toL]; rfl
 | .cons k fs t r => by rw [Brs.d, Brs.toL, List.map_cons, r.d_eq]; rfl
mutual
noncomputable def Tree.dep : Tree → Nat
 | .nothing => 0
 | .leaf _ _ o => o.dep + 1
 | .switch _ b o => max b.dep o.dep + 1
noncomputable def OTree.dep : OTree → Nat
 | .none => 0
 | .some t => t.dep
noncomputable def Brs.dep : Brs → Nat
 | .nil => 0
 | .cons _ _ t r => max t.dep r.dep
end
mutual
noncomputable def Tree.size : Tree → Nat
 | .nothing => 1
 | .leaf _ _ o => o.size + 1
 | .switch _ b o => b.size + o.size + 1
noncomputable def OTree.size : OTree → Nat
 | .none => 0
 | .some t => t.size
noncomputable def Brs.size : Brs → Nat
 | .nil => 0
 | .cons _ _ t r => t.size + r.size
end
mutual
noncomputable def Tree.use (x : Int) : Tree → Nat
 | .nothing => if x = -1 then 1 else 0
 | .leaf n _ o => (if x = (n : Int) then 1 else 0) + o.use x
 | .switch _ b o => b.use x + o.use x
noncomputable def OTree.use (x : Int) : OTree → Nat
 | .none => 0
 | .some t => t.use x
noncomputable def Brs.use (x : Int) : Brs → Nat
 | .nil => 0
 | .cons _ _ t r => t.use x + r.use x
end
noncomputable abbrev Ct := List Int × List Int
noncomputable def Ct.get (c : Ct) (x : Int) : Int := ((c.1.zip c.2).lookup x).getD 0
noncomputable def qY (ks : List Int) (l : List Int) (x d : Int) : Ct :=
 if ks.contains x then (ks, (ks.zip l).map fun p => if p.1 = x then d else p.2) else (ks ++ [x], l ++ [d])
noncomputable def Ct.bump (c : Ct) (x : Int) : Ct := qY c.1 c.2 x (c.get x + 1)
mutual
noncomputable def Tree.cnt : Tree → Ct → Ct
 | .nothing, c => c.bump (-1)
 | .leaf n _ o, c => o.cnt (c.bump n)
 | .switch _ b o, c => o.cnt (b.cnt c)
noncomputable def OTree.cnt : OTree → Ct → Ct
 | .none, c => c
 | .some t, c => t.cnt c
noncomputable def Brs.cnt : Brs → Ct → Ct
 | .nil, c => c
 | .cons _ _ t r, c => r.cnt (t.cnt c)
end
theorem Brs.cnt_eq : ∀ (b : Brs) (c : Ct), b.cnt c = b.toL.foldl (fun c x => x.2.2.cnt c) c
 | .nil, c => by rw [Brs.cnt, Brs.toL]; rfl
 | .cons k fs t r, c => by rw [Brs.cnt, Brs.toL, List.foldl_cons, r.cnt_eq]
theorem Brs.dep_mem : ∀ (b : Brs) (x : Br), x ∈ b.toL → x.2.2.dep ≤ b.dep
 | .nil, x, h => by simp [Brs.toL] at h
 | .cons k fs t r, x, h => by
  rw [Brs.toL, List.mem_cons] at h
  rw [Brs.dep]
  rcases h with rfl | h
  ·exact Nat.le_max_left _ _
  ·exact Nat.le_trans (r.dep_mem x h) (Nat.le_max_right _ _)
theorem Brs.size_eq : ∀ (b : Brs), b.size = (b.toL.map fun x => x.2.2.size).sum
 | .nil => by rw [Brs.size, Brs.toL]; rfl
 | .cons k fs t r => by rw [Brs.size, Brs.toL, List.map_cons, List.sum_cons, r.size_eq]
theorem Brs.use_eq (y : Int) : ∀ (b : Brs), b.use y = (b.toL.map fun x => x.2.2.use y).sum
 | .nil => by rw [Brs.use, Brs.toL]; rfl
 | .cons k fs t r => by rw [Brs.use, Brs.toL, List.map_cons, List.sum_cons, r.use_eq]
noncomputable def Ct.ok (c : Ct) : Prop := c.1.length = c.2.length
theorem rF {ks l : List Int} {x d : Int} : zS ks (l.map D.int) x (.int d) = ((qY ks l x d).1, (qY ks l x d).2.map D.int) := by
 unfold zS qY
 split
 ·simp only [Prod.mk.injEq, true_and]
  rw [List.zip_map_right, List.map_map, List.map_map]
  apply List.map_congr_left
  rintro ⟨a, b⟩ _
  simp only [Function.comp, Prod.map, id]
  split <;> rfl
 ·simp
theorem w7 {ks l : List Int} {x : Int} : (ks.zip (l.map D.int)).lookup x = ((ks.zip l).lookup x).map D.int := by
 induction ks generalizing l with
 | nil => rfl
 | cons k ks ih => cases l with
  | nil => rfl
  | cons a l =>
   simp only [List.map_cons, List.zip_cons_cons, List.lookup_cons]
   split
   ·rfl
   ·exact ih
theorem tw {ks l : List Int} {x : Int} : (xc ks (l.map D.int) x).getD (.int 0) = .int (Ct.get (ks, l) x) := by
 unfold xc Ct.get
 rw [w7]
 dsimp only
 cases (ks.zip l).lookup x <;> rfl
theorem vF {c : Ct} {x : Int} (h : c.ok) : (c.bump x).ok := by
 unfold Ct.ok at *
 have := uH (x := x) (d := .int (c.get x + 1)) (show c.1.length = (c.2.map D.int).length by simpa using h)
 rw [rF] at this
 unfold Ct.bump
 simpa using this
theorem nH {ks l : List Int} {x y d : Int} (h : ks.length = l.length) : ((qY ks l x d).1.zip (qY ks l x d).2).lookup y = if y = x then some d else (ks.zip l).lookup y := by
 have e := w2 (y := y) (x := x) (d := .int d) (show ks.length = (l.map D.int).length by simpa using h)
 rw [rF] at e
 dsimp only at e
 rw [w7, w7] at e
 have inj : ∀ a b : Option Int, a.map D.int = b.map D.int → a = b := by
  intro a b h
  cases a <;> cases b <;> simp_all
 refine inj _ _ ?_
 rw [e]; split <;> rfl
set_option tactic.hygienic true in
theorem qZ {c : Ct} {x y : Int} (h : c.ok) : (c.bump x).get y = c.get y + (if y = x then 1 else 0) := by
 unfold Ct.bump
 unfold Ct.get
 rw [nH h]
 split
 ·rename_i e; subst e; rfl
 ·omega
theorem xr {ks l : List Int} {x d : Int} : (qY ks l x d).1.length ≤ ks.length + 1 := by
 unfold qY; split <;> simp
mutual
theorem Tree.cnt_get (y : Int) : ∀ (t : Tree) (c : Ct), c.ok → (t.cnt c).ok ∧ (t.cnt c).get y = c.get y + t.use y ∧ (t.cnt c).1.length ≤ c.1.length + t.size
 | .nothing, c, h => by
  rw [Tree.cnt, Tree.use, Tree.size]
  refine ⟨vF h, ?_, xr⟩
  rw [qZ h]; split <;> simp
 | .leaf n bs o, c, h => by
  rw [Tree.cnt, Tree.use, Tree.size]
  refine hid fun hG => ?_
  obtain ⟨h1, h2, h3⟩ := OTree.cnt_get y o (c.bump n) (vF h)
  refine hG ?_
  refine ⟨h1, ?_, ?_⟩
  ·rw [h2, qZ h]; split <;> simp <;> omega
  ·have : (c.bump n).1.length ≤ c.1.length + 1 := xr
   exact lin2 [_,_,_,_] 0 V0 (.a V1 S2) 1 V0 (.a V3 V2) 1 V3 S1 tt h3 this
 | .switch x b o, c, h => by
  rw [Tree.cnt, Tree.use, Tree.size]
  refine hid fun hG => ?_
  obtain ⟨g1, g2, g3⟩ := Brs.cnt_get y b c h
  obtain ⟨h1, h2, h3⟩ := OTree.cnt_get y o (b.cnt c) g1
  refine hG ?_
  refine ⟨h1, ?_, by exact lin2 [_,_,_,_,_] 0 V0 (.a V1 (.a (.a V2 V3) U1)) 1 V4 (.a V1 V2) 1 V0 (.a V4 V3) tt g3 h3⟩
  rw [h2, g2]; simp; omega
theorem OTree.cnt_get (y : Int) : ∀ (t : OTree) (c : Ct), c.ok → (t.cnt c).ok ∧ (t.cnt c).get y = c.get y + t.use y ∧ (t.cnt c).1.length ≤ c.1.length + t.size
 | .none, c, h => by rw [OTree.cnt, OTree.use, OTree.size]; exact ⟨h, by simp, by simp⟩
 | .some t, c, h => by rw [OTree.cnt, OTree.use, OTree.size]; exact Tree.cnt_get y t c h
theorem Brs.cnt_get (y : Int) : ∀ (t : Brs) (c : Ct), c.ok → (t.cnt c).ok ∧ (t.cnt c).get y = c.get y + t.use y ∧ (t.cnt c).1.length ≤ c.1.length + t.size
 | .nil, c, h => by rw [Brs.cnt, Brs.use, Brs.size]; exact ⟨h, by simp, by simp⟩
 | .cons k fs t r, c, h => by
  rw [Brs.cnt, Brs.use, Brs.size]
  refine hid fun hG => ?_
  obtain ⟨g1, g2, g3⟩ := Tree.cnt_get y t c h
  obtain ⟨h1, h2, h3⟩ := Brs.cnt_get y r (t.cnt c) g1
  refine hG ?_
  refine ⟨h1, ?_, by exact lin2 [_,_,_,_,_] 0 V0 (.a V1 (.a V2 V3)) 1 V4 (.a V1 V2) 1 V0 (.a V4 V3) tt g3 h3⟩
  rw [h2, g2]; simp; omega
end
theorem iV {c : Ct} {x : Int} : zS c.1 (c.2.map D.int) x (.int (Ct.get (c.1, c.2) x + 1)) = ((c.bump x).1, (c.bump x).2.map D.int) := rF
noncomputable def sA (a : Addr) (n : Nat) (t : Tree) : Prop := ∀ (k : Nat) (c : Ct) (st : St) (Q : D → St → Prop), c.ok → c.1.length + t.size ≤ sizeLine → st.sto[k]? = some (.dI c.1 (c.2.map .int)) →
 (∀ st', Chg [k] st st' → st'.nt = st.nt → st'.sto[k]? = some (.dI (t.cnt c).1 ((t.cnt c).2.map .int)) → Q (.mref k) st') → zD CQ n (.val (.ref a)) [t.d, .mref k] st Q
theorem rG {k : Nat} {c : Ct} {x : Int} {st : St} {Q : St → Prop} (hc : c.ok) (hz : c.1.length + 1 ≤ sizeLine) (hs : st.sto[k]? = some (.dI c.1 (c.2.map .int)))
  (q : ∀ st', Chg [k] st st' → st'.nt = st.nt → st'.sto[k]? = some (.dI (c.bump x).1 ((c.bump x).2.map .int)) → Q st') :
  l0 .Add ((xc c.1 (c.2.map D.int) x).getD (.int 0)) (.int 1) st fun d => sM (.mref k) (.int x) d st Q := by
 rw [tw]
 refine zA hs ?_
 have e : zS c.1 (c.2.map D.int) x (.int (Ct.get (c.1, c.2) x + 1)) = ((c.bump x).1, (c.bump x).2.map D.int) := iV
 conv => whnf
 rw [e]
 have hb : (c.bump x).2.length ≤ c.1.length + 1 := by rw [← vF hc]; exact xr
 refine And.intro (by rw [List.length_map]; exact Nat.le_trans hb hz) ?_
 exact zP hs q
theorem oN : ∀ (N : Nat) (t : Tree) (n : Nat), t.dep < N → N ≤ n → sA 990 n t := by
 intro N
 induction N with
 | zero => intro t n ht; exact absurd ht (Nat.not_lt_zero _)
 | succ N ih =>
  intro t n ht hn k c st Q hc hz hs q
  obtain ⟨n, rfl⟩ : ∃ m, n = m + 1 := ⟨n - 1, by exact Nat.le_antisymm (lin1 [_,_] 0 V0 S1 1 V0 S1 tt sb1) (lin1 [_,_] 0 S0 V1 1 S0 V1 tt (sb3 (lin1 [_,_] 0 U1 V0 1 S1 V0 tt hn)))⟩
  have hn := Nat.le_of_succ_le_succ hn
  refine zE ⟨rfl, ?_⟩
  cases t with
  | nothing =>
   rw [Tree.size] at hz
   rw [Tree.cnt] at q
   refine zA hs ?_
   refine zA hs ?_
   exact rG hc hz hs q
  | leaf j bs o =>
   rw [Tree.size] at hz
   rw [Tree.dep] at ht
   rw [Tree.cnt] at q
   have ht := Nat.lt_of_succ_lt_succ ht
   refine zA hs ?_
   refine zA hs ?_
   refine rG (x := (j : Int)) hc (by exact lin1 [_,_,_] 0 S0 V1 1 (.a V0 S2) V1 tt hz) hs fun st₁ c₁ e₁ hs₁ => ?_
   cases o with
   | none =>
    rw [OTree.cnt] at q
    exact q _ c₁ e₁ hs₁
   | some t =>
    rw [OTree.size] at hz
    rw [OTree.dep] at ht
    rw [OTree.cnt] at q
    have hb : (c.bump j).1.length ≤ c.1.length + 1 := xr
    refine ih t n ht hn k (c.bump j) st₁ _ (vF hc) (by exact lin2 [_,_,_,_] 0 (.a V0 V1) V2 1 (.a V3 S1) V2 1 V0 S3 tt hz hb) hs₁ fun st₂ c₂ e₂ hs₂ => ?_
    exact q _ (c₁.trans c₂) (e₂.trans e₁) hs₂
  | switch x b o =>
   rw [Tree.size] at hz
   rw [Tree.dep] at ht
   rw [Tree.cnt] at q
   have hN : max b.dep o.dep < N := Nat.lt_of_succ_lt_succ ht
   have hbd : b.dep < N := Nat.lt_of_le_of_lt (Nat.le_max_left _ _) hN
   have hod : o.dep < N := Nat.lt_of_le_of_lt (Nat.le_max_right _ _) hN
   conv => whnf
   rw [b.d_eq]
   refine yF Br.d (fun done rest ρ st' => done ++ rest = b.toL ∧ (E3 fun d e f => ρ = [some (Tree.switch x b o).d, some (.mref k), d, e, f]) ∧ Chg [k] st st' ∧ st'.nt = st.nt ∧
    (done.foldl (fun c x => x.2.2.cnt c) c).ok ∧ (done.foldl (fun c x => x.2.2.cnt c) c).1.length ≤ c.1.length + (done.map fun x => x.2.2.size).sum ∧
    st'.sto[k]? = some (.dI (done.foldl (fun c x => x.2.2.cnt c) c).1 ((done.foldl (fun c x => x.2.2.cnt c) c).2.map .int))) ?_ ?_ (done := []) ⟨rfl, ⟨_, _, _, rfl⟩, .refl, rfl, hc, Nat.le_refl _, hs⟩
   ·intro done y rest ρ st' K hz6 k1 k2
    refine hid fun hG => ?_
    obtain ⟨hd, ⟨d, e, f, rfl⟩, hc', he, hok, hl, hs⟩ := hz6
    refine hG ?_
    have hyd := b.dep_mem y (by rw [← hd]; simp)
    have hsz : (done.map fun x => x.2.2.size).sum + y.2.2.size ≤ b.size := by
     rw [b.size_eq, ← hd, List.map_append, List.sum_append, List.map_cons, List.sum_cons]; exact lin0 [_,_,_] 0 (.a V0 V1) (.a V0 (.a V1 V2)) tt
    have hk := Tree.cnt_get 0 y.2.2 _ hok
    refine ih y.2.2 n (Nat.lt_of_le_of_lt hyd hbd) hn k _ st' _ hok (by exact lin3 [_,_,_,_,_,_,_] 0 (.a V0 V1) V2 1 (.a V3 (.a (.a V4 V5) U1)) V2 1 V0 (.a V3 V6) 1 (.a V6 V1) V4 tt hz hl hsz) hs fun st₂ c₂ e₂ hs₂ => ?_
    refine k1 _ _ ⟨yI hd, ⟨_, _, _, rfl⟩, hc'.trans c₂, e₂.trans he, ?_⟩
    rw [List.foldl_append, List.foldl_cons, List.foldl_nil, List.map_append, List.sum_append, List.map_cons, List.sum_cons, List.map_nil, List.sum_nil]
    exact ⟨hk.1, by exact lin2 [_,_,_,_,_] 0 V0 (.a V1 (.a V2 (.a V3 U0))) 1 V4 (.a V1 V2) 1 V0 (.a V4 V3) tt hl hk.2.2, hs₂⟩
   ·intro done ρ st' hz3
    refine hid fun hG => ?_
    obtain ⟨hd, ⟨d, e, f, rfl⟩, hc', he, hok, hl, hs⟩ := hz3
    refine hG ?_
    rw [List.append_nil] at hd
    rw [hd, ← b.cnt_eq] at hok hs
    rw [hd, ← b.size_eq, ← b.cnt_eq] at hl
    cases o with
    | none =>
     rw [OTree.cnt] at q
     exact q _ hc' he hs
    | some t =>
     rw [OTree.cnt] at q
     rw [OTree.dep] at hod
     rw [OTree.size] at hz
     refine ih t n hod hn k _ st' _ hok (by exact lin2 [_,_,_,_,_] 0 (.a V0 V1) V2 1 V0 (.a V3 V4) 1 (.a V3 (.a (.a V4 V1) U1)) V2 tt hl hz) hs fun st₂ c₂ e₂ hs₂ => ?_
     exact q _ (hc'.trans c₂) (e₂.trans he) hs₂
theorem mj : ∀ (N : Nat) (t : Tree) (n : Nat), t.dep < N → N ≤ n → sA 1180 n t := by
 intro N
 induction N with
 | zero => intro t n ht; exact absurd ht (Nat.not_lt_zero _)
 | succ N ih =>
  intro t n ht hn k c st Q hc hz hs q
  obtain ⟨n, rfl⟩ : ∃ m, n = m + 1 := ⟨n - 1, by exact Nat.le_antisymm (lin1 [_,_] 0 V0 S1 1 V0 S1 tt sb1) (lin1 [_,_] 0 S0 V1 1 S0 V1 tt (sb3 (lin1 [_,_] 0 U1 V0 1 S1 V0 tt hn)))⟩
  have hn := Nat.le_of_succ_le_succ hn
  refine zE ⟨rfl, ?_⟩
  cases t with
  | nothing =>
   rw [Tree.size] at hz
   rw [Tree.cnt] at q
   refine zA hs ?_
   refine zA hs ?_
   exact rG hc hz hs q
  | leaf j bs o =>
   rw [Tree.size] at hz
   rw [Tree.dep] at ht
   rw [Tree.cnt] at q
   have ht := Nat.lt_of_succ_lt_succ ht
   refine zA hs ?_
   refine zA hs ?_
   refine rG (x := (j : Int)) hc (by exact lin1 [_,_,_] 0 S0 V1 1 (.a V0 S2) V1 tt hz) hs fun st₁ c₁ e₁ hs₁ => ?_
   cases o with
   | none =>
    rw [OTree.cnt] at q
    exact q _ c₁ e₁ hs₁
   | some t =>
    rw [OTree.size] at hz
    rw [OTree.dep] at ht
    rw [OTree.cnt] at q
    have hb : (c.bump j).1.length ≤ c.1.length + 1 := xr
    refine ih t n ht hn k (c.bump j) st₁ _ (vF hc) (by exact lin2 [_,_,_,_] 0 (.a V0 V1) V2 1 (.a V3 S1) V2 1 V0 S3 tt hz hb) hs₁ fun st₂ c₂ e₂ hs₂ => ?_
    exact q _ (c₁.trans c₂) (e₂.trans e₁) hs₂
  | switch x b o =>
   rw [Tree.size] at hz
   rw [Tree.dep] at ht
   rw [Tree.cnt] at q
   have hN : max b.dep o.dep < N := Nat.lt_of_succ_lt_succ ht
   have hbd : b.dep < N := Nat.lt_of_le_of_lt (Nat.le_max_left _ _) hN
   have hod : o.dep < N := Nat.lt_of_le_of_lt (Nat.le_max_right _ _) hN
   conv => whnf
   rw [b.d_eq]
   refine yF Br.d (fun done rest ρ st' => done ++ rest = b.toL ∧ (E3 fun d e f => ρ = [some (Tree.switch x b o).d, some (.mref k), d, e, f]) ∧ Chg [k] st st' ∧ st'.nt = st.nt ∧
    (done.foldl (fun c x => x.2.2.cnt c) c).ok ∧ (done.foldl (fun c x => x.2.2.cnt c) c).1.length ≤ c.1.length + (done.map fun x => x.2.2.size).sum ∧
    st'.sto[k]? = some (.dI (done.foldl (fun c x => x.2.2.cnt c) c).1 ((done.foldl (fun c x => x.2.2.cnt c) c).2.map .int))) ?_ ?_ (done := []) ⟨rfl, ⟨_, _, _, rfl⟩, .refl, rfl, hc, Nat.le_refl _, hs⟩
   ·intro done y rest ρ st' K hz6 k1 k2
    refine hid fun hG => ?_
    obtain ⟨hd, ⟨d, e, f, rfl⟩, hc', he, hok, hl, hs⟩ := hz6
    refine hG ?_
    have hyd := b.dep_mem y (by rw [← hd]; simp)
    have hsz : (done.map fun x => x.2.2.size).sum + y.2.2.size ≤ b.size := by
     rw [b.size_eq, ← hd, List.map_append, List.sum_append, List.map_cons, List.sum_cons]; exact lin0 [_,_,_] 0 (.a V0 V1) (.a V0 (.a V1 V2)) tt
    have hk := Tree.cnt_get 0 y.2.2 _ hok
    refine ih y.2.2 n (Nat.lt_of_le_of_lt hyd hbd) hn k _ st' _ hok (by exact lin3 [_,_,_,_,_,_,_] 0 (.a V0 V1) V2 1 (.a V3 (.a (.a V4 V5) U1)) V2 1 V0 (.a V3 V6) 1 (.a V6 V1) V4 tt hz hl hsz) hs fun st₂ c₂ e₂ hs₂ => ?_
    refine k1 _ _ ⟨yI hd, ⟨_, _, _, rfl⟩, hc'.trans c₂, e₂.trans he, ?_⟩
    rw [List.foldl_append, List.foldl_cons, List.foldl_nil, List.map_append, List.sum_append, List.map_cons, List.sum_cons, List.map_nil, List.sum_nil]
    exact ⟨hk.1, by exact lin2 [_,_,_,_,_] 0 V0 (.a V1 (.a V2 (.a V3 U0))) 1 V4 (.a V1 V2) 1 V0 (.a V4 V3) tt hl hk.2.2, hs₂⟩
   ·intro done ρ st' hz3
    refine hid fun hG => ?_
    obtain ⟨hd, ⟨d, e, f, rfl⟩, hc', he, hok, hl, hs⟩ := hz3
    refine hG ?_
    rw [List.append_nil] at hd
    rw [hd, ← b.cnt_eq] at hok hs
    rw [hd, ← b.size_eq, ← b.cnt_eq] at hl
    cases o with
    | none =>
     rw [OTree.cnt] at q
     exact q _ hc' he hs
    | some t =>
     rw [OTree.cnt] at q
     rw [OTree.dep] at hod
     rw [OTree.size] at hz
     refine ih t n hod hn k _ st' _ hok (by exact lin2 [_,_,_,_,_] 0 (.a V0 V1) V2 1 V0 (.a V3 V4) 1 (.a V3 (.a (.a V4 V1) U1)) V2 tt hl hz) hs fun st₂ c₂ e₂ hs₂ => ?_
     exact q _ (hc'.trans c₂) (e₂.trans he) hs₂
noncomputable def varD (s : Str) : D := .obj 0 .Var [.str s]
noncomputable def conE (t : Nat) (nm : Str) (as : List D) : D := .obj t .Con [.str nm, .list as]
noncomputable def ur (f : Str) (as : List D) : D := .obj 0 .App [varD f, .list as]
noncomputable def rH (ps : List D) (b : D) : D := .obj 0 .Lam [.list ps, b]
noncomputable def yu (x : Str) (e b : D) : D := .obj 0 .Let [.list [.tup [.str x, e]], b, .bool false]
noncomputable abbrev AltT := Key × List Str × D
noncomputable def AltT.d (x : AltT) : D := .obj 0 .Alt [x.1.d, .list (x.2.1.map .str), x.2.2]
noncomputable def gp : Option D → D
 | none => .none
 | some d => d
noncomputable def sC (v w : Str) (alts : List AltT) (o : Option D) : D := .obj 0 .Case [varD v, .str w, .list (alts.map AltT.d), gp o]
inductive Node : D → List D → Prop
 | var (s : Str) : Node (varD s) []
 | con (t : Nat) (nm : Str) (as : List D) : t ≠ 0 → Node (conE t nm as) as
 | app (f : Str) (as : List D) : Node (ur f as) (varD f :: as)
 | lam (ps : List D) (b : D) : Node (rH ps b) [b]
 | lt (x : Str) (e b : D) : Node (yu x e b) [e, b]
 | case (v w : Str) (alts : List AltT) (o : Option D) : Node (sC v w alts o) (varD v :: (alts.map (·.2.2) ++ o.toList))
inductive Nd : List D → List D → Prop
 | nil : Nd [] []
 | cons {d : D} {ks ds l : List D} : Node d ks → Nd (ks ++ ds) l → Nd (d :: ds) (d :: l)
theorem Nd.app {a b l m : List D} (h : Nd a l) (k : Nd b m) : Nd (a ++ b) (l ++ m) := by
 induction h with
 | nil => exact k
 | cons hn h ih => exact .cons hn (by rw [List.append_assoc] at ih; exact ih)
theorem Nd.one {d : D} {ks l : List D} (h : Node d ks) (k : Nd ks l) : Nd [d] (d :: l) := .cons h (by rw [List.append_nil]; exact k)
theorem Nd.len {a l : List D} (h : Nd a l) : a.length ≤ l.length := by
 induction h with
 | nil => exact Nat.le_refl _
 | cons hn h ih => simp at ih ⊢; exact lin1 [_,_,_] 0 V0 V1 1 (.a V2 V0) V1 tt ih
theorem Nd.node {a l : List D} (h : Nd a l) : ∀ d ∈ l, ∃ ks, Node d ks := by
 induction h with
 | nil => simp
 | cons hn h ih =>
  intro d hd
  rcases List.mem_cons.mp hd with rfl | z
  ·exact ⟨_, hn⟩
  ·exact ih d z
theorem Nd.vars : ∀ xs : List Str, Nd (xs.map varD) (xs.map varD)
 | [] => .nil
 | x :: xs => .cons (.var x) (Nd.vars xs)
theorem Node.obj {d : D} {ks : List D} (h : Node d ks) : ∃ t c l, d = .obj t c l := by cases h <;> exact ⟨_, _, _, rfl⟩
noncomputable def isLam : D → Bool
 | .obj _ .Lam _ => true
 | _ => false
noncomputable def yA : D → Option (Str × D)
 | .obj _ c l => match c with
  | .Let => match l with
   | b :: _ => match b with
    | .list l => match l with
     | p :: _ => match p with
      | .tup l => match l with
       | x :: l => match l with
        | e :: _ => match x with
         | .str x => match isLam e with
          | true => some (x, e)
          | false => none
         | _ => none
        | _ => none
       | _ => none
      | _ => none
     | _ => none
    | _ => none
   | _ => none
  | _ => none
 | _ => none
noncomputable def q0 : D → Option (Str × Nat)
 | .obj t .Con [.str s, _] => some (s, t)
 | _ => none
noncomputable def vp : D → Option (Str × Nat)
 | .obj _ .App [.obj _ .Var [.str f], .list as] => some (f, as.length)
 | _ => none
theorem xC {x : Str} : q0 (varD x) = none := rfl
theorem nI {x : Str} : vp (varD x) = none := rfl
theorem sD {x : Str} {e b : D} (h : isLam e = false) : yA (yu x e b) = none := by
 show (match isLam e with | true => some (x, e) | false => none) = none
 rw [h]
noncomputable def ze (nm : Str) (d : D) : Bool := match q0 d with
 | some (s, _) => s == nm
 | none => false
noncomputable def appIs (nm : Str) (d : D) : Bool := match vp d with
 | some (s, _) => s == nm
 | none => false
noncomputable def z0 (i : Nat) : Str := Str.ofString "row" ++ strOf i
noncomputable def zj : Str := Str.ofString "none"
noncomputable def vG : Str := Str.ofString "()"
theorem zt : ∀ i, i < 10 → (z0 i ≠ zj ∧ z0 i ≠ vG ∧ ∀ j, j < 10 → z0 i = z0 j → i = j) := by decide +kernel
theorem pM : vG ≠ zj := by decide +kernel
structure Stat (R : Nat) (cl : Nat → Option Str) (ar : Nat → Nat) (fv : Bool) (u : Int → Nat) (L : Nat) (l : List D) : Prop where
 noF : ∀ d ∈ l, yA d = none
 noL : ∀ d ∈ l, isLam d = false
 row : ∀ i, i < R → l.countP (ze (z0 i)) = if (cl i).isSome then 0 else u i
 non : l.countP (ze zj) = if fv then 0 else u (-1)
 app : ∀ i, i < R → ∀ nm, cl i = some nm → l.countP (appIs nm) = u i
 apps : ∀ d ∈ l, ∀ f k, vp d = some (f, k) → ∃ i, i < R ∧ cl i = some f ∧ k = ar i + 1
 len : l.length ≤ L
section
variable {R : Nat} {cl : Nat → Option Str} {ar : Nat → Nat} {fv : Bool} {u v : Int → Nat} {L M : Nat} {l m : List D}
theorem Stat.add (h : Stat R cl ar fv u L l) (k : Stat R cl ar fv v M m) : Stat R cl ar fv (fun x => u x + v x) (L + M) (l ++ m) where
 noF d hd := (List.mem_append.mp hd).elim (h.noF d) (k.noF d)
 noL d hd := (List.mem_append.mp hd).elim (h.noL d) (k.noL d)
 row i hi := by rw [List.countP_append, h.row i hi, k.row i hi]; split <;> simp
 non := by rw [List.countP_append, h.non, k.non]; split <;> simp
 app i hi nm e := by rw [List.countP_append, h.app i hi nm e, k.app i hi nm e]
 apps d hd := (List.mem_append.mp hd).elim (h.apps d) (k.apps d)
 len := by rw [List.length_append]; exact Nat.add_le_add h.len k.len
theorem Stat.nil : Stat R cl ar fv (fun U => 0) 0 [] where
 noF d hd := by simp at hd
 noL d hd := by simp at hd
 row i hi := by simp
 non := by simp
 app i hi nm e := by simp
 apps d hd := by simp at hd
 len := by simp
theorem Stat.eq (h : Stat R cl ar fv u L l) (e : ∀ x, u x = v x) (hL : L ≤ M) : Stat R cl ar fv v M l := by
 have : u = v := funext e
 subst this
 exact ⟨h.noF, h.noL, h.row, h.non, h.app, h.apps, Nat.le_trans h.len hL⟩
theorem Stat.zero {d : D} (h1 : yA d = none) (h2 : ∀ nm, (nm = zj ∨ ∃ i, i < 10 ∧ nm = z0 i) → ze nm d = false) (h3 : vp d = none) (h4 : isLam d = false) (hR : R ≤ 10) : Stat R cl ar fv (fun U => 0) 1 [d] where
 noF e he := by simp at he; subst he; exact h1
 noL e he := by simp at he; subst he; exact h4
 row i hi := by rw [List.countP_singleton, h2 _ (.inr ⟨i, by exact lin2 [_,_] 0 S0 U10 1 V1 U10 1 S0 V1 tt hR hi, rfl⟩)]; simp
 non := by rw [List.countP_singleton, h2 _ (.inl rfl)]; simp
 app i hi nm e := by rw [List.countP_singleton]; unfold appIs; rw [h3]; rfl
 apps e he f k := by simp at he; subst he; rw [h3]; intro z; cases z
 len := by simp
theorem Stat.var {s : Str} (hR : R ≤ 10) : Stat R cl ar fv (fun U => 0) 1 [varD s] := .zero rfl (fun U U => rfl) rfl rfl hR
theorem Stat.vars (hR : R ≤ 10) : ∀ xs : List Str, Stat R cl ar fv (fun U => 0) xs.length (xs.map varD)
 | [] => .nil
 | x :: xs => ((Stat.var (s := x) hR).add (Stat.vars hR xs)).eq (fun U => rfl) (lin0 [_] 0 (.a U1 V0) S0 tt)
theorem Stat.case {x w : Str} {a : List AltT} {o : Option D} (hR : R ≤ 10) : Stat R cl ar fv (fun U => 0) 1 [sC x w a o] := .zero rfl (fun U U => rfl) rfl rfl hR
theorem Stat.unit {t : Nat} {as : List D} (hR : R ≤ 10) : Stat R cl ar fv (fun U => 0) 1 [conE t vG as] := .zero rfl (fun nm h => by
 show (vG == nm) = false
 rw [beq_eq_false_iff_ne]
 rcases h with rfl | ⟨i, hi, rfl⟩
 ·exact pM
 ·exact Ne.symm (zt i hi).2.1) rfl rfl hR
theorem Stat.lt {x : Str} {e b : D} (h : isLam e = false) (hR : R ≤ 10) : Stat R cl ar fv (fun U => 0) 1 [yu x e b] := .zero (sD h) (fun U U => rfl) rfl rfl hR
theorem Stat.rowC {t i : Nat} {as : List D} (hR : R ≤ 10) (hi : i < R) (hc : cl i = none) : Stat R cl ar fv (fun x => if x = (i : Int) then 1 else 0) 1 [conE t (z0 i) as] where
 noF e he := by simp at he; subst he; rfl
 noL e he := by simp at he; subst he; rfl
 row j hj := by
  rw [List.countP_singleton]
  show (if (z0 i == z0 j) = true then 1 else 0) = _
  by_cases e : i = j
  ·subst e; simp [hc]
  ·have : z0 i ≠ z0 j := fun z => e ((zt i (by exact lin2 [_,_] 0 S0 U10 1 V1 U10 1 S0 V1 tt hR hi)).2.2 j (by exact lin2 [_,_] 0 S0 U10 1 V1 U10 1 S0 V1 tt hR hj) z)
   have z : ¬ ((j : Int) = i) := by omega
   rw [beq_eq_false_iff_ne.mpr this]; simp [z]
 non := by
  rw [List.countP_singleton]
  show (if (z0 i == zj) = true then 1 else 0) = _
  have z : ¬ ((-1 : Int) = i) := by omega
  rw [beq_eq_false_iff_ne.mpr (zt i (by exact lin2 [_,_] 0 S0 U10 1 V1 U10 1 S0 V1 tt hR hi)).1]; simp [z]
 app j hj nm e := by
  rw [List.countP_singleton]
  show 0 = _
  rw [if_neg]
  intro z
  have : j = i := by omega
  subst this; rw [hc] at e; cases e
 apps e he f k := by simp at he; subst he; intro z; cases z
 len := by simp
set_option tactic.hygienic true in
theorem Stat.appC {i : Nat} {nm : Str} {as : List D} (hR : R ≤ 10) (hi : i < R) (hc : cl i = some nm) (ha : as.length = ar i + 1) (inj : ∀ i j nm, cl i = some nm → cl j = some nm → i = j) :
  Stat R cl ar fv (fun x => if x = (i : Int) then 1 else 0) 1 [ur nm as] where
 noF e he := by simp at he; subst he; rfl
 noL e he := by simp at he; subst he; rfl
 row j hj := by
  rw [List.countP_singleton]
  show 0 = _
  split
  ·rfl
  ·rename_i h
   rw [if_neg]
   intro z
   have : j = i := by omega
   subst this; rw [hc] at h; exact h rfl
 non := by
  rw [List.countP_singleton]
  show 0 = _
  have z : ¬ ((-1 : Int) = i) := by omega
  simp [z]
 app j hj nm' e := by
  rw [List.countP_singleton]
  show (if (nm == nm') = true then 1 else 0) = _
  by_cases z : (j : Int) = i
  ·have : j = i := by omega
   subst this; rw [hc] at e; cases e; simp
  ·rw [if_neg z, if_neg]
   intro y
   rw [beq_iff_eq] at y; subst y
   exact z (by rw [inj _ _ _ e hc])
 apps e he f k := by
  simp at he; subst he; intro z
  cases z
  exact ⟨i, hi, hc, ha⟩
 len := by simp
end
noncomputable def Ext (n : Nat) (τ τ' : Nat → Str) : Prop := ∀ t, t ≤ n → τ' t = τ t
noncomputable def TokOk (τ : Nat → Str) (n : Nat) (l : List D) : Prop := ∀ d ∈ l, ∀ s t, q0 d = some (s, t) → t ≤ n ∧ τ t = s
theorem Ext.refl {n : Nat} {τ : Nat → Str} : Ext n τ τ := fun U U => rfl
theorem Ext.trans {a b : Nat} {τ σ ρ : Nat → Str} (h : Ext a τ σ) (k : Ext b σ ρ) (l : a ≤ b) : Ext a τ ρ := fun t ht => (k t (by exact lin2 [_,_,_] 0 V0 V1 1 V2 V1 1 V0 V2 tt l ht)).trans (h t ht)
theorem TokOk.mono {a b : Nat} {τ σ : Nat → Str} {l : List D} (h : TokOk τ a l) (k : Ext a τ σ) (hl : a ≤ b) : TokOk σ b l := fun d hd s t e => by
 obtain ⟨h1, h2⟩ := h d hd s t e
 exact ⟨by exact lin2 [_,_,_] 0 V0 V1 1 V2 V1 1 V0 V2 tt hl h1, (k t h1).trans h2⟩
theorem TokOk.app {a : Nat} {τ : Nat → Str} {l m : List D} (h : TokOk τ a l) (k : TokOk τ a m) : TokOk τ a (l ++ m) := fun d hd => (List.mem_append.mp hd).elim (h d) (k d)
theorem TokOk.no {a : Nat} {τ : Nat → Str} {l : List D} (h : ∀ d ∈ l, q0 d = none) : TokOk τ a l := fun d hd s t e => by rw [h d hd] at e; cases e
noncomputable def setT (τ : Nat → Str) (n : Nat) (s : Str) : Nat → Str := fun t => if t = n + 1 then s else τ t
theorem yQ {τ : Nat → Str} {n : Nat} {s : Str} : Ext n τ (setT τ n s) := fun t ht => by unfold setT; rw [if_neg (by exact Nat.ne_of_lt (lin1 [_,_] 0 S0 S1 1 V0 V1 tt ht))]
theorem oO {τ : Nat → Str} {n : Nat} {s : Str} {as : List D} : TokOk (setT τ n s) (n + 1) [conE (n + 1) s as] := fun d hd s' t e => by
 simp at hd; subst hd; cases e; exact ⟨Nat.le_refl _, by unfold setT; rw [if_pos rfl]⟩
noncomputable def CntB (f : Cnt) (B : Nat) : Prop := ∀ x, f x ≤ B
theorem CntB.next {f : Cnt} {B : Nat} {b : Str} (h : CntB f B) : CntB (f.set b (f b + 1)) (B + 1) := fun x => by
 unfold Cnt.set; have zz1 := h x; have zz2 := h b; split <;> (first | exact lin1 [_,_] 0 S0 S1 1 V0 V1 tt zz2 | exact lin1 [_,_] 0 V0 S1 1 V0 V1 tt zz1)
theorem CntB.mono {f : Cnt} {B C : Nat} (h : CntB f B) (k : B ≤ C) : CntB f C := fun x => Nat.le_trans (h x) k
noncomputable abbrev RowT := List Pat × D × Bool
noncomputable def RowT.d (r : RowT) : D := iU r.1 r.2.1 r.2.2
structure Mk where
 rows : List RowT
 fail : D
 fv : Bool
 kc : Nat
 ka : Nat
 kn : Nat
 ku : Nat
 kl : Nat
 cl : Nat → Option Str
noncomputable def Mk.d (M : Mk) : D := .obj 0 .Maker [.list (M.rows.map RowT.d), M.fail, yt M.kc, ys M.ka M.kn, .mref M.ku, .mref M.kl]
noncomputable def Mk.ar (M : Mk) (i : Nat) : Nat := ((M.rows[i]?).elim [] fun r => rowVars r.1).length
noncomputable def BodyOk (b : D) (i : Nat) (ow : List Str) (cf : Bool) : Prop := ∀ (n : Nat) (st : St) (Q : D → St → Prop) (x : D),
 Q (conE (st.nt + 1) (z0 i) (ow.map varD ++ if cf then [x] else [])) ⟨st.sto, st.nt + 1⟩ → zD CQ (n + 6) b [x] st Q
structure MkOk (M : Mk) : Prop where
 len : M.rows.length ≤ 10
 body : ∀ (i : Nat) (r : RowT), M.rows[i]? = some r → BodyOk r.2.1 i (rowVars r.1) r.2.2
 pats : ∀ (i : Nat) (r : RowT), M.rows[i]? = some r → r.1.length ≤ 12 ∧ ∀ p ∈ r.1, p.dep ≤ 10
 fail : (M.fv = true ∧ ∃ x, M.fail = varD x) ∨ (M.fv = false ∧ ∃ t, t ≠ 0 ∧ M.fail = conE t zj [])
 inj : ∀ i j nm, M.cl i = some nm → M.cl j = some nm → i = j
 dom : ∀ i nm, M.cl i = some nm → i < M.rows.length
structure Mk.At (M : Mk) (st : St) : Prop where
 ne : M.kl ≠ M.kn
 cal : ∃ ks vs, st.sto[M.kl]? = some (.dI ks vs) ∧ (∀ i : Nat, (ks.contains (i : Int)) = (M.cl i).isSome) ∧ (∀ i : Nat, xc ks vs i = (M.cl i).map .str)
theorem Mk.At.keep {M : Mk} {st st' : St} (h : M.At st) (c : Chg [M.kn] st st') : M.At st' := ⟨h.ne, by obtain ⟨ks, vs, e, z⟩ := h.cal; exact ⟨ks, vs, c.get e (ne1 h.ne), z⟩⟩
structure Got (M : Mk) (B : Nat) (u : Int → Nat) (L : Nat) (st : St) (τ : Nat → Str) (st' : St) (ds l : List D) (f : Cnt) (σ : Nat → Str) : Prop where
 chg : Chg [M.kn] st st'
 env : Env M.kc M.ka M.kn f st'
 cnt : CntB f B
 ext : Ext st.nt τ σ
 tok : TokOk σ st'.nt l
 nd : Nd ds l
 stat : Stat M.rows.length M.cl M.ar M.fv u L l
noncomputable def OTree.gd (G : Nat → List (Str × Str) → Bool → Prop) : OTree → (Tree → Prop) → Prop
 | .none, _ => True
 | .some t, P => P t
mutual
noncomputable def Tree.good (G : Nat → List (Str × Str) → Bool → Prop) : Tree → Prop
 | .nothing => True
 | .leaf n bs .none => G n bs false
 | .leaf n bs (.some t) => G n bs true ∧ t.good G
 | .switch _ b .none => b.good G
 | .switch _ b (.some t) => b.good G ∧ t.good G
noncomputable def Brs.good (G : Nat → List (Str × Str) → Bool → Prop) : Brs → Prop
 | .nil => True
 | .cons _ fs t r => fs.length ≤ 100 ∧ t.good G ∧ r.good G
end
noncomputable def Mk.leafOk (M : Mk) (j : Nat) (bs : List (Str × Str)) (s : Bool) : Prop := ∃ r, M.rows[j]? = some r ∧ (∀ x ∈ rowVars r.1, x ∈ bs.map (·.1)) ∧ bs.length ≤ 12 ∧ s = r.2.2
noncomputable def q3 (M : Mk) (n : Nat) (t : Tree) : Prop := ∀ (B : Nat) (f : Cnt) (τ : Nat → Str) (st : St) (Q : D → St → Prop), Env M.kc M.ka M.kn f st → CntB f B → B + t.size < 10 ^ 7 → M.At st → TokOk τ st.nt [M.fail] →
 (∀ st' d l g σ, Got M (B + t.size) (fun x => t.use x) (50 * t.size) st τ st' [d] l g σ → Q d st') → zD CQ n (.val (.ref 1023)) [M.d, t.d] st Q
structure Beh (M : Mk) (cf : Bool) (B : Nat) (u : Int → Nat) (L : Nat) (st : St) (τ : Nat → Str) (b : D) (lb : List D) (g : Cnt) : Prop where
 env : Env M.kc M.ka M.kn g st
 cnt : CntB g B
 here : M.At st
 node : ∃ ks, Node b ks
 go : cf = true → TokOk τ st.nt lb ∧ Nd [b] lb ∧ Stat M.rows.length M.cl M.ar M.fv u L lb
 no : cf = false → ∀ x, u x = 0
noncomputable def uu : D → Bool
 | .obj _ .Var _ => true
 | _ => false
theorem xu {t : Nat} {c : Cls} {l : List D} : isIn c.addr [59] = uu (.obj t c l) := by cases c <;> rfl
theorem Chg.tok {l : List Nat} {st : St} : Chg l st ⟨st.sto, st.nt + 1⟩ := ⟨Nat.le_refl _, Nat.le_succ _, fun U U U => rfl⟩
section
variable {n : Nat} {st : St} {Q : D → St → Prop}
theorem ml {M : Mk} {x c : Str} (q : Q (.list [.tup [.str x, varD c]]) st) : zD CQ (n + 1) (.val (.ref 1035)) [M.d, .str x, .str c] st Q := zE ⟨rfl, q⟩
theorem v8 {M : Mk} (hM : MkOk M) {j : Nat} {nm : Str} (hj : j < M.rows.length) (hc : M.cl j = some nm) {cs : List Str} (hcs : cs.length = M.ar j) (hl : cs.length ≤ 12) {x : D} {lx : List D} {u : Int → Nat} {L k : Nat} {τ : Nat → Str} (hx : Nd [x] lx) (sx : Stat M.rows.length M.cl M.ar M.fv u L lx) (tx : TokOk τ k lx) :
  ∃ l, Nd [ur nm (cs.map varD ++ [x])] l ∧ Stat M.rows.length M.cl M.ar M.fv (fun y => (if y = (j : Int) then 1 else 0) + u y) (L + 14) l ∧ TokOk τ k l := by
 refine ⟨[ur nm (cs.map varD ++ [x])] ++ ([varD nm] ++ (cs.map varD ++ lx)), ?_, ?_, ?_⟩
 ·exact .one (.app _ _) (.cons (ks := []) (.var _) (show Nd (cs.map varD ++ [x]) (cs.map varD ++ lx) from Nd.app (Nd.vars cs) hx))
 ·refine ((Stat.appC hM.len hj hc (by simp [hcs]) hM.inj).add ((Stat.var hM.len).add ((Stat.vars hM.len cs).add sx))).eq (fun y => ?_) (by exact lin1 [_,_] 0 (.a U1 (.a U1 (.a V0 V1))) (.a V1 (.n 14)) 1 V0 (.n 12) tt hl)
  simp
 ·refine TokOk.app (TokOk.no ?_) (TokOk.app (TokOk.no ?_) (TokOk.app (TokOk.no ?_) tx))
  ·intro d hd; simp at hd; subst hd; rfl
  ·intro d hd; simp at hd; subst hd; rfl
  ·intro d hd; obtain ⟨c, _, rfl⟩ := List.mem_map.mp hd; rfl
theorem mm {M : Mk} (hM : MkOk M) {j : Nat} {r : RowT} (hr : M.rows[j]? = some r) : M.ar j ≤ 12 := by
 unfold Mk.ar; rw [hr]
 have := za r.1
 have := (hM.pats j r hr).1
 simp only [Option.elim_some]; omega
theorem Beh.var {M : Mk} (hM : MkOk M) {cf : Bool} {B L : Nat} {u : Int → Nat} {τ : Nat → Str} {b : D} {lb : List D} {g : Cnt} (h : Beh M cf B u L st τ b lb g) (hv : uu b = true) :
  ∃ l, Nd [b] l ∧ Stat M.rows.length M.cl M.ar M.fv u (L + 1) l ∧ TokOk τ st.nt l := by
 cases cf with
 | true => obtain ⟨h1, h2, h3⟩ := h.go rfl; exact ⟨lb, h2, h3.eq (fun U => rfl) (by exact lin0 [_] 0 V0 S0 tt), h1⟩
 | false =>
  obtain ⟨ks, hk⟩ := h.node
  have hu := h.no rfl
  cases hk with
  | var s => exact ⟨[varD s], .one (.var s) .nil, (Stat.var hM.len).eq (fun x => (hu x).symm) (by exact lin0 [_] 0 U1 S0 tt), TokOk.no (by intro d hd; simp at hd; subst hd; rfl)⟩
  | con => cases hv
  | app => cases hv
  | lam => cases hv
  | lt => cases hv
  | case => cases hv
end
section
variable {n : Nat} {st : St} {Q : D → St → Prop}
set_option tactic.hygienic true in
theorem kh {M : Mk} (hM : MkOk M) {j : Nat} {bs : List (Str × Str)} {od : D} {nm : Str} {r : RowT} (hr : M.rows[j]? = some r) (hcov : ∀ x ∈ rowVars r.1, x ∈ bs.map (·.1)) (hbl : bs.length ≤ 12) (hc : M.cl j = some nm)
  {B L : Nat} {u : Int → Nat} {τ : Nat → Str} {b : D} {lb : List D} {g : Cnt} (h : Beh M r.2.2 B u L st τ b lb g) (hB : B + 1 < 10 ^ 9)
  (q : ∀ st' d l g' σ, Got M (B + 1) (fun x => (if x = (j : Int) then 1 else 0) + u x) (L + 50) st τ st' [d] l g' σ → Q d st') :
  zD CQ (n + 15) (.val (.ref 1047)) [M.d, .obj 0 .Leaf [.int j, .list (bs.map xq), od], b] st Q := by
 obtain ⟨kb, hkb⟩ := h.node
 obtain ⟨tb, cb, fb, rfl⟩ := hkb.obj
 have hj := (List.getElem?_eq_some_iff.mp hr).1
 have hr' : (M.rows.map RowT.d)[j]? = some r.d := by rw [List.getElem?_map, hr]; rfl
 have hRl := hM.len
 obtain ⟨hpl, hpd⟩ := hM.pats j r hr
 have hvl := za r.1
 have hl0 := h.env.lts
 refine zE ⟨rfl, ?_⟩
 refine zi fun st₁ k1 c₁ e₁ hs1 hl1 => ?_
 refine zi fun st₂ k2 c₂ e₂ hs2 hl2 => ?_
 have hs1 := c₂.get hs1 List.not_mem_nil
 refine yF xq (fun done rest ρ st' => done ++ rest = bs ∧ (∃ x y, ρ = [some M.d, some (.obj 0 .Leaf [.int j, .list (bs.map xq), od]), some (.obj tb cb fb), some (.mref k1), some (.mref k2), x, y, none, none, none, none, none]) ∧
  Chg [k2] st₂ st' ∧ st'.nt = st₂.nt ∧ E2 fun ks vs => A4 (st'.sto[k2]? = some (.dS ks vs)) (ks.length = vs.length) (vs.length ≤ done.length) (∀ x ∈ done.map (·.1), ∃ c, tB ks vs x = some (.str c))) ?_ ?_ (done := []) ⟨rfl, ⟨_, _, rfl⟩, .refl, rfl, [], [], hs2, rfl, Nat.le_refl _, fun U h => nomatch h⟩
 ·rintro done y rest ρ st' K ⟨hd, ⟨x₁, x₂, rfl⟩, hc', he, ks, vs, hs, hz1, hz2, hz3⟩ k1' k2'
  have hdl : done.length + 1 + rest.length = bs.length := by rw [← hd]; simp; exact Nat.le_antisymm (lin0 [_,_] 0 (.a S0 V1) (.a V0 S1) tt) (lin0 [_,_] 0 (.a V0 S1) (.a S0 V1) tt)
  have hsl := @w3 _ _ ks vs y.1 (.str y.2)
  refine zA hs ?_
  refine And.intro (zU (by exact lin4 [_,_,_,_,_] 0 V0 U1000 1 V1 (.n 12) 1 V2 V3 1 (.a S3 V4) V1 1 V0 S2 tt hbl hz2 (el hdl) hsl)) ?_
  refine zP hs fun st₄ c₄ e₄ hs₄ => k1' _ _ ⟨yI hd, ⟨_, _, rfl⟩, hc'.trans c₄, e₄.trans he, _, _, hs₄, uH hz1, by simp; exact lin2 [_,_,_] 0 V0 S1 1 V2 V1 1 V0 S2 tt hz2 hsl, fun x hx => ?_⟩
  unfold tB
  rw [w2 hz1]
  split
  ·exact ⟨_, rfl⟩
  ·rename_i hne
   refine hz3 x ?_
   rw [List.map_append, List.mem_append] at hx
   rcases hx with z | z
   ·exact z
   ·simp at z; exact absurd z hne
 rintro done ρ st₃ ⟨hd, ⟨x₁, x₂, rfl⟩, hc', he, ks, vs, hs, hz1, hz2, hz3⟩
 rw [List.append_nil] at hd
 subst hd
 have hA := h.here
 obtain ⟨cks, cvs, hcal, hcal1, hcal2⟩ := hA.cal
 have c₀₃ : Chg [] st st₃ := (c₁.trans c₂).fresh hc' (by have := c₁.len; simp; exact lin2 [_,_,_] 0 V0 V1 1 V2 V1 1 V0 V2 tt hl2 this)
 have hs1 := hc'.get hs1 (by simp; have := zM hs1; have := (c₁.len); have := zM ‹st₁.sto[k1]? = _›; exact Nat.ne_of_lt (lin2 [_,_,_] 0 S0 V1 1 V2 V1 1 S0 V2 tt hl2 this))
 refine zA hr' ?_
 refine xA (ps := r.1) (b := r.2.1) (cf := r.2.2) hpd (by exact lin1 [_] 0 V0 U100 1 V0 (.n 12) tt hpl) ?_
 refine xp D.str (fun d rest acc st' => d ++ rest = rowVars r.1 ∧ st' = st₃ ∧ ∃ cs : List Str, acc = cs.map varD ∧ cs.length = d.length) ?_ (done := []) (acc := []) ⟨rfl, rfl, [], rfl, rfl⟩ ?_
 ·rintro d x rest acc st' K K' ⟨hd, rfl, cs, hcs, hcl⟩ k1' k2'
  obtain ⟨c, hc⟩ := hz3 x (hcov x (by rw [← hd]; simp))
  refine zA hs ?_
  refine zA hc ?_
  exact k1' _ _ ⟨yI hd, rfl, cs ++ [c], by rw [hcs, List.map_append]; rfl, by simp [hcl]⟩
 rintro vs₀ st₄ ⟨_, rfl, cs, hcs, hcl⟩
 simp only [List.nil_append, List.append_nil] at hcs hcl
 subst hcs
 refine zi fun st₅ k3 c₅ e₅ hs3 hl3 => ?_
 have hs1 := c₅.get hs1 List.not_mem_nil
 have c₀₅ : Chg [] st st₅ := c₀₃.trans c₅
 have h₅ := h.env.keep0 c₀₅
 have e₀₅ : st₅.nt = st.nt := by exact Nat.le_antisymm (lin4 [_,_,_,_,_] 0 V0 V1 1 V2 V1 1 V3 V2 1 V4 V3 1 V0 V4 tt (el e₁) (el e₂) (el he) (el e₅)) (lin4 [_,_,_,_,_] 0 V0 V1 1 V0 V2 1 V2 V3 1 V3 V4 1 V4 V1 tt (er e₁) (er e₂) (er he) (er e₅))
 have hcal := c₀₅.get hcal List.not_mem_nil
 have l₁ := c₁.len
 have l₃ := c₀₃.len
 have hk13 : k1 ≠ k3 := by have := zM ‹st₄.sto[k1]? = _›; exact Nat.ne_of_lt (lin2 [_,_,_] 0 S0 V1 1 V2 V1 1 S0 V2 tt hl3 this)
 have hcj : xc cks cvs (j : Int) = some (.str nm) := by rw [hcal2, hc]; rfl
 have hkl0 : M.kl < st.sto.length := by obtain ⟨_, _, z, _⟩ := hA.cal; exact zM z
 have hkl3 : M.kl ≠ k3 := by exact Nat.ne_of_lt (lin3 [_,_,_,_] 0 S0 V1 1 V2 V1 1 V3 V2 1 S0 V3 tt hl3 l₃ hkl0)
 have hnk : M.kn ≠ k1 ∧ M.kn ≠ k3 := by exact ⟨Nat.ne_of_lt (lin2 [_,_,_] 0 S0 V1 1 S0 V2 1 V2 V1 tt hl0.2.2 hl1), Nat.ne_of_lt (lin3 [_,_,_,_] 0 S0 V1 1 S0 V2 1 V3 V1 1 V2 V3 tt hl0.2.2 hl3 l₃)⟩
 have hkl1 : M.kl ≠ k1 := by exact Nat.ne_of_lt (lin2 [_,_,_] 0 S0 V1 1 V2 V1 1 S0 V2 tt hl1 hkl0)
 have hcov2 : cs.length = M.ar j := by rw [hcl]; unfold Mk.ar; rw [hr]; rfl
 have hzc : (cs.map varD).length < sizeLine := Nat.lt_of_le_of_lt (z5 (N := 12) (by exact lin3 [_,_,_] 0 V0 (.n 12) 1 V1 (.n 12) 1 V2 V1 1 V0 V2 tt hpl hvl (el hcl))) (by decide)
 refine yJ (fun hv => ?_) fun hv => ?_
 ·have hv : uu (.obj tb cb fb) = true := by rw [← xu]; exact hv
  refine zA hs3 ?_
  refine zA hs3 ?_
  refine And.intro hzc ?_
  refine zP hs3 fun st₆ c₆ e₆ hs3 => ?_
  have hcal := c₆.get hcal (ne1 hkl3)
  have hs1 := c₆.get hs1 (ne1 hk13)
  refine zA hcal ?_
  refine zA hcj ?_
  refine zA hs3 ?_
  refine zP hs3 fun st₈ c₈ e₈ U => ?_
  have hs1 := c₈.get hs1 (ne1 hk13)
  refine zA hs1 ?_
  refine And.intro rfl ?_
  have c₀₉ : Chg [] st st₈ := (c₀₅.fresh c₆ (y8 (lin2 [_,_,_] 0 V0 V1 1 V2 V1 1 V0 V2 tt hl3 l₃))).fresh c₈ (y8 (lin2 [_,_,_] 0 V0 V1 1 V2 V1 1 V0 V2 tt hl3 l₃))
  obtain ⟨l, hl, sl, tl⟩ := h.var hM hv
  obtain ⟨l', hl', sl', tl'⟩ := v8 hM hj hc hcov2 (by rw [hcov2]; exact mm hM hr) hl sl tl
  have q := q st₈ (ur nm (cs.map varD ++ [.obj tb cb fb])) l' g τ ⟨c₀₉.mono nofun, h.env.keep0 c₀₉, h.cnt.mono (Nat.le_succ _), .refl, tl'.mono .refl c₀₉.nt, hl', sl'.eq (fun U => rfl) (by exact lin0 [_] 0 (.a S0 (.n 14)) (.a V0 (.n 50)) tt)⟩
  exact q
 ·have hv : uu (.obj tb cb fb) = false := by rw [← xu]; exact hv
  refine zA hr' ?_
  refine yJ (fun hcf => ?_) fun hcf => ?_
  ·have hgB := h.cnt (Str.ofString "fall")
   refine xQ (b := Str.ofString "fall") (by decide +kernel) (by exact lin2 [_,_] 0 S0 (.n 1000000000) 1 (.a S1 U1) (.n 1000000000) 1 V0 V1 tt hB hgB) h₅ fun st₆ c₆ e₆ h₆ => ?_
   have hs1 := c₆.get hs1 (by simpa using Ne.symm hnk.1)
   have hs3 := c₆.get hs3 (by simpa using Ne.symm hnk.2)
   refine zA hs1 ?_
   refine zA hs1 ?_
   refine And.intro (Nat.le_of_ble_eq_true rfl) ?_
   refine zP hs1 fun st₇ c₇ e₇ hs1 => ?_
   have hs3 := c₇.get hs3 (by simpa using Ne.symm hk13)
   refine zA hs3 ?_
   refine zA hs3 ?_
   refine And.intro hzc ?_
   refine zP hs3 fun st₉ c₉ e₉ hs3 => ?_
   have hs1 := c₉.get hs1 (ne1 hk13)
   have hcal := c₉.get (c₇.get (c₆.get hcal (ne1 hA.ne)) (ne1 hkl1)) (ne1 hkl3)
   refine zA hcal ?_
   refine zA hcj ?_
   refine zA hs3 ?_
   refine zP hs3 fun st₁₁ c₁₁ e₁₁ U => ?_
   have hs1 := c₁₁.get hs1 (ne1 hk13)
   refine zA hs1 ?_
   refine And.intro rfl ?_
   have c₀₆ : Chg [M.kn] st st₆ := (c₀₅.mono nofun).trans c₆
   have c₁₃' : Chg [M.kn] st st₁₁ := ((c₀₆.fresh c₇ (y8 (by exact lin1 [_,_] 0 V0 V1 1 V0 V1 tt hl1))).fresh c₉ (y8 (by exact lin2 [_,_,_] 0 V0 V1 1 V2 V1 1 V0 V2 tt hl3 l₃))).fresh c₁₁ (y8 (by exact lin2 [_,_,_] 0 V0 V1 1 V2 V1 1 V0 V2 tt hl3 l₃))
   have c₆' : Chg [k1, k3] st₆ st₁₁ := ((c₇.mono (by simp)).trans (c₉.mono (by simp))).trans (c₁₁.mono (by simp))
   have h₁₃ := h₆.keep c₆' (by simp; omega)
   obtain ⟨h1, h2, h3⟩ := h.go hcf
   have hx := Nd.vars [z6 (Str.ofString "fall") (g (Str.ofString "fall") + 1)]
   obtain ⟨l', hl', sl', tl'⟩ := v8 (τ := τ) (k := st.nt) (x := varD (z6 (Str.ofString "fall") (g (Str.ofString "fall") + 1))) hM hj hc hcov2 (by rw [hcov2]; exact mm hM hr) hx (Stat.vars hM.len _) (TokOk.no (by simp [xC]))
   have hbl : .obj tb cb fb ∈ lb := by cases h2; simp
   have hnt : st.nt ≤ st₁₁.nt := c₁₃'.nt
   have q := q st₁₁ (yu (z6 (Str.ofString "fall") (g (Str.ofString "fall") + 1)) (.obj tb cb fb) (ur nm (cs.map varD ++ [varD (z6 (Str.ofString "fall") (g (Str.ofString "fall") + 1))]))) ([yu (z6 (Str.ofString "fall") (g (Str.ofString "fall") + 1)) (.obj tb cb fb) (ur nm (cs.map varD ++ [varD (z6 (Str.ofString "fall") (g (Str.ofString "fall") + 1))]))] ++ (lb ++ l')) _ τ
    ⟨c₁₃', h₁₃, h.cnt.next, .refl, TokOk.app (TokOk.no (by intro d hd; simp at hd; subst hd; rfl)) (TokOk.app (h1.mono .refl hnt) (tl'.mono .refl hnt)), .one (.lt _ _ _) (h2.app hl'),
     ((Stat.lt (h3.noL _ hbl) hM.len).add (h3.add sl')).eq (fun y => by simp; exact Nat.le_antisymm (lin0 [_,_] 0 (.a V0 V1) (.a V1 V0) tt) (lin0 [_,_] 0 (.a V0 V1) (.a V1 V0) tt)) (lin0 [_] 0 (.a U1 (.a V0 (.n 15))) (.a V0 (.n 50)) tt)⟩
   exact q
  ·refine zA hs3 ?_
   refine zA hs3 ?_
   refine And.intro hzc ?_
   refine zP hs3 fun st₇ c₇ e₇ hs3 => ?_
   have c₀₇ : Chg [] st st₇ := (c₀₅.trans (.tok)).fresh c₇ (y8 (lin2 [_,_,_] 0 V0 V1 1 V2 V1 1 V0 V2 tt hl3 l₃))
   have hs1 := c₇.get (Chg.tok.get hs1 (l := []) nofun) (by simpa using hk13)
   have hcal := c₇.get (Chg.tok.get hcal (l := []) nofun) (by simpa using hkl3)
   refine zA hcal ?_
   refine zA hcj ?_
   refine zA hs3 ?_
   refine zP hs3 fun st₉ c₉ e₉ U => ?_
   have hs1 := c₉.get hs1 (ne1 hk13)
   refine zA hs1 ?_
   refine And.intro rfl ?_
   have c₀₉ : Chg [] st st₉ := c₀₇.fresh c₉ (y8 (lin2 [_,_,_] 0 V0 V1 1 V2 V1 1 V0 V2 tt hl3 l₃))
   have hx : Nd [conE (st₅.nt + 1) vG []] [conE (st₅.nt + 1) vG []] := .one (.con _ _ _ (by exact Nat.ne_of_gt (lin0 [_] 0 (.a U0 U1) S0 tt))) .nil
   obtain ⟨l', hl', sl', tl'⟩ := v8 (τ := setT τ st₅.nt vG) (k := st₅.nt + 1) hM hj hc hcov2 (by rw [hcov2]; exact mm hM hr) hx (Stat.unit hM.len) oO
   have hu := h.no hcf
   have q := q st₉ (ur nm (cs.map varD ++ [conE (st₅.nt + 1) vG []])) l' g (setT τ st₅.nt vG) ⟨c₀₉.mono nofun, h.env.keep0 c₀₉, h.cnt.mono (Nat.le_succ _), e₀₅ ▸ yQ, tl'.mono .refl (by rw [e₉, e₇]; exact Nat.le_refl _), hl', sl'.eq (fun y => by rw [hu]) (by exact lin0 [_] 0 (.n 15) (.a V0 (.n 50)) tt)⟩
   exact q
end
section
variable {n : Nat} {st : St} {Q : D → St → Prop}
theorem v9 {M : Mk} (hM : MkOk M) {j k : Nat} (hj : j < M.rows.length) (hc : M.cl j = none) {vs : List Str} (hl : vs.length ≤ 12) {xs lx : List D} {u : Int → Nat} {L : Nat} {τ : Nat → Str} (hx : Nd xs lx) (sx : Stat M.rows.length M.cl M.ar M.fv u L lx) (tx : TokOk τ k lx) :
  ∃ l, Nd [conE (k + 1) (z0 j) (vs.map varD ++ xs)] l ∧ Stat M.rows.length M.cl M.ar M.fv (fun y => (if y = (j : Int) then 1 else 0) + u y) (L + 13) l ∧ TokOk (setT τ k (z0 j)) (k + 1) l := by
 refine ⟨[conE (k + 1) (z0 j) (vs.map varD ++ xs)] ++ (vs.map varD ++ lx), ?_, ?_, ?_⟩
 ·exact .one (.con _ _ _ (by exact Nat.ne_of_gt (lin0 [_] 0 (.a U0 U1) S0 tt))) (show Nd (vs.map varD ++ xs) (vs.map varD ++ lx) from Nd.app (Nd.vars vs) hx)
 ·refine ((Stat.rowC hM.len hj hc).add ((Stat.vars hM.len vs).add sx)).eq (fun y => ?_) (by exact lin1 [_,_] 0 (.a U1 (.a V0 V1)) (.a V1 (.n 13)) 1 V0 (.n 12) tt hl)
  simp
 ·refine TokOk.app oO (TokOk.app (TokOk.no ?_) (tx.mono yQ (by exact lin0 [_] 0 V0 S0 tt)))
  intro d hd; obtain ⟨c, _, rfl⟩ := List.mem_map.mp hd; rfl
theorem ki {M : Mk} (hM : MkOk M) {j : Nat} {bs : List (Str × Str)} {o : OTree} (hg : (Tree.leaf j bs o).good M.leafOk) (ih : ∀ t, o = .some t → q3 M (n + 15) t)
  {B : Nat} {f : Cnt} {τ : Nat → Str} (h : Env M.kc M.ka M.kn f st) (hB : CntB f B) (hBs : B + (o.size + 1) < 10 ^ 7) (hA : M.At st) (hT : TokOk τ st.nt [M.fail])
  (q : ∀ st' d l g σ, Got M (B + (o.size + 1)) (fun x => (if x = (j : Int) then 1 else 0) + o.use x) (50 * (o.size + 1)) st τ st' [d] l g σ → Q d st') : zD CQ (n + 16) (.val (.ref 1030)) [M.d, .obj 0 .Leaf [.int j, .list (bs.map xq), o.d]] st Q := by
 obtain ⟨r, hr, hcov, hbl, hs⟩ : M.leafOk j bs (match o with | .none => false | .some _ => true) := by cases o with
  | none => exact hg
  | some t => exact hg.1
 have hj := (List.getElem?_eq_some_iff.mp hr).1
 have hr' : (M.rows.map RowT.d)[j]? = some r.d := by rw [List.getElem?_map, hr]; rfl
 have hRl := hM.len
 refine hid fun hG => ?_
 obtain ⟨cks, cvs, hcal, hcal1, hcal2⟩ := hA.cal
 have hfn : ∃ ks, Node M.fail ks := by
  rcases hM.fail with ⟨_, x, e⟩ | ⟨_, t, ht, e⟩
  ·exact ⟨_, e ▸ Node.var x⟩
  ·exact ⟨_, e ▸ Node.con t _ _ ht⟩
 obtain ⟨fks, hfk⟩ := hfn
 refine hG ?_
 refine zE ⟨rfl, ?_⟩
 refine zA hr' ?_
 have rest : ∀ b st₁ lb g σ, Beh M r.2.2 (B + o.size) (fun x => o.use x) (50 * o.size) st₁ σ b lb g → Chg [M.kn] st st₁ → Ext st.nt τ σ →
   (run (zD CQ (n + 15)) (ir_Maker_leaf.dr 2)).s [some M.d, some (.obj 0 .Leaf [.int j, .list (bs.map xq), o.d]), some r.d, some b, none, none, none, none, none, none] st₁ (wO Q) := by
  intro b st₁ lb g σ hbeh c₁ x₁
  refine hid fun hG => ?_
  obtain ⟨kb, hkb⟩ := hbeh.node
  obtain ⟨tb, cb, fb, rfl⟩ := hkb.obj
  refine hG ?_
  have hcal := c₁.get hcal (ne1 hA.ne)
  refine zA hcal ?_
  have hin : cks.contains (j : Int) = (M.cl j).isSome := hcal1 j
  refine yJ (fun hc => ?_) fun hc => ?_
  ·refine hid fun hG => ?_
   obtain ⟨nm, hcl⟩ : ∃ nm, M.cl j = some nm := Option.isSome_iff_exists.mp (hin.symm.trans hc)
   refine hG ?_
   refine kh hM hr hcov hbl hcl hbeh (by exact lin1 [_,_] 0 (.a (.a (.a V0 V1) U1) U1) (.n 1000000000) 1 (.a (.a V0 S1) U1) (.n 10000000) tt hBs) fun st₂ d l g' σ' G => ?_
   exact q _ _ _ _ _ ⟨c₁.trans G.chg, G.env, G.cnt.mono (by exact lin0 [_,_] 0 (.a (.a V0 V1) U1) (.a V0 S1) tt), x₁.trans G.ext c₁.nt, G.tok, G.nd, G.stat.eq (fun U => rfl) (by exact lin0 [_] 0 (.a (.m 50 V0) (.n 50)) (.m 50 S0) tt)⟩
  ·have hcl : M.cl j = none := by
    cases e : M.cl j with
    | none => rfl
    | some nm => rw [e] at hin; rw [hin] at hc; cases hc
   have hbo := hM.body j r hr
   have hvl : (rowVars r.1).length ≤ 12 := Nat.le_trans (za r.1) (hM.pats j r hr).1
   have rest : ∀ d l g st₂ σ x, Got M (B + (o.size + 1)) (fun x => (if x = (j : Int) then 1 else 0) + o.use x) (50 * o.size + 26) st τ st₂ [d] l g σ →
     (run (zD CQ (n + 15)) (ir_Maker_leaf.dr 4)).s [some M.d, some (.obj 0 .Leaf [.int j, .list (bs.map xq), o.d]), some r.d, some (.obj tb cb fb), some d, x, none, none, none, none] st₂ (wO Q) := by
    intro d l g₂ st₂ σ₂ x G
    refine And.intro rfl ?_
    conv => whnf
    rw [← List.map_reverse]
    refine yF xq (fun done rest ρ st' => done ++ rest = bs.reverse ∧ E6 fun d l a1 a2 a3 a4 => ρ = [some M.d, some (.obj 0 .Leaf [.int j, .list (bs.map xq), o.d]), some r.d, some (.obj tb cb fb), some d, x, a1, a2, a3, a4] ∧
     Got M (B + (o.size + 1)) (fun x => (if x = (j : Int) then 1 else 0) + o.use x) (50 * o.size + 26 + 2 * done.length) st τ st' [d] l g₂ σ₂) ?_ ?_ (done := []) ⟨rfl, d, l, _, _, _, _, rfl, G⟩
    ·intro done y rest ρ st₃ K hz6 k1 k2
     refine hid fun hG => ?_
     obtain ⟨hd, d, l, a1, a2, a3, a4, rfl, G⟩ := hz6
     refine hG ?_
     refine ml ?_
     refine And.intro rfl ?_
     refine k1 _ _ ⟨yI hd, yu y.1 (varD y.2) d, [yu y.1 (varD y.2) d] ++ ([varD y.2] ++ l), some (.str y.1), some (.str y.2), some (.str y.1), some (varD y.2), rfl, G.chg, G.env, G.cnt, G.ext, ?_, ?_, ?_⟩
     ·exact TokOk.app (TokOk.no (by intro d hd; simp at hd; subst hd; rfl)) (TokOk.app (TokOk.no (by intro d hd; simp at hd; subst hd; rfl)) G.tok)
     ·exact .one (.lt _ _ _) (.cons (ks := []) (.var _) G.nd)
     ·exact ((Stat.lt rfl hM.len).add ((Stat.var hM.len).add G.stat)).eq (fun y => by simp) (by rw [List.length_append, List.length_singleton]; exact lin0 [_,_] 0 (.a U1 (.a U1 (.a (.a (.m 50 V0) (.n 26)) (.m 2 V1)))) (.a (.a (.m 50 V0) (.n 26)) (.m 2 S1)) tt)
    ·intro done ρ st₃ hz3
     refine hid fun hG => ?_
     obtain ⟨hd, d, l, a1, a2, a3, a4, rfl, G⟩ := hz3
     refine hG ?_
     rw [List.append_nil] at hd
     have hdl : done.length = bs.length := by rw [hd, List.length_reverse]
     exact q _ _ _ _ _ ⟨G.chg, G.env, G.cnt, G.ext, G.tok, G.nd, G.stat.eq (fun U => rfl) (by exact lin2 [_,_,_] 0 (.a (.a (.m 50 V0) (.n 26)) (.m 2 V1)) (.m 50 S0) 2 V2 (.n 12) 2 V1 V2 tt hbl (el hdl))⟩
   refine yJ (fun hv => ?_) fun hv => ?_
   ·have hv : uu (.obj tb cb fb) = true := by rw [← xu]; exact hv
    refine hbo (n + 9) _ _ _ ?_
    refine hid fun hG => ?_
    obtain ⟨lx, hlx, slx, tlx⟩ : ∃ lx, A3 (Nd (if r.2.2 then [.obj tb cb fb] else []) lx) (Stat M.rows.length M.cl M.ar M.fv (fun x => o.use x) (50 * o.size + 1) lx) (TokOk σ st₁.nt lx) := by
     cases hcf : r.2.2 with
     | true =>
      obtain ⟨h1, h2, h3⟩ := hbeh.go hcf
      exact ⟨lb, h2, h3.eq (fun U => rfl) (by exact lin0 [_] 0 (.m 50 V0) (.a (.m 50 V0) U1) tt), h1⟩
     | false =>
      have hu := hbeh.no hcf
      exact ⟨[], .nil, Stat.nil.eq (fun x => (hu x).symm) (by exact lin0 [_] 0 U0 (.a (.m 50 V0) U1) tt), TokOk.no nofun⟩
    obtain ⟨l, hl, sl, tl⟩ := v9 hM hj hcl hvl hlx slx tlx
    refine hG ?_
    exact rest _ l g _ _ none ⟨c₁.trans .tok, hbeh.env.keep0 .tok, hbeh.cnt.mono (by exact lin0 [_,_] 0 (.a V0 V1) (.a V0 S1) tt), x₁.trans yQ c₁.nt, tl, hl, sl.eq (fun U => rfl) (by exact lin0 [_] 0 (.a (.a (.m 50 V0) U1) (.n 13)) (.a (.m 50 V0) (.n 26)) tt)⟩
   ·have hv : uu (.obj tb cb fb) = false := by rw [← xu]; exact hv
    refine yJ (fun hcf => ?_) fun hcf => ?_
    ·have hgB := hbeh.cnt (Str.ofString "fall")
     refine xQ (b := Str.ofString "fall") (by decide +kernel) (by exact lin2 [_,_,_] 0 S0 (.n 1000000000) 1 (.a (.a V1 S2) U1) (.n 10000000) 1 V0 (.a V1 V2) tt hBs hgB) hbeh.env fun st₂ c₂ e₂ h₂ => ?_
     refine hbo (n + 9) _ _ _ ?_
     refine hid fun hG => ?_
     obtain ⟨h1, h2, h3⟩ := hbeh.go hcf
     obtain ⟨l, hl, sl, tl⟩ := v9 (τ := σ) (k := st₂.nt) hM hj hcl hvl (Nd.vars [z6 (Str.ofString "fall") (g (Str.ofString "fall") + 1)]) (Stat.vars hM.len _) (TokOk.no (by simp [xC]))
     refine hG ?_
     have hbl : .obj tb cb fb ∈ lb := by cases h2; simp
     rw [if_pos hcf]
     have rest := rest (yu (z6 (Str.ofString "fall") (g (Str.ofString "fall") + 1)) (.obj tb cb fb) (conE (st₂.nt + 1) (z0 j) ((rowVars r.1).map varD ++ [varD (z6 (Str.ofString "fall") (g (Str.ofString "fall") + 1))])))
      ([yu (z6 (Str.ofString "fall") (g (Str.ofString "fall") + 1)) (.obj tb cb fb) (conE (st₂.nt + 1) (z0 j) ((rowVars r.1).map varD ++ [varD (z6 (Str.ofString "fall") (g (Str.ofString "fall") + 1))]))] ++ (lb ++ l)) _ _ _ (some (.str (z6 (Str.ofString "fall") (g (Str.ofString "fall") + 1))))
      ⟨(c₁.trans c₂).trans .tok, h₂.keep0 .tok, hbeh.cnt.next.mono (by exact lin0 [_,_] 0 (.a (.a V0 V1) U1) (.a V0 S1) tt), x₁.trans (yQ (n := st₂.nt) (s := z0 j)) (by have := c₁.nt; exact lin2 [_,_,_] 0 V0 V1 1 V2 V1 1 V0 V2 tt (er e₂) this),
       TokOk.app (TokOk.no (by intro d hd; simp at hd; subst hd; rfl)) (TokOk.app (h1.mono (fun t ht => yQ t (by exact lin2 [_,_,_] 0 V0 V1 1 V2 V1 1 V0 V2 tt (er e₂) ht)) (by rw [← e₂]; exact Nat.le_succ _)) tl),
       .one (.lt _ _ _) (h2.app hl), ((Stat.lt (h3.noL _ hbl) hM.len).add (h3.add sl)).eq (fun y => by simp; exact Nat.le_antisymm (lin0 [_,_] 0 (.a V0 V1) (.a V1 V0) tt) (lin0 [_,_] 0 (.a V0 V1) (.a V1 V0) tt)) (lin0 [_] 0 (.a U1 (.a (.m 50 V0) (.n 14))) (.a (.m 50 V0) (.n 26)) tt)⟩
     exact rest
    ·refine hbo (n + 9) _ _ _ ?_
     have hu := hbeh.no hcf
     refine hid fun hG => ?_
     obtain ⟨l, hl, sl, tl⟩ := v9 (τ := σ) (k := st₁.nt + 1) hM hj hcl hvl Nd.nil Stat.nil (TokOk.no nofun)
     refine hG ?_
     rw [if_neg (by rw [hcf]; decide)]
     exact rest _ l g _ _ none ⟨(c₁.trans .tok).trans .tok, (hbeh.env.keep0 .tok).keep0 .tok, hbeh.cnt.mono (by exact lin0 [_,_] 0 (.a V0 V1) (.a V0 S1) tt), x₁.trans yQ (Nat.le_succ_of_le c₁.nt), tl, hl, sl.eq (fun y => by rw [hu]) (by exact lin0 [_] 0 (.n 13) (.a (.m 50 V0) (.n 26)) tt)⟩
 cases o with
 | none =>
  refine rest M.fail st [] f τ ⟨h, hB.mono (Nat.le_add_right _ _), hA, ⟨_, hfk⟩, fun z => ?_, fun U x => by rw [OTree.use]⟩ .refl .refl
  rw [z] at hs; cases hs
 | some t =>
  have hss : (OTree.some t).size = t.size := by rw [OTree.size]
  have hsu : ∀ x, (OTree.some t).use x = t.use x := fun x => by rw [OTree.use]
  rw [hss] at hBs
  refine ih t rfl B f τ st _ h hB (by exact lin1 [_,_] 0 (.a (.a V0 V1) U1) (.n 10000000) 1 (.a (.a V0 S1) U1) (.n 10000000) tt hBs) hA hT fun st₁ d l g σ G => ?_
  have hnode : ∃ ks, Node d ks := by cases G.nd with | cons a b => exact ⟨_, a⟩
  refine rest d st₁ l g σ ⟨G.env, by rw [hss]; exact G.cnt, hA.keep G.chg, hnode, fun U => ⟨G.tok, G.nd, G.stat.eq (fun x => (hsu x).symm) (by rw [hss]; exact lin0 [_] 0 (.m 50 V0) (.m 50 V0) tt)⟩, fun z => ?_⟩ G.chg G.ext
  rw [z] at hs; cases hs
end
theorem Brs.good_mem {G : Nat → List (Str × Str) → Bool → Prop} : ∀ (b : Brs), b.good G → ∀ x ∈ b.toL, x.2.1.length ≤ 100 ∧ x.2.2.good G
 | .nil, _, x, h => by simp [Brs.toL] at h
 | .cons k fs t r, hg, x, h => by
  rw [Brs.toL, List.mem_cons] at h
  rw [Brs.good] at hg
  rcases h with rfl | h
  ·exact ⟨hg.1, hg.2.1⟩
  ·exact r.good_mem hg.2.2 x h
theorem Brs.len_size : ∀ b : Brs, b.toL.length ≤ b.size
 | .nil => by simp [Brs.toL]
 | .cons k fs t r => by
  rw [Brs.toL, Brs.size, List.length_cons]
  have := r.len_size
  have : 1 ≤ t.size := by cases t <;> (rw [Tree.size]; (first | exact lin0 [] 0 U1 U1 tt | exact lin0 [_] 0 U1 S0 tt | exact lin0 [_,_] 0 U1 (.a (.a V0 V1) U1) tt))
  omega
theorem Stat.fail {M : Mk} (hM : MkOk M) : Stat M.rows.length M.cl M.ar M.fv (fun x => if x = -1 then 1 else 0) 1 [M.fail] := by
 have z : ∀ i : Nat, ¬ ((i : Int) = -1) := fun i => by omega
 rcases hM.fail with ⟨hv, x, e⟩ | ⟨hv, t, ht, e⟩
 ·rw [e, hv]
  exact {
   noF := fun d hd => by simp at hd; subst hd; rfl
   noL := fun d hd => by simp at hd; subst hd; rfl
   row := fun i hi => by simp [z, ze, xC]
   non := by simp [ze, xC]
   app := fun i hi nm U => by simp [z, appIs, nI]
   apps := fun d hd f k => by simp at hd; subst hd; intro e; cases e
   len := by simp }
 ·rw [e, hv]
  exact {
   noF := fun d hd => by simp at hd; subst hd; rfl
   noL := fun d hd => by simp at hd; subst hd; rfl
   row := fun i hi => by
    have := (zt i (by have := hM.len; exact lin2 [_,_] 0 S0 U10 1 S0 V1 1 V1 U10 tt hi this)).1
    rw [List.countP_singleton]
    show (if (zj == z0 i) = true then 1 else 0) = _
    rw [beq_eq_false_iff_ne.mpr (Ne.symm this)]; simp [z]
   non := by
    rw [List.countP_singleton]
    show (if (zj == zj) = true then 1 else 0) = _
    simp
   app := fun i hi nm U => by
    rw [List.countP_singleton]
    show 0 = _
    simp [z]
   apps := fun d hd f k => by simp at hd; subst hd; intro e; cases e
   len := by simp }
noncomputable def szL (d : List Br) : Nat := (d.map fun x => x.2.2.size).sum
noncomputable def usL (d : List Br) (y : Int) : Nat := (d.map fun x => x.2.2.use y).sum
theorem kj {M : Mk} (hM : MkOk M) : ∀ (N : Nat) (t : Tree) (n : Nat), t.dep < N → 2 * N + 30 ≤ n → t.good M.leafOk → q3 M n t := by
 intro N
 induction N with
 | zero => intro t n ht; exact absurd ht (Nat.not_lt_zero _)
 | succ N ih =>
  intro t n ht hn hg B f τ st Q h hB hBs hA hT q
  obtain ⟨n, rfl⟩ : ∃ m, n = m + 17 := ⟨n - 17, by exact Nat.le_antisymm (lin1 [_,_] 0 V0 (.a V1 (.n 17)) 1 V0 (.a V1 (.n 17)) tt sb1) (lin1 [_,_] 0 (.a V0 (.n 17)) V1 1 (.a V0 (.n 17)) V1 tt (sb3 (lin1 [_,_] 31 (.n 17) V0 17 (.a (.m 2 S1) (.n 30)) V0 tt hn)))⟩
  refine zE ⟨rfl, ?_⟩
  have hfn : ∃ ks, Node M.fail ks ∧ ks = [] := by
   rcases hM.fail with ⟨_, x, e⟩ | ⟨_, t, ht, e⟩
   ·exact ⟨_, e ▸ Node.var x, rfl⟩
   ·exact ⟨_, e ▸ Node.con t _ _ ht, rfl⟩
  obtain ⟨fks, hfk, rfl⟩ := hfn
  cases t with
  | nothing =>
   rw [Tree.size] at q
   have hu : ∀ x, Tree.nothing.use x = if x = -1 then 1 else 0 := fun x => by rw [Tree.use]
   exact q _ _ [M.fail] f τ ⟨.refl, h, hB.mono (by exact lin0 [_] 0 V0 S0 tt), .refl, hT, .one hfk .nil, (Stat.fail hM).eq (fun x => (hu x).symm) (by exact lin0 [] 0 U1 (.n 50) tt)⟩
  | leaf j bs o =>
   have hs : (Tree.leaf j bs o).size = o.size + 1 := by rw [Tree.size]
   have hu : ∀ x, (Tree.leaf j bs o).use x = (if x = (j : Int) then 1 else 0) + o.use x := fun x => by rw [Tree.use]
   rw [Tree.dep] at ht
   rw [hs] at q hBs
   refine ki hM hg (fun t e => ?_) h hB hBs hA hT fun st' d l g σ G => ?_
   ·subst e
    rw [OTree.dep] at ht
    exact ih t _ (by exact lin1 [_,_] 0 S0 V1 1 (.a S0 U1) S1 tt ht) (by exact lin1 [_,_] 0 (.a (.m 2 V0) (.n 30)) (.a V1 (.n 15)) 1 (.a (.m 2 S0) (.n 30)) (.a V1 (.n 17)) tt hn) (by rw [Tree.good] at hg; exact hg.2)
   ·exact q _ _ _ _ _ ⟨G.chg, G.env, G.cnt, G.ext, G.tok, G.nd, G.stat.eq (fun x => (hu x).symm) (by exact lin0 [_] 0 (.m 50 S0) (.m 50 S0) tt)⟩
  | switch x b o =>
   have hs : (Tree.switch x b o).size = b.size + o.size + 1 := by rw [Tree.size]
   have hu : ∀ y, (Tree.switch x b o).use y = b.use y + o.use y := fun y => by rw [Tree.use]
   rw [Tree.dep] at ht
   rw [hs] at q hBs
   have hgb : b.good M.leafOk := by cases o <;> (rw [Tree.good] at hg; first | exact hg | exact hg.1)
   have hbd : b.dep < N := by have := Nat.le_max_left b.dep o.dep; exact lin2 [_,_,_] 0 S0 V1 1 (.a S2 U1) S1 1 V0 V2 tt ht this
   have hod : o.dep < N := by have := Nat.le_max_right b.dep o.dep; exact lin2 [_,_,_] 0 S0 V1 1 (.a S2 U1) S1 1 V0 V2 tt ht this
   conv => whnf
   rw [b.d_eq]
   refine xp Br.d (fun d rest acc st' => d ++ rest = b.toL ∧ E4 fun (alts : List AltT) (l : List D) (g : Cnt) (σ : Nat → Str) => A3 (acc = alts.map AltT.d) (alts.length = d.length) (Got M (B + szL d) (usL d) (50 * szL d) st τ st' (alts.map (·.2.2)) l g σ)) ?_ (done := []) (acc := [])
    ⟨rfl, [], [], f, τ, rfl, rfl, .refl, h, hB, .refl, TokOk.no nofun, .nil, Stat.nil⟩ ?_
   ·intro d y rest acc st' K K' hz7 k1 k2
    refine hid fun hG => ?_
    obtain ⟨hd, alts, l, g, σ, ha, hal, G⟩ := hz7
    refine hG ?_
    have hy : y ∈ b.toL := hd ▸ List.mem_append_right _ (.head _)
    have hyd := b.dep_mem y hy
    have hyg := b.good_mem hgb y hy
    have hsz : szL d + y.2.2.size ≤ b.size := by
     unfold szL
     rw [b.size_eq, ← hd, List.map_append, List.sum_append, List.map_cons, List.sum_cons]; exact lin0 [_,_,_] 0 (.a V0 V1) (.a V0 (.a V1 V2)) tt
    refine ih y.2.2 _ (by exact lin2 [_,_,_] 0 S0 V1 1 S2 V1 1 V0 V2 tt hbd hyd) (by exact lin1 [_,_] 0 (.a (.m 2 V0) (.n 30)) (.a V1 (.n 16)) 1 (.a (.m 2 S0) (.n 30)) (.a V1 (.n 17)) tt hn) hyg.2 (B + szL d) g σ st' _ G.env G.cnt (by exact lin2 [_,_,_,_,_] 0 (.a (.a (.a V0 V1) V2) U1) (.n 10000000) 1 (.a (.a V0 (.a (.a V3 V4) U1)) U1) (.n 10000000) 1 (.a V1 V2) V3 tt hBs hsz) (hA.keep G.chg) (hT.mono G.ext G.chg.nt) fun st₂ d' l' g' σ' G' => ?_
    refine k1 _ _ ⟨yI hd, alts ++ [(y.1, y.2.1, d')], l ++ l', g', σ', by rw [ha, List.map_append]; rfl, by simp [hal], ?_⟩
    have e1 : szL (d ++ [y]) = szL d + y.2.2.size := by unfold szL; simp
    have e2 : ∀ z, usL (d ++ [y]) z = usL d z + y.2.2.use z := fun z => by unfold usL; simp
    refine ⟨G.chg.trans G'.chg, G'.env, G'.cnt.mono (by exact lin1 [_,_,_,_] 0 (.a (.a V0 V1) V2) (.a V0 V3) 1 (.a V1 V2) V3 tt (er e1)), G.ext.trans G'.ext G.chg.nt, ?_, ?_, ?_⟩
    ·exact TokOk.app (G.tok.mono G'.ext G'.chg.nt) G'.tok
    ·rw [List.map_append]; exact G.nd.app G'.nd
    ·exact (G.stat.add G'.stat).eq (fun z => (e2 z).symm) (by exact lin1 [_,_,_] 0 (.a (.m 50 V0) (.m 50 V1)) (.m 50 V2) 50 (.a V0 V1) V2 tt (er e1))
   intro brs st₁ hz2
   refine hid fun hG => ?_
   obtain ⟨_, alts, l, g, σ, ha, hal, G⟩ := hz2
   refine hG ?_
   simp only [List.nil_append] at ha hal G
   subst ha
   have e1 : szL b.toL = b.size := b.size_eq.symm
   have e2 : ∀ z, usL b.toL z = b.use z := fun z => (b.use_eq z).symm
   have rest : ∀ st₂ (od : Option D) (lo : List D) (g₂ : Cnt) (σ₂ : Nat → Str), Got M (B + b.size + o.size) (fun y => b.use y + o.use y) (50 * (b.size + o.size)) st τ st₂ (alts.map (·.2.2) ++ od.toList) (l ++ lo) g₂ σ₂ →
     (run (zD CQ (n + 16)) (ir_Maker_core.dr 6)).s [some M.d, some (Tree.switch x b o).d, none, none, none, some (.list (alts.map AltT.d)), some (gp od)] st₂ (wO Q) := by
    intro st₂ od lo g₂ σ₂ G₂
    have hgB := G₂.cnt (Str.ofString "worked")
    refine xQ (b := Str.ofString "worked") (by decide +kernel) (by exact lin2 [_,_,_,_] 0 S0 (.n 1000000000) 1 (.a (.a V1 (.a (.a V2 V3) U1)) U1) (.n 10000000) 1 V0 (.a (.a V1 V2) V3) tt hBs hgB) G₂.env fun st₄ c₄ e₄ h₄ => ?_
    have q := q st₄ (sC x (z6 (Str.ofString "worked") (g₂ (Str.ofString "worked") + 1)) alts od) ([sC x (z6 (Str.ofString "worked") (g₂ (Str.ofString "worked") + 1)) alts od] ++ ([varD x] ++ (l ++ lo))) _ σ₂
     ⟨G₂.chg.trans c₄, h₄, G₂.cnt.next.mono (by exact lin0 [_,_,_] 0 (.a (.a (.a V0 V1) V2) U1) (.a V0 (.a (.a V1 V2) U1)) tt), G₂.ext,
      TokOk.app (TokOk.no (by intro d hd; simp at hd; subst hd; rfl)) (TokOk.app (TokOk.no (by intro d hd; simp at hd; subst hd; rfl)) (G₂.tok.mono .refl c₄.nt)),
      .one (.case _ _ _ _) (.cons (ks := []) (.var _) G₂.nd), ((Stat.case hM.len).add ((Stat.var hM.len).add G₂.stat)).eq (fun y => by rw [hu]; simp) (by exact lin0 [_,_] 0 (.a U1 (.a U1 (.m 50 (.a V0 V1)))) (.m 50 (.a (.a V0 V1) U1)) tt)⟩
    exact q
   cases o with
   | none =>
    have z1 : OTree.none.size = 0 := by rw [OTree.size]
    have z2 : ∀ y, OTree.none.use y = 0 := fun y => by rw [OTree.use]
    refine rest st₁ none [] g σ ?_
    rw [Option.toList_none, List.append_nil, List.append_nil]
    exact ⟨G.chg, G.env, G.cnt.mono (by exact lin1 [_,_,_,_] 0 (.a V0 V1) (.a (.a V0 V2) V3) 1 V1 V2 tt (el e1)), G.ext, G.tok, G.nd, G.stat.eq (fun y => by rw [e2, z2]; rfl) (by exact lin1 [_,_,_] 0 (.m 50 V0) (.m 50 (.a V1 V2)) 50 V0 V1 tt (el e1))⟩
   | some t =>
    have z1 : (OTree.some t).size = t.size := by rw [OTree.size]
    have z2 : ∀ y, (OTree.some t).use y = t.use y := fun y => by rw [OTree.use]
    rw [z1] at hBs
    rw [OTree.dep] at hod
    have hgt : t.good M.leafOk := by rw [Tree.good] at hg; exact hg.2
    refine ih t _ hod (by exact lin1 [_,_] 0 (.a (.m 2 V0) (.n 30)) (.a V1 (.n 16)) 1 (.a (.m 2 S0) (.n 30)) (.a V1 (.n 17)) tt hn) hgt (B + szL b.toL) g σ st₁ _ G.env G.cnt (by exact lin2 [_,_,_,_] 0 (.a (.a (.a V0 V1) V2) U1) (.n 10000000) 1 V1 V3 1 (.a (.a V0 (.a (.a V3 V2) U1)) U1) (.n 10000000) tt (el e1) hBs) (hA.keep G.chg) (hT.mono G.ext G.chg.nt) fun st₂ d' l' g' σ' G' => ?_
    exact rest st₂ (some d') l' g' σ' ⟨G.chg.trans G'.chg, G'.env, G'.cnt.mono (by exact lin2 [_,_,_,_,_] 0 (.a (.a V0 V1) V2) (.a (.a V0 V3) V4) 1 V1 V3 1 V2 V4 tt (el e1) (er z1)), G.ext.trans G'.ext G.chg.nt, TokOk.app (G.tok.mono G'.ext G'.chg.nt) G'.tok, G.nd.app G'.nd, (G.stat.add G'.stat).eq (fun y => by rw [e2, z2]) (by exact lin2 [_,_,_,_] 0 (.a (.m 50 V0) (.m 50 V1)) (.m 50 (.a V2 V3)) 50 V0 V2 50 V1 V3 tt (el e1) (er z1))⟩
noncomputable def uA : Str := Str.ofString "row"
noncomputable def zR (P : Nat → Bool) (i : Nat) : List Nat := (List.range i).filter P
noncomputable def zF (P : Nat → Bool) (j : Nat) : Str := z6 uA (zR P (j + 1)).length
theorem yR {P : Nat → Bool} {i : Nat} : zR P (i + 1) = zR P i ++ if P i then [i] else [] := by
 unfold zR
 rw [List.range_succ, List.filter_append]
 congr 1
 cases h : P i <;> simp [h]
theorem called_mem {P : Nat → Bool} {i j : Nat} : j ∈ zR P i ↔ j < i ∧ P j = true := by unfold zR; simp
theorem xT {P : Nat → Bool} {i : Nat} : (zR P i).length ≤ i := by
 have := List.length_filter_le P (List.range i)
 rw [List.length_range] at this; exact this
theorem vq {P : Nat → Bool} {i j : Nat} (h : i ≤ j) : (zR P i).length ≤ (zR P j).length := by
 induction j with
 | zero =>
  have : i = 0 := by exact Nat.le_antisymm (lin1 [_] 0 V0 U0 1 V0 U0 tt h) (lin0 [_] 0 U0 V0 tt)
  subst this; exact Nat.le_refl _
 | succ j ih =>
  by_cases e : i = j + 1
  ·subst e; exact Nat.le_refl _
  ·rw [yR, List.length_append]; have := ih (by omega); exact lin1 [_,_,_] 0 V0 (.a V1 V2) 1 V0 V1 tt this
theorem nJ : ∀ a, a < 12 → ∀ b, b < 12 → z6 uA a = z6 uA b → a = b := by decide +kernel
theorem xw {P : Nat → Bool} {i j : Nat} (hi : i < 10) (hj : j < 10) (pi : P i = true) (pj : P j = true) (h : zF P i = zF P j) : i = j := by
 unfold zF at h
 have h1 := @xT P (i + 1)
 have h2 := @xT P (j + 1)
 have e := nJ _ (by exact lin2 [_,_] 0 S0 (.n 12) 1 S1 U10 1 V0 S1 tt hi h1) _ (by exact lin2 [_,_] 0 S0 (.n 12) 1 S1 U10 1 V0 S1 tt hj h2) h
 rcases Nat.lt_trichotomy i j with z | z | z
 ·have := @vq P (i + 1) j (by exact lin1 [_,_] 0 S0 V1 1 S0 V1 tt z)
  rw [yR (i := j), pj, List.length_append] at e
  simp at e; exact Nat.le_antisymm (lin2 [_,_] 9 V0 V1 1 S0 U10 9 S0 V1 tt hi z) (lin3 [_,_,_,_] 0 V0 V1 1 S0 U10 9 V2 V3 9 S3 V2 tt hj this (er e))
 ·exact z
 ·have := @vq P (j + 1) i (by exact lin1 [_,_] 0 S0 V1 1 S0 V1 tt z)
  rw [yR (i := i), pi, List.length_append] at e
  simp at e; exact Nat.le_antisymm (lin3 [_,_,_,_] 0 V0 V1 1 S0 U10 9 V2 V3 9 S3 V2 tt hi this (el e)) (lin2 [_,_] 9 V0 V1 1 S0 U10 9 S0 V1 tt hj z)
theorem nK {i : Int} : ∀ {l : List Int}, (∀ j ∈ l, i ≤ j) → insKey i l = i :: l
 | [], _ => rfl
 | j :: l, h => by rw [insKey, if_pos (h j (.head _))]
theorem vH : ∀ {l : List Int}, l.Pairwise (· ≤ ·) → sortI l = l
 | [], _ => rfl
 | i :: l, h => by
  rw [List.pairwise_cons] at h
  rw [sortI, vH h.2, nK h.1]
theorem tP {P : Nat → Bool} {i : Nat} : ((zR P i).map fun j : Nat => (j : Int)).Pairwise (· ≤ ·) := by
 rw [List.pairwise_map]
 unfold zR
 exact (List.pairwise_lt_range.filter P).imp fun h => by omega
noncomputable def ksOf (P : Nat → Bool) (i : Nat) : List Int := (zR P i).map fun j : Nat => (j : Int)
noncomputable def vsOf (P : Nat → Bool) (i : Nat) : List D := (zR P i).map fun j => .str (zF P j)
noncomputable def uB (P : Nat → Bool) (R : Nat) (j : Nat) : Option Str := if j < R ∧ P j = true then some (zF P j) else none
theorem ks_mem {P : Nat → Bool} {i j : Nat} : ((j : Int) ∈ ksOf P i) ↔ (j < i ∧ P j = true) := by
 unfold ksOf
 rw [List.mem_map]
 constructor
 ·rintro ⟨a, h, e⟩
  have : a = j := by omega
  subst this; exact called_mem.mp h
 ·intro h; exact ⟨j, called_mem.mpr h, rfl⟩
theorem q4 {a : Nat} {g : Nat → D} : ∀ {l : List Nat}, ((l.map fun j : Nat => (j : Int)).zip (l.map g)).lookup (a : Int) = if a ∈ l then some (g a) else none
 | [] => by simp
 | b :: l => by
  rw [List.map_cons, List.map_cons, List.zip_cons_cons, List.lookup_cons]
  by_cases e : a = b
  ·subst e; simp
  ·have : ¬ ((a : Int) = (b : Int)) := by omega
   rw [beq_eq_false_iff_ne.mpr this, q4]
   simp [e]
theorem mn {P : Nat → Bool} {R j : Nat} : xc (ksOf P R) (vsOf P R) (j : Int) = (uB P R j).map .str := by
 unfold xc ksOf vsOf uB
 rw [q4]
 by_cases h : j < R ∧ P j = true
 ·rw [if_pos (called_mem.mpr h), if_pos h]; rfl
 ·rw [if_neg (fun z => h (called_mem.mp z)), if_neg h]; rfl
section
variable {n : Nat} {st : St} {Q : D → St → Prop}
theorem q5 {M : Mk} (hM : MkOk M) {j : Nat} {r : RowT} (hr : M.rows[j]? = some r) {f : Cnt} (h : Env M.kc M.ka M.kn f st) (hf : f (Str.ofString "fall") < 10 ^ 9)
  (q : ∀ st', Chg [M.kn] st st' → Env M.kc M.ka M.kn (f.set (Str.ofString "fall") (f (Str.ofString "fall") + 1)) st' →
   ∀ k, st.nt ≤ k → k + 1 ≤ st'.nt → Q (rH ((rowVars r.1).map .str ++ [.str (z6 (Str.ofString "fall") (f (Str.ofString "fall") + 1))]) (conE (k + 1) (z0 j) ((rowVars r.1).map varD ++ if r.2.2 then [varD (z6 (Str.ofString "fall") (f (Str.ofString "fall") + 1))] else []))) st') :
  zD CQ (n + 16) (.val (.ref 1018)) [M.d, r.d] st Q := by
 have hbo := hM.body j r hr
 obtain ⟨hpl, hpd⟩ := hM.pats j r hr
 refine zE ⟨rfl, ?_⟩
 refine xQ (b := Str.ofString "fall") (by decide +kernel) hf h fun st₁ c₁ e₁ h₁ => ?_
 refine xA (n := n + 2) (ps := r.1) (b := r.2.1) (cf := r.2.2) hpd (by exact lin1 [_] 0 V0 U100 1 V0 (.n 12) tt hpl) ?_
 refine And.intro (yG (m := [_]) (z5 (Nat.le_trans (za r.1) (by exact lin1 [_] 0 V0 U100 1 V0 (.n 12) tt hpl))) (Nat.le_of_ble_eq_true rfl)) ?_
 refine hbo (n + 9) _ _ _ ?_
 exact q _ (c₁.trans .tok) (h₁.keep0 .tok) st₁.nt c₁.nt (Nat.le_refl _)
structure Wh (M : Mk) (P : Nat → Bool) (u : Int → Nat) (L : Nat) (fs : List (Nat × D)) (τ : Nat → Str) (k : Nat) (l : List D) : Prop where
 funs : l.filterMap yA = fs.map fun p => (zF P p.1, p.2)
 fok : ∀ p ∈ fs, p.1 < M.rows.length ∧ P p.1 = true ∧ ∃ r x t as, M.rows[p.1]? = some r ∧ p.2 = rH ((rowVars r.1).map .str ++ [.str x]) (conE t (z0 p.1) as) ∧ conE t (z0 p.1) as ∈ l
 nd : (fs.map (·.1)).Nodup
 row : ∀ i, i < M.rows.length → l.countP (ze (z0 i)) = if P i then (if i ∈ fs.map (·.1) then 1 else 0) else u i
 non : l.countP (ze zj) = if M.fv then 0 else u (-1)
 app : ∀ i, i < M.rows.length → P i = true → l.countP (appIs (zF P i)) = u i
 apps : ∀ d ∈ l, ∀ f k, vp d = some (f, k) → ∃ i, i < M.rows.length ∧ P i = true ∧ f = zF P i ∧ k = M.ar i + 1
 len : l.length ≤ L
 tok : TokOk τ k l
set_option tactic.hygienic true in
theorem Wh.start {M : Mk} (hM : MkOk M) {P : Nat → Bool} (hcl : M.cl = uB P M.rows.length) {u : Int → Nat} {L k : Nat} {τ : Nat → Str} {l : List D} (h : Stat M.rows.length M.cl M.ar M.fv u L l) (ht : TokOk τ k l) : Wh M P u L [] τ k l where
 funs := by rw [List.filterMap_eq_nil_iff.mpr h.noF]; rfl
 fok p hp := by simp at hp
 nd := by simp
 row i hi := by
  rw [h.row i hi, hcl]
  unfold uB
  cases hp : P i <;> simp [hi]
 non := h.non
 app i hi hp := h.app i hi _ (by rw [hcl]; unfold uB; rw [if_pos ⟨hi, hp⟩])
 apps d hd f k e := by
  obtain ⟨i, hi, hc, hk⟩ := h.apps d hd f k e
  rw [hcl] at hc
  unfold uB at hc
  split at hc
  ·rename_i z; cases hc; exact ⟨i, hi, z.2, rfl, hk⟩
  ·cases hc
 len := h.len
 tok := ht
theorem Wh.mono {M : Mk} {P : Nat → Bool} {u : Int → Nat} {L L' k : Nat} {fs : List (Nat × D)} {τ : Nat → Str} {l : List D} (h : Wh M P u L fs τ k l) (hl : L ≤ L') : Wh M P u L' fs τ k l := { h with len := Nat.le_trans h.len hl }
theorem mq {vs : List Str} : (vs.map varD).filterMap yA = [] := by
 rw [List.filterMap_eq_nil_iff]; intro d hd; obtain ⟨x, _, rfl⟩ := List.mem_map.mp hd; rfl
theorem q6 {vs : List Str} {nm : Str} : (vs.map varD).countP (ze nm) = 0 := by
 rw [List.countP_eq_zero]; intro d hd; obtain ⟨x, _, rfl⟩ := List.mem_map.mp hd; exact fun h => ff h
theorem mr {vs : List Str} {nm : Str} : (vs.map varD).countP (appIs nm) = 0 := by
 rw [List.countP_eq_zero]; intro d hd; obtain ⟨x, _, rfl⟩ := List.mem_map.mp hd; exact fun h => ff h
theorem Wh.step {M : Mk} (hM : MkOk M) {P : Nat → Bool} {u : Int → Nat} {L : Nat} {fs : List (Nat × D)} {τ : Nat → Str} {k m m' : Nat} {l : List D} (h : Wh M P u L fs τ k l) {j : Nat} {r : RowT} (hr : M.rows[j]? = some r) (hp : P j = true) (hn : j ∉ fs.map (·.1)) {x : Str} {vs : List Str} (hv : vs.length ≤ 13) {d : D} (hk : k ≤ m) (hm : m + 1 ≤ m') :
  Wh M P u (L + 20) ((j, rH ((rowVars r.1).map .str ++ [.str x]) (conE (m + 1) (z0 j) (vs.map varD))) :: fs) (setT τ m (z0 j)) m'
   ([yu (zF P j) (rH ((rowVars r.1).map .str ++ [.str x]) (conE (m + 1) (z0 j) (vs.map varD))) d, rH ((rowVars r.1).map .str ++ [.str x]) (conE (m + 1) (z0 j) (vs.map varD)), conE (m + 1) (z0 j) (vs.map varD)] ++ (vs.map varD ++ l)) := by
 have hj := (List.getElem?_eq_some_iff.mp hr).1
 have hR := hM.len
 generalize hlam : rH ((rowVars r.1).map .str ++ [.str x]) (conE (m + 1) (z0 j) (vs.map varD)) = lam
 have f1 : yA (yu (zF P j) lam d) = some (zF P j, lam) := by rw [← hlam]; rfl
 have f2 : yA lam = none := by rw [← hlam]; rfl
 have f3 : ∀ t s as, yA (conE t s as) = none := fun U U U => rfl
 have g1 : ∀ nm, ze nm (yu (zF P j) lam d) = false := fun U => rfl
 have g2 : ∀ nm, ze nm lam = false := by rw [← hlam]; exact fun U => rfl
 have g3 : ∀ nm t as, ze nm (conE t (z0 j) as) = (z0 j == nm) := fun U U U => rfl
 have a1 : ∀ nm, appIs nm (yu (zF P j) lam d) = false := fun U => rfl
 have a2 : ∀ nm, appIs nm lam = false := by rw [← hlam]; exact fun U => rfl
 have a3 : ∀ nm t s as, appIs nm (conE t s as) = false := fun U U U U => rfl
 exact {
  funs := by
   rw [List.filterMap_append, List.filterMap_append, mq, h.funs]
   simp [List.filterMap_cons, f1, f2, f3]
  fok := fun p hpm => by
   rcases List.mem_cons.mp hpm with rfl | z
   ·exact ⟨hj, hp, r, x, m + 1, vs.map varD, hr, hlam.symm, by simp⟩
   ·refine hid fun hG => ?_
    obtain ⟨b1, b2, r', x', t', as', b3, b4, b5⟩ := h.fok p z
    refine hG ?_
    exact ⟨b1, b2, r', x', t', as', b3, b4, by simp [b5]⟩
  nd := by rw [List.map_cons, List.nodup_cons]; exact ⟨hn, h.nd⟩
  row := fun i hi => by
   rw [List.countP_append, List.countP_append, q6, h.row i hi]
   simp only [List.countP_cons, List.countP_nil, g1, g2, g3, List.map_cons, List.mem_cons, Bool.false_eq_true, if_false]
   by_cases e : i = j
   ·subst e; simp [hp, hn]
   ·have : z0 j ≠ z0 i := fun z => e ((zt j (by exact lin2 [_,_] 0 S0 U10 1 S0 V1 1 V1 U10 tt hj hR)).2.2 i (by exact lin2 [_,_] 0 S0 U10 1 V1 U10 1 S0 V1 tt hR hi) z).symm
    rw [beq_eq_false_iff_ne.mpr this]
    have e2 : (i = j ∨ i ∈ fs.map (·.1)) ↔ i ∈ fs.map (·.1) := ⟨fun z => z.elim (fun z => absurd z e) id, .inr⟩
    simp only [e2, Bool.false_eq_true, if_false, Nat.add_zero, Nat.zero_add]
  non := by
   rw [List.countP_append, List.countP_append, q6, h.non]
   simp only [List.countP_cons, List.countP_nil, g1, g2, g3]
   rw [beq_eq_false_iff_ne.mpr (zt j (by exact lin2 [_,_] 0 S0 U10 1 S0 V1 1 V1 U10 tt hj hR)).1]; simp
  app := fun i hi hpi => by
   rw [List.countP_append, List.countP_append, mr, h.app i hi hpi]
   simp only [List.countP_cons, List.countP_nil, a1, a2, a3]; simp
  apps := fun d' hd f k e => by
   rcases List.mem_append.mp hd with z | z
   ·simp at z
    rcases z with rfl | rfl | rfl
    ·cases e
    ·rw [← hlam] at e; cases e
    ·cases e
   ·rcases List.mem_append.mp z with z | z
    ·obtain ⟨y, _, rfl⟩ := List.mem_map.mp z; cases e
    ·exact h.apps d' z f k e
  len := by have := h.len; simp; exact lin2 [_,_,_] 0 (.a V0 V1) (.a V2 (.n 17)) 1 V0 (.n 13) 1 V1 V2 tt hv this
  tok := by
   refine TokOk.app ?_ (TokOk.app (TokOk.no ?_) (h.tok.mono (fun t ht => yQ t (by exact lin2 [_,_,_] 0 V0 V1 1 V2 V1 1 V0 V2 tt hk ht)) (by exact lin2 [_,_,_] 0 V0 V1 1 V0 V2 1 S2 V1 tt hk hm)))
   ·intro d' hd s t e
    simp at hd
    rcases hd with rfl | rfl | rfl
    ·cases e
    ·rw [← hlam] at e; cases e
    ·cases e; exact ⟨hm, by unfold setT; rw [if_pos rfl]⟩
   ·intro d' hd; obtain ⟨y, _, rfl⟩ := List.mem_map.mp hd; rfl }
theorem q7 {M : Mk} (hM : MkOk M) {P : Nat → Bool} (hcl : M.cl = uB P M.rows.length) {t : Tree} {N : Nat} (ht : t.dep < N) (hg : t.good M.leafOk) {c : Ct} (hc : ∀ i : Nat, c.get i = t.use i) (hP : ∀ i, P i = decide (1 < t.use i))
  {B : Nat} {f : Cnt} {τ : Nat → Str} (h : Env M.kc M.ka M.kn f st) (hB : CntB f B) (hBs : B + t.size + 40 < 10 ^ 7) (hf : f uA = 0) (hu : st.sto[M.ku]? = some (.dI c.1 (c.2.map .int))) (hl : st.sto[M.kl]? = some (.dI [] []))
  (n1 : M.ku ≠ M.kn ∧ M.ku ≠ M.kl ∧ M.kl ≠ M.kn ∧ M.kl ≠ M.kc ∧ M.kl ≠ M.ka) (hT : TokOk τ st.nt [M.fail]) (hfl : isLam M.fail = false)
  (q : ∀ st' d l fs σ, Chg [M.kn, M.kl] st st' → Nd [d] l → Wh M P (fun x => t.use x) (50 * t.size + 400) fs σ st'.nt l → (∀ i, i < M.rows.length → P i = true → i ∈ fs.map (·.1)) → isLam d = false → Ext st.nt τ σ → Q d st') :
  zD CQ (n + 2 * N + 40) (.val (.ref 1011)) [M.d, t.d] st Q := by
 have hR := hM.len
 rw [show n + 2 * N + 40 = (n + 2 * N + 39) + 1 from rfl]
 refine zE ⟨rfl, ?_⟩
 have hrow : uA ∈ zf := by decide +kernel
 refine ⟨M.rows.length, ⟨by rw [List.length_map]; rfl, zU (by exact lin1 [_] 0 V0 U1000 1 V0 U10 tt hR)⟩, ?_⟩
 refine yF (fun i : Nat => D.int (Int.ofNat i)) (fun done rest ρ st' => done ++ rest = List.range M.rows.length ∧ (∃ a, ρ = [some M.d, some t.d, a, none]) ∧ Chg [M.kn, M.kl] st st' ∧
  Env M.kc M.ka M.kn (f.set uA (zR P done.length).length) st' ∧ st'.sto[M.kl]? = some (.dI (ksOf P done.length) (vsOf P done.length))) ?_ ?_ (done := []) ⟨rfl, ⟨_, rfl⟩, .refl, by rw [show (zR P ([] : List Nat).length).length = f uA from hf.symm, Cnt.set_self]; exact h, hl⟩
 ·intro done y rest ρ st₁ K hz6 k1 k2
  refine hid fun hG => ?_
  obtain ⟨hd, ⟨a, rfl⟩, hc', he, hs⟩ := hz6
  obtain ⟨rfl, hyl⟩ := yg hd
  refine hG ?_
  have hu₁ := hc'.get hu (by simp; exact ⟨n1.1, n1.2.1⟩)
  have hget : (xc c.1 (c.2.map D.int) (done.length : Int)).getD (.int 0) = .int (t.use done.length) := by rw [tw]; exact congrArg D.int (hc done.length)
  have hlen1 : (done ++ [done.length]).length = done.length + 1 := by simp
  refine zA hu₁ ?_
  refine zA hu₁ ?_
  conv => whnf
  rw [show (xc c.1 (c.2.map D.int) (Int.ofNat done.length)).getD (.int 0) = .int (t.use done.length) from hget]
  refine yJ (fun hlt => ?_) fun hlt => ?_
  ·have hlt : 1 < t.use done.length := by have zz1 := of_decide_eq_true hlt; omega
   have hp : P done.length = true := by rw [hP]; simpa using hlt
   have hl1 := @xT P done.length
   refine xQ (b := uA) hrow (by rw [Cnt.set_at]; exact lin3 [_,_,_] 0 S0 (.n 1000000000) 1 V1 U10 1 S2 V1 1 V0 V2 tt hR hyl hl1) he fun st₂ c₂ e₂ h₂ => ?_
   rw [Cnt.set_at, Cnt.set_set] at h₂
   rw [Cnt.set_at]
   have hs₂ := c₂.get hs (ne1 n1.2.2.1)
   have hnm : ((done.length : Int)) ∉ ksOf P done.length := fun z => by have := (ks_mem.mp z).1; exact no1 (lin1 [_] 0 U1 U0 1 S0 V0 tt this)
   refine zA hs₂ ?_
   conv => whnf
   rw [show zS (ksOf P done.length) (vsOf P done.length) (Int.ofNat done.length) (.str (z6 uA ((zR P done.length).length + 1))) = _ from oJ hnm]
   refine And.intro (zU (by unfold vsOf; simp; exact lin3 [_,_,_] 0 V0 (.n 999) 1 V1 U10 1 S2 V1 1 V0 V2 tt hR hyl hl1)) ?_
   refine zP hs₂ fun st₃ c₃ e₃ hs₃ => ?_
   have hk1 : zR P (done.length + 1) = zR P done.length ++ [done.length] := by rw [yR, if_pos hp]
   have hnn : zF P done.length = z6 uA ((zR P done.length).length + 1) := by unfold zF; rw [hk1]; simp
   refine k1 _ _ ⟨by simpa using hd, ⟨_, rfl⟩, (hc'.trans (c₂.mono (by simp))).trans (c₃.mono (by simp)), ?_, ?_⟩
   ·rw [hlen1, hk1, List.length_append]
    exact h₂.keep c₃ (by simp; have zz1 := n1; exact ⟨Ne.symm n1.2.2.2.1, Ne.symm n1.2.2.2.2, Ne.symm n1.2.2.1⟩)
   ·rw [hs₃, hlen1]
    unfold ksOf vsOf
    rw [hk1, List.map_append, List.map_append, ← hnn]; rfl
  ·have hlt : ¬ 1 < t.use done.length := by have zz1 := of_decide_eq_false hlt; omega
   have hp' : P done.length = false := by rw [hP]; simpa using hlt
   have hk1 : zR P (done.length + 1) = zR P done.length := by rw [yR, hp']; simp
   refine k1 _ _ ⟨yI hd, ⟨_, rfl⟩, hc', ?_, ?_⟩
   ·rw [hlen1, hk1]; exact he
   ·rw [hlen1]; unfold ksOf vsOf; rw [hk1]; exact hs
 intro done ρ st₁ hz3
 refine hid fun hG => ?_
 obtain ⟨hd, ⟨a, rfl⟩, hc', he, hs⟩ := hz3
 refine hG ?_
 rw [List.append_nil] at hd
 have hdl : done.length = M.rows.length := by rw [hd, List.length_range]
 rw [hdl] at he hs
 have hl1 := @xT P M.rows.length
 have hA : M.At st₁ := ⟨n1.2.2.1, _, _, hs, fun i => by
  rw [List.contains_eq_mem, hcl]
  unfold uB
  by_cases z : i < M.rows.length ∧ P i = true
  ·rw [if_pos z]; simp [ks_mem, z]
  ·rw [if_neg z]; simp only [ks_mem, z, decide_false, Option.isSome_none], fun i => by rw [hcl]; exact mn⟩
 refine kj hM N t _ ht (by exact lin0 [_,_] 0 (.a (.m 2 V0) (.n 30)) (.a (.a V1 (.m 2 V0)) (.n 39)) tt) hg (B + 10) _ τ st₁ _ he (fun x => by unfold Cnt.set; have := hB x; split <;> (first | exact lin2 [_,_,_] 0 V0 (.a V1 U10) 1 V2 U10 1 V0 V2 tt hR hl1 | exact lin1 [_,_] 0 V0 (.a V1 U10) 1 V0 V1 tt this)) (by exact lin1 [_,_] 0 (.a (.a (.a V0 U10) V1) U1) (.n 10000000) 1 (.a (.a (.a V0 V1) (.n 40)) U1) (.n 10000000) tt hBs) hA (hT.mono .refl hc'.nt) fun st₂ d l g σ G => ?_
 have hs₂ := G.chg.get hs (ne1 n1.2.2.1)
 refine zA hs₂ ?_
 refine And.intro (by unfold ksOf; rw [List.length_map]; exact lin2 [_,_] 0 S0 (.n 64) 1 V1 U10 1 V0 V1 tt hR hl1) ?_
 conv => whnf
 rw [show sortI (ksOf P M.rows.length) = ksOf P M.rows.length from vH tP, show (ksOf P M.rows.length).map D.int = (zR P M.rows.length).map (fun j : Nat => D.int (Int.ofNat j)) from List.map_map]
 have hdl0 : d ∈ l := by cases G.nd; simp
 refine yF (fun j : Nat => D.int (Int.ofNat j)) (fun done rest ρ st' => done ++ rest = zR P M.rows.length ∧ ∃ a d l fs f' σ, ρ = [some M.d, some t.d, a, some d] ∧ Nd [d] l ∧ isLam d = false ∧ Wh M P (fun x => t.use x) (50 * t.size + 20 * done.length) fs σ st'.nt l ∧
  fs.map (·.1) = done.reverse ∧ Chg [M.kn, M.kl] st st' ∧ Env M.kc M.ka M.kn f' st' ∧ CntB f' (B + 10 + t.size + done.length) ∧ st'.sto[M.kl]? = some (.dI (ksOf P M.rows.length) (vsOf P M.rows.length)) ∧ Ext st.nt τ σ) ?_ ?_ (done := [])
  ⟨rfl, _, d, l, [], g, σ, rfl, G.nd, G.stat.noL d hdl0, (Wh.start hM hcl G.stat G.tok).mono (Nat.le_refl _), rfl, hc'.trans (G.chg.mono (by simp)), G.env, G.cnt.mono (Nat.le_refl _), hs₂, fun t ht => G.ext t (Nat.le_trans ht hc'.nt)⟩
 ·intro done j rest ρ st₃ K hz6 k1 k2
  refine hid fun hG => ?_
  obtain ⟨hd, a, d, l, fs, f', σ, rfl, hnd, hil, hw, hfs, hc₃, h₃, hB₃, hs₃, hx₃⟩ := hz6
  have hjm : j ∈ zR P M.rows.length := hd ▸ List.mem_append_right _ (.head _)
  obtain ⟨hj, hpj⟩ := called_mem.mp hjm
  refine hG ?_
  have hr : M.rows[j]? = some M.rows[j] := List.getElem?_eq_getElem hj
  generalize M.rows[j] = r at hr
  have hr' : (M.rows.map RowT.d)[j]? = some r.d := by rw [List.getElem?_map, hr]; rfl
  have hkj : xc (ksOf P M.rows.length) (vsOf P M.rows.length) (j : Int) = some (.str (zF P j)) := by rw [mn]; unfold uB; rw [if_pos ⟨hj, hpj⟩]; rfl
  have hdn : done.length ≤ 10 := by
   have : done.length + (1 + rest.length) = (zR P M.rows.length).length := by rw [← hd]; simp; exact Nat.le_antisymm (lin0 [_] 0 (.a U1 V0) S0 tt) (lin0 [_] 0 S0 (.a U1 V0) tt)
   exact lin3 [_,_,_,_] 0 V0 U10 1 V1 U10 1 V2 V1 1 (.a V0 (.a U1 V3)) V2 tt hR hl1 (el this)
  have hfB := hB₃ (Str.ofString "fall")
  have hnj : j ∉ done := by
   have hn : (zR P M.rows.length).Nodup := (List.nodup_range).filter _
   rw [← hd, List.nodup_append] at hn
   exact fun z => hn.2.2 j z j (.head _) rfl
  refine zA hs₃ ?_
  refine zA hkj ?_
  refine zA hr' ?_
  refine q5 (n := n + 2 * N + 23) hM hr h₃ (by exact lin3 [_,_,_,_] 0 S0 (.n 1000000000) 1 (.a (.a (.a V1 V2) (.n 40)) U1) (.n 10000000) 1 V3 U10 1 V0 (.a (.a (.a V1 U10) V2) V3) tt hBs hdn hfB) fun st₄ c₄ h₄ k hk1 hk2 => ?_
  have hvv := za r.1
  have hpl := (hM.pats j r hr).1
  have hvs : ∃ vs : List Str, ((rowVars r.1).map varD ++ if r.2.2 then [varD (z6 (Str.ofString "fall") (f' (Str.ofString "fall") + 1))] else []) = vs.map varD ∧ vs.length ≤ 13 := by
   cases r.2.2 with
   | true => exact ⟨rowVars r.1 ++ [z6 (Str.ofString "fall") (f' (Str.ofString "fall") + 1)], by simp, by simp; exact lin2 [_,_] 0 V0 (.n 12) 1 V0 V1 1 V1 (.n 12) tt hvv hpl⟩
   | false => exact ⟨rowVars r.1, by simp, by exact lin2 [_,_] 0 V0 (.n 13) 1 V0 V1 1 V1 (.n 12) tt hvv hpl⟩
  refine hid fun hG => ?_
  obtain ⟨vs, hvs, hvl⟩ := hvs
  refine hG ?_
  rw [hvs]
  have hw' := hw.step hM hr hpj (by rw [hfs]; simpa using hnj) hvl (x := z6 (Str.ofString "fall") (f' (Str.ofString "fall") + 1)) (d := d) (m := k) (m' := st₄.nt) hk1 hk2
  refine k1 _ _ ⟨by simpa using hd, some (.int (Int.ofNat j)), yu (zF P j) (rH ((rowVars r.1).map .str ++ [.str (z6 (Str.ofString "fall") (f' (Str.ofString "fall") + 1))]) (conE (k + 1) (z0 j) (vs.map varD))) d, _, _, _, _, rfl, ?_, rfl, hw'.mono (by simp; exact lin0 [_,_] 0 (.a (.a (.m 50 V0) (.m 20 V1)) (.n 20)) (.a (.m 50 V0) (.m 20 S1)) tt), ?_, hc₃.trans (c₄.mono (by simp)), h₄, hB₃.next.mono (by simp; exact lin0 [_,_,_] 0 (.a (.a (.a (.a V0 U10) V1) V2) U1) (.a (.a (.a V0 U10) V1) S2) tt), c₄.get hs₃ (by simpa using n1.2.2.1), hx₃.trans yQ (Nat.le_trans hc₃.nt hk1)⟩
  ·refine .one (.lt _ _ _) (.cons (.lam _ _) (.cons (.con _ _ _ (by exact Nat.ne_of_gt (lin0 [_] 0 (.a U0 U1) S0 tt))) ?_))
   exact (Nd.vars vs).app hnd
  ·rw [List.map_cons, hfs, List.reverse_append]; rfl
 ·intro done ρ st₃ hz3
  refine hid fun hG => ?_
  obtain ⟨hd, a, d, l, fs, f', σ, rfl, hnd, hil, hw, hfs, hc₃, h₃, hB₃, hs₃, hx₃⟩ := hz3
  refine hG ?_
  rw [List.append_nil] at hd
  exact q _ d l fs σ hc₃ hnd (hw.mono (by rw [hd]; exact lin2 [_,_,_] 0 (.a (.m 50 V0) (.m 20 V1)) (.a (.m 50 V0) (.n 400)) 20 V2 U10 20 V1 V2 tt hR hl1)) (fun i hi hp => by rw [hfs, hd, List.mem_reverse]; exact called_mem.mpr ⟨hi, hp⟩) hil hx₃
end
noncomputable def zk (i : Nat) (ps : List Pat) : Ln := ⟨i, ps, [], false⟩
theorem uv {α : Type} {f : α → D} : ∀ (l : List α) (n : Nat), y9 n (l.map f) = (l.zipIdx n).map fun p => D.tup [.int (.ofNat p.2), f p.1]
 | [], n => rfl
 | x :: l, n => by rw [List.map_cons, y9, List.zipIdx_cons, List.map_cons, uv l (n + 1)]
section
variable {n : Nat} {st : St} {Q : D → St → Prop}
theorem q8 {rows : List RowT} {fail : D} {kc ka kn ku : Nat} (hu : ∃ ks l, st.sto[ku]? = some (.dI ks l)) (q : ∀ st' kl, Chg [] st st' → st'.nt = st.nt → st.sto.length ≤ kl → st'.sto[kl]? = some (.dI [] []) → Q (.obj 0 .Maker [.list (rows.map RowT.d), fail, yt kc, ys ka kn, .mref ku, .mref kl]) st') :
  zD CQ (n + 2) (.val (.ref 1050)) [.list (rows.map RowT.d), fail, yt kc, ys ka kn, .mref ku] st Q := by
 refine zE ?_
 refine zi fun st₁ k c₁ e₁ h₁ l₁ => ?_
 refine zE ⟨rfl, ?_⟩
 refine zA h₁ ?_
 refine zP h₁ fun st₂ c₂ e₂ h₂ => ?_
 refine zA h₂ ?_
 refine zP h₂ fun st₃ c₃ e₃ h₃ => ?_
 refine zA h₃ ?_
 refine zP h₃ fun st₄ c₄ e₄ h₄ => ?_
 refine zA h₄ ?_
 refine zP h₄ fun st₅ c₅ e₅ h₅ => ?_
 refine zA h₅ ?_
 refine zP h₅ fun st₆ c₆ e₆ h₆ => ?_
 refine zi fun st₇ kl c₇ e₇ h₇ l₇ => ?_
 have h₆ := c₇.get h₆ List.not_mem_nil
 refine zA h₆ ?_
 refine zP h₆ fun st₈ c₈ e₈ h₈ => ?_
 refine zA h₈ ?_
 refine And.intro rfl ?_
 refine zP h₈ fun st₉ c₉ e₉ h₉ => ?_
 have cA : Chg [k] st₁ st₆ := (((c₂.trans c₃).trans c₄).trans c₅).trans c₆
 have hk := zM h₁
 have l6 := cA.len
 have l1 := c₁.len
 have hne : k ≠ kl := by exact Nat.ne_of_lt (lin3 [_,_,_,_] 0 S0 V1 1 V2 V1 1 S0 V3 1 V3 V2 tt l₇ hk l6)
 exact q _ kl (((c₁.fresh cA (y8 l₁)).trans c₇).fresh (c₈.trans c₉) (y8 l₁)) (by omega) (by exact lin3 [_,_,_,_] 0 V0 V1 1 V2 V1 1 V3 V2 1 V0 V3 tt l₇ l6 l1) (c₉.get (c₈.get h₇ (by simpa using Ne.symm hne)) (by simpa using Ne.symm hne))
structure RowsOk (rows : List RowT) : Prop where
 len : rows.length ≤ 10
 body : ∀ (i : Nat) (r : RowT), rows[i]? = some r → BodyOk r.2.1 i (rowVars r.1) r.2.2
 pats : ∀ (i : Nat) (r : RowT), rows[i]? = some r → r.1.length ≤ 12 ∧ ∀ p ∈ r.1, p.dep ≤ 10
noncomputable def linesOf (rows : List RowT) : List Ln := rows.zipIdx.map fun p => zk p.2 p.1.1
noncomputable def zN (rows : List RowT) : List Bool := rows.map fun r => r.2.2
noncomputable def iW (rows : List RowT) (i : Nat) : Nat := ((rows[i]?).elim [] fun r => rowVars r.1).length
noncomputable def leafOf (rows : List RowT) (j : Nat) (bs : List (Str × Str)) (s : Bool) : Prop := ∃ r, rows[j]? = some r ∧ (∀ x ∈ rowVars r.1, x ∈ bs.map (·.1)) ∧ bs.length ≤ 12 ∧ s = r.2.2
structure Fin (rows : List RowT) (u : Int → Nat) (fv : Bool) (L : Nat) (P : Nat → Bool) (fs : List (Nat × D)) (τ : Nat → Str) (k : Nat) (l : List D) : Prop where
 funs : l.filterMap yA = fs.map fun p => (zF P p.1, p.2)
 fok : ∀ p ∈ fs, p.1 < rows.length ∧ P p.1 = true ∧ ∃ r x t as, rows[p.1]? = some r ∧ p.2 = rH ((rowVars r.1).map .str ++ [.str x]) (conE t (z0 p.1) as) ∧ conE t (z0 p.1) as ∈ l
 nd : (fs.map (·.1)).Nodup
 all : ∀ i, i < rows.length → P i = true → i ∈ fs.map (·.1)
 pr : ∀ i : Nat, P i = decide (1 < u i)
 row : ∀ i, i < rows.length → l.countP (ze (z0 i)) = if 0 < u i then 1 else 0
 non : l.countP (ze zj) = if fv then 0 else min 1 (u (-1))
 app : ∀ i, i < rows.length → P i = true → l.countP (appIs (zF P i)) = u i
 apps : ∀ d ∈ l, ∀ f k, vp d = some (f, k) → ∃ i, i < rows.length ∧ P i = true ∧ f = zF P i ∧ k = iW rows i + 1
 len : l.length ≤ L
 tok : TokOk τ k l
set_option tactic.hygienic true in
theorem gq {rows : List RowT} (hR : RowsOk rows) {fail : D} {fv : Bool} {kc ka kn ku kl : Nat} {P : Nat → Bool} (hf : (fv = true ∧ ∃ x, fail = varD x) ∨ (fv = false ∧ ∃ t, t ≠ 0 ∧ fail = conE t zj [])) : MkOk ⟨rows, fail, fv, kc, ka, kn, ku, kl, uB P rows.length⟩ where
 len := hR.len
 body := hR.body
 pats := hR.pats
 fail := hf
 inj i j nm hi hj := by
  have hl := hR.len
  dsimp only [uB] at hi hj
  split at hi
  ·split at hj
   ·rename_i z1 z2
    cases hi
    exact (xw (by exact lin2 [_,_] 0 S0 U10 1 V1 U10 1 S0 V1 tt hl z2.1) (by exact lin2 [_,_] 0 S0 U10 1 V1 U10 1 S0 V1 tt hl z1.1) z2.2 z1.2 (by simpa using hj)).symm
   ·cases hj
  ·cases hi
 dom i nm h := by
  dsimp only [uB] at h
  split at h
  ·rename_i z; exact z.1
  ·cases h
theorem Wh.fin {rows : List RowT} {fail : D} {fv fv' : Bool} {kc ka kn ku kl : Nat} {cl : Nat → Option Str} {P : Nat → Bool} {u : Int → Nat} {L L' k k' : Nat} {fs : List (Nat × D)} {τ : Nat → Str} {l : List D} (h : Wh ⟨rows, fail, fv, kc, ka, kn, ku, kl, cl⟩ P u L fs τ k l) (pre : List D)
  (hp : ∀ d ∈ pre, yA d = none ∧ vp d = none) (hr : ∀ i, i < rows.length → pre.countP (ze (z0 i)) = 0) (ht : TokOk τ k' pre) (hk : k ≤ k') (hL : pre.length + L ≤ L') (hP : ∀ i : Nat, P i = decide (1 < u i)) (hall : ∀ i, i < rows.length → P i = true → i ∈ fs.map (·.1))
  (hn : pre.countP (ze zj) + (if fv then 0 else u (-1)) = if fv' then 0 else min 1 (u (-1))) : Fin rows u fv' L' P fs τ k' (pre ++ l) where
 funs := by rw [List.filterMap_append, List.filterMap_eq_nil_iff.mpr fun d hd => (hp d hd).1, h.funs]; rfl
 fok p hpm := by
  refine hid fun hG => ?_
  obtain ⟨a, b, r, x, t, as, c, d, e⟩ := h.fok p hpm
  refine hG ?_
  exact ⟨a, b, r, x, t, as, c, d, by simp [e]⟩
 nd := h.nd
 all := hall
 pr := hP
 row i hi := by
  rw [List.countP_append, hr i hi, h.row i hi, Nat.zero_add]
  cases hpi : P i with
  | true =>
   have := hall i hi hpi
   rw [hP] at hpi
   have : 1 < u i := by simpa using hpi
   rw [if_pos rfl, if_pos (hall i hi (by rw [hP]; exact hpi)), if_pos (by exact lin1 [_] 1 (.a U0 U1) V0 1 (.a U1 U1) V0 tt this)]
  | false =>
   rw [hP] at hpi
   have : ¬ 1 < u i := by simpa using hpi
   rw [if_neg (by decide)]
   split <;> omega
 non := by rw [List.countP_append, h.non]; exact hn
 app i hi hpi := by
  rw [List.countP_append, h.app i hi hpi]
  have : pre.countP (appIs (zF P i)) = 0 := by
   rw [List.countP_eq_zero]; intro d hd; simp [appIs, (hp d hd).2]
  exact Nat.le_antisymm (lin1 [_,_] 0 (.a V0 V1) V1 1 V0 U0 tt (el this)) (lin0 [_,_] 0 V0 (.a V1 V0) tt)
 apps d hd f k e := by
  rcases List.mem_append.mp hd with z | z
  ·rw [(hp d z).2] at e; cases e
  ·exact h.apps d z f k e
 len := by have := h.len; rw [List.length_append]; exact lin2 [_,_,_,_] 0 (.a V0 V1) V2 1 (.a V0 V3) V2 1 V1 V3 tt hL this
 tok := ht.app (h.tok.mono .refl hk)
theorem tQ {rows : List RowT} (hR : RowsOk rows) {kc ka kn : Nat} {cols : List Str} {K : List Nat} {N : Nat} {fail : D} {fv : Bool} (hL : LinesOk rows.length K cols (linesOf rows)) (hN : K.sum + rows.length < N)
  {T : Tree × Nat} (hT : z9 (zN rows) N cols (linesOf rows) 0 = T) (ht1 : T.2 < 10 ^ 6) (ht2 : T.1.dep < N + 1) (ht3 : T.1.size < 10 ^ 6) (ht4 : T.1.good (leafOf rows))
  (hf : (fv = true ∧ ∃ x, fail = varD x) ∨ (fv = false ∧ ∃ t, t ≠ 0 ∧ t ≤ st.nt ∧ fail = conE t zj [])) (h : Env kc ka kn (fun U => 0) st)
  (q : ∀ st' d l P fs τ k, Chg [kc, kn] st st' → (st'.sto[kc]? = some (.dS consK xX) ∨ st'.sto[kc]? = some (.fS consK xX)) → Nd [d] l → Fin rows (fun x => T.1.use x) fv (50 * T.1.size + 402) P fs τ k l → Q d st') :
  zD CQ (n + 3 * N + 60) (.val (.ref 1066)) [.list (cols.map .str), .list (rows.map RowT.d), fail, yt kc, ys ka kn] st Q := by
 have hrl := hR.len
 have hcl := hL.clen
 obtain ⟨tf, cf, lf, hfd, hfv, hfl⟩ : ∃ t c l, fail = .obj t c l ∧ uu fail = fv ∧ isLam fail = false := by
  rcases hf with ⟨e1, x, e⟩ | ⟨e1, t, ht, _, e⟩
  ·exact ⟨_, _, _, e, by rw [e, e1]; rfl, by rw [e]; rfl⟩
  ·exact ⟨_, _, _, e, by rw [e, e1]; rfl, by rw [e]; rfl⟩
 have hll : (linesOf rows).length = rows.length := by unfold linesOf; rw [List.length_map, List.length_zipIdx]
 have hfl2 : (zN rows).length = rows.length := by unfold zN; rw [List.length_map]
 refine zE ⟨rfl, ?_⟩
 conv => whnf
 rw [uv]
 refine zx (fun p : RowT × Nat => D.tup [.int (.ofNat p.2), p.1.d]) (fun p => (zk p.2 p.1.1).d) (fun y hy K K' k1 => k1) ?_
 rw [show (rows.zipIdx.map fun p => (zk p.2 p.1.1).d) = (linesOf rows).map Ln.d by unfold linesOf; rw [List.map_map]; rfl]
 refine zx RowT.d (fun r => D.bool r.2.2) (fun y hy K K' k1 => k1) ?_
 rw [show (rows.map fun r => D.bool r.2.2) = (zN rows).map D.bool by unfold zN; rw [List.map_map]; rfl]
 have hN3 : 3 * N + 20 ≤ n + 3 * N + 59 := by exact lin0 [_,_] 0 (.a (.m 3 V0) (.n 20)) (.a (.a V1 (.m 3 V0)) (.n 59)) tt
 refine oM (falls := zN rows) (by exact lin2 [_,_] 0 V0 U100 1 V1 U10 1 V0 V1 tt hrl (el hfl2)) N _ hN3 K cols (linesOf rows) (fun U => 0) st _ (by rw [hfl2]; exact hL) (by rw [hll]; exact hN) h (by rw [hT]; exact lin1 [_] 0 S0 (.n 1000000000) 1 S0 (.n 1000000) tt ht1) fun st₄ c₄ e₄ h₄ => ?_
 rw [hT] at h₄ ⊢
 refine zi fun st₅ ku c₅ e₅ hsu hlu => ?_
 have hcc := fun y => Tree.cnt_get y T.1 ([], []) rfl
 refine oN (N + 1) T.1 _ ht2 (by exact lin0 [_,_] 0 S0 (.a (.a V1 (.m 3 V0)) (.n 59)) tt) ku ([], []) st₅ _ rfl (Nat.le_trans (Nat.le_of_eq (Nat.zero_add _)) (Nat.le_trans (Nat.le_of_lt ht3) (by decide))) hsu fun st₆ c₆ e₆ hsu => ?_
 have hgt : ∀ y, (xc (T.1.cnt ([], [])).1 ((T.1.cnt ([], [])).2.map D.int) y).getD (.int 0) = .int (T.1.use y) := fun y => by rw [tw]; rw [show Ct.get ((T.1.cnt ([], [])).1, (T.1.cnt ([], [])).2) y = Ct.get (T.1.cnt ([], [])) y from rfl, (hcc y).2.1]; exact congrArg _ (congrArg _ (Nat.zero_add _))
 obtain ⟨ms, ws, ea, hm⟩ := h.avo
 obtain ⟨ms', ws', en, hm'⟩ := h.num
 have hkcl : kc < st.sto.length := h.cons.elim zM zM
 have hkal : ka < st.sto.length := zM ea
 have hknl : kn < st.sto.length := zM en
 have hku : st.sto.length ≤ ku := Nat.le_trans c₄.len hlu
 have cA : Chg [kc, kn] st st₆ := (c₄.trans (c₅.mono nofun)).fresh c₆ (by simpa using Or.inr hku)
 have h₆ := (h₄.keep0 c₅).keep c₆ (by simp; exact ⟨Nat.ne_of_lt (lin2 [_,_,_] 0 S0 V1 1 S0 V2 1 V2 V1 tt hkcl hku), Nat.ne_of_lt (lin2 [_,_,_] 0 S0 V1 1 S0 V2 1 V2 V1 tt hkal hku), Nat.ne_of_lt (lin2 [_,_,_] 0 S0 V1 1 S0 V2 1 V2 V1 tt hknl hku)⟩)
 have hnt : st.nt ≤ st₆.nt := cA.nt
 have l₆ := cA.len
 have hlu6 := zM hsu
 have hFB : CntB (Cnt.set (fun U => 0) zG T.2) (10 ^ 6) := fun x => by simp only [Cnt.set]; split <;> (first | exact lin1 [_] 0 V0 (.n 1000000) 1 S0 (.n 1000000) tt ht1 | exact lin0 [] 0 U0 (.n 1000000) tt)
 have hF0 : (Cnt.set (fun U => 0) zG T.2) uA = 0 := by unfold Cnt.set; rw [if_neg (by decide +kernel)]
 have hPd : ∀ i : Nat, (fun i : Nat => decide (1 < T.1.use i)) i = decide (1 < T.1.use i) := fun U => rfl
 have hct : ∀ i : Nat, Ct.get (T.1.cnt ([], [])) i = T.1.use i := fun i => by rw [(hcc i).2.1]; simp [Ct.get]
 refine zA hsu ?_
 refine zA hsu ?_
 conv => whnf
 rw [show (xc (T.1.cnt ([], [])).1 ((T.1.cnt ([], [])).2.map D.int) (-1)).getD (.int 0) = _ from hgt _]
 have hleft : (T.1.use (-1) < 2 ∨ fv = true) → (run (zD CQ (n + 3 * N + 59)) (.ret (.met (.app (.k (.val (.ref 1050))) (.cons (.v 1) (.cons (.v 2) (.cons (.v 3) (.cons (.v 4) (.cons (.v 7) .nil)))))) [(26, 1011)] none .no (.cons (.v 6) .nil)))).s [some (.list (cols.map .str)), some (.list (rows.map RowT.d)), some fail, some (yt kc), some (ys ka kn), some (.list ((linesOf rows).map Ln.d)), some T.1.d, some (.mref ku), none] st₆ (wO Q) := by
  intro hb
  refine q8 (n := n + 3 * N + 57) (ku := ku) ⟨_, _, hsu⟩ fun st₇ kl c₇ e₇ hl₇ hs₇ => ?_
  have hM := gq (kc := kc) (ka := ka) (kn := kn) (ku := ku) (kl := kl) (P := fun i : Nat => decide (1 < T.1.use i)) hR (hf.imp id fun ⟨a, t, b, c, d⟩ => ⟨a, t, b, d⟩)
  have hT6 : TokOk (fun U => zj) st₇.nt [fail] := by
   intro d hd s t e
   simp at hd; subst hd
   rcases hf with ⟨_, x, ef⟩ | ⟨_, t', _, ht', ef⟩
   ·rw [ef] at e; cases e
   ·rw [ef] at e; cases e; exact ⟨by exact lin3 [_,_,_,_] 0 V0 V1 1 V2 V3 1 V3 V1 1 V0 V2 tt hnt (er e₇) ht', rfl⟩
  rw [show n + 3 * N + 59 = (n + N + 17) + 2 * (N + 1) + 40 by exact Nat.le_antisymm (lin0 [_,_] 0 (.a (.a V0 (.m 3 V1)) (.n 59)) (.a (.a (.a (.a V0 V1) (.n 17)) (.m 2 S1)) (.n 40)) tt) (lin0 [_,_] 0 (.a (.a (.a (.a V0 V1) (.n 17)) (.m 2 S1)) (.n 40)) (.a (.a V0 (.m 3 V1)) (.n 59)) tt)]
  refine q7 hM rfl ht2 ht4 hct hPd (h₆.keep0 c₇) hFB (by exact lin1 [_] 0 (.a (.a (.a (.n 1000000) V0) (.n 40)) U1) (.n 10000000) 1 S0 (.n 1000000) tt ht3) hF0 (c₇.get hsu List.not_mem_nil) hs₇ (by dsimp only; exact ⟨Nat.ne_of_gt (lin2 [_,_,_] 0 S0 V1 1 S0 V2 1 V2 V1 tt hknl hku), Nat.ne_of_lt (lin2 [_,_,_] 0 S0 V1 1 S0 V2 1 V2 V1 tt hlu6 hl₇), Nat.ne_of_gt (lin3 [_,_,_,_] 0 S0 V1 1 S0 V2 1 V2 V3 1 V3 V1 tt hknl l₆ hl₇), Nat.ne_of_gt (lin3 [_,_,_,_] 0 S0 V1 1 S0 V2 1 V2 V3 1 V3 V1 tt hkcl l₆ hl₇), Nat.ne_of_gt (lin3 [_,_,_,_] 0 S0 V1 1 S0 V2 1 V2 V3 1 V3 V1 tt hkal l₆ hl₇)⟩) hT6 hfl fun st₈ d l fs σ c₈ hnd hw hall hil hx => ?_
  have hcz : ∀ o, st₇.sto[kc]? = some o → st₈.sto[kc]? = some o := fun o z => c₈.get z (by have e1 := h.ne2; simp; exact ⟨e1, Nat.ne_of_lt (lin3 [_,_,_,_] 0 S0 V1 1 S0 V2 1 V2 V3 1 V3 V1 tt hkcl l₆ hl₇)⟩)
  refine q st₈ d ([] ++ l) _ fs σ st₈.nt ((cA.trans (c₇.mono (by simp))).fresh c₈ (by simp; omega)) ((h₆.keep0 c₇).cons.imp (hcz _) (hcz _)) hnd (hw.fin [] (by simp) (by simp) (TokOk.no (by simp)) (Nat.le_refl _) (by simp) hPd hall ?_)
  simp only [List.countP_nil, Nat.zero_add]
  cases fv with
  | true => rfl
  | false => simp at hb ⊢; exact Nat.le_antisymm (lin1 [_,_] 0 V0 V1 1 V0 V1 tt (mn2 (lin1 [_] 0 V0 U1 1 S0 U2 tt hb))) (lin1 [_,_] 0 V0 V1 1 V0 V1 tt (Nat.min_le_right _ _))
 have hright : ¬ T.1.use (-1) < 2 → fv = false → (run (zD CQ (n + 3 * N + 59)) (ir_matched_by.dr 4)).s [some (.list (cols.map .str)), some (.list (rows.map RowT.d)), some fail, some (yt kc), some (ys ka kn), some (.list ((linesOf rows).map Ln.d)), some T.1.d, some (.mref ku), none] st₆ (wO Q) := by
  rintro hge rfl
  obtain ⟨tk, htk, htn, hft⟩ : ∃ t, t ≠ 0 ∧ t ≤ st.nt ∧ fail = conE t zj [] := by
   rcases hf with ⟨z, _⟩ | ⟨_, z⟩
   ·cases z
   ·exact z
  have hgB := hFB (Str.ofString "fail")
  have hfld : (Str.ofString "fail") ≠ uA := by decide +kernel
  refine xQ (b := Str.ofString "fail") (by decide +kernel) (by exact lin1 [_] 0 S0 (.n 1000000000) 1 V0 (.n 1000000) tt hgB) h₆ fun st₇ c₇ e₇ h₇ => ?_
  generalize z6 (Str.ofString "fail") ((Cnt.set (fun U => 0) zG T.2) (Str.ofString "fail") + 1) = nm
  have hsu := c₇.get hsu (ne1 (Nat.ne_of_gt (lin2 [_,_,_] 0 S0 V1 1 S0 V2 1 V2 V1 tt hknl hku)))
  refine q8 (n := n + 3 * N + 57) (ku := ku) (fail := varD nm) ⟨_, _, hsu⟩ fun st₉ kl c₉ e₉ hl₉ hs₉ => ?_
  have hM := gq (kc := kc) (ka := ka) (kn := kn) (ku := ku) (kl := kl) (P := fun i : Nat => decide (1 < T.1.use i)) (fail := varD nm) (fv := true) hR (.inl ⟨rfl, nm, rfl⟩)
  have l₇ := c₇.len
  rw [show n + 3 * N + 59 = (n + N + 17) + 2 * (N + 1) + 40 by exact Nat.le_antisymm (lin0 [_,_] 0 (.a (.a V0 (.m 3 V1)) (.n 59)) (.a (.a (.a (.a V0 V1) (.n 17)) (.m 2 S1)) (.n 40)) tt) (lin0 [_,_] 0 (.a (.a (.a (.a V0 V1) (.n 17)) (.m 2 S1)) (.n 40)) (.a (.a V0 (.m 3 V1)) (.n 59)) tt)]
  refine q7 hM rfl ht2 ht4 hct hPd (h₇.keep0 c₉) (B := 10 ^ 6 + 1) (fun x => by simp only [Cnt.set]; split <;> first | omega | (split <;> omega)) (by exact lin1 [_] 0 (.a (.a (.a (.n 1000001) V0) (.n 40)) U1) (.n 10000000) 1 S0 (.n 1000000) tt ht3) (by simp only [Cnt.set]; rw [if_neg (Ne.symm hfld), if_neg (by decide +kernel)]) (c₉.get hsu List.not_mem_nil) hs₉ (by dsimp only; exact ⟨Nat.ne_of_gt (lin2 [_,_,_] 0 S0 V1 1 S0 V2 1 V2 V1 tt hknl hku), Nat.ne_of_lt (lin3 [_,_,_,_] 0 S0 V1 1 S0 V2 1 V3 V1 1 V2 V3 tt hlu6 hl₉ l₇), Nat.ne_of_gt (lin4 [_,_,_,_,_] 0 S0 V1 1 S0 V2 1 V2 V3 1 V4 V1 1 V3 V4 tt hknl l₆ hl₉ l₇), Nat.ne_of_gt (lin4 [_,_,_,_,_] 0 S0 V1 1 S0 V2 1 V2 V3 1 V4 V1 1 V3 V4 tt hkcl l₆ hl₉ l₇), Nat.ne_of_gt (lin4 [_,_,_,_,_] 0 S0 V1 1 S0 V2 1 V2 V3 1 V4 V1 1 V3 V4 tt hkal l₆ hl₉ l₇)⟩) (TokOk.no (τ := fun U => zj) (by simp [xC])) rfl fun st₁₀ d l fs σ c₁₀ hnd hw hall hil hx => ?_
  have hfF : yA (yu nm fail d) = none := sD hfl
  have hcz : ∀ o, st₉.sto[kc]? = some o → st₁₀.sto[kc]? = some o := fun o z => c₁₀.get z (by have e1 := h.ne2; simp; exact ⟨e1, Nat.ne_of_lt (lin4 [_,_,_,_,_] 0 S0 V1 1 S0 V2 1 V2 V3 1 V4 V1 1 V3 V4 tt hkcl l₆ hl₉ l₇)⟩)
  refine q st₁₀ (yu nm fail d) ([yu nm fail d, fail] ++ l) (fun i : Nat => decide (1 < T.1.use i)) fs σ st₁₀.nt (((cA.trans (c₇.mono (by simp))).trans (c₉.mono (by simp))).fresh c₁₀ (by simp; omega)) ((h₇.keep0 c₉).cons.imp (hcz _) (hcz _)) ?_ ?_
  ·refine .one (.lt _ _ _) ?_
   rw [hft]
   exact .cons (ks := []) (.con _ _ _ htk) hnd
  ·have hc1 : ∀ s, ze s (yu nm (conE tk zj []) d) = false := fun U => rfl
   have hc2 : ∀ s, ze s (conE tk zj []) = (zj == s) := fun U => rfl
   refine hw.fin [yu nm fail d, fail] ?_ ?_ ?_ (Nat.le_refl _) (lin0 [_] 0 (.a U2 (.a (.m 50 V0) (.n 400))) (.a (.m 50 V0) (.n 402)) tt) hPd hall ?_
   ·intro d' hd'
    simp at hd'
    rcases hd' with rfl | rfl
    ·exact ⟨hfF, rfl⟩
    ·rw [hft]; exact ⟨rfl, rfl⟩
   ·intro i hi
    rw [hft]
    simp only [List.countP_cons, hc1, hc2, beq_eq_false_iff_ne.mpr (Ne.symm (zt i (by exact lin2 [_,_] 0 S0 U10 1 V1 U10 1 S0 V1 tt hrl hi)).1)]
    rfl
   ·intro d' hd' s t e
    simp at hd'
    rcases hd' with rfl | rfl
    ·cases e
    ·rw [hft] at e; cases e
     have := c₇.nt; have := c₉.nt; have := c₁₀.nt
     exact ⟨by exact lin5 [_,_,_,_,_,_] 0 V0 V1 1 V2 V3 1 V0 V2 1 V3 V4 1 V4 V5 1 V5 V1 tt hnt htn (er e₇) (er e₉) this, hx tk (by exact lin4 [_,_,_,_,_] 0 V0 V1 1 V2 V3 1 V0 V2 1 V3 V4 1 V4 V1 tt hnt htn (er e₇) (er e₉))⟩
   ·rw [hft]
    simp only [List.countP_cons, hc1, hc2, beq_self_eq_true, List.countP_nil]
    simp; exact Nat.le_antisymm (lin1 [_] 0 U1 V0 1 U1 V0 tt (mn1 (lin1 [_] 1 U1 V0 1 U2 V0 tt (Nat.le_of_not_lt hge)))) (lin1 [_] 0 V0 U1 1 V0 U1 tt (Nat.min_le_left _ _))
 refine yJ (fun hlt => ?_) fun hlt => ?_
 ·have hlt := of_decide_eq_true hlt
  exact hleft (.inl (by omega))
 ·have hlt := of_decide_eq_false hlt
  subst hfd
  conv => whnf
  rw [show isIn cf.addr [59] = _ from xu (t := tf) (l := lf), hfv]
  cases fv with
  | true => exact hleft (.inr rfl)
  | false => exact hright (by omega) rfl
end
noncomputable def mu (t : D × D) : D := .tup [t.1, t.2]
theorem oP {t : Tg} (g : D → D) {ρ : Rg} {c : Rg → MC Bool} {e : Rg → MC D} {st : St} {l : List D} {Q : List D → St → Prop}
  (step : ∀ x, x ∈ l → ∀ (K : D → St → Prop) (K' : St → Prop), K (g x) st → yV t x ρ fun ρ' => c ρ' st fun b st => br b (e ρ' st K) (K' st)) (q : Q (l.map g) st) : xV t ρ c e l st Q := by
 have := zx (t := t) (ρ := ρ) (c := c) (e := e) (Q := Q) (fun d : D => d) g step q
 rwa [List.map_id'] at this
theorem Nd.mem {a l : List D} (h : Nd a l) : ∀ x ∈ a, x ∈ l := by
 induction h with
 | nil => simp
 | cons hn h ih =>
  intro x hx
  rcases List.mem_cons.mp hx with rfl | z
  ·simp
  ·exact List.mem_cons_of_mem _ (ih x (by simp [z]))
noncomputable def uI (a : Addr) (d : D) (ks : List D) : Prop := ∀ (n : Nat) (st : St) (Q : D → St → Prop), (∀ (st' : St) (ts : List (D × D)), Chg [] st st' → ts.map (·.1) = ks → Q (.list (ts.map mu)) st') → zD CQ (n + 2) (.val (.ref a)) [d] st Q
theorem iX {n : Nat} (h : n ≤ 10 ^ 6) : 1 + n ≤ sizeLine := Nat.le_trans (Nat.add_le_add_left h 1) (by decide)
theorem iY {n : Nat} (h : n ≤ 10 ^ 6) : n + 1 ≤ sizeLine := Nat.le_trans (Nat.add_le_add_right h 1) (by decide)
section
variable {n : Nat} {st : St} {Q : D → St → Prop}
theorem nM {f : Str} {as : List D} (hl : as.length ≤ 10 ^ 6) : uI 131 (ur f as) (varD f :: as) := by
 intro n st Q q
 refine zE ⟨rfl, ?_⟩
 refine oP (fun d => mu (d, .tup [])) (fun x hx K K' k1 => k1) ?_
 refine And.intro (by rw [List.length_map]; exact iX hl) ?_
 have := q st ((varD f, .tup []) :: as.map fun a => (a, .tup [])) .refl (by rw [List.map_cons, List.map_map]; exact congrArg (_ :: ·) (List.map_id' as))
 rw [List.map_cons, List.map_map] at this
 exact this
theorem nN {t : Nat} {nm : Str} {as : List D} : uI 312 (conE t nm as) as := by
 intro n st Q q
 refine zE ⟨rfl, ?_⟩
 refine oP (fun d => mu (d, .tup [])) (fun x hx K K' k1 => k1) ?_
 have := q st (as.map fun a => (a, .tup [])) .refl (by rw [List.map_map]; exact List.map_id' as)
 rw [List.map_map] at this
 exact this
theorem pN {v w : Str} {alts : List AltT} {o : Option D} (ho : ∀ d, o = some d → ∃ t c l, d = .obj t c l) (hl : alts.length < 10 ^ 6) : uI 272 (sC v w alts o) (varD v :: (alts.map (·.2.2) ++ o.toList)) := by
 intro n st Q q
 refine zE ⟨rfl, ?_⟩
 refine zi fun st₁ k c₁ e₁ hs hk => ?_
 refine ⟨alts.length, ⟨congrArg (fun n : Nat => (n : Int)) (List.length_map ..), Nat.le_trans (Nat.le_of_lt hl) (by decide)⟩, ?_⟩
 refine yF (fun i : Nat => D.int (Int.ofNat i)) (fun done rest ρ st' => done ++ rest = List.range alts.length ∧ (∃ a, ρ = [some (sC v w alts o), some (.mref k), a]) ∧ Chg [k] st₁ st' ∧
  ∃ ts : List (D × D), ts.map (·.1) = varD v :: (alts.take done.length).map (·.2.2) ∧ st'.sto[k]? = some (.lst (ts.map mu))) ?_ ?_ (done := []) ⟨rfl, ⟨_, rfl⟩, .refl, [(varD v, .tup [])], rfl, hs⟩
 ·intro done y rest ρ st' K hz6 k1 k2
  refine hid fun hG => ?_
  obtain ⟨hd, ⟨a, rfl⟩, hc, ts, hts, hs⟩ := hz6
  obtain ⟨rfl, hy⟩ := yg hd
  refine hG ?_
  have hx : alts[done.length]? = some alts[done.length] := List.getElem?_eq_getElem hy
  have htk : alts.take (done.length + 1) = alts.take done.length ++ [alts[done.length]] := by rw [List.take_add_one, hx]; rfl
  generalize alts[done.length] = a at hx htk
  have hx' : (alts.map AltT.d)[done.length]? = some a.d := by rw [List.getElem?_map, hx]; rfl
  have htl : ts.length = (alts.take done.length).length + 1 := by have := congrArg List.length hts; simpa using this
  have htl2 : (alts.take done.length).length ≤ done.length := by rw [List.length_take]; exact Nat.min_le_left _ _
  refine zA hs ?_
  refine zA hx' ?_
  refine zA hs ?_
  refine And.intro (by rw [List.length_map]; exact Nat.lt_of_lt_of_le (show ts.length < 10 ^ 6 by exact lin4 [_,_,_,_] 0 S0 (.n 1000000) 1 S1 (.n 1000000) 1 S2 V1 1 V0 S3 1 V3 V2 tt hl hy (el htl) htl2) (by decide)) ?_
  refine zP hs fun st₂ c₂ e₂ hs₂ => k1 _ _ ⟨yI hd, ⟨_, rfl⟩, hc.trans c₂, ts ++ [(a.2.2, .tup [.int 0, .int (.ofNat done.length + 1)])], ?_, ?_⟩
  ·rw [List.map_append, hts, List.length_append, List.length_singleton, htk, List.map_append]; rfl
  ·rw [hs₂, List.map_append]; rfl
 ·intro done ρ st' hz3
  refine hid fun hG => ?_
  obtain ⟨hd, ⟨a, rfl⟩, hc, ts, hts, hs⟩ := hz3
  refine hG ?_
  rw [List.append_nil] at hd
  rw [show done.length = alts.length by rw [hd, List.length_range], List.take_length] at hts
  have cA : Chg [] st st' := c₁.fresh hc (y8 hk)
  cases o with
  | none =>
   refine zA hs ?_
   refine zP hs fun st₂ c₂ e₂ hs₂ => ?_
   exact q _ ts (cA.fresh c₂ (y8 hk)) (by rw [hts]; simp)
  | some d =>
   refine hid fun hG => ?_
   obtain ⟨t, c, l, rfl⟩ := ho d rfl
   refine hG ?_
   refine zA hs ?_
   refine zP hs fun st₂ c₂ e₂ hs₂ => ?_
   have htl : ts.length = alts.length + 1 := by have := congrArg List.length hts; simpa using this
   refine And.intro (by rw [List.length_map]; exact iY (by exact lin2 [_,_] 0 V0 (.n 1000000) 1 S1 (.n 1000000) 1 V0 S1 tt hl (el htl))) ?_
   have := q _ (ts ++ [(.obj t c l, .tup [.int 0])]) (cA.fresh c₂ (y8 hk)) (by rw [List.map_append, hts]; simp)
   rw [List.map_append] at this
   exact this
theorem pO {d : D} {ks : List D} (h : Node d ks) (hk : ∀ k ∈ ks, ∃ ks', Node k ks') (hl : ks.length ≤ 10 ^ 6) : ∃ t c l a, d = .obj t c l ∧ ve c [(0, 49), (1, 91), (2, 131), (3, 173), (4, 211), (6, 272), (7, 312)] = some a ∧ uI a d ks := by
 cases h with
 | var s => exact ⟨_, _, _, 49, rfl, rfl, fun n st Q q => zE ⟨rfl, q _ [] .refl rfl⟩⟩
 | con t nm as ht => exact ⟨_, _, _, 312, rfl, rfl, nN⟩
 | app f as => exact ⟨_, _, _, 131, rfl, rfl, nM (Nat.le_of_succ_le hl)⟩
 | lam ps b => exact ⟨_, _, _, 173, rfl, rfl, fun n st Q q => zE ⟨rfl, q _ [(b, _)] .refl rfl⟩⟩
 | lt x e b => exact ⟨_, _, _, 211, rfl, rfl, fun n st Q q => zE ⟨rfl, And.intro (Nat.le_of_ble_eq_true rfl) (q _ [(e, _), (b, _)] .refl rfl)⟩⟩
 | case v w alts o =>
  exact ⟨_, _, _, 272, rfl, rfl, pN (fun d e => by
   subst e
   obtain ⟨ks', hn⟩ := hk d (by simp)
   exact hn.obj) (by simp at hl; exact lin1 [_,_] 0 S0 (.n 1000000) 1 (.a V0 V1) (.n 999999) tt hl)⟩
theorem q9 {d : D} {l : List D} (hn : Nd [d] l) (hl : l.length ≤ 900000) (q : ∀ st', Chg [] st st' → Q (.list l) st') : zD CQ (n + 3) (.val (.ref 1080)) [d] st Q := by
 have hnode := hn.node
 refine zE ⟨rfl, ?_⟩
 refine zi fun st₁ kf c₁ e₁ hsf hlf => ?_
 refine zi fun st₂ kt c₂ e₂ hst hlt => ?_
 have l₁ := c₁.len
 have hne : kf ≠ kt := by have := zM hsf; exact Nat.ne_of_lt (lin2 [_,_,_] 0 S0 V1 1 V2 V1 1 S0 V2 tt hlt this)
 have hsf := c₂.get hsf List.not_mem_nil
 refine k8 (fun m ρ st' => E6 fun stack rest done a b c => A7 (Nd stack rest) (rest.length = m) (done ++ rest = l) (ρ = [some d, some (.mref kf), some (.mref kt), a, b, c]) (Chg [kf, kt] st₂ st') (st'.sto[kt]? = some (.lst stack.reverse)) (st'.sto[kf]? = some (.lst done))) ?_ l.length ⟨[d], l, [], _, _, _, hn, rfl, rfl, rfl, .refl, hst, hsf⟩
 intro m ρ st' K hz4 k1 k2
 refine hid fun hG => ?_
 obtain ⟨stack, rest, done, a, b, c, hnd, hm, hd, rfl, hc, hst, hsf⟩ := hz4
 refine hG ?_
 have hsl := hnd.len
 have hdl : done.length + rest.length = l.length := by rw [← hd]; simp
 refine zA hst ?_
 cases hnd with
 | nil =>
  refine zA hsf ?_
  refine zP hsf fun st₃ c₃ e₃ hs₃ => ?_
  rw [List.append_nil] at hd
  subst hd
  exact q _ (((c₁.trans c₂).fresh hc (by simp; exact ⟨lin1 [_,_] 0 V0 V1 1 V0 V1 tt hlf, lin2 [_,_,_] 0 V0 V1 1 V2 V1 1 V0 V2 tt hlt l₁⟩)).fresh c₃ (y8 hlf))
 | @cons x ks ds rest hx hnd =>
  have hne0 : (!((x :: ds).reverse).isEmpty) = true := by rw [List.isEmpty_reverse]; rfl
  have hgl : ((x :: ds).reverse).getLast? = some x := by simp
  have hdr : ((x :: ds).reverse).dropLast = ds.reverse := by simp
  have hrl := hnd.len
  have hkn : ∀ k ∈ ks, ∃ ks', Node k ks' := fun k hk => hnode k (by rw [← hd]; simp; exact .inr (.inr (hnd.mem k (by simp [hk]))))
  simp only [List.length_cons, List.length_append] at hsl hdl hrl hm
  refine hid fun hG => ?_
  obtain ⟨t, c, lx, a, rfl, hfc, hpa⟩ := pO hx hkn (by exact lin3 [_,_,_,_,_] 0 V0 (.n 1000000) 1 V1 (.n 900000) 1 (.a V2 S3) V1 1 (.a V0 V4) V3 tt hl (el hdl) hrl)
  refine hG ?_
  refine m8 hne0 ?_
  refine zA hst ?_
  refine zA hst ?_
  refine zA hgl ?_
  rw [hdr]
  refine zP hst fun st₃ c₃ e₃ hst => ?_
  have hsf := c₃.get hsf (ne1 hne)
  refine zA hsf ?_
  refine zA hsf ?_
  refine And.intro (Nat.lt_of_lt_of_le (show done.length < 10 ^ 6 by exact lin2 [_,_,_] 0 S0 (.n 1000000) 1 V1 (.n 900000) 1 (.a V0 S2) V1 tt hl (el hdl)) (by decide)) ?_
  refine zP hsf fun st₄ c₄ e₄ hsf => ?_
  have hst := c₄.get hst (by simpa using Ne.symm hne)
  conv => whnf
  rw [hfc]
  refine hpa n _ _ fun st₅ ts c₅ hts => ?_
  have hst := c₅.get hst List.not_mem_nil
  have hsf := c₅.get hsf List.not_mem_nil
  conv => whnf
  rw [← List.map_reverse]
  have htl : ts.length = ks.length := by rw [← hts, List.length_map]
  refine yF mu (fun dn rs ρ st' => dn ++ rs = ts.reverse ∧ (E3 fun x a b => ρ = [some d, some (.mref kf), some (.mref kt), x, a, b]) ∧ Chg [kt] st₅ st' ∧ st'.sto[kt]? = some (.lst (ds.reverse ++ dn.map (·.1)))) ?_ ?_ (done := []) ⟨rfl, ⟨_, _, _, rfl⟩, .refl, by simpa using hst⟩
  ·intro dn y rs ρ st₆ K' hz6 k1' k2'
   refine hid fun hG => ?_
   obtain ⟨hd', ⟨x, a, b, rfl⟩, hc₆, hst⟩ := hz6
   refine hG ?_
   have hdn : dn.length + 1 + rs.length = ts.length := by have := congrArg List.length hd'; simp at this; exact Nat.le_antisymm (lin1 [_,_,_] 0 (.a S0 V1) V2 1 (.a V0 S1) V2 tt (el this)) (lin1 [_,_,_] 0 V0 (.a S1 V2) 1 V0 (.a V1 S2) tt (er this))
   refine zA hst ?_
   refine zA hst ?_
   refine And.intro (by rw [List.length_append, List.length_reverse, List.length_map]; exact Nat.lt_of_lt_of_le (show ds.length + dn.length < 10 ^ 6 by exact lin5 [_,_,_,_,_,_,_,_] 0 (.a (.a V0 V1) U1) (.n 1000000) 1 V2 (.n 900000) 1 (.a V3 S4) V2 1 (.a V5 V0) V4 1 V6 V5 1 (.a S1 V7) V6 tt hl (el hdl) hrl (el htl) (el hdn)) (by decide)) ?_
   refine zP hst fun st₇ c₇ e₇ hst => k1' _ _ ⟨yI hd', ⟨_, _, _, rfl⟩, hc₆.trans c₇, by rw [hst]; simp⟩
  ·intro dn ρ st₆ hz3
   refine hid fun hG => ?_
   obtain ⟨hd', ⟨x', a, b, rfl⟩, hc₆, hst⟩ := hz3
   refine hG ?_
   rw [List.append_nil] at hd'
   refine k1 rest.length _ _ hm.symm ⟨ks ++ ds, rest, done ++ [_], _, _, _, hnd, rfl, by rw [← hd]; simp, rfl, ((((hc.trans (c₃.mono (by simp))).trans (c₄.mono (by simp))).trans (c₅.mono (by simp))).trans (hc₆.mono (by simp))), ?_, hc₆.get hsf (by simpa using hne)⟩
   rw [hst, hd', List.map_reverse, hts, List.reverse_append]
end
structure LnG (rows : List RowT) (l : Ln) : Prop where
 num : l.number < rows.length
 cov : l.lost = false → ∀ r, rows[l.number]? = some r → ∀ x ∈ rowVars r.1, x ∈ l.binds.map (·.1) ∨ x ∈ rowVars l.pats
 bnd : l.binds.length + (rowVars l.pats).length ≤ 12
theorem uw {x : Str} {ps : List Pat} {i : Nat} {p : Pat} (h : ps[i]? = some p) : x ∈ rowVars ps ↔ x ∈ rowVars (ps.take i) ∨ x ∈ p.vars ∨ x ∈ rowVars (ps.drop (i + 1)) := by
 conv => lhs; rw [ui h]
 rw [zK, zK, yO]; simp [or_assoc]
theorem pP {l : Ln} {i j : Nat} {c : Str} (h : j ≠ i) : (l.plain i c).pats[j]? = l.pats[j]? := by
 unfold Ln.plain
 split
 ·exact List.getElem?_set_ne (Ne.symm h)
 ·rfl
set_option tactic.hygienic true in
theorem LnG.plain {rows : List RowT} {l : Ln} {i : Nat} {c : Str} (h : LnG rows l) : LnG rows (l.plain i c) := by
 unfold Ln.plain
 split
 ·rename_i s e
  refine ⟨h.num, fun hl r hr x hx => ?_, ?_⟩
  ·dsimp only
   rcases h.cov hl r hr x hx with z | z
   ·exact .inl (by rw [List.map_append, List.mem_append]; exact .inl z)
   ·have e2 : (l.pats.set i .wild)[i]? = some .wild := List.getElem?_set_self (List.getElem?_eq_some_iff.mp e).1
    rw [uw e] at z
    rw [uw e2, List.take_set_of_le (Nat.le_refl _), List.drop_set_of_lt (Nat.lt_succ_self _)]
    rcases z with z | z | z
    ·exact .inr (.inl z)
    ·simp [Pat.vars] at z; subst z; exact .inl (by simp)
    ·exact .inr (.inr (.inr z))
  ·have h1 := h.bnd
   have h2 := xR e
   have h3 : (rowVars (l.pats.set i .wild)).length = (rowVars (l.pats.take i)).length + (rowVars (l.pats.drop (i + 1))).length := by
    rw [tv e, zK, zK, yO]; simp [Pat.vars]
   have h4 : (Pat.var s).vars.length = 1 := rfl
   simp only [List.length_append, List.length_cons, List.length_nil]
   exact lin4 [_,_,_,_,_,_] 0 (.a S0 V1) (.n 12) 1 (.a V0 V2) (.n 12) 1 (.a (.a V3 V4) V5) V2 1 V1 (.a V3 V5) 1 U1 V4 tt h1 (er h2) (el h3) (er h4)
 ·exact h
theorem LnG.put {rows : List RowT} {l : Ln} {i : Nat} {ps : List Pat} {p : Pat} (h : LnG rows l) (he : l.pats[i]? = some p) (hv : rowVars ps = p.vars) : LnG rows (l.put i ps) := by
 refine ⟨h.num, fun hl r hr x hx => ?_, ?_⟩
 ·refine (h.cov hl r hr x hx).imp id fun z => ?_
  rw [uw he] at z
  unfold Ln.put
  dsimp only
  rw [zK, zK, hv]; simp [or_assoc]; exact z
 ·have h1 := h.bnd
  have h2 := xR he
  unfold Ln.put
  dsimp only
  rw [zK, zK, hv]; simp; exact lin2 [_,_,_,_,_] 0 (.a V0 (.a V1 (.a V2 V3))) (.n 12) 1 (.a V0 V4) (.n 12) 1 (.a (.a V1 V2) V3) V4 tt h1 (er h2)
theorem LnG.losing {rows : List RowT} {l : Ln} {i m : Nat} (h : LnG rows l) : ∀ l' ∈ l.losing i m, LnG rows l' := by
 intro l' hl
 unfold Ln.losing at hl
 split at hl
 ·simp at hl
 ·simp at hl
  subst hl
  refine ⟨h.num, (fun hl => by cases hl), ?_⟩
  have h1 := h.bnd
  have h2 : (rowVars (l.pats.take i)).length ≤ (rowVars l.pats).length := by
   conv => rhs; rw [← List.take_append_drop i l.pats, zK, List.length_append]
   exact lin0 [_,_] 0 V0 (.a V0 V1) tt
  rw [zK, yZ]
  simp; exact lin2 [_,_,_] 0 V0 (.n 12) 1 (.a V1 V2) (.n 12) 1 V0 V2 tt h1 h2
set_option tactic.hygienic true in
theorem LnG.kept {rows : List RowT} {l : Ln} {i : Nat} {k : Key} {p : Pat} (h : LnG rows l) (hp : l.pats[i]? = some p) (hv : ∀ s, p ≠ .var s) : ∀ l' ∈ l.kept k i, LnG rows l' := by
 intro l' hl
 unfold Ln.kept Ln.key at hl
 rw [hp] at hl
 simp only [Option.bind_some, Option.elim_some] at hl
 split at hl
 ·rename_i e
  simp at hl; subst hl
  refine h.put hp ?_
  rw [yZ]
  cases p <;> first | rfl | exact absurd rfl (hv _) | (cases e; done)
 ·rename_i k' e
  split at hl
  ·simp at hl; subst hl
   refine h.put hp ?_
   cases p with
   | wild => cases e
   | var s => cases e
   | lit j => rfl
   | A => rfl
   | B p => simp [Pat.args, rowVars, Pat.vars]
  ·exact h.losing l' hl
set_option tactic.hygienic true in
theorem LnG.others {rows : List RowT} {l : Ln} {i : Nat} {p : Pat} (h : LnG rows l) (hp : l.pats[i]? = some p) (hv : ∀ s, p ≠ .var s) : ∀ l' ∈ l.others i, LnG rows l' := by
 intro l' hl
 unfold Ln.others Ln.key at hl
 rw [hp] at hl
 simp only [Option.bind_some] at hl
 split at hl
 ·rename_i e
  simp at hl; subst hl
  refine h.put hp ?_
  cases p <;> first | rfl | exact absurd rfl (hv _) | (cases e; done)
 ·exact h.losing l' hl
set_option tactic.hygienic true in
theorem w8 {F : Nat} {K : List Nat} {rows : List RowT} : ∀ (cols : List Str) (i : Nat) (l : Ln), LnOk F K l → LnG rows l → i + cols.length = K.length → (∀ j, j < i → l.pats[j]? = some .wild) →
  LnOk F K (scan cols i l).1 ∧ LnG rows (scan cols i l).1 ∧ (scan cols i l).1.number = l.number ∧ (scan cols i l).1.lost = l.lost ∧
  (match (scan cols i l).2 with
   | none => ∀ j, j < K.length → (scan cols i l).1.pats[j]? = some .wild
   | some j => j < K.length ∧ ∃ k, (scan cols i l).1.key j = some k)
 | [], i, l, h1, h2, h3, h4 => ⟨h1, h2, rfl, rfl, by simp [scan]; intro j hj; exact h4 j (by simp at h3; exact lin2 [_,_,_] 0 S0 V1 1 V2 V1 1 S0 V2 tt (er h3) hj)⟩
 | c :: cs, i, l, h1, h2, h3, h4 => by
  rw [scan]
  simp at h3
  have g1 := h1.plain (i := i) (c := c)
  have g2 := h2.plain (i := i) (c := c)
  split
  ·rename_i hw
   obtain ⟨a, b, c', d, e⟩ := w8 cs (i + 1) (l.plain i c) g1 g2 (by exact Nat.le_antisymm (lin1 [_,_,_] 0 (.a S0 V1) V2 1 (.a V0 S1) V2 tt (el h3)) (lin1 [_,_,_] 0 V0 (.a S1 V2) 1 V0 (.a V1 S2) tt (er h3))) (fun j hj => by
    by_cases e : j = i
    ·subst e; exact hw
    ·rw [pP e]; exact h4 j (by omega))
   exact ⟨a, b, c'.trans v7, d.trans w4, e⟩
  ·rename_i hw
   refine ⟨g1, g2, v7, w4, ?_⟩
   dsimp only
   refine ⟨by exact lin1 [_,_,_] 0 S0 V1 1 (.a V0 S2) V1 tt (el h3), ?_⟩
   obtain ⟨p, hp⟩ := g1.at (i := i) (by exact lin1 [_,_,_] 0 S0 V1 1 (.a V0 S2) V1 tt (el h3))
   unfold Ln.key
   rw [hp] at hw ⊢
   cases p with
   | wild => exact absurd rfl hw
   | var s => exact absurd hp xB
   | lit j => exact ⟨_, rfl⟩
   | A => exact ⟨_, rfl⟩
   | B p => exact ⟨_, rfl⟩
theorem km {ps : List Pat} (h : ∀ j, j < ps.length → ps[j]? = some .wild) : rowVars ps = [] := by
 unfold rowVars
 rw [List.flatMap_eq_nil_iff]
 intro p hp
 obtain ⟨j, hj, e⟩ := List.mem_iff_getElem.mp hp
 have := h j hj
 rw [List.getElem?_eq_getElem hj, e] at this
 cases this; rfl
structure TrOk (rows : List RowT) (D V : Nat) (c : Nat) (T : Tree × Nat) : Prop where
 good : T.1.good (leafOf rows)
 dep : T.1.dep ≤ D
 size : T.1.size + 1 ≤ V
 cnt : T.2 + 1 ≤ c + V
theorem wG : ∀ (m c : Nat), (zo c m).length = m
 | 0, _ => rfl
 | m + 1, c => by rw [zo, List.length_cons, wG m]
theorem sE {rows : List RowT} {D V : Nat} {tr : List Str → List Ln → Nat → Tree × Nat} {i : Nat} {cols : List Str} {ls : List Ln} : ∀ (ks : List Key) (c : Nat), (∀ k ∈ ks, ∀ fs c, fs.length = k.many → TrOk rows D V c (tr (cols.take i ++ fs ++ cols.drop (i + 1)) (ls.flatMap (Ln.kept k i)) c)) →
  (zQ tr i cols ls ks c).1.good (leafOf rows) ∧ (zQ tr i cols ls ks c).1.dep ≤ D ∧ (zQ tr i cols ls ks c).1.size + ks.length ≤ ks.length * V ∧ (zQ tr i cols ls ks c).2 ≤ c + ks.length * V
 | [], c, h => by simp [zQ, Brs.good, Brs.dep, Brs.size]
 | k :: ks, c, h => by
  rw [zQ]
  have h0 := h k (.head _) (zo c k.many) (c + k.many) (wG _ _)
  have hm : k.many ≤ 1 := by cases k <;> simp [Key.many]
  refine hid fun hG => ?_
  obtain ⟨a1, a2, a3, a4⟩ := sE ks (tr (cols.take i ++ zo c k.many ++ cols.drop (i + 1)) (ls.flatMap (Ln.kept k i)) (c + k.many)).2 (fun k' hk' => h k' (by simp [hk']))
  refine hG ?_
  dsimp only
  rw [Brs.good, Brs.dep, Brs.size]
  have g1 := h0.size
  have g2 := h0.cnt
  refine ⟨⟨by rw [wG]; exact lin1 [_] 0 V0 U100 1 V0 U1 tt hm, h0.good, a1⟩, Nat.max_le.mpr ⟨h0.dep, a2⟩, ?_, ?_⟩
  ·rw [List.length_cons, Nat.succ_mul]; exact lin2 [_,_,_,_,_] 0 (.a (.a V0 V1) S2) (.a V3 V4) 1 (.a V1 V2) V3 1 S0 V4 tt a3 g1
  ·rw [List.length_cons, Nat.succ_mul]; exact lin3 [_,_,_,_,_,_] 0 V0 (.a V1 (.a V2 V3)) 1 V4 U1 1 V0 (.a V5 V2) 1 S5 (.a (.a V1 V4) V3) tt hm a4 g2
theorem TrOk.mono {rows : List RowT} {D D' V V' c : Nat} {T : Tree × Nat} (h : TrOk rows D V c T) (hD : D ≤ D') (hV : V ≤ V') : TrOk rows D' V' c T := ⟨h.good, Nat.le_trans h.dep hD, Nat.le_trans h.size hV, Nat.le_trans h.cnt (by exact lin1 [_,_,_] 0 (.a V0 V1) (.a V0 V2) 1 V1 V2 tt hV)⟩
theorem mv {F i kk : Nat} {K : List Nat} {ls : List Ln} (h : ∀ l ∈ ls, LnOk F K l) (hk : K[i]? = some kk) : (zJ i ls).length ≤ 2 := by
 have hn : (zJ i ls).Nodup := uo (by simp)
 have hm : ∀ k ∈ zJ i ls, 1 ≤ kk ∧ kk ≤ 2 ∧ (kk = 2 → k = .A ∨ k = .B) ∧ (kk = 1 → k = .lit 0 ∨ k = .lit 1) := by
  intro k hkm
  refine hid fun hG => ?_
  obtain ⟨l, hl, e⟩ := keysOf_mem.mp hkm
  have hi : i < K.length := (List.getElem?_eq_some_iff.mp hk).1
  obtain ⟨p, hp⟩ := (h l hl).at hi
  refine hG ?_
  have hpk : p.key = some k := by unfold Ln.key at e; rw [hp] at e; exact e
  have := wy ((h l hl).fit.at hk hp) hpk
  exact ⟨this.1, this.2.1, this.2.2.2.2.1, this.2.2.2.2.2⟩
 cases e : zJ i ls with
 | nil => simp
 | cons k0 r =>
  rw [e] at hn hm
  rw [← e]
  have h0 := hm k0 (.head _)
  have : kk = 1 ∨ kk = 2 := by omega
  rw [e]
  rcases this with z | z
  ·have := hn.length_le_of_subset (l₂ := [Key.lit 0, Key.lit 1]) (fun k hk => by simpa using (hm k hk).2.2.2 z)
   simpa using this
  ·have := hn.length_le_of_subset (l₂ := [Key.A, Key.B]) (fun k hk => by simpa using (hm k hk).2.2.1 z)
   simpa using this
theorem nO {rows : List RowT} {j : Nat} {r : RowT} (h : rows[j]? = some r) : ((zN rows)[j]?).getD false = r.2.2 := by
 unfold zN; rw [List.getElem?_map, h]; rfl
theorem nQ {rows : List RowT} {F : Nat} {K : List Nat} {l : Ln} (h1 : LnOk F K l) (h2 : LnG rows l) (hw : ∀ j, j < K.length → l.pats[j]? = some .wild) (hl : l.lost = false) : leafOf rows l.number l.binds (((zN rows)[l.number]?).getD false) := by
 have hn := h2.num
 have hr : rows[l.number]? = some rows[l.number] := List.getElem?_eq_getElem hn
 have hv := km (ps := l.pats) (by rw [h1.fit.len]; exact hw)
 refine ⟨_, hr, fun x hx => ?_, by have := h2.bnd; exact lin1 [_,_] 0 V0 (.n 12) 1 (.a V0 V1) (.n 12) tt this, nO hr⟩
 rcases h2.cov hl _ hr x hx with z | z
 ·exact z
 ·rw [hv] at z; simp at z
theorem w9 {rows : List RowT} {F : Nat} : ∀ (N : Nat) (K : List Nat) (cols : List Str) (lines : List Ln) (c : Nat), K.length = cols.length → (∀ l ∈ lines, LnOk F K l ∧ LnG rows l) → K.sum + lines.length < N →
  TrOk rows N (3 ^ K.sum * (lines.length + 2)) c (z9 (zN rows) N cols lines c)
 | 0, K, cols, lines, c, _, _, h => by exact no1 (lin1 [_,_] 0 U1 U0 1 (.a (.a V0 V1) U1) U0 tt h)
 | N + 1, K, cols, lines, c, hK, hl, hN => by
  have hpos : 1 ≤ 3 ^ K.sum := Nat.one_le_pow _ _ (by exact lin0 [] 0 (.a U0 U1) (.n 3) tt)
  cases lines with
  | nil =>
   rw [vZ]
   refine ⟨by rw [Tree.good]; trivial, by rw [Tree.dep]; exact lin0 [_] 0 U0 S0 tt, ?_, ?_⟩
   ·rw [Tree.size]; simp; exact lin1 [_] 0 U2 (.w V0 2) 2 U1 V0 tt hpos
   ·simp; exact lin1 [_] 0 U1 (.w V0 2) 1 U1 V0 tt hpos
  | cons l ls =>
   have hW : 3 ^ K.sum * ((l :: ls).length + 2) = 3 ^ K.sum * (ls.length + 2) + 3 ^ K.sum := by rw [List.length_cons, show ls.length + 1 + 2 = (ls.length + 2) + 1 by exact Nat.le_antisymm (lin0 [_] 0 (.a S0 U2) (.a (.a V0 U2) U1) tt) (lin0 [_] 0 (.a (.a V0 U2) U1) (.a S0 U2) tt), Nat.mul_succ]
   refine hid fun hG => ?_
   obtain ⟨f1, f2, f3, f4, f5⟩ := w8 cols 0 l (hl l (.head _)).1 (hl l (.head _)).2 (by exact Nat.le_antisymm (lin1 [_,_] 0 (.a U0 V0) V1 1 V0 V1 tt (er hK)) (lin1 [_,_] 0 V0 (.a U0 V1) 1 V0 V1 tt (el hK))) (fun j hj => by exact no1 (lin1 [_] 0 U1 U0 1 S0 U0 tt hj))
   refine hG ?_
   rw [List.length_cons] at hN
   have tail := w9 N K cols ls c hK (fun l' h' => hl l' (by simp [h'])) (by exact lin1 [_,_,_] 0 (.a (.a V0 V1) U1) V2 1 (.a (.a V0 S1) U1) S2 tt hN)
   have t1 := tail.good
   have t2 := tail.dep
   have t3 := tail.size
   have t4 := tail.cnt
   cases hs : scan cols 0 l with
   | mk f o =>
    rw [hs] at f1 f2 f3 f4 f5
    dsimp only at f1 f2 f3 f4 f5
    cases o with
    | none =>
     dsimp only at f5
     rw [xP hs]
     unfold qR
     by_cases hlost : f.lost = true
     ·rw [if_pos hlost]
      exact tail.mono (by exact lin0 [_] 0 V0 S0 tt) (by exact lin1 [_,_,_] 0 V0 V1 1 (.a V0 V2) V1 tt (er hW))
     ·have hlost : f.lost = false := by simpa using hlost
      have lo := nQ f1 f2 f5 hlost
      rw [if_neg (by simp [hlost])]
      by_cases hf : ((zN rows)[f.number]?).getD false = true
      ·rw [if_pos hf]
       rw [hf] at lo
       refine ⟨by rw [Tree.good]; exact ⟨lo, t1⟩, ?_, ?_, ?_⟩
       ·rw [Tree.dep, OTree.dep]; exact lin1 [_,_] 0 S0 S1 1 V0 V1 tt t2
       ·rw [Tree.size, OTree.size]; exact lin3 [_,_,_,_] 0 (.a S0 U1) V1 1 U1 V2 1 (.a V3 V2) V1 1 S0 V3 tt hpos (er hW) t3
       ·dsimp only; exact lin2 [_,_,_,_,_] 0 S0 (.a V1 V2) 1 (.a V3 V4) V2 1 S0 (.a V1 V3) tt (er hW) t4
      ·rw [if_neg hf]
       have hf : ((zN rows)[f.number]?).getD false = false := by simpa using hf
       rw [hf] at lo
       refine ⟨by rw [Tree.good]; exact lo, ?_, ?_, ?_⟩
       ·rw [Tree.dep, OTree.dep]; exact lin0 [_] 0 U1 S0 tt
       ·rw [Tree.size, OTree.size]; have : 3 ^ K.sum * (ls.length + 2) ≥ 1 * (ls.length + 2) := Nat.mul_le_mul_right _ hpos; exact lin3 [_,_,_,_] 2 U2 V0 2 U1 V1 2 (.a V2 V1) V0 2 (.m 1 (.a V3 U2)) V2 tt hpos (er hW) this
       ·dsimp only; have : 3 ^ K.sum * (ls.length + 2) ≥ 1 * (ls.length + 2) := Nat.mul_le_mul_right _ hpos; exact lin3 [_,_,_,_,_] 2 S0 (.a V0 V1) 1 U1 V2 1 (.a V3 V2) V1 1 (.m 1 (.a V4 U2)) V3 tt hpos (er hW) this
    | some i =>
     dsimp only at f5
     obtain ⟨hi, k0, hk0⟩ := f5
     rw [xO hs]
     unfold xW
     dsimp only
     generalize (cols[i]?).getD default = x
     obtain ⟨pl, hpl⟩ : ∃ pl, pl = (f :: ls).map fun l => l.plain i x := ⟨_, rfl⟩
     rw [← hpl]
     have hplo : ∀ l' ∈ pl, LnOk F K l' ∧ LnG rows l' ∧ ∀ s, l'.pats[i]? ≠ some (.var s) := by
      intro l' h'
      rw [hpl] at h'
      obtain ⟨l₀, hl₀, rfl⟩ := List.mem_map.mp h'
      have : LnOk F K l₀ ∧ LnG rows l₀ := by
       rcases List.mem_cons.mp hl₀ with rfl | z
       ·exact ⟨f1, f2⟩
       ·exact hl l₀ (by simp [z])
      exact ⟨this.1.plain, this.2.plain, fun s => xB⟩
     have hpll : pl.length = ls.length + 1 := by rw [hpl, List.length_map, List.length_cons]
     have hk0m : k0 ∈ zJ i pl := keysOf_mem.mpr ⟨f.plain i x, by rw [hpl]; simp, by rw [w6 hk0]; exact hk0⟩
     have hKi : K[i]? = some K[i] := List.getElem?_eq_getElem hi
     have h2k := mv (fun l' h' => (hplo l' h').1) hKi
     have h1k : 1 ≤ K[i] := by
      obtain ⟨p, hp⟩ := f1.at hi
      have hpk : p.key = some k0 := by unfold Ln.key at hk0; rw [hp] at hk0; exact hk0
      exact (wy (f1.fit.at hKi hp) hpk).1
     have hS : 1 ≤ K.sum := by have := rC hKi; exact lin2 [_,_,_,_] 0 U1 V0 1 U1 V1 1 (.a (.a V2 V1) V3) V0 tt h1k (er this)
     generalize hV : 3 ^ (K.sum - 1) * (ls.length + 1 + 2) = V
     have hW3 : 3 ^ K.sum * ((l :: ls).length + 2) = V * 3 := by
      rw [← hV, List.length_cons]
      conv => lhs; rw [show K.sum = (K.sum - 1) + 1 by exact Nat.le_antisymm (lin1 [_,_] 0 V0 S1 1 V0 S1 tt sb1) (lin1 [_,_] 0 S0 V1 1 S0 V1 tt (sb3 (lin1 [_] 0 U1 V0 1 U1 V0 tt hS))), Nat.pow_succ, Nat.mul_right_comm]
     have hVp : 3 ≤ V := by
      have : 1 ≤ 3 ^ (K.sum - 1) := Nat.one_le_pow _ _ (by exact lin0 [] 0 (.a U0 U1) (.n 3) tt)
      have := Nat.mul_le_mul this (show 3 ≤ ls.length + 1 + 2 by exact lin0 [_] 0 (.n 3) (.a S0 U2) tt)
      exact lin2 [_,_] 0 (.n 3) V0 1 V1 V0 1 (.n 3) V1 tt (el hV) this
     have low : ∀ (K' : List Nat) (cols' : List Str) (ls' : List Ln) (c' : Nat), K'.length = cols'.length → (∀ l ∈ ls', LnOk F K' l ∧ LnG rows l) → K'.sum + 1 ≤ K.sum → ls'.length ≤ ls.length + 1 → TrOk rows N V c' (z9 (zN rows) N cols' ls' c') := by
      intro K' cols' ls' c' e1 e2 e3 e4
      refine (w9 N K' cols' ls' c' e1 e2 (by exact lin3 [_,_,_,_,_] 0 (.a (.a V0 V1) U1) V2 1 (.a (.a V3 S4) U1) S2 1 S0 V3 1 V1 S4 tt hN e3 e4)).mono (Nat.le_refl _) ?_
      rw [← hV]
      exact Nat.mul_le_mul (Nat.pow_le_pow_right (by exact lin0 [] 0 (.a U0 U1) (.n 3) tt) (by exact lin2 [_,_,_] 0 V0 V1 1 S0 V2 1 V2 S1 tt e3 sb1)) (by exact lin1 [_,_] 0 (.a V0 U2) (.a S1 U2) 1 V0 S1 tt e4)
     have hb := sE (rows := rows) (D := N) (V := V) (tr := z9 (zN rows) N) (i := i) (cols := cols) (ls := pl) (zJ i pl) c (by
      intro k hk fs c' hfs
      have hsub := uk (k := k) hi
      refine low (tO i k K) _ _ c' (by rw [hsub]; simp; exact Nat.le_antisymm (lin5 [_,_,_,_,_,_,_,_] 0 (.a V0 V1) (.a V2 (.a V3 V4)) 1 V5 V6 1 V1 V3 1 V6 (.a V4 S7) 1 S0 V5 1 V7 V2 tt (el hK) (er hfs) sb1 (sb3 (lin1 [_,_] 0 U1 V0 1 S1 V0 tt hi)) (mn1 (lin2 [_,_,_] 0 V0 V1 1 V2 V1 1 S0 V2 tt (el hK) hi))) (lin5 [_,_,_,_,_,_,_,_] 0 (.a V0 (.a V1 V2)) (.a V3 V4) 1 V5 V6 1 V1 V4 1 V6 S3 1 V0 V7 1 (.a V2 S7) V5 tt (er hK) (el hfs) sb1 (Nat.min_le_left _ _) (sb3 (lin2 [_,_,_] 0 S0 V1 1 V2 V1 1 S0 V2 tt (el hK) hi)))) (fun l' h' => ?_) (uj hKi h1k) (by have := yP (g := Ln.kept k i) (fun l => wz) pl; exact lin2 [_,_,_] 0 V0 S1 1 V2 S1 1 V0 V2 tt (el hpll) this)
      refine hid fun hG => ?_
      obtain ⟨l₀, hl₀, h'⟩ := List.mem_flatMap.mp h'
      obtain ⟨o1, o2, o3⟩ := hplo l₀ hl₀
      obtain ⟨p, hp⟩ := o1.at hi
      refine hG ?_
      exact ⟨o1.kept hi l' h', o2.kept hp (fun s e => o3 s (by rw [hp, e])) l' h'⟩)
     refine hid fun hG => ?_
     obtain ⟨b1, b2, b3, b4⟩ := hb
     refine hG ?_
     have hkV : (zJ i pl).length * V ≤ 2 * V := Nat.mul_le_mul_right _ h2k
     have hkp : 1 ≤ (zJ i pl).length := List.length_pos_of_mem hk0m
     rw [hW3]
     split
     ·refine ⟨by rw [Tree.good]; exact b1, ?_, ?_, ?_⟩
      ·rw [Tree.dep, OTree.dep]; have := Nat.max_le.mpr ⟨b2, Nat.zero_le N⟩; exact lin1 [_,_] 0 S0 S1 1 V0 V1 tt this
      ·rw [Tree.size, OTree.size]; exact lin3 [_,_,_,_] 2 (.a (.a (.a V0 U0) U1) U1) (.w V1 3) 2 (.n 3) V1 3 (.a V0 V2) V3 3 V3 (.m 2 V1) tt hVp b3 hkV
      ·dsimp only; exact lin3 [_,_,_,_] 2 S0 (.a V1 (.w V2 3)) 1 (.n 3) V2 3 V0 (.a V1 V3) 3 V3 (.m 2 V2) tt hVp b4 hkV
     ·have ho := low (K.take i ++ K.drop (i + 1)) (cols.take i ++ cols.drop (i + 1)) (pl.flatMap (Ln.others i)) (zQ (z9 (zN rows) N) i cols pl (zJ i pl) c).2 (by simp; exact Nat.le_antisymm (lin5 [_,_,_,_,_,_,_] 0 (.a V0 V1) (.a V2 V3) 1 V4 V5 1 V0 V6 1 V5 (.a V3 S6) 1 (.a V1 S6) V4 1 V6 V2 tt (el hK) (Nat.min_le_left _ _) sb1 (sb3 (lin1 [_,_] 0 S0 V1 1 S0 V1 tt hi)) (mn1 (lin2 [_,_,_] 0 V0 V1 1 V2 V1 1 S0 V2 tt (el hK) hi))) (lin5 [_,_,_,_,_,_,_] 0 (.a V0 V1) (.a V2 V3) 1 V4 V5 1 V5 (.a V3 S6) 1 V0 V6 1 V6 V2 1 (.a V1 S6) V4 tt (er hK) sb1 (Nat.min_le_left _ _) (mn1 (lin1 [_,_] 0 V0 V1 1 S0 V1 tt hi)) (sb3 (lin2 [_,_,_] 0 S0 V1 1 V2 V1 1 S0 V2 tt (el hK) hi)))) (fun l' h' => by
       refine hid fun hG => ?_
       obtain ⟨l₀, hl₀, h'⟩ := List.mem_flatMap.mp h'
       obtain ⟨o1, o2, o3⟩ := hplo l₀ hl₀
       obtain ⟨p, hp⟩ := o1.at hi
       refine hG ?_
       exact ⟨o1.others hi l' h', o2.others hp (fun s e => o3 s (by rw [hp, e])) l' h'⟩) (by rw [List.sum_append]; have := rC hKi; exact lin2 [_,_,_,_] 0 (.a (.a V0 V1) U1) V2 1 U1 V3 1 (.a (.a V0 V3) V1) V2 tt h1k (er this)) (by have := yP (g := Ln.others i) (fun l => w5) pl; exact lin2 [_,_,_] 0 V0 S1 1 V2 S1 1 V0 V2 tt (el hpll) this)
      have o1 := ho.good
      have o2 := ho.dep
      have o3 := ho.size
      have o4 := ho.cnt
      refine ⟨by rw [Tree.good]; exact ⟨b1, o1⟩, ?_, ?_, ?_⟩
      ·rw [Tree.dep, OTree.dep]; have := Nat.max_le.mpr ⟨b2, o2⟩; exact lin1 [_,_] 0 S0 S1 1 V0 V1 tt this
      ·rw [Tree.size, OTree.size]; exact lin4 [_,_,_,_,_] 0 (.a (.a (.a V0 V1) U1) U1) (.w V2 3) 1 (.a V0 V3) V4 1 V4 (.m 2 V2) 1 U1 V3 1 S1 V2 tt b3 hkV hkp o3
      ·dsimp only; exact lin3 [_,_,_,_,_] 0 S0 (.a V1 (.w V2 3)) 1 V3 (.a V1 V4) 1 V4 (.m 2 V2) 1 S0 (.a V3 V2) tt b4 hkV o4
theorem oQ {tr : List Str → List Ln → Nat → Tree × Nat} {i : Nat} {cols : List Str} {ls : List Ln} {y : Int} {k : Key} : ∀ (ks : List Key) (c : Nat), k ∈ ks → (∀ fs c, fs.length = k.many → 1 ≤ (tr (cols.take i ++ fs ++ cols.drop (i + 1)) (ls.flatMap (Ln.kept k i)) c).1.use y) →
  1 ≤ (zQ tr i cols ls ks c).1.use y
 | [], c, h, _ => by simp at h
 | k' :: ks, c, h, q => by
  rw [zQ]
  dsimp only
  rw [Brs.use]
  rcases List.mem_cons.mp h with rfl | z
  ·have := q (zo c k.many) (c + k.many) (wG _ _); exact lin1 [_,_] 0 U1 (.a V0 V1) 1 U1 V0 tt this
  ·have := oQ ks (tr (cols.take i ++ zo c k'.many ++ cols.drop (i + 1)) (ls.flatMap (Ln.kept k' i)) (c + k'.many)).2 z q; exact lin1 [_,_] 0 U1 (.a V0 V1) 1 U1 V1 tt this
theorem sF {rows : List RowT} {F : Nat} : ∀ (N : Nat) (K : List Nat) (cols : List Str) (l : Ln) (ls : List Ln) (c : Nat), K.length = cols.length → (∀ l' ∈ l :: ls, LnOk F K l' ∧ LnG rows l') → K.sum + (ls.length + 1) < N → l.lost = false →
  1 ≤ (z9 (zN rows) N cols (l :: ls) c).1.use l.number
 | 0, K, cols, l, ls, c, _, _, h, _ => by exact lin1 [_,_,_] 1 U1 V0 1 (.a (.a V1 S2) U1) U0 tt h
 | N + 1, K, cols, l, ls, c, hK, hl, hN, hlost => by
  refine hid fun hG => ?_
  obtain ⟨f1, f2, f3, f4, f5⟩ := w8 cols 0 l (hl l (.head _)).1 (hl l (.head _)).2 (by exact Nat.le_antisymm (lin1 [_,_] 0 (.a U0 V0) V1 1 V0 V1 tt (er hK)) (lin1 [_,_] 0 V0 (.a U0 V1) 1 V0 V1 tt (el hK))) (fun j hj => by exact no1 (lin1 [_] 0 U1 U0 1 S0 U0 tt hj))
  refine hG ?_
  cases hs : scan cols 0 l with
  | mk f o =>
   rw [hs] at f1 f2 f3 f4 f5
   dsimp only at f1 f2 f3 f4 f5
   cases o with
   | none =>
    rw [xP hs]
    unfold qR
    rw [if_neg (by rw [f4, hlost]; decide)]
    split
    ·rw [Tree.use, f3, if_pos rfl]; exact lin0 [_] 0 U1 (.a U1 V0) tt
    ·rw [Tree.use, f3, if_pos rfl]; exact lin0 [_] 0 U1 (.a U1 V0) tt
   | some i =>
    dsimp only at f5
    obtain ⟨hi, k0, hk0⟩ := f5
    rw [xO hs]
    unfold xW
    dsimp only
    generalize (cols[i]?).getD default = x
    have hfk : f.plain i x = f := w6 hk0
    rw [List.map_cons, hfk]
    generalize hpl : ls.map (fun l => l.plain i x) = pls
    have hplo : ∀ l' ∈ f :: pls, LnOk F K l' ∧ LnG rows l' ∧ ∀ s, l'.pats[i]? ≠ some (.var s) := by
     intro l' h'
     rcases List.mem_cons.mp h' with rfl | z
     ·exact ⟨f1, f2, fun s => by rw [← hfk]; exact xB⟩
     ·rw [← hpl] at z
      obtain ⟨l₀, hl₀, rfl⟩ := List.mem_map.mp z
      have := hl l₀ (by simp [hl₀])
      exact ⟨this.1.plain, this.2.plain, fun s => xB⟩
    have hpll : pls.length = ls.length := by rw [← hpl, List.length_map]
    have hk0m : k0 ∈ zJ i (f :: pls) := keysOf_mem.mpr ⟨f, .head _, hk0⟩
    have hKi : K[i]? = some K[i] := List.getElem?_eq_getElem hi
    obtain ⟨p, hp⟩ := f1.at hi
    have hpk : p.key = some k0 := by unfold Ln.key at hk0; rw [hp] at hk0; exact hk0
    have h1k : 1 ≤ K[i] := (wy (f1.fit.at hKi hp) hpk).1
    have hkept : f.kept k0 i = [f.put i p.args] := by unfold Ln.kept; rw [hk0]; simp [hp]
    have main : 1 ≤ (zQ (z9 (zN rows) N) i cols (f :: pls) (zJ i (f :: pls)) c).1.use l.number := by
     refine oQ _ c hk0m fun fs c' hfs => ?_
     rw [List.flatMap_cons, hkept, List.singleton_append]
     have hsub := uk (k := k0) hi
     have hss := uj (k := k0) hKi h1k
     have hfl := yP (g := Ln.kept k0 i) (fun l => wz) pls
     have := sF N (tO i k0 K) (cols.take i ++ fs ++ cols.drop (i + 1)) (f.put i p.args) (pls.flatMap (Ln.kept k0 i)) c' (by rw [hsub]; simp; exact Nat.le_antisymm (lin5 [_,_,_,_,_,_,_,_] 0 (.a V0 V1) (.a V2 (.a V3 V4)) 1 V5 V6 1 V1 V3 1 V6 (.a V4 S7) 1 S0 V5 1 V7 V2 tt (el hK) (er hfs) sb1 (sb3 (lin1 [_,_] 0 U1 V0 1 S1 V0 tt hi)) (mn1 (lin2 [_,_,_] 0 V0 V1 1 V2 V1 1 S0 V2 tt (el hK) hi))) (lin5 [_,_,_,_,_,_,_,_] 0 (.a V0 (.a V1 V2)) (.a V3 V4) 1 V5 V6 1 V1 V4 1 V6 S3 1 V0 V7 1 (.a V2 S7) V5 tt (er hK) (el hfs) sb1 (Nat.min_le_left _ _) (sb3 (lin2 [_,_,_] 0 S0 V1 1 V2 V1 1 S0 V2 tt (el hK) hi)))) (fun l' h' => by
      have h' : l' ∈ (f :: pls).flatMap (Ln.kept k0 i) := by rw [List.flatMap_cons, hkept]; exact h'
      refine hid fun hG => ?_
      obtain ⟨l₀, hl₀, h'⟩ := List.mem_flatMap.mp h'
      obtain ⟨o1, o2, o3⟩ := hplo l₀ hl₀
      obtain ⟨p', hp'⟩ := o1.at hi
      refine hG ?_
      exact ⟨o1.kept hi l' h', o2.kept hp' (fun s e => o3 s (by rw [hp', e])) l' h'⟩) (by exact lin4 [_,_,_,_,_,_] 0 (.a (.a V0 S1) U1) V2 1 (.a (.a V3 S4) U1) S2 1 V5 V4 1 S0 V3 1 V1 V5 tt hN (el hpll) hss hfl) (by unfold Ln.put; dsimp only; rw [f4, hlost])
     rw [← f3]; exact this
    split
    ·rw [Tree.use]; exact lin1 [_,_] 0 U1 (.a V0 V1) 1 U1 V0 tt main
    ·rw [Tree.use]; exact lin1 [_,_] 0 U1 (.a V0 V1) 1 U1 V0 tt main
theorem ux {top : Nat} (x : Int) (h : 0 < top) : ∃ r : Nat, x.fmod top = r ∧ r < top := by
 have h1 := Int.fmod_nonneg_of_pos x (show (0 : Int) < top by omega)
 have h2 := Int.fmod_lt_of_pos x (show (0 : Int) < top by omega)
 exact ⟨(x.fmod top).toNat, by omega, by omega⟩
section
variable {n : Nat} {st : St} {Q : D → St → Prop}
theorem qa {i : Nat} {ow : List Str} {cf : Bool} (hi : i ≤ 100) (hw : ow.length ≤ 100) (h0 : st.sto[0]? = some .tab) (q : ∀ b, BodyOk b i ow cf → Q b st) : zD CQ (n + 1) (.val (.ref 1187)) [.int (.ofNat i), .list (ow.map .str), .bool cf] st Q := by
 refine zE ⟨rfl, ?_⟩
 refine And.intro h0 ?_
 refine q (.clo [.list (ow.map .str), .int (.ofNat i), .bool cf]) ?_
 intro n st Q x q
 refine zE ⟨rfl, ?_⟩
 have hs := @yz i (by exact lin1 [_] 0 S0 (.n 1000000000000000000) 1 V0 U100 tt hi)
 have hr : (Str.ofString "row").length = 3 := by decide +kernel
 refine And.intro (show i < 2 ^ 64 by exact lin1 [_] 0 S0 (.n 18446744073709551616) 1 V0 U100 tt hi) ?_
 refine And.intro (zU (show (Str.ofString "row").length + (strOf (i : Int)).length ≤ 1000 by exact lin2 [_,_] 0 (.a V0 V1) U1000 1 V1 (.n 18) 1 V0 (.n 3) tt hs (el hr))) ?_
 refine zx D.str varD (fun y U K K' k1 => k1) ?_
 cases cf with
 | true =>
  refine And.intro (yG (z5 hw) (Nat.le_of_ble_eq_true rfl)) ?_
  exact q
 | false =>
  refine And.intro (yG (m := ([] : List D)) (z5 hw) (Nat.zero_le _)) ?_
  exact q
noncomputable def SrcP (k : Nat) (st : St) : Prop := ∃ a b : Int, st.sto[k]? = some (.lst [.int a, .int b])
theorem SrcP.keep {k : Nat} {st st' : St} {l : List Nat} (h : SrcP k st) (c : Chg l st st') (n : k ∉ l) : SrcP k st' := by obtain ⟨a, b, e⟩ := h; exact ⟨a, b, c.get e n⟩
theorem xU {k top : Nat} (hs : SrcP k st) (ht : 0 < top ∧ top ≤ 100) (q : ∀ st' r, Chg [k] st st' → st'.nt = st.nt → SrcP k st' → r < top → Q (.int (r : Nat)) st') :
  zD CQ (n + 1) (.val (.ref 1159)) [.mref k, .int (.ofNat top)] st Q := by
 refine hid fun hG => ?_
 obtain ⟨a, b, hs⟩ := hs
 refine hG ?_
 have h1 : (0 : Int) < top ∧ (top : Int) < 2 ^ 40 := ⟨by omega, by omega⟩
 refine zE ⟨rfl, ?_⟩
 refine zA hs ?_
 refine yJ (fun ha => ?_) fun ha => ?_
 ·refine zA hs ?_
  refine And.intro h1 ?_
  refine zA hs ?_
  refine And.intro h1 ?_
  refine zA hs ?_
  refine And.intro ⟨Nat.zero_lt_succ _, by decide⟩ ?_
  refine zP hs fun st₁ c₁ e₁ hs₁ => ?_
  refine hid fun hG => ?_
  obtain ⟨r, hr, hrt⟩ := ux a ht.1
  refine hG ?_
  conv => whnf
  rw [show a.fmod (Int.ofNat top) = r from hr]
  exact q _ r c₁ e₁ ⟨_, _, hs₁⟩ hrt
 ·refine zA hs ?_
  refine And.intro (.inr (by decide)) ?_
  refine And.intro (by decide) ?_
  refine hid fun hG => ?_
  obtain ⟨b', hb', hbt⟩ := ux (top := 2147483647) (b * 39373 + 7) (by decide)
  refine hG ?_
  refine zA hs ?_
  refine And.intro ⟨Nat.le_of_ble_eq_true rfl, by decide⟩ ?_
  refine zP hs fun st₁ c₁ e₁ hs₁ => ?_
  have hs₁ : st₁.sto[k]? = some (.lst [.int a, .int b']) := by rw [hs₁, ← hb']; rfl
  refine zA hs₁ ?_
  refine zA (a := .int b') rfl ?_
  refine zA hs₁ ?_
  refine And.intro (.inl (show (b' : Int).natAbs < 2 ^ 64 by omega)) ?_
  refine And.intro (by decide) ?_
  refine And.intro (by decide) ?_
  refine And.intro h1 ?_
  refine hid fun hG => ?_
  obtain ⟨r, hr, hrt⟩ := ux ((((b' : Int) * b').fmod 2147483629).fdiv 32) ht.1
  refine hG ?_
  conv => whnf
  rw [show ((((b' : Int) * b').fmod 2147483629).fdiv 32).fmod (Int.ofNat top) = r from hr]
  exact q _ r c₁ e₁ ⟨_, _, hs₁⟩ hrt
theorem kq {l : List Int} {j : Nat} (hj : j ≤ 1) (q : ∀ st' k, Chg [] st st' → st'.nt = st.nt → st.sto.length ≤ k → SrcP k st' → Q (.mref k) st') : zD CQ (n + 1) (.val (.ref 1152)) [.list (l.map .int), .int (.ofNat j)] st Q := by
 have rest : ∀ c : Int, (run (zD CQ n) (ir__law_pool.dr 2)).s [some (.list (l.map .int)), some (.int (.ofNat j)), some (.int c), none, none] st (wO Q) := by
  intro c
  have hb : ∀ b : Bool, (if b then (1 : Int) else 0).natAbs < 2 ^ 64 := by decide
  refine And.intro (by decide) ?_
  refine And.intro (.inl (by decide)) ?_
  refine And.intro (.inr (show (j : Int).natAbs < 2 ^ 64 by omega)) ?_
  refine And.intro (.inl (by decide)) ?_
  refine And.intro (.inr (by decide)) ?_
  refine And.intro (by decide) ?_
  refine And.intro ⟨rfl, rfl⟩ ?_
  refine And.intro (.inr (hb _)) ?_
  exact zi fun st' k c e hk hl => q st' k c e hl ⟨_, _, hk⟩
 refine zE ⟨rfl, ?_⟩
 refine yJ (fun h => ?_) fun h => ?_
 ·have hlt : j < (l.map D.int).length := Int.ofNat_lt.mp (of_decide_eq_true h)
  rw [List.length_map] at hlt
  have hx : (l.map D.int)[j]? = some (.int l[j]) := by rw [List.getElem?_map, List.getElem?_eq_getElem hlt]; rfl
  refine zA hx ?_
  conv => whnf
  exact rest l[j]
 ·conv => whnf
  exact rest 0
noncomputable def vr (k : Nat) : Str := if k = 2 then Str.ofString "T" else Str.ofString "I"
theorem iZ {k : Nat} (hs : SrcP k st) (q : ∀ st' r, Chg [k] st st' → st'.nt = st.nt → SrcP k st' → (r = 1 ∨ r = 2) → Q (.str (vr r)) st') : zD CQ (n + 2) (.val (.ref 1166)) [.mref k, .str (Str.ofString "TTI")] st Q := by
 have h3 : (Str.ofString "TTI").length = 3 := by decide +kernel
 refine zE ⟨rfl, ?_⟩
 refine And.intro (by rw [h3]; decide) ?_
 conv => whnf
 rw [h3]
 refine xU (top := 3) hs (by decide) fun st' r c e hs r3 => ?_
 have : r = 0 ∨ r = 1 ∨ r = 2 := by omega
 rcases this with rfl | rfl | rfl
 ·refine And.intro (by decide) ?_
  exact q st' 2 c e hs (.inr rfl)
 ·refine And.intro (by decide) ?_
  exact q st' 2 c e hs (.inr rfl)
 ·refine And.intro (by decide) ?_
  exact q st' 1 c e hs (.inl rfl)
noncomputable def vS (j : Nat) : Str := Str.ofString "v." ++ strOf ((j : Nat) : Int)
noncomputable def yU (m : Nat) : List Str := (List.range m).map fun j => vS (j + 1)
theorem va {m : Nat} : yU (m + 1) = yU m ++ [vS (m + 1)] := by unfold yU; rw [List.range_succ, List.map_append]; rfl
theorem yh {m : Nat} : (yU m).length = m := by unfold yU; simp
noncomputable def qb (k m : Nat) (st : St) : Prop := st.sto[k]? = some (.lst ((yU m).map .str))
theorem pQ {ks kl : Nat} (hne : ks ≠ kl) : ∀ (kd : Nat), (kd = 1 ∨ kd = 2) → ∀ (n m : Nat) (st : St) (Q : D → St → Prop), kd + 5 ≤ n → m ≤ 100 → SrcP ks st → qb kl m st →
  (∀ st' p m', Chg [ks, kl] st st' → st'.nt = st.nt → SrcP ks st' → qb kl m' st' → yU m' = yU m ++ p.vars → m' ≤ m + 1 → Fit kd p = true → p.dep + 1 ≤ kd → Q p.d st') →
  zD CQ n (.val (.ref 1173)) [.mref ks, .str (vr kd), .mref kl] st Q := by
 intro kd
 induction kd with
 | zero => intro h; omega
 | succ kd ih =>
  intro hkd n m st Q hn hm hs hl q
  obtain ⟨n, rfl⟩ : ∃ k, n = k + 4 := ⟨n - 4, by exact Nat.le_antisymm (lin1 [_,_] 0 V0 (.a V1 (.n 4)) 1 V0 (.a V1 (.n 4)) tt sb1) (lin1 [_,_] 0 (.a V0 (.n 4)) V1 1 (.a V0 (.n 4)) V1 tt (sb3 (lin1 [_,_] 2 (.n 4) V0 2 (.a S1 (.n 5)) V0 tt hn)))⟩
  refine zE ⟨rfl, ?_⟩
  refine xU (top := 5) hs (by decide) fun st₁ r c₁ e₁ hs₁ r5 => ?_
  have hl₁ : qb kl m st₁ := c₁.get hl (by simpa using Ne.symm hne)
  refine yJ (fun hr => ?_) fun hr => ?_
  ·exact q _ .wild m (c₁.mono (by simp)) e₁ hs₁ hl₁ (by simp [Pat.vars]) (by exact lin0 [_] 0 V0 S0 tt) uh (by simp [Pat.dep])
  have hr := beq_eq_false_iff_ne.mp hr
  refine yJ (fun hr => ?_) fun hr1 => ?_
  ·have hl' : st₁.sto[kl]? = some (.lst ((yU m).map .str)) := hl₁
   have hsl := @yz (m + 1) (by exact lin1 [_] 0 (.a S0 U1) (.n 1000000000000000000) 1 V0 U100 tt hm)
   have hv : (Str.ofString "v.").length = 2 := by decide +kernel
   refine zA hl' ?_
   refine zA hl' ?_
   conv => whnf
   rw [List.length_map, yh]
   refine And.intro (show m + 1 < 2 ^ 64 by exact lin1 [_] 0 (.a S0 U1) (.n 18446744073709551616) 1 V0 U100 tt hm) ?_
   refine And.intro (zU (show (Str.ofString "v.").length + (strOf ((m + 1 : Nat) : Int)).length ≤ 1000 by exact lin2 [_,_] 0 (.a V0 V1) U1000 1 V1 (.n 18) 1 V0 U2 tt hsl (el hv))) ?_
   refine zA hl' ?_
   refine And.intro (by rw [List.length_map, yh]; exact Nat.lt_of_lt_of_le (show m < 1000 by exact lin1 [_] 0 S0 U1000 1 V0 U100 tt hm) (by decide)) ?_
   have hla : (yU m).map D.str ++ [D.str (Str.ofString "v." ++ strOf ((m + 1 : Nat) : Int))] = (yU (m + 1)).map D.str := by rw [va, List.map_append]; rfl
   refine zP hl' fun st₂ c₂ e₂ hl₂ => ?_
   have hl₂ : qb kl (m + 1) st₂ := hl₂.trans (congrArg (fun l => some (MO.lst l)) hla)
   have hlast : wI ((yU (m + 1)).map D.str) (-1) = some (.str (vS (m + 1))) := by
    rw [va, List.map_append]
    show (if 0 < _ then (_ : List D)[_ - (0 + 1)]? else none) = _
    simp
   refine zA hl₂ ?_
   refine zA hlast ?_
   exact q _ (.var (vS (m + 1))) (m + 1) ((c₁.mono (by simp)).trans (c₂.mono (by simp))) (e₂.trans e₁) (hs₁.keep c₂ (by simpa using hne)) hl₂ (by rw [va]; rfl) (by exact lin0 [_] 0 S0 S0 tt) k9 (by simp [Pat.dep])
  have hr1 := beq_eq_false_iff_ne.mp hr1
  rcases hkd with hkd | hkd
  ·have : kd = 0 := by exact Nat.le_antisymm (lin1 [_] 0 V0 U0 1 S0 U1 tt (el hkd)) (lin0 [_] 0 U0 V0 tt)
   subst this
   refine xU (n := n + 2) (top := 2) hs₁ (by decide) fun st₂ r₂ c₂ e₂ hs₂ r2 => ?_
   have hfit : Fit 1 (.lit (r₂ : Int)) = true := by
    have : r₂ = 0 ∨ r₂ = 1 := by omega
    rcases this with rfl | rfl <;> rfl
   exact q _ (.lit r₂) m ((c₁.mono (by simp)).trans (c₂.mono (by simp))) (e₂.trans e₁) hs₂ (c₂.get hl₁ (by simpa using Ne.symm hne)) (by simp [Pat.vars]) (by exact lin0 [_] 0 V0 S0 tt) hfit (by simp [Pat.dep])
  ·have : kd = 1 := by exact Nat.le_antisymm (lin1 [_] 0 V0 U1 1 S0 U2 tt (el hkd)) (lin1 [_] 0 U1 V0 1 U2 S0 tt (er hkd))
   subst this
   refine yJ (fun h4 => ?_) fun h4 => ?_
   ·exact q _ .A m (c₁.mono (by simp)) e₁ hs₁ hl₁ (by simp [Pat.vars]) (by exact lin0 [_] 0 V0 S0 tt) rfl (by simp [Pat.dep])
   ·refine ih (.inl rfl) (n + 3) m st₁ _ (by exact lin1 [_] 0 (.n 6) (.a V0 (.n 3)) 1 (.n 7) (.a V0 (.n 4)) tt hn) hm hs₁ hl₁ fun st₂ p m' c₂ e₂ hs₂ hl₂ hv hm' hf hd => ?_
    exact q _ (.B p) m' ((c₁.mono (by simp)).trans c₂) (e₂.trans e₁) hs₂ hl₂ hv hm' hf (by simp [Pat.dep]; exact Nat.le_antisymm (lin1 [_] 0 V0 U0 1 S0 U1 tt hd) (lin0 [_] 0 U0 V0 tt))
end
noncomputable def vb : D → Bool
 | .obj _ c _ => match c with
  | .App => true
  | _ => false
 | _ => false
theorem qc {t : Nat} {c : Cls} {l : List D} : isIn c.addr [183] = isLam (.obj t c l) := by cases c <;> rfl
theorem qd {t : Nat} {c : Cls} {l : List D} : isIn c.addr [141] = vb (.obj t c l) := by cases c <;> rfl
theorem Nd.kids {a l : List D} (h : Nd a l) : ∀ d ∈ l, ∃ ks, Node d ks ∧ ∀ k ∈ ks, k ∈ l := by
 induction h with
 | nil => simp
 | cons hn h ih =>
  intro x hx
  rcases List.mem_cons.mp hx with rfl | z
  ·exact ⟨_, hn, fun k hk => List.mem_cons_of_mem _ (h.mem k (by simp [hk]))⟩
  ·refine hid fun hG => ?_
   obtain ⟨ks, h1, h2⟩ := ih x z
   refine hG ?_
   exact ⟨ks, h1, fun k hk => List.mem_cons_of_mem _ (h2 k hk)⟩
theorem rI {d : D} {ks : List D} (h : Node d ks) : (∃ (t : Nat) (s : Str) (as : List D), t ≠ 0 ∧ d = conE t s as) ∨ ∃ t c l, d = .obj t c l ∧ isIn c.addr [322] = false ∧ q0 d = none := by
 cases h with
 | con t nm as' ht => exact .inl ⟨t, nm, ks, ht, rfl⟩
 | _ => exact .inr ⟨_, _, _, rfl, rfl, rfl⟩
theorem pR {d : D} {ks : List D} (h : Node d ks) : (vb d = true ∧ ∃ (f : Str) (as : List D), d = ur f as) ∨ (vb d = false ∧ vp d = none) := by
 cases h with
 | app f as' => exact .inl ⟨rfl, f, as', rfl⟩
 | _ => exact .inr ⟨rfl, rfl⟩
theorem i0 {d : D} {ks : List D} (h : Node d ks) : (∃ x e b, d = yu x e b ∧ ks = [e, b]) ∨ ∃ t c l, d = .obj t c l ∧ isIn c.addr [221] = false ∧ yA d = none := by
 cases h with
 | lt x e b => exact .inl ⟨x, e, b, rfl, rfl⟩
 | _ => exact .inr ⟨_, _, _, rfl, rfl, rfl⟩
theorem mw {x : Str} {e b : D} : yA (yu x e b) = if isLam e then some (x, e) else none := by
 show (match isLam e with | true => some (x, e) | false => none) = _
 cases isLam e <;> rfl
theorem xD {t : Tg} (p : D → Bool) {ρ : Rg} {c : Rg → MC Bool} {e : Rg → MC D} {st : St} {l : List D} {Q : List D → St → Prop}
  (step : ∀ x, x ∈ l → ∀ (K : D → St → Prop) (K' : St → Prop), (p x = true → K x st) → (p x = false → K' st) → yV t x ρ fun ρ' => c ρ' st fun b st => br b (e ρ' st K) (K' st)) (q : Q (l.filter p) st) : xV t ρ c e l st Q := by
 have := yM (t := t) (ρ := ρ) (c := c) (e := e) (Q := Q) (fun d : D => d) (fun d => d) p step (by rw [List.map_id']; exact q)
 rwa [List.map_id'] at this
theorem i3 {t : Tg} {body : Rg → MC Out} {Q : Out → St → Prop} (P : List D → List D → Rg → St → Prop)
  (step : ∀ done x rest ρ st (K : Out → St → Prop), P done (x :: rest) ρ st → (∀ ρ' st', P (done ++ [x]) rest ρ' st' → K (.fall ρ') st') → (∀ d st', Q (.ret d) st' → K (.ret d) st') → yV t x ρ fun ρ => body ρ st K)
  (last : ∀ done ρ st, P done [] ρ st → Q (.fall ρ) st) {l done : List D} {ρ : Rg} {st : St} (h : P done l ρ st) : oU t body l ρ st Q := by
 have := yF (t := t) (body := body) (Q := Q) (fun d : D => d) P step last h
 rwa [List.map_id'] at this
theorem qe (n : Nat) : ∀ a b : List Str, a.length = b.length → eqL (eqD (n + 1)) (a.map D.str) (b.map D.str) = some (decide (a = b))
 | [], [], _ => rfl
 | [], _ :: _, h => by simp at h
 | _ :: _, [], h => by simp at h
 | x :: a, y :: b, h => by
  show (do let p ← some (x == y); let q ← eqL (eqD (n + 1)) (a.map D.str) (b.map D.str); some (p && q)) = _
  rw [qe n a b (Nat.succ.inj h)]
  show some ((x == y) && decide (a = b)) = _
  congr 1
  rw [Bool.eq_iff_iff]; simp
theorem mx {a b : List Str} : eqD 3 (.list (a.map .str)) (.list (b.map .str)) = some (decide (a = b)) := by
 show (if (a.map D.str).length = (b.map D.str).length then eqL (eqD 2) (a.map D.str) (b.map D.str) else some false) = _
 by_cases h : a.length = b.length
 ·rw [if_pos (by simpa using h), qe 1 a b h]
 ·rw [if_neg (by simpa using h)]
  rw [decide_eq_false]; intro e; exact h (by rw [e])
theorem my {t : Nat} {s : Str} {as : List D} : memD 3 (conE t s as) [] = some false := rfl
theorem mz {t u : Nat} {s r : Str} {as bs : List D} (ht : t ≠ 0) (hu : u ≠ 0) : memD 3 (conE t s as) [conE u r bs] = some (u == t) := by
 have : eqD 3 (conE u r bs) (conE t s as) = some (u == t) := by
  show (if u = 0 ∨ t = 0 then none else some (u == t)) = _
  rw [if_neg (by simp [ht, hu])]
 show (do let a ← eqD 3 (conE u r bs) (conE t s as); let b ← some false; some (a || b)) = _
 rw [this]
 show some ((u == t) || false) = _
 rw [Bool.or_false]
theorem rJ {P : Nat → Bool} : ∀ {fs : List (Nat × D)}, (∀ p ∈ fs, ∀ q ∈ fs, zF P p.1 = zF P q.1 → p.1 = q.1) → (fs.map (·.1)).Nodup → ∀ p ∈ fs, ((fs.map fun p => zF P p.1).zip (fs.map (·.2))).lookup (zF P p.1) = some p.2
 | [], _, _, p, hp => by simp at hp
 | x :: fs, hi, hn, p, hp => by
  rw [List.map_cons, List.map_cons, List.zip_cons_cons, List.lookup_cons]
  rw [List.map_cons, List.nodup_cons] at hn
  rcases List.mem_cons.mp hp with rfl | z
  ·simp
  ·have hne : zF P p.1 ≠ zF P x.1 := fun e => hn.1 (by rw [← hi p (by simp [z]) x (.head _) e]; exact List.mem_map_of_mem z)
   rw [beq_eq_false_iff_ne.mpr hne]
   exact rJ (fun a ha b hb => hi a (by simp [ha]) b (by simp [hb])) hn.2 p z
theorem uy : ∀ {fs : List (Nat × D)}, (fs.map (·.1)).Nodup → ∀ p ∈ fs, fs.filter (fun q => decide (q.1 = p.1)) = [p]
 | [], _, p, hp => by simp at hp
 | x :: fs, hn, p, hp => by
  rw [List.map_cons, List.nodup_cons] at hn
  rw [List.filter_cons]
  rcases List.mem_cons.mp hp with rfl | z
  ·rw [if_pos (by simp)]
   have : fs.filter (fun q => decide (q.1 = p.1)) = [] := by
    rw [List.filter_eq_nil_iff]
    intro q hq
    simp only [decide_eq_true_eq]
    intro e
    exact hn.1 (e ▸ List.mem_map_of_mem hq)
   rw [this]
  ·rw [if_neg, uy hn.2 p z]
   simp only [decide_eq_true_eq]
   intro e
   exact hn.1 (e ▸ List.mem_map_of_mem z)
section
variable {n : Nat} {st : St} {Q : D → St → Prop}
theorem tR {rows : List RowT} (hR : RowsOk rows) {u : Int → Nat} {named : Bool} {L : Nat} {P : Nat → Bool} {fs : List (Nat × D)} {τ : Nat → Str} {k : Nat} {l : List D} {d : D} (hn : Nd [d] l) (hF : Fin rows u named L P fs τ k l) (hL : L ≤ 900000) {kc : Nat} {c : Ct} (hc : ∀ y, c.get y = u y) (hs : st.sto[kc]? = some (.dI c.1 (c.2.map .int))) {cf : D}
  (q : ∀ st', Chg [] st st' → Q (.bool true) st') :
  zD CQ (n + 4) (.val (.ref 1192)) [d, .list (rows.map fun r => .list ((rowVars r.1).map .str)), .mref kc, cf, .bool named] st Q := by
 have hkids := hn.kids
 have hlen := Nat.le_trans hF.len hL
 have hrl := hR.len
 refine zE ⟨rfl, ?_⟩
 refine q9 hn hlen fun st₁ c₁ => ?_
 refine zi fun st₂ kf c₂ e₂ hsf hlf => ?_
 have hkl := zM hs
 have l₁ := c₁.len
 have hkc : kc ≠ kf := by exact Nat.ne_of_lt (lin3 [_,_,_,_] 0 S0 V1 1 V2 V1 1 S0 V3 1 V3 V2 tt hlf hkl l₁)
 have hinj : ∀ p ∈ fs, ∀ q ∈ fs, zF P p.1 = zF P q.1 → p.1 = q.1 := by
  intro p hp q hq e
  obtain ⟨a1, a2, _⟩ := hF.fok p hp
  obtain ⟨b1, b2, _⟩ := hF.fok q hq
  exact xw (by exact lin2 [_,_] 0 S0 U10 1 V1 U10 1 S0 V1 tt hrl a1) (by exact lin2 [_,_] 0 S0 U10 1 V1 U10 1 S0 V1 tt hrl b1) a2 b2 e
 have hnodup : ((l.filterMap yA).map (·.1)).Nodup := by
  rw [hF.funs, List.map_map]
  have h1 := hF.nd
  unfold List.Nodup at h1 ⊢
  rw [List.pairwise_map] at h1 ⊢
  exact h1.imp_of_mem fun {a b} ha hb hab e => hab (hinj a ha b hb e)
 refine i3 (fun done rest ρ st' => done ++ rest = l ∧ (∃ a, ρ = [some d, some (.list (rows.map fun r => .list ((rowVars r.1).map .str))), some (.mref kc), some cf, some (.bool named), some (.list l), some (.mref kf), a, none, none, none, none, none, none, none, none]) ∧
  Chg [kf] st₂ st' ∧ st'.sto[kf]? = some (.dS ((done.filterMap yA).map (·.1)) ((done.filterMap yA).map (·.2)))) ?_ ?_ (done := []) ⟨rfl, ⟨_, rfl⟩, .refl, hsf⟩
 ·rintro done x rest ρ st' K ⟨hd, ⟨a, rfl⟩, hc', hs'⟩ k1 k2
  have hxm : x ∈ l := hd ▸ List.mem_append_right _ (.head _)
  obtain ⟨ks, hx, hks⟩ := hkids x hxm
  rcases i0 hx with ⟨y, e, b, rfl, rfl⟩ | ⟨t, c, lx, rfl, hi, hnone⟩
  ·obtain ⟨ke, hke, _⟩ := hkids e (hks e (.head _))
   obtain ⟨te, ce, le, rfl⟩ := hke.obj
   have hfn := mw (x := y) (e := .obj te ce le) (b := b)
   refine yJ (fun hlam => ?_) fun hlam => ?_
   ·have hlam : isLam (.obj te ce le) = true := by rw [← qc]; exact hlam
    rw [if_pos hlam] at hfn
    have hny : y ∉ (done.filterMap yA).map (·.1) := by
     rw [← hd, List.filterMap_append, List.filterMap_cons, hfn, List.map_append, List.nodup_append] at hnodup
     exact fun z => hnodup.2.2 y z y (.head _) rfl
    have hdf : ((done.filterMap yA).map (·.2)).length ≤ done.length := by rw [List.length_map]; exact List.length_filterMap_le _ _
    have hdl : done.length + 1 + rest.length = l.length := by rw [← hd]; simp; exact Nat.le_antisymm (lin0 [_,_] 0 (.a S0 V1) (.a V0 S1) tt) (lin0 [_,_] 0 (.a V0 S1) (.a S0 V1) tt)
    have hsl := @w3 _ _ ((done.filterMap yA).map (·.1)) ((done.filterMap yA).map (·.2)) y (.obj te ce le)
    refine zA hs' ?_
    refine And.intro (Nat.le_trans (show _ ≤ 10 ^ 6 by exact lin4 [_,_,_,_,_] 0 V0 (.n 1000000) 1 V1 (.n 900000) 1 V2 V3 1 (.a S3 V4) V1 1 V0 S2 tt hlen hdf (el hdl) hsl) (by decide)) ?_
    refine zP hs' fun st₃ c₃ e₃ hs₃ => k1 _ _ ⟨yI hd, ⟨_, rfl⟩, hc'.trans c₃, ?_⟩
    rw [oJ hny] at hs₃
    rw [hs₃, List.filterMap_append, List.filterMap_cons, hfn, List.map_append, List.map_append]; rfl
   ·have hlam : isLam (.obj te ce le) = false := by rw [← qc]; exact hlam
    rw [if_neg (by simp [hlam])] at hfn
    exact k1 _ _ ⟨yI hd, ⟨_, rfl⟩, hc', by rw [List.filterMap_append, List.filterMap_cons, hfn, List.filterMap_nil, List.append_nil]; exact hs'⟩
  ·refine w0 hi ?_
   exact k1 _ _ ⟨yI hd, ⟨_, rfl⟩, hc', by rw [List.filterMap_append, List.filterMap_cons, hnone, List.filterMap_nil, List.append_nil]; exact hs'⟩
 rintro done ρ st₃ ⟨hd, ⟨a, rfl⟩, hc', hsf⟩
 rw [List.append_nil] at hd
 subst hd
 rw [hF.funs, List.map_map, List.map_map] at hsf
 have cA : Chg [] st st₃ := (c₁.trans c₂).fresh hc' (y8 (lin2 [_,_,_] 0 V0 V1 1 V2 V1 1 V0 V2 tt hlf l₁))
 have hs₃ := cA.get hs List.not_mem_nil
 refine xD vb (fun x hx K K' k1 k2 => ?_) ?_
 ·obtain ⟨ks, hx, _⟩ := hkids x hx
  obtain ⟨t, c, lx, rfl⟩ := hx.obj
  refine yJ (fun h => k1 ?_) fun h => k2 ?_
  ·rw [← qd]; exact h
  ·rw [← qd]; exact h
 refine ⟨rows.length, ⟨congrArg (fun n : Nat => (n : Int)) (List.length_map ..), zU (by exact lin1 [_] 0 V0 U1000 1 V0 U10 tt hrl)⟩, ?_⟩
 refine yF (fun i : Nat => D.int (Int.ofNat i)) (fun dn rest ρ st' => dn ++ rest = List.range rows.length ∧ (E7 fun a b e f g h i => ρ = [some d, some (.list (rows.map fun r => .list ((rowVars r.1).map .str))), some (.mref kc), some cf, some (.bool named), some (.list done), some (.mref kf), a, some (.list (done.filter vb)), b, e, f, g, h, i, none]) ∧
  Chg [kf] st₃ st' ∧ (st'.sto[kf]? = some (.dS (fs.map fun p => zF P p.1) (fs.map (·.2))) ∨ st'.sto[kf]? = some (.fS (fs.map fun p => zF P p.1) (fs.map (·.2))))) ?_ ?_ (done := []) ⟨rfl, ⟨_, _, _, _, _, _, _, rfl⟩, .refl, .inl hsf⟩
 ·rintro dn i rest ρ st' K ⟨hd, ⟨a1, a2, a3, a4, a5, a6, a7, rfl⟩, hc', hsf⟩ k1 k2
  have hy : i < rows.length := by obtain ⟨e, h⟩ := yg hd; exact lin2 [_,_,_] 0 S0 V1 1 V0 V2 1 S2 V1 tt (el e) h
  have hsl := @yz i (by exact lin2 [_,_] 0 S0 (.n 1000000000000000000) 1 V1 U10 1 S0 V1 tt hrl hy)
  have hrw : (Str.ofString "row").length = 3 := by decide +kernel
  have hs' := hc'.get hs₃ (ne1 hkc)
  refine xD (ze (z0 i)) (fun x hx K K' k1 k2 => ?_) ?_
  ·obtain ⟨ks, hx, _⟩ := hkids x hx
   rcases rI hx with ⟨t, s, as, ht, rfl⟩ | ⟨t, c, lx, rfl, hi, hnone⟩
   ·refine And.intro (show i < 2 ^ 64 by exact lin2 [_,_] 0 S0 (.n 18446744073709551616) 1 V1 U10 1 S0 V1 tt hrl hy) ?_
    refine And.intro (zU (show (Str.ofString "row").length + (strOf (i : Int)).length ≤ 1000 by exact lin2 [_,_] 0 (.a V0 V1) U1000 1 V1 (.n 18) 1 V0 (.n 3) tt hsl (el hrw))) ?_
    exact yJ k1 k2
   ·refine w0 hi ?_
    exact k2 (by unfold ze; rw [hnone])
  have hrow := hF.row i hy
  rw [List.countP_eq_length_filter] at hrow
  have hmk : ∀ m ∈ done.filter (ze (z0 i)), E2 fun t as => A3 (t ≠ 0) (m = conE t (z0 i) as) (m ∈ done) := by
   intro m hm
   rw [List.mem_filter] at hm
   obtain ⟨ks, hx, _⟩ := hkids m hm.1
   rcases rI hx with ⟨t, s, as, ht, rfl⟩ | ⟨_, _, _, _, _, hnone⟩
   ·have : s = z0 i := beq_iff_eq.mp hm.2
    subst this
    exact ⟨t, as, ht, rfl, hm.1⟩
   ·have := hm.2; unfold ze at this; rw [hnone] at this; cases this
  have hmf : ∀ a b, conE a (z0 i) b ∈ done → conE a (z0 i) b ∈ done.filter (ze (z0 i)) := by
   intro a b h
   rw [List.mem_filter]
   exact ⟨h, beq_self_eq_true (z0 i)⟩
  generalize done.filter (ze (z0 i)) = mk at hrow hmk hmf
  have hgt : (xc c.1 (c.2.map D.int) (Int.ofNat i)).getD (.int 0) = .int (u i) := by rw [tw]; exact congrArg D.int (hc i)
  have hml : mk.length ≤ 1 := by rw [hrow]; split <;> (first | exact lin0 [] 0 U1 U1 tt | exact lin0 [] 0 U0 U1 tt)
  refine zA hs' ?_
  refine zA hs' ?_
  conv => whnf
  rw [hgt]
  refine w0 ?_ ?_
  ·show (!(Int.ofNat mk.length == if decide ((0 : Int) < (u i : Int)) = true then 1 else 0)) = false
   rw [hrow]
   by_cases h : 0 < u i
   ·rw [if_pos h, if_pos (by simpa using h)]; rfl
   ·rw [if_neg h, if_neg (by simpa using h)]; rfl
  refine tu hsf rfl rfl fun st₆ c₆ e₆ hsf₆ => ?_
  conv => whnf
  rw [List.map_map]
  refine yM (fun p : Nat × D => D.str (zF P p.1)) (fun p => D.str (zF P p.1)) (fun p => decide (p.1 = i)) (fun p hp K K' k1 k2 => ?_) ?_
  ·obtain ⟨a1, a2, r, x, t, as, hrr, hpl, hin⟩ := hF.fok p hp
   have hlk : tB (fs.map fun p => zF P p.1) (fs.map (·.2)) (zF P p.1) = some p.2 := rJ hinj hF.nd p hp
   have ht0 : t ≠ 0 := by
    obtain ⟨ks, hx, _⟩ := hkids _ hin
    rcases rI hx with ⟨t', s', as', ht', e⟩ | ⟨_, _, _, e, hb, _⟩
    ·cases e; exact ht'
    ·cases e; cases hb
   have hmem : memD 3 (conE t (z0 p.1) as) mk = some (decide (p.1 = i)) := by
    cases mk with
    | nil =>
     rw [my]
     congr 1
     symm
     rw [decide_eq_false_iff_not]
     rintro rfl
     exact absurd (hmf t as hin) (List.not_mem_nil)
    | cons m r' =>
     have : r' = [] := by cases r' with | nil => rfl | cons _ _ => simp at hml
     subst this
     obtain ⟨t', as', ht', rfl, hm⟩ := hmk m (.head _)
     rw [mz ht0 ht']
     congr 1
     rw [Bool.eq_iff_iff]
     simp only [beq_iff_eq, decide_eq_true_eq]
     constructor
     ·rintro rfl
      have h1 := (hF.tok _ hin (z0 p.1) t' rfl).2
      have h2 := (hF.tok _ hm (z0 i) t' rfl).2
      exact (zt p.1 (by exact lin2 [_,_] 0 S0 U10 1 V1 U10 1 S0 V1 tt hrl a1)).2.2 i (by exact lin2 [_,_] 0 S0 U10 1 V1 U10 1 S0 V1 tt hrl hy) (h1.symm.trans h2)
     ·rintro rfl
      cases List.mem_singleton.mp (hmf t as hin); rfl
   rw [hpl] at hlk
   refine zA hsf₆ ?_
   refine zA hlk ?_
   refine zA hmem ?_
   exact yJ k1 k2
  have hpi := hF.pr i
  have hs₆ := c₆.get hs' (ne1 hkc)
  cases hP : P i with
  | false =>
   have hfl0 : fs.filter (fun p => decide (p.1 = i)) = [] := by
    rw [List.filter_eq_nil_iff]
    intro p hp
    have := (hF.fok p hp).2.1
    simp only [decide_eq_true_eq]
    rintro rfl
    rw [hP] at this; cases this
   have hu1 : ¬ 1 < u i := by rw [hP] at hpi; simpa using hpi.symm
   have hu2 : decide ((1 : Int) < (u i : Int)) = false := decide_eq_false (by omega)
   rw [hfl0]
   refine w0 ?_ ?_
   ·show (!((0 : Int) == if decide ((1 : Int) < (u i : Int)) = true then 1 else 0)) = false
    rw [hu2]; rfl
   refine w0 hu2 ?_
   exact k1 _ _ ⟨yI hd, ⟨_, _, _, _, _, _, _, rfl⟩, hc'.trans c₆, .inr hsf₆⟩
  | true =>
   obtain ⟨p0, hp0, rfl⟩ := List.mem_map.mp (hF.all i hy hP)
   have hu1 : 1 < u p0.1 := by rw [hP] at hpi; simpa using hpi.symm
   have hu2 : decide ((1 : Int) < (u p0.1 : Int)) = true := decide_eq_true (by omega)
   rw [show fs.filter (fun p => decide (p.1 = p0.1)) = [p0] from uy hF.nd p0 hp0]
   have hlk : tB (fs.map fun p => zF P p.1) (fs.map (·.2)) (zF P p0.1) = some p0.2 := rJ hinj hF.nd p0 hp0
   obtain ⟨a1, a2, r, x, t, as, hrr, hpl, hin⟩ := hF.fok p0 hp0
   rw [hpl] at hlk
   have hro : wI (rows.map fun r => D.list ((rowVars r.1).map .str)) (Int.ofNat p0.1) = some (.list ((rowVars r.1).map .str)) := by show (rows.map fun r => D.list ((rowVars r.1).map .str))[p0.1]? = _; rw [List.getElem?_map, hrr]; rfl
   have har : iW rows p0.1 = (rowVars r.1).length := by unfold iW; rw [hrr]; rfl
   refine w0 ?_ ?_
   ·show (!((1 : Int) == if decide ((1 : Int) < (u p0.1 : Int)) = true then 1 else 0)) = false
    rw [hu2]; rfl
   refine m8 hu2 ?_
   refine zA hsf₆ ?_
   refine zA hlk ?_
   refine And.intro rfl ?_
   refine zA hro ?_
   refine zA (a := true) ?_ ?_
   ·show eqD 3 (.list ((rowVars r.1).map D.str ++ [D.str x]).dropLast) (.list ((rowVars r.1).map D.str)) = _
    rw [List.dropLast_concat, mx, decide_eq_true rfl]
   refine zA hro ?_
   refine w0 ?_ ?_
   ·show (!(Int.ofNat ((rowVars r.1).map D.str ++ [D.str x]).length == Int.ofNat ((rowVars r.1).map D.str).length + 1)) = false
    rw [List.length_append]
    exact congrArg not (beq_self_eq_true _)
   refine xD (appIs (zF P p0.1)) (fun y hy K K' k1 k2 => ?_) ?_
   ·rw [List.mem_filter] at hy
    obtain ⟨ks, hyn, _⟩ := hkids y hy.1
    rcases pR hyn with ⟨_, f, as', rfl⟩ | ⟨hb, _⟩
    ·exact yJ k1 k2
    ·rw [hb] at hy; cases hy.2
   have hap := hF.app p0.1 a1 a2
   rw [List.countP_eq_length_filter] at hap
   have hff : (done.filter vb).filter (appIs (zF P p0.1)) = done.filter (appIs (zF P p0.1)) := by
    rw [List.filter_filter]
    apply List.filter_congr
    intro y hy
    obtain ⟨ks, hyn, _⟩ := hkids y hy
    rcases pR hyn with ⟨hb, _⟩ | ⟨hb, hnn⟩
    ·rw [hb, Bool.and_true]
    ·unfold appIs; rw [hnn]; rfl
   rw [hff]
   have hoc : ∀ y ∈ done.filter (appIs (zF P p0.1)), ∃ as', y = ur (zF P p0.1) as' ∧ as'.length = (rowVars r.1).length + 1 := by
    intro y hy
    rw [List.mem_filter] at hy
    obtain ⟨ks, hyn, _⟩ := hkids y hy.1
    rcases pR hyn with ⟨_, f, as', rfl⟩ | ⟨hb, hnn⟩
    ·have : f = zF P p0.1 := beq_iff_eq.mp hy.2
     subst this
     obtain ⟨i', h1, h2, h3, h4⟩ := hF.apps _ hy.1 (zF P p0.1) as'.length rfl
     have : p0.1 = i' := xw (by exact lin2 [_,_] 0 S0 U10 1 V1 U10 1 S0 V1 tt hrl a1) (by exact lin2 [_,_] 0 S0 U10 1 V1 U10 1 S0 V1 tt hrl h1) a2 h2 h3
     subst this
     exact ⟨as', rfl, by rw [h4, har]⟩
    ·have := hy.2; unfold appIs at this; rw [hnn] at this; cases this
   generalize done.filter (appIs (zF P p0.1)) = oc at hap hoc
   refine w0 ?_ ?_
   ·show (!(Int.ofNat oc.length == Int.ofNat (u p0.1))) = false
    rw [hap]; exact congrArg not (beq_self_eq_true _)
   refine xD (fun U => false) (fun y hy K K' k1 k2 => ?_) ?_
   ·obtain ⟨as', rfl, hal⟩ := hoc y hy
    refine w0 ?_ (k2 rfl)
    show (!(Int.ofNat as'.length == Int.ofNat ((rowVars r.1).map D.str ++ [D.str x]).length)) = false
    rw [hal, List.length_append, List.length_map]
    exact congrArg not (beq_self_eq_true _)
   rw [show oc.filter (fun U => false) = [] by rw [List.filter_eq_nil_iff]; simp]
   exact k1 _ _ ⟨yI hd, ⟨_, _, _, _, _, _, _, rfl⟩, hc'.trans c₆, .inr hsf₆⟩
 rintro dn ρ st₅ ⟨hd, ⟨a1, a2, a3, a4, a5, a6, a7, rfl⟩, hc', hsf⟩
 have hs₅ := hc'.get hs₃ (ne1 hkc)
 refine xD (ze zj) (fun x hx K K' k1 k2 => ?_) ?_
 ·obtain ⟨ks, hx, _⟩ := hkids x hx
  rcases rI hx with ⟨t, s, as, ht, rfl⟩ | ⟨t, c, lx, rfl, hi, hnone⟩
  ·exact yJ k1 k2
  ·refine w0 hi ?_
   exact k2 (by unfold ze; rw [hnone])
 have hno := hF.non
 rw [List.countP_eq_length_filter] at hno
 generalize done.filter (ze zj) = mk at hno
 have hgt : (xc c.1 (c.2.map D.int) (-1)).getD (.int 0) = .int (u (-1)) := by rw [tw]; exact congrArg D.int (hc (-1))
 have cB : Chg [] st st₅ := cA.fresh hc' (y8 (lin2 [_,_,_] 0 V0 V1 1 V2 V1 1 V0 V2 tt hlf l₁))
 cases named with
 | true =>
  have q := q _ cB
  rw [show true = (Int.ofNat mk.length == 0) by rw [hno]; rfl] at q
  exact q
 | false =>
  refine zA hs₅ ?_
  refine zA hs₅ ?_
  conv => whnf
  rw [hgt]
  have q := q _ cB
  rw [show true = (Int.ofNat mk.length == if ((u (-1) : Nat) : Int) < 1 then ((u (-1) : Nat) : Int) else 1) by
   rw [hno, eq_comm, beq_iff_eq]
   simp only [Bool.false_eq_true, if_false]
   by_cases h : ((u (-1) : Nat) : Int) < 1
   ·rw [if_pos h]; show ((min 1 (u (-1)) : Nat) : Int) = _; omega
   ·rw [if_neg h]; show ((min 1 (u (-1)) : Nat) : Int) = _; omega] at q
  exact q
end
theorem oR {c : Ct} {x : Int} (h : c.1.Nodup) : (c.bump x).1.Nodup := by
 have := tq (l := c.2.map D.int) (x := x) (d := .int (c.get x + 1)) h
 rw [rF] at this
 exact this
mutual
theorem Tree.cnt_nd : ∀ (t : Tree) (c : Ct), c.1.Nodup → (t.cnt c).1.Nodup
 | .nothing, c, h => by rw [Tree.cnt]; exact oR h
 | .leaf n bs o, c, h => by rw [Tree.cnt]; exact OTree.cnt_nd o _ (oR h)
 | .switch x b o, c, h => by rw [Tree.cnt]; exact OTree.cnt_nd o _ (Brs.cnt_nd b c h)
theorem OTree.cnt_nd : ∀ (t : OTree) (c : Ct), c.1.Nodup → (t.cnt c).1.Nodup
 | .none, c, h => by rw [OTree.cnt]; exact h
 | .some t, c, h => by rw [OTree.cnt]; exact Tree.cnt_nd t c h
theorem Brs.cnt_nd : ∀ (t : Brs) (c : Ct), c.1.Nodup → (t.cnt c).1.Nodup
 | .nil, c, h => by rw [Brs.cnt]; exact h
 | .cons k fs t r, c, h => by rw [Brs.cnt]; exact Brs.cnt_nd r _ (Tree.cnt_nd t c h)
end
theorem qf : ∀ {ks : List Int} {l : List D}, ks.Nodup → ∀ p ∈ ks.zip l, (ks.zip l).lookup p.1 = some p.2
 | [], l, _, p, hp => by simp at hp
 | k :: ks, [], _, p, hp => by simp at hp
 | k :: ks, a :: l, hn, p, hp => by
  rw [List.nodup_cons] at hn
  rw [List.zip_cons_cons, List.lookup_cons]
  rw [List.zip_cons_cons] at hp
  rcases List.mem_cons.mp hp with rfl | z
  ·simp
  ·have : p.1 ∈ ks := (List.of_mem_zip z).1
   have hne : p.1 ≠ k := fun e => hn.1 (e ▸ this)
   rw [beq_eq_false_iff_ne.mpr hne]
   exact qf hn.2 p z
theorem oS {js : List Int} {m : List D} : ∀ (ks : List Int) (l : List Int), (∀ p ∈ ks.zip (l.map D.int), (js.zip m).lookup p.1 = some p.2) → dictEqI.go js m ks (l.map D.int) = some true
 | [], l, _ => by cases l <;> rfl
 | k :: ks, [], _ => rfl
 | k :: ks, x :: l, h => by
  rw [List.map_cons, dictEqI.go]
  have := h (k, .int x) (.head _)
  rw [this]
  have e : eqD 1 (.int x) (.int x) = some true := by show some (x == x) = _; simp
  dsimp only
  rw [e]
  exact oS ks l fun p hp => h p (by rw [List.map_cons, List.zip_cons_cons]; exact List.mem_cons_of_mem _ hp)
theorem nR {ks : List Int} {l : List Int} (hn : ks.Nodup) : dictEqI ks (l.map D.int) ks (l.map D.int) = some true := by
 unfold dictEqI
 rw [if_neg nofun]
 exact oS ks l (qf hn)
theorem i4 {j : Nat} (h : j < 100) : (vS j).length ≤ 4 := by
 have e : (strOf (j : Int)).length = j.repr.length := by
  unfold strOf Str.length
  rw [Str.ofString_eq_toList]
  simp only [List.size_toArray, List.length_map]
  rfl
 have := (Nat.length_repr_le_iff (n := j) (k := 2) (by decide)).mpr h
 have hv : (Str.ofString "v.").length = 2 := by decide +kernel
 unfold vS
 rw [Str.length_append]; exact lin3 [_,_,_] 0 (.a V0 V1) (.n 4) 1 V1 V2 1 V2 U2 1 V0 U2 tt (el e) this (el hv)
noncomputable def lA (j : Nat) : Str := Str.ofString "s" ++ strOf (j : Int)
noncomputable def zc (n : Nat) : List Str := (List.range n).map lA
theorem lB {j : Nat} (h : j < 100) : (lA j).length ≤ 4 := by
 have e : (strOf (j : Int)).length = j.repr.length := by
  unfold strOf Str.length
  rw [Str.ofString_eq_toList]
  simp only [List.size_toArray, List.length_map]
  rfl
 have := (Nat.length_repr_le_iff (n := j) (k := 2) (by decide)).mpr h
 have hv : (Str.ofString "s").length = 1 := by decide +kernel
 unfold lA
 rw [Str.length_append]; exact lin3 [_,_,_] 0 (.a V0 V1) (.n 4) 1 V1 V2 1 V2 U2 1 V0 U1 tt (el e) this (el hv)
noncomputable abbrev RawT := List Pat × Bool
theorem wa {rows : List RowT} : linesOf rows = (rows.map (·.1)).zipIdx.map fun p => zk p.2 p.1 := by
 unfold linesOf
 rw [List.zipIdx_map, List.map_map]
 rfl
noncomputable def zy (R : List RawT) : List RowT := R.map fun x => (x.1, D.none, x.2)
theorem pS {rows : List RowT} {R : List RawT} (h : rows.map (fun r => (r.1, r.2.2)) = R) : linesOf rows = linesOf (zy R) ∧ zN rows = zN (zy R) ∧ rows.length = R.length := by
 subst h
 rw [wa, wa]
 unfold zN zy
 refine ⟨?_, ?_, by simp⟩
 ·rw [List.map_map, List.map_map]; rfl
 ·rw [List.map_map, List.map_map]; rfl
structure RawOk (K : List Nat) (R : List RawT) : Prop where
 kinds : ∀ k ∈ K, k = 1 ∨ k = 2
 klen : K.length ≤ 3
 rlen : R.length ≤ 4
 fits : ∀ x ∈ R, Fits K x.1
 dep : ∀ x ∈ R, ∀ p ∈ x.1, p.dep ≤ 1
theorem lC : ∀ {K : List Nat}, (∀ k ∈ K, k = 1 ∨ k = 2) → K.sum ≤ 2 * K.length
 | [], _ => by simp
 | k :: K, h => by
  have := lC (K := K) fun k hk => h k (by simp [hk])
  have := h k (.head _)
  simp; omega
theorem vc {K : List Nat} {R : List RawT} (h : RawOk K R) {rows : List RowT} (hr : rows.map (fun r => (r.1, r.2.2)) = R) {cols : List Str} (hc : K.length = cols.length) :
  LinesOk rows.length K cols (linesOf rows) ∧ (∀ l ∈ linesOf rows, LnG rows l) ∧ K.sum + rows.length < 11 ∧ ∀ c, TrOk rows 11 4374 c (z9 (zN rows) 11 cols (linesOf rows) c) := by
 have hl : rows.length = R.length := by rw [← hr, List.length_map]
 have hS := lC h.kinds
 have h1 := h.klen
 have h2 := h.rlen
 have hll : (linesOf rows).length = rows.length := by unfold linesOf; rw [List.length_map, List.length_zipIdx]
 have hrow : ∀ (i : Nat) (r : RowT), rows[i]? = some r → Fits K r.1 ∧ r.1.length ≤ 3 := by
  intro i r e
  have hm : (r.1, r.2.2) ∈ R := by rw [← hr]; exact List.mem_map.mpr ⟨r, List.mem_of_getElem? e, rfl⟩
  have hf := h.fits _ hm
  exact ⟨hf, by rw [hf.len]; exact lin1 [_] 0 V0 (.n 3) 1 V0 (.n 3) tt h1⟩
 have hline : ∀ l ∈ linesOf rows, E2 fun (i : Nat) (r : RowT) => rows[i]? = some r ∧ l = zk i r.1 := by
  intro l hl'
  unfold linesOf at hl'
  obtain ⟨p, hp, rfl⟩ := List.mem_map.mp hl'
  have hym := List.mem_zipIdx' hp
  exact ⟨p.2, p.1, by rw [List.getElem?_eq_getElem hym.1]; exact congrArg some hym.2.symm, rfl⟩
 have hok : ∀ l ∈ linesOf rows, LnOk rows.length K l ∧ LnG rows l := by
  intro l hl'
  obtain ⟨i, r, e, rfl⟩ := hline l hl'
  obtain ⟨f1, f2⟩ := hrow i r e
  have hi := (List.getElem?_eq_some_iff.mp e).1
  have hv := za r.1
  refine ⟨⟨f1, hi, ?_⟩, ⟨hi, fun U r' e' x hx => ?_, ?_⟩⟩
  ·show 0 + (rowVars r.1).length ≤ 100; exact lin2 [_,_] 0 (.a U0 V0) U100 1 V1 (.n 3) 1 V0 V1 tt f2 hv
  ·have : r' = r := by rw [show (zk i r.1).number = i from rfl, e] at e'; exact (Option.some.inj e').symm
   subst this; exact .inr hx
  ·show 0 + (rowVars r.1).length ≤ 12; exact lin2 [_,_] 0 (.a U0 V0) (.n 12) 1 V1 (.n 3) 1 V0 V1 tt f2 hv
 refine ⟨⟨hc, by exact lin2 [_,_] 0 V0 U100 1 V0 V1 1 V1 (.n 3) tt (er hc) h1, by exact lin3 [_,_,_] 0 V0 U100 1 V1 V2 1 V2 (.n 4) 1 V0 V1 tt (el hl) h2 (el hll), fun l hl' => (hok l hl').1⟩, fun l hl' => (hok l hl').2, by exact lin4 [_,_,_,_] 0 (.a (.a V0 V1) U1) (.n 11) 1 V1 V2 1 V0 (.m 2 V3) 2 V3 (.n 3) 1 V2 (.n 4) tt (el hl) hS h1 h2, fun c => ?_⟩
 refine (w9 11 K cols (linesOf rows) c hc hok (by exact lin5 [_,_,_,_,_] 0 (.a (.a V0 V1) U1) (.n 11) 1 V2 V3 1 V0 (.m 2 V4) 2 V4 (.n 3) 1 V3 (.n 4) 1 V1 V2 tt (el hl) hS h1 h2 (el hll))).mono (Nat.le_refl _) ?_
 rw [hll]
 have h3 : 3 ^ K.sum ≤ 3 ^ 6 := Nat.pow_le_pow_right (by exact lin0 [] 0 (.a U0 U1) (.n 3) tt) (by exact lin2 [_,_] 0 V0 (.n 6) 1 V0 (.m 2 V1) 2 V1 (.n 3) tt hS h1)
 exact Nat.mul_le_mul h3 (show rows.length + 2 ≤ 6 by exact lin2 [_,_] 0 (.a V0 U2) (.n 6) 1 V0 V1 1 V1 (.n 4) tt (el hl) h2)
structure Base (kc : Nat) (st : St) : Prop where
 tab : st.sto[0]? = some .tab
 cons : st.sto[kc]? = some (.dS consK xX) ∨ st.sto[kc]? = some (.fS consK xX)
theorem Base.keep {kc : Nat} {st st' : St} {l : List Nat} (h : Base kc st) (c : Chg l st st') (n : 0 ∉ l ∧ kc ∉ l) : Base kc st' := ⟨c.get h.tab n.1, h.cons.imp (fun z => c.get z n.2) fun z => c.get z n.2⟩
theorem Base.lt {kc : Nat} {st : St} (h : Base kc st) : 0 < st.sto.length ∧ kc < st.sto.length := ⟨zM h.tab, h.cons.elim zM zM⟩
theorem Base.pos {kc : Nat} {st : St} (h : Base kc st) : kc ≠ 0 := fun e => by
 have ht := h.tab
 subst e
 rcases h.cons with k | k <;> (rw [ht] at k; cases k)
theorem SrcP.lt {k : Nat} {st : St} (h : SrcP k st) : k < st.sto.length := by obtain ⟨_, _, e⟩ := h; exact zM e
theorem wM {st : St} {a b : Nat} {x y : MO} (h : st.sto[a]? = some x) (k : st.sto[b]? = some y) (n : x = y → False) : a ≠ b := fun e => by subst e; rw [h] at k; exact n (Option.some.inj k)
theorem pT {R : List RawT} : R.zipIdx.map (fun p => (zk p.2 p.1.1).d) = (linesOf (zy R)).map Ln.d := by
 rw [wa]
 unfold zy
 rw [List.map_map, List.map_map, List.zipIdx_map, List.map_map]
 rfl
theorem lD {K : List Nat} {R : List RawT} (h : RawOk K R) (hR : R ≠ []) {rows : List RowT} (hr : rows.map (fun r => (r.1, r.2.2)) = R) {cols : List Str} (hc : K.length = cols.length) : 1 ≤ (z9 (zN rows) 11 cols (linesOf rows) 0).1.use 0 := by
 obtain ⟨hL, hG, hN, _⟩ := vc h hr hc
 cases hrs : rows with
 | nil => subst hr; rw [hrs] at hR; exact absurd rfl hR
 | cons r0 rr =>
  have hlo : linesOf rows = zk 0 r0.1 :: ((rr.zipIdx 1).map fun p => zk p.2 p.1.1) := by unfold linesOf; rw [hrs, List.zipIdx_cons, List.map_cons]
  have hlen : ((rr.zipIdx 1).map fun p : RowT × Nat => zk p.2 p.1.1).length + 1 = rows.length := by rw [hrs]; simp
  rw [← hrs, hlo]
  refine sF (rows := rows) (F := rows.length) 11 K cols (zk 0 r0.1) _ 0 hc (fun l' hl' => ?_) (by exact lin2 [_,_,_] 0 (.a (.a V0 S1) U1) (.n 11) 1 (.a (.a V0 V2) U1) (.n 11) 1 S1 V2 tt hN (el hlen)) rfl
  rw [← hlo] at hl'
  exact ⟨hL.ok l' hl', hG l' hl'⟩
structure LW (kc ks kl kr ko kf m : Nat) (a b e : MO) (st : St) : Prop where
 base : Base kc st
 src : SrcP ks st
 lab : qb kl m st
 rr : st.sto[kr]? = some a
 ro : st.sto[ko]? = some b
 rf : st.sto[kf]? = some e
 ord : 0 < kc ∧ kc < ks ∧ ks < kl ∧ kl < kr ∧ kr < ko ∧ ko < kf
section
variable {kc ks kl kr ko kf m : Nat} {a b e : MO} {st st' : St}
theorem LW.keep {l : List Nat} (h : LW kc ks kl kr ko kf m a b e st) (c : Chg l st st') (n : ∀ x ∈ l, kf < x) : LW kc ks kl kr ko kf m a b e st' := by
 have ho := h.ord
 have f : ∀ x, x ≤ kf → x ∉ l := fun x hx z => Nat.lt_irrefl _ (Nat.lt_of_lt_of_le (n x z) hx)
 exact ⟨h.base.keep c ⟨f _ (by exact lin0 [_] 0 U0 V0 tt), f _ (by exact lin5 [_,_,_,_,_,_] 0 V0 V1 1 S0 V2 1 S2 V3 1 S3 V4 1 S4 V5 1 S5 V1 tt ho.2.1 ho.2.2.1 ho.2.2.2.1 ho.2.2.2.2.1 ho.2.2.2.2.2)⟩, h.src.keep c (f _ (by exact lin4 [_,_,_,_,_] 0 V0 V1 1 S0 V2 1 S2 V3 1 S3 V4 1 S4 V1 tt ho.2.2.1 ho.2.2.2.1 ho.2.2.2.2.1 ho.2.2.2.2.2)), c.get h.lab (f _ (by exact lin3 [_,_,_,_] 0 V0 V1 1 S0 V2 1 S2 V3 1 S3 V1 tt ho.2.2.2.1 ho.2.2.2.2.1 ho.2.2.2.2.2)), c.get h.rr (f _ (by exact lin2 [_,_,_] 0 V0 V1 1 S0 V2 1 S2 V1 tt ho.2.2.2.2.1 ho.2.2.2.2.2)), c.get h.ro (f _ (by exact lin1 [_,_] 0 V0 V1 1 S0 V1 tt ho.2.2.2.2.2)), c.get h.rf (f _ (Nat.le_refl _)), ho⟩
theorem LW.new (h : LW kc ks kl kr ko kf m a b e st) (c : Chg [] st st') : LW kc ks kl kr ko kf m a b e st' := h.keep c fun U z => nm z
theorem LW.src' (h : LW kc ks kl kr ko kf m a b e st) (c : Chg [ks] st st') (hs : SrcP ks st') : LW kc ks kl kr ko kf m a b e st' := by
 have ho := h.ord
 exact ⟨h.base.keep c (by simp; exact ⟨Nat.ne_of_lt (lin2 [_,_] 1 (.a U0 U1) V0 1 (.a U0 U1) V1 1 S1 V0 tt ho.1 ho.2.1), Nat.ne_of_lt (lin1 [_,_] 0 S0 V1 1 S0 V1 tt ho.2.1)⟩), hs, c.get h.lab (ne1 (Nat.ne_of_gt (lin1 [_,_] 0 S0 V1 1 S0 V1 tt ho.2.2.1))), c.get h.rr (ne1 (Nat.ne_of_gt (lin2 [_,_,_] 0 S0 V1 1 S0 V2 1 S2 V1 tt ho.2.2.1 ho.2.2.2.1))), c.get h.ro (ne1 (Nat.ne_of_gt (lin3 [_,_,_,_] 0 S0 V1 1 S0 V2 1 S2 V3 1 S3 V1 tt ho.2.2.1 ho.2.2.2.1 ho.2.2.2.2.1))), c.get h.rf (ne1 (Nat.ne_of_gt (lin4 [_,_,_,_,_] 0 S0 V1 1 S0 V2 1 S2 V3 1 S3 V4 1 S4 V1 tt ho.2.2.1 ho.2.2.2.1 ho.2.2.2.2.1 ho.2.2.2.2.2))), ho⟩
theorem LW.lab' {m' : Nat} (h : LW kc ks kl kr ko kf m a b e st) (c : Chg [ks, kl] st st') (hs : SrcP ks st') (hl : qb kl m' st') : LW kc ks kl kr ko kf m' a b e st' := by
 have ho := h.ord
 exact ⟨h.base.keep c (by simp; omega), hs, hl, c.get h.rr (by simp; exact ⟨Nat.ne_of_gt (lin2 [_,_,_] 0 S0 V1 1 S0 V2 1 S2 V1 tt ho.2.2.1 ho.2.2.2.1), Nat.ne_of_gt (lin1 [_,_] 0 S0 V1 1 S0 V1 tt ho.2.2.2.1)⟩), c.get h.ro (by simp; exact ⟨Nat.ne_of_gt (lin3 [_,_,_,_] 0 S0 V1 1 S0 V2 1 S2 V3 1 S3 V1 tt ho.2.2.1 ho.2.2.2.1 ho.2.2.2.2.1), Nat.ne_of_gt (lin2 [_,_,_] 0 S0 V1 1 S0 V2 1 S2 V1 tt ho.2.2.2.1 ho.2.2.2.2.1)⟩), c.get h.rf (by simp; exact ⟨Nat.ne_of_gt (lin4 [_,_,_,_,_] 0 S0 V1 1 S0 V2 1 S2 V3 1 S3 V4 1 S4 V1 tt ho.2.2.1 ho.2.2.2.1 ho.2.2.2.2.1 ho.2.2.2.2.2), Nat.ne_of_gt (lin3 [_,_,_,_] 0 S0 V1 1 S0 V2 1 S2 V3 1 S3 V1 tt ho.2.2.2.1 ho.2.2.2.2.1 ho.2.2.2.2.2)⟩), ho⟩
theorem LW.rr' {a' : MO} (h : LW kc ks kl kr ko kf m a b e st) (c : Chg [kr] st st') (hs : st'.sto[kr]? = some a') : LW kc ks kl kr ko kf m a' b e st' := by
 have ho := h.ord
 exact ⟨h.base.keep c (by simp; exact ⟨Nat.ne_of_lt (lin4 [_,_,_,_] 3 (.a U0 U1) V0 1 (.a U0 U1) V1 1 S1 V2 1 S2 V3 1 S3 V0 tt ho.1 ho.2.1 ho.2.2.1 ho.2.2.2.1), Nat.ne_of_lt (lin3 [_,_,_,_] 0 S0 V1 1 S0 V2 1 S2 V3 1 S3 V1 tt ho.2.1 ho.2.2.1 ho.2.2.2.1)⟩), h.src.keep c (ne1 (Nat.ne_of_lt (lin2 [_,_,_] 0 S0 V1 1 S0 V2 1 S2 V1 tt ho.2.2.1 ho.2.2.2.1))), c.get h.lab (ne1 (Nat.ne_of_lt (lin1 [_,_] 0 S0 V1 1 S0 V1 tt ho.2.2.2.1))), hs, c.get h.ro (ne1 (Nat.ne_of_gt (lin1 [_,_] 0 S0 V1 1 S0 V1 tt ho.2.2.2.2.1))), c.get h.rf (ne1 (Nat.ne_of_gt (lin2 [_,_,_] 0 S0 V1 1 S0 V2 1 S2 V1 tt ho.2.2.2.2.1 ho.2.2.2.2.2))), ho⟩
theorem LW.ro' {a' : MO} (h : LW kc ks kl kr ko kf m a b e st) (c : Chg [ko] st st') (hs : st'.sto[ko]? = some a') : LW kc ks kl kr ko kf m a a' e st' := by
 have ho := h.ord
 exact ⟨h.base.keep c (by simp; exact ⟨Nat.ne_of_lt (lin5 [_,_,_,_,_] 4 (.a U0 U1) V0 1 (.a U0 U1) V1 1 S1 V2 1 S2 V3 1 S3 V4 1 S4 V0 tt ho.1 ho.2.1 ho.2.2.1 ho.2.2.2.1 ho.2.2.2.2.1), Nat.ne_of_lt (lin4 [_,_,_,_,_] 0 S0 V1 1 S0 V2 1 S2 V3 1 S3 V4 1 S4 V1 tt ho.2.1 ho.2.2.1 ho.2.2.2.1 ho.2.2.2.2.1)⟩), h.src.keep c (ne1 (Nat.ne_of_lt (lin3 [_,_,_,_] 0 S0 V1 1 S0 V2 1 S2 V3 1 S3 V1 tt ho.2.2.1 ho.2.2.2.1 ho.2.2.2.2.1))), c.get h.lab (ne1 (Nat.ne_of_lt (lin2 [_,_,_] 0 S0 V1 1 S0 V2 1 S2 V1 tt ho.2.2.2.1 ho.2.2.2.2.1))), c.get h.rr (ne1 (Nat.ne_of_lt (lin1 [_,_] 0 S0 V1 1 S0 V1 tt ho.2.2.2.2.1))), hs, c.get h.rf (ne1 (Nat.ne_of_gt (lin1 [_,_] 0 S0 V1 1 S0 V1 tt ho.2.2.2.2.2))), ho⟩
theorem LW.rf' {a' : MO} (h : LW kc ks kl kr ko kf m a b e st) (c : Chg [kf] st st') (hs : st'.sto[kf]? = some a') : LW kc ks kl kr ko kf m a b a' st' := by
 have ho := h.ord
 exact ⟨h.base.keep c (by simp; exact ⟨Nat.ne_of_lt (iz [_,_,_,_,_,_] 5 (.a U0 U1) V0 1 (.a U0 U1) V1 1 S1 V2 1 S2 V3 1 S3 V4 1 S4 V5 1 S5 V0 tt ho.1 ho.2.1 ho.2.2.1 ho.2.2.2.1 ho.2.2.2.2.1 ho.2.2.2.2.2), Nat.ne_of_lt (lin5 [_,_,_,_,_,_] 0 S0 V1 1 S0 V2 1 S2 V3 1 S3 V4 1 S4 V5 1 S5 V1 tt ho.2.1 ho.2.2.1 ho.2.2.2.1 ho.2.2.2.2.1 ho.2.2.2.2.2)⟩), h.src.keep c (ne1 (Nat.ne_of_lt (lin4 [_,_,_,_,_] 0 S0 V1 1 S0 V2 1 S2 V3 1 S3 V4 1 S4 V1 tt ho.2.2.1 ho.2.2.2.1 ho.2.2.2.2.1 ho.2.2.2.2.2))), c.get h.lab (ne1 (Nat.ne_of_lt (lin3 [_,_,_,_] 0 S0 V1 1 S0 V2 1 S2 V3 1 S3 V1 tt ho.2.2.2.1 ho.2.2.2.2.1 ho.2.2.2.2.2))), c.get h.rr (ne1 (Nat.ne_of_lt (lin2 [_,_,_] 0 S0 V1 1 S0 V2 1 S2 V1 tt ho.2.2.2.2.1 ho.2.2.2.2.2))), c.get h.ro (ne1 (Nat.ne_of_lt (lin1 [_,_] 0 S0 V1 1 S0 V1 tt ho.2.2.2.2.2))), hs, ho⟩
end
noncomputable def xx (R : List RawT) : List D := R.map fun x => .list (x.1.map Pat.d)
noncomputable def vI (R : List RawT) : List D := R.map fun x => .list ((rowVars x.1).map .str)
noncomputable def xE (R : List RawT) : List D := R.map fun x => .bool x.2
noncomputable def lawB : X := match ir_law.dr 2 with
 | .seq (.for _ _ b) _ => b
 | x => x
noncomputable def LR (s : D) (kc : Nat) (ρ : Rg) : Prop := ∃ a b c d e f g h i j k l m n o p q r t, ρ = [some s, some (.mref kc), a, b, c, d, e, f, g, h, i, j, k, l, m, n, o, p, q, r, t]
section
variable {n : Nat} {st : St} {Q : D → St → Prop}
theorem pU {rows : List RowT} (hR : RowsOk rows) {kc ka kn : Nat} {cols : List Str} {K : List Nat} {N : Nat} {fail : D} {fv : Bool} (hL : LinesOk rows.length K cols (linesOf rows)) (hN : K.sum + rows.length < N)
  {T : Tree × Nat} (hT : z9 (zN rows) N cols (linesOf rows) 0 = T) (ht1 : T.2 < 10 ^ 6) (ht2 : T.1.dep < N + 1) (ht3 : T.1.size < 10 ^ 6) (ht4 : T.1.good (leafOf rows))
  (hf : (fv = true ∧ ∃ x, fail = varD x) ∨ (fv = false ∧ ∃ t, t ≠ 0 ∧ t ≤ st.nt ∧ fail = conE t zj [])) (h : Env kc ka kn (fun U => 0) st)
  (q : ∀ st' d l P fs τ k, Chg [kc, kn] st st' → (st'.sto[kc]? = some (.dS consK xX) ∨ st'.sto[kc]? = some (.fS consK xX)) → Nd [d] l → Fin rows (fun x => T.1.use x) fv (50 * T.1.size + 402) P fs τ k l → Q d st') :
  zD CQ (n + 3 * N + 60 + 1) (.val (.ref 1073)) [.list (cols.map .str), .list (rows.map RowT.d), fail, .mref kc, ys ka kn] st Q := by
 refine zE ⟨rfl, ?_⟩
 exact tQ hR hL hN hT ht1 ht2 ht3 ht4 hf h q
theorem qg {m k : Nat} (hm : m ≤ 12) (hk : k ≤ 3) : ∀ x ∈ yU m ++ zc k, x.length ≤ 4 := by
 intro x hx
 rcases List.mem_append.mp hx with z | z
 ·unfold yU at z
  obtain ⟨j, hj, rfl⟩ := List.mem_map.mp z
  exact i4 (by simp at hj; exact lin2 [_,_] 0 (.a S0 U1) U100 1 V1 (.n 12) 1 S0 V1 tt hm hj)
 ·unfold zc at z
  obtain ⟨j, hj, rfl⟩ := List.mem_map.mp z
  exact lB (by simp at hj; exact lin2 [_,_] 0 S0 U100 1 V1 (.n 3) 1 S0 V1 tt hk hj)
theorem kx {m k : Nat} (hm : m ≤ 12) (hk : k ≤ 3) : ∀ x ∈ yU m ++ zc k ++ [Str.ofString "f"], x.length ≤ 4 := by
 intro x hx
 rcases List.mem_append.mp hx with z | z
 ·exact qg hm hk x z
 ·simp at z; subst z; decide +kernel
theorem gr {s : D} {kc ks kl kr ko kf m k1 : Nat} {K : List Nat} {R : List RawT} {rows : List RowT} {T : Tree × Nat} {a2 a3 a4 a7 a11 a12 a14 a18 a19 a20 : Option D} {e : MO} {Kc : Out → St → Prop} (hRaw : RawOk K R) (hne : R ≠ []) (hm : m ≤ 12)
  (hw : LW kc ks kl kr ko kf m e (.lst (vI R)) (.fz (xE R)) st) (hrows : rows.map (fun r => (r.1, r.2.2)) = R) (hRO : RowsOk rows) (hT : T = z9 (zN (zy R)) 11 (zc K.length) (linesOf (zy R)) 0) (hk1 : kf < k1) (hs1 : st.sto[k1]? = some (.dI (T.1.cnt ([], [])).1 ((T.1.cnt ([], [])).2.map .int)))
  (q : ∀ ρ' st', LR s kc ρ' → Base kc st' → Kc (.fall ρ') st') :
  (run (zD CQ (n + 149)) (lawB.dr 10)).s [some s, some (.mref kc), a2, a3, a4, some (.mref ks), some (.mref kl), a7, some (.mref kr), some (.mref ko), some (.mref kf), a11, a12, some (.list ((zc K.length).map .str)), a14, some T.1.d, some (.mref k1), some (.list (rows.map RowT.d)), a18, a19, a20] st Kc := by
 have hcl : (zc K.length).length = K.length := by unfold zc; simp
 have hrl : R.length = rows.length := by rw [← hrows, List.length_map]
 have hkl := hRaw.klen
 have ho := hw.ord
 have rest : ∀ (named : Bool) (nn : D) (st₁ : St), st₁.sto[k1]? = some (.dI (T.1.cnt ([], [])).1 ((T.1.cnt ([], [])).2.map .int)) → LW kc ks kl kr ko kf m e (.lst (vI R)) (.fz (xE R)) st₁ → ((named = true ∧ ∃ x, nn = varD x) ∨ (named = false ∧ ∃ t, A3 (t ≠ 0) (t ≤ st₁.nt) (nn = conE t zj []))) →
   (run (zD CQ (n + 149)) (lawB.dr 12)).s [some s, some (.mref kc), a2, a3, a4, some (.mref ks), some (.mref kl), a7, some (.mref kr), some (.mref ko), some (.mref kf), a11, a12, some (.list ((zc K.length).map .str)), a14, some T.1.d, some (.mref k1), some (.list (rows.map RowT.d)), some (.bool named), some nn, a20] st₁ Kc := by
  intro named nn st₁ hs1 hw hnn
  have hlb : st₁.sto[kl]? = some (.lst ((yU m).map .str)) := hw.lab
  refine zA hlb ?_
  refine And.intro (yG (z5 (by rw [yh]; exact lin1 [_] 0 V0 U100 1 V0 (.n 12) tt hm)) (z5 (by exact lin2 [_,_] 0 V0 U100 1 V0 V1 1 V1 (.n 3) tt (el hcl) hkl))) ?_
  refine And.intro (uG (uF (z5 (by rw [yh]; exact lin1 [_] 0 V0 U100 1 V0 (.n 12) tt hm)) (z5 (by exact lin2 [_,_] 0 V0 U100 1 V0 V1 1 V1 (.n 3) tt (el hcl) hkl))) (Nat.le_of_ble_eq_true rfl)) ?_
  conv => whnf
  rw [show (yU m).map D.str ++ (zc K.length).map D.str ++ [D.str (Str.ofString "f")] = (yU m ++ zc K.length ++ [Str.ofString "f"]).map D.str by rw [List.map_append, List.map_append]; rfl]
  refine qV (n := n + 146) (by rw [List.length_append, List.length_append, yh, hcl, List.length_singleton]; exact lin2 [_,_] 0 (.a (.a V0 V1) U1) U100 1 V0 (.n 12) 1 V1 (.n 3) tt hm hkl) (kx hm hkl) hw.base.cons fun st₂ ka kn c₂ e₂ hE => ?_
  have hw := hw.new c₂
  have hs1 := c₂.get hs1 List.not_mem_nil
  obtain ⟨hL, hG, hN, hTr⟩ := vc hRaw hrows (cols := zc K.length) hcl.symm
  obtain ⟨ls1, ls2, ls3⟩ := pS hrows
  have hT2 : z9 (zN rows) 11 (zc K.length) (linesOf rows) 0 = T := by rw [ls1, ls2, ← hT]
  have hTr := hTr 0
  have hhead := lD hRaw hne hrows (cols := zc K.length) hcl.symm
  rw [hT2] at hTr hhead
  have t2 := hTr.dep
  have t3 := hTr.size
  have t4 := hTr.cnt
  rw [show n + 149 = n + 55 + 3 * 11 + 60 + 1 by exact Nat.le_antisymm (lin0 [_] 0 (.a V0 (.n 149)) (.a (.a (.a (.a V0 (.n 55)) (.n 33)) (.n 60)) U1) tt) (lin0 [_] 0 (.a (.a (.a (.a V0 (.n 55)) (.n 33)) (.n 60)) U1) (.a V0 (.n 149)) tt)]
  refine pU (N := 11) (n := n + 55) hRO hL hN hT2 (by exact lin1 [_] 0 S0 (.n 1000000) 1 S0 (.n 4374) tt t4) (by exact lin1 [_] 0 S0 (.n 12) 1 V0 (.n 11) tt t2) (by exact lin1 [_] 0 S0 (.n 1000000) 1 S0 (.n 4374) tt t3) hTr.good (hnn.imp id fun ⟨a, t, b, c, e⟩ => ⟨a, t, b, Nat.le_trans c c₂.nt, e⟩) hE fun st₃ d l P fs τ kk c₃ hcons hNd hF => ?_
  obtain ⟨nks, nvs, hkn, _⟩ := hE.num
  have m2 := wM hkn hw.ro (by intro e; cases e)
  have m3 := wM hkn hw.rf (by intro e; cases e)
  have m4 := wM hkn hs1 (by intro e; cases e)
  have m5 := wM hkn hw.base.tab (by intro e; cases e)
  have h0 := c₃.get hw.base.tab (by simp; exact ⟨Nat.ne_of_lt (lin1 [_] 0 (.a U0 U1) V0 1 (.a U0 U1) V0 tt ho.1), Ne.symm m5⟩)
  have hro := c₃.get hw.ro (by simp; exact ⟨Nat.ne_of_gt (lin4 [_,_,_,_,_] 0 S0 V1 1 S0 V2 1 S2 V3 1 S3 V4 1 S4 V1 tt ho.2.1 ho.2.2.1 ho.2.2.2.1 ho.2.2.2.2.1), Ne.symm m2⟩)
  have hrf := c₃.get hw.rf (by simp; exact ⟨Nat.ne_of_gt (lin5 [_,_,_,_,_,_] 0 S0 V1 1 S0 V2 1 S2 V3 1 S3 V4 1 S4 V5 1 S5 V1 tt ho.2.1 ho.2.2.1 ho.2.2.2.1 ho.2.2.2.2.1 ho.2.2.2.2.2), Ne.symm m3⟩)
  have hs1 := c₃.get hs1 (by simp; exact ⟨Nat.ne_of_gt (iz [_,_,_,_,_,_,_] 0 S0 V1 1 S2 V1 1 S0 V3 1 S3 V4 1 S4 V5 1 S5 V6 1 S6 V2 tt hk1 ho.2.1 ho.2.2.1 ho.2.2.2.1 ho.2.2.2.2.1 ho.2.2.2.2.2), Ne.symm m4⟩)
  refine zA hro ?_
  refine zP hro fun st₄ c₄ e₄ hro => ?_
  have hrf := c₄.get hrf (ne1 (Nat.ne_of_gt (lin1 [_,_] 0 S0 V1 1 S0 V1 tt ho.2.2.2.2.2)))
  have hs1 := c₄.get hs1 (ne1 (Nat.ne_of_gt (lin2 [_,_,_] 0 S0 V1 1 S2 V1 1 S0 V2 tt hk1 ho.2.2.2.2.2)))
  refine zA hrf ?_
  conv => whnf
  rw [show vI R = rows.map fun r => D.list ((rowVars r.1).map D.str) by rw [← hrows]; unfold vI; rw [List.map_map]; rfl]
  have hcc : ∀ y, (T.1.cnt ([], [])).get y = (T.1.use y : Int) := fun y => by rw [(Tree.cnt_get y T.1 ([], []) rfl).2.1, show Ct.get ([], []) y = 0 from rfl]; simp
  refine tR (n := n + 145) hRO hNd hF (by exact lin1 [_] 0 (.a (.m 50 V0) (.n 402)) (.n 900000) 50 S0 (.n 4374) tt t3) hcc hs1 fun st₅ c₅ => ?_
  have hs1 := c₅.get hs1 List.not_mem_nil
  have hB : Base kc st₅ := ⟨c₅.get (c₄.get h0 (by simp; exact Nat.ne_of_lt (lin5 [_,_,_,_,_] 4 (.a U0 U1) V0 1 (.a U0 U1) V1 1 S1 V2 1 S2 V3 1 S3 V4 1 S4 V0 tt ho.1 ho.2.1 ho.2.2.1 ho.2.2.2.1 ho.2.2.2.2.1))) List.not_mem_nil, hcons.imp (fun z => c₅.get (c₄.get z (by simp; exact Nat.ne_of_lt (lin4 [_,_,_,_,_] 0 S0 V1 1 S0 V2 1 S2 V3 1 S3 V4 1 S4 V1 tt ho.2.1 ho.2.2.1 ho.2.2.2.1 ho.2.2.2.2.1))) List.not_mem_nil) fun z => c₅.get (c₄.get z (by simp; exact Nat.ne_of_lt (lin4 [_,_,_,_,_] 0 S0 V1 1 S0 V2 1 S2 V3 1 S3 V4 1 S4 V1 tt ho.2.1 ho.2.2.1 ho.2.2.2.1 ho.2.2.2.2.1))) List.not_mem_nil⟩
  refine yJ (fun U => ?_) fun U => ?_
  ·refine zA hs1 ?_
   refine zA hs1 ?_
   conv => whnf
   rw [show (xc (T.1.cnt ([], [])).1 ((T.1.cnt ([], [])).2.map D.int) 0).getD (.int 0) = .int (T.1.use 0) by rw [tw]; exact congrArg D.int (hcc 0)]
   refine w0 (decide_eq_false (show ¬ ((T.1.use 0 : Nat) : Int) < 1 by omega)) ?_
   exact q _ _ ⟨_, _, _, _, _, _, _, _, _, _, _, _, _, _, _, _, _, _, _, rfl⟩ hB
  ·exact q _ _ ⟨_, _, _, _, _, _, _, _, _, _, _, _, _, _, _, _, _, _, _, rfl⟩ hB
 refine xU (n := n + 148) (top := 2) hw.src (by decide) fun st₁ r c₁ e₁ hsk hr => ?_
 have hs1 := c₁.get hs1 (ne1 (Nat.ne_of_gt (lin5 [_,_,_,_,_,_] 0 S0 V1 1 S2 V1 1 S0 V3 1 S3 V4 1 S4 V5 1 S5 V2 tt hk1 ho.2.2.1 ho.2.2.2.1 ho.2.2.2.2.1 ho.2.2.2.2.2)))
 have hw := hw.src' c₁ hsk
 refine yJ (fun hz => ?_) fun hz => ?_
 ·have := rest true (varD (Str.ofString "f")) st₁ hs1 hw (.inl ⟨rfl, _, rfl⟩)
  rw [← show ((r : Int) == 0) = true from hz] at this
  conv => whnf
  exact this
 ·have := rest false (conE (st₁.nt + 1) zj []) ⟨st₁.sto, st₁.nt + 1⟩ hs1 (hw.new .tok) (.inr ⟨rfl, _, Nat.succ_ne_zero _, Nat.le_refl _, rfl⟩)
  rw [← show ((r : Int) == 0) = false from hz] at this
  conv => whnf
  exact this
theorem lE {R : List RawT} {i : Nat} {x : RawT} (h : R[i]? = some x) : (xx R)[i]? = some (.list (x.1.map Pat.d)) ∧ (vI R)[i]? = some (.list ((rowVars x.1).map .str)) ∧ (xE R)[i]? = some (.bool x.2) := by
 unfold xx vI xE
 rw [List.getElem?_map, List.getElem?_map, List.getElem?_map, h]; exact ⟨rfl, rfl, rfl⟩
set_option tactic.hygienic true in
theorem gu {s : D} {kc ks kl kr ko kf m : Nat} {K : List Nat} {R : List RawT} {a2 a3 a4 a11 a12 a13 a14 a15 a16 a17 a18 a19 a20 : Option D} {Kc : Out → St → Prop} (hRaw : RawOk K R) (hne : R ≠ []) (hm : m ≤ 12)
  (hw : LW kc ks kl kr ko kf m (.lst (xx R)) (.lst (vI R)) (.lst (xE R)) st) (q : ∀ ρ' st', LR s kc ρ' → Base kc st' → Kc (.fall ρ') st') :
  (run (zD CQ (n + 149)) (lawB.dr 4)).s [some s, some (.mref kc), a2, a3, a4, some (.mref ks), some (.mref kl), some (.list (K.map fun k => D.str (vr k))), some (.mref kr), some (.mref ko), some (.mref kf), a11, a12, a13, a14, a15, a16, a17, a18, a19, a20] st Kc := by
 have hcl : (zc K.length).length = K.length := by unfold zc; simp
 have hkl := hRaw.klen
 have hrl := hRaw.rlen
 have hs1 : (Str.ofString "s").length = 1 := by decide +kernel
 refine ⟨K.length, ⟨congrArg (fun n : Nat => (n : Int)) (List.length_map ..), zU (by exact lin1 [_] 0 V0 U1000 1 V0 (.n 3) tt hkl)⟩, ?_⟩
 refine zx (fun i : Nat => D.int (Int.ofNat i)) (fun i => D.str (lA i)) (fun y hy C C' k1 => ?_) ?_
 ·have hyl : y < K.length := by simpa using hy
  have hsl := @yz y (by exact lin2 [_,_] 0 S0 (.n 1000000000000000000) 1 V1 (.n 3) 1 S0 V1 tt hkl hyl)
  refine And.intro (show y < 2 ^ 64 by exact lin2 [_,_] 0 S0 (.n 18446744073709551616) 1 V1 (.n 3) 1 S0 V1 tt hkl hyl) ?_
  refine And.intro (zU (show (Str.ofString "s").length + (strOf (y : Int)).length ≤ 1000 by exact lin2 [_,_] 0 (.a V0 V1) U1000 1 V0 U1 1 V1 (.n 18) tt (el hs1) hsl)) ?_
  exact k1
 rw [show (List.range K.length).map (fun i => D.str (lA i)) = (zc K.length).map D.str by unfold zc; rw [List.map_map]; rfl]
 refine zA hw.rr ?_
 refine zP hw.rr fun st₁ c₁ e₁ h₁ => ?_
 have hw := hw.rr' c₁ h₁
 conv => whnf
 unfold xx
 rw [uv]
 refine zx (fun p : RawT × Nat => D.tup [.int (.ofNat p.2), .list (p.1.1.map Pat.d)]) (fun p => (zk p.2 p.1.1).d) (fun y hy C C' k1 => k1) ?_
 rw [pT]
 refine zA hw.rf ?_
 refine zP hw.rf fun st₂ c₂ e₂ h₂ => ?_
 have hw := hw.rf' c₂ h₂
 have hlb : st₂.sto[kl]? = some (.lst ((yU m).map .str)) := hw.lab
 refine zA hlb ?_
 refine And.intro (yG (z5 (by rw [yh]; exact lin1 [_] 0 V0 U100 1 V0 (.n 12) tt hm)) (z5 (by exact lin2 [_,_] 0 V0 U100 1 V0 V1 1 V1 (.n 3) tt (el hcl) hkl))) ?_
 conv => whnf
 rw [← List.map_append]
 refine qV (n := n + 146) (by rw [List.length_append, yh, hcl]; exact lin2 [_,_] 0 (.a V0 V1) U100 1 V0 (.n 12) 1 V1 (.n 3) tt hm hkl) (qg hm hkl) hw.base.cons fun st₃ ka kn c₃ e₃ hE => ?_
 have hw := hw.new c₃
 have hr0 : (zy R).map (fun r => (r.1, r.2.2)) = R := by unfold zy; rw [List.map_map]; exact List.map_id' R
 obtain ⟨hL, hG, hN, hTr⟩ := vc hRaw hr0 (cols := zc K.length) hcl.symm
 have hTr := hTr 0
 have hrl0 : (zy R).length = R.length := by unfold zy; simp
 have hfl0 : (zN (zy R)).length = (zy R).length := by unfold zN; simp
 have hll0 : (linesOf (zy R)).length = (zy R).length := by unfold linesOf; simp
 obtain ⟨T, hT⟩ : ∃ T, T = z9 (zN (zy R)) 11 (zc K.length) (linesOf (zy R)) 0 := ⟨_, rfl⟩
 rw [← hT] at hTr
 have t2 := hTr.dep
 have t3 := hTr.size
 have t4 := hTr.cnt
 rw [show xE R = (zN (zy R)).map D.bool by unfold xE zN zy; rw [List.map_map, List.map_map]; rfl]
 refine oM (falls := zN (zy R)) (by exact lin2 [_,_,_] 0 V0 U100 1 (.a (.a V1 V2) U1) (.n 11) 1 V0 V2 tt hN (el hfl0)) 11 (n + 149) (by exact lin0 [_] 0 (.n 53) (.a V0 (.n 149)) tt) K (zc K.length) (linesOf (zy R)) (fun U => 0) st₃ _ (by rw [hfl0]; exact hL) (by rw [hll0]; exact hN) hE (by rw [← hT]; exact lin1 [_] 0 S0 (.n 1000000000) 1 S0 (.n 4374) tt t4) fun st₄ c₄ e₄ hE₄ => ?_
 rw [← hT]
 obtain ⟨nks, nvs, hkn, _⟩ := hE.num
 have hlb := hw.lab
 obtain ⟨a₈, b₈, hs⟩ := hw.src
 have ho := hw.ord
 have n0 := wM hkn hw.base.tab (by intro e; cases e)
 have n2 := wM hkn hs (by intro e; cases e)
 have n3 := wM hkn hlb (by intro e; cases e)
 have n4 := wM hkn hw.rr (by intro e; cases e)
 have n5 := wM hkn hw.ro (by intro e; cases e)
 have n6 := wM hkn hw.rf (by intro e; cases e)
 have hw : LW kc ks kl kr ko kf m (.fz (xx R)) (.lst (vI R)) (.fz (xE R)) st₄ := ⟨⟨c₄.get hw.base.tab (by simp; exact ⟨Nat.ne_of_lt (lin1 [_] 0 (.a U0 U1) V0 1 (.a U0 U1) V0 tt ho.1), Ne.symm n0⟩), hE₄.cons⟩, hw.src.keep c₄ (by simp; exact ⟨Nat.ne_of_gt (lin1 [_,_] 0 S0 V1 1 S0 V1 tt ho.2.1), Ne.symm n2⟩), c₄.get hlb (by simp; exact ⟨Nat.ne_of_gt (lin2 [_,_,_] 0 S0 V1 1 S0 V2 1 S2 V1 tt ho.2.1 ho.2.2.1), Ne.symm n3⟩), c₄.get hw.rr (by simp; exact ⟨Nat.ne_of_gt (lin3 [_,_,_,_] 0 S0 V1 1 S0 V2 1 S2 V3 1 S3 V1 tt ho.2.1 ho.2.2.1 ho.2.2.2.1), Ne.symm n4⟩), c₄.get hw.ro (by simp; exact ⟨Nat.ne_of_gt (lin4 [_,_,_,_,_] 0 S0 V1 1 S0 V2 1 S2 V3 1 S3 V4 1 S4 V1 tt ho.2.1 ho.2.2.1 ho.2.2.2.1 ho.2.2.2.2.1), Ne.symm n5⟩), c₄.get hw.rf (by simp; exact ⟨Nat.ne_of_gt (lin5 [_,_,_,_,_,_] 0 S0 V1 1 S0 V2 1 S2 V3 1 S3 V4 1 S4 V5 1 S5 V1 tt ho.2.1 ho.2.2.1 ho.2.2.2.1 ho.2.2.2.2.1 ho.2.2.2.2.2), Ne.symm n6⟩), ho⟩
 have hz : (0 : Nat) + T.1.size ≤ sizeLine := Nat.le_trans (show _ ≤ 10 ^ 6 by exact lin1 [_] 0 (.a U0 V0) (.n 1000000) 1 S0 (.n 4374) tt t3) (by decide)
 refine zi fun st₅ k1 c₅ e₅ hs1 hl1 => ?_
 refine mj 12 T.1 (n + 149) (by exact lin1 [_] 0 S0 (.n 12) 1 V0 (.n 11) tt t2) (by exact lin0 [_] 0 (.n 12) (.a V0 (.n 149)) tt) k1 ([], []) st₅ _ rfl hz hs1 fun st₆ c₆ e₆ hs1 => ?_
 refine zi fun st₇ k2 c₇ e₇ hs2 hl2 => ?_
 refine oN 12 T.1 (n + 149) (by exact lin1 [_] 0 S0 (.n 12) 1 V0 (.n 11) tt t2) (by exact lin0 [_] 0 (.n 12) (.a V0 (.n 149)) tt) k2 ([], []) st₇ _ rfl hz hs2 fun st₈ c₈ e₈ hs2 => ?_
 have hk12 : k1 ≠ k2 := by have := zM hs1; exact Nat.ne_of_lt (lin2 [_,_,_] 0 S0 V1 1 V2 V1 1 S0 V2 tt hl2 this)
 have hs1 := c₈.get (c₇.get hs1 nofun) (by simpa using hk12)
 have l₅ := c₅.len
 have l₆ := c₆.len
 have hkf := zM hw.rf
 have hw := hw.new ((((c₅.fresh c₆ (y8 hl1))).trans c₇).fresh c₈ (by simp; exact lin3 [_,_,_,_] 0 V0 V1 1 V2 V1 1 V0 V3 1 V3 V2 tt hl2 l₅ l₆))
 have hdn : (T.1.cnt ([], [])).1.Nodup := Tree.cnt_nd T.1 ([], []) (by simp)
 refine zA hs2 ?_
 refine zA hs1 ?_
 refine zA (nR hdn) ?_
 refine zA hw.rr ?_
 refine ⟨R.length, ⟨congrArg (fun n : Nat => (n : Int)) (List.length_map ..), zU (by exact lin1 [_] 0 V0 U1000 1 V0 (.n 4) tt hrl)⟩, ?_⟩
 refine xp (fun i : Nat => D.int (Int.ofNat i)) (fun d rest acc st' => d ++ rest = List.range R.length ∧ st' = st₈ ∧ ∃ rows : List RowT, acc = rows.map RowT.d ∧ rows.length = d.length ∧ ∀ (i : Nat) (r : RowT), rows[i]? = some r → ∃ x, A4 (R[i]? = some x) (r.1 = x.1) (r.2.2 = x.2) (BodyOk r.2.1 i (rowVars x.1) x.2)) ?_ (done := []) (acc := []) ⟨rfl, rfl, [], rfl, rfl, fun U U h => nn h⟩ ?_
 ·rintro d y rest acc st' C C' ⟨hd, rfl, rows, ha, hrl', hrs⟩ k1 k2
  obtain ⟨rfl, hy⟩ := yg hd
  obtain ⟨x, hx⟩ : ∃ x, R[d.length]? = some x := ⟨_, List.getElem?_eq_getElem hy⟩
  have hxm := List.mem_of_getElem? hx
  obtain ⟨hx1, hx2, hx3⟩ := lE hx
  have hxl := (hRaw.fits x hxm).len
  have hxv := za x.1
  refine zA hw.rr ?_
  refine zA hx1 ?_
  refine zA hw.ro ?_
  refine zA hx2 ?_
  refine zA hw.rf ?_
  refine zA hx3 ?_
  refine qa (n := n + 148) (by exact lin2 [_,_] 0 V0 U100 1 V1 (.n 4) 1 S0 V1 tt hrl hy) (by exact lin3 [_,_,_] 0 V0 U100 1 V1 (.n 3) 1 V2 V1 1 V0 V2 tt hkl (el hxl) hxv) hw.base.tab fun b hb => ?_
  refine zA hw.rf ?_
  refine zA hx3 ?_
  refine k1 _ _ ⟨yI hd, rfl, rows ++ [(x.1, b, x.2)], by rw [ha, List.map_append]; rfl, by simp [hrl'], fun i r hi => ?_⟩
  rw [List.getElem?_append] at hi
  split at hi
  ·exact hrs i r hi
  ·rename_i hlt
   have : i = d.length := by
    have := (List.getElem?_eq_some_iff.mp hi).1
    simp at this; exact Nat.le_antisymm (lin3 [_,_,_,_] 0 V0 V1 1 V2 V1 1 V3 U0 1 V0 (.a V3 V2) tt (el hrl') (el this) sb1) (lin2 [_,_,_] 0 V0 V1 1 V0 V2 1 V2 V1 tt (er hrl') (Nat.le_of_not_lt hlt))
   subst this
   rw [show d.length - rows.length = 0 by exact Nat.le_antisymm (lin2 [_,_,_] 0 V0 U0 1 V1 V2 1 (.a V0 V2) V1 tt (er hrl') (sb3 (lin1 [_,_] 0 V0 V1 1 V0 V1 tt (el hrl')))) (lin0 [_] 0 U0 V0 tt)] at hi
   cases hi
   exact ⟨x, hx, rfl, rfl, hb⟩
 rintro rd st₉ ⟨_, rfl, rows, ha, hrl', hrs⟩
 simp only [List.nil_append, List.length_range] at ha hrl'
 subst ha
 have hrows : rows.map (fun r => (r.1, r.2.2)) = R := by
  apply List.ext_getElem?
  intro i
  rw [List.getElem?_map]
  cases hi : rows[i]? with
  | none =>
   symm
   rw [Option.map_none, List.getElem?_eq_none_iff]
   rw [List.getElem?_eq_none_iff] at hi
   exact lin2 [_,_,_] 0 V0 V1 1 V0 V2 1 V2 V1 tt (er hrl') hi
  | some r =>
   obtain ⟨x, hx, e1, e2, _⟩ := hrs i r hi
   rw [hx, Option.map_some, e1, e2]
 have hRO : RowsOk rows := by
  refine ⟨by exact lin2 [_,_] 0 V0 U10 1 V1 (.n 4) 1 V0 V1 tt hrl (el hrl'), fun i r hi => ?_, fun i r hi => ?_⟩
  ·obtain ⟨x, hx, e1, e2, hb⟩ := hrs i r hi
   rw [e1, e2]; exact hb
  ·obtain ⟨x, hx, e1, e2, hb⟩ := hrs i r hi
   have hxm := List.mem_of_getElem? hx
   rw [e1]
   exact ⟨by rw [(hRaw.fits x hxm).len]; exact lin1 [_] 0 V0 (.n 12) 1 V0 (.n 3) tt hkl, fun p hp => by have := hRaw.dep x hxm p hp; exact lin1 [_] 0 V0 U10 1 V0 U1 tt this⟩
 exact gr hRaw hne hm hw hrows hRO hT (by exact lin2 [_,_,_] 0 S0 V1 1 V2 V1 1 S0 V2 tt hl1 hkf) hs1 q
noncomputable def i5 (zs : List Int) (kc k ks kl kr ko kf : Nat) (K : List Nat) (as : Rg) (d : Nat) (ρ : Rg) (st : St) : Prop := ∃ (a2 a3 x y : Option D) (R : List RawT) (m : Nat), ρ = some (.list (zs.map .int)) :: some (.mref kc) :: a2 :: a3 :: some (.int (.ofNat k)) :: some (.mref ks) :: some (.mref kl) :: some (.list (K.map fun k => D.str (vr k))) :: some (.mref kr) :: some (.mref ko) :: some (.mref kf) :: x :: y :: as ∧
  LW kc ks kl kr ko kf m (.lst (xx R)) (.lst (vI R)) (.lst (xE R)) st ∧ R.length = d ∧ (∀ x ∈ R, Fits K x.1) ∧ (∀ x ∈ R, ∀ p ∈ x.1, p.dep ≤ 1) ∧ m ≤ 3 * R.length
noncomputable def gw : X := match lawB.dr 3 with
 | .seq (.for _ _ b) _ => b
 | x => x
theorem ky {zs : List Int} {kc k ks kl kr ko kf d : Nat} {K : List Nat} {as : Rg} {ρ : Rg} {C : Out → St → Prop} {y : Nat} (hKl : K.length ≤ 3) (hK : ∀ k ∈ K, k = 1 ∨ k = 2) (hd : d ≤ 4) (h : i5 zs kc k ks kl kr ko kf K as d ρ st) (k1 : ∀ ρ' st', i5 zs kc k ks kl kr ko kf K as (d + 1) ρ' st' → C (.fall ρ') st') :
  yV (.one 11) (.int (.ofNat y)) ρ fun ρ => (run (zD CQ (n + 149)) gw).s ρ st C := by
 refine hid fun hG => ?_
 obtain ⟨a2, a3, _, _, R, m, rfl, hw, hRl, hRf, hRd, hm⟩ := h
 refine hG ?_
 have ho := hw.ord
 have hlb : st.sto[kl]? = some (.lst ((yU m).map .str)) := hw.lab
 refine zA hlb ?_
 refine zA hw.rr ?_
 refine xp (fun k : Nat => D.str (vr k)) (fun d' rest acc st' => d' ++ rest = K ∧ E2 fun (ps : List Pat) (m' : Nat) => A6 (acc = ps.map Pat.d) (Fits d' ps) ((∀ p ∈ ps, p.dep ≤ 1)) (LW kc ks kl kr ko kf m' (.lst (xx R)) (.lst (vI R)) (.lst (xE R)) st') (yU m' = yU m ++ rowVars ps) (m' ≤ m + ps.length)) ?_ (done := []) (acc := []) ⟨rfl, [], m, rfl, trivial, (fun U h => nm h), hw, by simp [rowVars], Nat.le_refl _⟩ ?_
 ·intro d' kd rest' acc st' D D' hz7 k1 k2
  refine hid fun hG => ?_
  obtain ⟨hd', ps, m', ha, hfp, hdp, hw, hlm, hm'⟩ := hz7
  refine hG ?_
  have hfl := hfp.len
  have hdK : d'.length + 1 + rest'.length = K.length := by rw [← hd']; simp; exact Nat.le_antisymm (lin0 [_,_] 0 (.a S0 V1) (.a V0 S1) tt) (lin0 [_,_] 0 (.a V0 S1) (.a S0 V1) tt)
  have hkd := hK kd (by rw [← hd']; simp)
  refine pQ (by exact Nat.ne_of_lt (lin1 [_,_] 0 S0 V1 1 S0 V1 tt ho.2.2.1)) kd hkd (n + 149) m' st' _ (by omega) (by exact jZ [_,_,_,_,_,_,_,_] 0 V0 U100 1 V1 (.n 3) 3 V2 (.n 4) 3 V3 V2 1 V4 (.m 3 V3) 1 V0 (.a V4 V5) 1 V5 V6 1 (.a S6 V7) V1 tt hKl hd (el hRl) hm hm' (el hfl) (el hdK)) hw.src hw.lab fun st'' p m'' c'' e'' hs'' hl'' hv hm'' hfit hdep => ?_
  refine k1 _ _ ⟨yI hd', ps ++ [p], m'', by rw [ha, List.map_append]; rfl, hfp.app ⟨hfit, trivial⟩, fun x hx => ?_, hw.lab' c'' hs'' hl'', by rw [hv, hlm, zK, yO, List.append_assoc], by simp; exact lin2 [_,_,_,_] 0 V0 (.a V1 S2) 1 V3 (.a V1 V2) 1 V0 S3 tt hm' hm''⟩
  rcases List.mem_append.mp hx with z | z
  ·exact hdp x z
  ·simp at z; subst z; omega
 intro pd st₁₀ hz2
 refine hid fun hG => ?_
 obtain ⟨_, ps, m', ha, hfp, hdp, hw, hlm, hm'⟩ := hz2
 refine hG ?_
 simp only [List.nil_append] at ha hfp
 subst ha
 have hfl := hfp.len
 have hlM : ∀ {f : RawT → D}, (R.map f).length < sizeLine := fun {f} => by rw [List.length_map]; exact Nat.lt_of_lt_of_le (show R.length < 1000 by exact lin2 [_,_] 0 S0 U1000 1 V1 (.n 4) 1 V0 V1 tt hd (el hRl)) (by decide)
 refine zA hw.rr ?_
 refine And.intro hlM ?_
 refine zP hw.rr fun st₁₁ c₁₁ e₁₁ hrr => ?_
 have hw := hw.rr' (a' := .lst (xx (R ++ [(ps, false)]))) c₁₁ (by rw [hrr]; unfold xx; rw [List.map_append]; rfl)
 have hlb : st₁₁.sto[kl]? = some (.lst ((yU m').map .str)) := hw.lab
 have hdrop : ((yU m').map D.str).drop ((yU m).map D.str).length = (rowVars ps).map D.str := by
  rw [hlm, List.map_append, List.drop_left]
 refine zA hw.ro ?_
 refine zA hlb ?_
 conv => whnf
 rw [hdrop]
 refine zA hw.ro ?_
 refine And.intro hlM ?_
 refine zP hw.ro fun st₁₂ c₁₂ e₁₂ hro => ?_
 have hw := hw.ro' (a' := .lst (vI (R ++ [(ps, false)]))) c₁₂ (by rw [hro]; unfold vI; rw [List.map_append]; rfl)
 refine zA hw.rf ?_
 refine xU (n := n + 148) (top := 4) hw.src (by decide) fun st₁₃ r₃ c₁₃ e₁₃ hsk hr3 => ?_
 have hw := hw.src' c₁₃ hsk
 refine zA hw.rf ?_
 refine And.intro hlM ?_
 refine zP hw.rf fun st₁₄ c₁₄ e₁₄ hrf => ?_
 have hw := hw.rf' (a' := .lst (xE (R ++ [(ps, ((r₃ : Int) == 0))]))) c₁₄ (by rw [hrf]; unfold xE; rw [List.map_append]; rfl)
 refine k1 _ _ ⟨_, _, _, _, R ++ [(ps, ((r₃ : Int) == 0))], m', rfl, ⟨hw.base, hw.src, hw.lab, by rw [hw.rr]; unfold xx; rw [List.map_append, List.map_append]; rfl, by rw [hw.ro]; unfold vI; rw [List.map_append, List.map_append]; rfl, hw.rf, ho⟩, by simp [hRl], fun x hx => ?_, fun x hx => ?_, by rw [List.length_append, List.length_singleton]; exact lin4 [_,_,_,_,_] 0 V0 (.m 3 S1) 1 V2 (.n 3) 1 V3 (.m 3 V1) 1 V0 (.a V3 V4) 1 V4 V2 tt hKl hm hm' (el hfl)⟩
 ·rcases List.mem_append.mp hx with z | z
  ·exact hRf x z
  ·simp at z; subst z; exact hfp
 ·rcases List.mem_append.mp hx with z | z
  ·exact hRd x z
  ·simp at z; subst z; exact hdp
theorem i6 {zs : List Int} {kc k ks kl : Nat} {K : List Nat} {a2 a3 a8 a9 a10 a11 a12 a13 a14 a15 a16 a17 a18 a19 a20 : Option D} {Kc : Out → St → Prop} (hkk : 0 < kc ∧ kc < ks ∧ ks < kl) (hK : ∀ k ∈ K, k = 1 ∨ k = 2) (hKl : K.length ≤ 3) (hB : Base kc st) (hlb : qb kl 0 st) (hsk : SrcP ks st) (q : ∀ ρ' st', LR (.list (zs.map .int)) kc ρ' → Base kc st' → Kc (.fall ρ') st') :
  (run (zD CQ (n + 149)) (lawB.dr 2)).s [some (.list (zs.map .int)), some (.mref kc), a2, a3, some (.int (.ofNat k)), some (.mref ks), some (.mref kl), some (.list (K.map fun k => D.str (vr k))), a8, a9, a10, a11, a12, a13, a14, a15, a16, a17, a18, a19, a20] st Kc := by
 have p1 := zM hlb
 refine zi fun st₅ kr c₅ e₅ hr5 hl5 => ?_
 have p2 := zM hr5
 refine zi fun st₆ ko c₆ e₆ ho6 hl6 => ?_
 have p3 := zM ho6
 refine zi fun st₇ kf c₇ e₇ hf7 hl7 => ?_
 have c₅₇ : Chg [] st st₇ := (c₅.trans c₆).trans c₇
 have hw : LW kc ks kl kr ko kf 0 (.lst (xx [])) (.lst (vI [])) (.lst (xE [])) st₇ := ⟨hB.keep c₅₇ (by simp), hsk.keep c₅₇ (by simp), c₅₇.get hlb (by simp), (c₆.trans c₇).get hr5 (by simp), c₇.get ho6 (by simp), hf7, by exact ⟨lin1 [_] 0 (.a U0 U1) V0 1 (.a U0 U1) V0 tt hkk.1, lin1 [_,_] 0 S0 V1 1 S0 V1 tt hkk.2.1, lin1 [_,_] 0 S0 V1 1 S0 V1 tt hkk.2.2, lin2 [_,_,_] 0 S0 V1 1 S0 V2 1 V2 V1 tt p1 hl5, lin2 [_,_,_] 0 S0 V1 1 S0 V2 1 V2 V1 tt p2 hl6, lin2 [_,_,_] 0 S0 V1 1 S0 V2 1 V2 V1 tt p3 hl7⟩⟩
 refine xU (n := n + 148) (top := 3) hw.src (by decide) fun st₈ r₂ c₈ e₈ hsk hr2 => ?_
 have hw := hw.src' c₈ hsk
 refine ⟨r₂ + 2, ⟨show (2 : Int) + (r₂ : Int) = ((r₂ + 2 : Nat) : Int) by omega, zU (by exact lin1 [_] 0 (.a V0 U2) U1000 1 S0 (.n 3) tt hr2)⟩, ?_⟩
 refine yF (fun i : Nat => D.int (Int.ofNat i)) (fun d rest ρ st' => d ++ rest = List.range (r₂ + 2) ∧ i5 zs kc k ks kl kr ko kf K [a13, a14, a15, a16, a17, a18, a19, a20] d.length ρ st') ?_ ?_ (done := []) ⟨rfl, a2, a3, _, _, [], 0, rfl, hw, rfl, (fun U h => nm h), (fun U h => nm h), Nat.zero_le _⟩
 ·intro d y rest ρ st₉ C hz6 k1 k2
  refine hid fun hG => ?_
  obtain ⟨hd, h⟩ := hz6
  refine hG ?_
  have hdl : d.length < r₂ + 2 := (yg hd).2
  exact ky (by exact lin1 [_] 0 V0 (.n 3) 1 V0 (.n 3) tt hKl) hK (by exact lin2 [_,_] 0 V0 (.n 4) 1 S1 (.n 3) 1 S0 (.a V1 U2) tt hr2 hdl) h fun ρ' st' h => k1 _ _ ⟨yI hd, by rw [List.length_append]; exact h⟩
 intro d ρ st₉ hz3
 refine hid fun hG => ?_
 obtain ⟨hd, a2, a3, x, y, R, m, rfl, hw, hRl, hRf, hRd, hm⟩ := hz3
 refine hG ?_
 rw [List.append_nil] at hd
 have hRl : R.length = r₂ + 2 := by rw [hRl, hd, List.length_range]
 refine gu (K := K) (R := R) ⟨hK, by exact lin1 [_] 0 V0 (.n 3) 1 V0 (.n 3) tt hKl, by exact lin2 [_,_] 0 V0 (.n 4) 1 S1 (.n 3) 1 V0 (.a V1 U2) tt hr2 (el hRl), hRf, hRd⟩ (fun e => by rw [e] at hRl; cases hRl) (by exact lin3 [_,_,_] 0 V0 (.n 12) 3 S1 (.n 3) 1 V0 (.m 3 V2) 3 V2 (.a V1 U2) tt hr2 hm (el hRl)) hw q
noncomputable def X.hd : X → X
 | .seq a _ => a
 | x => x
theorem jW {call : zp} {a b : X} {ρ : Rg} {st : St} {Q : Out → St → Prop} (h : (run call a).s ρ st fun o st => match o with
  | .fall ρ => (run call b).s ρ st Q
  | .ret d => Q (.ret d) st) : (run call (.seq a b)).s ρ st Q := h
theorem i7 {zs : List Int} {k : Nat} {a1 a2 a3 a5 a6 a7 a8 a9 a10 a11 a12 a13 a14 a15 a16 a17 a18 a19 a20 : Option D} {C : Out → St → Prop} (hk : k ≤ 1)
  (q : ∀ st' ks kl, Chg [] st st' → st.sto.length ≤ ks → ks < kl → SrcP ks st' → qb kl 0 st' → C (.fall [some (.list (zs.map .int)), a1, a2, a3, some (.int (.ofNat k)), some (.mref ks), some (.mref kl), a7, a8, a9, a10, a11, a12, a13, a14, a15, a16, a17, a18, a19, a20]) st') :
  (run (zD CQ (n + 149)) lawB.hd).s [some (.list (zs.map .int)), a1, a2, a3, some (.int (.ofNat k)), a5, a6, a7, a8, a9, a10, a11, a12, a13, a14, a15, a16, a17, a18, a19, a20] st C := by
 refine kq (n := n + 148) hk fun st₁ ks c₁ e₁ hlk hsk => ?_
 refine zi fun st₂ kl c₂ e₂ hlb hll => ?_
 exact q st₂ ks kl (c₁.trans c₂) hlk (Nat.lt_of_lt_of_le hsk.lt hll) (hsk.keep c₂ List.not_mem_nil) hlb
theorem i8 {ks : Nat} {a0 a1 a2 a3 a4 a6 a7 a8 a9 a10 a11 a12 a13 a14 a15 a16 a17 a18 a19 a20 : Option D} {C : Out → St → Prop} (hsk : SrcP ks st)
  (q : ∀ st' (K : List Nat), Chg [ks] st st' → SrcP ks st' → (∀ k ∈ K, k = 1 ∨ k = 2) → K.length ≤ 3 → C (.fall [a0, a1, a2, a3, a4, some (.mref ks), a6, some (.list (K.map fun k => D.str (vr k))), a8, a9, a10, a11, a12, a13, a14, a15, a16, a17, a18, a19, a20]) st') :
  (run (zD CQ (n + 149)) (lawB.dr 1).hd).s [a0, a1, a2, a3, a4, some (.mref ks), a6, a7, a8, a9, a10, a11, a12, a13, a14, a15, a16, a17, a18, a19, a20] st C := by
 refine xU (n := n + 148) (top := 2) hsk (by decide) fun st₃ r c₃ e₃ hsk hr => ?_
 refine ⟨r + 2, ⟨show (2 : Int) + (r : Int) = ((r + 2 : Nat) : Int) by omega, zU (by exact lin1 [_] 0 (.a V0 U2) U1000 1 S0 U2 tt hr)⟩, ?_⟩
 refine xp (fun i : Nat => D.int (Int.ofNat i)) (fun d rest acc st' => d ++ rest = List.range (r + 2) ∧ ∃ K : List Nat, A5 (acc = K.map (fun k => D.str (vr k))) (K.length = d.length) ((∀ k ∈ K, k = 1 ∨ k = 2)) (Chg [ks] st₃ st') (SrcP ks st')) ?_ (done := []) (acc := []) ⟨rfl, [], rfl, rfl, (fun U h => nm h), .refl, hsk⟩ ?_
 ·intro d y rest acc st' C C' hz7 k1 k2
  refine hid fun hG => ?_
  obtain ⟨hd, K, ha, hKl, hK, hc, hsk⟩ := hz7
  refine hG ?_
  conv => whnf
  refine iZ (n := n + 147) hsk fun st₄ k' c₄ e₄ hsk hk' => ?_
  refine k1 _ _ ⟨yI hd, K ++ [k'], by rw [ha, List.map_append]; rfl, by simp [hKl], fun x hx => ?_, hc.trans c₄, hsk⟩
  rcases List.mem_append.mp hx with z | z
  ·exact hK x z
  ·simp at z; subst z; exact hk'
 intro kd st₄ hz2
 refine hid fun hG => ?_
 obtain ⟨hd, K, ha, hKl, hK, c₄, hsk⟩ := hz2
 refine hG ?_
 simp only [List.nil_append, List.length_range] at ha hKl
 subst ha
 exact q st₄ K (c₃.trans c₄) hsk hK (by exact lin2 [_,_] 0 V0 (.n 3) 1 S1 U2 1 V0 (.a V1 U2) tt hr (el hKl))
theorem gy {zs : List Int} {kc k : Nat} {a2 a3 a5 a6 a7 a8 a9 a10 a11 a12 a13 a14 a15 a16 a17 a18 a19 a20 : Option D} {Kc : Out → St → Prop} (hk : k ≤ 1) (hB : Base kc st) (q : ∀ ρ' st', LR (.list (zs.map .int)) kc ρ' → Base kc st' → Kc (.fall ρ') st') :
  (run (zD CQ (n + 149)) lawB).s [some (.list (zs.map .int)), some (.mref kc), a2, a3, some (.int (.ofNat k)), a5, a6, a7, a8, a9, a10, a11, a12, a13, a14, a15, a16, a17, a18, a19, a20] st Kc := by
 have e0 : lawB = .seq lawB.hd (lawB.dr 1) := rfl
 have e1 : lawB.dr 1 = .seq (lawB.dr 1).hd (lawB.dr 2) := rfl
 rw [e0]
 refine jW (i7 hk fun st₂ ks kl c₂ hks hkl hsk hlb => ?_)
 show (run (zD CQ (n + 149)) (lawB.dr 1)).s _ _ _
 rw [e1]
 refine jW (i8 hsk fun st₄ K c₄ hsk hK hKl => ?_)
 have hB0 := hB.lt
 have hp := hB.pos
 exact i6 (by omega) hK hKl ((hB.keep c₂ (by simp)).keep c₄ (by simp; exact ⟨Nat.ne_of_lt (lin2 [_,_] 0 (.a U0 U1) V0 1 V1 V0 1 (.a U0 U1) V1 tt hks hB0.1), Nat.ne_of_lt (lin2 [_,_,_] 0 S0 V1 1 V2 V1 1 S0 V2 tt hks hB0.2)⟩)) (c₄.get hlb (by simp; exact Nat.ne_of_gt (lin1 [_,_] 0 S0 V1 1 S0 V1 tt hkl))) hsk q
theorem i9 {zs : List Int} (h0 : st.sto[0]? = some .tab) (q : ∀ st', st'.sto[0]? = some .tab → Q (.bool true) st') : zD CQ (n + 150) (.val (.ref 1197)) [.list (zs.map .int)] st Q := by
 refine zE ⟨rfl, ?_⟩
 refine zi fun st₁ kc c₁ e₁ h₁ l₁ => ?_
 have hk : 0 ≠ kc := by have := zM h0; exact Nat.ne_of_lt (lin2 [_,_] 0 (.a U0 U1) V0 1 V1 V0 1 (.a U0 U1) V1 tt l₁ this)
 refine zA h₁ ?_
 refine And.intro (Nat.le_of_ble_eq_true (by kernel_rfl)) ?_
 refine zP h₁ fun st₂ c₂ e₂ h₂ => ?_
 refine zA h₂ ?_
 refine And.intro (Nat.le_of_ble_eq_true (by kernel_rfl)) ?_
 refine zP h₂ fun st₃ c₃ e₃ h₃ => ?_
 have hB : Base kc st₃ := ⟨c₃.get (c₂.get (c₁.get h0 nofun) (by simpa using hk)) (by simpa using hk), .inl (h₃.trans (by kernel_rfl))⟩
 refine hid fun hG => ?_
 obtain ⟨E, hE, hE2⟩ : ∃ E : Nat, (if (if (2 : Int) < Int.ofNat (zs.map D.int).length then (2 : Int) else Int.ofNat (zs.map D.int).length) > 1 then (if (2 : Int) < Int.ofNat (zs.map D.int).length then (2 : Int) else Int.ofNat (zs.map D.int).length) else 1) = (E : Int) ∧ E ≤ 2 := by
  generalize (zs.map D.int).length = z
  by_cases a : (2 : Int) < Int.ofNat z
  ·exact ⟨2, by rw [if_pos a]; rfl, Nat.le_refl _⟩
  ·rw [if_neg a]
   by_cases b : Int.ofNat z > 1
   ·exact ⟨z, by rw [if_pos b]; rfl, by have : ¬ ((2 : Int) < (z : Int)) := a; omega⟩
   ·exact ⟨1, by rw [if_neg b]; rfl, by decide⟩
 refine hG ?_
 refine ⟨E, ⟨hE, zU (by exact lin1 [_] 0 V0 U1000 1 V0 U2 tt hE2)⟩, ?_⟩
 refine yF (fun i : Nat => D.int (Int.ofNat i)) (fun d rest ρ st' => d ++ rest = List.range E ∧ LR (.list (zs.map .int)) kc ρ ∧ Base kc st') ?_ ?_ (done := []) ⟨rfl, ⟨_, _, _, _, _, _, _, _, _, _, _, _, _, _, _, _, _, _, _, rfl⟩, hB⟩
 ·intro d k rest ρ st' C hz6 k1 k2
  refine hid fun hG => ?_
  obtain ⟨hd, ⟨_, _, _, _, _, _, _, _, _, _, _, _, _, _, _, _, _, _, _, rfl⟩, hB⟩ := hz6
  obtain ⟨rfl, hy⟩ := yg hd
  refine hG ?_
  exact gy (by exact lin2 [_,_] 0 V0 U1 1 V1 U2 1 S0 V1 tt hE2 hy) hB fun ρ' st'' hr hB => k1 _ _ ⟨yI hd, hr, hB⟩
 ·intro d ρ st' hz3
  refine hid fun hG => ?_
  obtain ⟨_, ⟨_, _, _, _, _, _, _, _, _, _, _, _, _, _, _, _, _, _, _, rfl⟩, hB⟩ := hz3
  refine hG ?_
  exact q _ hB.tab
theorem nS {zs : List Int} : zD CQ 150 (.val (.ref 1197)) [.list (zs.map .int)] ⟨[.tab], 0⟩ fun d st' => d = .bool true ∧ st'.sto[0]? = some .tab :=
 i9 (n := 0) rfl fun U h => ⟨rfl, h⟩
end
set_option backward.match.sparseCases true
section
variable {S : Sta}
theorem lF {W : Wd} {k : Int} : ∀ {js : List Int} {m : List D} {us : List Value}, RepL S W m us → js.length = us.length → (js.zip m).lookup k = none → valueAt (js.zip us) k = none := by
 intro js
 induction js with
 | nil => intro m us _ _ _; rfl
 | cons j js ih =>
  intro m us r hl h
  cases m with
  | nil => cases r; first | exact cn hl | exact nc hl | exact sn hl | exact ns hl | exact nn hl | exact ff hl
  | cons d m =>
   obtain ⟨v, us, _, r⟩ := r
   rw [List.zip_cons_cons, List.lookup_cons] at h
   simp only [List.zip_cons_cons, valueAt, List.find?_cons]
   cases e : k == j with
   | true => rw [e] at h; cases h
   | false =>
    rw [e] at h
    rw [decide_eq_false fun z => (beq_eq_false_iff_ne.mp e) z.symm]
    exact ih r (Nat.succ.inj hl) h
theorem kz (hc : S.ConEq) {A : Around} {W : Wd} {st : St} {s : Shared} (O : Ok S W st s.heap) (hu : A.units + 3 < cLine) {js : List Int} {m : List D} {us : List Value} (q : RepL S W m us) (hl : js.length = us.length) :
  ∀ {ks : List Int} {l : List D} {vs : List Value} {b : Bool}, ks.length = vs.length → RepL S W l vs → dictEqI.go js m ks l = some b → KeqHits A s (js.zip us) (ks.zip vs) b := by
 intro ks
 induction ks with
 | nil => intro l vs b h1 r h; cases l <;> (cases h; exact .nil)
 | cons k ks ih =>
  intro l vs b h1 r h
  cases l with
  | nil => cases r; first | exact cn h1 | exact nc h1 | exact sn h1 | exact ns h1 | exact nn h1 | exact ff h1
  | cons x l =>
   obtain ⟨v, vs, r1, r2⟩ := r
   rw [dictEqI.go] at h
   cases hk : (js.zip m).lookup k with
   | none =>
    rw [hk] at h
    cases h
    exact .miss (lF q hl hk)
   | some y =>
    rw [hk] at h
    have h : (do if ← eqD 1 x y then dictEqI.go js m ks l else none) = some b := h
    cases he : eqD 1 x y with
    | none => rw [he] at h; exact nn h
    | some e =>
     rw [he] at h
     cases e with
     | false => exact nn h
     | true =>
      obtain ⟨u, hu1, ru⟩ := wm q hk
      exact KeqHits.hit (e := true) hu1 (uV hc O 1 (by exact lin1 [_,_] 0 (.a (.a S0 U1) U1) V1 1 (.a (.a V0 (.n 3)) U1) V1 tt hu) he r1 ru) (ih (Nat.succ.inj h1) r2 h)
set_option tactic.hygienic true in
theorem nT (hc : S.ConEq) : S.DictNe where
 ne := by
  intro A s x y ks js l m vs us W b Q st O hu h1 h2 l1 l2 r1 r2 n1 n2 he hq
  unfold dictEqI at he
  split at he
  ·rename_i hne
   cases he
   have : (ks.zip vs).length ≠ (js.zip us).length := by simpa [← l1, ← l2] using hne
   refine keq_ne (r := true) n1 n2 h1 h2 (by exact lin1 [_,_] 0 S0 V1 1 (.a (.a V0 (.n 40)) U1) V1 tt hu) (fun e => absurd e this) ?_
   rw [beq_eq_false_iff_ne.mpr this]
   exact hq s.toks
  ·rename_i heq
   have heq : ks.length = js.length := Classical.not_not.mp heq
   refine keq_ne (r := b) n1 n2 h1 h2 (by exact lin1 [_,_] 0 S0 V1 1 (.a (.a V0 (.n 40)) U1) V1 tt hu) (fun e => kz hc O (by show A.units + 1 + 3 < cLine; exact lin1 [_,_] 0 (.a (.a S0 (.n 3)) U1) V1 1 (.a (.a V0 (.n 40)) U1) V1 tt hu) r2 l2 l1 r1 he) ?_
   have : (ks.zip vs).length = (js.zip us).length := by simpa [← l1, ← l2] using heq
   rw [this, beq_self_eq_true, Bool.true_and]
   exact hq s.toks
end
theorem mem_of_lookup {α β : Type} [BEq α] [LawfulBEq α] : ∀ {l : List (α × β)} {a : α} {b : β}, l.lookup a = some b → (a, b) ∈ l := by
 intro l
 induction l with
 | nil => intro _ _ h; exact nn h
 | cons x l ih =>
  intro a b h
  rw [List.lookup_cons] at h
  cases e : a == x.1 with
  | true => rw [e] at h; cases h; rw [eq_of_beq e]; exact .head _
  | false => rw [e] at h; exact .tail _ (ih h)
noncomputable def KX (P : Params) : Frag := (KT P).filter fun p => !(p.1 == 1182)
noncomputable def yH (p : Cls → Bool) : Bool := Cls.all.all p
theorem zY {p : Cls → Bool} (h : yH p = true) (c : Cls) : p c = true := by
 refine List.all_eq_true.mp h c (List.mem_of_getElem? (i := c.ctorIdx) ?_)
 cases c <;> rfl
noncomputable def nnB (x : Option (Option Value)) : Bool := match x with
 | some none => true
 | _ => false
theorem lG {x : Option (Option Value)} (h : nnB x = true) : x = some none := by
 cases x with
 | none => cases h
 | some y => cases y with
  | none => rfl
  | some _ => cases h
theorem gz (P : Params) : yH (fun c => plainGet (KX P) c.addr "") = true := by kernel_rfl
theorem ib (P : Params) : yH (fun c => hasDictIn (KX P) c.addr) = true := by kernel_rfl
theorem fA (P : Params) : yH (fun c => c.flds.all fun f => nnB (findIn (KX P) (.ref c.addr) f.str)) = true := by kernel_rfl
theorem ic (P : Params) : (meL.all fun e => (findIn (KX P) (.ref e.1) e.2.1 == some (some (.ref e.2.2))) && isFn (KX P) (.ref e.2.2) && Cls.all.all fun c => !(c.addr == e.1) || c.flds.all fun f => !(f.str == e.2.1)) = true := by kernel_rfl
theorem ie (P : Params) : yH (fun c => makesIn (KX P) c.addr) = true := by kernel_rfl
theorem fB : yH (fun c => yH fun c' => !Nat.beq c.ctorIdx c'.ctorIdx || Nat.beq c.addr c'.addr) = true := by kernel_rfl
noncomputable def ig : Value → Option Addr
 | .ref a => some a
 | _ => none
theorem qh {v : Value} {a : Addr} (h : ig v = some a) : v = .ref a := by
 cases v with
 | ref => cases h; rfl
 | _ => exact nn h
noncomputable def fC : Value → Option Str
 | .str s _ => some s
 | _ => none
noncomputable def fD : Data → Bool
 | .seq _ _ => true
 | _ => false
noncomputable def fE : Data → Option (Array Value)
 | .fields vs => some vs
 | _ => none
noncomputable def lH (K : Frag) (fd : FuncData) : Bool := fd.params.posonlyargs.isEmpty && fd.params.kwonlyargs.isEmpty && fd.params.vararg.isNone && fd.params.kwarg.isNone && decide ((fd.params.args.map (·.arg)).Nodup) &&
 (fd.defaults == .none || ((ig fd.defaults).bind fun a => K.lookup a).any fun o => fD o.data) && Nat.beq fd.globals mainGlobals && Nat.beq fd.builtins builtinsNs && fd.closure.isEmpty &&
 ((ig fd.code).bind fun a => K.lookup a).any fun o => (fE o.data).any fun vs => (vs[1]?).any fun v => (fC v).any fun s => s == fd.qualname
theorem lI {v : Value} {s : Str} (h : fC v = some s) : ∃ t, v = .str s t := by
 cases v with
 | str s t => cases h; exact ⟨t, rfl⟩
 | _ => exact nn h
theorem lJ {d : Data} (h : fD d = true) : ∃ is n, d = .seq is n := by
 cases d with
 | seq is n => exact ⟨is, n, rfl⟩
 | _ => exact ff h
theorem lK {d : Data} {vs : Array Value} (h : fE d = some vs) : d = .fields vs := by
 cases d with
 | fields vs => cases h; rfl
 | _ => exact nn h
theorem vJ {α : Type} {x : Option α} {p : α → Bool} (h : x.any p = true) : ∃ a, x = some a ∧ p a = true := by
 cases x with
 | none => exact ff h
 | some a => exact ⟨a, rfl, h⟩
theorem ij {S : Sta} {fd : FuncData} (X : S.K.In S.b₀) (h : lH S.K fd = true) : FunOk S fd := by
 unfold lH at h
 simp only [Bool.and_eq_true, List.isEmpty_iff, Option.isNone_iff_eq_none, decide_eq_true_eq, Nat.beq_eq] at h
 refine hid fun hG => ?_
 obtain ⟨⟨⟨⟨⟨⟨⟨⟨⟨h1, h2⟩, h3⟩, h4⟩, h5⟩, h6⟩, h7⟩, h8⟩, h9⟩, h10⟩ := h
 refine hG ?_
 refine ⟨⟨h1, h2, h3, h4, h5⟩, ?_, h7, h8, h9, ?_⟩
 ·rcases Bool.or_eq_true_iff.mp h6 with e | e
  ·exact .inl (eq_of_beq e)
  ·obtain ⟨o, e, f⟩ := vJ e
   obtain ⟨T, e, l⟩ := Option.bind_eq_some_iff.mp e
   obtain ⟨is, n, d⟩ := lJ f
   exact .inr ⟨T, o, is, n, qh e, X _ _ l, d⟩
 ·obtain ⟨o, e, f⟩ := vJ h10
  obtain ⟨c, e, l⟩ := Option.bind_eq_some_iff.mp e
  obtain ⟨vs, f, g⟩ := vJ f
  obtain ⟨v, g, h⟩ := vJ g
  obtain ⟨s, h, i⟩ := vJ h
  obtain ⟨t, rfl⟩ := lI h
  exact ⟨c, o, vs, t, qh e, X _ _ l, lK f, by rw [g, eq_of_beq i]⟩
theorem ik (P : Params) : (glL.all fun e => match nsIn (KX P) mainGlobals e.1 with
 | some (some v) => v == e.2
 | some none => (bootBuiltins e.1 == some e.2) && !(e.1 == "__name__")
 | none => false) = true := by kernel_rfl
theorem fF (P : Params) : yH (fun c => yH fun c' => kitOne (KX P) (.ref c.addr) (.ref c'.addr) == some (c.addr == c'.addr)) = true := by kernel_rfl
theorem fG (P : Params) : yH (fun c => findIn (KX P) (.ref c.addr) "__class__" == some (some (.builtin "object.__class__"))) = true := by kernel_rfl
theorem il (P : Params) : specialIn (KX P) (.builtin "object.__class__") "__get__" = some (some (.builtin "getset_descriptor.__get__")) := by kernel_rfl
theorem jA (P : Params) : takesIn (KX P) (.builtin "object.__class__") = some true := by kernel_rfl
theorem fH (P : Params) : yH (fun c => mroIn (KX P) c.addr (.type "object") == some true) = true := by kernel_rfl
theorem fI (P : Params) : yH (fun c => findIn (KX P) (.ref c.addr) "__setattr__" == some (some (.builtin "object.__setattr__"))) = true := by kernel_rfl
theorem ip (P : Params) : yH (fun c => plainOver (KX P) c.addr) = true := by kernel_rfl
theorem jB (P : Params) : yH (fun c => c.flds.all fun f => nnB (takerIn (KX P) c.addr f.str)) = true := by kernel_rfl
theorem fJ (P : Params) : (KX P).lookup 322 = some (zu "Con" none 555 563 [(.type "object")] [(.ref 322), (.type "object")] 321 []) := by kernel_rfl
theorem rK (P : Params) : nsOkIn (KX P) 321 = true := by kernel_rfl
theorem jC (P : Params) : nsIn (KX P) 321 "__eq__" = some none := by kernel_rfl
theorem jD (P : Params) : nsIn (KX P) 321 "__ne__" = some none := by kernel_rfl
theorem jE (P : Params) : specialIn (KX P) (.ref 395) "__getattribute__" = some (some (.builtin "type.__getattribute__")) := by kernel_rfl
theorem jF (P : Params) : readsIn (KX P) 395 (.type "type") = true := by kernel_rfl
theorem jG (P : Params) : findCls (KX P) (.ref 395) (.type "type") "__init__" = some (.val (.ref 385)) := by kernel_rfl
theorem eD (P : Params) : nsIn (KX P) mainGlobals "__builtins__" = some (some (.ref 4)) := by kernel_rfl
theorem jH (P : Params) : ((KX P).all fun e => match e.2.data with
 | .func fd => !(fd.scope.names.map (·.1) == G0.lamNames) || ((fd.code == .ref 1186) && (fd.qualname ++ (".<locals>." : Str) ++ ("<lambda>" : Str) == ("_law_body.<locals>.<lambda>" : Str)))
 | _ => true) = true := by kernel_rfl
noncomputable def fdOf (o : Obj) : Option FuncData := match o.data with
 | .func fd => some fd
 | _ => none
noncomputable def pV (K : Frag) (a : Addr) : Option FuncData := (K.lookup a).bind fdOf
noncomputable def eE (K : Frag) (e : Nat × Fn) : Bool := keepIn K (.ref e.1) && match e.2 with
 | .fn _ _ _ => (pV K e.1).any (lH K)
 | .cls c ini => Nat.beq e.1 c.addr && match ini with
  | some m => (findIn K (.ref c.addr) "__init__" == some (some (.ref m))) && isFn K (.ref m)
  | none => findIn K (.ref c.addr) "__init__" == some (some (.builtin "object.__init__"))
noncomputable def codeOf (K : Frag) (G : Gl) (nw : Nw) (e : Nat × Fn) : Option Fn := match e.2 with
 | .fn _ _ _ => (pV K e.1).bind (uN G nw)
 | .cls c ini => some (.cls c ini)
theorem jX (P : Params) : (fnL.all (eE (KX P))) = true := by kernel_rfl
theorem iq (P : Params) : (fnL.filter fun e => !Nat.beq e.1 1187).map (codeOf (KX P) G0 nwQ) = (fnL.filter fun e => !Nat.beq e.1 1187).map (fun e => some e.2) := by kernel_rfl
theorem ir (P : Params) (f : Arguments → Expr → Scope → Bool) : (pV (KX P) 1187).bind (uN { G0 with lamIs := f } nwQ) = some (.fn 3 [some 0, some 1, some 2] (.seq (iff (f lamS.2.2 lamS.1 lamS.2.1 && true && true && true && true && true) (.rlam [1, 0, 2])) .nop)) := by kernel_rfl
theorem fK : wg G0 nwQ = some l8 := by kernel_rfl
theorem iu : (wg G0 fun U => none).isSome = true := by kernel_rfl
noncomputable def mkL : List Nat := [35, 59, 119, 141, 159, 183, 201, 221, 239, 242, 260, 282, 300, 322, 385, 414, 424, 441, 451, 468, 478, 495, 505, 711, 733, 751, 754, 768, 786, 789, 856, 878, 903, 937, 969, 972, 1094, 1097]
theorem jI (P : Params) : (fnL.filter fun e => isIn e.1 mkL).map (codeOf (KX P) G0 fun U => none) = (fnL.filter fun e => isIn e.1 mkL).map (fun e => some e.2) := by kernel_rfl
noncomputable abbrev yn : List (Addr × Addr) := [(1186, 1182)]
structure Given (P : Params) (loose : List Str) (mg mb : Str → Option Value) (h : Heap) : Prop where
 tabs : TabsAt yn h
 kin : (KX P).In (ghostOf h yn)
 top : TopRead topProg loose mg mb (ghostOf h yn)
 bmain : ∃ bm ob, mg "__builtins__" = some (.ref bm) ∧ bm ≠ builtinsNs ∧ (ghostOf h yn).get? bm = some ob ∧ ob.cls = .type "module" ∧ ob.dict = some builtinsNs ∧ ob.data = .plain
set_option tactic.hygienic true in
theorem jJ {P : Params} {loose : List Str} {mg mb : Str → Option Value} {h : Heap} (g : Given P loose mg mb h) (x : Str) (v : Value) (e : G0.glob x = some v) : mg x = some v ∨ (mg x = none ∧ mb x = some v) := by
 have := List.all_eq_true.mp (ik P) _ (mem_of_lookup (l := glL) e)
 dsimp only at this
 split at this
 ·rename_i u hu
  rw [← beq_iff_eq.mp this]
  exact .inl (mg_of g.kin g.top.g hu)
 ·rename_i hu
  simp only [Bool.and_eq_true, Bool.not_eq_true', beq_eq_false_iff_ne, beq_iff_eq] at this
  exact .inr ⟨mg_none_of g.kin g.top.g hu, by rw [g.top.builtins x this.2]; exact this.1⟩
 ·cases this
noncomputable def rL (prog : Program) (w : World) (loose : List Str) (mg mb : Str → Option Value) (h : Heap) (g : Given w.params loose mg mb h) : Sta where
 prog := prog
 w := w
 b₀ := ghostOf h yn
 tabP := 1182
 lamQual := "_law_body.<locals>.<lambda>"
 g := G0
 K := KX w.params
 p := topProg
 loose := loose
 mg := mg
 mb := mb
 kin := g.kin
 top := g.top
 sys := ⟨_, g.kin sysModules _ rfl⟩
 lamOk := fun ps e sc h => @of_decide_eq_true (ps = lamS.2.2 ∧ e = lamS.1 ∧ sc = lamS.2.1) (Classical.propDecidable _) h
 glob := jJ g
theorem qi {P : Params} {h : Heap} (X : (KX P).In h) {x dx : Addr} (hx : h.get? x = some (instObj (Cls.addr .Con) dx)) : h.CmpInst x 322 [.type "object"] :=
 ⟨_, _, _, 321, _, _, _, _, _, _, _, _, _, _, _, _, _, h.nsMap 321, hx, rfl, X _ _ (fJ P), .of_isNs (isNs_of_in X (rK P)), nsMap_none_of_in X (rK P) (jC P), nsMap_none_of_in X (rK P) (jD P)⟩
theorem nU {c : Cls} {m : Addr} : ∀ {l : List (Nat × Addr)}, ve c l = some m → (c.ctorIdx, m) ∈ l := by
 intro l
 induction l with
 | nil => intro h; exact nn h
 | cons x l ih =>
  intro h
  obtain ⟨i, a⟩ := x
  have h : (match Nat.beq c.ctorIdx i with | true => some a | false => ve c l) = some m := h
  cases e : Nat.beq c.ctorIdx i with
  | true => rw [e] at h; cases h; rw [← Nat.eq_of_beq_eq_true e]; exact .head _
  | false => rw [e] at h; exact .tail _ (ih h)
section
variable {prog : Program} {w : World} {loose : List Str} {mg mb : Str → Option Value} {h : Heap} (g : Given w.params loose mg mb h)
theorem lL : (rL prog w loose mg mb h g).ConEq where
 eq := by
  intro A s x y dx dy k hx hy hne hu prog' w' E Q hq
  obtain ⟨hp, gs, d, t, os⟩ := s
  have X : (KX w.params).In hp := g.kin.keeps k
  exact richCompare_eq_other PySem.F.cmp_object PySem.F.cmp_object (qi X hx) (qi X hy) hne (Nat.lt_of_succ_lt hu) hq
theorem lM {c : Cls} {x : Str} {m : Addr} (e : ve c (G0.meth x) = some m) : findIn (KX w.params) (.ref c.addr) x = some (some (.ref m)) ∧ isFn (KX w.params) (.ref m) = true ∧ ∀ f ∈ c.flds, f.str ≠ x := by
 obtain ⟨c', _, h⟩ := List.mem_filterMap.mp (nU e)
 obtain ⟨q, hq, h⟩ := Option.map_eq_some_iff.mp h
 have hm := List.mem_of_find?_eq_some hq
 have hp := List.find?_some (p := fun e : Addr × Str × Addr => e.1 == c'.addr && e.2.1 == x) hq
 injection h with h1 h2
 subst h2
 have e1 := zY (zY fB c') c
 rw [h1, Nat.beq_refl] at e1
 have e1 : c'.addr = c.addr := Nat.eq_of_beq_eq_true e1
 have h := List.all_eq_true.mp (ic w.params) _ hm
 simp only [Bool.and_eq_true, beq_iff_eq] at h hp
 obtain ⟨⟨h1, h2⟩, h3⟩ := h
 obtain ⟨p1, rfl⟩ := hp
 rw [p1, e1] at h1 h3
 refine ⟨h1, h2, fun f hf he => ?_⟩
 have z := zY (p := fun c' => !(c'.addr == c.addr) || c'.flds.all fun f => !(f.str == q.2.1)) h3 c
 simp only [beq_self_eq_true, Bool.not_true, Bool.false_or] at z
 have z := List.all_eq_true.mp z f hf
 rw [he] at z
 simp at z
set_option tactic.hygienic true in
theorem sG : Gn (rL prog w loose mg mb h g) where
 T := {
  conEq := lL g
  dictNe := nT (lL g)
  get := fun c => zY (gz w.params) c
  hasd := fun c => zY (ib w.params) c
  fld := fun c f hf => lG (List.all_eq_true.mp (zY (fA w.params) c) f hf)
  meth := fun c x m e => lM e
  make := fun c => zY (ie w.params) c }
 Y := {
  one := fun c c' => beq_iff_eq.mp (zY (zY (fF w.params) c) c')
  cls := fun c => beq_iff_eq.mp (zY (fG w.params) c)
  get := il w.params
  takes := jA w.params
  mro := fun c => beq_iff_eq.mp (zY (fH w.params) c) }
 Z := ⟨fun k x m e => by
  have e : (if k == 395 && x == ("__init__" : Str) then some 385 else none) = some m := e
  split at e
  ·rename_i q
   simp only [Bool.and_eq_true, beq_iff_eq] at q
   obtain ⟨rfl, rfl⟩ := q
   cases e
   exact ⟨jE w.params, jF w.params, jG w.params⟩
  ·cases e⟩
 V := {
  set := fun c => beq_iff_eq.mp (zY (fI w.params) c)
  over := fun c => zY (ip w.params) c
  taker := fun c f hf => lG (List.all_eq_true.mp (zY (jB w.params) c) f hf) }
 L := {
  lam := fun a fd ⟨o, e, hd, k, _⟩ hn => by
   have k : (match (KX w.params).lookup a with
    | some ⟨_, _, .func _, _⟩ => true
    | some ⟨_, _, .cls _, _⟩ => specialIn (KX w.params) (.ref a) "__call__" == some (some (.builtin "type.__call__"))
    | _ => false) = true := k
   cases ho : (KX w.params).lookup a with
   | none => rw [ho] at k; exact ff k
   | some o' =>
    have eo := g.kin a o' ho
    have e : (ghostOf h yn).get? a = some o := e
    rw [e] at eo
    cases eo
    have z := List.all_eq_true.mp (jH w.params) _ (mem_of_lookup ho)
    dsimp only at z
    rw [hd] at z
    dsimp only at z
    have hn : fd.scope.names.map (·.1) = G0.lamNames := hn
    rw [hn] at z
    simp only [beq_self_eq_true, Bool.not_true, Bool.false_or, Bool.and_eq_true, beq_iff_eq] at z
    exact ⟨1186, z.1, (ghost_code g.tabs).1, z.2⟩
  bmain := by
   refine hid fun hG => ?_
   obtain ⟨bm, ob, h1, h2, h3, h4, h5, h6⟩ := g.bmain
   refine hG ?_
   have z := mg_of g.kin g.top.g (eD w.params)
   rw [h1] at z
   cases z
   exact ⟨4, ob, h1, h2, by decide, h3, h4, h5, h6⟩ }
theorem vK {a : Nat} {f : Fn} : ∀ {l : List (Nat × Fn)}, qs a l = some f → (a, f) ∈ l := by
 intro l
 induction l with
 | nil => intro h; exact nn h
 | cons x l ih =>
  intro h
  obtain ⟨b, f'⟩ := x
  have h : (match Nat.beq a b with | true => some f' | false => qs a l) = some f := h
  cases e : Nat.beq a b with
  | true => rw [e] at h; cases h; rw [Nat.eq_of_beq_eq_true e]; exact .head _
  | false => rw [e] at h; exact .tail _ (ih h)
theorem oT {K : Frag} {nw : Nw} {p : Nat → Bool} (h : (fnL.filter fun e => p e.1).map (codeOf K G0 nw) = (fnL.filter fun e => p e.1).map (fun e => some e.2)) {a : Nat} {f : Fn} (m : (a, f) ∈ fnL) (ha : p a = true) : codeOf K G0 nw (a, f) = some f :=
 List.map_inj_left.mp h (a, f) (List.mem_filter.mpr ⟨m, ha⟩)
theorem nV (P : Params) : (pV (KX P) 1187).bind (uN G0 nwQ) = some (.fn 3 [some 0, some 1, some 2] xG) := by
 have h := ir P G0.lamIs
 have e : G0.lamIs lamS.2.2 lamS.1 lamS.2.1 = true := @decide_eq_true _ (Classical.propDecidable _) ⟨rfl, rfl, rfl⟩
 rw [e] at h
 exact h
theorem jY {C : Cx} {nw : Nw} (hm : ∀ a f, C.fn a = some f → (a, f) ∈ fnL) (hc : ∀ a f, C.fn a = some f → codeOf (KX w.params) G0 nw (a, f) = some f) (hl : wg G0 nw = some C.lam) : Tb (rL prog w loose mg mb h g) C nw where
 fn := fun a np ini body e => by
  have z := List.all_eq_true.mp (jX w.params) _ (hm a _ e)
  have y : (pV (KX w.params) a).bind (uN G0 nw) = some (.fn np ini body) := hc a _ e
  have z : (keepIn (KX w.params) (.ref a) && (pV (KX w.params) a).any (lH (KX w.params))) = true := z
  cases hf : pV (KX w.params) a with
  | none => rw [hf] at y; exact nn y
  | some fd =>
   rw [hf, Option.bind_some] at y
   rw [hf] at z
   have z : (keepIn (KX w.params) (.ref a) && lH (KX w.params) fd) = true := z
   rw [Bool.and_eq_true] at z
   refine hid fun hG => ?_
   obtain ⟨o, ho, hd⟩ := Option.bind_eq_some_iff.mp hf
   refine hG ?_
   have hd : (match o.data with | .func fd => some fd | _ => none) = some fd := hd
   refine ⟨fd, ⟨o, g.kin a o ho, ?_, z.1, ij (S := rL prog w loose mg mb h g) g.kin z.2⟩, y⟩
   split at hd
   ·cases hd; assumption
   ·cases hd
 cls := fun a c ini e => by
  have z := List.all_eq_true.mp (jX w.params) _ (hm a _ e)
  have z : (keepIn (KX w.params) (.ref a) && (Nat.beq a c.addr && match (generalizing := false) ini with
   | some m => (findIn (KX w.params) (.ref c.addr) "__init__" == some (some (.ref m))) && isFn (KX w.params) (.ref m)
   | none => findIn (KX w.params) (.ref c.addr) "__init__" == some (some (.builtin "object.__init__")))) = true := z
  rw [Bool.and_eq_true, Bool.and_eq_true] at z
  refine ⟨Nat.eq_of_beq_eq_true z.2.1, z.1, ?_⟩
  cases ini with
  | some m =>
   have y := z.2.2
   rw [Bool.and_eq_true] at y
   exact ⟨beq_iff_eq.mp y.1, y.2⟩
  | none => exact beq_iff_eq.mp z.2.2
 lam := hl
 ks := by
  show G0.lamKs.length ≤ 1000
  exact Nat.le_of_ble_eq_true (by kernel_rfl)
theorem tbQ : Tb (rL prog w loose mg mb h g) CQ nwQ := jY g (fun a f e => vK e) (fun a f e => by
 cases q : Nat.beq a 1187 with
 | true =>
  cases Nat.eq_of_beq_eq_true q
  have e : some (Fn.fn 3 [some 0, some 1, some 2] xG) = some f := e
  cases e
  exact nV w.params
 | false => exact oT (p := fun a => !Nat.beq a 1187) (iq w.params) (vK e) (by rw [q]; rfl)) fK
theorem lN {a : Addr} {f : Fn} (e : C1.fn a = some f) : isIn a mkL = true ∧ qs a fnL = some f := by
 have e : (match isIn a mkL with | true => qs a fnL | false => none) = some f := e
 cases q : isIn a mkL with
 | true => rw [q] at e; exact ⟨rfl, e⟩
 | false => rw [q] at e; exact nn e
theorem tb1 : Tb (rL prog w loose mg mb h g) C1 fun U => none := jY g (fun a f e => vK (lN e).2) (fun a f e => oT (p := fun a => isIn a mkL) (jI w.params) (vK (lN e).2) (lN e).1) (by
 have h := iu
 cases e : wg G0 fun U => none with
 | none => rw [e] at h; exact ff h
 | some l =>
  have : C1.lam = (wg G0 fun U => none).getD l8 := rfl
  rw [this, e]; rfl)
theorem iw : CodeOK (rL prog w loose mg mb h g) 153 (zD CQ 150) :=
 have K := (ub (sG g) (tb1 g) 0 (fun n => fun U h => nn h) 3).2
 (ub (sG g) (tbQ g) 3 (fun n => iQ K kZ) 150).1
end
theorem eF (P : Params) : noTabs (KX P) = true := by kernel_rfl
theorem fL (P : Params) : tabIn ((1182, tbO []) :: KX P) "_law_body" = some (1186, 1182) := by kernel_rfl
theorem iy (P : Params) : ((1182, tbO []) : Addr × Obj) ∈ KT P := mem_of_lookup (by kernel_rfl)
theorem fM (P : Params) : nsIn (KX P) mainGlobals "law" = some (some (.ref 1197)) := by kernel_rfl
section
variable {w : World} {loose : List Str} {mean : ExcName → Option Value} {mg mb : Str → Option Value} {h : Heap}
theorem lO (T : Top qv loose mean mg mb h) (Y : ∀ x ∈ KT w.params, h.get? x.1 = some x.2) : ∃ l, Given w.params l mg mb h := by
 have X : (KX w.params).In h := fun a o e => Y _ (List.mem_filter.mp (mem_of_lookup e)).1
 have X1 : Frag.In ((1182, tbO []) :: KX w.params) h := fun a o e => by
  rw [List.lookup_cons] at e
  cases q : a == 1182 with
  | true => rw [q] at e; cases e; rw [beq_iff_eq.mp q]; exact Y _ (iy _)
  | false => rw [q] at e; exact X a o e
 have hT : TabsAt yn h := List.forall_mem_cons.mpr ⟨tab_of (x := "_law_body") (c := 1186) (P := 1182) T X1 rfl (fL _), fun U h => nm h⟩
 have T' := ghost_top hT T
 exact ⟨_, hT, ghost_K hT X (eF _), topRead_of T', T'.bmain⟩
end
noncomputable def nW (b : Heap) (a : Addr) : Option G := if a = 1182 then some (.sig 0) else (b.get? a).map fun o => .frz o 0
noncomputable def wd0 (b : Heap) : Wd := ⟨nW b, [1182], []⟩
theorem lP {b : Heap} : nW b 1182 = some (.sig 0) := if_pos rfl
theorem uz {b : Heap} {a : Addr} {o : Obj} (h : a ≠ 1182) (e : b.get? a = some o) : nW b a = some (.frz o 0) := by
 unfold nW; rw [if_neg h, e]; rfl
theorem tA {b : Heap} {a : Addr} {g : G} (e : nW b a = some g) : (a = 1182 ∧ g = .sig 0) ∨ (∃ o, b.get? a = some o ∧ g = .frz o 0) := by
 unfold nW at e
 by_cases h : a = 1182
 ·rw [if_pos h] at e; cases e; exact .inl ⟨h, rfl⟩
 ·rw [if_neg h] at e
  refine hid fun hG => ?_
  obtain ⟨o, h1, h2⟩ := Option.map_eq_some_iff.mp e
  refine hG ?_
  exact .inr ⟨o, h1, h2.symm⟩
theorem lQ {h : Heap} : (ghostOf h yn).get? 1182 = none := hideAll_none _ (by simp)
theorem sH {h : Heap} {a : Addr} {o : Obj} (e : (ghostOf h yn).get? a = some o) : a ≠ 1182 := fun q => by
 subst q; rw [lQ] at e; exact nn e
section
variable {prog : Program} {w : World} {loose : List Str} {mg mb : Str → Option Value} {h : Heap} (g : Given w.params loose mg mb h)
theorem ok0 : Ok (rL prog w loose mg mb h g) (wd0 (ghostOf h yn)) ⟨[.tab], 0⟩ h where
 frz := fun a o t e => by
  rcases tA e with ⟨_, q⟩ | ⟨o', h1, q⟩ <;> cases q
  exact of_hideAll _ h1
 low := fun a x e => by
  rcases tA e with ⟨q, _⟩ | ⟨o', h1, _⟩
  ·subst q; exact ⟨_, (g.tabs _ (.head _)).2⟩
  ·exact ⟨o', of_hideAll _ h1⟩
 base := fun a o e => uz (sH e) e
 len := rfl
 sto := fun k mo e => by
  cases k with
  | zero => cases e; exact ⟨1182, rfl, .mk #[] (lP (b := ghostOf h yn)) rfl (g.tabs _ (.head _)).2 (by simp [TriplesOk]) fun pos cv q => by simp [codeAmong] at q⟩
  | succ k => exact nn e
 tag := fun a o t e => by rcases tA e with ⟨_, q⟩ | ⟨o', h1, q⟩ <;> cases q
 tags := rfl
end
theorem nX {S : Sta} {W : Wd} {P : Params} {h : Heap} : ∀ {zs : List Int} {vs : List Value}, WellAll P h vs (ofPys (zs.map PyData.int)) → RepL S W (zs.map .int) vs := by
 intro zs
 induction zs with
 | nil => intro vs r; simp only [List.map_nil, ofPys] at r; cases r; exact .nil
 | cons z zs ih =>
  intro vs r
  simp only [List.map_cons, ofPys, ofPy] at r
  cases r with
  | cons a b => cases a; exact .cons ⟨_, rfl⟩ (ih b)
theorem fN : Room 153 callerA := ⟨rfl, by decide +kernel, by decide +kernel⟩
theorem jK {w : World} {s₁ : Shared} {loose : List Str} {mean mean' : ExcName → Option Value} {mg mb : Str → Option Value} {cl : Str → Option Addr} {fa L : Addr} {zs : List Int} (T : Top qv loose mean mg mb s₁.heap) (Y : ∀ x ∈ KT w.params, s₁.heap.get? x.1 = some x.2)
  (hmg : mg "law" = some (.ref fa)) (hg : s₁.gens = #[]) (w1 : Well w.params s₁.heap (.ref L) (ofPy (PyData.list (zs.map PyData.int)))) (hl : zs.length ≤ 63) :
  codeAny (model pw w) callerA (.call (.ref fa) ⟨[.ref L], []⟩) (GoodWG PySem.Challenge.rw_og0040_01.row.claim cl mean' [ofPy (PyData.list (zs.map PyData.int))] s₁) s₁ := by
 refine hid fun hG => ?_
 obtain ⟨l, gv⟩ := lO T Y
 refine hG ?_
 have hlaw : mg "law" = some (.ref 1197) := mg_of gv.kin gv.top.g (fM _)
 rw [hmg] at hlaw; cases hlaw
 refine kn_post gv.tabs (fun U U => rfl) ?_
 have hL : ∃ vs, s₁.heap.get? L = some (listOf (List.toArray vs) 0) ∧ RepL (rL pw w l mg mb s₁.heap gv) (wd0 (ghostOf s₁.heap yn)) (zs.map .int) vs := by
  simp only [ofPy] at w1
  cases w1 with
  | list a b => exact ⟨_, a, nX b⟩
 refine hid fun hG => ?_
 obtain ⟨vs, hL, rl⟩ := hL
 refine hG ?_
 have hne : L ≠ 1182 := fun q => by
  have := (gv.tabs _ (.head _)).2
  rw [← q, hL] at this
  nomatch this
 have hL' : (ghostOf s₁.heap yn).get? L = some (listOf (List.toArray vs) 0) := ghost_ne hL (by simpa using hne)
 have hz : vs.length ≤ sizeLine := by
  have := rl.length
  rw [List.length_map] at this
  exact Nat.le_trans (by omega : vs.length ≤ 63) (by decide)
 refine (iw (prog := pw) gv).go (f := .val (.ref 1197)) (args := [.list (zs.map .int)]) fN (ok0 (prog := pw) gv) ⟨rfl, rfl⟩ (.one (.mk L vs 0 (uz hne hL') rl hz)) nS ?_
 intro v s' hz2
 refine hid fun hG => ?_
 obtain ⟨d, st', W', ⟨rfl, htab⟩, y, rv⟩ := hz2
 cases rv
 obtain ⟨h', tk, rfl⟩ := y.eq
 obtain ⟨a, ha, hm⟩ := y.ok.sto 0 _ htab
 obtain ⟨ps, _, ha2, hps, _, _⟩ := hm
 refine hG ?_
 refine ⟨⟨.inl ⟨_, .bool true, [], rfl, fun U => rfl, .bool true, ?_, fun U => ⟨.nil, fun U h => nm h⟩⟩, fun b o eb => ?_, rfl, hg⟩, ⟨ps, ?_⟩, trivial⟩
 ·exact postW_of (by wrow_shape) (by wtm_val) (by w_fin)
 ·refine y.keep b o (of_hideAll _ eb) fun k z => ?_
  rw [show (wd0 (ghostOf s₁.heap yn)).Ψ b = _ from uz (sH eb) eb] at z
  nomatch z
 ·have : a = 1182 := ha2
  subst this
  exact hps
end Mine.Internal
open Mine.Internal PySem PySem.W PySem.Calls PySem.Spec PyProof.Rows
set_option maxHeartbeats 8000000 in
set_option tactic.hygienic true in
theorem PySem.Challenge.cw_og0040_01_holds : PySem.Challenge.rw_og0040_01.Holds := by
 w_on
 refine holds_law lZ fun said => ?_
 refine holds_open (q := qv) (loose := sI) (Xt := XtL) (XP := XL qv []) (Yf := fun s => s.heap) (Ya := fun w => wH w.params) (YP := fun w h => ∀ x ∈ KT w.params, h.get? x.1 = some x.2) (N := 10000) lX (fun w s e => gL _ _ e) (fun w h h' y k x hx => k _ _ (y x hx)) (fun s e => xl_of s (Bool.and_eq_true_iff.mp e).1) XL.keeps (by rfl) (by rfl) (by rfl) (fun s e => recFacts_of (Bool.and_eq_true_iff.mp e).2) (by rfl) (by first | assumption | decide +kernel) (by decide +kernel) ⟨rfl, rfl, rfl, rfl, rfl, by decide +kernel⟩ ?hw ?hc
 ·w_witness2
 ·intro w s₀ s₁ mg mb G Y fa o pm cd doc dV kV ho hd hcd hD hmg hg args vals as hpre hlay hrd hwl hlo
  have T := G.T
  wrow_args hpre hlay hrd hwl hlo
  rename_i zs _ _ _ _ _ _ _ _ _ _ _ _ w1 _ _ _ hl _
  exact enter_call (jK T Y hmg hg (by assumption) (by omega))
