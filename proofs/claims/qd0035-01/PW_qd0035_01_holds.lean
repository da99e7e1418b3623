import PyProof.Rows.All
import Wide.All
import OpenK.AllK
import Wide.FinOn
import Lean
import PySem.Challenge.RW_qd0035_01
set_option Elab.async false
set_option autoImplicit false
set_option linter.all false
set_option maxRecDepth 100000
set_option maxHeartbeats 4000000
set_option genSizeOf false
set_option genInjectivity false
namespace Qd
section

inductive V where
  | none
  | bool (b : Bool)
  | int (i : Int)
  | ref (a : Nat)
  | tup (xs : List V)
  | script
  deriving Inhabited

inductive O where
  | list (xs : List V)
  | dict (es : List (Int × V))
  | inst (c : Nat) (fs : List (Nat × V))

noncomputable abbrev H := Nat → Option O
noncomputable abbrev M := Nat → Option V

noncomputable def hset (h : H) (l : Nat) (o : O) : H := fun a => if a = l then some o else h a
noncomputable def upd (m : M) (x : Nat) (v : V) : M := fun y => if y = x then some v else m y
noncomputable def updL (m : M) : List Nat → List V → M
  | x :: xs, v :: vs => updL (upd m x v) xs vs
  | _, _ => m

inductive BOp where
  | add | sub | mul | fdiv | fmod | shr | pow
inductive COp where
  | eq | ne | lt | le | gt | ge | is | isn | inn | nin

mutual
inductive IE where
  | con (v : V)
  | var (x : Nat)
  | bin (o : BOp) (a b : IE)
  | cmp (o : COp) (a b : IE)
  | band (a b : IE)
  | bor (a b : IE)
  | attr (a : IE) (f : Nat)
  | idx (a i : IE)
  | tup (es : IEs)
  | lst (es : IEs)
  | dict0
  | call (f : Nat) (es : IEs)
  | new (c : Nat) (es : IEs)
  | meth (f : Nat) (r : IE) (es : IEs)
  | len (a : IE)
  | sum (a : IE)
  | tupOf (a : IE)
  | sorted (a : IE)
  | max2 (a b : IE)
  | min2 (a b : IE)
  | append (r x : IE)
  | pop (r : IE)
  | get1 (d k : IE)
  | get2 (d k v : IE)
  | compR (elt : IE) (x : Nat) (n : IE)
  | compL (elt : IE) (x : Nat) (it : IE)
  | take40 (a : IE)
inductive IEs where
  | nil
  | cons (e : IE) (es : IEs)
end

mutual
inductive IS where
  | set (x : Nat) (e : IE)
  | setT (xs : List Nat) (e : IE)
  | setA (o : IE) (f : Nat) (e : IE)
  | setI (o i e : IE)
  | augV (x : Nat) (op : BOp) (e : IE)
  | augA (o : IE) (f : Nat) (op : BOp) (e : IE)
  | augI (o i : IE) (op : BOp) (e : IE)
  | ife (c : IE) (t e : ISs)
  | whl (c : IE) (b : ISs)
  | forR (x : Nat) (n : IE) (b : ISs)
  | forL (tu : Bool) (xs : List Nat) (e : IE) (b : ISs)
  | ret (e : IE)
  | ret0
  | ex (e : IE)
inductive ISs where
  | nil
  | cons (s : IS) (ss : ISs)
end

inductive Fl where
  | next
  | ret (v : V)

noncomputable abbrev KE := V → H → Prop
noncomputable abbrev KEs := List V → H → Prop
noncomputable abbrev KS := Fl → M → H → Prop

structure G where
  sc : List Int
  C : Nat → List V → KE → H → Prop

inductive D where
  | none
  | bool (b : Bool)
  | int (i : Int)
  | tup (xs : List D)
  | list (xs : List D)

mutual
inductive Deep (h : H) : Nat → V → D → Prop where
  | none (n : Nat) : Deep h n .none .none
  | bool (n : Nat) (b : Bool) : Deep h n (.bool b) (.bool b)
  | int (n : Nat) (i : Int) : Deep h n (.int i) (.int i)
  | tup {n : Nat} {xs : List V} {ds : List D} : Deeps h n xs ds → Deep h (n + 1) (.tup xs) (.tup ds)
  | list {n : Nat} {l : Nat} {xs : List V} {ds : List D} : h l = some (.list xs) → Deeps h n xs ds → Deep h (n + 1) (.ref l) (.list ds)
inductive Deeps (h : H) : Nat → List V → List D → Prop where
  | nil (n : Nat) : Deeps h n [] []
  | cons {n : Nat} {x : V} {d : D} {xs : List V} {ds : List D} : Deep h n x d → Deeps h n xs ds → Deeps h n (x :: xs) (d :: ds)
end

noncomputable def vints (xs : List Int) : List V := xs.map V.int

noncomputable def small (i : Int) : Prop := -1000000000000 < i ∧ i < 1000000000000

@[irreducible] noncomputable def newW (o : O) (K : KE) (h : H) : Prop := ∀ l, h l = none → K (.ref l) (hset h l o)

noncomputable def binW (o : BOp) (x y : V) (K : KE) (h : H) : Prop :=
  match o, x, y with
  | .add, .int a, .int b => K (.int (a + b)) h
  | .add, .ref a, .ref b => ∃ xs ys, h a = some (.list xs) ∧ h b = some (.list ys) ∧ xs.length + ys.length < 100000 ∧ newW (.list (xs ++ ys)) K h
  | .sub, .int a, .int b => K (.int (a - b)) h
  | .mul, .int a, .int b => small a ∧ small b ∧ K (.int (a * b)) h
  | .fdiv, .int a, .int b => 0 < b ∧ b < 1000000 ∧ K (.int (a / b)) h
  | .fmod, .int a, .int b => 0 < b ∧ K (.int (a % b)) h
  | .shr, .int a, .int b => 0 ≤ b ∧ b < 64 ∧ K (.int (a / 2 ^ b.toNat)) h
  | .pow, .int a, .int b => a = 2 ∧ 0 ≤ b ∧ b < 64 ∧ K (.int (2 ^ b.toNat)) h
  | _, _, _ => False

noncomputable def augW (o : BOp) (x y : V) (K : KE) (h : H) : Prop :=
  match o, x, y with
  | .add, .int a, .int b => K (.int (a + b)) h
  | .sub, .int a, .int b => K (.int (a - b)) h
  | _, _, _ => False

noncomputable def isNone : V → Option Bool
  | .none => some true
  | .int _ => some false
  | .ref _ => some false
  | .bool _ => some false
  | .tup _ => some false
  | .script => Option.none

@[irreducible] noncomputable def memW (x y : V) (K : Bool → Prop) (h : H) : Prop :=
  match x, y with
  | .int k, .ref d => (∃ es, h d = some (.dict es) ∧ K (es.any fun e => e.1 == k)) ∨ (∃ xs : List Int, h d = some (.list (vints xs)) ∧ K (xs.contains k))
  | _, _ => False

noncomputable def eqW (x y : V) (K : Bool → Prop) (h : H) : Prop :=
  match x, y with
  | .int a, .int b => K (a == b)
  | .ref a, .ref b => ∃ d, Deep h 8 (.ref a) d ∧ Deep h 8 (.ref b) d ∧ K true
  | _, _ => False

noncomputable def cmpW (o : COp) (x y : V) (K : KE) (h : H) : Prop :=
  match o with
  | .eq => eqW x y (fun b => K (.bool b) h) h
  | .ne => eqW x y (fun b => K (.bool (!b)) h) h
  | .lt => ∃ a b, x = .int a ∧ y = .int b ∧ K (.bool (decide (a < b))) h
  | .le => ∃ a b, x = .int a ∧ y = .int b ∧ K (.bool (decide (a ≤ b))) h
  | .gt => ∃ a b, x = .int a ∧ y = .int b ∧ K (.bool (decide (b < a))) h
  | .ge => ∃ a b, x = .int a ∧ y = .int b ∧ K (.bool (decide (b ≤ a))) h
  | .is => y = .none ∧ ∃ b, isNone x = some b ∧ K (.bool b) h
  | .isn => y = .none ∧ ∃ b, isNone x = some b ∧ K (.bool (!b)) h
  | .inn => memW x y (fun b => K (.bool b) h) h
  | .nin => memW x y (fun b => K (.bool (!b)) h) h

@[irreducible] noncomputable def attrW (x : V) (f : Nat) (K : KE) (h : H) : Prop :=
  ∃ l c fs v, x = .ref l ∧ h l = some (.inst c fs) ∧ fs.lookup f = some v ∧ K v h

noncomputable def putF (fs : List (Nat × V)) (f : Nat) (v : V) : List (Nat × V) :=
  match fs with
  | [] => [(f, v)]
  | (g, u) :: r => if g = f then (g, v) :: r else (g, u) :: putF r f v

@[irreducible] noncomputable def setAW (x : V) (f : Nat) (v : V) (K : H → Prop) (h : H) : Prop :=
  ∃ l c fs, x = .ref l ∧ h l = some (.inst c fs) ∧ fs.length < 100 ∧ K (hset h l (.inst c (putF fs f v)))

noncomputable def putD (es : List (Int × V)) (k : Int) (v : V) : List (Int × V) :=
  if es.any (fun e => decide (e.1 = k)) then es.map (fun e => if e.1 = k then (e.1, v) else e) else es ++ [(k, v)]

@[irreducible] noncomputable def idxW (x i : V) (K : KE) (h : H) : Prop :=
  ∃ k, i = .int k ∧
    match x with
    | .tup xs => 0 ≤ k ∧ k < 100000 ∧ ∃ v, xs[k.toNat]? = some v ∧ K v h
    | .ref l => (0 ≤ k ∧ k < 100000 ∧ ∃ xs v, h l = some (.list xs) ∧ xs[k.toNat]? = some v ∧ K v h) ∨ (∃ es v, h l = some (.dict es) ∧ es.lookup k = some v ∧ K v h)
    | _ => False

@[irreducible] noncomputable def setIW (x i v : V) (K : H → Prop) (h : H) : Prop :=
  ∃ l k, x = .ref l ∧ i = .int k ∧
    ((0 ≤ k ∧ k < 100000 ∧ ∃ xs, h l = some (.list xs) ∧ k.toNat < xs.length ∧ K (hset h l (.list (xs.set k.toNat v)))) ∨
     (∃ es, h l = some (.dict es) ∧ es.length < 100000 ∧ K (hset h l (.dict (putD es k v)))))

@[irreducible] noncomputable def lenW (x : V) (K : KE) (h : H) : Prop :=
  match x with
  | .tup xs => xs.length < 100000 ∧ K (.int xs.length) h
  | .ref l => ∃ xs, h l = some (.list xs) ∧ xs.length < 100000 ∧ K (.int xs.length) h
  | _ => False

@[irreducible] noncomputable def sumW (x : V) (K : KE) (h : H) : Prop :=
  ∃ l xs, x = .ref l ∧ h l = some (.list (vints xs)) ∧ xs.length < 1000 ∧ (∀ i ∈ xs, 0 ≤ i ∧ i < 1000000) ∧ K (.int xs.sum) h

@[irreducible] noncomputable def tupOfW (x : V) (K : KE) (h : H) : Prop :=
  ∃ l xs, x = .ref l ∧ h l = some (.list xs) ∧ xs.length < 100000 ∧ K (.tup xs) h

noncomputable def insSort (x : Int) : List Int → List Int
  | [] => [x]
  | y :: r => if x ≤ y then x :: y :: r else y :: insSort x r
noncomputable def isort : List Int → List Int
  | [] => []
  | x :: r => insSort x (isort r)

@[irreducible] noncomputable def sortedW (x : V) (K : KE) (h : H) : Prop :=
  ∃ l, x = .ref l ∧
    ((∃ xs, h l = some (.list (vints xs)) ∧ xs.length < 64 ∧ newW (.list (vints (isort xs))) K h) ∨
     (∃ es, h l = some (.dict es) ∧ es.length < 64 ∧ newW (.list (vints (isort (es.map (·.1))))) K h))

@[irreducible] noncomputable def appendW (x v : V) (K : KE) (h : H) : Prop :=
  ∃ l xs, x = .ref l ∧ h l = some (.list xs) ∧ xs.length < 100000 ∧ K .none (hset h l (.list (xs ++ [v])))

@[irreducible] noncomputable def popW (x : V) (K : KE) (h : H) : Prop :=
  ∃ l xs v, x = .ref l ∧ h l = some (.list (xs ++ [v])) ∧ xs.length < 100000 ∧ K v (hset h l (.list xs))

@[irreducible] noncomputable def getW (x k d : V) (K : KE) (h : H) : Prop :=
  ∃ l es i, x = .ref l ∧ k = .int i ∧ h l = some (.dict es) ∧ K ((es.lookup i).getD d) h

noncomputable def truthW (x : V) (K : Bool → Prop) : Prop :=
  match x with
  | .bool b => K b
  | _ => False

inductive Src where
  | list (l : Nat)
  | vals (xs : List V)

noncomputable def srcOf : V → Option Src
  | .ref l => some (.list l)
  | .tup xs => some (.vals xs)
  | _ => Option.none

noncomputable def srcAt (h : H) (s : Src) (i : Nat) : Option (Option V) :=
  match s with
  | .vals xs => some xs[i]?
  | .list l => match h l with
    | some (.list xs) => some xs[i]?
    | _ => Option.none

noncomputable def rangeSrc (n : Int) : Src := .vals ((List.range n.toNat).map fun (i : Nat) => V.int (i : Int))

noncomputable def compW (body : V → KE → H → Prop) (s : Src) : Nat → Nat → List V → KE → H → Prop
  | 0, _, _, _, _ => False
  | n + 1, i, acc, K, h =>
    match srcAt h s i with
    | Option.none => False
    | some Option.none => acc.length < 100000 ∧ newW (.list acc) K h
    | some (some v) => acc.length < 100000 ∧ body v (fun r h' => compW body s n (i + 1) (acc ++ [r]) K h') h

theorem newW_at {o : O} {K : KE} {h : H} {l : Nat} (k : newW o K h) (e : h l = none) : K (.ref l) (hset h l o) := by
  unfold newW at k; exact k l e
section
variable {x y : V} {K : KE} {h : H} {P : Bool → Prop}
theorem bW_int {Q : V → V → Prop} {o : BOp} (w : binW o x y K h) (ho : o ≠ .add) (k : ∀ a b, binW o (.int a) (.int b) K h → Q (.int a) (.int b)) : Q x y := by
  induction o using Qd.BOp.casesOn with
  | add => exact absurd rfl ho
  | _ =>
    induction x using Qd.V.casesOn with
    | int a =>
      induction y using Qd.V.casesOn with
      | int b => exact k a b w
      | _ => exact w.elim
    | _ => exact w.elim
theorem bW_add {Q : V → V → Prop} (w : binW .add x y K h) (k : ∀ a b, K (.int (a + b)) h → Q (.int a) (.int b)) (k2 : ∀ a b, binW .add (.ref a) (.ref b) K h → Q (.ref a) (.ref b)) : Q x y := by
  induction x using Qd.V.casesOn with
  | int a =>
    induction y using Qd.V.casesOn with
    | int b => exact k a b w
    | _ => exact w.elim
  | ref a =>
    induction y using Qd.V.casesOn with
    | ref b => exact k2 a b w
    | _ => exact w.elim
  | _ => exact w.elim
theorem aW_int {Q : BOp → V → V → Prop} {o : BOp} (w : augW o x y K h) (k1 : ∀ a b, K (.int (a + b)) h → Q .add (.int a) (.int b)) (k2 : ∀ a b, K (.int (a - b)) h → Q .sub (.int a) (.int b)) : Q o x y := by
  induction o using Qd.BOp.casesOn with
  | add =>
    induction x using Qd.V.casesOn with
    | int a =>
      induction y using Qd.V.casesOn with
      | int b => exact k1 a b w
      | _ => exact w.elim
    | _ => exact w.elim
  | sub =>
    induction x using Qd.V.casesOn with
    | int a =>
      induction y using Qd.V.casesOn with
      | int b => exact k2 a b w
      | _ => exact w.elim
    | _ => exact w.elim
  | _ => exact w.elim
theorem mW_ref {Q : V → V → Prop} (w : memW x y P h) (k1 : ∀ k d es, h d = some (.dict es) → P (es.any fun e => e.1 == k) → Q (.int k) (.ref d)) (k2 : ∀ k d (xs : List Int), h d = some (.list (vints xs)) → P (xs.contains k) → Q (.int k) (.ref d)) : Q x y := by
  unfold memW at w
  induction x using Qd.V.casesOn with
  | int a =>
    induction y using Qd.V.casesOn with
    | ref b => exact w.elim (fun w => w.elim fun es w => k1 a b es w.1 w.2) fun w => w.elim fun xs w => k2 a b xs w.1 w.2
    | _ => exact w.elim
  | _ => exact w.elim
theorem idxW_inv {Q : V → V → Prop} {i : V} (w : idxW x i K h) (k1 : ∀ l k xs v, 0 ≤ k → k < 100000 → h l = some (.list xs) → xs[k.toNat]? = some v → K v h → Q (.ref l) (.int k))
    (k2 : ∀ l k es v, h l = some (.dict es) → es.lookup k = some v → K v h → Q (.ref l) (.int k)) (k3 : ∀ xs k v, 0 ≤ k → k < 100000 → xs[k.toNat]? = some v → K v h → Q (.tup xs) (.int k)) : Q x i := by
  unfold idxW at w
  obtain ⟨k, rfl, w⟩ := w
  induction x using Qd.V.casesOn with
  | ref l => exact w.elim (fun w => w.2.2.elim fun xs q => q.elim fun v q => k1 l k xs v w.1 w.2.1 q.1 q.2.1 q.2.2) fun w => w.elim fun es q => q.elim fun v q => k2 l k es v q.1 q.2.1 q.2.2
  | tup xs => exact w.2.2.elim fun v q => k3 xs k v w.1 w.2.1 q.1 q.2
  | _ => exact w.elim
theorem eW_two {Q : V → V → Prop} (w : eqW x y P h) (k1 : ∀ a b, P (a == b) → Q (.int a) (.int b)) (k2 : ∀ a b d, Deep h 8 (.ref a) d → Deep h 8 (.ref b) d → P true → Q (.ref a) (.ref b)) : Q x y := by
  induction x using Qd.V.casesOn with
  | int a =>
    induction y using Qd.V.casesOn with
    | int b => exact k1 a b w
    | _ => exact w.elim
  | ref a =>
    induction y using Qd.V.casesOn with
    | ref b => exact Exists.elim w fun d w => k2 a b d w.1 w.2.1 w.2.2
    | _ => exact w.elim
  | _ => exact w.elim
end
noncomputable def initOf : Nat → Nat
  | 0 => 5
  | 1 => 6
  | 2 => 26
  | _ => 36

mutual
noncomputable def wE (g : G) : IE → M → KE → H → Prop
  | .con v, _, K, h => K v h
  | .var x, m, K, h => ∃ v, m x = some v ∧ K v h
  | .bin o a b, m, K, h => wE g a m (fun x h => wE g b m (fun y h => binW o x y K h) h) h
  | .cmp o a b, m, K, h => wE g a m (fun x h => wE g b m (fun y h => cmpW o x y K h) h) h
  | .band a b, m, K, h => wE g a m (fun x h => truthW x fun t => if t = true then wE g b m K h else K x h) h
  | .bor a b, m, K, h => wE g a m (fun x h => truthW x fun t => if t = true then K x h else wE g b m K h) h
  | .attr a f, m, K, h => wE g a m (fun x h => attrW x f K h) h
  | .idx a i, m, K, h => wE g a m (fun x h => wE g i m (fun y h => idxW x y K h) h) h
  | .tup es, m, K, h => wEs g es m (fun vs h => K (.tup vs) h) h
  | .lst es, m, K, h => wEs g es m (fun vs h => newW (.list vs) K h) h
  | .dict0, _, K, h => newW (.dict []) K h
  | .call f es, m, K, h => wEs g es m (fun vs h => g.C f vs K h) h
  | .new c es, m, K, h => wEs g es m (fun vs h => ∀ l, h l = Option.none → g.C (initOf c) (.ref l :: vs) (fun r h' => r = .none ∧ K (.ref l) h') (hset h l (.inst c []))) h
  | .meth f r es, m, K, h => wE g r m (fun x h => (∃ l fs, x = .ref l ∧ h l = some (.inst 3 fs)) ∧ wEs g es m (fun vs h => g.C f (x :: vs) K h) h) h
  | .len a, m, K, h => wE g a m (fun x h => lenW x K h) h
  | .sum a, m, K, h => wE g a m (fun x h => sumW x K h) h
  | .tupOf a, m, K, h => wE g a m (fun x h => tupOfW x K h) h
  | .sorted a, m, K, h => wE g a m (fun x h => sortedW x K h) h
  | .max2 a b, m, K, h => wE g a m (fun x h => wE g b m (fun y h => ∃ i j, x = .int i ∧ y = .int j ∧ K (.int (if j > i then j else i)) h) h) h
  | .min2 a b, m, K, h => wE g a m (fun x h => wE g b m (fun y h => ∃ i j, x = .int i ∧ y = .int j ∧ K (.int (if j < i then j else i)) h) h) h
  | .append r x, m, K, h => wE g r m (fun r h => (∃ l xs, r = .ref l ∧ h l = some (.list xs)) ∧ wE g x m (fun v h => appendW r v K h) h) h
  | .pop r, m, K, h => wE g r m (fun r h => popW r K h) h
  | .get1 d k, m, K, h => wE g d m (fun d h => (∃ l es, d = .ref l ∧ h l = some (.dict es)) ∧ wE g k m (fun k h => getW d k .none K h) h) h
  | .get2 d k v, m, K, h => wE g d m (fun d h => (∃ l es, d = .ref l ∧ h l = some (.dict es)) ∧ wE g k m (fun k h => wE g v m (fun v h => getW d k v K h) h) h) h
  | .compR elt x n, m, K, h => wE g n m (fun n h => ∃ k, n = .int k ∧ 0 ≤ k ∧ k < 100000 ∧ ∃ fuel, compW (fun v K h => wE g elt (upd m x v) K h) (rangeSrc k) fuel 0 [] K h) h
  | .compL elt x it, m, K, h => wE g it m (fun it h => ∃ s, srcOf it = some s ∧ ∃ fuel, compW (fun v K h => wE g elt (upd m x v) K h) s fuel 0 [] K h) h
  | .take40 a, m, K, h => wE g a m (fun a h => a = .script ∧ newW (.list (vints (g.sc.take 40))) K h) h
noncomputable def wEs (g : G) : IEs → M → KEs → H → Prop
  | .nil, _, K, h => K [] h
  | .cons e es, m, K, h => wE g e m (fun v h => wEs g es m (fun vs h => K (v :: vs) h) h) h
end

noncomputable def bindT (tu : Bool) (xs : List Nat) (m : M) (v : V) : Option M :=
  match tu, v, xs with
  | true, .tup vs, xs => if vs.length = xs.length then some (updL m xs vs) else Option.none
  | false, v, [x] => some (upd m x v)
  | _, _, _ => Option.none

noncomputable def whlW (T : M → KE → H → Prop) (B : KS → M → H → Prop) (K : KS) : Nat → M → H → Prop
  | 0, _, _ => False
  | n + 1, m, h => T m (fun v h₁ => truthW v fun t =>
      if t = true then B (fun fl m₂ h₂ => match fl with
        | .next => whlW T B K n m₂ h₂
        | .ret v => K (.ret v) m₂ h₂) m h₁
      else K .next m h₁) h

noncomputable def forW (tu : Bool) (xs : List Nat) (B : KS → M → H → Prop) (K : KS) (s : Src) : Nat → Nat → M → H → Prop
  | 0, _, _, _ => False
  | n + 1, i, m, h =>
    match srcAt h s i with
    | Option.none => False
    | some Option.none => K .next m h
    | some (some v) => ∃ m', bindT tu xs m v = some m' ∧ B (fun fl m₂ h₂ => match fl with
        | .next => forW tu xs B K s n (i + 1) m₂ h₂
        | .ret v => K (.ret v) m₂ h₂) m' h

section
variable {K : KE} {S : KS} {m : M} {h : H} {body : V → KE → H → Prop} {src : Src} {k i : Nat} {acc : List V} {P : Prop} {tu : Bool} {xs : List Nat} {B : KS → M → H → Prop}
theorem compW_e (e : srcAt h src i = some none) (l : acc.length < 100000) (w : newW (.list acc) K h) : compW body src (k + 1) i acc K h := by
  unfold compW; rw [e]; exact ⟨l, w⟩
theorem compW_n {v : V} (e : srcAt h src i = some (some v)) (l : acc.length < 100000) (w : body v (fun r h' => compW body src k (i + 1) (acc ++ [r]) K h') h) : compW body src (k + 1) i acc K h := by
  unfold compW; rw [e]; exact ⟨l, w⟩
theorem compW_inv (w : compW body src (k + 1) i acc K h) (k1 : srcAt h src i = some none → acc.length < 100000 → newW (.list acc) K h → P)
    (k2 : ∀ v, srcAt h src i = some (some v) → acc.length < 100000 → body v (fun r h' => compW body src k (i + 1) (acc ++ [r]) K h') h → P) : P := by
  unfold compW at w
  cases e : srcAt h src i with
  | none => rw [e] at w; exact w.elim
  | some o => induction o using Option.casesOn with
    | none => rw [e] at w; exact k1 e w.1 w.2
    | some v => rw [e] at w; exact k2 v e w.1 w.2
theorem forW_e (e : srcAt h src i = some none) (w : S .next m h) : forW tu xs B S src (k + 1) i m h := by
  unfold forW; rw [e]; exact w
theorem forW_n {v : V} {m' : M} (e : srcAt h src i = some (some v)) (b : bindT tu xs m v = some m') (w : B (fun fl m₂ h₂ => match fl with
        | .next => forW tu xs B S src k (i + 1) m₂ h₂
        | .ret v => S (.ret v) m₂ h₂) m' h) : forW tu xs B S src (k + 1) i m h := by
  unfold forW; rw [e]; exact ⟨m', b, w⟩
theorem forW_inv (w : forW tu xs B S src (k + 1) i m h) (k1 : srcAt h src i = some none → S .next m h → P)
    (k2 : ∀ v m', srcAt h src i = some (some v) → bindT tu xs m v = some m' → B (fun fl m₂ h₂ => match fl with
        | .next => forW tu xs B S src k (i + 1) m₂ h₂
        | .ret v => S (.ret v) m₂ h₂) m' h → P) : P := by
  unfold forW at w
  cases e : srcAt h src i with
  | none => rw [e] at w; exact w.elim
  | some o => induction o using Option.casesOn with
    | none => rw [e] at w; exact k1 e w
    | some v => rw [e] at w; exact w.elim fun m' w => k2 v m' e w.1 w.2
end
mutual
noncomputable def wS (g : G) : IS → KS → M → H → Prop
  | .set x e, K, m, h => wE g e m (fun v h => K .next (upd m x v) h) h
  | .setT xs e, K, m, h => wE g e m (fun v h => ∃ m', bindT true xs m v = some m' ∧ K .next m' h) h
  | .setA o f e, K, m, h => wE g e m (fun v h => wE g o m (fun x h => setAW x f v (fun h => K .next m h) h) h) h
  | .setI o i e, K, m, h => wE g e m (fun v h => wE g o m (fun x h => wE g i m (fun y h => setIW x y v (fun h => K .next m h) h) h) h) h
  | .augV x op e, K, m, h => ∃ u, m x = some u ∧ wE g e m (fun v h => augW op u v (fun r h => K .next (upd m x r) h) h) h
  | .augA o f op e, K, m, h => wE g o m (fun x h => attrW x f (fun u h => wE g e m (fun v h => augW op u v (fun r h => setAW x f r (fun h => K .next m h) h) h) h) h) h
  | .augI o i op e, K, m, h => wE g o m (fun x h => wE g i m (fun y h => idxW x y (fun u h => wE g e m (fun v h => augW op u v (fun r h => setIW x y r (fun h => K .next m h) h) h) h) h) h) h
  | .ife c t e, K, m, h => wE g c m (fun x h => truthW x fun b => if b = true then wSs g t K m h else wSs g e K m h) h
  | .whl c b, K, m, h => ∃ n, whlW (fun m K h => wE g c m K h) (fun K m h => wSs g b K m h) K n m h
  | .forR x n b, K, m, h => wE g n m (fun v h => ∃ k, v = .int k ∧ 0 ≤ k ∧ k < 100000 ∧ ∃ fuel, forW false [x] (fun K m h => wSs g b K m h) K (rangeSrc k) fuel 0 m h) h
  | .forL tu xs e b, K, m, h => wE g e m (fun v h => ∃ s, srcOf v = some s ∧ ∃ fuel, forW tu xs (fun K m h => wSs g b K m h) K s fuel 0 m h) h
  | .ret e, K, m, h => wE g e m (fun v h => K (.ret v) m h) h
  | .ret0, K, m, h => K (.ret .none) m h
  | .ex e, K, m, h => wE g e m (fun _ h => K .next m h) h
noncomputable def wSs (g : G) : ISs → KS → M → H → Prop
  | .nil, K, m, h => K .next m h
  | .cons s ss, K, m, h => wS g s (fun fl m h => match fl with
      | .next => wSs g ss K m h
      | .ret v => K (.ret v) m h) m h
end

structure Fn where
  params : List Nat
  body : ISs

noncomputable def callN (P : Nat → Option Fn) (sc : List Int) : Nat → Nat → List V → KE → H → Prop
  | 0, _, _, _, _ => False
  | n + 1, f, args, K, h => match P f with
    | Option.none => False
    | some fn => args.length = fn.params.length ∧
      wSs ⟨sc, callN P sc n⟩ fn.body (fun fl _ h => match fl with
        | .next => K .none h
        | .ret v => K v h) (updL (fun _ => Option.none) fn.params args) h

end
section
noncomputable def p_refs_in_0t_0t_0 : ISs := .cons (.ret (.lst .nil)) .nil
noncomputable def p_refs_in_0t_1 : ISs := .cons (.ret (.lst (.cons (.idx (.var 0) (.con (.int 1))) .nil))) .nil
noncomputable def p_refs_in_0t_0 : ISs := .cons (.ife (.cmp .eq (.idx (.var 0) (.con (.int 1))) (.con (.int 0))) p_refs_in_0t_0t_0 .nil) p_refs_in_0t_1
noncomputable def p_refs_in_1t_0 : ISs := .cons (.ret (.lst .nil)) .nil
noncomputable def p_refs_in_4b_1t_1b_1 : ISs := .cons (.augV 4 .sub (.con (.int 1))) .nil
noncomputable def p_refs_in_4b_1t_1b_0 : ISs := .cons (.ex (.append (.var 2) (.idx (.idx (.var 3) (.con (.int 2))) (.var 4)))) p_refs_in_4b_1t_1b_1
noncomputable def p_refs_in_4b_1t_1 : ISs := .cons (.whl (.cmp .ge (.var 4) (.con (.int 0))) p_refs_in_4b_1t_1b_0) .nil
noncomputable def p_refs_in_4b_1t_0 : ISs := .cons (.set 4 (.bin .sub (.len (.idx (.var 3) (.con (.int 2)))) (.con (.int 1)))) p_refs_in_4b_1t_1
noncomputable def p_refs_in_4b_1e_0t_0 : ISs := .cons (.ex (.append (.var 1) (.idx (.var 3) (.con (.int 1))))) .nil
noncomputable def p_refs_in_4b_1e_0 : ISs := .cons (.ife (.band (.cmp .eq (.idx (.var 3) (.con (.int 0))) (.con (.int 4))) (.cmp .ne (.idx (.var 3) (.con (.int 1))) (.con (.int 0)))) p_refs_in_4b_1e_0t_0 .nil) .nil
noncomputable def p_refs_in_4b_1 : ISs := .cons (.ife (.cmp .eq (.idx (.var 3) (.con (.int 0))) (.con (.int 5))) p_refs_in_4b_1t_0 p_refs_in_4b_1e_0) .nil
noncomputable def p_refs_in_4b_0 : ISs := .cons (.set 3 (.pop (.var 2))) p_refs_in_4b_1
noncomputable def p_refs_in_5 : ISs := .cons (.ret (.var 1)) .nil
noncomputable def p_refs_in_4 : ISs := .cons (.whl (.cmp .gt (.len (.var 2)) (.con (.int 0))) p_refs_in_4b_0) p_refs_in_5
noncomputable def p_refs_in_3 : ISs := .cons (.set 2 (.lst (.cons (.var 0) .nil))) p_refs_in_4
noncomputable def p_refs_in_2 : ISs := .cons (.set 1 (.lst .nil)) p_refs_in_3
noncomputable def p_refs_in_1 : ISs := .cons (.ife (.cmp .ne (.idx (.var 0) (.con (.int 0))) (.con (.int 5))) p_refs_in_1t_0 .nil) p_refs_in_2
noncomputable def p_refs_in_0 : ISs := .cons (.ife (.cmp .eq (.idx (.var 0) (.con (.int 0))) (.con (.int 4))) p_refs_in_0t_0 .nil) p_refs_in_1
noncomputable def f_refs_in : Fn := ⟨[0], p_refs_in_0⟩
noncomputable def p_move_value_0t_0 : ISs := .cons (.ret (.call 3 (.cons (.var 0) (.cons (.var 5) (.cons (.var 6) .nil))))) .nil
noncomputable def p_move_value_1 : ISs := .cons (.ret (.call 2 (.cons (.var 0) (.cons (.var 5) (.cons (.var 6) .nil))))) .nil
noncomputable def p_move_value_0 : ISs := .cons (.ife (.cmp .eq (.idx (.var 0) (.con (.int 0))) (.con (.int 5))) p_move_value_0t_0 .nil) p_move_value_1
noncomputable def f_move_value : Fn := ⟨[0, 5, 6], p_move_value_0⟩
noncomputable def p_move_plain_0t_0 : ISs := .cons (.ret (.tup (.cons (.con (.int 4)) (.cons (.get2 (.var 5) (.idx (.var 0) (.con (.int 1))) (.idx (.var 0) (.con (.int 1)))) .nil)))) .nil
noncomputable def p_move_plain_1t_1 : ISs := .cons (.ret (.tup (.cons (.con (.int 6)) (.cons (.tup (.cons (.con (.int 3)) (.cons (.meth 37 (.var 6) (.cons (.idx (.var 4) (.con (.int 1))) .nil)) (.cons (.idx (.var 4) (.con (.int 2))) .nil)))) .nil)))) .nil
noncomputable def p_move_plain_1t_0 : ISs := .cons (.set 4 (.idx (.var 0) (.con (.int 1)))) p_move_plain_1t_1
noncomputable def p_move_plain_2 : ISs := .cons (.ret (.var 0)) .nil
noncomputable def p_move_plain_1 : ISs := .cons (.ife (.band (.cmp .eq (.idx (.var 0) (.con (.int 0))) (.con (.int 6))) (.cmp .eq (.idx (.idx (.var 0) (.con (.int 1))) (.con (.int 0))) (.con (.int 3)))) p_move_plain_1t_0 .nil) p_move_plain_2
noncomputable def p_move_plain_0 : ISs := .cons (.ife (.cmp .eq (.idx (.var 0) (.con (.int 0))) (.con (.int 4))) p_move_plain_0t_0 .nil) p_move_plain_1
noncomputable def f_move_plain : Fn := ⟨[0, 5, 6], p_move_plain_0⟩
noncomputable def p_move_struct_2b_1t_2t_0 : ISs := .cons (.ex (.append (.idx (.idx (.var 2) (.bin .sub (.len (.var 2)) (.con (.int 1)))) (.con (.int 1))) (.var 7))) .nil
noncomputable def p_move_struct_2b_1t_2 : ISs := .cons (.ife (.cmp .gt (.len (.var 2)) (.con (.int 0))) p_move_struct_2b_1t_2t_0 .nil) .nil
noncomputable def p_move_struct_2b_1t_1 : ISs := .cons (.ex (.pop (.var 2))) p_move_struct_2b_1t_2
noncomputable def p_move_struct_2b_1t_0 : ISs := .cons (.set 7 (.tup (.cons (.con (.int 5)) (.cons (.idx (.var 8) (.con (.int 1))) (.cons (.tupOf (.var 9)) .nil))))) p_move_struct_2b_1t_1
noncomputable def p_move_struct_2b_1e_1t_0 : ISs := .cons (.ex (.append (.var 2) (.tup (.cons (.var 10) (.cons (.lst .nil) .nil))))) .nil
noncomputable def p_move_struct_2b_1e_1e_0 : ISs := .cons (.ex (.append (.var 9) (.call 2 (.cons (.var 10) (.cons (.var 5) (.cons (.var 6) .nil)))))) .nil
noncomputable def p_move_struct_2b_1e_1 : ISs := .cons (.ife (.cmp .eq (.idx (.var 10) (.con (.int 0))) (.con (.int 5))) p_move_struct_2b_1e_1t_0 p_move_struct_2b_1e_1e_0) .nil
noncomputable def p_move_struct_2b_1e_0 : ISs := .cons (.set 10 (.idx (.idx (.var 8) (.con (.int 2))) (.len (.var 9)))) p_move_struct_2b_1e_1
noncomputable def p_move_struct_2b_1 : ISs := .cons (.ife (.cmp .eq (.len (.var 9)) (.len (.idx (.var 8) (.con (.int 2))))) p_move_struct_2b_1t_0 p_move_struct_2b_1e_0) .nil
noncomputable def p_move_struct_2b_0 : ISs := .cons (.setT [8, 9] (.idx (.var 2) (.bin .sub (.len (.var 2)) (.con (.int 1))))) p_move_struct_2b_1
noncomputable def p_move_struct_3 : ISs := .cons (.ret (.var 7)) .nil
noncomputable def p_move_struct_2 : ISs := .cons (.whl (.cmp .gt (.len (.var 2)) (.con (.int 0))) p_move_struct_2b_0) p_move_struct_3
noncomputable def p_move_struct_1 : ISs := .cons (.set 7 (.var 0)) p_move_struct_2
noncomputable def p_move_struct_0 : ISs := .cons (.set 2 (.lst (.cons (.tup (.cons (.var 0) (.cons (.lst .nil) .nil))) .nil))) p_move_struct_1
noncomputable def f_move_struct : Fn := ⟨[0, 5, 6], p_move_struct_0⟩
noncomputable def p_words_for_0t_0 : ISs := .cons (.ret (.con (.int 3))) .nil
noncomputable def p_words_for_1 : ISs := .cons (.ret (.bin .add (.con (.int 2)) (.var 11))) .nil
noncomputable def p_words_for_0 : ISs := .cons (.ife (.cmp .lt (.bin .add (.con (.int 2)) (.var 11)) (.con (.int 3))) p_words_for_0t_0 .nil) p_words_for_1
noncomputable def f_words_for : Fn := ⟨[11], p_words_for_0⟩
noncomputable def p_Thing_init_5 : ISs := .cons (.setA (.var 12) 5 (.con (.int 0))) .nil
noncomputable def p_Thing_init_4 : ISs := .cons (.setA (.var 12) 4 (.call 4 (.cons (.len (.var 15)) .nil))) p_Thing_init_5
noncomputable def p_Thing_init_3 : ISs := .cons (.setA (.var 12) 3 (.con (.int 0))) p_Thing_init_4
noncomputable def p_Thing_init_2 : ISs := .cons (.setA (.var 12) 2 (.var 15)) p_Thing_init_3
noncomputable def p_Thing_init_1 : ISs := .cons (.setA (.var 12) 1 (.var 14)) p_Thing_init_2
noncomputable def p_Thing_init_0 : ISs := .cons (.setA (.var 12) 0 (.var 13)) p_Thing_init_1
noncomputable def f_Thing_init : Fn := ⟨[12, 13, 14, 15], p_Thing_init_0⟩
noncomputable def p_Heap_init_11 : ISs := .cons (.setA (.var 12) 17 (.con (.int 0))) .nil
noncomputable def p_Heap_init_10 : ISs := .cons (.setA (.var 12) 16 (.con (.int 0))) p_Heap_init_11
noncomputable def p_Heap_init_9 : ISs := .cons (.setA (.var 12) 15 (.lst .nil)) p_Heap_init_10
noncomputable def p_Heap_init_8 : ISs := .cons (.setA (.var 12) 14 (.lst .nil)) p_Heap_init_9
noncomputable def p_Heap_init_7 : ISs := .cons (.setA (.var 12) 13 (.bin .add (.bin .fdiv (.var 16) (.con (.int 4))) (.con (.int 1)))) p_Heap_init_8
noncomputable def p_Heap_init_6 : ISs := .cons (.setA (.var 12) 12 (.con (.int 0))) p_Heap_init_7
noncomputable def p_Heap_init_5 : ISs := .cons (.setA (.var 12) 11 (.var 17)) p_Heap_init_6
noncomputable def p_Heap_init_4 : ISs := .cons (.setA (.var 12) 10 .dict0) p_Heap_init_5
noncomputable def p_Heap_init_3 : ISs := .cons (.setA (.var 12) 9 (.var 16)) p_Heap_init_4
noncomputable def p_Heap_init_2 : ISs := .cons (.setA (.var 12) 8 (.con (.int 16))) p_Heap_init_3
noncomputable def p_Heap_init_1 : ISs := .cons (.setA (.var 12) 7 .dict0) p_Heap_init_2
noncomputable def p_Heap_init_0 : ISs := .cons (.setA (.var 12) 6 (.lst .nil)) p_Heap_init_1
noncomputable def f_Heap_init : Fn := ⟨[12, 16, 17], p_Heap_init_0⟩
noncomputable def p_heap_alloc_7 : ISs := .cons (.ret (.var 19)) .nil
noncomputable def p_heap_alloc_6 : ISs := .cons (.augA (.var 18) 12 .add (.attr (.var 19) 4)) p_heap_alloc_7
noncomputable def p_heap_alloc_5 : ISs := .cons (.augA (.var 18) 8 .add (.attr (.var 19) 4)) p_heap_alloc_6
noncomputable def p_heap_alloc_4 : ISs := .cons (.setI (.attr (.var 18) 7) (.attr (.var 19) 0) (.var 19)) p_heap_alloc_5
noncomputable def p_heap_alloc_3 : ISs := .cons (.ex (.append (.attr (.var 18) 6) (.var 19))) p_heap_alloc_4
noncomputable def p_heap_alloc_2 : ISs := .cons (.setA (.var 19) 5 (.attr (.var 18) 17)) p_heap_alloc_3
noncomputable def p_heap_alloc_1 : ISs := .cons (.augA (.var 18) 17 .add (.con (.int 1))) p_heap_alloc_2
noncomputable def p_heap_alloc_0 : ISs := .cons (.set 19 (.new 0 (.cons (.attr (.var 18) 8) (.cons (.var 14) (.cons (.var 15) .nil))))) p_heap_alloc_1
noncomputable def f_heap_alloc : Fn := ⟨[18, 14, 15], p_heap_alloc_0⟩
noncomputable def p_used_words_0 : ISs := .cons (.ret (.bin .sub (.attr (.var 18) 8) (.con (.int 16)))) .nil
noncomputable def f_used_words : Fn := ⟨[18], p_used_words_0⟩
noncomputable def p_note_collected_1t_0 : ISs := .cons (.setA (.var 18) 9 (.bin .mul (.con (.int 2)) (.call 8 (.cons (.var 18) .nil)))) .nil
noncomputable def p_note_collected_1 : ISs := .cons (.ife (.band (.cmp .ge (.var 20) (.con (.int 2))) (.cmp .gt (.bin .mul (.con (.int 2)) (.call 8 (.cons (.var 18) .nil))) (.attr (.var 18) 9))) p_note_collected_1t_0 .nil) .nil
noncomputable def p_note_collected_0 : ISs := .cons (.setA (.var 18) 12 (.con (.int 0))) p_note_collected_1
noncomputable def f_note_collected : Fn := ⟨[18, 20], p_note_collected_0⟩
noncomputable def p_find_thing_1t_0 : ISs := .cons (.ret (.var 22)) .nil
noncomputable def p_find_thing_4b_1t_0 : ISs := .cons (.set 23 (.bin .add (.var 25) (.con (.int 1)))) .nil
noncomputable def p_find_thing_4b_1e_0 : ISs := .cons (.set 24 (.var 25)) .nil
noncomputable def p_find_thing_4b_1 : ISs := .cons (.ife (.cmp .le (.attr (.idx (.attr (.var 18) 6) (.var 25)) 0) (.var 21)) p_find_thing_4b_1t_0 p_find_thing_4b_1e_0) .nil
noncomputable def p_find_thing_4b_0 : ISs := .cons (.set 25 (.bin .fdiv (.bin .add (.var 23) (.var 24)) (.con (.int 2)))) p_find_thing_4b_1
noncomputable def p_find_thing_5t_0 : ISs := .cons (.ret (.con .none)) .nil
noncomputable def p_find_thing_7t_0 : ISs := .cons (.ret (.var 19)) .nil
noncomputable def p_find_thing_8 : ISs := .cons (.ret (.con .none)) .nil
noncomputable def p_find_thing_7 : ISs := .cons (.ife (.cmp .lt (.var 21) (.bin .add (.attr (.var 19) 0) (.attr (.var 19) 4))) p_find_thing_7t_0 .nil) p_find_thing_8
noncomputable def p_find_thing_6 : ISs := .cons (.set 19 (.idx (.attr (.var 18) 6) (.bin .sub (.var 23) (.con (.int 1))))) p_find_thing_7
noncomputable def p_find_thing_5 : ISs := .cons (.ife (.cmp .eq (.var 23) (.con (.int 0))) p_find_thing_5t_0 .nil) p_find_thing_6
noncomputable def p_find_thing_4 : ISs := .cons (.whl (.cmp .lt (.var 23) (.var 24)) p_find_thing_4b_0) p_find_thing_5
noncomputable def p_find_thing_3 : ISs := .cons (.set 24 (.len (.attr (.var 18) 6))) p_find_thing_4
noncomputable def p_find_thing_2 : ISs := .cons (.set 23 (.con (.int 0))) p_find_thing_3
noncomputable def p_find_thing_1 : ISs := .cons (.ife (.cmp .isn (.var 22) (.con .none)) p_find_thing_1t_0 .nil) p_find_thing_2
noncomputable def p_find_thing_0 : ISs := .cons (.set 22 (.get1 (.attr (.var 18) 7) (.var 21))) p_find_thing_1
noncomputable def f_find_thing : Fn := ⟨[18, 21], p_find_thing_0⟩
noncomputable def p_slot_word_0 : ISs := .cons (.ret (.bin .add (.bin .add (.attr (.var 19) 0) (.con (.int 2))) (.var 26))) .nil
noncomputable def f_slot_word : Fn := ⟨[19, 26], p_slot_word_0⟩
noncomputable def p_holds_reference_0t_0 : ISs := .cons (.ret (.cmp .ne (.idx (.var 0) (.con (.int 1))) (.con (.int 0)))) .nil
noncomputable def p_holds_reference_1b_0t_0 : ISs := .cons (.ret (.con (.bool true))) .nil
noncomputable def p_holds_reference_1b_0 : ISs := .cons (.ife (.cmp .ne (.var 13) (.con (.int 0))) p_holds_reference_1b_0t_0 .nil) .nil
noncomputable def p_holds_reference_2 : ISs := .cons (.ret (.con (.bool false))) .nil
noncomputable def p_holds_reference_1 : ISs := .cons (.forL false [13] (.call 0 (.cons (.var 0) .nil)) p_holds_reference_1b_0) p_holds_reference_2
noncomputable def p_holds_reference_0 : ISs := .cons (.ife (.cmp .eq (.idx (.var 0) (.con (.int 0))) (.con (.int 4))) p_holds_reference_0t_0 .nil) p_holds_reference_1
noncomputable def f_holds_reference : Fn := ⟨[0], p_holds_reference_0⟩
noncomputable def p_card_number_0 : ISs := .cons (.ret (.bin .shr (.var 21) (.attr (.var 18) 11))) .nil
noncomputable def f_card_number : Fn := ⟨[18, 21], p_card_number_0⟩
noncomputable def p_store_slot_1t_0 : ISs := .cons (.setI (.attr (.var 18) 10) (.call 13 (.cons (.var 18) (.cons (.call 11 (.cons (.var 19) (.cons (.var 26) .nil))) .nil))) (.con (.int 1))) .nil
noncomputable def p_store_slot_1 : ISs := .cons (.ife (.band (.cmp .gt (.attr (.var 19) 3) (.con (.int 0))) (.call 12 (.cons (.var 0) .nil))) p_store_slot_1t_0 .nil) .nil
noncomputable def p_store_slot_0 : ISs := .cons (.setI (.attr (.var 19) 2) (.var 26) (.var 0)) p_store_slot_1
noncomputable def f_store_slot : Fn := ⟨[18, 19, 26, 0], p_store_slot_0⟩
noncomputable def p_words_of_0t_0 : ISs := .cons (.ret (.lst (.cons (.idx (.var 0) (.con (.int 1))) .nil))) .nil
noncomputable def p_words_of_1t_1t_0 : ISs := .cons (.ret (.lst (.cons (.idx (.var 4) (.con (.int 1))) .nil))) .nil
noncomputable def p_words_of_1t_2 : ISs := .cons (.ret (.lst .nil)) .nil
noncomputable def p_words_of_1t_1 : ISs := .cons (.ife (.cmp .eq (.idx (.var 4) (.con (.int 0))) (.con (.int 3))) p_words_of_1t_1t_0 .nil) p_words_of_1t_2
noncomputable def p_words_of_1t_0 : ISs := .cons (.set 4 (.idx (.var 0) (.con (.int 1)))) p_words_of_1t_1
noncomputable def p_words_of_2 : ISs := .cons (.ret (.call 0 (.cons (.var 0) .nil))) .nil
noncomputable def p_words_of_1 : ISs := .cons (.ife (.cmp .eq (.idx (.var 0) (.con (.int 0))) (.con (.int 6))) p_words_of_1t_0 .nil) p_words_of_2
noncomputable def p_words_of_0 : ISs := .cons (.ife (.cmp .eq (.idx (.var 0) (.con (.int 0))) (.con (.int 4))) p_words_of_0t_0 .nil) p_words_of_1
noncomputable def f_words_of : Fn := ⟨[0], p_words_of_0⟩
noncomputable def p_push_word_0t_0 : ISs := .cons .ret0 .nil
noncomputable def p_push_word_2t_0 : ISs := .cons .ret0 .nil
noncomputable def p_push_word_4 : ISs := .cons (.ex (.append (.var 28) (.var 19))) .nil
noncomputable def p_push_word_3 : ISs := .cons (.setI (.var 27) (.attr (.var 19) 0) (.con (.int 1))) p_push_word_4
noncomputable def p_push_word_2 : ISs := .cons (.ife (.bor (.cmp .is (.var 19) (.con .none)) (.bor (.cmp .gt (.attr (.var 19) 3) (.var 20)) (.cmp .inn (.attr (.var 19) 0) (.var 27)))) p_push_word_2t_0 .nil) p_push_word_3
noncomputable def p_push_word_1 : ISs := .cons (.set 19 (.call 10 (.cons (.var 18) (.cons (.var 21) .nil)))) p_push_word_2
noncomputable def p_push_word_0 : ISs := .cons (.ife (.cmp .eq (.var 21) (.con (.int 0))) p_push_word_0t_0 .nil) p_push_word_1
noncomputable def f_push_word : Fn := ⟨[18, 21, 20, 27, 28], p_push_word_0⟩
noncomputable def p_push_value_0b_0 : ISs := .cons (.ex (.call 16 (.cons (.var 18) (.cons (.var 21) (.cons (.var 20) (.cons (.var 27) (.cons (.var 28) .nil))))))) .nil
noncomputable def p_push_value_0 : ISs := .cons (.forL false [21] (.call 15 (.cons (.var 0) .nil)) p_push_value_0b_0) .nil
noncomputable def f_push_value : Fn := ⟨[18, 0, 20, 27, 28], p_push_value_0⟩
noncomputable def p_drain_0b_1b_0 : ISs := .cons (.ex (.call 17 (.cons (.var 18) (.cons (.var 0) (.cons (.var 20) (.cons (.var 27) (.cons (.var 28) .nil))))))) .nil
noncomputable def p_drain_0b_1 : ISs := .cons (.forL false [0] (.attr (.var 19) 2) p_drain_0b_1b_0) .nil
noncomputable def p_drain_0b_0 : ISs := .cons (.set 19 (.pop (.var 28))) p_drain_0b_1
noncomputable def p_drain_0 : ISs := .cons (.whl (.cmp .gt (.len (.var 28)) (.con (.int 0))) p_drain_0b_0) .nil
noncomputable def f_drain : Fn := ⟨[18, 28, 20, 27], p_drain_0⟩
noncomputable def p_old_slots_1b_0t_0b_0t_0 : ISs := .cons (.ex (.append (.var 29) (.tup (.cons (.var 19) (.cons (.var 26) .nil))))) .nil
noncomputable def p_old_slots_1b_0t_0b_0 : ISs := .cons (.ife (.cmp .inn (.call 13 (.cons (.var 18) (.cons (.call 11 (.cons (.var 19) (.cons (.var 26) .nil))) .nil))) (.attr (.var 18) 10)) p_old_slots_1b_0t_0b_0t_0 .nil) .nil
noncomputable def p_old_slots_1b_0t_0 : ISs := .cons (.forR 26 (.len (.attr (.var 19) 2)) p_old_slots_1b_0t_0b_0) .nil
noncomputable def p_old_slots_1b_0 : ISs := .cons (.ife (.cmp .gt (.attr (.var 19) 3) (.var 20)) p_old_slots_1b_0t_0 .nil) .nil
noncomputable def p_old_slots_2 : ISs := .cons (.ret (.var 29)) .nil
noncomputable def p_old_slots_1 : ISs := .cons (.forL false [19] (.attr (.var 18) 6) p_old_slots_1b_0) p_old_slots_2
noncomputable def p_old_slots_0 : ISs := .cons (.set 29 (.lst .nil)) p_old_slots_1
noncomputable def f_old_slots : Fn := ⟨[18, 20], p_old_slots_0⟩
noncomputable def p_mark_2b_0b_0 : ISs := .cons (.ex (.call 17 (.cons (.var 18) (.cons (.var 0) (.cons (.var 20) (.cons (.var 27) (.cons (.var 28) .nil))))))) .nil
noncomputable def p_mark_2b_0 : ISs := .cons (.forL false [0] (.var 31) p_mark_2b_0b_0) .nil
noncomputable def p_mark_3t_0b_0 : ISs := .cons (.ex (.call 17 (.cons (.var 18) (.cons (.idx (.attr (.var 19) 2) (.var 26)) (.cons (.var 20) (.cons (.var 27) (.cons (.var 28) .nil))))))) .nil
noncomputable def p_mark_3t_0 : ISs := .cons (.forL true [19, 26] (.call 19 (.cons (.var 18) (.cons (.var 20) .nil))) p_mark_3t_0b_0) .nil
noncomputable def p_mark_5 : ISs := .cons (.ret (.var 27)) .nil
noncomputable def p_mark_4 : ISs := .cons (.ex (.call 18 (.cons (.var 18) (.cons (.var 28) (.cons (.var 20) (.cons (.var 27) .nil)))))) p_mark_5
noncomputable def p_mark_3 : ISs := .cons (.ife (.cmp .lt (.var 20) (.con (.int 2))) p_mark_3t_0 .nil) p_mark_4
noncomputable def p_mark_2 : ISs := .cons (.forL false [31] (.var 30) p_mark_2b_0) p_mark_3
noncomputable def p_mark_1 : ISs := .cons (.set 28 (.lst .nil)) p_mark_2
noncomputable def p_mark_0 : ISs := .cons (.set 27 .dict0) p_mark_1
noncomputable def f_mark : Fn := ⟨[18, 30, 20], p_mark_0⟩
noncomputable def p_reach_more_1b_0 : ISs := .cons (.ex (.call 16 (.cons (.var 18) (.cons (.var 13) (.cons (.var 20) (.cons (.var 27) (.cons (.var 28) .nil))))))) .nil
noncomputable def p_reach_more_2 : ISs := .cons (.ex (.call 18 (.cons (.var 18) (.cons (.var 28) (.cons (.var 20) (.cons (.var 27) .nil)))))) .nil
noncomputable def p_reach_more_1 : ISs := .cons (.forL false [13] (.var 32) p_reach_more_1b_0) p_reach_more_2
noncomputable def p_reach_more_0 : ISs := .cons (.set 28 (.lst .nil)) p_reach_more_1
noncomputable def f_reach_more : Fn := ⟨[18, 27, 32, 20], p_reach_more_0⟩
noncomputable def p_mark_card_0 : ISs := .cons (.setI (.attr (.var 18) 10) (.call 13 (.cons (.var 18) (.cons (.var 21) .nil))) (.con (.int 1))) .nil
noncomputable def f_mark_card : Fn := ⟨[18, 21], p_mark_card_0⟩
noncomputable def p_refers_younger_0b_1t_0 : ISs := .cons (.ret (.con (.bool true))) .nil
noncomputable def p_refers_younger_0b_1 : ISs := .cons (.ife (.band (.cmp .isn (.var 33) (.con .none)) (.cmp .lt (.attr (.var 33) 3) (.attr (.var 19) 3))) p_refers_younger_0b_1t_0 .nil) .nil
noncomputable def p_refers_younger_0b_0 : ISs := .cons (.set 33 (.get1 (.attr (.var 18) 7) (.var 13))) p_refers_younger_0b_1
noncomputable def p_refers_younger_1 : ISs := .cons (.ret (.con (.bool false))) .nil
noncomputable def p_refers_younger_0 : ISs := .cons (.forL false [13] (.call 0 (.cons (.var 0) .nil)) p_refers_younger_0b_0) p_refers_younger_1
noncomputable def f_refers_younger : Fn := ⟨[18, 19, 0], p_refers_younger_0⟩
noncomputable def p_younger_slots_1b_0t_0b_0t_0 : ISs := .cons (.ex (.append (.var 29) (.tup (.cons (.var 19) (.cons (.var 26) .nil))))) .nil
noncomputable def p_younger_slots_1b_0t_0b_0 : ISs := .cons (.ife (.call 23 (.cons (.var 18) (.cons (.var 19) (.cons (.idx (.attr (.var 19) 2) (.var 26)) .nil)))) p_younger_slots_1b_0t_0b_0t_0 .nil) .nil
noncomputable def p_younger_slots_1b_0t_0 : ISs := .cons (.forR 26 (.len (.attr (.var 19) 2)) p_younger_slots_1b_0t_0b_0) .nil
noncomputable def p_younger_slots_1b_0 : ISs := .cons (.ife (.cmp .gt (.attr (.var 19) 3) (.con (.int 0))) p_younger_slots_1b_0t_0 .nil) .nil
noncomputable def p_younger_slots_2 : ISs := .cons (.ret (.var 29)) .nil
noncomputable def p_younger_slots_1 : ISs := .cons (.forL false [19] (.attr (.var 18) 6) p_younger_slots_1b_0) p_younger_slots_2
noncomputable def p_younger_slots_0 : ISs := .cons (.set 29 (.lst .nil)) p_younger_slots_1
noncomputable def f_younger_slots : Fn := ⟨[18], p_younger_slots_0⟩
noncomputable def p_renew_cards_1b_0 : ISs := .cons (.ex (.call 22 (.cons (.var 18) (.cons (.call 11 (.cons (.var 19) (.cons (.var 26) .nil))) .nil)))) .nil
noncomputable def p_renew_cards_1 : ISs := .cons (.forL true [19, 26] (.call 24 (.cons (.var 18) .nil)) p_renew_cards_1b_0) .nil
noncomputable def p_renew_cards_0 : ISs := .cons (.setA (.var 18) 10 .dict0) p_renew_cards_1
noncomputable def f_renew_cards : Fn := ⟨[18], p_renew_cards_0⟩
noncomputable def p_Handles_init_0 : ISs := .cons (.setA (.var 12) 18 (.lst .nil)) .nil
noncomputable def f_Handles_init : Fn := ⟨[12], p_Handles_init_0⟩
noncomputable def p_new_handle_1 : ISs := .cons (.ret (.len (.attr (.var 34) 18))) .nil
noncomputable def p_new_handle_0 : ISs := .cons (.ex (.append (.attr (.var 34) 18) (.lst (.cons (.var 35) (.cons (.var 13) (.cons (.con (.int 1)) .nil)))))) p_new_handle_1
noncomputable def f_new_handle : Fn := ⟨[34, 35, 13], p_new_handle_0⟩
noncomputable def p_target_0t_0 : ISs := .cons (.ret (.con (.int 0))) .nil
noncomputable def p_target_2t_0 : ISs := .cons (.ret (.con (.int 0))) .nil
noncomputable def p_target_3 : ISs := .cons (.ret (.idx (.var 37) (.con (.int 1)))) .nil
noncomputable def p_target_2 : ISs := .cons (.ife (.cmp .eq (.idx (.var 37) (.con (.int 2))) (.con (.int 0))) p_target_2t_0 .nil) p_target_3
noncomputable def p_target_1 : ISs := .cons (.set 37 (.idx (.attr (.var 34) 18) (.bin .sub (.var 36) (.con (.int 1))))) p_target_2
noncomputable def p_target_0 : ISs := .cons (.ife (.bor (.cmp .lt (.var 36) (.con (.int 1))) (.cmp .gt (.var 36) (.len (.attr (.var 34) 18)))) p_target_0t_0 .nil) p_target_1
noncomputable def f_target : Fn := ⟨[34, 36], p_target_0⟩
noncomputable def p_strong_values_1b_0t_0 : ISs := .cons (.ex (.append (.var 29) (.tup (.cons (.con (.int 4)) (.cons (.idx (.var 37) (.con (.int 1))) .nil))))) .nil
noncomputable def p_strong_values_1b_0 : ISs := .cons (.ife (.band (.cmp .eq (.idx (.var 37) (.con (.int 0))) (.con (.int 3))) (.band (.cmp .eq (.idx (.var 37) (.con (.int 2))) (.con (.int 1))) (.cmp .ne (.idx (.var 37) (.con (.int 1))) (.con (.int 0))))) p_strong_values_1b_0t_0 .nil) .nil
noncomputable def p_strong_values_2 : ISs := .cons (.ret (.var 29)) .nil
noncomputable def p_strong_values_1 : ISs := .cons (.forL false [37] (.attr (.var 34) 18) p_strong_values_1b_0) p_strong_values_2
noncomputable def p_strong_values_0 : ISs := .cons (.set 29 (.lst .nil)) p_strong_values_1
noncomputable def f_strong_values : Fn := ⟨[34], p_strong_values_0⟩
noncomputable def p_found_dead_1 : ISs := .cons (.ret (.band (.cmp .isn (.var 19) (.con .none)) (.band (.cmp .le (.attr (.var 19) 3) (.var 20)) (.cmp .nin (.var 13) (.var 27))))) .nil
noncomputable def p_found_dead_0 : ISs := .cons (.set 19 (.get1 (.attr (.var 18) 7) (.var 13))) p_found_dead_1
noncomputable def f_found_dead : Fn := ⟨[18, 13, 27, 20], p_found_dead_0⟩
noncomputable def p_clear_handles_1b_0t_1 : ISs := .cons (.augV 11 .add (.con (.int 1))) .nil
noncomputable def p_clear_handles_1b_0t_0 : ISs := .cons (.setI (.var 37) (.con (.int 1)) (.con (.int 0))) p_clear_handles_1b_0t_1
noncomputable def p_clear_handles_1b_0 : ISs := .cons (.ife (.band (.cmp .eq (.idx (.var 37) (.con (.int 0))) (.var 35)) (.band (.cmp .ne (.idx (.var 37) (.con (.int 1))) (.con (.int 0))) (.call 30 (.cons (.var 18) (.cons (.idx (.var 37) (.con (.int 1))) (.cons (.var 27) (.cons (.var 20) .nil))))))) p_clear_handles_1b_0t_0 .nil) .nil
noncomputable def p_clear_handles_2 : ISs := .cons (.ret (.var 11)) .nil
noncomputable def p_clear_handles_1 : ISs := .cons (.forL false [37] (.attr (.var 34) 18) p_clear_handles_1b_0) p_clear_handles_2
noncomputable def p_clear_handles_0 : ISs := .cons (.set 11 (.con (.int 0))) p_clear_handles_1
noncomputable def f_clear_handles : Fn := ⟨[34, 35, 27, 18, 20], p_clear_handles_0⟩
noncomputable def p_move_handles_0b_0t_0 : ISs := .cons (.setI (.var 37) (.con (.int 1)) (.idx (.var 38) (.idx (.var 37) (.con (.int 1))))) .nil
noncomputable def p_move_handles_0b_0 : ISs := .cons (.ife (.cmp .inn (.idx (.var 37) (.con (.int 1))) (.var 38)) p_move_handles_0b_0t_0 .nil) .nil
noncomputable def p_move_handles_0 : ISs := .cons (.forL false [37] (.attr (.var 34) 18) p_move_handles_0b_0) .nil
noncomputable def f_move_handles : Fn := ⟨[34, 38], p_move_handles_0⟩
noncomputable def p_pick_finals_2b_0t_1 : ISs := .cons (.ex (.append (.attr (.var 18) 15) (.tup (.cons (.con (.int 4)) (.cons (.var 13) .nil))))) .nil
noncomputable def p_pick_finals_2b_0t_0 : ISs := .cons (.ex (.append (.var 40) (.var 13))) p_pick_finals_2b_0t_1
noncomputable def p_pick_finals_2b_0e_0 : ISs := .cons (.ex (.append (.var 39) (.var 13))) .nil
noncomputable def p_pick_finals_2b_0 : ISs := .cons (.ife (.call 30 (.cons (.var 18) (.cons (.var 13) (.cons (.var 27) (.cons (.var 20) .nil))))) p_pick_finals_2b_0t_0 p_pick_finals_2b_0e_0) .nil
noncomputable def p_pick_finals_4 : ISs := .cons (.ret (.var 40)) .nil
noncomputable def p_pick_finals_3 : ISs := .cons (.setA (.var 18) 14 (.var 39)) p_pick_finals_4
noncomputable def p_pick_finals_2 : ISs := .cons (.forL false [13] (.attr (.var 18) 14) p_pick_finals_2b_0) p_pick_finals_3
noncomputable def p_pick_finals_1 : ISs := .cons (.set 40 (.lst .nil)) p_pick_finals_2
noncomputable def p_pick_finals_0 : ISs := .cons (.set 39 (.lst .nil)) p_pick_finals_1
noncomputable def f_pick_finals : Fn := ⟨[18, 27, 20], p_pick_finals_0⟩
noncomputable def p_end_of_older_1b_0t_0 : ISs := .cons (.set 41 (.bin .add (.attr (.var 19) 0) (.attr (.var 19) 4))) .nil
noncomputable def p_end_of_older_1b_0 : ISs := .cons (.ife (.band (.cmp .gt (.attr (.var 19) 3) (.var 20)) (.cmp .gt (.bin .add (.attr (.var 19) 0) (.attr (.var 19) 4)) (.var 41))) p_end_of_older_1b_0t_0 .nil) .nil
noncomputable def p_end_of_older_2 : ISs := .cons (.ret (.var 41)) .nil
noncomputable def p_end_of_older_1 : ISs := .cons (.forL false [19] (.attr (.var 18) 6) p_end_of_older_1b_0) p_end_of_older_2
noncomputable def p_end_of_older_0 : ISs := .cons (.set 41 (.con (.int 16))) p_end_of_older_1
noncomputable def f_end_of_older : Fn := ⟨[18, 20], p_end_of_older_0⟩
noncomputable def p_plan_moves_2b_0t_1 : ISs := .cons (.augV 42 .add (.attr (.var 19) 4)) .nil
noncomputable def p_plan_moves_2b_0t_0 : ISs := .cons (.setI (.var 38) (.attr (.var 19) 0) (.var 42)) p_plan_moves_2b_0t_1
noncomputable def p_plan_moves_2b_0 : ISs := .cons (.ife (.band (.cmp .le (.attr (.var 19) 3) (.var 20)) (.cmp .inn (.attr (.var 19) 0) (.var 27))) p_plan_moves_2b_0t_0 .nil) .nil
noncomputable def p_plan_moves_3 : ISs := .cons (.ret (.var 38)) .nil
noncomputable def p_plan_moves_2 : ISs := .cons (.forL false [19] (.attr (.var 18) 6) p_plan_moves_2b_0) p_plan_moves_3
noncomputable def p_plan_moves_1 : ISs := .cons (.set 42 (.call 34 (.cons (.var 18) (.cons (.var 20) .nil)))) p_plan_moves_2
noncomputable def p_plan_moves_0 : ISs := .cons (.set 38 .dict0) p_plan_moves_1
noncomputable def f_plan_moves : Fn := ⟨[18, 27, 20], p_plan_moves_0⟩
noncomputable def p_Words_init_1 : ISs := .cons (.setA (.var 12) 20 (.var 38)) .nil
noncomputable def p_Words_init_0 : ISs := .cons (.setA (.var 12) 19 (.var 18)) p_Words_init_1
noncomputable def f_Words_init : Fn := ⟨[12, 18, 38], p_Words_init_0⟩
noncomputable def p_Words_new_word_0 : ISs := .cons (.ret (.call 38 (.cons (.attr (.var 12) 19) (.cons (.attr (.var 12) 20) (.cons (.var 21) .nil))))) .nil
noncomputable def f_Words_new_word : Fn := ⟨[12, 21], p_Words_new_word_0⟩
noncomputable def p_moved_word_1t_0 : ISs := .cons (.ret (.var 21)) .nil
noncomputable def p_moved_word_2 : ISs := .cons (.ret (.bin .add (.bin .sub (.var 21) (.attr (.var 19) 0)) (.idx (.var 38) (.attr (.var 19) 0)))) .nil
noncomputable def p_moved_word_1 : ISs := .cons (.ife (.bor (.cmp .is (.var 19) (.con .none)) (.cmp .nin (.attr (.var 19) 0) (.var 38))) p_moved_word_1t_0 .nil) p_moved_word_2
noncomputable def p_moved_word_0 : ISs := .cons (.set 19 (.call 10 (.cons (.var 18) (.cons (.var 21) .nil)))) p_moved_word_1
noncomputable def f_moved_word : Fn := ⟨[18, 38, 21], p_moved_word_0⟩
noncomputable def p_stays_0 : ISs := .cons (.ret (.bor (.cmp .gt (.attr (.var 19) 3) (.var 20)) (.cmp .inn (.attr (.var 19) 0) (.var 38)))) .nil
noncomputable def f_stays : Fn := ⟨[19, 38, 20], p_stays_0⟩
noncomputable def p_moved_values_1b_0 : ISs := .cons (.ex (.append (.var 29) (.call 1 (.cons (.var 0) (.cons (.var 38) (.cons (.var 6) .nil)))))) .nil
noncomputable def p_moved_values_2 : ISs := .cons (.ret (.var 29)) .nil
noncomputable def p_moved_values_1 : ISs := .cons (.forL false [0] (.var 31) p_moved_values_1b_0) p_moved_values_2
noncomputable def p_moved_values_0 : ISs := .cons (.set 29 (.lst .nil)) p_moved_values_1
noncomputable def f_moved_values : Fn := ⟨[31, 38, 6], p_moved_values_0⟩
noncomputable def p_new_lists_1b_0 : ISs := .cons (.ex (.append (.var 29) (.call 40 (.cons (.var 31) (.cons (.var 38) (.cons (.var 6) .nil)))))) .nil
noncomputable def p_new_lists_2 : ISs := .cons (.ret (.var 29)) .nil
noncomputable def p_new_lists_1 : ISs := .cons (.forL false [31] (.var 30) p_new_lists_1b_0) p_new_lists_2
noncomputable def p_new_lists_0 : ISs := .cons (.set 29 (.lst .nil)) p_new_lists_1
noncomputable def f_new_lists : Fn := ⟨[30, 38, 6], p_new_lists_0⟩
noncomputable def p_put_lists_0b_1b_0 : ISs := .cons (.setI (.var 31) (.var 44) (.idx (.idx (.var 43) (.var 4)) (.var 44))) .nil
noncomputable def p_put_lists_0b_1 : ISs := .cons (.forR 44 (.len (.var 31)) p_put_lists_0b_1b_0) .nil
noncomputable def p_put_lists_0b_0 : ISs := .cons (.set 31 (.idx (.var 30) (.var 4))) p_put_lists_0b_1
noncomputable def p_put_lists_0 : ISs := .cons (.forR 4 (.len (.var 30)) p_put_lists_0b_0) .nil
noncomputable def f_put_lists : Fn := ⟨[30, 43], p_put_lists_0⟩
noncomputable def p_moved_addrs_1b_0 : ISs := .cons (.ex (.append (.var 29) (.get2 (.var 38) (.var 13) (.var 13)))) .nil
noncomputable def p_moved_addrs_2 : ISs := .cons (.ret (.var 29)) .nil
noncomputable def p_moved_addrs_1 : ISs := .cons (.forL false [13] (.var 32) p_moved_addrs_1b_0) p_moved_addrs_2
noncomputable def p_moved_addrs_0 : ISs := .cons (.set 29 (.lst .nil)) p_moved_addrs_1
noncomputable def f_moved_addrs : Fn := ⟨[32, 38], p_moved_addrs_0⟩
noncomputable def p_settle_thing_0t_0 : ISs := .cons .ret0 .nil
noncomputable def p_settle_thing_2t_0 : ISs := .cons (.augA (.var 18) 16 .add (.con (.int 1))) .nil
noncomputable def p_settle_thing_4t_0 : ISs := .cons (.augA (.var 19) 3 .add (.con (.int 1))) .nil
noncomputable def p_settle_thing_4 : ISs := .cons (.ife (.cmp .lt (.attr (.var 19) 3) (.con (.int 2))) p_settle_thing_4t_0 .nil) .nil
noncomputable def p_settle_thing_3 : ISs := .cons (.setA (.var 19) 0 (.var 42)) p_settle_thing_4
noncomputable def p_settle_thing_2 : ISs := .cons (.ife (.cmp .ne (.var 42) (.attr (.var 19) 0)) p_settle_thing_2t_0 .nil) p_settle_thing_3
noncomputable def p_settle_thing_1 : ISs := .cons (.set 42 (.idx (.var 38) (.attr (.var 19) 0))) p_settle_thing_2
noncomputable def p_settle_thing_0 : ISs := .cons (.ife (.cmp .gt (.attr (.var 19) 3) (.var 20)) p_settle_thing_0t_0 .nil) p_settle_thing_1
noncomputable def f_settle_thing : Fn := ⟨[18, 19, 38, 20], p_settle_thing_0⟩
noncomputable def p_settle_things_1b_0t_0 : ISs := .cons (.ex (.append (.var 45) (.var 19))) .nil
noncomputable def p_settle_things_1b_0 : ISs := .cons (.ife (.call 39 (.cons (.var 19) (.cons (.var 38) (.cons (.var 20) .nil)))) p_settle_things_1b_0t_0 .nil) .nil
noncomputable def p_settle_things_5b_2 : ISs := .cons (.setA (.var 18) 8 (.bin .add (.attr (.var 19) 0) (.attr (.var 19) 4))) .nil
noncomputable def p_settle_things_5b_1 : ISs := .cons (.setI (.attr (.var 18) 7) (.attr (.var 19) 0) (.var 19)) p_settle_things_5b_2
noncomputable def p_settle_things_5b_0 : ISs := .cons (.ex (.call 44 (.cons (.var 18) (.cons (.var 19) (.cons (.var 38) (.cons (.var 20) .nil)))))) p_settle_things_5b_1
noncomputable def p_settle_things_5 : ISs := .cons (.forL false [19] (.var 45) p_settle_things_5b_0) .nil
noncomputable def p_settle_things_4 : ISs := .cons (.setA (.var 18) 8 (.con (.int 16))) p_settle_things_5
noncomputable def p_settle_things_3 : ISs := .cons (.setA (.var 18) 7 .dict0) p_settle_things_4
noncomputable def p_settle_things_2 : ISs := .cons (.setA (.var 18) 6 (.var 45)) p_settle_things_3
noncomputable def p_settle_things_1 : ISs := .cons (.forL false [19] (.attr (.var 18) 6) p_settle_things_1b_0) p_settle_things_2
noncomputable def p_settle_things_0 : ISs := .cons (.set 45 (.lst .nil)) p_settle_things_1
noncomputable def f_settle_things : Fn := ⟨[18, 38, 20], p_settle_things_0⟩
noncomputable def p_move_all_2b_0 : ISs := .cons (.ex (.append (.var 46) (.var 31))) .nil
noncomputable def p_move_all_4b_0t_0 : ISs := .cons (.ex (.append (.var 46) (.attr (.var 19) 2))) .nil
noncomputable def p_move_all_4b_0 : ISs := .cons (.ife (.call 39 (.cons (.var 19) (.cons (.var 38) (.cons (.var 20) .nil)))) p_move_all_4b_0t_0 .nil) .nil
noncomputable def p_move_all_7 : ISs := .cons (.ex (.call 45 (.cons (.var 18) (.cons (.var 38) (.cons (.var 20) .nil))))) .nil
noncomputable def p_move_all_6 : ISs := .cons (.setA (.var 18) 14 (.call 43 (.cons (.attr (.var 18) 14) (.cons (.var 38) .nil)))) p_move_all_7
noncomputable def p_move_all_5 : ISs := .cons (.ex (.call 42 (.cons (.var 46) (.cons (.call 41 (.cons (.var 46) (.cons (.var 38) (.cons (.var 6) .nil)))) .nil)))) p_move_all_6
noncomputable def p_move_all_4 : ISs := .cons (.forL false [19] (.attr (.var 18) 6) p_move_all_4b_0) p_move_all_5
noncomputable def p_move_all_3 : ISs := .cons (.ex (.append (.var 46) (.attr (.var 18) 15))) p_move_all_4
noncomputable def p_move_all_2 : ISs := .cons (.forL false [31] (.var 30) p_move_all_2b_0) p_move_all_3
noncomputable def p_move_all_1 : ISs := .cons (.set 46 (.lst .nil)) p_move_all_2
noncomputable def p_move_all_0 : ISs := .cons (.set 6 (.new 3 (.cons (.var 18) (.cons (.var 38) .nil)))) p_move_all_1
noncomputable def f_move_all : Fn := ⟨[18, 30, 38, 20], p_move_all_0⟩
noncomputable def p_root_lists_1b_0 : ISs := .cons (.ex (.append (.var 29) (.var 31))) .nil
noncomputable def p_root_lists_3t_0 : ISs := .cons (.ex (.append (.var 29) (.call 29 (.cons (.var 47) .nil)))) .nil
noncomputable def p_root_lists_4 : ISs := .cons (.ret (.var 29)) .nil
noncomputable def p_root_lists_3 : ISs := .cons (.ife (.cmp .isn (.var 47) (.con .none)) p_root_lists_3t_0 .nil) p_root_lists_4
noncomputable def p_root_lists_2 : ISs := .cons (.ex (.append (.var 29) (.attr (.var 18) 15))) p_root_lists_3
noncomputable def p_root_lists_1 : ISs := .cons (.forL false [31] (.var 30) p_root_lists_1b_0) p_root_lists_2
noncomputable def p_root_lists_0 : ISs := .cons (.set 29 (.lst .nil)) p_root_lists_1
noncomputable def f_root_lists : Fn := ⟨[18, 30, 47], p_root_lists_0⟩
noncomputable def p_find_living_1t_0 : ISs := .cons (.ex (.call 31 (.cons (.var 47) (.cons (.con (.int 1)) (.cons (.var 27) (.cons (.var 18) (.cons (.var 20) .nil))))))) .nil
noncomputable def p_find_living_4t_0 : ISs := .cons (.ex (.call 31 (.cons (.var 47) (.cons (.con (.int 2)) (.cons (.var 27) (.cons (.var 18) (.cons (.var 20) .nil))))))) .nil
noncomputable def p_find_living_5 : ISs := .cons (.ret (.var 27)) .nil
noncomputable def p_find_living_4 : ISs := .cons (.ife (.cmp .isn (.var 47) (.con .none)) p_find_living_4t_0 .nil) p_find_living_5
noncomputable def p_find_living_3 : ISs := .cons (.ex (.call 21 (.cons (.var 18) (.cons (.var 27) (.cons (.var 40) (.cons (.var 20) .nil)))))) p_find_living_4
noncomputable def p_find_living_2 : ISs := .cons (.set 40 (.call 33 (.cons (.var 18) (.cons (.var 27) (.cons (.var 20) .nil))))) p_find_living_3
noncomputable def p_find_living_1 : ISs := .cons (.ife (.cmp .isn (.var 47) (.con .none)) p_find_living_1t_0 .nil) p_find_living_2
noncomputable def p_find_living_0 : ISs := .cons (.set 27 (.call 20 (.cons (.var 18) (.cons (.call 47 (.cons (.var 18) (.cons (.var 30) (.cons (.var 47) .nil)))) (.cons (.var 20) .nil))))) p_find_living_1
noncomputable def f_find_living : Fn := ⟨[18, 30, 47, 20], p_find_living_0⟩
noncomputable def p_collect_4t_0 : ISs := .cons (.ex (.call 32 (.cons (.var 47) (.cons (.var 38) .nil)))) .nil
noncomputable def p_collect_7 : ISs := .cons (.ret (.bin .sub (.var 48) (.len (.attr (.var 18) 6)))) .nil
noncomputable def p_collect_6 : ISs := .cons (.ex (.call 9 (.cons (.var 18) (.cons (.var 20) .nil)))) p_collect_7
noncomputable def p_collect_5 : ISs := .cons (.ex (.call 25 (.cons (.var 18) .nil))) p_collect_6
noncomputable def p_collect_4 : ISs := .cons (.ife (.cmp .isn (.var 47) (.con .none)) p_collect_4t_0 .nil) p_collect_5
noncomputable def p_collect_3 : ISs := .cons (.ex (.call 46 (.cons (.var 18) (.cons (.var 30) (.cons (.var 38) (.cons (.var 20) .nil)))))) p_collect_4
noncomputable def p_collect_2 : ISs := .cons (.set 38 (.call 35 (.cons (.var 18) (.cons (.var 27) (.cons (.var 20) .nil))))) p_collect_3
noncomputable def p_collect_1 : ISs := .cons (.set 27 (.call 48 (.cons (.var 18) (.cons (.var 30) (.cons (.var 47) (.cons (.var 20) .nil)))))) p_collect_2
noncomputable def p_collect_0 : ISs := .cons (.set 48 (.len (.attr (.var 18) 6))) p_collect_1
noncomputable def f_collect : Fn := ⟨[18, 30, 47, 20], p_collect_0⟩
noncomputable def p_law_pull_2 : ISs := .cons (.ret (.var 36)) .nil
noncomputable def p_law_pull_1 : ISs := .cons (.augI (.var 50) (.con (.int 0)) .add (.con (.int 1))) p_law_pull_2
noncomputable def p_law_pull_0 : ISs := .cons (.set 36 (.idx (.var 49) (.bin .fmod (.idx (.var 50) (.con (.int 0))) (.len (.var 49))))) p_law_pull_1
noncomputable def f_law_pull : Fn := ⟨[49, 50], p_law_pull_0⟩
noncomputable def p_law_spec_0 : ISs := .cons (.ret (.tup (.cons (.bin .fmod (.var 51) (.var 53)) (.cons (.bin .fmod (.bin .fdiv (.var 51) (.var 53)) (.var 52)) (.cons (.bin .fmod (.bin .fdiv (.bin .fdiv (.var 51) (.var 53)) (.var 52)) (.var 52)) (.cons (.bin .fmod (.bin .fdiv (.var 51) (.con (.int 7))) (.con (.int 5))) .nil)))))) .nil
noncomputable def f_law_spec : Fn := ⟨[51, 52, 53], p_law_spec_0⟩
noncomputable def p_law_value_2t_0 : ISs := .cons (.ret (.tup (.cons (.con (.int 4)) (.cons (.con (.int 0)) .nil)))) .nil
noncomputable def p_law_value_3t_0 : ISs := .cons (.ret (.var 61)) .nil
noncomputable def p_law_value_4t_0 : ISs := .cons (.ret (.tup (.cons (.con (.int 1)) (.cons (.bin .add (.con (.int 16)) (.bin .mul (.con (.int 3)) (.var 60))) .nil)))) .nil
noncomputable def p_law_value_5t_0 : ISs := .cons (.ret (.tup (.cons (.con (.int 5)) (.cons (.con (.int 30)) (.cons (.tup (.cons (.var 61) (.cons (.tup (.cons (.con (.int 1)) (.cons (.bin .add (.con (.int 16)) (.var 60)) .nil))) .nil))) .nil))))) .nil
noncomputable def p_law_value_6t_0 : ISs := .cons (.ret (.tup (.cons (.con (.int 5)) (.cons (.con (.int 31)) (.cons (.tup (.cons (.tup (.cons (.con (.int 5)) (.cons (.con (.int 32)) (.cons (.tup .nil) .nil)))) (.cons (.tup (.cons (.con (.int 5)) (.cons (.con (.int 30)) (.cons (.tup (.cons (.var 61) (.cons (.tup (.cons (.con (.int 1)) (.cons (.con (.int 19)) .nil))) .nil))) .nil)))) (.cons (.tup (.cons (.con (.int 4)) (.cons (.idx (.var 55) (.var 59)) .nil))) .nil)))) .nil))))) .nil
noncomputable def p_law_value_7t_0 : ISs := .cons (.ret (.tup (.cons (.con (.int 7)) (.cons (.tup (.cons (.bin .add (.con (.int 16)) (.var 60)) (.cons (.con (.int 300)) (.cons (.tup (.cons (.con (.int 16)) .nil)) .nil)))) .nil)))) .nil
noncomputable def p_law_value_8t_0 : ISs := .cons (.ret (.tup (.cons (.con (.int 6)) (.cons (.tup (.cons (.con (.int 3)) (.cons (.bin .add (.idx (.var 55) (.var 58)) (.bin .fmod (.var 60) (.idx (.var 56) (.var 58)))) (.cons (.tup (.cons (.var 60) (.cons (.con (.int 1)) .nil))) .nil)))) .nil)))) .nil
noncomputable def p_law_value_9t_0 : ISs := .cons (.ret (.tup (.cons (.con (.int 6)) (.cons (.tup (.cons (.con (.int 3)) (.cons (.bin .sub (.bin .add (.idx (.var 55) (.var 58)) (.idx (.var 56) (.var 58))) (.con (.int 1))) (.cons (.tup .nil) .nil)))) .nil)))) .nil
noncomputable def p_law_value_11 : ISs := .cons (.ret (.tup (.cons (.con (.int 6)) (.cons (.tup (.cons (.idx (.var 62) (.bin .fmod (.var 59) (.con (.int 3)))) (.cons (.bin .add (.con (.int 16)) (.var 60)) (.cons (.con (.int 16)) (.cons (.tup (.cons (.con (.int 16)) .nil)) .nil))))) .nil)))) .nil
noncomputable def p_law_value_10 : ISs := .cons (.set 62 (.tup (.cons (.con (.int 1)) (.cons (.con (.int 2)) (.cons (.con (.int 4)) .nil))))) p_law_value_11
noncomputable def p_law_value_9 : ISs := .cons (.ife (.cmp .eq (.var 57) (.con (.int 9))) p_law_value_9t_0 .nil) p_law_value_10
noncomputable def p_law_value_8 : ISs := .cons (.ife (.cmp .eq (.var 57) (.con (.int 8))) p_law_value_8t_0 .nil) p_law_value_9
noncomputable def p_law_value_7 : ISs := .cons (.ife (.cmp .eq (.var 57) (.con (.int 7))) p_law_value_7t_0 .nil) p_law_value_8
noncomputable def p_law_value_6 : ISs := .cons (.ife (.cmp .eq (.var 57) (.con (.int 6))) p_law_value_6t_0 .nil) p_law_value_7
noncomputable def p_law_value_5 : ISs := .cons (.ife (.cmp .eq (.var 57) (.con (.int 5))) p_law_value_5t_0 .nil) p_law_value_6
noncomputable def p_law_value_4 : ISs := .cons (.ife (.cmp .eq (.var 57) (.con (.int 4))) p_law_value_4t_0 .nil) p_law_value_5
noncomputable def p_law_value_3 : ISs := .cons (.ife (.cmp .lt (.var 57) (.con (.int 4))) p_law_value_3t_0 .nil) p_law_value_4
noncomputable def p_law_value_2 : ISs := .cons (.ife (.cmp .eq (.var 57) (.con (.int 0))) p_law_value_2t_0 .nil) p_law_value_3
noncomputable def p_law_value_1 : ISs := .cons (.set 61 (.tup (.cons (.con (.int 4)) (.cons (.idx (.var 55) (.var 58)) .nil)))) p_law_value_2
noncomputable def p_law_value_0 : ISs := .cons (.setT [57, 58, 59, 60] (.var 54)) p_law_value_1
noncomputable def f_law_value : Fn := ⟨[54, 55, 56], p_law_value_0⟩
noncomputable def p_law_goals_1t_0 : ISs := .cons (.ret (.lst (.cons (.var 58) (.cons (.var 59) .nil)))) .nil
noncomputable def p_law_goals_2t_0 : ISs := .cons (.ret (.lst .nil)) .nil
noncomputable def p_law_goals_3 : ISs := .cons (.ret (.lst (.cons (.var 58) .nil))) .nil
noncomputable def p_law_goals_2 : ISs := .cons (.ife (.bor (.cmp .eq (.var 57) (.con (.int 0))) (.bor (.cmp .eq (.var 57) (.con (.int 4))) (.bor (.cmp .eq (.var 57) (.con (.int 7))) (.cmp .eq (.var 57) (.con (.int 10)))))) p_law_goals_2t_0 .nil) p_law_goals_3
noncomputable def p_law_goals_1 : ISs := .cons (.ife (.cmp .eq (.var 57) (.con (.int 6))) p_law_goals_1t_0 .nil) p_law_goals_2
noncomputable def p_law_goals_0 : ISs := .cons (.setT [57, 58, 59, 60] (.var 54)) p_law_goals_1
noncomputable def f_law_goals : Fn := ⟨[54], p_law_goals_0⟩
noncomputable def p_law_alive_1b_0 : ISs := .cons (.setI (.var 65) (.var 58) (.con (.int 1))) .nil
noncomputable def p_law_alive_3b_1b_0t_0b_0b_0t_1 : ISs := .cons (.set 66 (.con (.bool true))) .nil
noncomputable def p_law_alive_3b_1b_0t_0b_0b_0t_0 : ISs := .cons (.setI (.var 65) (.var 58) (.con (.int 1))) p_law_alive_3b_1b_0t_0b_0b_0t_1
noncomputable def p_law_alive_3b_1b_0t_0b_0b_0 : ISs := .cons (.ife (.cmp .eq (.idx (.var 65) (.var 58)) (.con (.int 0))) p_law_alive_3b_1b_0t_0b_0b_0t_0 .nil) .nil
noncomputable def p_law_alive_3b_1b_0t_0b_0 : ISs := .cons (.forL false [58] (.call 53 (.cons (.var 54) .nil)) p_law_alive_3b_1b_0t_0b_0b_0) .nil
noncomputable def p_law_alive_3b_1b_0t_0 : ISs := .cons (.forL false [54] (.idx (.var 63) (.var 44)) p_law_alive_3b_1b_0t_0b_0) .nil
noncomputable def p_law_alive_3b_1b_0 : ISs := .cons (.ife (.cmp .eq (.idx (.var 65) (.var 44)) (.con (.int 1))) p_law_alive_3b_1b_0t_0 .nil) .nil
noncomputable def p_law_alive_3b_1 : ISs := .cons (.forR 44 (.var 52) p_law_alive_3b_1b_0) .nil
noncomputable def p_law_alive_3b_0 : ISs := .cons (.set 66 (.con (.bool false))) p_law_alive_3b_1
noncomputable def p_law_alive_4 : ISs := .cons (.ret (.var 65)) .nil
noncomputable def p_law_alive_3 : ISs := .cons (.whl (.var 66) p_law_alive_3b_0) p_law_alive_4
noncomputable def p_law_alive_2 : ISs := .cons (.set 66 (.con (.bool true))) p_law_alive_3
noncomputable def p_law_alive_1 : ISs := .cons (.forL false [58] (.var 64) p_law_alive_1b_0) p_law_alive_2
noncomputable def p_law_alive_0 : ISs := .cons (.set 65 (.compR (.con (.int 0)) 44 (.var 52))) p_law_alive_1
noncomputable def f_law_alive : Fn := ⟨[52, 63, 64], p_law_alive_0⟩
noncomputable def p_law_18b_6t_0 : ISs := .cons (.ex (.append (.var 76) (.con (.int 2)))) .nil
noncomputable def p_law_18b_6e_0t_0 : ISs := .cons (.ex (.append (.var 76) (.con (.int 1)))) .nil
noncomputable def p_law_18b_6e_0e_0 : ISs := .cons (.ex (.append (.var 76) (.con (.int 0)))) .nil
noncomputable def p_law_18b_6e_0 : ISs := .cons (.ife (.cmp .lt (.var 44) (.bin .add (.var 71) (.var 72))) p_law_18b_6e_0t_0 p_law_18b_6e_0e_0) .nil
noncomputable def p_law_18b_8 : ISs := .cons (.setA (.var 19) 3 (.idx (.var 76) (.var 44))) .nil
noncomputable def p_law_18b_7 : ISs := .cons (.set 19 (.call 7 (.cons (.var 18) (.cons (.idx (.var 75) (.var 44)) (.cons (.compR (.tup (.cons (.con (.int 4)) (.cons (.con (.int 0)) .nil))) 78 (.bin .fmod (.var 51) (.con (.int 4)))) .nil))))) p_law_18b_8
noncomputable def p_law_18b_6 : ISs := .cons (.ife (.cmp .lt (.var 44) (.var 71)) p_law_18b_6t_0 p_law_18b_6e_0) p_law_18b_7
noncomputable def p_law_18b_5 : ISs := .cons (.augV 77 .add (.idx (.var 56) (.var 44))) p_law_18b_6
noncomputable def p_law_18b_4 : ISs := .cons (.ex (.append (.var 55) (.var 77))) p_law_18b_5
noncomputable def p_law_18b_3 : ISs := .cons (.ex (.append (.var 75) (.bin .add (.con (.int 20)) (.bin .fmod (.bin .fdiv (.var 51) (.con (.int 4))) (.con (.int 3)))))) p_law_18b_4
noncomputable def p_law_18b_2 : ISs := .cons (.ex (.append (.var 56) (.max2 (.con (.int 3)) (.bin .add (.con (.int 2)) (.bin .fmod (.var 51) (.con (.int 4))))))) p_law_18b_3
noncomputable def p_law_18b_1 : ISs := .cons (.ex (.append (.var 63) (.compR (.call 51 (.cons (.call 50 (.cons (.var 49) (.cons (.var 50) .nil))) (.cons (.var 52) (.cons (.con (.int 8)) .nil)))) 78 (.bin .fmod (.var 51) (.con (.int 4)))))) p_law_18b_2
noncomputable def p_law_18b_0 : ISs := .cons (.set 51 (.call 50 (.cons (.var 49) (.cons (.var 50) .nil)))) p_law_18b_1
noncomputable def p_law_19t_0 : ISs := .cons (.ret (.con (.bool false))) .nil
noncomputable def p_law_20b_0b_0 : ISs := .cons (.ex (.call 14 (.cons (.var 18) (.cons (.idx (.attr (.var 18) 6) (.var 44)) (.cons (.var 78) (.cons (.call 52 (.cons (.idx (.idx (.var 63) (.var 44)) (.var 78)) (.cons (.var 55) (.cons (.var 56) .nil)))) .nil)))))) .nil
noncomputable def p_law_20b_0 : ISs := .cons (.forR 78 (.len (.idx (.var 63) (.var 44))) p_law_20b_0b_0) .nil
noncomputable def p_law_26b_0 : ISs := .cons (.set 64 (.bin .add (.var 64) (.call 53 (.cons (.var 54) .nil)))) .nil
noncomputable def p_law_29b_0 : ISs := .cons (.ex (.append (.attr (.var 18) 15) (.tup (.cons (.con (.int 4)) (.cons (.idx (.var 55) (.var 58)) .nil))))) .nil
noncomputable def p_law_32t_3b_0 : ISs := .cons (.ex (.call 27 (.cons (.var 34) (.cons (.con (.int 3)) (.cons (.idx (.var 55) (.var 58)) .nil))))) .nil
noncomputable def p_law_32t_4t_0 : ISs := .cons (.set 30 (.lst (.cons (.var 61) (.cons (.var 84) (.cons (.var 61) .nil))))) .nil
noncomputable def p_law_32t_4e_0 : ISs := .cons (.set 30 (.lst (.cons (.var 61) (.cons (.attr (.var 18) 15) (.cons (.var 84) .nil))))) .nil
noncomputable def p_law_32t_4 : ISs := .cons (.ife (.cmp .eq (.var 74) (.con (.int 1))) p_law_32t_4t_0 p_law_32t_4e_0) .nil
noncomputable def p_law_32t_3 : ISs := .cons (.forL false [58] (.var 83) p_law_32t_3b_0) p_law_32t_4
noncomputable def p_law_32t_2 : ISs := .cons (.set 34 (.new 2 .nil)) p_law_32t_3
noncomputable def p_law_32t_1 : ISs := .cons (.set 64 (.bin .add (.var 64) (.var 83))) p_law_32t_2
noncomputable def p_law_32t_0 : ISs := .cons (.set 83 (.compR (.bin .fmod (.call 50 (.cons (.var 49) (.cons (.var 50) .nil))) (.var 52)) 78 (.bin .fmod (.bin .fdiv (.var 70) (.con (.int 36))) (.con (.int 3))))) p_law_32t_1
noncomputable def p_law_38b_0t_3t_0 : ISs := .cons (.augV 86 .add (.con (.int 1))) .nil
noncomputable def p_law_38b_0t_3 : ISs := .cons (.ife (.cmp .ne (.idx (.var 43) (.var 44)) (.idx (.var 55) (.var 44))) p_law_38b_0t_3t_0 .nil) .nil
noncomputable def p_law_38b_0t_2 : ISs := .cons (.setI (.var 85) (.var 44) (.min2 (.con (.int 2)) (.bin .add (.idx (.var 76) (.var 44)) (.con (.int 1))))) p_law_38b_0t_3
noncomputable def p_law_38b_0t_1 : ISs := .cons (.augV 77 .add (.idx (.var 56) (.var 44))) p_law_38b_0t_2
noncomputable def p_law_38b_0t_0 : ISs := .cons (.setI (.var 43) (.var 44) (.var 77)) p_law_38b_0t_1
noncomputable def p_law_38b_0 : ISs := .cons (.ife (.cmp .eq (.idx (.var 65) (.var 44)) (.con (.int 1))) p_law_38b_0t_0 .nil) .nil
noncomputable def p_law_39t_0 : ISs := .cons (.ret (.con (.bool false))) .nil
noncomputable def p_law_42b_0t_1b_0b_1t_0 : ISs := .cons (.ex (.append (.var 88) (.var 89))) .nil
noncomputable def p_law_42b_0t_1b_0b_1 : ISs := .cons (.ife (.band (.cmp .lt (.idx (.var 85) (.var 58)) (.idx (.var 85) (.var 44))) (.cmp .nin (.var 89) (.var 88))) p_law_42b_0t_1b_0b_1t_0 .nil) .nil
noncomputable def p_law_42b_0t_1b_0b_0 : ISs := .cons (.set 89 (.bin .fdiv (.bin .add (.bin .add (.idx (.var 43) (.var 44)) (.con (.int 2))) (.var 78)) (.bin .pow (.con (.int 2)) (.var 73)))) p_law_42b_0t_1b_0b_1
noncomputable def p_law_42b_0t_1b_0 : ISs := .cons (.forL false [58] (.call 53 (.cons (.idx (.idx (.var 63) (.var 44)) (.var 78)) .nil)) p_law_42b_0t_1b_0b_0) .nil
noncomputable def p_law_42b_0t_1 : ISs := .cons (.forR 78 (.len (.idx (.var 63) (.var 44))) p_law_42b_0t_1b_0) .nil
noncomputable def p_law_42b_0t_0 : ISs := .cons (.ex (.append (.var 87) (.tup (.cons (.bin .add (.var 44) (.con (.int 1))) (.cons (.idx (.var 43) (.var 44)) (.cons (.idx (.var 75) (.var 44)) (.cons (.idx (.var 85) (.var 44)) (.cons (.idx (.var 56) (.var 44)) (.cons (.compL (.call 52 (.cons (.var 54) (.cons (.var 43) (.cons (.var 56) .nil)))) 54 (.idx (.var 63) (.var 44))) .nil))))))))) p_law_42b_0t_1
noncomputable def p_law_42b_0 : ISs := .cons (.ife (.cmp .eq (.idx (.var 65) (.var 44)) (.con (.int 1))) p_law_42b_0t_0 .nil) .nil
noncomputable def p_law_43t_0 : ISs := .cons (.ret (.con (.bool false))) .nil
noncomputable def p_law_44t_0 : ISs := .cons (.ret (.con (.bool false))) .nil
noncomputable def p_law_45t_0 : ISs := .cons (.ret (.con (.bool false))) .nil
noncomputable def p_law_46t_0 : ISs := .cons (.ret (.con (.bool false))) .nil
noncomputable def p_law_47t_0 : ISs := .cons (.ret (.con (.bool false))) .nil
noncomputable def p_law_48b_0t_0 : ISs := .cons (.ret (.con (.bool false))) .nil
noncomputable def p_law_48b_0 : ISs := .cons (.ife (.cmp .ne (.call 28 (.cons (.var 34) (.cons (.bin .add (.var 78) (.con (.int 1))) .nil))) (.idx (.var 43) (.idx (.var 83) (.var 78)))) p_law_48b_0t_0 .nil) .nil
noncomputable def p_law_49t_0 : ISs := .cons (.set 16 (.bin .mul (.con (.int 2)) (.bin .sub (.var 77) (.con (.int 16))))) .nil
noncomputable def p_law_50 : ISs := .cons (.ret (.band (.cmp .eq (.attr (.var 18) 8) (.var 77)) (.band (.cmp .eq (.attr (.var 18) 16) (.var 86)) (.band (.cmp .eq (.sorted (.attr (.var 18) 10)) (.sorted (.var 88))) (.band (.cmp .eq (.attr (.var 18) 12) (.con (.int 0))) (.cmp .eq (.attr (.var 18) 9) (.var 16))))))) .nil
noncomputable def p_law_49 : ISs := .cons (.ife (.cmp .gt (.bin .mul (.con (.int 2)) (.bin .sub (.var 77) (.con (.int 16)))) (.var 16)) p_law_49t_0 .nil) p_law_50
noncomputable def p_law_48 : ISs := .cons (.forR 78 (.len (.var 83)) p_law_48b_0) p_law_49
noncomputable def p_law_47 : ISs := .cons (.ife (.cmp .ne (.attr (.var 18) 15) (.compL (.tup (.cons (.con (.int 4)) (.cons (.idx (.var 43) (.var 58)) .nil))) 58 (.var 82))) p_law_47t_0 .nil) p_law_48
noncomputable def p_law_46 : ISs := .cons (.ife (.cmp .ne (.var 84) (.compL (.call 52 (.cons (.var 54) (.cons (.var 43) (.cons (.var 56) .nil)))) 54 (.var 81))) p_law_46t_0 .nil) p_law_47
noncomputable def p_law_45 : ISs := .cons (.ife (.cmp .ne (.var 61) (.compL (.call 52 (.cons (.var 54) (.cons (.var 43) (.cons (.var 56) .nil)))) 54 (.var 80))) p_law_45t_0 .nil) p_law_46
noncomputable def p_law_44 : ISs := .cons (.ife (.cmp .ne (.compL (.tup (.cons (.attr (.idx (.attr (.var 18) 7) (.var 13)) 5) (.cons (.var 13) .nil))) 13 (.sorted (.attr (.var 18) 7))) (.compL (.tup (.cons (.idx (.var 37) (.con (.int 0))) (.cons (.idx (.var 37) (.con (.int 1))) .nil))) 37 (.var 87))) p_law_44t_0 .nil) p_law_45
noncomputable def p_law_43 : ISs := .cons (.ife (.cmp .ne (.compL (.tup (.cons (.attr (.var 79) 5) (.cons (.attr (.var 79) 0) (.cons (.attr (.var 79) 1) (.cons (.attr (.var 79) 3) (.cons (.attr (.var 79) 4) (.cons (.attr (.var 79) 2) .nil))))))) 79 (.attr (.var 18) 6)) (.var 87)) p_law_43t_0 .nil) p_law_44
noncomputable def p_law_42 : ISs := .cons (.forR 44 (.var 52) p_law_42b_0) p_law_43
noncomputable def p_law_41 : ISs := .cons (.set 88 (.lst .nil)) p_law_42
noncomputable def p_law_40 : ISs := .cons (.set 87 (.lst .nil)) p_law_41
noncomputable def p_law_39 : ISs := .cons (.ife (.cmp .ne (.call 49 (.cons (.var 18) (.cons (.var 30) (.cons (.var 34) (.cons (.con (.int 2)) .nil))))) (.bin .sub (.var 52) (.sum (.var 65)))) p_law_39t_0 .nil) p_law_40
noncomputable def p_law_38 : ISs := .cons (.forR 44 (.var 52) p_law_38b_0) p_law_39
noncomputable def p_law_37 : ISs := .cons (.set 86 (.con (.int 0))) p_law_38
noncomputable def p_law_36 : ISs := .cons (.set 77 (.con (.int 16))) p_law_37
noncomputable def p_law_35 : ISs := .cons (.set 85 (.compR (.con (.int 0)) 44 (.var 52))) p_law_36
noncomputable def p_law_34 : ISs := .cons (.set 43 (.compR (.con (.int 0)) 44 (.var 52))) p_law_35
noncomputable def p_law_33 : ISs := .cons (.set 65 (.call 54 (.cons (.var 52) (.cons (.var 63) (.cons (.var 64) .nil))))) p_law_34
noncomputable def p_law_32 : ISs := .cons (.ife (.cmp .gt (.var 74) (.con (.int 0))) p_law_32t_0 .nil) p_law_33
noncomputable def p_law_31 : ISs := .cons (.set 34 (.con .none)) p_law_32
noncomputable def p_law_30 : ISs := .cons (.set 30 (.lst (.cons (.var 61) (.cons (.var 84) .nil)))) p_law_31
noncomputable def p_law_29 : ISs := .cons (.forL false [58] (.var 82) p_law_29b_0) p_law_30
noncomputable def p_law_28 : ISs := .cons (.set 84 (.compL (.call 52 (.cons (.var 54) (.cons (.var 55) (.cons (.var 56) .nil)))) 54 (.var 81))) p_law_29
noncomputable def p_law_27 : ISs := .cons (.set 61 (.compL (.call 52 (.cons (.var 54) (.cons (.var 55) (.cons (.var 56) .nil)))) 54 (.var 80))) p_law_28
noncomputable def p_law_26 : ISs := .cons (.forL false [54] (.bin .add (.var 80) (.var 81)) p_law_26b_0) p_law_27
noncomputable def p_law_25 : ISs := .cons (.set 64 (.compL (.var 58) 58 (.var 82))) p_law_26
noncomputable def p_law_24 : ISs := .cons (.set 83 (.lst .nil)) p_law_25
noncomputable def p_law_23 : ISs := .cons (.set 82 (.compR (.bin .fmod (.call 50 (.cons (.var 49) (.cons (.var 50) .nil))) (.var 52)) 78 (.bin .fmod (.bin .fdiv (.var 70) (.con (.int 12))) (.con (.int 3))))) p_law_24
noncomputable def p_law_22 : ISs := .cons (.set 81 (.compR (.call 51 (.cons (.call 50 (.cons (.var 49) (.cons (.var 50) .nil))) (.cons (.var 52) (.cons (.con (.int 11)) .nil)))) 78 (.bin .fmod (.bin .fdiv (.var 70) (.con (.int 4))) (.con (.int 3))))) p_law_23
noncomputable def p_law_21 : ISs := .cons (.set 80 (.compR (.call 51 (.cons (.call 50 (.cons (.var 49) (.cons (.var 50) .nil))) (.cons (.var 52) (.cons (.con (.int 11)) .nil)))) 78 (.bin .fmod (.var 70) (.con (.int 4))))) p_law_22
noncomputable def p_law_20 : ISs := .cons (.forR 44 (.var 52) p_law_20b_0) p_law_21
noncomputable def p_law_19 : ISs := .cons (.ife (.cmp .ne (.compL (.attr (.var 79) 0) 79 (.attr (.var 18) 6)) (.var 55)) p_law_19t_0 .nil) p_law_20
noncomputable def p_law_18 : ISs := .cons (.forR 44 (.var 52) p_law_18b_0) p_law_19
noncomputable def p_law_17 : ISs := .cons (.set 77 (.con (.int 16))) p_law_18
noncomputable def p_law_16 : ISs := .cons (.set 55 (.lst .nil)) p_law_17
noncomputable def p_law_15 : ISs := .cons (.set 76 (.lst .nil)) p_law_16
noncomputable def p_law_14 : ISs := .cons (.set 75 (.lst .nil)) p_law_15
noncomputable def p_law_13 : ISs := .cons (.set 56 (.lst .nil)) p_law_14
noncomputable def p_law_12 : ISs := .cons (.set 63 (.lst .nil)) p_law_13
noncomputable def p_law_11 : ISs := .cons (.set 18 (.new 1 (.cons (.var 16) (.cons (.var 73) .nil)))) p_law_12
noncomputable def p_law_10 : ISs := .cons (.set 74 (.bin .fmod (.bin .fdiv (.var 69) (.con (.int 256))) (.con (.int 3)))) p_law_11
noncomputable def p_law_9 : ISs := .cons (.set 73 (.bin .fmod (.bin .fdiv (.var 69) (.con (.int 64))) (.con (.int 4)))) p_law_10
noncomputable def p_law_8 : ISs := .cons (.set 16 (.bin .add (.con (.int 4)) (.bin .fmod (.var 69) (.con (.int 64))))) p_law_9
noncomputable def p_law_7 : ISs := .cons (.set 72 (.bin .fmod (.bin .fdiv (.var 68) (.con (.int 72))) (.con (.int 9)))) p_law_8
noncomputable def p_law_6 : ISs := .cons (.set 71 (.bin .fmod (.bin .fdiv (.var 68) (.con (.int 8))) (.con (.int 9)))) p_law_7
noncomputable def p_law_5 : ISs := .cons (.set 52 (.bin .add (.con (.int 1)) (.bin .fmod (.var 68) (.con (.int 8))))) p_law_6
noncomputable def p_law_4 : ISs := .cons (.set 70 (.call 50 (.cons (.var 49) (.cons (.var 50) .nil)))) p_law_5
noncomputable def p_law_3 : ISs := .cons (.set 69 (.call 50 (.cons (.var 49) (.cons (.var 50) .nil)))) p_law_4
noncomputable def p_law_2 : ISs := .cons (.set 68 (.call 50 (.cons (.var 49) (.cons (.var 50) .nil)))) p_law_3
noncomputable def p_law_1 : ISs := .cons (.set 50 (.lst (.cons (.con (.int 0)) .nil))) p_law_2
noncomputable def p_law_0 : ISs := .cons (.set 49 (.bin .add (.compL (.bin .fmod (.var 36) (.con (.int 99991))) 36 (.take40 (.var 67))) (.compL (.var 36) 36 (.con (.tup [(.int 82), (.int 320), (.int 41), (.int 1), (.int 17), (.int 0), (.int 6), (.int 5), (.int 4), (.int 30), (.int 10), (.int 3), (.int 1203), (.int 77), (.int 5000), (.int 909), (.int 64), (.int 28)]))))) p_law_1
noncomputable def f_law : Fn := ⟨[67], p_law_0⟩
noncomputable def funs : List Fn := [f_refs_in, f_move_value, f_move_plain, f_move_struct, f_words_for, f_Thing_init, f_Heap_init, f_heap_alloc, f_used_words, f_note_collected, f_find_thing, f_slot_word, f_holds_reference, f_card_number, f_store_slot, f_words_of, f_push_word, f_push_value, f_drain, f_old_slots, f_mark, f_reach_more, f_mark_card, f_refers_younger, f_younger_slots, f_renew_cards, f_Handles_init, f_new_handle, f_target, f_strong_values, f_found_dead, f_clear_handles, f_move_handles, f_pick_finals, f_end_of_older, f_plan_moves, f_Words_init, f_Words_new_word, f_moved_word, f_stays, f_moved_values, f_new_lists, f_put_lists, f_moved_addrs, f_settle_thing, f_settle_things, f_move_all, f_root_lists, f_find_living, f_collect, f_law_pull, f_law_spec, f_law_value, f_law_goals, f_law_alive, f_law]
noncomputable def prog (f : Nat) : Option Fn := funs[f]?
end
section
open PySem
noncomputable def lnames : List Str := [Str.ofString "value", Str.ofString "found", Str.ofString "todo", Str.ofString "top", Str.ofString "place", Str.ofString "forward", Str.ofString "words", Str.ofString "rebuilt", Str.ofString "struct_value", Str.ofString "items", Str.ofString "item", Str.ofString "count", Str.ofString "self", Str.ofString "addr", Str.ofString "kind", Str.ofString "slots", Str.ofString "limit", Str.ofString "card_bits", Str.ofString "heap", Str.ofString "thing", Str.ofString "gen", Str.ofString "word", Str.ofString "exact", Str.ofString "low", Str.ofString "high", Str.ofString "middle", Str.ofString "slot", Str.ofString "marks", Str.ofString "work", Str.ofString "out", Str.ofString "lists", Str.ofString "values", Str.ofString "addrs", Str.ofString "other", Str.ofString "h", Str.ofString "sort", Str.ofString "n", Str.ofString "row", Str.ofString "moves", Str.ofString "kept", Str.ofString "picked", Str.ofString "end", Str.ofString "goal", Str.ofString "fresh", Str.ofString "i", Str.ofString "living", Str.ofString "every", Str.ofString "handles", Str.ofString "before", Str.ofString "nums", Str.ofString "spot", Str.ofString "x", Str.ofString "many", Str.ofString "codes", Str.ofString "spec", Str.ofString "where", Str.ofString "sizes", Str.ofString "code", Str.ofString "a", Str.ofString "b", Str.ofString "more", Str.ofString "one", Str.ofString "sorts", Str.ofString "specs", Str.ofString "seeds", Str.ofString "alive", Str.ofString "turned", Str.ofString "script", Str.ofString "first", Str.ofString "second", Str.ofString "third", Str.ofString "twos", Str.ofString "ones", Str.ofString "bits", Str.ofString "form", Str.ofString "kinds", Str.ofString "gens", Str.ofString "pos", Str.ofString "k", Str.ofString "t", Str.ofString "left", Str.ofString "right", Str.ofString "waits", Str.ofString "strong", Str.ofString "two", Str.ofString "age", Str.ofString "moved", Str.ofString "things", Str.ofString "cards", Str.ofString "card"]
noncomputable def anames : List Str := [Str.ofString "addr", Str.ofString "kind", Str.ofString "slots", Str.ofString "gen", Str.ofString "size", Str.ofString "serial", Str.ofString "things", Str.ofString "at", Str.ofString "top", Str.ofString "limit", Str.ofString "cards", Str.ofString "card_bits", Str.ofString "fresh", Str.ofString "young_limit", Str.ofString "finals", Str.ofString "ready", Str.ofString "moved", Str.ofString "made", Str.ofString "rows", Str.ofString "heap", Str.ofString "moves"]
noncomputable def fnames : List Str := [Str.ofString "refs_in", Str.ofString "move_value", Str.ofString "move_plain", Str.ofString "move_struct", Str.ofString "words_for", Str.ofString "Thing.__init__", Str.ofString "Heap.__init__", Str.ofString "heap_alloc", Str.ofString "used_words", Str.ofString "note_collected", Str.ofString "find_thing", Str.ofString "slot_word", Str.ofString "holds_reference", Str.ofString "card_number", Str.ofString "store_slot", Str.ofString "words_of", Str.ofString "push_word", Str.ofString "push_value", Str.ofString "drain", Str.ofString "old_slots", Str.ofString "mark", Str.ofString "reach_more", Str.ofString "mark_card", Str.ofString "refers_younger", Str.ofString "younger_slots", Str.ofString "renew_cards", Str.ofString "Handles.__init__", Str.ofString "new_handle", Str.ofString "target", Str.ofString "strong_values", Str.ofString "found_dead", Str.ofString "clear_handles", Str.ofString "move_handles", Str.ofString "pick_finals", Str.ofString "end_of_older", Str.ofString "plan_moves", Str.ofString "Words.__init__", Str.ofString "Words.new_word", Str.ofString "moved_word", Str.ofString "stays", Str.ofString "moved_values", Str.ofString "new_lists", Str.ofString "put_lists", Str.ofString "moved_addrs", Str.ofString "settle_thing", Str.ofString "settle_things", Str.ofString "move_all", Str.ofString "root_lists", Str.ofString "find_living", Str.ofString "collect", Str.ofString "_law_pull", Str.ofString "_law_spec", Str.ofString "_law_value", Str.ofString "_law_goals", Str.ofString "_law_alive", Str.ofString "law"]
noncomputable def cnames : List Str := [Str.ofString "Thing", Str.ofString "Heap", Str.ofString "Handles", Str.ofString "Words"]
noncomputable def gcons : List (Str × V) := [(Str.ofString "V_I4", (.int 1)), (Str.ofString "V_REF", (.int 4)), (Str.ofString "V_STRUCT", (.int 5)), (Str.ofString "V_PLACE", (.int 6)), (Str.ofString "V_FTN", (.int 7)), (Str.ofString "PL_LOCAL", (.int 1)), (Str.ofString "PL_ARG", (.int 2)), (Str.ofString "PL_HEAP", (.int 3)), (Str.ofString "PL_STATIC", (.int 4)), (Str.ofString "FIRST_ADDRESS", (.int 16)), (Str.ofString "HEAD_WORDS", (.int 2)), (Str.ofString "LEAST_SIZE", (.int 3)), (Str.ofString "TOP_GEN", (.int 2)), (Str.ofString "H_SHORT", (.int 1)), (Str.ofString "H_LONG", (.int 2)), (Str.ofString "H_STRONG", (.int 3)), (Str.ofString "ROW_SORT", (.int 0)), (Str.ofString "ROW_ADDR", (.int 1)), (Str.ofString "ROW_ALIVE", (.int 2)), (Str.ofString "_law_tail", (.tup [(.int 82), (.int 320), (.int 41), (.int 1), (.int 17), (.int 0), (.int 6), (.int 5), (.int 4), (.int 30), (.int 10), (.int 3), (.int 1203), (.int 77), (.int 5000), (.int 909), (.int 64), (.int 28)]))]
noncomputable def place (l : List Str) (x : Str) : Option Nat := l.findIdx? fun y => y == x
noncomputable def fplace (f : Str) : Option Nat := (place fnames f).filter fun i => !(i == 5 || i == 6 || i == 26 || i == 36 || i == 37)
noncomputable def nid (x : Str) : Option Nat := place lnames x
noncomputable def aid (x : Str) : Option Nat := place anames x

noncomputable def cBin : Operator → Option BOp
  | .Add => some .add
  | .Sub => some .sub
  | .Mult => some .mul
  | .FloorDiv => some .fdiv
  | .Mod => some .fmod
  | .RShift => some .shr
  | .Pow => some .pow
  | _ => none
noncomputable def cAug : Operator → Option BOp
  | .Add => some .add
  | .Sub => some .sub
  | _ => none
noncomputable def cCmp : CmpOp → Option COp
  | .Eq => some .eq
  | .NotEq => some .ne
  | .Lt => some .lt
  | .LtE => some .le
  | .Gt => some .gt
  | .GtE => some .ge
  | .Is => some .is
  | .IsNot => some .isn
  | .In => some .inn
  | .NotIn => some .nin
noncomputable def own (sc : Scope) (x : Str) : Option Nat :=
  match sc.names.lookup x with
  | some .local => nid x
  | some .cell => nid x
  | some .free => nid x
  | _ => none
noncomputable def glb (sc : Scope) (x : Str) : Bool := sc.names.lookup x == some .globalImplicit
noncomputable def cBool (op : BoolOp) : List IE → Option IE
  | [] => none
  | [a] => some a
  | a :: r => (cBool op r).map fun b => match op with | .And => .band a b | .Or => .bor a b
noncomputable def cL (f : Expr → Option IE) : List Expr → Option IEs
  | [] => some .nil
  | e :: r => (f e).bind fun a => (cL f r).map fun b => .cons a b
noncomputable def cLl (f : Expr → Option IE) : List Expr → Option (List IE)
  | [] => some []
  | e :: r => (f e).bind fun a => (cLl f r).map fun b => a :: b
noncomputable def isCallE : Expr → Bool
  | .Call .. => true
  | _ => false
noncomputable def isNameE : Expr → Bool
  | .Name .. => true
  | _ => false
noncomputable def isSliceE : Expr → Bool
  | .Slice .. => true
  | _ => false
noncomputable def isCompE : Expr → Bool
  | .ListComp .. => true
  | .SetComp .. => true
  | .DictComp .. => true
  | _ => false
noncomputable def isSeqE : Expr → Bool
  | .Tuple .. => true
  | .List .. => true
  | .Set .. => true
  | .Starred .. => true
  | _ => false
noncomputable def okComp (sc csc : Scope) (x : Str) : Bool :=
  csc.kind == .function && sc.kind == .function && csc.names.lookup x == some .local && !csc.isCoroutine && !csc.isGenerator &&
  csc.names.all fun p => match p.2 with
    | .local => csc.names.lookup p.1 == some .local && (p.1 == x || p.1 == ".0")
    | .free => (csc.names.lookup p.1 == some .free && sc.names.lookup p.1 == some .cell) && (nid p.1).isSome
    | .globalImplicit => csc.names.lookup p.1 == some .globalImplicit
    | _ => false
noncomputable def rangeArg (sc : Scope) : Expr → Option Expr
  | .Call (.Name f _) [a] [] _ => if f == "range" && glb sc f then some a else none
  | _ => none
noncomputable def cE : Nat → Scope → Expr → Option IE
  | 0, _, _ => none
  | n + 1, sc, .Constant c _ _ => match c with
    | .none => some (.con .none)
    | .bool b => some (.con (.bool b))
    | .int i => some (.con (.int i))
    | _ => none
  | n + 1, sc, .Name x _ =>
    if x == "__debug__" then none else
    match own sc x with
    | some i => some (.var i)
    | none => if glb sc x then (gcons.lookup x).map .con else none
  | n + 1, sc, .BinOp l op r _ => (cBin op).bind fun o => (cE n sc l).bind fun a => (cE n sc r).map fun b => .bin o a b
  | n + 1, sc, .Compare l [op] [r] _ => if isSeqE r then none else (cCmp op).bind fun o => (cE n sc l).bind fun a => (cE n sc r).map fun b => .cmp o a b
  | n + 1, sc, .BoolOp op vs _ => (cLl (cE n sc) vs).bind fun es => cBool op es
  | n + 1, sc, .Attribute v a _ => if isCallE v then none else (cE n sc v).bind fun x => (aid a).map fun i => .attr x i
  | n + 1, sc, .Subscript v s _ => match s with
    | .Slice none (some (.Constant (.int i) _ _)) none _ => if i == 40 && isNameE v then (cE n sc v).map .take40 else none
    | s => if isSliceE s then none else (cE n sc v).bind fun x => (cE n sc s).map fun i => .idx x i
  | n + 1, sc, .Tuple es _ _ => if 1000 < es.length then none else (cL (cE n sc) es).map .tup
  | n + 1, sc, .List es _ => if 1000 < es.length then none else (cL (cE n sc) es).map .lst
  | n + 1, sc, .Dict [] [] _ => some .dict0
  | n + 1, sc, .Call (.Name f _) args [] _ =>
    if f == "__debug__" || !glb sc f || 20 < args.length then none else
    match fplace f with
    | some i => (cL (cE n sc) args).map fun es => .call i es
    | none => match place cnames f with
      | some i => (cL (cE n sc) args).map fun es => .new i es
      | none => match args with
        | [a] => (cE n sc a).bind fun x =>
          if f == "len" then some (.len x) else if f == "sum" then some (.sum x) else if f == "tuple" then some (.tupOf x) else if f == "sorted" then some (.sorted x) else none
        | [a, b] => (cE n sc a).bind fun x => (cE n sc b).bind fun y =>
          if f == "max" then some (.max2 x y) else if f == "min" then some (.min2 x y) else none
        | _ => none
  | n + 1, sc, .Call (.Attribute o m ap) args [] p =>
    if isCallE o || ap.endLine != p.line then none else
    (cE n sc o).bind fun r => match args with
      | [] => if m == "pop" then some (.pop r) else none
      | [a] => (cE n sc a).bind fun x => if m == "append" then some (.append r x) else if m == "get" then some (.get1 r x) else if m == "new_word" then some (.meth 37 r (.cons x .nil)) else none
      | [a, b] => (cE n sc a).bind fun x => (cE n sc b).bind fun y => if m == "get" then some (.get2 r x y) else none
      | _ => none
  | n + 1, sc, .ListComp elt [⟨.Name x _, iter, [], 0⟩] csc _ =>
    if !okComp sc csc x || x == "__debug__" then none else
    (nid x).bind fun i => (cE n csc elt).bind fun el =>
      match rangeArg sc iter with
      | some a => (cE n sc a).map fun k => .compR el i k
      | none => if isSeqE iter then none else (cE n sc iter).map fun it => .compL el i it
  | _ + 1, _, _ => none
noncomputable def names? (sc : Scope) : List Expr → Option (List Nat)
  | [] => some []
  | .Name x _ :: r => (own sc x).bind fun i => (names? sc r).map fun is => i :: is
  | _ :: _ => none
noncomputable def cLs (f : Stmt → Option IS) : List Stmt → Option ISs
  | [] => some .nil
  | e :: r => (f e).bind fun a => (cLs f r).map fun b => .cons a b
noncomputable def cS : Nat → Scope → Stmt → Option IS
  | 0, _, _ => none
  | n + 1, sc, .Assign [t] v _ => match t with
    | .Name x _ => (own sc x).bind fun i => (cE n sc v).map fun e => .set i e
    | .Tuple ts _ _ => if isSeqE v || isCompE v then none else (names? sc ts).bind fun is => (cE n sc v).map fun e => .setT is e
    | .Attribute o a _ => if isCompE v then none else (cE n sc v).bind fun e => (cE n sc o).bind fun x => (aid a).map fun f => .setA x f e
    | .Subscript o i _ => if isCompE v || isSliceE i then none else (cE n sc v).bind fun e => (cE n sc o).bind fun x => (cE n sc i).map fun y => .setI x y e
    | _ => none
  | n + 1, sc, .AugAssign t op v _ => (cAug op).bind fun o => (cE n sc v).bind fun e => match t with
    | .Name x _ => (own sc x).map fun i => .augV i o e
    | .Attribute b a _ => (cE n sc b).bind fun x => (aid a).map fun f => .augA x f o e
    | .Subscript b i _ => if isSliceE i then none else (cE n sc b).bind fun x => (cE n sc i).map fun y => .augI x y o e
    | _ => none
  | n + 1, sc, .If c t e _ => (cE n sc c).bind fun a => (cLs (cS n sc) t).bind fun b => (cLs (cS n sc) e).map fun d => .ife a b d
  | n + 1, sc, .While c b [] _ => (cE n sc c).bind fun a => (cLs (cS n sc) b).map fun d => .whl a d
  | n + 1, sc, .For t it b [] _ => (cLs (cS n sc) b).bind fun d => if isSeqE it then none else match t with
    | .Name x _ => (own sc x).bind fun i => match rangeArg sc it with
      | some a => (cE n sc a).map fun k => .forR i k d
      | none => (cE n sc it).map fun k => .forL false [i] k d
    | .Tuple ts _ _ => (names? sc ts).bind fun is => (cE n sc it).map fun k => .forL true is k d
    | _ => none
  | n + 1, sc, .Return none _ => some .ret0
  | n + 1, sc, .Return (some e) _ => (cE n sc e).map .ret
  | n + 1, sc, .Expr e _ => if isCompE e then none else (cE n sc e).map .ex
  | _ + 1, _, _ => none

theorem bnd2 {α β γ : Type} {o : Option α} {p : Option β} {a : γ} {C : Prop} (h : (o.bind fun _ => p.bind fun _ => (none : Option γ)) = some a) : C := by
  cases o with
  | none => cases h
  | some _ => cases p with
    | none => cases h
    | some _ => cases h
theorem bnd3 {α γ : Type} {o : Option α} {c : Bool} {a : γ} {C : Prop} (h : (o.bind fun _ => if c = true then (none : Option γ) else none) = some a) : C := by
  cases o with
  | none => cases h
  | some _ => cases c with
    | false => cases h
    | true => cases h
theorem none_ne {α : Type} {a : α} {C : Prop} (h : (none : Option α) = some a) : C := nomatch h
theorem ff {C : Prop} (h : false = true) : C := nomatch h
theorem tf {C : Prop} (h : true = false) : C := nomatch h
theorem obind {α β : Type} {o : Option α} {f : α → Option β} {b : β} {P : Prop} (h : o.bind f = some b) (k : ∀ a, o = some a → f a = some b → P) : P := by
  cases o with
  | none => exact none_ne h
  | some a => exact k a rfl h
theorem omap {α β : Type} {o : Option α} {f : α → β} {P : β → Prop} {b : β} (h : o.map f = some b) (k : ∀ a, o = some a → P (f a)) : P b := by
  cases o with
  | none => exact none_ne h
  | some a => exact Option.some.inj h ▸ k a rfl
theorem osome {α : Type} {P : α → Prop} {a b : α} (h : some a = some b) (k : P a) : P b := Option.some.inj h ▸ k
theorem ifn {α : Type} {c : Bool} {t : Option α} {b : α} {P : Prop} (h : (if c = true then none else t) = some b) (k : c = false → t = some b → P) : P := by
  cases c with
  | false => exact k rfl h
  | true => exact none_ne h
theorem ifp {α : Type} {p : Prop} [Decidable p] {t : Option α} {b : α} {P : Prop} (h : (if p then none else t) = some b) (k : ¬p → t = some b → P) : P := by
  by_cases q : p
  · rw [if_pos q] at h; exact none_ne h
  · rw [if_neg q] at h; exact k q h
theorem ifel {α : Type} {c : Bool} {t e : α} {b : α} {P : Prop} (h : (if c = true then t else e) = b) (k1 : c = true → t = b → P) (k2 : c = false → e = b → P) : P := by
  cases c with
  | true => exact k1 rfl h
  | false => exact k2 rfl h
theorem ifs {α : Type} {c : Bool} {t : Option α} {b : α} {P : Prop} (h : (if c = true then t else none) = some b) (k : c = true → t = some b → P) : P := by
  cases c with
  | true => exact k rfl h
  | false => exact none_ne h
section
variable {n : Nat} {sc : Scope} {p : Pos}
theorem q_name {x : Str} : cE (n + 1) sc (.Name x p) = (if x == "__debug__" then none else
    match own sc x with
    | some i => some (.var i)
    | none => if glb sc x then (gcons.lookup x).map .con else none) := rfl
theorem q_bool {op : BoolOp} {vs : List Expr} : cE (n + 1) sc (.BoolOp op vs p) = ((cLl (cE n sc) vs).bind fun es => cBool op es) := rfl
theorem q_call {f : Str} {args : List Expr} {q : Pos} : cE (n + 1) sc (.Call (.Name f q) args [] p) =
    (if f == "__debug__" || !glb sc f || 20 < args.length then none else
    match fplace f with
    | some i => (cL (cE n sc) args).map fun es => .call i es
    | none => match place cnames f with
      | some i => (cL (cE n sc) args).map fun es => .new i es
      | none => match args with
        | [a] => (cE n sc a).bind fun x =>
          if f == "len" then some (.len x) else if f == "sum" then some (.sum x) else if f == "tuple" then some (.tupOf x) else if f == "sorted" then some (.sorted x) else none
        | [a, b] => (cE n sc a).bind fun x => (cE n sc b).bind fun y =>
          if f == "max" then some (.max2 x y) else if f == "min" then some (.min2 x y) else none
        | _ => none) := rfl
theorem q_meth {o : Expr} {m : Str} {ap : Pos} {args : List Expr} : cE (n + 1) sc (.Call (.Attribute o m ap) args [] p) =
    (if isCallE o || ap.endLine != p.line then none else
    (cE n sc o).bind fun r => match args with
      | [] => if m == "pop" then some (.pop r) else none
      | [a] => (cE n sc a).bind fun x => if m == "append" then some (.append r x) else if m == "get" then some (.get1 r x) else if m == "new_word" then some (.meth 37 r (.cons x .nil)) else none
      | [a, b] => (cE n sc a).bind fun x => (cE n sc b).bind fun y => if m == "get" then some (.get2 r x y) else none
      | _ => none) := rfl
theorem q_comp {elt iter : Expr} {x : Str} {q : Pos} {csc : Scope} : cE (n + 1) sc (.ListComp elt [⟨.Name x q, iter, [], 0⟩] csc p) =
    (if !okComp sc csc x || x == "__debug__" then none else
    (nid x).bind fun i => (cE n csc elt).bind fun el =>
      match rangeArg sc iter with
      | some a => (cE n sc a).map fun k => .compR el i k
      | none => if isSeqE iter then none else (cE n sc iter).map fun it => .compL el i it) := rfl
theorem r_name {x : Str} {v : Expr} {q : Pos} : cS (n + 1) sc (.Assign [.Name x q] v p) = ((own sc x).bind fun i => (cE n sc v).map fun e => .set i e) := rfl
theorem r_tup {ts : List Expr} {v : Expr} {k : Nat} {q : Pos} : cS (n + 1) sc (.Assign [.Tuple ts k q] v p) = (if isSeqE v || isCompE v then none else (names? sc ts).bind fun is => (cE n sc v).map fun e => .setT is e) := rfl
theorem r_attr {o v : Expr} {a : Str} {q : Pos} : cS (n + 1) sc (.Assign [.Attribute o a q] v p) = (if isCompE v then none else (cE n sc v).bind fun e => (cE n sc o).bind fun x => (aid a).map fun f => .setA x f e) := rfl
theorem r_sub {o i v : Expr} {q : Pos} : cS (n + 1) sc (.Assign [.Subscript o i q] v p) = (if isCompE v || isSliceE i then none else (cE n sc v).bind fun e => (cE n sc o).bind fun x => (cE n sc i).map fun y => .setI x y e) := rfl
theorem r_augN {x : Str} {op : Operator} {v : Expr} {q : Pos} : cS (n + 1) sc (.AugAssign (.Name x q) op v p) = ((cAug op).bind fun o => (cE n sc v).bind fun e => (own sc x).map fun i => .augV i o e) := rfl
theorem r_augA {b : Expr} {a : Str} {op : Operator} {v : Expr} {q : Pos} : cS (n + 1) sc (.AugAssign (.Attribute b a q) op v p) = ((cAug op).bind fun o => (cE n sc v).bind fun e => (cE n sc b).bind fun x => (aid a).map fun f => .augA x f o e) := rfl
theorem r_augI {b i : Expr} {op : Operator} {v : Expr} {q : Pos} : cS (n + 1) sc (.AugAssign (.Subscript b i q) op v p) = ((cAug op).bind fun o => (cE n sc v).bind fun e => if isSliceE i then none else (cE n sc b).bind fun x => (cE n sc i).map fun y => .augI x y o e) := rfl
theorem r_if {c : Expr} {t e : List Stmt} : cS (n + 1) sc (.If c t e p) = ((cE n sc c).bind fun a => (cLs (cS n sc) t).bind fun b => (cLs (cS n sc) e).map fun d => .ife a b d) := rfl
theorem r_whl {c : Expr} {b : List Stmt} : cS (n + 1) sc (.While c b [] p) = ((cE n sc c).bind fun a => (cLs (cS n sc) b).map fun d => .whl a d) := rfl
theorem r_forN {x : Str} {it : Expr} {b : List Stmt} {q : Pos} : cS (n + 1) sc (.For (.Name x q) it b [] p) = ((cLs (cS n sc) b).bind fun d => if isSeqE it then none else (own sc x).bind fun i => match rangeArg sc it with
      | some a => (cE n sc a).map fun k => .forR i k d
      | none => (cE n sc it).map fun k => .forL false [i] k d) := rfl
theorem r_forT {ts : List Expr} {it : Expr} {b : List Stmt} {k : Nat} {q : Pos} : cS (n + 1) sc (.For (.Tuple ts k q) it b [] p) = ((cLs (cS n sc) b).bind fun d => if isSeqE it then none else (names? sc ts).bind fun is => (cE n sc it).map fun k => .forL true is k d) := rfl
theorem r_ret {e : Expr} : cS (n + 1) sc (.Return (some e) p) = ((cE n sc e).map .ret) := rfl
theorem r_ex {e : Expr} : cS (n + 1) sc (.Expr e p) = (if isCompE e then none else (cE n sc e).map .ex) := rfl
end
noncomputable def defsOf : List Stmt → List Stmt
  | [] => []
  | .ClassDef _ _ _ b _ _ _ _ _ _ _ :: r => (b.filter fun s => match s with | .FunctionDef .. => true | _ => false) ++ defsOf r
  | .FunctionDef n a b d rt tp sc ts bd p :: r => .FunctionDef n a b d rt tp sc ts bd p :: defsOf r
  | _ :: r => defsOf r
noncomputable def theDefs : List Stmt := defsOf PySem.Challenge.pw_qd0035_01.main.body
noncomputable def okArgs (a : Arguments) : Bool := a.posonlyargs.isEmpty && a.vararg.isNone && a.kwonlyargs.isEmpty && a.kw_defaults.isEmpty && a.kwarg.isNone && a.defaults.isEmpty
noncomputable def okScope (sc : Scope) : Bool := sc.kind == .function && !sc.isGenerator && !sc.isCoroutine && sc.names.all fun p => p.2 != .free
noncomputable def cF : Stmt → Option (List (Option Nat) × ISs)
  | .FunctionDef _ a b _ _ _ sc _ _ _ => if okArgs a && okScope sc then (cLs (cS 40 sc) b).map fun d => (a.args.map fun x => own sc x.arg, d) else none
  | _ => none
noncomputable def wantF (f : Fn) : Option (List (Option Nat) × ISs) := some (f.params.map some, f.body)
theorem compiled : theDefs.map cF = funs.map wantF := by kernel_rfl
end
section
open PySem PySem.W PyProof.Rows
noncomputable abbrev p0 : Program := PySem.Challenge.pw_qd0035_01
noncomputable abbrev MD (w : World) : Model := model p0 w
structure X where
  w : World
  h0 : Heap
  sc : List Int
  scA : Addr
  K : Frag
  faddr : Nat → Addr
  caddr : Nat → Addr
noncomputable abbrev FM := Addr → Option Obj

mutual
inductive VR (x : X) (hp : Heap) : V → Value → Prop where
  | none : VR x hp .none .none
  | bool (b : Bool) : VR x hp (.bool b) (.bool b)
  | int (i : Int) (t : Tok) : VR x hp (.int i) (.int i t)
  | ref (a : Addr) : VR x hp (.ref a) (.ref a)
  | tup {a : Addr} {xs : List V} {vs : List Value} : IsTup hp a vs.toArray → VRs x hp xs vs → VR x hp (.tup xs) (.ref a)
  | script : VR x hp .script (.ref x.scA)
inductive VRs (x : X) (hp : Heap) : List V → List Value → Prop where
  | nil : VRs x hp [] []
  | cons {u : V} {v : Value} {us : List V} {vs : List Value} : VR x hp u v → VRs x hp us vs → VRs x hp (u :: us) (v :: vs)
end

noncomputable def TupO (o : Obj) : Prop := o.cls = .type "tuple" ∧ ∃ vs n, o.data = .seq vs n
noncomputable def TupKeep (hp hp' : Heap) : Prop := ∀ a o, hp.get? a = some o → TupO o → hp'.get? a = some o
theorem TupKeep.refl (hp : Heap) : TupKeep hp hp := fun _ _ e _ => e
theorem TupKeep.trans {a b c : Heap} (h1 : TupKeep a b) (h2 : TupKeep b c) : TupKeep a c := fun x o e t => h2 x o (h1 x o e t) t
theorem TupKeep.ofSame {hp hp' : Heap} {b : Addr} {o : Obj} (hs : Heap.SameBut b hp hp') (e : hp.get? b = some o) (hc : ¬ TupO o) : TupKeep hp hp' := fun a o' e' t => by
  by_cases hb : a = b
  · subst hb; rw [e] at e'; cases e'; exact absurd t hc
  · exact (hs.2 a hb).trans e'
theorem IsTup.later {hp hp' : Heap} {a : Addr} {vs : Array Value} (h : IsTup hp a vs) (k : TupKeep hp hp') : IsTup hp' a vs :=
  h.imp fun o h => ⟨k a o h.1 ⟨h.2.1, h.2.2.elim fun n r => ⟨_, _, r⟩⟩, h.2⟩
theorem not_tup_dict {o : Obj} {es : Array DictEntry} {n : Nat} (h : o.data = .dict es n) : ¬ TupO o := fun ⟨_, _, _, e⟩ => by rw [h] at e; cases e
theorem not_tup_cls {o : Obj} {t : Value} (h : o.cls = t) (ht : t ≠ .type "tuple") : ¬ TupO o := fun ⟨e, _⟩ => ht (h ▸ e)

theorem VR.later {x : X} {hp hp' : Heap} (k : TupKeep hp hp') {u : V} {v : Value} (r : VR x hp u v) : VR x hp' u v :=
  VR.rec (motive_1 := fun u v _ => VR x hp' u v) (motive_2 := fun us vs _ => VRs x hp' us vs) .none .bool .int .ref (fun h _ r => .tup (IsTup.later h k) r) .script .nil (fun _ _ a b => .cons a b) r
theorem VRs.nil_inv {x : X} {hp : Heap} {vs : List Value} {P : List Value → Prop} (h : VRs x hp [] vs) (k : P []) : P vs := by
  cases h; exact k
theorem VRs.cons_inv {x : X} {hp : Heap} {u : V} {us : List V} {vs : List Value} {P : List Value → Prop} (h : VRs x hp (u :: us) vs) (k : ∀ v vs', VR x hp u v → VRs x hp us vs' → P (v :: vs')) : P vs := by
  cases h with | cons a b => exact k _ _ a b
theorem VRs.later {x : X} {hp hp' : Heap} (k : TupKeep hp hp') {us : List V} : ∀ {vs : List Value}, VRs x hp us vs → VRs x hp' us vs := by
  induction us with
  | nil => exact fun h => h.nil_inv .nil
  | cons u us ih => exact fun h => h.cons_inv fun v vs a b => .cons (a.later k) (ih b)
section
variable {x : X} {hp : Heap}
theorem VRs.length {us : List V} : ∀ {vs : List Value}, VRs x hp us vs → us.length = vs.length := by
  induction us with
  | nil => exact fun h => h.nil_inv (P := fun vs => ([] : List V).length = vs.length) rfl
  | cons u us ih => exact fun h => h.cons_inv (P := fun vs => (u :: us).length = vs.length) fun v vs a b => congrArg (· + 1) (ih b)
theorem VRs.get {us : List V} : ∀ {vs : List Value}, VRs x hp us vs → ∀ {i : Nat} {u : V}, us[i]? = some u → ∃ v, vs[i]? = some v ∧ VR x hp u v := by
  induction us with
  | nil => exact fun h i u e => none_ne e
  | cons u' us ih =>
    intro vs h i u e
    refine h.cons_inv (P := fun vs => ∃ v, vs[i]? = some v ∧ VR x hp u v) fun v vs a b => ?_
    induction i using Nat.casesOn with
    | zero => exact ⟨v, rfl, Option.some.inj e ▸ a⟩
    | succ i => exact ih b e
theorem VRs.getNone {us : List V} {vs : List Value} (h : VRs x hp us vs) {i : Nat} (e : us[i]? = none) : vs[i]? = none :=
  List.getElem?_eq_none_iff.mpr (h.length ▸ List.getElem?_eq_none_iff.mp e)
theorem VRs.append0 {us us' : List V} {vs' : List Value} (h' : VRs x hp us' vs') : ∀ {vs : List Value}, VRs x hp us vs → VRs x hp (us ++ us') (vs ++ vs') := by
  induction us with
  | nil => exact fun h => h.nil_inv (P := fun vs => VRs x hp us' (vs ++ vs')) h'
  | cons u us ih => exact fun h => h.cons_inv (P := fun vs => VRs x hp (u :: us ++ us') (vs ++ vs')) fun v vs a b => .cons a (ih b)
theorem VRs.append {us us' : List V} {vs vs' : List Value} (h : VRs x hp us vs) (h' : VRs x hp us' vs') : VRs x hp (us ++ us') (vs ++ vs') := VRs.append0 h' h
theorem VRs.snoc {us : List V} {u : V} {vs : List Value} {v : Value} (h : VRs x hp us vs) (h' : VR x hp u v) : VRs x hp (us ++ [u]) (vs ++ [v]) := VRs.append0 (.cons h' .nil) h
theorem VRs.set0 {u : V} {v : Value} (h' : VR x hp u v) {us : List V} : ∀ {vs : List Value} (i : Nat), VRs x hp us vs → VRs x hp (us.set i u) (vs.set i v) := by
  induction us with
  | nil => exact fun i h => h.nil_inv (P := fun vs => VRs x hp [] (vs.set i v)) .nil
  | cons u' us ih =>
    refine fun i h => h.cons_inv (P := fun vs => VRs x hp ((u' :: us).set i u) (vs.set i v)) fun w ws a b => ?_
    induction i using Nat.casesOn with
    | zero => exact .cons h' b
    | succ i => exact .cons a (ih i b)
theorem VRs.set {us : List V} {vs : List Value} (h : VRs x hp us vs) (i : Nat) {u : V} {v : Value} (h' : VR x hp u v) : VRs x hp (us.set i u) (vs.set i v) := VRs.set0 h' i h
theorem VRs.unsnoc {us : List V} {u : V} : ∀ {vs : List Value}, VRs x hp (us ++ [u]) vs → ∃ vs' v, vs = vs' ++ [v] ∧ VRs x hp us vs' ∧ VR x hp u v := by
  induction us with
  | nil => exact fun h => h.cons_inv (P := fun vs => ∃ vs' v, vs = vs' ++ [v] ∧ VRs x hp [] vs' ∧ VR x hp u v) fun v vs a b => b.nil_inv (P := fun vs => ∃ vs' w, v :: vs = vs' ++ [w] ∧ VRs x hp [] vs' ∧ VR x hp u w) ⟨[], v, rfl, .nil, a⟩
  | cons u' us ih => exact fun h => h.cons_inv (P := fun vs => ∃ vs' v, vs = vs' ++ [v] ∧ VRs x hp (u' :: us) vs' ∧ VR x hp u v) fun w ws a b => (ih b).elim fun vs' q => q.elim fun v q => ⟨w :: vs', v, congrArg (w :: ·) q.1, .cons a q.2.1, q.2.2⟩
theorem VRs.toInts {ns : List Int} : ∀ {vs : List Value}, VRs x hp (vints ns) vs → IntsAre vs ns := by
  induction ns with
  | nil => exact fun h => h.nil_inv (P := fun vs => IntsAre vs []) .nil
  | cons n r ih => exact fun h => h.cons_inv (P := fun vs => IntsAre vs (n :: r)) fun v vs a b => by cases a; exact .cons _ _ (ih b)
theorem VRs.ofInts {vs : List Value} {ns : List Int} (h : IntsAre vs ns) : VRs x hp (vints ns) vs := by
  induction h with
  | nil => exact .nil
  | cons n t _ ih => exact .cons (.int n t) ih
end

noncomputable def VRd (x : X) (hp : Heap) (es : List (Int × V)) (kvs : List (Int × Value)) : Prop :=
  es.map (·.1) = kvs.map (·.1) ∧ VRs x hp (es.map (·.2)) (kvs.map (·.2))
inductive NR (x : X) (hp : Heap) : List (Nat × V) → List DictEntry → Prop where
  | nil : NR x hp [] []
  | cons {k : Nat} {v : V} {n : Str} {t : Tok} {e : DictEntry} {fs : List (Nat × V)} {es : List DictEntry} : anames[k]? = some n → e.key = .str n t → VR x hp v e.val → NR x hp fs es → NR x hp ((k, v) :: fs) (e :: es)
noncomputable def OR (x : X) (hp : Heap) (a : Addr) : O → Prop
  | .list xs => ∃ vs n, hp.get? a = some (listOf vs.toArray n) ∧ VRs x hp xs vs
  | .dict es => ∃ kvs, hp.DictOf (intKind p0 x.w) a kvs ∧ VRd x hp es kvs
  | .inst c fs => ∃ d es n, hp.get? a = some (instObj (x.caddr c) d) ∧ hp.get? d = some (dictOf es n) ∧ NR x hp fs es
noncomputable def isInst : O → Bool
  | .inst .. => true
  | _ => false

structure RH (x : X) (F : FM) (h : H) (hp : Heap) : Prop where
  base : ∀ a o, x.h0.get? a = some o → F a = some o
  frz : ∀ a o, F a = some o → hp.get? a = some o
  obj : ∀ a o, h a = some o → OR x hp a o
  off : ∀ a o, h a = some o → F a = none
  dict : ∀ a c fs C d, h a = some (.inst c fs) → hp.get? a = some (instObj C d) → h d = none ∧ F d = none
  inj : ∀ a b c fs c' fs' C C' d, h a = some (.inst c fs) → h b = some (.inst c' fs') → hp.get? a = some (instObj C d) → hp.get? b = some (instObj C' d) → a = b

structure Later (s s' : Shared) : Prop where
  tup : TupKeep s.heap s'.heap
  os : s'.os = s.os
  gens : s'.gens = s.gens
theorem Later.refl (s : Shared) : Later s s := ⟨.refl _, rfl, rfl⟩
theorem Later.trans {a b c : Shared} (h1 : Later a b) (h2 : Later b c) : Later a c := ⟨h1.tup.trans h2.tup, h2.os.trans h1.os, h2.gens.trans h1.gens⟩
end
section
open PySem PySem.W PyProof.Rows
theorem hset_same (h : H) (l : Nat) (o : O) : hset h l o l = some o := if_pos rfl
theorem hset_ne (h : H) {l a : Nat} (o : O) (e : a ≠ l) : hset h l o a = h a := if_neg e
noncomputable def fset (F : FM) (a : Addr) (o : Obj) : FM := fun b => if b = a then some o else F b
theorem fset_same (F : FM) (a : Addr) (o : Obj) : fset F a o a = some o := if_pos rfl
theorem fset_ne (F : FM) {a b : Addr} (o : Obj) (e : b ≠ a) : fset F a o b = F b := if_neg e
noncomputable def Keeps (hp hp' : Heap) : Prop := ∀ b o, hp.get? b = some o → hp'.get? b = some o
theorem Keeps.tup {hp hp' : Heap} (k : Keeps hp hp') : TupKeep hp hp' := fun a o e _ => k a o e
theorem Keeps.trans {a b c : Heap} (h1 : Keeps a b) (h2 : Keeps b c) : Keeps a c := fun x o e => h2 x o (h1 x o e)
theorem Keeps.push (hp : Heap) (o : Obj) : Keeps hp (hp.push o) := fun _ _ e => Heap.get?_push_of_some _ e
section
variable {x : X} {F : FM} {h : H} {hp hp' : Heap} {a b : Addr} {o o' : O}
theorem NR.later {fs : List (Nat × V)} {es : List DictEntry} (k : TupKeep hp hp') (r : NR x hp fs es) : NR x hp' fs es := by
  induction r with
  | nil => exact .nil
  | cons a b c _ ih => exact .cons a b (c.later k) ih
theorem VRd.later {es : List (Int × V)} {kvs : List (Int × Value)} (k : TupKeep hp hp') (r : VRd x hp es kvs) : VRd x hp' es kvs := ⟨r.1, r.2.later k⟩
theorem OR.keep (k : Keeps hp hp') (r : OR x hp a o) : OR x hp' a o := by
  induction o using Qd.O.casesOn with
  | list xs => obtain ⟨vs, n, l, v⟩ := r; exact ⟨vs, n, k _ _ l, v.later k.tup⟩
  | dict es => obtain ⟨kvs, ⟨od, ents, ep, ho, r⟩, v⟩ := r; exact ⟨kvs, ⟨od, ents, ep, k _ _ ho, r⟩, v.later k.tup⟩
  | inst c fs => obtain ⟨d, es, m, e, n, r⟩ := r; exact ⟨d, es, m, k _ _ e, k _ _ n, r.later k.tup⟩
theorem OR.same (hs : Heap.SameBut b hp hp') (k : TupKeep hp hp') (hab : a ≠ b) (hd : ∀ C d, isInst o = true → hp.get? a = some (instObj C d) → d ≠ b) (r : OR x hp a o) : OR x hp' a o := by
  induction o using Qd.O.casesOn with
  | list xs => obtain ⟨vs, n, l, v⟩ := r; exact ⟨vs, n, (hs.2 _ hab).trans l, v.later k⟩
  | dict es => obtain ⟨kvs, q, v⟩ := r; exact ⟨kvs, q.sameBut hs hab, v.later k⟩
  | inst c fs => obtain ⟨d, es, m, e, n, r⟩ := r; exact ⟨d, es, m, (hs.2 _ hab).trans e, (hs.2 _ (hd _ _ rfl e)).trans n, r.later k⟩
theorem OR.lt (r : OR x hp a o) : a < hp.objs.size := by
  induction o using Qd.O.casesOn with
  | list xs => obtain ⟨vs, n, e, v⟩ := r; exact Heap.lt_size e
  | dict es => obtain ⟨kvs, ⟨od, ents, ep, ho, r⟩, v⟩ := r; exact Heap.lt_size ho
  | inst c fs => obtain ⟨d, es, m, e, n, r⟩ := r; exact Heap.lt_size e
theorem RH.lt (R : RH x F h hp) (e : h a = some o) : a < hp.objs.size := (R.obj a o e).lt
theorem RH.ltF {ob : Obj} (R : RH x F h hp) (e : F a = some ob) : a < hp.objs.size := Heap.lt_size (R.frz a ob e)
theorem RH.fresh (R : RH x F h hp) : h hp.objs.size = none := by
  cases e : h hp.objs.size with
  | none => rfl
  | some o => exact absurd (R.lt e) (Nat.lt_irrefl _)
theorem RH.freshF (R : RH x F h hp) : F hp.objs.size = none := by
  cases e : F hp.objs.size with
  | none => rfl
  | some o => exact absurd (R.ltF e) (Nat.lt_irrefl _)
theorem instEq {C C' d d' : Addr} (e : hp.get? a = some (instObj C d)) (e' : hp.get? a = some (instObj C' d')) : C = C' ∧ d = d' := by
  rw [e] at e'
  injection e' with e'
  injection e' with e1 e2
  injection e1 with e1
  injection e2 with e2
  exact ⟨e1, e2⟩
theorem RH.instOf {c : Nat} {fs : List (Nat × V)} (R : RH x F h hp) (e : h a = some (.inst c fs)) : ∃ d es m, hp.get? a = some (instObj (x.caddr c) d) ∧ hp.get? d = some (dictOf es m) ∧ NR x hp fs es := R.obj a _ e
theorem RH.keep (k : Keeps hp hp') (R : RH x F h hp) : RH x F h hp' where
  base := R.base
  frz a o e := k _ _ (R.frz a o e)
  obj a o e := (R.obj a o e).keep k
  off := R.off
  dict a c fs C d e e' := by
    obtain ⟨d0, es, m, p, _⟩ := R.instOf e
    have := instEq (k _ _ p) e'
    obtain ⟨rfl, rfl⟩ := this
    exact R.dict a c fs _ _ e p
  inj a b c fs c' fs' C C' d e1 e2 e3 e4 := by
    obtain ⟨d0, es, m, p, _⟩ := R.instOf e1
    obtain ⟨d1, es1, m1, p1, _⟩ := R.instOf e2
    obtain ⟨rfl, rfl⟩ := instEq (k _ _ p) e3
    obtain ⟨rfl, rfl⟩ := instEq (k _ _ p1) e4
    exact R.inj a b c fs c' fs' _ _ _ e1 e2 p p1
theorem RH.less {F' : FM} (R : RH x F h hp) (hb : ∀ a o, x.h0.get? a = some o → F' a = some o) (hl : ∀ a o, F' a = some o → F a = some o) : RH x F' h hp where
  base := hb
  frz a o e := R.frz a o (hl a o e)
  obj := R.obj
  off a o e := by
    cases q : F' a with
    | none => rfl
    | some z => have := hl _ _ q; rw [R.off a o e] at this; cases this
  dict a c fs C d e e' := ⟨(R.dict a c fs C d e e').1, by
    cases q : F' d with
    | none => rfl
    | some z => have := hl _ _ q; rw [(R.dict a c fs C d e e').2] at this; cases this⟩
  inj := R.inj
theorem RH.addF {ob : Obj} (R : RH x F h hp) (e : hp.get? a = some ob) (ha : h a = none) (hd : ∀ b c fs C, h b = some (.inst c fs) → hp.get? b ≠ some (instObj C a)) (hn : F a = none) : RH x (fset F a ob) h hp where
  base c o q := by
    by_cases hc : c = a
    · subst hc; rw [R.base _ _ q] at hn; cases hn
    · rw [fset_ne F ob hc]; exact R.base c o q
  frz c o q := by
    by_cases hc : c = a
    · subst hc; rw [fset_same] at q; cases q; exact e
    · rw [fset_ne F ob hc] at q; exact R.frz c o q
  obj := R.obj
  off c o q := by
    by_cases hc : c = a
    · subst hc; rw [ha] at q; cases q
    · rw [fset_ne F ob hc]; exact R.off c o q
  dict c cl fs C d q q' := ⟨(R.dict c cl fs C d q q').1, by
    by_cases hc : d = a
    · subst hc; exact absurd q' (hd c cl fs C q)
    · rw [fset_ne F ob hc]; exact (R.dict c cl fs C d q q').2⟩
  inj := R.inj
theorem RH.pushF {ob : Obj} (R : RH x F h hp) (hf : ob.isFreed = false) : RH x (fset F hp.objs.size ob) h (hp.push ob) := by
  refine (R.keep (Keeps.push hp ob)).addF (Heap.get?_push_size _ hf) R.fresh (fun b c fs C e q => ?_) R.freshF
  obtain ⟨d, es, m, p, n, _⟩ := R.instOf e
  obtain ⟨_, rfl⟩ := instEq (Heap.get?_push_of_some _ p) q
  exact absurd (Heap.lt_size n) (Nat.lt_irrefl _)
theorem RH.updF {ob ob' : Obj} (R : RH x F h hp) (e : F a = some ob) (hb : x.h0.get? a = none) (hs : Heap.SameBut a hp hp') (k : TupKeep hp hp') (e' : hp'.get? a = some ob') : RH x (fset F a ob') h hp' where
  base c o q := by
    by_cases hc : c = a
    · subst hc; rw [q] at hb; cases hb
    · rw [fset_ne F ob' hc]; exact R.base c o q
  frz c o q := by
    by_cases hc : c = a
    · subst hc; rw [fset_same] at q; cases q; exact e'
    · rw [fset_ne F ob' hc] at q; exact (hs.2 _ hc).trans (R.frz c o q)
  obj c o q := by
    have hc : c ≠ a := fun hc => by subst hc; rw [R.off _ _ q] at e; cases e
    refine (R.obj c o q).same hs k hc fun C d hi p hd => ?_
    subst hd
    induction o using Qd.O.casesOn with
    | inst cl fs => rw [(R.dict c cl fs C d q p).2] at e; cases e
    | list _ => cases hi
    | dict _ => cases hi
  off c o q := by
    have hc : c ≠ a := fun hc => by subst hc; rw [R.off _ _ q] at e; cases e
    rw [fset_ne F ob' hc]; exact R.off c o q
  dict c cl fs C d q p := by
    have hc : c ≠ a := fun hc => by subst hc; rw [R.off _ _ q] at e; cases e
    have p' : hp.get? c = some (instObj C d) := (hs.2 _ hc).symm.trans p
    have hd : d ≠ a := fun hd => by subst hd; rw [(R.dict c cl fs C d q p').2] at e; cases e
    rw [fset_ne F ob' hd]; exact R.dict c cl fs C d q p'
  inj c1 c2 c fs c' fs' C C' d e1 e2 e3 e4 := by
    have h1 : c1 ≠ a := fun hc => by subst hc; rw [R.off _ _ e1] at e; cases e
    have h2 : c2 ≠ a := fun hc => by subst hc; rw [R.off _ _ e2] at e; cases e
    exact R.inj c1 c2 c fs c' fs' C C' d e1 e2 ((hs.2 _ h1).symm.trans e3) ((hs.2 _ h2).symm.trans e4)
theorem RH.new {ob : Obj} (R : RH x F h hp) (r : OR x (hp.push ob) hp.objs.size o) (hi : isInst o = false) : RH x F (hset h hp.objs.size o) (hp.push ob) := by
  have R' := R.keep (Keeps.push hp ob)
  have ne : ∀ c u, hset h hp.objs.size o c = some u → c ≠ hp.objs.size → h c = some u := fun c u e hc => by rwa [hset_ne h o hc] at e
  have nin : ∀ c cl fs, hset h hp.objs.size o c = some (.inst cl fs) → h c = some (.inst cl fs) := fun c cl fs e => by
    by_cases hc : c = hp.objs.size
    · subst hc; rw [hset_same] at e; cases e; cases hi
    · exact ne _ _ e hc
  refine ⟨R'.base, R'.frz, fun c u e => ?_, fun c u e => ?_, fun c cl fs C d e q => ?_, fun c1 c2 c fs c' fs' C C' d e1 e2 e3 e4 => R'.inj c1 c2 c fs c' fs' C C' d (nin _ _ _ e1) (nin _ _ _ e2) e3 e4⟩
  · by_cases hc : c = hp.objs.size
    · subst hc; rw [hset_same] at e; cases e; exact r
    · exact R'.obj c u (ne _ _ e hc)
  · by_cases hc : c = hp.objs.size
    · subst hc; exact R.freshF
    · exact R.off c u (ne _ _ e hc)
  · have e' := nin _ _ _ e
    obtain ⟨h1, h2⟩ := R'.dict c cl fs C d e' q
    refine ⟨?_, h2⟩
    obtain ⟨d0, es, m, p, n, _⟩ := R.instOf e'
    obtain ⟨_, rfl⟩ := instEq (Heap.get?_push_of_some _ p) q
    rw [hset_ne h o (Nat.ne_of_lt (Heap.lt_size n))]; exact h1
theorem RH.upd (R : RH x F h hp) (e : h a = some o) (hs : Heap.SameBut a hp hp') (k : TupKeep hp hp') (r : OR x hp' a o') (hi : isInst o = false) (hi' : isInst o' = false) : RH x F (hset h a o') hp' := by
  have ne : ∀ c u, hset h a o' c = some u → c ≠ a → h c = some u := fun c u e hc => by rwa [hset_ne h o' hc] at e
  have nin : ∀ c cl fs, hset h a o' c = some (.inst cl fs) → c ≠ a ∧ h c = some (.inst cl fs) := fun c cl fs q => by
    by_cases hc : c = a
    · subst hc; rw [hset_same] at q; cases q; cases hi'
    · exact ⟨hc, ne _ _ q hc⟩
  have hFa := R.off a o e
  refine ⟨R.base, fun c u q => ?_, fun c u q => ?_, fun c u q => ?_, fun c cl fs C d q p => ?_, fun c1 c2 c fs c' fs' C C' d e1 e2 e3 e4 => ?_⟩
  · have hc : c ≠ a := fun hc => by subst hc; rw [hFa] at q; cases q
    exact (hs.2 _ hc).trans (R.frz c u q)
  · by_cases hc : c = a
    · subst hc; rw [hset_same] at q; cases q; exact r
    · have q' := ne _ _ q hc
      refine (R.obj c u q').same hs k hc fun C d hin p hd => ?_
      subst hd
      induction u using Qd.O.casesOn with
      | inst cl fs => rw [(R.dict c cl fs C d q' p).1] at e; cases e
      | list _ => cases hin
      | dict _ => cases hin
  · by_cases hc : c = a
    · subst hc; exact hFa
    · exact R.off c u (ne _ _ q hc)
  · obtain ⟨hc, q'⟩ := nin _ _ _ q
    have p' : hp.get? c = some (instObj C d) := (hs.2 _ hc).symm.trans p
    obtain ⟨h1, h2⟩ := R.dict c cl fs C d q' p'
    have hd : d ≠ a := fun hd => by subst hd; rw [h1] at e; cases e
    exact ⟨by rw [hset_ne h o' hd]; exact h1, h2⟩
  · obtain ⟨hc1, q1⟩ := nin _ _ _ e1
    obtain ⟨hc2, q2⟩ := nin _ _ _ e2
    exact R.inj c1 c2 c fs c' fs' C C' d q1 q2 ((hs.2 _ hc1).symm.trans e3) ((hs.2 _ hc2).symm.trans e4)
theorem RH.updInst {c : Nat} {fs fs' : List (Nat × V)} {d : Addr} {C : Addr} {es' : List DictEntry} {m' : Nat} (R : RH x F h hp) (e : h a = some (.inst c fs)) (p : hp.get? a = some (instObj C d))
    (hs : Heap.SameBut d hp hp') (k : TupKeep hp hp') (n : hp'.get? d = some (dictOf es' m')) (r : NR x hp' fs' es') : RH x F (hset h a (.inst c fs')) hp' := by
  obtain ⟨hd1, hd2⟩ := R.dict a c fs C d e p
  have had : a ≠ d := fun q => by subst q; rw [hd1] at e; cases e
  have ne : ∀ c' u, hset h a (.inst c fs') c' = some u → c' ≠ a → h c' = some u := fun c' u e hc => by rwa [hset_ne h _ hc] at e
  have hC : C = x.caddr c := by
    obtain ⟨d0, es, m, p0, _⟩ := R.instOf e
    exact (instEq p p0).1
  have nin : ∀ c' cl fs0, hset h a (.inst c fs') c' = some (.inst cl fs0) → ∃ fs1, h c' = some (.inst cl fs1) := fun c' cl fs0 q => by
    by_cases hc : c' = a
    · subst hc; rw [hset_same] at q; cases q; exact ⟨fs, e⟩
    · exact ⟨_, ne _ _ q hc⟩
  have ned : ∀ c' u, h c' = some u → c' ≠ d := fun c' u q hc => by subst hc; rw [hd1] at q; cases q
  refine ⟨R.base, fun c' u q => ?_, fun c' u q => ?_, fun c' u q => ?_, fun c' cl fs0 C' d' q p' => ?_, fun c1 c2 cl fs0 cl' fs0' C1 C2 d' e1 e2 e3 e4 => ?_⟩
  · have hc : c' ≠ d := fun hc => by subst hc; rw [hd2] at q; cases q
    exact (hs.2 _ hc).trans (R.frz c' u q)
  · by_cases hc : c' = a
    · subst hc; rw [hset_same] at q; cases q
      exact ⟨d, es', m', (hs.2 _ had).trans (hC ▸ p), n, r⟩
    · have q' := ne _ _ q hc
      refine (R.obj c' u q').same hs k (ned _ _ q') fun C' d' hin p' hd => ?_
      subst hd
      induction u using Qd.O.casesOn with
      | inst cl fs0 => exact hc (R.inj c' a cl fs0 c fs C' C d' q' e p' p)
      | list _ => cases hin
      | dict _ => cases hin
  · by_cases hc : c' = a
    · subst hc; exact R.off _ _ e
    · exact R.off c' u (ne _ _ q hc)
  · obtain ⟨fs1, q'⟩ := nin _ _ _ q
    have p'' : hp.get? c' = some (instObj C' d') := (hs.2 _ (ned _ _ q')).symm.trans p'
    obtain ⟨h1, h2⟩ := R.dict c' cl fs1 C' d' q' p''
    have hda : d' ≠ a := fun hd => by subst hd; rw [h1] at e; cases e
    exact ⟨by rw [hset_ne h _ hda]; exact h1, h2⟩
  · obtain ⟨fs1, q1⟩ := nin _ _ _ e1
    obtain ⟨fs2, q2⟩ := nin _ _ _ e2
    exact R.inj c1 c2 cl fs1 cl' fs2 C1 C2 d' q1 q2 ((hs.2 _ (ned _ _ q1)).symm.trans e3) ((hs.2 _ (ned _ _ q2)).symm.trans e4)
theorem RH.newInst {c : Nat} (R : RH x F h hp) : RH x F (hset h (hp.objs.size + 1) (.inst c [])) ((hp.push emptyDict).push (instObj (x.caddr c) hp.objs.size)) := by
  have hsz : (hp.push emptyDict).objs.size = hp.objs.size + 1 := Heap.size_push ..
  have R1 := R.keep (Keeps.push hp emptyDict)
  have R2 := R1.keep (Keeps.push (hp.push emptyDict) (instObj (x.caddr c) hp.objs.size))
  have fr1 : h (hp.objs.size + 1) = none := by have := R1.fresh; rwa [hsz] at this
  have frF : F (hp.objs.size + 1) = none := by have := R1.freshF; rwa [hsz] at this
  have gx : ((hp.push emptyDict).push (instObj (x.caddr c) hp.objs.size)).get? (hp.objs.size + 1) = some (instObj (x.caddr c) hp.objs.size) := by
    have := Heap.get?_push_size (hp.push emptyDict) (o := instObj (x.caddr c) hp.objs.size) rfl
    rwa [hsz] at this
  have dd : ∀ c' cl fs0 C d, h c' = some (.inst cl fs0) → ((hp.push emptyDict).push (instObj (x.caddr c) hp.objs.size)).get? c' = some (instObj C d) → d < hp.objs.size := fun c' cl fs0 C d q p => by
    obtain ⟨d0, es, m, p0, n, _⟩ := R.instOf q
    obtain ⟨_, rfl⟩ := instEq (Heap.get?_push_of_some _ (Heap.get?_push_of_some _ p0)) p
    exact Heap.lt_size n
  have ne : ∀ c' u, hset h (hp.objs.size + 1) (.inst c []) c' = some u → c' ≠ hp.objs.size + 1 → h c' = some u := fun c' u e hc => by rwa [hset_ne h _ hc] at e
  refine ⟨R2.base, R2.frz, fun c' u q => ?_, fun c' u q => ?_, fun c' cl fs0 C d q p => ?_, fun c1 c2 cl fs0 cl' fs0' C1 C2 d' e1 e2 e3 e4 => ?_⟩
  · by_cases hc : c' = hp.objs.size + 1
    · subst hc; rw [hset_same] at q; cases q
      exact ⟨hp.objs.size, [], 0, gx, Heap.get?_push_of_some _ (Heap.get?_push_size _ rfl), .nil⟩
    · exact R2.obj c' u (ne _ _ q hc)
  · by_cases hc : c' = hp.objs.size + 1
    · subst hc; exact frF
    · exact R.off c' u (ne _ _ q hc)
  · by_cases hc : c' = hp.objs.size + 1
    · subst hc
      obtain ⟨_, rfl⟩ := instEq gx p
      exact ⟨by rw [hset_ne h _ (by (first | lia | omega))]; exact R.fresh, R.freshF⟩
    · have q' := ne _ _ q hc
      obtain ⟨h1, h2⟩ := R2.dict c' cl fs0 C d q' p
      have := dd _ _ _ _ _ q' p
      exact ⟨(hset_ne h _ (Nat.ne_of_lt (Nat.lt_succ_of_lt this))).trans h1, h2⟩
  · by_cases hc1 : c1 = hp.objs.size + 1 <;> by_cases hc2 : c2 = hp.objs.size + 1
    · rw [hc1, hc2]
    · subst hc1
      obtain ⟨_, rfl⟩ := instEq gx e3
      exact absurd (dd _ _ _ _ _ (ne _ _ e2 hc2) e4) (Nat.lt_irrefl _)
    · subst hc2
      obtain ⟨_, rfl⟩ := instEq gx e4
      exact absurd (dd _ _ _ _ _ (ne _ _ e1 hc1) e3) (Nat.lt_irrefl _)
    · exact R2.inj c1 c2 cl fs0 cl' fs0' C1 C2 d' (ne _ _ e1 hc1) (ne _ _ e2 hc2) e3 e4
end
end
section
open PySem PySem.W PyProof.Rows
noncomputable def QE (x : X) (F : FM) (s : Shared) (K : KE) (v' : Value) (s' : Shared) : Prop := ∃ v h', Later s s' ∧ VR x s'.heap v v' ∧ RH x F h' s'.heap ∧ K v h'
noncomputable abbrev NoE : Value → Shared → Prop := fun _ _ => False
structure OkA (n : Nat) (A : Around) : Prop where
  hnd : A.handled = none
  dep : A.depth + 4 * n ≤ 900
  uni : A.units + 20 * n ≤ 9000
theorem dstep {a y b c d e : Nat} (h : a + (y + c) ≤ b) (q : Nat.ble (d + e) c = true) : a + d + (y + e) ≤ b := by
  have := Nat.le_of_ble_eq_true q
  (first | lia | omega)
theorem OkA.le {n m : Nat} {A : Around} (h : OkA n A) (e : m ≤ n) : OkA m A := ⟨h.hnd, Nat.le_trans (Nat.add_le_add_left (Nat.mul_le_mul_left 4 e) _) h.dep, Nat.le_trans (Nat.add_le_add_left (Nat.mul_le_mul_left 20 e) _) h.uni⟩
section
variable {x : X} {F : FM} {h : H} {s s' : Shared} {K : KE} {A : Around} {a b : V} {a' b' : Value}
theorem QE.later {s1 : Shared} {v' : Value} (l : Later s s1) (q : QE x F s1 K v' s') : QE x F s K v' s' := let ⟨v, h', a, b⟩ := q; ⟨v, h', l.trans a, b⟩
theorem laterTok (s : Shared) (t : Nat) : Later s { s with toks := t } := ⟨.refl _, rfl, rfl⟩
theorem QE.tok {v : V} {v' : Value} (t : Nat) (R : RH x F h s.heap) (r : VR x s.heap v v') (k : K v h) : QE x F s K v' { s with toks := t } := ⟨v, h, laterTok s t, r, R, k⟩
theorem QE.now {v : V} {v' : Value} (R : RH x F h s.heap) (r : VR x s.heap v v') (k : K v h) : QE x F s K v' s := ⟨v, h, .refl s, r, R, k⟩
theorem QE.newList {xs : List V} {vs : List Value} (R : RH x F h s.heap) (r : VRs x s.heap xs vs) (k : newW (.list xs) K h) :
    QE x F s K (.ref s.heap.objs.size) { s with heap := s.heap.push (listOf vs.toArray 0) } := by
  unfold newW at k
  have kp := Keeps.push s.heap (listOf vs.toArray 0)
  refine ⟨.ref s.heap.objs.size, hset h s.heap.objs.size (.list xs), ⟨kp.tup, rfl, rfl⟩, .ref _, R.new ⟨vs, 0, Heap.get?_push_size _ rfl, r.later kp.tup⟩ rfl, k _ R.fresh⟩
theorem op_newList {M : Model} {E : Value → Shared → Prop} {xs : List V} {vs : List Value} (R : RH x F h s.heap) (r : VRs x s.heap xs vs) (hz : vs.length ≤ sizeLine) (k : newW (.list xs) K h) :
    wpAny M A (newList vs) (QE x F s K) E s := by
  refine wpAny_newObj_type (QE.newList R r k) ?_
  show vs.toArray.size ≤ sizeLine
  simpa using hz
end

section
variable {x : X} {F : FM} {h : H} {s s' : Shared} {K : KE} {A : Around} {a b : V} {a' b' : Value} {E : Value → Shared → Prop}
theorem fdiv_pos {i j : Int} (h : 0 < j) : i.fdiv j = i / j := Int.fdiv_eq_ediv_of_nonneg i (Int.le_of_lt h)
theorem fmod_pos {i j : Int} (h : 0 < j) : i.fmod j = i % j := Int.fmod_eq_emod_of_nonneg i (Int.le_of_lt h)
theorem small_bits {i : Int} (h : small i) : Builtin.Int.intBits i ≤ 64 := by
  obtain ⟨h1, h2⟩ := h
  unfold Builtin.Int.intBits
  split
  · (first | lia | omega)
  · rename_i hz
    have hz' : i.natAbs ≠ 0 := by simpa using hz
    have := (Nat.log2_lt hz').mpr (show i.natAbs < 2 ^ 63 by (first | lia | omega))
    (first | lia | omega)
theorem op_add (R : RH x F h s.heap) (ra : VR x s.heap a a') (rb : VR x s.heap b b') (k : binW .add a b K h) : wpAny (MD x.w) A (binaryOp .Add a' b') (QE x F s K) E s := by
  refine bW_add (Q := fun a b => VR x s.heap a a' → VR x s.heap b b' → wpAny (MD x.w) A (binaryOp .Add a' b') (QE x F s K) E s) k (fun i j k ra rb => ?_) (fun i j k ra rb => ?_) ra rb <;> cases ra <;> cases rb
  · exact add_int (QE.tok _ R (.int _ _) k)
  · obtain ⟨xs, ys, h1, h2, hl, k⟩ := k
    obtain ⟨vs, n, e, r⟩ := R.obj _ _ h1
    obtain ⟨ws, m, e', r'⟩ := R.obj _ _ h2
    refine P.add_list e e' ((List.append_toArray vs ws).symm ▸ QE.newList (s := s) R (r.append r') k) ?_
    have l1 := r.length
    have l2 := r'.length
    rw [List.size_toArray, List.size_toArray, sizeLine_eq]; (first | lia | omega)
theorem cBin_inv {P : Operator → BOp → Prop} {o : BOp} {op : Operator} (hop : cBin op = some o) (k1 : P .Add .add) (k2 : P .Sub .sub) (k3 : P .Mult .mul) (k4 : P .Mod .fmod) (k5 : P .Pow .pow) (k6 : P .RShift .shr) (k7 : P .FloorDiv .fdiv) : P op o := by
  induction op using PySem.Operator.casesOn with
  | Add => exact osome hop k1
  | Sub => exact osome hop k2
  | Mult => exact osome hop k3
  | Mod => exact osome hop k4
  | Pow => exact osome hop k5
  | RShift => exact osome hop k6
  | FloorDiv => exact osome hop k7
  | _ => exact none_ne hop
theorem op_int {o : BOp} {op : Operator} (ho : o ≠ .add) (q : ∀ i j t u, binW o (.int i) (.int j) K h → wpAny (MD x.w) A (binaryOp op (.int i t) (.int j u)) (QE x F s K) E s) (ra : VR x s.heap a a') (rb : VR x s.heap b b') (k : binW o a b K h) : wpAny (MD x.w) A (binaryOp op a' b') (QE x F s K) E s := by
  refine bW_int (Q := fun a b => VR x s.heap a a' → VR x s.heap b b' → wpAny (MD x.w) A (binaryOp op a' b') (QE x F s K) E s) k ho (fun i j k ra rb => ?_) ra rb
  cases ra; cases rb
  exact q _ _ _ _ k
theorem mul_ok {i j : Int} (h1 : small i) : IntMulOk i j := by
  have := small_bits h1
  intro hh
  have e := of_decide_eq_true (Bool.and_eq_true_iff.mp (Bool.and_eq_true_iff.mp hh).1).1
  unfold shortFactorBits at e
  (first | lia | omega)
theorem op_bin {o : BOp} {op : Operator} (hop : cBin op = some o) (R : RH x F h s.heap) (ra : VR x s.heap a a') (rb : VR x s.heap b b') (k : binW o a b K h) : wpAny (MD x.w) A (binaryOp op a' b') (QE x F s K) E s := by
  refine cBin_inv (P := fun op o => binW o a b K h → wpAny (MD x.w) A (binaryOp op a' b') (QE x F s K) E s) hop (op_add R ra rb) (op_int nofun (fun i j t u k => sub_int' (QE.tok _ R (.int _ _) k)) ra rb)
    (op_int nofun (fun i j t u k => PyProof.Rows.mul_int (QE.tok _ R (.int _ _) k.2.2) (mul_ok k.1)) ra rb) (op_int nofun (fun i j t u k => ?_) ra rb) (op_int nofun (fun i j t u k => ?_) ra rb) (op_int nofun (fun i j t u k => ?_) ra rb) (op_int nofun (fun i j t u k => ?_) ra rb) k
  · exact mod_int' (Int.ne_of_gt k.1) (QE.tok _ R (.int _ _) (fmod_pos k.1 ▸ k.2))
  · obtain ⟨rfl, h2, h3, k⟩ := k
    refine PyProof.Rows.pow_int h2 ?_ (QE.tok _ R (.int _ _) k)
    have : Builtin.Int.intBits 2 = 2 := by decide
    rw [this]; (first | lia | omega)
  · exact PyProof.Rows.rshift_int k.1 (QE.tok _ R (.int _ _) (fdiv_pos (j := 2 ^ j.toNat) (Int.pow_pos (by decide)) ▸ k.2.2))
  · exact floordiv_int (Int.ne_of_gt k.1) (QE.tok _ R (.int _ _) (fdiv_pos k.1 ▸ k.2.2)) (.inl (PyProof.noPylong_small (by have := k.2.1; have := k.1; (first | lia | omega))))
theorem op_aug {o : BOp} {op : Operator} (hop : cAug op = some o) (R : RH x F h s.heap) (ra : VR x s.heap a a') (rb : VR x s.heap b b') (k : augW o a b K h) : wpAny (MD x.w) A (inplaceOp op a' b') (QE x F s K) E s := by
  refine aW_int (Q := fun o a b => cAug op = some o → VR x s.heap a a' → VR x s.heap b b' → wpAny (MD x.w) A (inplaceOp op a' b') (QE x F s K) E s) k (fun i j k hop ra rb => ?_) (fun i j k hop ra rb => ?_) hop ra rb <;> cases ra <;> cases rb
  · induction op using PySem.Operator.casesOn with
    | Add => exact P.iadd_int (QE.tok _ R (.int _ _) k)
    | Sub => cases hop
    | _ => exact none_ne hop
  · induction op using PySem.Operator.casesOn with
    | Sub => exact P.isub_int (QE.tok _ R (.int _ _) k)
    | Add => cases hop
    | _ => exact none_ne hop

-- deep data as the library says it
mutual
noncomputable def toPy : D → PyData
  | .none => .none
  | .bool b => .bool b
  | .int i => .int i
  | .tup xs => .tuple (toPys xs)
  | .list xs => .list (toPys xs)
noncomputable def toPys : List D → List PyData
  | [] => []
  | d :: r => toPy d :: toPys r
end
mutual
theorem toPy_lay : (d : D) → (toPy d).canLay0 = true
  | .none => rfl
  | .bool b => rfl
  | .int i => rfl
  | .tup xs => by rw [toPy, PyData.canLay0]; exact toPys_lay xs
  | .list xs => by rw [toPy, PyData.canLay0]; exact toPys_lay xs
theorem toPys_lay : (ds : List D) → PyData.canLayAll0 (toPys ds) = true
  | [] => rfl
  | d :: r => by rw [toPys, PyData.canLayAll0, toPy_lay d, toPys_lay r]; rfl
end
mutual
theorem toPy_mix : (d : D) → SeqAt.noMix (toPy d) (toPy d) = true
  | .none => rfl
  | .bool b => rfl
  | .int i => rfl
  | .tup xs => by rw [toPy, SeqAt.noMix]; exact toPys_mix xs
  | .list xs => by rw [toPy, SeqAt.noMix]; exact toPys_mix xs
theorem toPys_mix : (ds : List D) → SeqAt.noMixAll (toPys ds) (toPys ds) = true
  | [] => rfl
  | d :: r => by rw [toPys, SeqAt.noMixAll, toPy_mix d, toPys_mix r]; rfl
end
mutual
theorem toPy_same : (d : D) → PySem.Spec.same (toPy d) (toPy d) = true
  | .none => by simp [toPy, PySem.Spec.same]
  | .bool b => by simp [toPy, PySem.Spec.same]
  | .int i => by simp [toPy, PySem.Spec.same]
  | .tup xs => by rw [toPy, PySem.Spec.same]; exact toPys_same xs
  | .list xs => by rw [toPy, PySem.Spec.same]; exact toPys_same xs
theorem toPys_same : (ds : List D) → PySem.Spec.sameAll (toPys ds) (toPys ds) = true
  | [] => by simp [toPys, PySem.Spec.sameAll]
  | d :: r => by rw [toPys, PySem.Spec.sameAll, toPy_same d, toPys_same r]; rfl
end
theorem deep_depth {h : H} {n : Nat} {v : V} {d : D} (D : Deep h n v d) : (toPy d).depth ≤ n := by
  refine Deep.rec (motive_1 := fun n _ d _ => (toPy d).depth ≤ n) (motive_2 := fun n _ ds _ => PyData.depthAll (toPys ds) ≤ n) ?_ ?_ ?_ ?_ ?_ ?_ ?_ D
  · intro n; rw [toPy, PyData.depth]; (first | lia | omega)
  · intro n b; rw [toPy, PyData.depth]; (first | lia | omega)
  · intro n i; rw [toPy, PyData.depth]; (first | lia | omega)
  · intro n xs ds _ this; rw [toPy, PyData.depth]; (first | lia | omega)
  · intro n l xs ds _ _ this; rw [toPy, PyData.depth]; (first | lia | omega)
  · intro n; rw [toPys, PyData.depthAll]; (first | lia | omega)
  · intro n a b c d _ _ h1 h2; rw [toPys, PyData.depthAll]; (first | lia | omega)
theorem deep_reads (R : RH x F h s.heap) {n : Nat} {v : V} {d : D} {v' : Value} (D : Deep h n v d) (r : VR x s.heap v v') : ∃ as, Reads s.heap v' (toPy d) as := by
  refine Deep.rec (motive_1 := fun n v d _ => ∀ v', VR x s.heap v v' → ∃ as, Reads s.heap v' (toPy d) as) (motive_2 := fun n vs ds _ => ∀ vs', VRs x s.heap vs vs' → ∃ as, ReadsAll s.heap vs' (toPys ds) as) ?_ ?_ ?_ ?_ ?_ ?_ ?_ D v' r
  · intro n v' r; cases r; exact ⟨_, .none⟩
  · intro n b v' r; cases r; exact ⟨_, .bool b⟩
  · intro n i v' r; cases r; exact ⟨_, .int i _⟩
  · intro n xs ds _ ih v' r
    cases r with
    | tup g rs =>
      obtain ⟨o, e, hc, m, hd⟩ := g
      obtain ⟨as, q⟩ := ih _ rs
      rw [toPy]
      exact ⟨_, .tuple e hc hd (by simpa using q)⟩
  · intro n l xs ds e _ ih v' r
    cases r
    obtain ⟨vs, n, g, rs⟩ := R.obj _ _ e
    obtain ⟨as, q⟩ := ih _ rs
    rw [toPy]
    exact ⟨_, .list g rfl rfl (by simpa using q)⟩
  · intro n v' r; cases r; exact ⟨_, .nil⟩
  · intro n a b c d _ _ i1 i2 v' r
    cases r with
    | cons b q =>
      obtain ⟨as, h1⟩ := i1 _ b
      obtain ⟨bs, h2⟩ := i2 _ q
      rw [toPys]
      exact ⟨_, .cons h1 h2⟩
theorem deep_shaped {n : Nat} {v : V} {d : D} (e : Deep h n v d) (hn : n ≤ 64) : SeqAt.shaped (toPy d) = true := by
  have := deep_depth e
  unfold SeqAt.shaped
  rw [toPy_lay, decide_eq_true (by (first | lia | omega))]; rfl
theorem valueAt_cons {j k : Int} {v : Value} {r : List (Int × Value)} : valueAt ((j, v) :: r) k = if j = k then some v else valueAt r k := by
  unfold valueAt
  rw [List.find?_cons]
  by_cases q : j = k
  · rw [if_pos q, decide_eq_true q]; rfl
  · rw [if_neg q, decide_eq_false q]
theorem lookup_cons_if {α : Type} {j k : Int} {v : α} {r : List (Int × α)} : List.lookup k ((j, v) :: r) = if j = k then some v else List.lookup k r := by
  rw [List.lookup_cons]
  by_cases q : j = k
  · rw [if_pos q, q, beq_self_eq_true]
  · rw [if_neg q, beq_false_of_ne (Ne.symm q)]
inductive At (x : X) (hp : Heap) : Option V → Option Value → Prop
  | none : At x hp none none
  | some {v : V} {v' : Value} : VR x hp v v' → At x hp (some v) (some v')
theorem dict_at {hp : Heap} (k : Int) (es : List (Int × V)) : ∀ {kvs : List (Int × Value)}, VRd x hp es kvs → At x hp (es.lookup k) (valueAt kvs k) := by
  induction es with
  | nil =>
    intro kvs r
    induction kvs using List.casesOn with
    | nil => exact .none
    | cons _ _ => cases r.1
  | cons e es ih =>
    intro kvs r
    induction kvs using List.casesOn with
    | nil => cases r.1
    | cons kv kvs =>
      have q := List.cons.inj r.1
      have q1 : e.1 = kv.1 := q.1
      cases r.2 with
      | cons a b =>
        rw [show e = (e.1, e.2) from rfl, show kv = (kv.1, kv.2) from rfl, valueAt_cons, lookup_cons_if, ← q1]
        by_cases hk : e.1 = k
        · rw [if_pos hk, if_pos hk]; exact .some a
        · rw [if_neg hk, if_neg hk]; exact ih ⟨q.2, b⟩
theorem dict_map {kvs : List (Int × Value)} {es : List (Int × V)} {hp : Heap} (r : VRd x hp es kvs) (k : Int) : match es.lookup k with
    | some v => ∃ v', valueAt kvs k = some v' ∧ VR x hp v v'
    | none => valueAt kvs k = none := by
  have q := dict_at k es r
  generalize es.lookup k = o at q
  generalize valueAt kvs k = o' at q
  cases q with
  | none => rfl
  | some r => exact ⟨_, rfl, r⟩
theorem any_lookup (es : List (Int × V)) (k : Int) : (es.any fun e => e.1 == k) = (es.lookup k).isSome := by
  induction es with
  | nil => rfl
  | cons e r ih =>
    rw [List.any_cons, List.lookup_cons, ih]
    by_cases hk : k = e.1
    · subst hk; simp
    · have h1 : (k == e.1) = false := by simpa using hk
      have h2 : (e.1 == k) = false := by simpa using fun e => hk e.symm
      simp only [h1, h2, Bool.false_or]
theorem low_facts (hx : x.h0.get? sysModules ≠ none) (R : RH x F h s.heap) {l : Nat} {o : O} (e : h l = some o) : (l == sysModules) = false := by
  cases q : l == sysModules with
  | false => rfl
  | true =>
    rw [beq_iff_eq.mp q] at e
    have h1 := R.off _ _ e
    cases z : x.h0.get? sysModules with
    | none => exact absurd z hx
    | some o => rw [R.base _ _ z] at h1; cases h1
theorem intKey (k : Int) (t : Tok) : (intKind p0 x.w).is k (.int k t) = true := by simp [intKind, Value.isInt]
noncomputable def intIs (k : Int) : Value → Bool
  | .int n _ => n == k
  | _ => false
theorem any_ints {vs : List Value} {ns : List Int} (h : IntsAre vs ns) (k : Int) : vs.any (intIs k) = ns.contains k := by
  induction h with
  | nil => rfl
  | cons n t _ ih =>
    rw [List.any_cons, ih, List.contains_cons]
    have : intIs k (.int n t) = (k == n) := by simp only [intIs]; exact Bool.beq_comm
    rw [this]
theorem eq_ints0 {vs : List Value} {ns : List Int} (h : IntsAre vs ns) (k : Int) (t : Tok) (A : Around) (s : Shared) : ∀ y, y ∈ vs → SeqAt.EqAt A s y (.int k t) (intIs k y) := by
  induction h with
  | nil => intro y hy; simp at hy
  | cons n u _ ih =>
    intro y hy
    rcases List.mem_cons.mp hy with rfl | hy
    · exact SeqAt.EqAt.int_int n u k t
    · exact ih y hy
theorem eq_ints {vs : List Value} {ns : List Int} (h : IntsAre vs ns) (k : Int) (t : Tok) (A : Around) (s : Shared) : ∀ y, y ∈ vs.toArray → SeqAt.EqAt A s y (.int k t) (intIs k y) :=
  fun y hy => eq_ints0 h k t A s y (by simpa using hy)
theorem dict_has {kvs : List (Int × Value)} {es : List (Int × V)} {hp : Heap} (r : VRd x hp es kvs) (k : Int) : (es.any fun e => e.1 == k) = (valueAt kvs k).isSome := by
  have q := dict_at k es r
  rw [any_lookup]
  generalize es.lookup k = o at q ⊢
  generalize valueAt kvs k = o' at q ⊢
  cases q <;> rfl
theorem ints_has {xs : List Int} {vs : List Value} {hp : Heap} (r : VRs x hp (vints xs) vs) (i : Int) : vs.toArray.any (intIs i) = xs.contains i := by rw [← any_ints r.toInts, List.any_toArray]
theorem op_in {P : Bool → Prop} {Q : Value → Shared → Prop} (hx : x.h0.get? sysModules ≠ none) (R : RH x F h s.heap) (ra : VR x s.heap a a') (rb : VR x s.heap b b') (k : memW a b P h)
    (hq : ∀ r t, P r → Q (.bool r) { s with toks := t }) : wpAny (MD x.w) A (compareOp .In a' b') Q E s := by
  refine mW_ref (Q := fun a b => VR x s.heap a a' → VR x s.heap b b' → wpAny (MD x.w) A (compareOp .In a' b') Q E s) k (fun i l es e k ra rb => ?_) (fun i l ns e k ra rb => ?_) ra rb <;> cases ra <;> cases rb <;> have R1 := R.obj _ _ e
  · exact R1.elim fun kvs q => wpAny_in_of (intKey i _) (low_facts hx R e) q.1.mapOf (hq _ _ (dict_has q.2 i ▸ k))
  · exact R1.elim fun vs q => q.elim fun n q => SeqAt.in_listAt (intIs i) ⟨_, q.1, rfl, _, rfl⟩ (eq_ints q.2.toInts i _ _ s) (hq _ s.toks (ints_has q.2 i ▸ k))
theorem op_nin {P : Bool → Prop} {Q : Value → Shared → Prop} (hx : x.h0.get? sysModules ≠ none) (R : RH x F h s.heap) (ra : VR x s.heap a a') (rb : VR x s.heap b b') (k : memW a b P h)
    (hq : ∀ r t, P r → Q (.bool (!r)) { s with toks := t }) : wpAny (MD x.w) A (compareOp .NotIn a' b') Q E s := by
  refine mW_ref (Q := fun a b => VR x s.heap a a' → VR x s.heap b b' → wpAny (MD x.w) A (compareOp .NotIn a' b') Q E s) k (fun i l es e k ra rb => ?_) (fun i l ns e k ra rb => ?_) ra rb <;> cases ra <;> cases rb <;> have R1 := R.obj _ _ e
  · exact R1.elim fun kvs q => wpAny_notIn_of (intKey i _) (low_facts hx R e) q.1.mapOf (hq _ _ (dict_has q.2 i ▸ k))
  · exact R1.elim fun vs q => q.elim fun n q => SeqAt.notIn_listAt (intIs i) ⟨_, q.1, rfl, _, rfl⟩ (eq_ints q.2.toInts i _ _ s) (hq _ s.toks (ints_has q.2 i ▸ k))
theorem cCmp_inv {P : CmpOp → COp → Prop} {o : COp} {op : CmpOp} (hop : cCmp op = some o) (k1 : P .Eq .eq) (k2 : P .NotEq .ne) (k3 : P .Lt .lt) (k4 : P .LtE .le) (k5 : P .Gt .gt) (k6 : P .GtE .ge) (k7 : P .Is .is) (k8 : P .IsNot .isn) (k9 : P .In .inn) (k10 : P .NotIn .nin) : P op o := by
  induction op using PySem.CmpOp.casesOn with
  | Eq => exact osome hop k1
  | NotEq => exact osome hop k2
  | Lt => exact osome hop k3
  | LtE => exact osome hop k4
  | Gt => exact osome hop k5
  | GtE => exact osome hop k6
  | Is => exact osome hop k7
  | IsNot => exact osome hop k8
  | In => exact osome hop k9
  | NotIn => exact osome hop k10
theorem int2 {P : Int → Int → Prop} {C : Value → Value → Prop} (k : ∃ i j, a = .int i ∧ b = .int j ∧ P i j) (ra : VR x s.heap a a') (rb : VR x s.heap b b') (q : ∀ i j t u, P i j → C (.int i t) (.int j u)) : C a' b' := by
  obtain ⟨i, j, rfl, rfl, k⟩ := k
  cases ra; cases rb
  exact q _ _ _ _ k
theorem eq2 {P : Bool → Prop} {C : Value → Value → Prop} (R : RH x F h s.heap) (k : eqW a b P h) (ra : VR x s.heap a a') (rb : VR x s.heap b b') (q1 : ∀ i j t u, P (i == j) → C (.int i t) (.int j u))
    (q2 : ∀ l r d as bs, Reads s.heap (.ref l) (toPy d) as → Reads s.heap (.ref r) (toPy d) bs → SeqAt.shaped (toPy d) = true → P (PySem.Spec.same (toPy d) (toPy d)) → C (.ref l) (.ref r)) : C a' b' := by
  refine eW_two (Q := fun a b => VR x s.heap a a' → VR x s.heap b b' → C a' b') k (fun i j k ra rb => ?_) (fun l r d d1 d2 k ra rb => ?_) ra rb <;> cases ra <;> cases rb
  · exact q1 _ _ _ _ k
  · exact (deep_reads R d1 (.ref _)).elim fun as r1 => (deep_reads R d2 (.ref _)).elim fun bs r2 => q2 _ _ d as bs r1 r2 (deep_shaped d1 (Nat.le_of_ble_eq_true rfl)) (toPy_same d ▸ k)
theorem is2 {C : Bool → Value → Prop} {t : Bool} (hb : isNone a = some t) (ra : VR x s.heap a a') (q1 : C true .none) (q2 : ∀ a', PySem.plainIs a' .none = true → a' ≠ .none → C false a') : C t a' := by
  cases ra with
  | none => exact osome (P := fun t => C t .none) hb q1
  | script => exact none_ne hb
  | int _ _ => exact osome (P := fun t => C t _) hb (q2 _ rfl (by nofun))
  | ref _ => exact osome (P := fun t => C t _) hb (q2 _ rfl (by nofun))
  | bool _ => exact osome (P := fun t => C t _) hb (q2 _ rfl (by nofun))
  | tup _ _ => exact osome (P := fun t => C t _) hb (q2 _ rfl (by nofun))
theorem op_cmp {o : COp} {op : CmpOp} (hx : x.h0.get? sysModules ≠ none) (hA : OkA 0 A) (hop : cCmp op = some o) (R : RH x F h s.heap) (ra : VR x s.heap a a') (rb : VR x s.heap b b') (k : cmpW o a b K h) :
    wpAny (MD x.w) A (compareOp op a' b') (QE x F s K) E s := by
  have hu : A.units + 64 < cLine := by have := hA.uni; unfold cLine; (first | lia | omega)
  refine cCmp_inv (P := fun op o => cmpW o a b K h → wpAny (MD x.w) A (compareOp op a' b') (QE x F s K) E s) hop
    (fun k => eq2 (P := fun b => K (.bool b) h) (C := fun a' b' => wpAny (MD x.w) A (compareOp .Eq a' b') (QE x F s K) E s) R k ra rb (fun i j t u k => eq_int (QE.now R (.bool _) k)) fun l r d as bs r1 r2 sh k => eq_dataH_same r1 r2 sh sh hu (toPy_mix d) (QE.now R (.bool _) k))
    (fun k => eq2 (P := fun b => K (.bool (!b)) h) (C := fun a' b' => wpAny (MD x.w) A (compareOp .NotEq a' b') (QE x F s K) E s) R k ra rb (fun i j t u k => PyProof.Rows.ne_int (QE.now R (.bool _) k)) fun l r d as bs r1 r2 sh k => ne_dataH_same r1 r2 sh sh hu (toPy_mix d) (QE.now R (.bool _) k))
    (fun k => int2 (C := fun a' b' => wpAny (MD x.w) A (compareOp .Lt a' b') (QE x F s K) E s) k ra rb fun i j t u k => PyProof.Rows.lt_int (QE.now R (.bool _) k))
    (fun k => int2 (C := fun a' b' => wpAny (MD x.w) A (compareOp .LtE a' b') (QE x F s K) E s) k ra rb fun i j t u k => PyProof.Rows.le_int (QE.now R (.bool _) k))
    (fun k => int2 (C := fun a' b' => wpAny (MD x.w) A (compareOp .Gt a' b') (QE x F s K) E s) k ra rb fun i j t u k => PyProof.Rows.gt_int (QE.now R (.bool _) k))
    (fun k => int2 (C := fun a' b' => wpAny (MD x.w) A (compareOp .GtE a' b') (QE x F s K) E s) k ra rb fun i j t u k => PyProof.Rows.ge_int (QE.now R (.bool _) k))
    (fun k => ?_) (fun k => ?_)
    (fun k => op_in (P := fun b => K (.bool b) h) hx R ra rb k fun r t hr => QE.tok t R (.bool r) hr) (fun k => op_nin (P := fun b => K (.bool (!b)) h) hx R ra rb k fun r t hr => QE.tok t R (.bool _) hr) k
  · obtain ⟨rfl, b, hb, k⟩ := k
    cases rb
    exact is2 (C := fun b a' => K (.bool b) h → wpAny (MD x.w) A (compareOp .Is a' .none) (QE x F s K) E s) hb ra (fun k => wpAny_is_self rfl (QE.now R (.bool _) k)) (fun a' p n k => wpAny_is_other p n (QE.now R (.bool _) k)) k
  · obtain ⟨rfl, b, hb, k⟩ := k
    cases rb
    exact is2 (C := fun b a' => K (.bool (!b)) h → wpAny (MD x.w) A (compareOp .IsNot a' .none) (QE x F s K) E s) hb ra (fun k => wpAny_isNot_self rfl (QE.now R (.bool _) k)) (fun a' p n k => wpAny_isNot_other p n (QE.now R (.bool _) k)) k
end
end
section
open PySem PySem.W PyProof.Rows
structure XOk (x : X) : Prop where
  kin : x.K.In x.h0
  sys : x.h0.get? sysModules ≠ none
  scr : ∃ vs, x.h0.IsList x.scA vs.toArray ∧ IntsAre vs x.sc
  scl : x.sc.length ≤ 63
  mks : ∀ c, makesIn x.K (x.caddr c) = true
  pg : ∀ c n, plainGet x.K (x.caddr c) n = true
  po : ∀ c, plainOver x.K (x.caddr c) = true
  hd : ∀ c, hasDictIn x.K (x.caddr c) = true
  sa : ∀ c, findIn x.K (.ref (x.caddr c)) (Str.ofString "__setattr__") = some (some (.builtin "object.__setattr__"))
  kf : ∀ f, keepIn x.K (.ref (x.faddr f)) = true
  kc : ∀ c, keepIn x.K (.ref (x.caddr c)) = true
  tf : ∀ f, typeIn x.K (.ref (x.faddr f)) = some (.type "function")
  ini : ∀ c, findIn x.K (.ref (x.caddr c)) (Str.ofString "__init__") = some (some (.ref (x.faddr (initOf c))))
  nw : findIn x.K (.ref (x.caddr 3)) (Str.ofString "new_word") = some (some (.ref (x.faddr 37)))
  at_ : ∀ (c k : Nat) n, anames[k]? = some n → ∃ attr, findIn x.K (.ref (x.caddr c)) n = some attr ∧ noGet x.K attr = true ∧ takerIn x.K (x.caddr c) n = some none
section
variable {x : X} {F : FM} {h : H} {s s' : Shared} {K : KE} {A : Around} {a b : V} {a' b' : Value} {E : Value → Shared → Prop}
theorem RH.kin (hx : XOk x) (R : RH x F h s.heap) : x.K.In s.heap := fun a o e => R.frz _ _ (R.base _ _ (hx.kin a o e))
theorem VR.handed {hp : Heap} (r : VR x hp a a') : handedIn a' = true := by cases r <;> rfl
theorem nodup_inj {l : List Str} (h : l.Nodup) : ∀ (i j : Nat) (m : Str), l[i]? = some m → l[j]? = some m → i = j := by
  induction l with
  | nil => intro i j m hi; simp at hi
  | cons y r ih =>
    obtain ⟨h1, h2⟩ := List.nodup_cons.mp h
    intro i j m hi hj
    cases i <;> cases j
    · rfl
    · simp at hi hj; subst hi; exact absurd (List.mem_of_getElem? hj) h1
    · simp at hi hj; subst hj; exact absurd (List.mem_of_getElem? hi) h1
    · simp at hi hj; rw [ih h2 _ _ m hi hj]
theorem anames_nodup : anames.Nodup := by decide +kernel
theorem isStr_ne {e : DictEntry} {n m : Str} {t : Tok} (h : e.key = .str n t) (hn : n ≠ m) : e.key.isStr m = false := by
  rw [h]; simp [Value.isStr, hn]
theorem isStr_eq {e : DictEntry} {n : Str} {t : Tok} (h : e.key = .str n t) : e.key.isStr n = true := by
  rw [h]; simp [Value.isStr]
theorem NR.noRef {hp : Heap} {fs : List (Nat × V)} {es : List DictEntry} (r : NR x hp fs es) : es.any (·.refKey) = false := by
  induction r with
  | nil => rfl
  | cons a b c _ ih => rw [List.any_cons, ih]; simp [DictEntry.refKey, b]
theorem NR.get {hp : Heap} {fs : List (Nat × V)} {es : List DictEntry} {k : Nat} {n : Str} {v : V} (r : NR x hp fs es) (hn : anames[k]? = some n) (q : fs.lookup k = some v) :
    ∃ v', getL n es = some (some v') ∧ VR x hp v v' := by
  have : ∃ v', (es.find? (·.key.isStr n)).map (·.val) = some v' ∧ VR x hp v v' := by
    induction r with
    | nil => simp at q
    | cons a b c _ ih =>
      rw [List.lookup_cons] at q
      rw [List.find?_cons]
      rename_i k' v0 n' t e fs es _
      by_cases hk : k = k'
      · subst hk
        rw [hn] at a; cases a
        simp only [beq_self_eq_true, Option.some.injEq] at q
        subst q
        rw [isStr_eq b]
        exact ⟨_, rfl, c⟩
      · have h1 : (k == k') = false := by simpa using hk
        rw [h1] at q
        rw [isStr_ne (m := n) b fun z => hk (nodup_inj anames_nodup k k' n hn (by rw [a, z]))]
        exact ih q
  obtain ⟨v', h1, h2⟩ := this
  refine ⟨v', ?_, h2⟩
  unfold getL
  cases z : es.find? (·.key.isStr n) with
  | none => rw [z] at h1; cases h1
  | some e => rw [z] at h1; simp only [Option.map_some, Option.some.injEq] at h1; simp [h1]
theorem NR.put {hp : Heap} {fs : List (Nat × V)} {es : List DictEntry} {k : Nat} {n : Str} {v : V} {v' : Value} {hsh : Int} {t : Tok} (hn : anames[k]? = some n) (r : NR x hp fs es) (rv : VR x hp v v') :
    NR x hp (putF fs k v) (putL n hsh (.str n t) v' es) := by
  induction r with
  | nil => exact .cons hn rfl rv .nil
  | cons a b c r ih =>
    rename_i k' v0 n' t' e fs es
    simp only [putF, putL]
    by_cases hk : k' = k
    · subst hk
      rw [hn] at a; cases a
      rw [if_pos rfl, isStr_eq b, if_pos rfl]
      exact .cons hn b rv r
    · rw [if_neg hk, isStr_ne (m := n) b fun z => hk (nodup_inj anames_nodup k' k n (by rw [a, z]) hn), if_neg (by simp)]
      exact .cons a b c ih
theorem NR.len {hp : Heap} {fs : List (Nat × V)} {es : List DictEntry} (r : NR x hp fs es) : es.length = fs.length := by
  induction r with
  | nil => rfl
  | cons _ _ _ _ ih => simp [ih]
theorem putF_len (fs : List (Nat × V)) (k : Nat) (v : V) : (putF fs k v).length ≤ fs.length + 1 := by
  induction fs with
  | nil => simp [putF]
  | cons p r ih =>
    obtain ⟨g, u⟩ := p
    simp only [putF]
    split <;> simp only [List.length_cons] <;> (first | lia | omega)
theorem op_attr (hx : XOk x) {n : Str} {k : Nat} (hn : anames[k]? = some n) (R : RH x F h s.heap) (ra : VR x s.heap a a') (kk : attrW a k K h) {expr : Bool} :
    wpAny (MD x.w) A (getAttr a' n expr) (QE x F s K) E s := by
  unfold attrW at kk
  obtain ⟨l, c, fs, v, rfl, e, q, kk⟩ := kk
  cases ra
  obtain ⟨d, es, m, p, ho, nr⟩ := R.instOf e
  obtain ⟨v', h1, h2⟩ := nr.get hn q
  obtain ⟨attr, ha, hng, _⟩ := hx.at_ c k n hn
  exact get_value (R.kin hx) ⟨p, rfl, rfl, ho⟩ (plainGet_of (hx.pg c n)).1 (findObj_own (od := dictOf es m) (hx.hd c) ha hng h1) h2.handed (QE.tok _ R h2 kk)
theorem op_setA {v : V} {v' : Value} {P : H → Prop} {Q : Unit → Shared → Prop} (hx : XOk x) {n : Str} {k : Nat} (hn : anames[k]? = some n) (R : RH x F h s.heap) (ra : VR x s.heap a a') (rv : VR x s.heap v v')
    (kk : setAW a k v P h) (hq : ∀ s' h', Later s s' → RH x F h' s'.heap → P h' → Q () s') : wpAny (MD x.w) A (setAttr a' n v') Q E s := by
  unfold setAW at kk
  obtain ⟨l, c, fs, rfl, e, hlen, kk⟩ := kk
  cases ra
  obtain ⟨d, es, m, p, ho, nr⟩ := R.instOf e
  obtain ⟨attr, ha, hng, htk⟩ := hx.at_ c k n hn
  have I : InstAt s.heap l (instObj (x.caddr c) d) (x.caddr c) (some (dictOf es m)) := ⟨p, rfl, rfl, ho⟩
  have I' : InstAt ({ s with toks := s.toks + 1 } : Shared).heap l (instObj (x.caddr c) d) (x.caddr c) (some (dictOf es m)) := I
  refine set_plain (R.kin hx) I (hx.sa c) (osa_open (s := { s with toks := s.toks + 1 }) (R.kin hx) I' (hx.po c) htk fun b => ?_)
  obtain ⟨cd, hc, hdd⟩ := any_some (hx.hd c)
  refine wpAny_bind (wpAny_pure (wpAny_bind (wpAny_bind (wpAny_loadPart p (wpAny_bind ((looks_clsIn (R.kin hx) hc).at ?_))))))
  rw [hdd]
  refine wpAny_pure (a := some d) (wpAny_bind (wpAny_pure (wpAny_bind ?_)))
  unfold nsSet
  refine wpAny_bind (wpAny_bind (wpAny_askSetting (wpAny_pure (wpAny_bind (wpAny_mkText (wpAny_bind (wpAny_loadPart ho ?_)))))))
  dsimp only
  have nr' := nr.noRef
  rw [aRefKeyMayBeTheName_at, ← Array.any_toList, ← Array.any_toList, nr', Bool.and_false]
  refine wpAny_updatePart ho ?_
  have hs' := Heap.SameBut.update s.heap d (Obj.putName n (PyData.keyHash x.w.params n) (.str n (s.toks + 1)) v')
  have tk : TupKeep s.heap (s.heap.update d (Obj.putName n (PyData.keyHash x.w.params n) (.str n (s.toks + 1)) v')) := TupKeep.ofSame hs' ho (not_tup_dict (es := es.toArray) (n := m) rfl)
  have g' : (s.heap.update d (Obj.putName n (PyData.keyHash x.w.params n) (.str n (s.toks + 1)) v')).get? d = some (dictOf (putL n (PyData.keyHash x.w.params n) (.str n (s.toks + 1)) v' es) (putN n es m)) := by
    rw [Heap.get?_update_self _ ho (by rw [putName_dict]; rfl), putName_dict]
  have nn := (nr.later tk).put (hsh := PyData.keyHash x.w.params n) (t := s.toks + 1) hn (rv.later tk)
  refine wpAny_bind (wpAny_lookBehind g' (pastItsLine_dict ?_) ?_)
  · have := nn.len
    have := putF_len fs k v
    rw [List.size_toArray, sizeLine_eq]; (first | lia | omega)
  · exact wpAny_pure (hq _ _ ⟨tk, rfl, rfl⟩ (R.updInst e p hs' tk g' nn) kk)
end
end
section
open PySem PySem.W PyProof.Rows
section
variable {x : X} {F : FM} {h : H} {s s' : Shared} {K : KE} {A : Around} {a b : V} {a' b' : Value} {E : Value → Shared → Prop}
theorem toNat_lt {k : Int} {n : Nat} (h0 : 0 ≤ k) (h : k.toNat < n) : k < (n : Int) := (Int.toNat_lt h0).mp h
theorem lt_63 {k : Int} (h : k < 100000) : k < 2 ^ 63 := Int.lt_of_lt_of_le h (by decide)
theorem le_63 {k : Int} (h : 0 ≤ k) : -2 ^ 63 ≤ k := Int.le_trans (by decide) h
theorem size_ok {xs : List V} {hp : Heap} {vs : List Value} (r : VRs x hp xs vs) (l : xs.length < 100000) : vs.toArray.size ≤ sizeLine := by
  have e1 := r.length
  rw [List.size_toArray, sizeLine_eq]; (first | lia | omega)
theorem size_63 {xs : List V} {hp : Heap} {vs : List Value} (r : VRs x hp xs vs) (l : xs.length < 100000) : ((vs.toArray.size : Nat) : Int) < 2 ^ 63 := by
  have e1 := r.length
  rw [List.size_toArray]; (first | lia | omega)
theorem seqAt_nat {k : Int} {n : Nat} (h0 : 0 ≤ k) (h : k.toNat < n) : seqIndex? k n = some k.toNat := seqIndex_of h0 (toNat_lt h0 h)
theorem arr_get {vs : List Value} {i : Nat} {v : Value} (h : vs[i]? = some v) : vs.toArray[i]? = some v := List.getElem?_toArray.trans h
theorem op_getItem {i : V} {i' : Value} (R : RH x F h s.heap) (ra : VR x s.heap a a') (ri : VR x s.heap i i') (kk : idxW a i K h) : wpAny (MD x.w) A (getItem a' i') (QE x F s K) E s := by
  refine idxW_inv (Q := fun a i => VR x s.heap a a' → VR x s.heap i i' → wpAny (MD x.w) A (getItem a' i') (QE x F s K) E s) kk (fun l k xs v h0 h1 e g kk ra ri => ?_) (fun l k es v e g kk ra ri => ?_) (fun xs k v h0 h1 g kk ra ri => ?_) ra ri <;> cases ri
  · cases ra
    exact (R.obj _ _ e).elim fun vs q => q.elim fun n q => (q.2.get g).elim fun v' gv => wpAny_getItem_list ⟨_, q.1, rfl, _, rfl⟩ h0 (lt_63 h1) (arr_get gv.1) (QE.now R gv.2 kk)
  · cases ra
    refine (R.obj _ _ e).elim fun kvs q => ?_
    have d := dict_map q.2 k
    rw [g] at d
    exact d.elim fun v' gv => wpAny_getItem_of (intKey k _) q.1.mapOf gv.1 (QE.tok _ R gv.2 kk)
  · cases ra with
    | tup t r => exact (r.get g).elim fun v' gv => PyProof.Rows.getItem_tuple t (le_63 h0) (lt_63 h1) (seqAt_nat h0 (by rw [List.size_toArray]; exact (List.getElem?_eq_some_iff.mp gv.1).1)) (arr_get gv.1) (QE.now R gv.2 kk)
theorem notInPython {i : V} (R : RH x F h s.heap) (ra : VR x s.heap a a') (kk : idxW a i K h) {Q : Bool → Shared → Prop} (q : Q false s) : wpAny (MD x.w) A (getitemInPython a') Q E s := by
  refine idxW_inv (Q := fun a i => VR x s.heap a a' → wpAny (MD x.w) A (getitemInPython a') Q E s) kk (fun l k xs v h0 h1 e g kk ra => ?_) (fun l k es v e g kk ra => ?_) (fun xs k v h0 h1 g kk ra => ?_) ra
  · cases ra
    exact (R.obj _ _ e).elim fun vs p => p.elim fun n p => wpAny_bind (wpAny_specialOf (T := "list") ⟨_, p.1, rfl⟩ slot_list_getitem.lookup (wpAny_pure q))
  · cases ra
    exact (R.obj _ _ e).elim fun kvs p => wpAny_bind (wpAny_specialOf p.1.mapOf.typeIs slot_dict_getitem.lookup (wpAny_pure q))
  · cases ra with
    | tup t r => exact wpAny_bind (wpAny_specialOf t.typeIs slot_tuple_getitem.lookup (wpAny_pure q))
theorem op_idx {i : V} {i' : Value} {value slice : Expr} (hs : isSliceE slice = false) (R : RH x F h s.heap) (ra : VR x s.heap a a') (ri : VR x s.heap i i') (kk : idxW a i K h) :
    wpAny (MD x.w) A (do
      let r ← subscripted slice (← getitemInPython a') a' i'
      letTemporaryGo value a' r
      pure r) (QE x F s K) E s := by
  refine wpAny_bind (notInPython R ra kk ?_)
  have e : subscripted slice false a' i' = operate [a', i'] (getItem a' i') := by cases slice <;> first | exact Eq.refl (operate [a', i'] (getItem a' i')) | exact tf hs
  rw [e]
  refine wpAny_bind (wpAny_operating (wpAny_mono (op_getItem R ra ri kk) (fun v s' q => ?_) fun _ _ y => y))
  exact wpAny_bind (wpAny_letTemporaryGo (wpAny_pure q))

theorem listNotTup {its : Array Value} {n : Nat} : ¬ TupO (listOf its n) := not_tup_cls (t := .type "list") rfl (by simp)
theorem setItem_exact {prog : Program} {w : World} {l : Addr} {items : Array Value} {n : Nat} {k : Int} {t : Tok} {v : Value} {Q : Unit → Shared → Prop} (ho : s.heap.get? l = some (listOf items n)) (h0 : 0 ≤ k) (hfit : k < 2 ^ 63) (hn : k < items.size)
    (hQ : ∀ h', h'.get? l = some (listOf (items.setIfInBounds k.toNat v) n) → Heap.SameBut l s.heap h' → Q () { s with heap := h' }) : wpAny (model prog w) A (setItem (.ref l) (.int k t) v) Q E s := by
  have hl : s.heap.IsList l items := ⟨_, ho, rfl, _, rfl⟩
  unfold setItem
  try with_reducible refine wpAny_holding ?_
  first | refine wpAny_bind (wpAny_pure ?_) | skip
  refine wpAny_bind (wpAny_sequenceKey hl.typeIs (by decide) ?_)
  refine wpAny_bind (wpAny_callSpecial?_slot (name := Str.ofString "__setitem__") hl.typeIs slot_list_setitem (wpAny_call_entry slot_list_setitem hl.typeIs entry_list_setitem ?_ (args_list_setitem _ _ _)))
  show wpAny _ _ (Builtin.List.listSubscript? (.int k t) >>= _) _ _ s
  refine wpAny_bind (wpAny_listSubscript_int (fitsIndex_of h0 hfit) ?_)
  clear hfit
  obtain ⟨j, rfl⟩ := Int.eq_ofNat_of_zero_le h0
  have hj : j < items.size := by (first | lia | omega)
  show wpAny _ _ ((seqItemAt l j >>= fun r => pure (r.map (j, ·))) >>= _) _ _ s
  refine wpAny_bind (wpAny_bind (wpAny_seqItemAt ho rfl (wpAny_pure ?_)))
  rw [Array.getElem?_eq_getElem hj]
  show wpAny _ _ (setSeqItemAt l j v >>= _) _ _ s
  have g : (s.heap.update l (Obj.mapSeq (·.setIfInBounds j v))).get? l = some (listOf (items.setIfInBounds j v) n) := by
    rw [Heap.get?_update_self _ ho rfl]
    simp [Obj.mapSeq]
  refine wpAny_bind (wpAny_setSeqItemAt ho rfl ?_)
  first
    | exact wpAny_bind (wpAny_pure (wpAny_pure ⟨.none, rfl, wpAny_pure (hQ _ g (Heap.SameBut.update ..))⟩))
    | exact wpAny_pure ⟨.none, rfl, wpAny_pure (hQ _ g (Heap.SameBut.update ..))⟩
theorem VRs.mapStore {hp : Heap} (k : Int) {v : V} {v' : Value} (rv : VR x hp v v') (es : List (Int × V)) : ∀ {kvs : List (Int × Value)}, es.map (·.1) = kvs.map (·.1) → VRs x hp (es.map (·.2)) (kvs.map (·.2)) →
    VRs x hp ((es.map fun e => if e.1 = k then (e.1, v) else e).map (·.2)) ((kvs.map fun e => if e.1 = k then (e.1, v') else e).map (·.2)) := by
  induction es with
  | nil =>
    intro kvs r1 r2
    induction kvs using List.casesOn with
    | nil => exact .nil
    | cons _ _ => cases r1
  | cons e es ih =>
    intro kvs r1 r2
    induction kvs using List.casesOn with
    | nil => cases r1
    | cons kv kvs =>
      have q := List.cons.inj r1
      have q1 : e.1 = kv.1 := q.1
      cases r2 with
      | cons a b =>
        rw [List.map_cons, List.map_cons, List.map_cons, List.map_cons]
        refine .cons ?_ (ih q.2 b)
        rw [← q1]
        by_cases z : e.1 = k
        · rw [if_pos z, if_pos z]; exact rv
        · rw [if_neg z, if_neg z]; exact a
theorem VRd.put {hp : Heap} {es : List (Int × V)} {kvs : List (Int × Value)} (r : VRd x hp es kvs) (k : Int) {v : V} {v' : Value} (rv : VR x hp v v') : VRd x hp (putD es k v) (stored kvs k v') := by
  obtain ⟨r1, r2⟩ := r
  have he : es.any (fun e => decide (e.1 = k)) = kvs.any (fun e => decide (e.1 = k)) := by
    have h1 : es.any (fun e => decide (e.1 = k)) = (es.map (·.1)).any (fun j => decide (j = k)) := by rw [List.any_map]; rfl
    have h2 : kvs.any (fun e => decide (e.1 = k)) = (kvs.map (·.1)).any (fun j => decide (j = k)) := by rw [List.any_map]; rfl
    rw [h1, h2, r1]
  unfold putD stored
  rw [he]
  split
  · refine ⟨?_, VRs.mapStore k rv es r1 r2⟩
    have q : ∀ (α : Type) (l : List (Int × α)) (u : α), (l.map fun e => if e.1 = k then (e.1, u) else e).map (·.1) = l.map (·.1) := fun α l u => by
      rw [List.map_map]
      refine List.map_congr_left fun e _ => ?_
      show (if e.1 = k then (e.1, u) else e).1 = e.1
      split <;> rfl
    rw [q, q, r1]
  · refine ⟨by rw [List.map_append, List.map_append, r1]; rfl, ?_⟩
    rw [List.map_append, List.map_append]
    exact r2.append (.cons rv .nil)
theorem pairs_ok {hp : Heap} {es : List (Int × V)} {kvs : List (Int × Value)} (r : VRd x hp es kvs) (l : es.length < 100000) : kvs.length ≤ sizeLine := by
  have := congrArg List.length r.1
  rw [List.length_map, List.length_map] at this
  rw [sizeLine_eq]; (first | lia | omega)
theorem op_setI {i v : V} {i' v' : Value} {P : H → Prop} {Q : Unit → Shared → Prop} (R : RH x F h s.heap) (ra : VR x s.heap a a') (ri : VR x s.heap i i') (rv : VR x s.heap v v')
    (kk : setIW a i v P h) (hq : ∀ s' h', Later s s' → RH x F h' s'.heap → P h' → Q () s') : wpAny (MD x.w) A (setItem a' i' v') Q E s := by
  unfold setIW at kk
  obtain ⟨l, k, rfl, rfl, kk⟩ := kk
  cases ra
  cases ri
  refine kk.elim (fun kk => kk.2.2.elim fun xs q => (R.obj _ _ q.1).elim fun vs o => o.elim fun n o => setItem_exact o.1 kk.1 (lt_63 kk.2.1) (toNat_lt kk.1 (by rw [List.size_toArray, ← o.2.length]; exact q.2.1)) fun h' g hs => ?_) fun kk => kk.elim fun es q => (R.obj _ _ q.1).elim fun kvs o => wpAny_setItem_pairs (intKey k _) o.1 (fun h' g hs => ?_) (pairs_ok o.2 q.2.1)
  · have tk := TupKeep.ofSame hs o.1 listNotTup
    exact hq _ _ ⟨tk, rfl, rfl⟩ (R.upd (o' := .list (xs.set k.toNat v)) q.1 hs tk ⟨vs.set k.toNat v', n, g.trans (by rw [List.setIfInBounds_toArray]), (o.2.set _ rv).later tk⟩ rfl rfl) q.2.2
  · obtain ⟨ob, ents, ep, ho, hex, hd, _⟩ := id o.1
    have tk := TupKeep.ofSame hs ho (not_tup_dict hd)
    exact hq _ _ ⟨tk, rfl, rfl⟩ (R.upd (o' := .dict (putD es k v)) q.1 hs tk ⟨_, g, (o.2.put k rv).later tk⟩ rfl rfl) q.2.2
theorem op_len (R : RH x F h s.heap) (ra : VR x s.heap a a') (kk : lenW a K h) : wpAny (MD x.w) A (call (.builtin "len") [a']) (QE x F s K) E s := by
  unfold lenW at kk
  have fin : ∀ {xs : List V} {vs : List Value}, VRs x s.heap xs vs → K (.int xs.length) h → QE x F s K (.int (vs.toArray.size : Nat) (s.toks + 1)) { s with toks := s.toks + 1 + 1 } := fun r kk => QE.tok _ R (.int _ _) (by rw [List.size_toArray, ← r.length]; exact kk)
  cases ra with
  | ref l => exact kk.elim fun xs q => (R.obj _ _ q.1).elim fun vs o => o.elim fun n o => PyProof.Rows.len_list ⟨_, o.1, rfl, _, rfl⟩ (size_63 o.2 q.2.1) (fin o.2 q.2.2)
  | tup t r => exact PyProof.Rows.len_tuple t (size_63 r kk.1) (fin r kk.2)
  | _ => exact kk.elim
theorem op_append {v : V} {v' : Value} (R : RH x F h s.heap) (ra : VR x s.heap a a') (rv : VR x s.heap v v') (kk : appendW a v K h) : wpAny (MD x.w) A (call (.builtin "list.append") [a', v']) (QE x F s K) E s := by
  unfold appendW at kk
  obtain ⟨l, xs, rfl, e, hl, kk⟩ := kk
  cases ra
  obtain ⟨vs, n, p, r⟩ := R.obj _ _ e
  have hlen := r.length
  refine append_at p (fun h' hs g => ?_) (by rw [List.size_toArray, sizeLine_eq]; (first | lia | omega))
  have tk := TupKeep.ofSame hs p listNotTup
  refine ⟨.none, _, ⟨tk, rfl, rfl⟩, .none, R.upd e hs tk ?_ rfl rfl, kk⟩
  exact ⟨vs ++ [v'], n + 1, by simpa using g, (r.snoc rv).later tk⟩
theorem op_pop (R : RH x F h s.heap) (ra : VR x s.heap a a') (kk : popW a K h) : wpAny (MD x.w) A (call (.builtin "list.pop") [a']) (QE x F s K) E s := by
  unfold popW at kk
  obtain ⟨l, xs, v, rfl, e, hz, kk⟩ := kk
  cases ra
  obtain ⟨vs, n, p, r⟩ := R.obj _ _ e
  obtain ⟨vs, v', rfl, r, rv⟩ := r.unsnoc
  have hlen := r.length
  have g : (s.heap.update l (Obj.mapSeq fun xs => xs.eraseIdxIfInBounds ((vs ++ [v']).toArray.size - 1))).get? l = some (listOf vs.toArray (n + 1)) := by
    rw [Heap.get?_update_self _ p rfl]
    have e1 : (vs ++ [v']).toArray.eraseIdxIfInBounds ((vs ++ [v']).toArray.size - 1) = vs.toArray := by
      rw [List.size_toArray]
      simp [List.eraseIdx_append_of_length_le]
    unfold Obj.mapSeq
    dsimp only
    rw [e1, if_neg (by simp)]
  have hs := Heap.SameBut.update s.heap l (Obj.mapSeq fun xs => xs.eraseIdxIfInBounds ((vs ++ [v']).toArray.size - 1))
  have tk := TupKeep.ofSame hs p listNotTup
  refine call_meets PySem.F.slot_list_pop ⟨_, p, rfl⟩ PySem.F.entry_list_pop (PySem.F.args_list_pop_1 _) (MeetsSeq.list_pop_last l _ n v' (by simp) (by rw [List.size_toArray, sizeLine_eq]; simp; (first | lia | omega))) ⟨p, ?_⟩
  refine ⟨v, _, ⟨tk, rfl, rfl⟩, rv.later tk, R.upd e hs tk ?_ rfl rfl, kk⟩
  exact ⟨vs, n + 1, g, r.later tk⟩
theorem getD_rel {hp : Heap} {es : List (Int × V)} {kvs : List (Int × Value)} (r : VRd x hp es kvs) (i : Int) {d : V} {d' : Value} (rd : VR x hp d d') : VR x hp ((es.lookup i).getD d) ((valueAt kvs i).getD d') := by
  have := dict_map r i
  cases q : es.lookup i with
  | none => rw [q] at this; rw [this]; exact rd
  | some v => rw [q] at this; obtain ⟨v', h1, h2⟩ := this; rw [h1]; exact h2
theorem op_get2 {k d : V} {k' d' : Value} (hx : XOk x) (R : RH x F h s.heap) (ra : VR x s.heap a a') (rk : VR x s.heap k k') (rd : VR x s.heap d d') (kk : getW a k d K h) : wpAny (MD x.w) A (call (.builtin "dict.get") [a', k', d']) (QE x F s K) E s := by
  unfold getW at kk
  obtain ⟨l, es, i, rfl, rfl, e, kk⟩ := kk
  cases ra
  cases rk
  obtain ⟨kvs, m, r⟩ := R.obj _ _ e
  refine call_meetsIn PySem.F.slot_dict_get m.mapOf.typeIs PySem.F.entry_dict_get (PySem.F.args_dict_get_3 _ _ _) (meets_dict_get_default (intKind p0 x.w) l (intKey i _) (low_facts hx.sys R e) d') ⟨_, m.mapOf, ?_⟩
  exact QE.tok _ R (getD_rel r i rd) kk
theorem op_get1 {k : V} {k' : Value} (hx : XOk x) (R : RH x F h s.heap) (ra : VR x s.heap a a') (rk : VR x s.heap k k') (kk : getW a k .none K h) : wpAny (MD x.w) A (call (.builtin "dict.get") [a', k']) (QE x F s K) E s := by
  unfold getW at kk
  obtain ⟨l, es, i, rfl, rfl, e, kk⟩ := kk
  cases ra
  cases rk
  obtain ⟨kvs, m, r⟩ := R.obj _ _ e
  refine call_meetsIn PySem.F.slot_dict_get m.mapOf.typeIs PySem.F.entry_dict_get (PySem.F.args_dict_get_2 _ _) (meets_dict_get (intKind p0 x.w) l (intKey i _) (low_facts hx.sys R e)) ⟨_, m.mapOf, ?_⟩
  exact QE.tok _ R (getD_rel r i .none) kk
theorem op_tuple (R : RH x F h s.heap) (ra : VR x s.heap a a') (kk : tupOfW a K h) : wpAny (MD x.w) A (call (.type "tuple") [a']) (QE x F s K) E s := by
  unfold tupOfW at kk
  obtain ⟨l, xs, rfl, e, hl, kk⟩ := kk
  cases ra
  obtain ⟨vs, n, p, r⟩ := R.obj _ _ e
  have hlen := r.length
  refine call_tuple_list ⟨_, p, rfl, _, rfl⟩ (fun h' hk => ?_) (by rw [List.size_toArray, sizeLine_eq]; (first | lia | omega))
  have k1 : Keeps s.heap h' := hk
  refine ⟨.tup xs, h, ⟨(k1.trans (Keeps.push _ _)).tup, rfl, rfl⟩, .tup (IsTup.new h' _) (r.later (k1.trans (Keeps.push _ _)).tup), R.keep (k1.trans (Keeps.push _ _)), kk⟩
end
end
section
open PySem PySem.W PyProof.Rows
section
variable {x : X} {F : FM} {h : H} {s s' : Shared} {K : KE} {A : Around} {a b : V} {a' b' : Value} {E : Value → Shared → Prop}
theorem QE.kept {v : V} {v' : Value} {hp' : Heap} {t : Nat} (k : Keeps s.heap hp') (R : RH x F h s.heap) (r : VR x hp' v v') (q : K v h) : QE x F s K v' { s with heap := hp', toks := t } :=
  ⟨v, h, ⟨k.tup, rfl, rfl⟩, r, R.keep k, q⟩
theorem op_newTuple {M : Model} {xs : List V} {vs : List Value} (R : RH x F h s.heap) (r : VRs x s.heap xs vs) (hz : vs.length ≤ sizeLine) (k : K (.tup xs) h) : wpAny M A (newTuple vs) (QE x F s K) E s := by
  have kp := Keeps.push s.heap { cls := .type "tuple", data := .seq vs.toArray }
  refine wpAny_newObj_type (QE.kept (t := s.toks) kp R (.tup (IsTup.new _ _) (r.later kp.tup)) k) ?_
  show vs.toArray.size ≤ sizeLine
  simpa using hz
theorem op_newDict {M : Model} (R : RH x F h s.heap) (k : newW (.dict []) K h) : wpAny M A newDict (QE x F s K) E s := by
  unfold newW at k
  have kp := Keeps.push s.heap { cls := .type "dict", data := .dict #[] }
  refine wpAny_newObj_type ?_ (by show (0:Nat) ≤ _; (first | lia | omega))
  refine ⟨.ref s.heap.objs.size, hset h s.heap.objs.size (.dict []), ⟨kp.tup, rfl, rfl⟩, .ref _, R.new ?_ rfl, k _ R.fresh⟩
  exact ⟨[], Heap.DictOf.new s.heap, rfl, .nil⟩
theorem op_max (hA : A.handled = none) (R : RH x F h s.heap) (ra : VR x s.heap a a') (rb : VR x s.heap b b') (kk : ∃ i j, a = .int i ∧ b = .int j ∧ K (.int (if j > i then j else i)) h) :
    wpAny (MD x.w) A (call (.builtin "max") [a', b']) (QE x F s K) E s := by
  obtain ⟨i, j, rfl, rfl, kk⟩ := kk
  cases ra; cases rb
  refine max_two_ints hA fun h' tk hk => ?_
  by_cases c : j > i
  · rw [if_pos c] at kk; simp only [if_pos c]; exact QE.kept hk R (.int _ _) kk
  · rw [if_neg c] at kk; simp only [if_neg c]; exact QE.kept hk R (.int _ _) kk
theorem op_min (hA : A.handled = none) (R : RH x F h s.heap) (ra : VR x s.heap a a') (rb : VR x s.heap b b') (kk : ∃ i j, a = .int i ∧ b = .int j ∧ K (.int (if j < i then j else i)) h) :
    wpAny (MD x.w) A (call (.builtin "min") [a', b']) (QE x F s K) E s := by
  obtain ⟨i, j, rfl, rfl, kk⟩ := kk
  cases ra; cases rb
  refine min_two_ints hA fun h' tk hk => ?_
  by_cases c : j < i
  · rw [if_pos c] at kk; simp only [if_pos c]; exact QE.kept hk R (.int _ _) kk
  · rw [if_neg c] at kk; simp only [if_neg c]; exact QE.kept hk R (.int _ _) kk
theorem preSum_take (xs : List Int) : ∀ n, n ≤ xs.length → preSum (fun i => xs.getD i 0) n = (xs.take n).sum := by
  intro n
  induction n with
  | zero => intro _; simp [preSum]
  | succ n ih =>
    intro hn
    show preSum _ n + _ = _
    rw [ih (by (first | lia | omega)), List.take_add_one, List.sum_append]
    have : xs[n]? = some xs[n] := List.getElem?_eq_getElem (by (first | lia | omega))
    simp [List.getD, this]
theorem sum_bounds : ∀ xs : List Int, (∀ i ∈ xs, 0 ≤ i ∧ i < 1000000) → 0 ≤ xs.sum ∧ xs.sum ≤ 1000000 * xs.length := by
  intro xs
  induction xs with
  | nil => intro _; simp
  | cons y r ih =>
    intro hh
    have h1 := hh y (by simp)
    have h2 := ih fun i hi => hh i (List.mem_cons_of_mem _ hi)
    simp only [List.sum_cons, List.length_cons]
    (first | lia | omega)
theorem IntsAre.at {vs : List Value} {ns : List Int} (hi : IntsAre vs ns) {i : Nat} {v : Value} (e : vs[i]? = some v) : ∃ t, v = .int (ns.getD i 0) t := by
  induction hi generalizing i with
  | nil => simp at e
  | cons n t _ ih =>
    induction i using Nat.casesOn with
    | zero => simp at e; subst e; exact ⟨t, by simp⟩
    | succ i => simp at e; obtain ⟨t, rfl⟩ := ih e; exact ⟨t, by simp⟩
theorem op_sum (hA : A.handled = none) (R : RH x F h s.heap) (ra : VR x s.heap a a') (kk : sumW a K h) : wpAny (MD x.w) A (call (.builtin "sum") [a']) (QE x F s K) E s := by
  unfold sumW at kk
  obtain ⟨l, xs, rfl, e, hz, hb, kk⟩ := kk
  cases ra
  obtain ⟨vs, n, p, r⟩ := R.obj _ _ e
  have hi := r.toInts
  have hlen : vs.length = xs.length := by have := r.length; simp [vints] at this; (first | lia | omega)
  refine call_sum_walk (wpAny_pyIter_list ⟨_, p, rfl, _, rfl⟩ ?_)
  have hl : l < s.heap.objs.size := Heap.lt_size p
  have hne : l ≠ s.heap.objs.size := Nat.ne_of_lt hl
  refine ⟨s.heap.objs.size, _, _, _, _, _, fun i => xs.getD i 0, rfl, Walks.list (prog := p0) (w := x.w) (A := A.in1) hA s.heap.objs.size l hne vs.toArray, ⟨⟨_, Heap.get?_push_size _ rfl, rfl, rfl⟩, ⟨_, Heap.get?_push_of_some _ p, rfl, _, rfl⟩⟩, ?_, ?_, ?_, ?_⟩
  · intro b hb
    show b < (s.heap.push _).objs.size
    rw [Heap.size_push]
    rcases List.mem_cons.mp hb with e | hb
    · rw [e]; exact Nat.lt_succ_self _
    · rw [List.mem_singleton.mp hb]; exact Nat.lt_succ_of_lt hl
  · intro i v q
    exact IntsAre.at hi (by simpa using q)
  · intro j hj
    rw [List.size_toArray, hlen] at hj
    have hm : ∀ i, i < xs.length → 0 ≤ xs.getD i 0 ∧ xs.getD i 0 < 1000000 := fun i hi => by
      have : xs[i]? = some xs[i] := List.getElem?_eq_getElem hi
      simp only [List.getD, this, Option.getD_some]
      exact hb _ (List.getElem_mem hi)
    have h1 := hm j hj
    have h2 := sum_bounds (xs.take (j + 1)) fun i hi => hb i (List.mem_of_mem_take hi)
    rw [← preSum_take xs (j + 1) (by (first | lia | omega))] at h2
    have h3 : (xs.take (j + 1)).length ≤ 1000 := by rw [List.length_take]; (first | lia | omega)
    constructor
    · constructor <;> (simp only []; (first | lia | omega))
    · constructor <;> (first | lia | omega)
  · intro h' tk t' hk
    have k1 : Keeps s.heap h' := fun b o q => hk b o (fun hm => by rw [List.mem_singleton.mp hm] at q; exact absurd (Heap.lt_size q) (Nat.lt_irrefl _)) (Heap.get?_push_of_some _ q)
    rw [List.size_toArray, hlen, preSum_take xs _ (Nat.le_refl _), List.take_length]
    exact QE.kept k1 R (.int _ _) kk

theorem insSort_perm (y : Int) (xs : List Int) : (insSort y xs).Perm (y :: xs) := by
  induction xs with
  | nil => exact .refl _
  | cons z r ih =>
    simp only [insSort]
    split
    · exact .refl _
    · exact (List.Perm.cons z ih).trans (List.Perm.swap y z r)
theorem isort_perm : ∀ xs : List Int, (isort xs).Perm xs
  | [] => .refl _
  | y :: r => (insSort_perm y (isort r)).trans (List.Perm.cons y (isort_perm r))
theorem insSort_sorted (y : Int) (xs : List Int) (hs : xs.Pairwise (· ≤ ·)) : (insSort y xs).Pairwise (· ≤ ·) := by
  induction xs with
  | nil => simp [insSort]
  | cons z r ih =>
    obtain ⟨h1, h2⟩ := List.pairwise_cons.mp hs
    simp only [insSort]
    split
    · rename_i hle
      refine List.pairwise_cons.mpr ⟨fun u hu => ?_, hs⟩
      rcases List.mem_cons.mp hu with rfl | hu
      · exact hle
      · exact Int.le_trans hle (h1 u hu)
    · rename_i hle
      refine List.pairwise_cons.mpr ⟨fun u hu => ?_, ih h2⟩
      rcases List.mem_cons.mp ((insSort_perm y r).mem_iff.mp hu) with rfl | hu
      · (first | lia | omega)
      · exact h1 u hu
theorem isort_sorted : ∀ xs : List Int, (isort xs).Pairwise (· ≤ ·)
  | [] => by simp [isort]
  | y :: r => insSort_sorted y _ (isort_sorted r)
theorem sorted_unique {xs ys : List Int} (hp : xs.Perm ys) (h1 : xs.Pairwise (· ≤ ·)) (h2 : ys.Pairwise (· ≤ ·)) : xs = ys :=
  List.Perm.eq_of_pairwise (fun a b _ _ h1 h2 => Int.le_antisymm h1 h2) h1 h2 hp
theorem isort_of {ns ns' : List Int} (hp : ns'.Perm ns) (hs : ns'.Pairwise (· ≤ ·)) : ns' = isort ns :=
  sorted_unique (hp.trans (isort_perm ns).symm) hs (isort_sorted ns)
theorem QE.sorted {hp1 hp2 : Heap} {D : Addr} {out : Array Value} {ns : List Int} {n : Nat} {t : Nat} (R : RH x F h s.heap) (k1 : Keeps s.heap hp1) (hD : D = hp1.objs.size) (k2 : ∀ b o, (hp1.push (listOf out n)).get? b = some o → hp2.get? b = some o)
    (r : IntsAre out.toList ns) (k : newW (.list (vints ns)) K h) : QE x F s K (.ref D) { s with heap := hp2, toks := t } := by
  unfold newW at k
  subst hD
  have kp := Keeps.push hp1 (listOf out n)
  have R1 := R.keep k1
  refine ⟨.ref hp1.objs.size, hset h hp1.objs.size (.list (vints ns)), ⟨((k1.trans kp).trans k2).tup, rfl, rfl⟩, .ref _, ?_, k _ R1.fresh⟩
  refine RH.keep k2 (R1.new ⟨out.toList, n, ?_, VRs.ofInts r⟩ rfl)
  rw [Array.toArray_toList]
  exact Heap.get?_push_size _ rfl
theorem op_sort_list {E : Value → Shared → Prop} {hp1 : Heap} {t : Nat} {vs : List Value} {ns : List Int} (R : RH x F h s.heap) (k1 : Keeps s.heap hp1) (hi : IntsAre vs ns) (h64 : vs.length < 64) (k : newW (.list (vints (isort ns))) K h) :
    wpAny (MD x.w) A (call (.builtin "list.sort") [.ref hp1.objs.size]) (fun _ s' => QE x F s K (.ref hp1.objs.size) s') E { s with heap := hp1.push (seqObj "list" vs.toArray 0), toks := t } := by
  have ho : (hp1.push (seqObj "list" vs.toArray 0)).get? hp1.objs.size = some (seqObj "list" vs.toArray 0) := Heap.get?_push_size _ rfl
  refine wpAny_call_entry slot_list_sort ⟨_, ho, rfl⟩ entry_list_sort (list_sort_tree ho hi h64 fun out ns' a1 a2 a3 => ⟨_, rfl, ?_⟩) (args_list_sort _)
  obtain ⟨e, he⟩ := sortedHeap_at (out := out) ho
  have hns := isort_of a2 a3
  subst hns
  refine QE.sorted (n := e) R k1 rfl (fun b o q => ?_) a1 k
  by_cases hb : b = hp1.objs.size
  · subst hb
    rw [Heap.get?_push_size _ rfl] at q
    cases q; exact he
  · have hlt : b < hp1.objs.size + 1 := by have := Heap.lt_size q; rwa [Heap.size_push] at this
    rw [sortedHeap_old hb (by rw [Heap.size_push]; exact hlt)]
    rw [Heap.get?_push_ne _ _ _ (by (first | lia | omega))] at q ⊢
    exact q
theorem keys_ints : ∀ {vs : List Value} {kvs : List (Int × Value)}, vs.length = kvs.length → (∀ (i : Nat) (v : Value), vs[i]? = some v → ∃ (k : Int) (t : Tok) (y : Value), kvs[i]? = some (k, y) ∧ v = Value.int k t) → IntsAre vs (kvs.map (·.1))
  | [], [], _, _ => .nil
  | [], _ :: _, h, _ => by simp at h
  | _ :: _, [], h, _ => by simp at h
  | v :: vs, (k, y) :: kvs, h, q => by
    obtain ⟨k', t, y', h1, rfl⟩ := q 0 v (by simp)
    simp at h1
    obtain ⟨rfl, rfl⟩ := h1
    exact .cons _ _ (keys_ints (by simpa using h) fun i v hv => by simpa using q (i + 1) v (by simpa using hv))
theorem op_sorted (hx : XOk x) (hA : A.handled = none) (R : RH x F h s.heap) (ra : VR x s.heap a a') (kk : sortedW a K h) : wpAny (MD x.w) A (call (.builtin "sorted") [a']) (QE x F s K) E s := by
  unfold sortedW at kk
  obtain ⟨l, rfl, kk⟩ := kk
  cases ra
  refine Calls.call_function_entry kind_sorted plain_sorted entry_sorted (args_sorted1 _) ?_
  unfold Builtin.«sorted»
  refine wpAny_bind (m := checkCount "sorted" 1 1 _) (wpAny_pure ?_)
  rcases kk with ⟨ns, e, hz, kk⟩ | ⟨es, e, hz, kk⟩
  · obtain ⟨vs, n, p, r⟩ := R.obj _ _ e
    have hlen : vs.length = ns.length := by have := r.length; simp [vints] at this; (first | lia | omega)
    refine wpAny_bind (collect_list ⟨_, p, rfl, _, rfl⟩ ?_ (by rw [sizeLine_eq]; (first | lia | omega)))
    have k1 : Keeps s.heap ((s.heap.push (seqObj "list" #[] 0)).update s.heap.objs.size (Obj.mapSeq (· ++ vs.toArray))) := fun b o q => by
      have := Heap.lt_size q
      rw [Heap.get?_update_ne _ _ _ _ (Nat.ne_of_lt this)]
      exact Heap.get?_push_of_some _ q
    refine wpAny_bind (wpAny_newList ?_ (by rw [sizeLine_eq]; (first | lia | omega)))
    refine wpAny_bind (wpAny_holding (wpAny_mono (op_sort_list (s := s) (t := s.toks) R k1 r.toInts (by (first | lia | omega)) kk) (fun _ s' q => ?_) fun _ _ y => y))
    exact wpAny_pure ⟨_, rfl, q⟩
  · obtain ⟨kvs, m, r⟩ := R.obj _ _ e
    obtain ⟨ep, hat⟩ := m.dictAt
    have hlen : es.length = kvs.length := by have := congrArg List.length r.1; simpa using this
    refine wpAny_bind (kdu_collect (A := A.in1) (kdl_dict (knd := intKind p0 x.w) (kvs := kvs) (ep := ep) (low_facts hx.sys R e)) hA hat (by rw [sizeLine_eq]; (first | lia | omega)) fun h' tk acc hk hacc => ?_)
    have hl : acc.toList.length = kvs.length := by rw [Array.length_toList]; exact hacc.1
    have hi : IntsAre acc.toList (es.map (·.1)) := by
      rw [r.1]
      exact keys_ints hl fun i v q => by
        obtain ⟨k, y, hy, hk⟩ := hacc.2 i v (by rw [← Array.getElem?_toList]; exact q)
        obtain ⟨t, rfl⟩ := Value.isInt_shape hk
        exact ⟨k, t, y, hy, rfl⟩
    refine wpAny_bind (wpAny_newList ?_ (by rw [sizeLine_eq]; (first | lia | omega)))
    refine wpAny_bind (wpAny_holding (wpAny_mono (op_sort_list (s := s) (t := tk) R hk hi (by (first | lia | omega)) kk) (fun _ s' q => ?_) fun _ _ y => y))
    exact wpAny_pure ⟨_, rfl, q⟩
end
end
section
open PySem PySem.W PyProof.Rows
structure GOk (x : X) : Prop where
  ex : ∃ mg mb, x.h0.Ns mainGlobals mg ∧ x.h0.Ns builtinsNs mb ∧
    (∀ n v, gcons.lookup n = some v → ∃ v', mg n = some v' ∧ VR x x.h0 v v') ∧
    (∀ n i, fplace n = some i → mg n = some (.ref (x.faddr i))) ∧
    (∀ n i, place cnames n = some i → mg n = some (.ref (x.caddr i))) ∧
    (∀ n ∈ ["len", "sum", "sorted", "max", "min"], mg (Str.ofString n) = none ∧ mb (Str.ofString n) = some (.builtin n)) ∧
    (∀ n ∈ ["tuple", "range"], mg (Str.ofString n) = none ∧ mb (Str.ofString n) = some (.type n))
structure EnvOk (sc : Scope) (env : Env) : Prop where
  kind : env.scope.kind = .function
  loc : ∀ y, sc.names.lookup y = some .local → env.kindOf y = some .local
  cel : ∀ y, sc.names.lookup y = some .cell → env.kindOf y = some .cell
  fre : ∀ y, sc.names.lookup y = some .free → env.kindOf y = some .cell ∨ env.kindOf y = some .free
  glb : ∀ y, sc.names.lookup y = some .globalImplicit → env.kindOf y = some .globalImplicit
  globals : env.globals = mainGlobals
  builtins : env.builtins = builtinsNs
structure FrameIn (x : X) (env : Env) (m : M) (F : FM) (hp : Heap) : Prop where
  loc : ∃ mm o, F env.locals = some o ∧ hp.Ns env.locals mm ∧ ∀ y i, nid y = some i → env.kindOf y = some .local → ∀ v, m i = some v → ∃ v', mm y = some v' ∧ VR x hp v v'
  cel : ∀ y i, nid y = some i → (env.kindOf y = some .cell ∨ env.kindOf y = some .free) → ∃ c o, env.cells.lookup y = some c ∧ F c = some o ∧ ∃ ov, hp.IsCell c ov ∧ ∀ v, m i = some v → ∃ v', ov = some v' ∧ VR x hp v v'
section
variable {x : X} {F : FM} {h h' : H} {s s' : Shared} {K : KE} {A : Around} {a b : V} {a' b' : Value} {E : Value → Shared → Prop} {env : Env} {sc : Scope} {m : M} {hp hp' : Heap}
theorem same_at {o : Obj} {l : Addr} (R : RH x F h hp) (R' : RH x F h' hp') (e : F l = some o) : hp'.get? l = hp.get? l := (R'.frz _ _ e).trans (R.frz _ _ e).symm
theorem FrameIn.later (f : FrameIn x env m F hp) (R : RH x F h hp) (R' : RH x F h' hp') (k : TupKeep hp hp') : FrameIn x env m F hp' where
  loc := by
    obtain ⟨mm, o, e, ⟨o2, es, ep, h1, h2⟩, q⟩ := f.loc
    refine ⟨mm, o, e, ⟨o2, es, ep, (same_at R R' e).trans h1, h2⟩, fun y i a b v c => ?_⟩
    obtain ⟨v', p1, p2⟩ := q y i a b v c
    exact ⟨v', p1, p2.later k⟩
  cel y i a b := by
    obtain ⟨c, o, p1, e, ov, ⟨o2, h1, h2⟩, q⟩ := f.cel y i a b
    refine ⟨c, o, p1, e, ov, ⟨o2, (same_at R R' e).trans h1, h2⟩, fun v z => ?_⟩
    obtain ⟨v', q1, q2⟩ := q v z
    exact ⟨v', q1, q2.later k⟩
theorem own_kind (ek : EnvOk sc env) {y : Str} {i : Nat} (e : own sc y = some i) : nid y = some i ∧ (env.kindOf y = some .local ∨ env.kindOf y = some .cell ∨ env.kindOf y = some .free) := by
  unfold own at e
  cases q : sc.names.lookup y with
  | none => rw [q] at e; cases e
  | some k =>
    rw [q] at e
    cases k <;> first | (cases e; done) | skip
    · exact ⟨e, .inl (ek.loc y q)⟩
    · exact ⟨e, .inr (.inl (ek.cel y q))⟩
    · exact ⟨e, .inr (ek.fre y q)⟩
theorem op_loadOwn {M : Model} (ek : EnvOk sc env) (f : FrameIn x env m F s.heap) {y : Str} {i : Nat} {v : V} {Q : Value → Shared → Prop} (e : own sc y = some i) (hd : (y == ("__classdict__" : Str)) = false) (hv : m i = some v) (q : ∀ v', VR x s.heap v v' → Q v' s) :
    wpAny M A (loadName env y) Q E s := by
  obtain ⟨hn, hk⟩ := own_kind ek e
  rcases hk with hk | hk | hk
  · obtain ⟨mm, o, e1, ns, g⟩ := f.loc
    obtain ⟨v', h1, h2⟩ := g y i hn hk v hv
    exact wpAny_loadName_local ek.kind hk ns h1 (q v' h2)
  · obtain ⟨c, o, p1, e1, ov, hc, g⟩ := f.cel y i hn (.inl hk)
    obtain ⟨v', h1, h2⟩ := g v hv
    subst h1
    exact wpAny_loadName_cell ek.kind hk p1 hc (q v' h2)
  · obtain ⟨c, o, p1, e1, ov, hc, g⟩ := f.cel y i hn (.inr hk)
    obtain ⟨v', h1, h2⟩ := g v hv
    subst h1
    exact wpAny_loadName_free ek.kind hk p1 hc (q v' h2) hd
theorem nid_classdict : nid ("__classdict__" : Str) = none := by decide +kernel
theorem own_cd {y : Str} {i : Nat} (e : own sc y = some i) : (y == ("__classdict__" : Str)) = false := by
  cases q : y == ("__classdict__" : Str) with
  | false => rfl
  | true =>
    rw [beq_iff_eq.mp q] at e
    have : nid ("__classdict__" : Str) = some i := by
      unfold own at e
      split at e <;> first | exact e | cases e
    rw [nid_classdict] at this; cases this
theorem RH.ns {mm : Str → Option Value} {l : Addr} (R : RH x F h hp) (n : x.h0.Ns l mm) : hp.Ns l mm := n.keeps fun b o e => R.frz _ _ (R.base _ _ e)
theorem op_loadGlobal {M : Model} (ek : EnvOk sc env) (R : RH x F h s.heap) {y : Str} {mg : Str → Option Value} {v : Value} {Q : Value → Shared → Prop} (ng : x.h0.Ns mainGlobals mg) (e : glb sc y = true) (hv : mg y = some v) (q : Q v s) :
    wpAny M A (loadName env y) Q E s := by
  have hk := ek.glb y (beq_iff_eq.mp e)
  unfold loadName
  simp only [Env.blockKind, ek.kind, hk, ScopeKind.isAnnotationScope, Bool.false_and, Bool.false_eq_true, if_false]
  unfold loadGlobal
  rw [ek.globals]
  refine wpAny_bind (wpAny_nsGet (R.ns ng) ?_)
  rw [hv]
  exact wpAny_pure q
theorem op_loadBuiltin {M : Model} (ek : EnvOk sc env) (R : RH x F h s.heap) {y : Str} {mg mb : Str → Option Value} {v : Value} {Q : Value → Shared → Prop} (ng : x.h0.Ns mainGlobals mg) (nb : x.h0.Ns builtinsNs mb) (e : glb sc y = true) (hv : mg y = none) (hb : mb y = some v) (q : Q v s) :
    wpAny M A (loadName env y) Q E s := by
  have hk := ek.glb y (beq_iff_eq.mp e)
  unfold loadName
  simp only [Env.blockKind, ek.kind, hk, ScopeKind.isAnnotationScope, Bool.false_and, Bool.false_eq_true, if_false]
  unfold loadGlobal
  rw [ek.globals, ek.builtins]
  refine wpAny_bind (wpAny_nsGet (R.ns ng) ?_)
  rw [hv]
  refine wpAny_bind (wpAny_nsGet (R.ns nb) ?_)
  rw [hb]
  exact wpAny_pure q
end
end
section
open PySem PySem.W PyProof.Rows
noncomputable def CallOk (x : X) (n : Nat) (C : Nat → List V → KE → H → Prop) : Prop :=
  ∀ (A : Around) (F : FM) (h : H) (s : Shared) (f : Nat) (args : List V) (args' : List Value) (K : KE), OkA n A → RH x F h s.heap → VRs x s.heap args args' → C f args K h →
    codeAny (MD x.w) A (.call (.ref (x.faddr f)) ⟨args', []⟩) (fun r s' => ∃ v', r = .ok (.ret v') ∧ QE x F s K v' s') s
noncomputable def QEs (x : X) (F : FM) (s : Shared) (K : KEs) (vs' : List Value) (s' : Shared) : Prop := ∃ vs h', Later s s' ∧ VRs x s'.heap vs vs' ∧ RH x F h' s'.heap ∧ K vs h'
noncomputable def QB (x : X) (F : FM) (s : Shared) (K : Bool → H → Prop) (b : Bool) (s' : Shared) : Prop := ∃ h', Later s s' ∧ RH x F h' s'.heap ∧ K b h'
noncomputable def SE (x : X) (n : Nat) (g : G) (sc : Scope) (e : Expr) (ie : IE) : Prop :=
  ∀ (A : Around) (env : Env) (F : FM) (m : M) (h : H) (s : Shared) (K : KE), OkA (n + 1) A → EnvOk sc env → FrameIn x env m F s.heap → RH x F h s.heap → wE g ie m K h →
    wpAny (MD x.w) A (eval e env) (QE x F s K) NoE s
noncomputable def ST (x : X) (n : Nat) (g : G) (sc : Scope) (e : Expr) (ie : IE) : Prop :=
  ∀ (A : Around) (env : Env) (F : FM) (m : M) (h : H) (s : Shared) (K : Bool → H → Prop), OkA (n + 1) A → EnvOk sc env → FrameIn x env m F s.heap → RH x F h s.heap →
    wE g ie m (fun v h => truthW v fun t => K t h) h → wpAny (MD x.w) A (isTrue e env (eval e env)) (QB x F s K) NoE s
section
variable {x : X} {n : Nat} {g : G} {F : FM} {h : H} {s s1 s' : Shared} {K : KE} {A : Around} {E : Value → Shared → Prop} {env : Env} {sc : Scope} {m : M}
theorem QB.later {Kb : Bool → H → Prop} {b : Bool} (l : Later s s1) (q : QB x F s1 Kb b s') : QB x F s Kb b s' := let ⟨h', a, c⟩ := q; ⟨h', l.trans a, c⟩
theorem QE.bind {M : Model} {c : Sem Value} {Q : Value → Shared → Prop} (p : wpAny M A c (QE x F s K) E s) (k : ∀ v' s1 v h1, Later s s1 → VR x s1.heap v v' → RH x F h1 s1.heap → K v h1 → Q v' s1) : wpAny M A c Q E s :=
  wpAny_mono p (fun v' s1 q => q.elim fun v q => q.elim fun h1 q => k v' s1 v h1 q.1 q.2.1 q.2.2.1 q.2.2.2) fun _ _ y => y
theorem QE.truth {M : Model} {c : Sem Value} {Q : Value → Shared → Prop} {Kb : Bool → H → Prop} (p : wpAny M A c (QE x F s fun v h => truthW v fun t => Kb t h) E s) (k : ∀ t s1 h1, Later s s1 → RH x F h1 s1.heap → Kb t h1 → Q (.bool t) s1) : wpAny M A c Q E s :=
  QE.bind p fun v' s1 v h1 l r R w => by
    cases r with
    | bool t => exact k t s1 h1 l R w
    | _ => exact w.elim
theorem QE.goes {M : Model} {c : Sem Value} (l : Later s s1) (p : wpAny M A c (QE x F s1 K) E s1) : wpAny M A c (QE x F s K) E s1 := wpAny_mono p (fun _ _ q => q.later l) fun _ _ y => y
theorem QEs.bind {M : Model} {c : Sem (List Value)} {Ks : KEs} {Q : List Value → Shared → Prop} {nn : Nat} (p : wpAny M A c (fun vs' s' => vs'.length = nn ∧ QEs x F s Ks vs' s') E s) (k : ∀ vs' s1 vs h1, vs'.length = nn → Later s s1 → VRs x s1.heap vs vs' → RH x F h1 s1.heap → Ks vs h1 → Q vs' s1) : wpAny M A c Q E s :=
  wpAny_mono p (fun v' s1 q => q.2.elim fun v p => p.elim fun h1 p => k v' s1 v h1 q.1 p.1 p.2.1 p.2.2.1 p.2.2.2) fun _ _ y => y
theorem QB.bind {M : Model} {c : Sem Bool} {Kb : Bool → H → Prop} {Q : Bool → Shared → Prop} (p : wpAny M A c (QB x F s Kb) E s) (k : ∀ t s1 h1, Later s s1 → RH x F h1 s1.heap → Kb t h1 → Q t s1) : wpAny M A c Q E s :=
  wpAny_mono p (fun t s1 q => q.elim fun h1 q => k t s1 h1 q.1 q.2.1 q.2.2) fun _ _ y => y
theorem QB.goes {M : Model} {c : Sem Bool} {Kb : Bool → H → Prop} (l : Later s s1) (p : wpAny M A c (QB x F s1 Kb) E s1) : wpAny M A c (QB x F s Kb) E s1 := wpAny_mono p (fun _ _ q => q.later l) fun _ _ y => y
theorem OkA.zero (h : OkA n A) : OkA 0 A := h.le (Nat.zero_le _)
theorem call_of {n : Nat} {C : Nat → List V → KE → H → Prop} (c : CallOk x n C) {f : Nat} {args : List V} {args' : List Value} (hA : OkA n A) (R : RH x F h s.heap) (r : VRs x s.heap args args') (k : C f args K h) :
    wpAny (MD x.w) A (call (.ref (x.faddr f)) args') (QE x F s K) E s :=
  wpAny_call (codeAny_mono (c A F h s f args args' K hA R r k) fun r s' ⟨v', e, q⟩ => by subst e; exact q)
theorem new_of {C : Nat → List V → KE → H → Prop} (hx : XOk x) (c : CallOk x n C) {cl : Nat} {args : List V} {args' : List Value} (hA : OkA (n + 1) A) (R : RH x F h s.heap) (r : VRs x s.heap args args')
    (k : ∀ l, h l = Option.none → C (initOf cl) (.ref l :: args) (fun r h' => r = .none ∧ K (.ref l) h') (hset h l (.inst cl []))) :
    wpAny (MD x.w) A (call (.ref (x.caddr cl)) args') (QE x F s K) E s := by
  obtain ⟨hp, gs, d, t, os⟩ := s
  have X := R.kin hx
  refine wpAny_call (make_core (makes_of X (hx.mks cl)) (looks_findIn X (hx.ini cl)) (fun self => bind_fn X self (hx.tf _)) (.inl rfl) ?_)
  have kp : Keeps hp ((hp.push emptyDict).push (instObj (x.caddr cl) hp.objs.size)) := (Keeps.push _ _).trans (Keeps.push _ _)
  have fr : h (hp.objs.size + 1) = none := by
    have := (R.keep (Keeps.push hp emptyDict)).fresh
    rwa [Heap.size_push] at this
  have hA' : OkA n (A.under (.builtin "type.__call__" ⟨.ref (x.caddr cl) :: args', []⟩)) := ⟨hA.hnd, dstep (d := 1) (e := 0) (c := 4) hA.dep rfl, dstep (d := 1) (e := 0) (c := 20) hA.uni rfl⟩
  refine codeAny_mono (c _ F _ ⟨(hp.push emptyDict).push (instObj (x.caddr cl) hp.objs.size), gs, d, t, os⟩ (initOf cl) (.ref (hp.objs.size + 1) :: args) _ _ hA' R.newInst (.cons (.ref _) (r.later kp.tup)) (k _ fr)) ?_
  rintro r s' ⟨v', rfl, v, h', l, rv, R', rfl, kk⟩
  cases rv
  exact ⟨rfl, .ref _, h', ⟨kp.tup.trans l.tup, l.os, l.gens⟩, .ref _, R', kk⟩

theorem cE_notStar {n : Nat} {e : Expr} {ie : IE} (hc : cE n sc e = some ie) : ∀ a p, e ≠ .Starred a p := by
  intro a p q
  subst q
  cases n <;> cases hc
theorem starEach_one {e : Expr} {rest : List Expr} (hn : ∀ a p, e ≠ .Starred a p) : starEach (e :: rest) env = (false, eval e env) :: starEach rest env := by
  cases e <;> first | exact absurd rfl (hn _ _) | rfl
theorem sound_list {k : Nat} {pos : Pos} (IH : ∀ e ie, cE k sc e = some ie → SE x n g sc e ie) (hA : OkA (n + 1) A) (ek : EnvOk sc env) (es : List Expr) : ∀ (ies : IEs) (h : H) (s : Shared) (Ks : KEs), cL (cE k sc) es = some ies → FrameIn x env m F s.heap → RH x F h s.heap → wEs g ies m Ks h →
    wpAny (MD x.w) A (spliced (backTo pos (starEach es env))) (fun vs' s' => vs'.length = es.length ∧ QEs x F s Ks vs' s') NoE s := by
  induction es with
  | nil =>
    intro ies h s Ks hc f R w
    cases hc
    exact wpAny_pure ⟨rfl, [], h, .refl s, .nil, R, w⟩
  | cons e es ih =>
    intro ies h s Ks hc f R
    refine obind hc fun a ha hc => omap (P := fun ies => wEs g ies m Ks h → _) hc fun b hb w => ?_
    rw [starEach_one (cE_notStar ha)]
    refine Calls.spliced_cons (QE.bind (IH e a ha A env F m h s _ hA ek f R w) fun v' s1 v h1 l1 rv R1 w1 => ?_)
    exact QEs.bind (ih b h1 s1 _ hb (f.later R R1 l1.tup) R1 w1) fun vs' s2 vs h2 hlen l2 rvs R2 w2 => ⟨congrArg (· + 1) hlen, v :: vs, h2, l1.trans l2, .cons (rv.later l2.tup) rvs, R2, w2⟩
theorem st_of {e : Expr} {ie : IE} (hs : SE x n g sc e ie) (hr : ∀ env whole, isTrue e env whole = (do
    let v ← whole
    standAt e.pos
    holding [v] (truthy v))) : ST x n g sc e ie := by
  intro A env F m h s K hA ek f R w
  refine PyProof.Rows.isTrue_plain (QE.truth (hs A env F m h s _ hA ek f R w) fun t s1 h1 l1 R1 w1 => ?_) (hr _ _)
  exact wpAny_truthy_bool ⟨h1, l1, R1, w1⟩
variable {k : Nat}
theorem se_const {c : Const} {k0 : Nat} {p : Pos} {ie : IE} (hc : cE (k + 1) sc (.Constant c k0 p) = some ie) : SE x n g sc (.Constant c k0 p) ie := by
  intro A env F m h s K hA ek f R w
  cases c <;> cases hc
  · exact wpAny_pure (QE.now R .none w)
  · exact wpAny_pure (QE.now R (.bool _) w)
  · exact wpAny_Constant_int (QE.tok _ R (.int _ _) w)
theorem se_name {y : Str} {p : Pos} {ie : IE} (G : GOk x) (hc : cE (k + 1) sc (.Name y p) = some ie) : SE x n g sc (.Name y p) ie := by
  rw [q_name] at hc
  refine ifn hc fun hd hc => ?_
  generalize ho : own sc y = o at hc
  induction o using Option.casesOn with
  | some i =>
    refine osome hc ?_
    intro A env F m h s K hA ek f R w
    exact wpAny_Name (w.elim fun v w => op_loadOwn ek f ho (own_cd ho) w.1 fun v' rv => QE.now R rv w.2) hd
  | none =>
    refine ifs hc fun hg hc => omap hc fun v hv => ?_
    intro A env F m h s K hA ek f R w
    obtain ⟨mg, mb, ng, nb, gc, _⟩ := G.ex
    exact wpAny_Name ((gc y v hv).elim fun v' hh => op_loadGlobal ek R ng hg hh.1 (QE.now R (hh.2.later (Keeps.tup fun b o e => R.frz _ _ (R.base _ _ e))) w)) hd
theorem se_bin {l r : Expr} {op : Operator} {p : Pos} {ie : IE} (IH : ∀ e ie, cE k sc e = some ie → SE x n g sc e ie) (hc : cE (k + 1) sc (.BinOp l op r p) = some ie) : SE x n g sc (.BinOp l op r p) ie := by
  refine obind hc fun o ho hc => obind hc fun a ha hc => omap hc fun b hb => ?_
  intro A env F m h s K hA ek f R w
  refine wpAny_BinOp (QE.bind (IH _ _ ha A env F m h s _ hA ek f R w) fun a' s1 va h1 l1 ra R1 w1 => ?_)
  refine QE.bind (IH _ _ hb A env F m h1 s1 _ hA ek (f.later R R1 l1.tup) R1 w1) fun b' s2 vb h2 l2 rb R2 w2 => ?_
  exact QE.goes (l1.trans l2) (op_bin ho R2 (ra.later l2.tup) rb w2)
theorem seqE_mark {op : CmpOp} {r : Expr} (h : isSeqE r = false) : behindInMarks op r = false := by
  cases r <;> first | exact Eq.refl false | exact tf h
theorem se_cmp {l r : Expr} {op : CmpOp} {p : Pos} {ie : IE} (hx : XOk x) (IH : ∀ e ie, cE k sc e = some ie → SE x n g sc e ie) (hc : cE (k + 1) sc (.Compare l [op] [r] p) = some ie) :
    SE x n g sc (.Compare l [op] [r] p) ie ∧ ST x n g sc (.Compare l [op] [r] p) ie := by
  refine ifn hc fun hs hc => obind hc fun o ho hc => obind hc fun a ha hc => omap (P := fun ie => SE x n g sc _ ie ∧ ST x n g sc _ ie) hc fun b hb => ⟨?_, ?_⟩
  · intro A env F m h s K hA ek f R w
    refine wpAny_Compare1 (QE.bind (IH _ _ ha A env F m h s _ hA ek f R w) fun a' s1 va h1 l1 ra R1 w1 => ?_) (seqE_mark hs)
    refine QE.bind (IH _ _ hb A env F m h1 s1 _ hA ek (f.later R R1 l1.tup) R1 w1) fun b' s2 vb h2 l2 rb R2 w2 => ?_
    exact QE.goes (l1.trans l2) (op_cmp hx.sys hA.zero ho R2 (ra.later l2.tup) rb w2)
  · intro A env F m h s K hA ek f R w
    refine wpAny_isTrue_Compare1 (QE.bind (IH _ _ ha A env F m h s _ hA ek f R w) fun a' s1 va h1 l1 ra R1 w1 => ?_) (seqE_mark hs)
    refine QE.bind (IH _ _ hb A env F m h1 s1 _ hA ek (f.later R R1 l1.tup) R1 w1) fun b' s2 vb h2 l2 rb R2 w2 => ?_
    exact QE.truth (op_cmp hx.sys hA.zero ho R2 (ra.later l2.tup) rb w2) fun t s3 h3 l3 R3 w3 => wpAny_truthy_bool ⟨h3, (l1.trans l2).trans l3, R3, w3⟩
theorem cBool_and {a e2 : IE} {r2 : List IE} : cBool .And (a :: e2 :: r2) = (cBool .And (e2 :: r2)).map (IE.band a) := rfl
theorem cBool_or {a e2 : IE} {r2 : List IE} : cBool .Or (a :: e2 :: r2) = (cBool .Or (e2 :: r2)).map (IE.bor a) := rfl
theorem tru_ext {P Q : V → Bool → H → Prop} (e : ∀ t, P (.bool t) t = Q (.bool t) t) : (fun (v : V) (h : H) => truthW v fun t => P v t h) = fun v h => truthW v fun t => Q v t h := by
  funext v h
  induction v using Qd.V.casesOn with
  | bool t => exact congrFun (e t) h
  | _ => rfl
theorem tru_and {a b : IE} (w : wE g (.band a b) m K h) : wE g a m (fun v h => truthW v fun t => if t = true then wE g b m K h else K (.bool false) h) h :=
  Eq.mp (congrArg (fun f => wE g a m f h) (tru_ext (P := fun x t h => if t = true then wE g b m K h else K x h) fun t => by cases t <;> rfl)) w
theorem tru_or {a b : IE} (w : wE g (.bor a b) m K h) : wE g a m (fun v h => truthW v fun t => if t = true then K (.bool true) h else wE g b m K h) h :=
  Eq.mp (congrArg (fun f => wE g a m f h) (tru_ext (P := fun x t h => if t = true then K x h else wE g b m K h) fun t => by cases t <;> rfl)) w
theorem boolOp_sound {op : BoolOp} {pos : Pos} (IH : ∀ e ie, cE k sc e = some ie → SE x n g sc e ie) (hA : OkA (n + 1) A) (ek : EnvOk sc env) (vs : List Expr) : ∀ (es : List IE) (ie : IE) (h : H) (s : Shared), cLl (cE k sc) vs = some es → cBool op es = some ie →
    FrameIn x env m F s.heap → RH x F h s.heap → wE g ie m K h → wpAny (MD x.w) A (boolOp pos op (evalEach vs env)) (QE x F s K) NoE s := by
  induction vs with
  | nil =>
    intro es ie h s hc hb
    cases hc
    exact none_ne hb
  | cons v r ih =>
    intro es ie h s hc hb f R
    refine obind hc fun a ha hc => ?_
    induction r using List.casesOn with
    | nil =>
      cases hc
      cases hb
      exact IH _ _ ha A env F m h s _ hA ek f R
    | cons v2 r =>
      revert hb
      refine omap (P := fun es => cBool op es = some ie → wE g ie m K h → _) hc fun es' hes => ?_
      have ih := ih es'
      induction es' using List.casesOn with
      | nil => exact obind hes fun e2 h2 hr => omap (P := fun l => l = [] → _) hr (fun _ _ e => nomatch e) rfl
      | cons e2 r2 =>
      induction op using PySem.BoolOp.casesOn with
      | And =>
        intro hb
        refine omap (P := fun ie => wE g ie m K h → _) (cBool_and.symm.trans hb) fun b hb w => ?_
        refine wpAny_bind (QE.truth (Kb := fun t h => if t = true then wE g b m K h else K (.bool false) h) (IH _ _ ha A env F m h s _ hA ek f R (tru_and w)) fun t s1 h1 l1 R1 w1 => wpAny_bind (wpAny_standAt (wpAny_bind (wpAny_holding (wpAny_truthy_bool ?_)))))
        induction t using Bool.casesOn with
        | false => exact wpAny_pure ⟨.bool false, h1, l1, .bool _, R1, w1⟩
        | true => exact QE.goes l1 (ih b h1 s1 hes hb (f.later R R1 l1.tup) R1 w1)
      | Or =>
        intro hb
        refine omap (P := fun ie => wE g ie m K h → _) (cBool_or.symm.trans hb) fun b hb w => ?_
        refine wpAny_bind (QE.truth (Kb := fun t h => if t = true then K (.bool true) h else wE g b m K h) (IH _ _ ha A env F m h s _ hA ek f R (tru_or w)) fun t s1 h1 l1 R1 w1 => wpAny_bind (wpAny_standAt (wpAny_bind (wpAny_holding (wpAny_truthy_bool ?_)))))
        induction t using Bool.casesOn with
        | true => exact wpAny_pure ⟨.bool true, h1, l1, .bool _, R1, w1⟩
        | false => exact QE.goes l1 (ih b h1 s1 hes hb (f.later R R1 l1.tup) R1 w1)

theorem allTrue_sound {op : BoolOp} {Kb : Bool → H → Prop} (IH : ∀ e ie, cE k sc e = some ie → ST x n g sc e ie) (hA : OkA (n + 1) A) (ek : EnvOk sc env) (vs : List Expr) : ∀ (es : List IE) (ie : IE) (h : H) (s : Shared), cLl (cE k sc) vs = some es → cBool op es = some ie →
    FrameIn x env m F s.heap → RH x F h s.heap → wE g ie m (fun v h => truthW v fun t => Kb t h) h → wpAny (MD x.w) A (allTrue op vs env) (QB x F s Kb) NoE s := by
  induction vs with
  | nil =>
    intro es ie h s hc hb
    cases hc
    exact none_ne hb
  | cons v r ih =>
    intro es ie h s hc hb f R
    refine obind hc fun a ha hc => ?_
    rw [arm_allTrue_cons]
    induction r using List.casesOn with
    | nil =>
      cases hc
      cases hb
      intro w
      refine wpAny_bind (QB.bind (IH _ _ ha A env F m h s _ hA ek f R w) fun t s1 h1 l1 R1 w1 => ?_)
      cases op <;> cases t <;> exact wpAny_pure ⟨h1, l1, R1, w1⟩
    | cons v2 r =>
      revert hb
      refine omap (P := fun es => cBool op es = some ie → wE g ie m _ h → _) hc fun es' hes => ?_
      have ih := ih es'
      induction es' using List.casesOn with
      | nil => exact obind hes fun e2 h2 hr => omap (P := fun l => l = [] → _) hr (fun _ _ e => nomatch e) rfl
      | cons e2 r2 =>
      induction op using PySem.BoolOp.casesOn with
      | And =>
        intro hb
        refine omap (P := fun ie => wE g ie m _ h → _) (cBool_and.symm.trans hb) fun b hb w => ?_
        refine wpAny_bind (QB.bind (IH _ _ ha A env F m h s (fun t h => if t = true then wE g b m (fun v h => truthW v fun t => Kb t h) h else Kb false h) hA ek f R (tru_and w)) fun t s1 h1 l1 R1 w1 => ?_)
        induction t using Bool.casesOn with
        | false => exact wpAny_pure ⟨h1, l1, R1, w1⟩
        | true => exact QB.goes l1 (ih b h1 s1 hes hb (f.later R R1 l1.tup) R1 w1)
      | Or =>
        intro hb
        refine omap (P := fun ie => wE g ie m _ h → _) (cBool_or.symm.trans hb) fun b hb w => ?_
        refine wpAny_bind (QB.bind (IH _ _ ha A env F m h s (fun t h => if t = true then Kb true h else wE g b m (fun v h => truthW v fun t => Kb t h) h) hA ek f R (tru_or w)) fun t s1 h1 l1 R1 w1 => ?_)
        induction t using Bool.casesOn with
        | true => exact wpAny_pure ⟨h1, l1, R1, w1⟩
        | false => exact QB.goes l1 (ih b h1 s1 hes hb (f.later R R1 l1.tup) R1 w1)
theorem base_plain {o : Expr} {a : Str} {whole : Sem Value} (h : isCallE o = false) : attributeBase o a env whole = whole := by
  cases o <;> first | exact Eq.refl whole | exact tf h
theorem place_get {l : List Str} {y : Str} {i : Nat} (h : place l y = some i) : l[i]? = some y := by
  unfold place at h
  obtain ⟨h1, h2, _⟩ := List.findIdx?_eq_some_iff_getElem.mp h
  rw [List.getElem?_eq_getElem h1, beq_iff_eq.mp h2]
theorem se_attr {v : Expr} {a : Str} {p : Pos} {ie : IE} (hx : XOk x) (IH : ∀ e ie, cE k sc e = some ie → SE x n g sc e ie) (hc : cE (k + 1) sc (.Attribute v a p) = some ie) : SE x n g sc (.Attribute v a p) ie := by
  refine ifn hc fun hs hc => obind hc fun e he hc => omap hc fun i hi => ?_
  intro A env F m h s K hA ek f R w
  rw [arm_eval_Attribute, base_plain hs]
  refine wpAny_bind (QE.bind (IH _ _ he A env F m h s _ hA ek f R w) fun a' s1 va h1 l1 ra R1 w1 => ?_)
  refine wpAny_bind (wpAny_standAt (wpAny_bind (wpAny_holding (wpAny_mono (op_attr hx (place_get hi) R1 ra w1) (fun v' s2 q => ?_) fun _ _ y => y))))
  exact wpAny_bind (wpAny_letTemporaryGo (wpAny_pure (q.later l1)))
theorem take40_pick {vs : List Value} {ns : List Int} (hi : IntsAre vs ns) : IntsAre (slicePick vs.toArray none (some 40) none).toList (ns.take 40) := by
  have hl := hi.length
  by_cases hz : 40 ≤ vs.length
  · have := slicePick_upto vs.toArray 40 (by simpa using hz)
    rw [show ((40 : Nat) : Int) = (40 : Int) from rfl] at this
    rw [this]
    exact IntsAre.take hi 40
  · have e : slicePick vs.toArray none (some 40) none = slicePick vs.toArray none (some ((vs.length : Nat) : Int)) none := by
      unfold slicePick sliceBounds
      simp only [Option.getD_none, List.size_toArray]
      have e1 : max (0 : Int) (min (if (40 : Int) < 0 then 40 + (vs.length : Int) else 40) (vs.length : Int)) = vs.length := by (first | lia | omega)
      have e2 : max (0 : Int) (min (if ((vs.length : Nat) : Int) < 0 then (vs.length : Int) + (vs.length : Int) else (vs.length : Int)) (vs.length : Int)) = vs.length := by (first | lia | omega)
      simp only [e1, e2, Int.one_pos, if_true, gt_iff_lt]
    rw [e, slicePick_upto vs.toArray vs.length (by simp)]
    have : (vs.toArray.toList.take vs.length).toArray.toList = vs := by simp
    rw [this, List.take_of_length_le (by (first | lia | omega))]
    exact hi
theorem se_slice {v : Expr} {i : Int} {sp cp p : Pos} {u : Nat} {ie : IE} (hx : XOk x) (hsc : g.sc = x.sc) (IH : ∀ e ie, cE k sc e = some ie → SE x n g sc e ie) (hc : cE (k + 1) sc (.Subscript v (.Slice none (some (.Constant (.int i) u cp)) none sp) p) = some ie) :
    SE x n g sc (.Subscript v (.Slice none (some (.Constant (.int i) u cp)) none sp) p) ie := by
  refine ifs hc fun hq hc => omap hc fun e he => ?_
  rw [Bool.and_eq_true] at hq
  obtain rfl := eq_of_beq hq.1
  have hn := hq.2
  intro A env F m h s K hA ek f R w
  refine wpAny_Subscript_list_slice (QE.bind (IH _ _ he A env F m h s _ hA ek f R w) fun a' s1 va h1 l1 ra R1 w1 => ?_) (fun o r => by cases v <;> first | exact ff hn | rfl)
  obtain ⟨rfl, w1⟩ := w1
  cases ra
  refine wpAny_pure (wpAny_mkInt ?_)
  obtain ⟨vs, hl, hi⟩ := hx.scr
  refine ⟨x.scA, vs.toArray, none, some 40, rfl, hl.at fun o e => R1.frz _ _ (R1.base _ _ e), ?_, .none, .int _ _, ?_⟩
  · have := hx.scl
    have := hi.length
    rw [List.size_toArray, sizeLine_eq]; (first | lia | omega)
  · have k1 := Keeps.push s1.heap { cls := .type "slice", data := .fields #[Value.none, .int 40 s1.toks, .none] }
    have q2 := QE.newList (s := { s1 with heap := s1.heap.push { cls := .type "slice", data := .fields #[Value.none, .int 40 s1.toks, .none] }, toks := s1.toks + 1 }) (R1.keep k1) (VRs.ofInts (take40_pick hi)) (hsc ▸ w1)
    have e0 : (slicePick vs.toArray none (some 40) none).toList.toArray = slicePick vs.toArray none (some 40) none := Array.toArray_toList ..
    rw [e0] at q2
    have e1 : (s1.heap.push { cls := .type "slice", data := .fields #[Value.none, .int 40 s1.toks, .none] }).objs.size = s1.heap.objs.size + 1 := Heap.size_push ..
    have l2 : Later s1 { s1 with heap := s1.heap.push { cls := .type "slice", data := .fields #[Value.none, .int 40 s1.toks, .none] }, toks := s1.toks + 1 } := ⟨k1.tup, rfl, rfl⟩
    have q3 := q2.later (l1.trans l2)
    dsimp only at q3
    rw [e1] at q3
    exact q3
theorem sub_inv {v sl : Expr} {p : Pos} {ie : IE} {P : Expr → Prop} (hc : cE (k + 1) sc (.Subscript v sl p) = some ie) (k1 : ∀ i u cp sp, cE (k + 1) sc (.Subscript v (.Slice none (some (.Constant (.int i) u cp)) none sp) p) = some ie → P (.Slice none (some (.Constant (.int i) u cp)) none sp))
    (k2 : isSliceE sl = false → ((cE k sc v).bind fun x => (cE k sc sl).map fun i => IE.idx x i) = some ie → P sl) : P sl := by
  induction sl using PySem.Expr.casesOn with
  | Slice a b c sp =>
    induction a using Option.casesOn with
    | some _ => exact none_ne hc
    | none =>
    induction b using Option.casesOn with
    | none => exact none_ne hc
    | some b =>
    induction b using PySem.Expr.casesOn with
    | Constant c0 u cp =>
      induction c0 using PySem.Const.casesOn with
      | int i =>
        induction c using Option.casesOn with
        | none => exact k1 i u cp sp hc
        | some _ => exact none_ne hc
      | _ => exact none_ne hc
    | _ => exact none_ne hc
  | _ => exact k2 rfl hc
theorem se_sub {v sl : Expr} {p : Pos} {ie : IE} (hx : XOk x) (hsc : g.sc = x.sc) (IH : ∀ e ie, cE k sc e = some ie → SE x n g sc e ie) (hc : cE (k + 1) sc (.Subscript v sl p) = some ie) : SE x n g sc (.Subscript v sl p) ie := by
  refine sub_inv (P := fun sl => SE x n g sc (.Subscript v sl p) ie) hc (fun i u cp sp hc => se_slice hx hsc IH hc) fun hs hc => obind hc fun e he hc => omap hc fun i hi => ?_
  intro A env F m h s K hA ek f R w
  rw [arm_eval_Subscript]
  refine wpAny_bind (QE.bind (IH _ _ he A env F m h s _ hA ek f R w) fun a' s1 va h1 l1 ra R1 w1 => ?_)
  refine wpAny_bind (wpAny_holding (QE.bind (IH _ _ hi A env F m h1 s1 _ hA ek (f.later R R1 l1.tup) R1 w1) fun b' s2 vb h2 l2 rb R2 w2 => ?_))
  exact wpAny_bind (wpAny_standAt (QE.goes (l1.trans l2) (op_idx (value := v) hs R2 (ra.later l2.tup) rb w2)))
end
end
section
open PySem PySem.W PyProof.Rows
section
variable {x : X} {n : Nat} {g : G} {F : FM} {h : H} {s s1 s' : Shared} {K : KE} {A : Around} {E : Value → Shared → Prop} {env : Env} {sc : Scope} {m : M} {k : Nat}
theorem size1000 {a b : Nat} (hl : ¬ 1000 < b) (e : a = b) : a ≤ sizeLine := by rw [sizeLine_eq]; (first | lia | omega)
theorem se_tuple {es : List Expr} {k0 : Nat} {p : Pos} {ie : IE} (IH : ∀ e ie, cE k sc e = some ie → SE x n g sc e ie) (hc : cE (k + 1) sc (.Tuple es k0 p) = some ie) : SE x n g sc (.Tuple es k0 p) ie :=
  ifp hc fun hl hc => omap hc fun ies he A env F m h s K hA ek f R w =>
  Tuple_ (QEs.bind (sound_list IH hA ek es ies h s _ he f R w) fun vs' s1 vs h1 hlen l1 rvs R1 w1 => QE.goes l1 (op_newTuple R1 rvs (size1000 hl hlen) w1))
theorem se_list {es : List Expr} {p : Pos} {ie : IE} (IH : ∀ e ie, cE k sc e = some ie → SE x n g sc e ie) (hc : cE (k + 1) sc (.List es p) = some ie) : SE x n g sc (.List es p) ie :=
  ifp hc fun hl hc => omap hc fun ies he A env F m h s K hA ek f R w =>
  List_ (QEs.bind (sound_list IH hA ek es ies h s _ he f R w) fun vs' s1 vs h1 hlen l1 rvs R1 w1 => QE.goes l1 (op_newList R1 rvs (size1000 hl hlen) w1))
theorem se_dict {p : Pos} {ie : IE} (hc : cE (k + 1) sc (.Dict [] [] p) = some ie) : SE x n g sc (.Dict [] [] p) ie := by
  intro A env F m h s K hA ek f R w
  cases hc
  rw [eval_Dict_empty]
  exact wpAny_bind (wpAny_standAt (op_newDict R w))
theorem plain_trees {es : List Expr} {ies : IEs} (hc : cL (cE k sc) es = some ies) (pos : Pos) : (backTo pos (starEach es env)).any (·.1) = false := by
  induction es generalizing ies with
  | nil => rfl
  | cons e r ih =>
    refine obind hc fun a ha hc => omap (P := fun _ => (backTo pos (starEach (e :: r) env)).any (·.1) = false) hc fun b hb => ?_
    rw [starEach_one (cE_notStar ha)]
    exact ih hb
theorem evalArgs_list {M : Model} {es : List Expr} {ies : IEs} {fv : Value} {Q : Args → Shared → Prop} (hc : cL (cE k sc) es = some ies) (pos : Pos)
    (q : wpAny M A (spliced (backTo pos (starEach es env))) (fun vs s' => Q ⟨vs, []⟩ s') E s) : wpAny M A (evalArgs fv true (backTo pos (starEach es env)) []) Q E s := by
  induction es using List.casesOn with
  | nil =>
    unfold evalArgs
    exact wpAny_bind (wpAny_mono q (fun vs s' h' => wpAny_bind (wpAny_pure (wpAny_holding (wpAny_bind (wpAny_pure (wpAny_bind (wpAny_pure (wpAny_pure h'))))))) ) fun _ _ y => y)
  | cons e r =>
    refine obind hc fun a ha hc => ?_
    rw [starEach_one (cE_notStar ha)] at q ⊢
    exact Calls.evalArgs_plain q
theorem callWith_list {es : List Expr} {ies : IEs} {fv : Value} {first : List Value} {Q : Value → Shared → Prop} (hc : cL (cE k sc) es = some ies) (pos : Pos)
    (hk : ∀ h, x.K.In h → ∃ k, (k = Keeper.frame ∨ k = Keeper.machine ∨ k = Keeper.boundFrame) ∧ Looks (MD x.w) h (keeperOf fv) k)
    (q : wpAny (MD x.w) A (spliced (backTo pos (starEach es env))) (fun vs s' => x.K.In s'.heap ∧ wpAny (MD x.w) A (call fv (first ++ vs)) Q E s') E s) :
    wpAny (MD x.w) A (callWith pos fv first (backTo pos (starEach es env)) []) Q E s :=
  callWith_of (P := x.K.In) (by rw [plain_trees hc]; rfl) hk (evalArgs_list hc pos q)
theorem looks_machine {h : Heap} {fv : Value} (e : ∀ a, fv ≠ .ref a) : Looks (MD x.w) h (keeperOf fv) Keeper.machine := by
  cases fv <;> first | exact Looks.now | exact absurd rfl (e _)
theorem keeps_machine {fv : Value} (e : ∀ a, fv ≠ .ref a) (h : Heap) (_ : x.K.In h) : ∃ k, (k = Keeper.frame ∨ k = Keeper.machine ∨ k = Keeper.boundFrame) ∧ Looks (MD x.w) h (keeperOf fv) k :=
  ⟨.machine, .inr (.inl rfl), looks_machine e⟩
theorem cL_one {e : Expr} {ie : IE} (h : cE k sc e = some ie) : cL (cE k sc) [e] = some (.cons ie .nil) := by rw [cL, h]; rfl
theorem cL_two {e e2 : Expr} {ie ie2 : IE} (h : cE k sc e = some ie) (h2 : cE k sc e2 = some ie2) : cL (cE k sc) [e, e2] = some (.cons ie (.cons ie2 .nil)) := by rw [cL, h, cL_one h2]; rfl
theorem callN_ {y : Str} {p pos : Pos} {args : List Expr} {ies : IEs} {fv : Value} {Ks : KEs} (hx : XOk x) (IH : ∀ e ie, cE k sc e = some ie → SE x n g sc e ie) (he : cL (cE k sc) args = some ies)
    (hA : OkA (n + 1) A) (ek : EnvOk sc env) (f : FrameIn x env m F s.heap) (R : RH x F h s.heap)
    (hk : ∀ h, x.K.In h → ∃ k, (k = Keeper.frame ∨ k = Keeper.machine ∨ k = Keeper.boundFrame) ∧ Looks (MD x.w) h (keeperOf fv) k) (w : wEs g ies m Ks h)
    (hop : ∀ vs' s1 vs h1, vs'.length = args.length → VRs x s1.heap vs vs' → RH x F h1 s1.heap → Ks vs h1 → wpAny (MD x.w) A (call fv vs') (QE x F s1 K) NoE s1)
    (ld : ∀ Q : Value → Shared → Prop, Q fv s → wpAny (MD x.w) A (loadName env y) Q NoE s) (hd : (y == ("__debug__" : Str)) = false) :
    wpAny (MD x.w) A (eval (.Call (.Name y p) args [] pos) env) (QE x F s K) NoE s :=
  wpAny_bind (wpAny_Name (ld _ (callWith_list he pos hk (QEs.bind (sound_list IH hA ek args ies h s _ he f R w) fun vs' s1 vs h1 hlen l1 rvs R1 w1 => ⟨R1.kin hx, QE.goes l1 (hop vs' s1 vs h1 hlen rvs R1 w1)⟩))) hd)
noncomputable def K1 (P : V → H → Prop) : List V → H → Prop
  | [v], h => P v h
  | _, _ => False
noncomputable def K2 (P : V → V → H → Prop) : List V → H → Prop
  | [v, u], h => P v u h
  | _, _ => False
theorem VRs.one {hp : Heap} {vs : List V} {vs' : List Value} {P : V → H → Prop} {C : List Value → Prop} (r : VRs x hp vs vs') (w : K1 P vs h) (k : ∀ v v', VR x hp v v' → P v h → C [v']) : C vs' := by
  cases r with
  | nil => exact w.elim
  | cons r1 r2 => cases r2 with
    | nil => exact k _ _ r1 w
    | cons _ _ => exact w.elim
theorem VRs.two {hp : Heap} {vs : List V} {vs' : List Value} {P : V → V → H → Prop} {C : List Value → Prop} (r : VRs x hp vs vs') (w : K2 P vs h) (k : ∀ v v' u u', VR x hp v v' → VR x hp u u' → P v u h → C [v', u']) : C vs' := by
  cases r with
  | nil => exact w.elim
  | cons r1 r2 => cases r2 with
    | nil => exact w.elim
    | cons r2 r3 => cases r3 with
      | nil => exact k _ _ _ _ r1 r2 w
      | cons _ _ => exact w.elim
theorem se_bi1 {y : Str} {p pos : Pos} {a : Expr} {ia : IE} {fv : Value} {op : V → KE → H → Prop} {ie : IE} (hx : XOk x) (IH : ∀ e ie, cE k sc e = some ie → SE x n g sc e ie) (hd : (y == ("__debug__" : Str)) = false)
    (hn : ∀ a, fv ≠ .ref a) (ha : cE k sc a = some ia) (hie : ∀ m K h, wE g ie m K h = wE g ia m (fun v h => op v K h) h)
    (hload : ∀ (A : Around) (env : Env) (F : FM) (h : H) (s : Shared) (Q : Value → Shared → Prop), EnvOk sc env → RH x F h s.heap → Q fv s → wpAny (MD x.w) A (loadName env y) Q NoE s)
    (hop : ∀ (A : Around) (F : FM) (h : H) (s : Shared) (K : KE) (v : V) (v' : Value), OkA (n + 1) A → RH x F h s.heap → VR x s.heap v v' → op v K h → wpAny (MD x.w) A (call fv [v']) (QE x F s K) NoE s) :
    SE x n g sc (.Call (.Name y p) [a] [] pos) ie := by
  intro A env F m h s K hA ek f R w
  refine callN_ (Ks := K1 fun v h => op v K h) hx IH (cL_one ha) hA ek f R (keeps_machine hn) (Eq.mp (hie ..) w) (fun vs' s1 vs h1 _ r R1 w1 => ?_) (fun Q => hload A env F h s Q ek R) hd
  exact VRs.one (C := fun vs' => wpAny _ _ (call fv vs') _ _ _) r w1 fun v v' r w => hop A F h1 s1 K _ _ hA R1 r w
theorem se_bi2 {y : Str} {p pos : Pos} {a b : Expr} {ia ib : IE} {fv : Value} {op : V → V → KE → H → Prop} {ie : IE} (hx : XOk x) (IH : ∀ e ie, cE k sc e = some ie → SE x n g sc e ie) (hd : (y == ("__debug__" : Str)) = false)
    (hn : ∀ a, fv ≠ .ref a) (ha : cE k sc a = some ia) (hb : cE k sc b = some ib) (hie : ∀ m K h, wE g ie m K h = wE g ia m (fun v h => wE g ib m (fun u h => op v u K h) h) h)
    (hload : ∀ (A : Around) (env : Env) (F : FM) (h : H) (s : Shared) (Q : Value → Shared → Prop), EnvOk sc env → RH x F h s.heap → Q fv s → wpAny (MD x.w) A (loadName env y) Q NoE s)
    (hop : ∀ (A : Around) (F : FM) (h : H) (s : Shared) (K : KE) (v u : V) (v' u' : Value), OkA (n + 1) A → RH x F h s.heap → VR x s.heap v v' → VR x s.heap u u' → op v u K h → wpAny (MD x.w) A (call fv [v', u']) (QE x F s K) NoE s) :
    SE x n g sc (.Call (.Name y p) [a, b] [] pos) ie := by
  intro A env F m h s K hA ek f R w
  refine callN_ (Ks := K2 fun v u h => op v u K h) hx IH (cL_two ha hb) hA ek f R (keeps_machine hn) (Eq.mp (hie ..) w) (fun vs' s1 vs h1 _ r R1 w1 => ?_) (fun Q => hload A env F h s Q ek R) hd
  exact VRs.two (C := fun vs' => wpAny _ _ (call fv vs') _ _ _) r w1 fun v v' u u' r r2 w => hop A F h1 s1 K _ _ _ _ hA R1 r r2 w
theorem load_bi {y : String} {fv : Value} {mg mb : Str → Option Value} (ng : x.h0.Ns mainGlobals mg) (nb : x.h0.Ns builtinsNs mb) (hg : glb sc (Str.ofString y) = true) (hv : mg (Str.ofString y) = none) (hb : mb (Str.ofString y) = some fv) :
    ∀ (A : Around) (env : Env) (F : FM) (h : H) (s : Shared) (Q : Value → Shared → Prop), EnvOk sc env → RH x F h s.heap → Q fv s → wpAny (MD x.w) A (loadName env (Str.ofString y)) Q NoE s :=
  fun A env F h s Q ek R q => op_loadBuiltin ek R ng nb hg hv hb q
theorem se_len1 {y : Str} {p pos : Pos} {a : Expr} {ia : IE} {ie : IE} (hx : XOk x) (IH : ∀ e ie, cE k sc e = some ie → SE x n g sc e ie) (hd : (y == ("__debug__" : Str)) = false) (hg : glb sc y = true)
    (G : GOk x) (ha : cE k sc a = some ia) (hc : (if (y == ("len" : Str)) = true then some (IE.len ia) else if (y == ("sum" : Str)) = true then some (.sum ia) else if (y == ("tuple" : Str)) = true then some (.tupOf ia) else if (y == ("sorted" : Str)) = true then some (.sorted ia) else none) = some ie) :
    SE x n g sc (.Call (.Name y p) [a] [] pos) ie := by
  obtain ⟨mg, mb, ng, nb, gc, gf, gcl, gb, gt⟩ := G.ex
  refine ifel hc (fun e hc => osome hc ?_) fun _ hc => ifel hc (fun e hc => osome hc ?_) fun _ hc => ifel hc (fun e hc => osome hc ?_) fun _ hc => ifs hc (fun e hc => osome hc ?_) <;> (have e := eq_of_beq e; subst e)
  · have b := gb "len" (.head _)
    exact se_bi1 (op := lenW) hx IH hd (by nofun) ha (fun _ _ _ => rfl) (load_bi ng nb hg b.1 b.2) fun A F h s K v v' hA R r w => op_len R r w
  · have b := gb "sum" (.tail _ (.head _))
    exact se_bi1 (op := sumW) hx IH hd (by nofun) ha (fun _ _ _ => rfl) (load_bi ng nb hg b.1 b.2) fun A F h s K v v' hA R r w => op_sum hA.hnd R r w
  · have b := gt "tuple" (by simp)
    exact se_bi1 (op := tupOfW) hx IH hd (by nofun) ha (fun _ _ _ => rfl) (load_bi ng nb hg b.1 b.2) fun A F h s K v v' hA R r w => op_tuple R r w
  · have b := gb "sorted" (by simp)
    exact se_bi1 (op := sortedW) hx IH hd (by nofun) ha (fun _ _ _ => rfl) (load_bi ng nb hg b.1 b.2) fun A F h s K v v' hA R r w => op_sorted hx hA.hnd R r w
theorem se_mm {y : Str} {p pos : Pos} {a b : Expr} {ia ib : IE} {ie : IE} (hx : XOk x) (IH : ∀ e ie, cE k sc e = some ie → SE x n g sc e ie) (hd : (y == ("__debug__" : Str)) = false) (hg : glb sc y = true)
    (G : GOk x) (ha : cE k sc a = some ia) (hb : cE k sc b = some ib) (hc : (if (y == ("max" : Str)) = true then some (IE.max2 ia ib) else if (y == ("min" : Str)) = true then some (.min2 ia ib) else none) = some ie) :
    SE x n g sc (.Call (.Name y p) [a, b] [] pos) ie := by
  obtain ⟨mg, mb, ng, nb, gc, gf, gcl, gb, gt⟩ := G.ex
  refine ifel hc (fun e hc => osome hc ?_) fun _ hc => ifs hc (fun e hc => osome hc ?_) <;> (have e := eq_of_beq e; subst e)
  · have b := gb "max" (by simp)
    exact se_bi2 (op := fun v u K h => ∃ i j, v = .int i ∧ u = .int j ∧ K (.int (if j > i then j else i)) h) hx IH hd (by nofun) ha hb (fun _ _ _ => rfl) (load_bi ng nb hg b.1 b.2) fun A F h s K v u v' u' hA R r r2 w => op_max hA.hnd R r r2 w
  · have b := gb "min" (by simp)
    exact se_bi2 (op := fun v u K h => ∃ i j, v = .int i ∧ u = .int j ∧ K (.int (if j < i then j else i)) h) hx IH hd (by nofun) ha hb (fun _ _ _ => rfl) (load_bi ng nb hg b.1 b.2) fun A F h s K v u v' u' hA R r r2 w => op_min hA.hnd R r r2 w
theorem se_call {y : Str} {p pos : Pos} {args : List Expr} {ie : IE} (hx : XOk x) (G : GOk x) (C : CallOk x n g.C) (IH : ∀ e ie, cE k sc e = some ie → SE x n g sc e ie) (hc : cE (k + 1) sc (.Call (.Name y p) args [] pos) = some ie) :
    SE x n g sc (.Call (.Name y p) args [] pos) ie := by
  obtain ⟨mg, mb, ng, nb, gc, gf, gcl, gb, gt⟩ := G.ex
  rw [q_call] at hc
  refine ifn hc fun hq hc => ?_
  rw [Bool.or_eq_false_iff, Bool.or_eq_false_iff] at hq
  have hd := hq.1.1
  have hg := Bool.not_eq_eq_eq_not.mp hq.1.2
  generalize hf : fplace y = o at hc
  induction o using Option.casesOn with
  | some i => exact omap hc fun ies he A env F m h s K hA ek f R w => callN_ hx IH he hA ek f R (fun h X => keeps_K (hx.kf i) h X) w (fun vs' s1 vs h1 _ rvs R1 w1 => call_of C (hA.le (Nat.le_succ n)) R1 rvs w1) (fun Q => op_loadGlobal ek R ng hg (gf y i hf)) hd
  | none =>
  generalize hp : place cnames y = o at hc
  induction o using Option.casesOn with
  | some i => exact omap hc fun ies he A env F m h s K hA ek f R w => callN_ hx IH he hA ek f R (fun h X => keeps_K (hx.kc i) h X) w (fun vs' s1 vs h1 _ rvs R1 w1 => new_of hx C hA R1 rvs w1) (fun Q => op_loadGlobal ek R ng hg (gcl y i hp)) hd
  | none =>
  induction args using List.casesOn with
  | nil => exact none_ne hc
  | cons a r => induction r using List.casesOn with
    | nil => exact obind hc fun ia ha hc => se_len1 hx IH hd hg G ha hc
    | cons b r => induction r using List.casesOn with
      | nil => exact obind hc fun ia ha hc => obind hc fun ib hb hc => se_mm hx IH hd hg G ha hb hc
      | cons _ _ => exact none_ne hc
end
end
section
open PySem PySem.W PyProof.Rows
section
variable {x : X} {n : Nat} {g : G} {F : FM} {h : H} {s s1 s' : Shared} {K : KE} {A : Around} {E : Value → Shared → Prop} {env : Env} {sc : Scope} {m : M} {k : Nat}
theorem plain_all {es : List Expr} {ies : IEs} (hc : cL (cE k sc) es = some ies) (pos : Pos) : (backTo pos (starEach es env)).all (fun x => !x.1) = true := by
  induction es generalizing ies with
  | nil => rfl
  | cons e r ih =>
    refine obind hc fun a ha hc => omap (P := fun _ => (backTo pos (starEach (e :: r) env)).all (fun x => !x.1) = true) hc fun b hb => ?_
    rw [starEach_one (cE_notStar ha)]
    exact ih hb
theorem meth_call {o : Expr} {name : Str} {apos pos : Pos} {args : List Expr} {ies : IEs} {Q : Value → Shared → Prop} (hb : isCallE o = false) (hline : apos.endLine = pos.line) (hargs : cL (cE k sc) args = some ies) (hlen : args.length < 30)
    (h : wpAny (MD x.w) A (eval o env) (fun ov s₁ => ∃ f first, (∀ (Q : Value × List Value → Shared → Prop) (pl : Sem Bool), Q (f, first) s₁ → wpAny (MD x.w) A (getMethod ov name pl) Q E s₁) ∧
      wpAny (MD x.w) A (callWith pos f first (backTo pos (starEach args env)) []) Q E s₁) E s) :
    wpAny (MD x.w) A (eval (.Call (.Attribute o name apos) args [] pos) env) Q E s := by
  rw [arm_eval_Call, base_plain hb]
  refine wpAny_bind (wpAny_mono h (fun ov s₁ h₁ => ?_) fun _ _ e => e)
  obtain ⟨f, first, hm, hc⟩ := h₁
  refine wpAny_bind (wpAny_standAt ?_)
  have hform : methodCallForm (args.length + ([] : List Keyword).length) (backTo pos (starEach args env)) (backToKw pos (keywordEach [] env)) = true := by
    unfold methodCallForm
    rw [plain_all hargs]
    exact decide_eq_true hlen
  have hpos : methodCallPos true o env apos pos = pure pos := by unfold methodCallPos; simp [hline]
  unfold methodCall
  rw [hform]
  refine wpAny_bind (wpAny_holding ?_)
  refine hm _ _ ?_
  exact wpAny_bind (wpAny_of_eq hpos hc)
theorem meth_ {o : Expr} {name : Str} {apos pos : Pos} {args : List Expr} {ies : IEs} {io : IE} {W : KE} (hx : XOk x) (IH : ∀ e ie, cE k sc e = some ie → SE x n g sc e ie) (hb : isCallE o = false) (hline : apos.endLine = pos.line) (ho : cE k sc o = some io) (hargs : cL (cE k sc) args = some ies) (hlen : args.length < 30)
    (hA : OkA (n + 1) A) (ek : EnvOk sc env) (f : FrameIn x env m F s.heap) (R : RH x F h s.heap) (w : wE g io m W h)
    (hop : ∀ v v' h1 s1, VR x s1.heap v v' → RH x F h1 s1.heap → W v h1 → ∃ fv first Ks, (∀ (Q : Value × List Value → Shared → Prop) (pl : Sem Bool), Q (fv, first) s1 → wpAny (MD x.w) A (getMethod v' name pl) Q NoE s1) ∧
      (∀ h, x.K.In h → ∃ k, (k = Keeper.frame ∨ k = Keeper.machine ∨ k = Keeper.boundFrame) ∧ Looks (MD x.w) h (keeperOf fv) k) ∧ wEs g ies m Ks h1 ∧
      ∀ vs' s2 vs h2, Later s1 s2 → VRs x s2.heap vs vs' → RH x F h2 s2.heap → Ks vs h2 → wpAny (MD x.w) A (call fv (first ++ vs')) (QE x F s2 K) NoE s2) :
    wpAny (MD x.w) A (eval (.Call (.Attribute o name apos) args [] pos) env) (QE x F s K) NoE s :=
  meth_call hb hline hargs hlen (QE.bind (IH _ _ ho A env F m h s _ hA ek f R w) fun v' s1 v h1 l1 rv R1 w1 =>
    (hop v v' h1 s1 rv R1 w1).elim fun fv q => q.elim fun first q => q.elim fun Ks q => ⟨fv, first, q.1, callWith_list hargs pos q.2.1 (QEs.bind (sound_list IH hA ek args ies h1 s1 _ hargs (f.later R R1 l1.tup) R1 q.2.2.1) fun vs' s2 vs h2 _ l2 rvs R2 w2 => ⟨R2.kin hx, QE.goes (l1.trans l2) (q.2.2.2 vs' s2 vs h2 l2 rvs R2 w2)⟩)⟩)
theorem list_typeIs {l : Nat} {xs : List V} (R : RH x F h s.heap) (e : h l = some (.list xs)) : s.TypeIs (.ref l) "list" ∧ (∀ a, (Value.ref l) = .ref a → ∃ ob, s.heap.get? a = some ob ∧ ob.dict = none) := by
  obtain ⟨vs, m, q, _⟩ := R.obj l _ e
  exact ⟨⟨_, q, rfl⟩, fun a ea => by cases ea; exact ⟨_, q, rfl⟩⟩
theorem dict_typeIs {l : Nat} {es : List (Int × V)} (R : RH x F h s.heap) (e : h l = some (.dict es)) : s.TypeIs (.ref l) "dict" ∧ (∀ a, (Value.ref l) = .ref a → ∃ ob, s.heap.get? a = some ob ∧ ob.dict = none) := by
  obtain ⟨kvs, hd, _⟩ := R.obj l _ e
  exact ⟨hd.typeIs, hd.mapOf.noDict⟩
theorem se_pop {o : Expr} {apos pos : Pos} {io : IE} (hx : XOk x) (IH : ∀ e ie, cE k sc e = some ie → SE x n g sc e ie) (hb : isCallE o = false) (hline : apos.endLine = pos.line) (ho : cE k sc o = some io) :
    SE x n g sc (.Call (.Attribute o (Str.ofString "pop") apos) [] [] pos) (.pop io) := by
  intro A env F m h s K hA ek f R w
  refine meth_ (ies := .nil) hx IH hb hline ho rfl (Nat.zero_lt_succ _) hA ek f R w fun v v' h1 s1 rv R1 w1 => ?_
  have w2 := w1
  unfold popW at w2
  obtain ⟨l, xs, u, rfl, e, _⟩ := w2
  cases rv
  have T := list_typeIs R1 e
  refine ⟨_, _, fun vs h => match vs with | [] => popW (.ref l) K h | _ => False, fun Q pl q => getMethod_builtin T.1 PySem.F.plainAttrs_list PySem.F.slot_list_pop PySem.F.type_list_pop T.2 q, keeps_machine (by nofun), w1, fun vs' s2 vs h2 l2 rvs R2 w2 => ?_⟩
  cases rvs with
  | nil => exact op_pop R2 (.ref l) w2
  | cons _ _ => exact w2.elim
theorem se_append {o a : Expr} {apos pos : Pos} {io ia : IE} (hx : XOk x) (IH : ∀ e ie, cE k sc e = some ie → SE x n g sc e ie) (hb : isCallE o = false) (hline : apos.endLine = pos.line) (ho : cE k sc o = some io) (ha : cE k sc a = some ia) :
    SE x n g sc (.Call (.Attribute o (Str.ofString "append") apos) [a] [] pos) (.append io ia) := by
  intro A env F m h s K hA ek f R w
  refine meth_ hx IH hb hline ho (cL_one ha) (Nat.le_of_ble_eq_true rfl) hA ek f R w fun v v' h1 s1 rv R1 w1 => ?_
  obtain ⟨⟨l, xs, rfl, e⟩, w1⟩ := w1
  cases rv
  have T := list_typeIs R1 e
  exact ⟨_, _, K1 fun v h => appendW (.ref l) v K h, fun Q pl q => getMethod_builtin T.1 PySem.F.plainAttrs_list PySem.F.slot_list_append PySem.F.type_list_append T.2 q, keeps_machine (by nofun), w1,
    fun vs' s2 vs h2 l2 rvs R2 w2 => VRs.one (C := fun vs' => wpAny _ _ (call _ (_ ++ vs')) _ _ _) rvs w2 fun v v' r w => op_append R2 (.ref l) r w⟩
theorem se_get1 {o a : Expr} {apos pos : Pos} {io ia : IE} (hx : XOk x) (IH : ∀ e ie, cE k sc e = some ie → SE x n g sc e ie) (hb : isCallE o = false) (hline : apos.endLine = pos.line) (ho : cE k sc o = some io) (ha : cE k sc a = some ia) :
    SE x n g sc (.Call (.Attribute o (Str.ofString "get") apos) [a] [] pos) (.get1 io ia) := by
  intro A env F m h s K hA ek f R w
  refine meth_ hx IH hb hline ho (cL_one ha) (Nat.le_of_ble_eq_true rfl) hA ek f R w fun v v' h1 s1 rv R1 w1 => ?_
  obtain ⟨⟨l, xs, rfl, e⟩, w1⟩ := w1
  cases rv
  have T := dict_typeIs R1 e
  exact ⟨_, _, K1 fun v h => getW (.ref l) v .none K h, fun Q pl q => getMethod_builtin T.1 PySem.F.plainAttrs_dict PySem.F.slot_dict_get PySem.F.type_dict_get T.2 q, keeps_machine (by nofun), w1,
    fun vs' s2 vs h2 l2 rvs R2 w2 => VRs.one (C := fun vs' => wpAny _ _ (call _ (_ ++ vs')) _ _ _) rvs w2 fun v v' r w => op_get1 hx R2 (.ref l) r w⟩
theorem se_get2 {o a b : Expr} {apos pos : Pos} {io ia ib : IE} (hx : XOk x) (IH : ∀ e ie, cE k sc e = some ie → SE x n g sc e ie) (hb : isCallE o = false) (hline : apos.endLine = pos.line) (ho : cE k sc o = some io) (ha : cE k sc a = some ia) (hb2 : cE k sc b = some ib) :
    SE x n g sc (.Call (.Attribute o (Str.ofString "get") apos) [a, b] [] pos) (.get2 io ia ib) := by
  intro A env F m h s K hA ek f R w
  refine meth_ hx IH hb hline ho (cL_two ha hb2) (Nat.le_of_ble_eq_true rfl) hA ek f R w fun v v' h1 s1 rv R1 w1 => ?_
  obtain ⟨⟨l, xs, rfl, e⟩, w1⟩ := w1
  cases rv
  have T := dict_typeIs R1 e
  exact ⟨_, _, K2 fun v u h => getW (.ref l) v u K h, fun Q pl q => getMethod_builtin T.1 PySem.F.plainAttrs_dict PySem.F.slot_dict_get PySem.F.type_dict_get T.2 q, keeps_machine (by nofun), w1,
    fun vs' s2 vs h2 l2 rvs R2 w2 => VRs.two (C := fun vs' => wpAny _ _ (call _ (_ ++ vs')) _ _ _) rvs w2 fun v v' u u' r r2 w => op_get2 hx R2 (.ref l) r r2 w⟩
theorem new_word_no : ∀ i : Nat, anames[i]? ≠ some (Str.ofString "new_word") := by
  have : (Str.ofString "new_word") ∉ anames := by decide +kernel
  exact fun i e => this (List.mem_of_getElem? e)
theorem NR.getL_none {hp : Heap} {fs : List (Nat × V)} {es : List DictEntry} {name : Str} (hn : ∀ i : Nat, anames[i]? ≠ some name) (r : NR x hp fs es) : getL name es = some none := by
  have e1 : es.find? (·.key.isStr name) = none := by
    induction r with
    | nil => rfl
    | @cons k v nm t e fs es a b c d ih =>
      rw [List.find?_cons, isStr_ne b (fun q => hn k (by rw [← q]; exact a))]
      exact ih
  unfold getL
  rw [e1, r.noRef]; rfl
theorem se_meth {o a : Expr} {apos pos : Pos} {io ia : IE} (hx : XOk x) (C : CallOk x n g.C) (IH : ∀ e ie, cE k sc e = some ie → SE x n g sc e ie) (hb : isCallE o = false) (hline : apos.endLine = pos.line) (ho : cE k sc o = some io) (ha : cE k sc a = some ia) :
    SE x n g sc (.Call (.Attribute o (Str.ofString "new_word") apos) [a] [] pos) (.meth 37 io (.cons ia .nil)) := by
  intro A env F m h s K hA ek f R w
  refine meth_ hx IH hb hline ho (cL_one ha) (Nat.le_of_ble_eq_true rfl) hA ek f R w fun v v' h1 s1 rv R1 w1 => ?_
  obtain ⟨⟨l, fs, rfl, e⟩, w1⟩ := w1
  cases rv
  obtain ⟨d, es, nn, p1, p2, nr⟩ := R1.instOf e
  have pg := plainGet_of (hx.pg 3 (Str.ofString "new_word"))
  exact ⟨_, _, _, fun Q pl q => method_fn (od := some (dictOf es nn)) (R1.kin hx) (I := ⟨p1, rfl, rfl, p2⟩) pg.1 pg.2 hx.nw (hx.tf 37) ((congrArg (Option.map _) (lookIn_dict ..)).trans (congrArg (Option.map _) (nr.getL_none new_word_no))) q, fun h X => keeps_K (hx.kf 37) h X, w1,
    fun vs' s2 vs h2 l2 rvs R2 w2 => call_of C (hA.le (Nat.le_succ n)) R2 (.cons (.ref l) rvs) w2⟩
theorem se_methods {o : Expr} {name : Str} {apos pos : Pos} {args : List Expr} {ie : IE} (hx : XOk x) (C : CallOk x n g.C) (IH : ∀ e ie, cE k sc e = some ie → SE x n g sc e ie) (hc : cE (k + 1) sc (.Call (.Attribute o name apos) args [] pos) = some ie) :
    SE x n g sc (.Call (.Attribute o name apos) args [] pos) ie := by
  rw [q_meth] at hc
  refine ifn hc fun hq hc => obind hc fun io ho hc => ?_
  rw [Bool.or_eq_false_iff] at hq
  have hb := hq.1
  have hline := bne_eq_false_iff_eq.mp hq.2
  induction args using List.casesOn with
  | nil => exact ifs hc fun e hc => osome hc (eq_of_beq e ▸ se_pop hx IH hb hline ho)
  | cons a r => induction r using List.casesOn with
    | nil => exact obind hc fun ia ha hc => ifel hc (fun e hc => osome hc (eq_of_beq e ▸ se_append hx IH hb hline ho ha)) fun _ hc => ifel hc (fun e hc => osome hc (eq_of_beq e ▸ se_get1 hx IH hb hline ho ha)) fun _ hc => ifs hc fun e hc => osome hc (eq_of_beq e ▸ se_meth hx C IH hb hline ho ha)
    | cons b r => induction r using List.casesOn with
      | nil => exact obind hc fun ia ha hc => obind hc fun ib hb2 hc => ifs hc fun e hc => osome hc (eq_of_beq e ▸ se_get2 hx IH hb hline ho ha hb2)
      | cons _ _ => exact none_ne hc
end
end
section
open PySem PySem.W PyProof.Rows
noncomputable def fdel (F : FM) (a : Addr) : FM := fun b => if b = a then none else F b
theorem fdel_same (F : FM) (a : Addr) : fdel F a a = none := if_pos rfl
theorem fdel_ne (F : FM) {a b : Addr} (e : b ≠ a) : fdel F a b = F b := if_neg e
section
variable {x : X} {F : FM} {h : H} {s s' : Shared} {K : KE} {A : Around} {E : Value → Shared → Prop} {hp hp' : Heap} {a I : Addr} {ob : Obj} {i : Nat} {src : Src}
theorem TupKeep.ofExtBut (e : hp.get? a = some ob) (ht : ¬ TupO ob) (hs : Heap.ExtBut a hp hp') : TupKeep hp hp' := fun c o q t => by
  by_cases hc : c = a
  · subst hc; rw [e] at q; cases q; exact absurd t ht
  · exact hs c o hc q
theorem RH.extBut (R : RH x F h hp) (e : F a = some ob) (hb : x.h0.get? a = none) (ht : ¬ TupO ob) (hs : Heap.ExtBut a hp hp') : RH x (fdel F a) h hp' := by
  have k := TupKeep.ofExtBut (R.frz _ _ e) ht hs
  have ne : ∀ c o, h c = some o → c ≠ a := fun c o q hc => by subst hc; rw [R.off _ _ q] at e; cases e
  have nd : ∀ c cl fs C d, h c = some (.inst cl fs) → hp.get? c = some (instObj C d) → d ≠ a := fun c cl fs C d q p hd => by subst hd; rw [(R.dict c cl fs C d q p).2] at e; cases e
  have neF : ∀ c o, fdel F a c = some o → c ≠ a ∧ F c = some o := fun c o q => by
    by_cases hc : c = a
    · subst hc; rw [fdel_same] at q; cases q
    · rw [fdel_ne F hc] at q; exact ⟨hc, q⟩
  have back : ∀ c cl fs C d, h c = some (.inst cl fs) → hp'.get? c = some (instObj C d) → hp.get? c = some (instObj C d) := fun c cl fs C d q p => by
    obtain ⟨d0, es, m, p0, _⟩ := R.instOf q
    obtain ⟨rfl, rfl⟩ := instEq (hs _ _ (ne _ _ q) p0) p
    exact p0
  refine ⟨fun c o q => ?_, fun c o q => ?_, fun c o q => ?_, fun c o q => ?_, fun c cl fs C d q p => ?_, fun c1 c2 c fs c' fs' C C' d e1 e2 e3 e4 => ?_⟩
  · have hc : c ≠ a := fun hc => by subst hc; rw [q] at hb; cases hb
    rw [fdel_ne F hc]; exact R.base c o q
  · obtain ⟨hc, q⟩ := neF c o q
    exact hs _ _ hc (R.frz c o q)
  · have r := R.obj c o q
    have hc := ne c o q
    induction o using Qd.O.casesOn with
    | list xs => obtain ⟨vs, n, l, v⟩ := r; exact ⟨vs, n, hs _ _ hc l, v.later k⟩
    | dict es => obtain ⟨kvs, ⟨od, ents, ep, ho, r⟩, v⟩ := r; exact ⟨kvs, ⟨od, ents, ep, hs _ _ hc ho, r⟩, v.later k⟩
    | inst cl fs => obtain ⟨d, es, m, e1, n, r⟩ := r; exact ⟨d, es, m, hs _ _ hc e1, hs _ _ (nd _ _ _ _ _ q e1) n, r.later k⟩
  · rw [fdel_ne F (ne c o q)]; exact R.off c o q
  · have p' := back _ _ _ _ _ q p
    obtain ⟨h1, h2⟩ := R.dict c cl fs C d q p'
    exact ⟨h1, by rw [fdel_ne F (nd _ _ _ _ _ q p')]; exact h2⟩
  · exact R.inj c1 c2 c fs c' fs' C C' d e1 e2 (back _ _ _ _ _ e1 e3) (back _ _ _ _ _ e2 e4)
theorem RH.give {vs : List Value} {xs : List V} {n : Nat} (R : RH x F h hp) (e : F a = some (listOf vs.toArray n)) (hb : x.h0.get? a = none) (r : VRs x hp xs vs) : h a = none ∧ RH x (fdel F a) (hset h a (.list xs)) hp := by
  have ha : h a = none := by
    cases q : h a with
    | none => rfl
    | some o => rw [R.off _ _ q] at e; cases e
  have ne : ∀ c o, h c = some o → c ≠ a := fun c o q hc => by subst hc; rw [ha] at q; cases q
  have nin : ∀ c cl fs, hset h a (.list xs) c = some (.inst cl fs) → c ≠ a ∧ h c = some (.inst cl fs) := fun c cl fs q => by
    by_cases hc : c = a
    · subst hc; rw [hset_same] at q; cases q
    · exact ⟨hc, by rwa [hset_ne h _ hc] at q⟩
  refine ⟨ha, fun c o q => ?_, fun c o q => ?_, fun c o q => ?_, fun c o q => ?_, fun c cl fs C d q p => ?_, fun c1 c2 c fs c' fs' C C' d e1 e2 e3 e4 => R.inj c1 c2 c fs c' fs' C C' d (nin _ _ _ e1).2 (nin _ _ _ e2).2 e3 e4⟩
  · have hc : c ≠ a := fun hc => by subst hc; rw [q] at hb; cases hb
    rw [fdel_ne F hc]; exact R.base c o q
  · by_cases hc : c = a
    · subst hc; rw [fdel_same] at q; cases q
    · rw [fdel_ne F hc] at q; exact R.frz c o q
  · by_cases hc : c = a
    · subst hc; rw [hset_same] at q; cases q; exact ⟨vs, n, R.frz _ _ e, r⟩
    · rw [hset_ne h _ hc] at q; exact R.obj c o q
  · by_cases hc : c = a
    · subst hc; exact fdel_same F c
    · rw [hset_ne h _ hc] at q; rw [fdel_ne F hc]; exact R.off c o q
  · obtain ⟨hc, q⟩ := nin _ _ _ q
    obtain ⟨h1, h2⟩ := R.dict c cl fs C d q p
    have hd : d ≠ a := fun hd => by subst hd; rw [h2] at e; cases e
    exact ⟨by rw [hset_ne h _ hd]; exact h1, by rw [fdel_ne F hd]; exact h2⟩
noncomputable def It (x : X) (hp : Heap) (I : Addr) (i : Nat) : Src → Prop
  | .list l => hp.IsListIter I l i
  | .vals xs => (∃ t vs, IsTupIter hp I t i ∧ IsTup hp t vs.toArray ∧ VRs x hp xs vs) ∨ (∃ n : Nat, xs = ((List.range n).map fun (j : Nat) => V.int (j : Int)) ∧ IsRangeIter hp I (i : Int) ((n : Int) - (i : Int)) 1 ∧ i ≤ n)
theorem It.obj (it : It x hp I i src) : ∃ o, hp.get? I = some o ∧ ¬ TupO o := by
  induction src using Qd.Src.casesOn with
  | list l => obtain ⟨o, e, c, d⟩ := it; exact ⟨o, e, not_tup_cls c (by simp)⟩
  | vals xs =>
    rcases it with ⟨t, vs, ⟨o, e, c, d⟩, _⟩ | ⟨n, _, e, _⟩
    · exact ⟨o, e, not_tup_cls c (by simp)⟩
    · exact ⟨_, e, not_tup_cls (t := .type "range_iterator") rfl (by simp)⟩
theorem It.later (it : It x hp I i src) (k : TupKeep hp hp') (e : hp'.get? I = hp.get? I) : It x hp' I i src := by
  induction src using Qd.Src.casesOn with
  | list l => obtain ⟨o, p, r⟩ := it; exact ⟨o, e.trans p, r⟩
  | vals xs =>
    rcases it with ⟨t, vs, ⟨o, p, r⟩, it, v⟩ | ⟨n, r, p, q⟩
    · exact .inl ⟨t, vs, ⟨o, e.trans p, r⟩, Qd.IsTup.later it k, v.later k⟩
    · exact .inr ⟨n, r, e.trans p, q⟩
theorem op_next_item {v : V} {Q : Option Value → Shared → Prop} (R : RH x F h s.heap) (it : It x s.heap I i src) (hs : srcAt h src i = some (some v))
    (q : ∀ v' hp' tk, Heap.SameBut I s.heap hp' → TupKeep s.heap hp' → It x hp' I (i + 1) src → VR x hp' v v' → Q (some v') { s with heap := hp', toks := tk }) : wpAny (MD x.w) A (pyNext (.ref I)) Q E s := by
  obtain ⟨oI, eI, nI⟩ := it.obj
  induction src using Qd.Src.casesOn with
  | list l =>
    simp only [srcAt] at hs
    split at hs
    · rename_i xs hl
      obtain ⟨vs, n, e, rv⟩ := R.obj l _ hl
      simp only [Option.some.injEq] at hs
      obtain ⟨v', e', rv'⟩ := rv.get hs
      refine wpAny_pyNext_list_item it ⟨_, e, rfl, n, rfl⟩ (by simpa using e') fun hp' it' hs' => ?_
      have k := TupKeep.ofSame hs' eI nI
      exact q v' hp' s.toks hs' k it' (rv'.later k)
    · cases hs
  | vals xs =>
    simp only [srcAt, Option.some.injEq] at hs
    rcases it with ⟨t, vs, it, tp, rv⟩ | ⟨n, rfl, it, hn⟩
    · obtain ⟨v', e', rv'⟩ := rv.get hs
      refine next_tuple_item it tp (by simpa using e') fun hp' it' hs' => ?_
      have k := TupKeep.ofSame hs' eI nI
      exact q v' hp' s.toks hs' k (.inl ⟨t, vs, it', Qd.IsTup.later tp k, rv.later k⟩) (rv'.later k)
    · have hlt : i < n := by
        rw [List.getElem?_map] at hs
        cases e : (List.range n)[i]? with
        | none => rw [e] at hs; cases hs
        | some j => have := (List.getElem?_eq_some_iff.mp e).1; simpa using this
      have hv : v = .int (i : Int) := by
        rw [List.getElem?_map, List.getElem?_range hlt] at hs
        simpa using hs.symm
      subst hv
      refine wpAny_pyNext_range_item it (by (first | lia | omega)) fun hp' it' hs' => ?_
      have k := TupKeep.ofSame hs' eI nI
      refine q _ hp' (s.toks + 1) hs' k (.inr ⟨n, rfl, ?_, hlt⟩) (.int _ _)
      have e1 : ((i + 1 : Nat) : Int) = (i : Int) + 1 := by (first | lia | omega)
      have e2 : (n : Int) - ((i + 1 : Nat) : Int) = (n : Int) - (i : Int) - 1 := by (first | lia | omega)
      rw [e2, e1]
      exact it'
theorem op_next_end {Q : Option Value → Shared → Prop} (hA : A.handled = none) (R : RH x F h s.heap) (it : It x s.heap I i src) (hs : srcAt h src i = some none)
    (q : ∀ hp', Heap.ExtBut I s.heap hp' → Q none { s with heap := hp' }) : wpAny (MD x.w) A (pyNext (.ref I)) Q E s := by
  induction src using Qd.Src.casesOn with
  | list l =>
    simp only [srcAt] at hs
    split at hs
    · rename_i xs hl
      obtain ⟨vs, n, e, rv⟩ := R.obj l _ hl
      simp only [Option.some.injEq] at hs
      have e' := rv.getNone hs
      exact wpAny_pyNext_list_end hA it ⟨_, e, rfl, n, rfl⟩ (by simpa using e') q
    · cases hs
  | vals xs =>
    simp only [srcAt, Option.some.injEq] at hs
    rcases it with ⟨t, vs, it, tp, rv⟩ | ⟨n, rfl, it, hn⟩
    · have e' := rv.getNone hs
      exact next_tuple_end hA it tp (by simpa using e') q
    · have hge : n ≤ i := by simpa using hs
      exact wpAny_pyNext_range_end hA it (by (first | lia | omega)) q
theorem op_iter {v : V} {v' : Value} {Q : Value → Shared → Prop} (R : RH x F h s.heap) (rv : VR x s.heap v v') (hs : srcOf v = some src) (hl : srcAt h src 0 ≠ none)
    (q : ∀ o, It x (s.heap.push o) s.heap.objs.size 0 src → o.isFreed = false → ¬ TupO o → Q (.ref s.heap.objs.size) { s with heap := s.heap.push o }) : wpAny (MD x.w) A (pyIter v') Q E s := by
  cases rv with
  | ref l =>
    cases hs
    simp only [srcAt] at hl
    split at hl
    · rename_i xs e
      obtain ⟨vs, n, e, rv⟩ := R.obj l _ e
      refine wpAny_pyIter_list ⟨_, e, rfl, n, rfl⟩ (q _ ?_ rfl (not_tup_cls (t := .type "list_iterator") rfl (by simp)))
      exact ⟨_, Heap.get?_push_size _ rfl, rfl, rfl⟩
    · exact absurd rfl hl
  | tup t r =>
    cases hs
    refine iter_tuple t (q _ ?_ rfl (not_tup_cls (t := .type "tuple_iterator") rfl (by simp)))
    exact .inl ⟨_, _, ⟨_, Heap.get?_push_size _ rfl, rfl, rfl⟩, t.push _, r.later (Keeps.push _ _).tup⟩
  | _ => cases hs
theorem op_iter_range {k : Int} {t : Tok} {Q : Value → Shared → Prop} (h0 : 0 ≤ k) (h1 : k < 100000)
    (q : ∀ o o2 tk, It x ((s.heap.push o).push o2) (s.heap.objs.size + 1) 0 (rangeSrc k) → o2.isFreed = false → ¬ TupO o2 → Q (.ref (s.heap.objs.size + 1)) { s with heap := (s.heap.push o).push o2, toks := tk }) :
    wpAny (MD x.w) A (call (.type "range") [.int k t]) (fun r s' => wpAny (MD x.w) A (pyIter r) Q E s') E s := by
  refine call_range_1 ?_
  refine wpAny_pyIter_range (IsRange.new ..) (small_one (by decide) (by decide) (by (first | lia | omega)) (by (first | lia | omega))) ?_
  have hsz : Builtin.Range.rangeSize 0 k 1 = (k.toNat : Int) := by rw [rangeSize_one]; split <;> (first | lia | omega)
  have e1 : (s.heap.push { cls := .type "range", data := .fields #[.int 0 s.toks, .int k t, .int 1 (s.toks + 1)] }).objs.size = s.heap.objs.size + 1 := Heap.size_push ..
  rw [hsz]
  have z := q { cls := .type "range", data := .fields #[.int 0 s.toks, .int k t, .int 1 (s.toks + 1)] } { cls := .type "range_iterator", data := .fields #[rawInt 0, rawInt ((k.toNat : Nat) : Int), rawInt 1] } (s.toks + 1 + 1)
    (.inr ⟨k.toNat, rfl, by
      have := Heap.get?_push_size (s.heap.push { cls := .type "range", data := .fields #[.int 0 s.toks, .int k t, .int 1 (s.toks + 1)] }) (o := { cls := .type "range_iterator", data := .fields #[rawInt 0, rawInt ((k.toNat : Nat) : Int), rawInt 1] }) rfl
      rw [e1] at this
      simpa using this, Nat.zero_le _⟩) rfl (not_tup_cls (t := .type "range_iterator") rfl (by simp))
  dsimp only
  rw [e1]
  exact z
end
end
section
open PySem PySem.W PyProof.Rows
theorem closure_go {env : Env} : ∀ (names : List (Str × NameKind)) (acc : List (Str × Addr)), (∀ p ∈ names, p.2 = .free → ∃ c, env.cells.lookup p.1 = some c) →
    ∃ cl, (forIn names acc (fun x r => do
      let (name, kind) := x
      if kind == NameKind.free then do
        let c ← cellOf env name
        pure (ForInStep.yield ((name, c) :: r))
      else pure (ForInStep.yield r)) : Sem (List (Str × Addr))) = pure cl ∧ (∀ y, (y, NameKind.free) ∈ names → cl.lookup y = env.cells.lookup y) ∧ (∀ y, acc.lookup y = env.cells.lookup y → cl.lookup y = env.cells.lookup y)
  | [], acc, _ => ⟨acc, rfl, fun y hy => (nomatch hy), fun y hy => hy⟩
  | (nm, kd) :: r, acc, hf => by
    rw [List.forIn_cons]
    by_cases hk : kd = .free
    · subst hk
      obtain ⟨c, hc⟩ := hf _ List.mem_cons_self rfl
      obtain ⟨cl, h1, h2, h3⟩ := closure_go r ((nm, c) :: acc) fun p hp => hf p (List.mem_cons_of_mem _ hp)
      have hcell : cellOf env nm = pure c := by unfold cellOf; rw [hc]
      refine ⟨cl, ?_, fun y hy => ?_, fun y hy => ?_⟩
      · simp only [beq_self_eq_true, if_true, hcell]
        exact h1
      · rcases List.mem_cons.mp hy with e | hy
        · cases e
          exact h3 nm (by rw [List.lookup_cons_self, hc])
        · exact h2 y hy
      · refine h3 y ?_
        rw [List.lookup_cons]
        split
        · rename_i e
          rw [beq_iff_eq.mp e, hc]
        · exact hy
    · obtain ⟨cl, h1, h2, h3⟩ := closure_go r acc fun p hp => hf p (List.mem_cons_of_mem _ hp)
      refine ⟨cl, ?_, fun y hy => ?_, h3⟩
      · have : (kd == NameKind.free) = false := by simpa using hk
        simp only [this, Bool.false_eq_true, if_false]
        exact h1
      · rcases List.mem_cons.mp hy with e | hy
        · cases e; exact absurd rfl hk
        · exact h2 y hy
theorem closure_ok {env : Env} {scope : Scope} (hf : ∀ p ∈ scope.names, p.2 = .free → ∃ c, env.cells.lookup p.1 = some c) : ∃ cl, closureFor scope env = pure cl ∧ (∀ y, (y, NameKind.free) ∈ scope.names → cl.lookup y = env.cells.lookup y) := by
  obtain ⟨cl, h1, h2, _⟩ := closure_go scope.names [] hf
  refine ⟨cl, ?_, h2⟩
  unfold closureFor
  dsimp only
  exact congrArg (· >>= pure) h1
theorem lookup_mem {α : Type} {l : List (Str × α)} {y : Str} {v : α} (h : l.lookup y = some v) : (y, v) ∈ l := by
  induction l with
  | nil => cases h
  | cons p r ih =>
    obtain ⟨a, b⟩ := p
    rw [List.lookup_cons] at h
    split at h
    · rename_i e
      cases h; rw [beq_iff_eq.mp e]; exact List.mem_cons_self
    · exact List.mem_cons_of_mem _ (ih h)

structure CompScope (sc csc : Scope) (y : Str) : Prop where
  kind : csc.kind = .function
  skind : sc.kind = .function
  own : csc.names.lookup y = some .local
  cells : ∀ p ∈ csc.names, p.2 ≠ .cell
  loc : ∀ p ∈ csc.names, p.2 = .local → csc.names.lookup p.1 = some .local ∧ (p.1 = y ∨ p.1 = ".0")
  fre : ∀ p ∈ csc.names, p.2 = .free → csc.names.lookup p.1 = some .free ∧ sc.names.lookup p.1 = some .cell
  glb : ∀ p ∈ csc.names, p.2 = .globalImplicit → csc.names.lookup p.1 = some .globalImplicit
  exp : ∀ p ∈ csc.names, p.2 ≠ .globalExplicit
  ids : ∀ p ∈ csc.names, p.2 = .free → ∃ i, nid p.1 = some i
theorem okComp_facts {sc csc : Scope} {y : Str} (h : okComp sc csc y = true) : CompScope sc csc y := by
  unfold okComp at h
  simp only [Bool.and_eq_true, beq_iff_eq, List.all_eq_true, Bool.not_eq_true'] at h
  obtain ⟨⟨⟨⟨⟨h1, h2⟩, h3⟩, h4⟩, h5⟩, h6⟩ := h
  refine ⟨h1, h2, h3, fun p hp e => ?_, fun p hp e => ?_, fun p hp e => ?_, fun p hp e => ?_, fun p hp e => ?_, fun p hp e => ?_⟩
  all_goals
    have := h6 p hp
    rw [e] at this
    simp only [Bool.and_eq_true, Bool.or_eq_true, beq_iff_eq, Option.isSome_iff_exists, Bool.false_eq_true] at this
  · exact this
  · exact this.1
  · exact this
  · exact this.2
section
variable {x : X} {n : Nat} {g : G} {F F2 : FM} {h : H} {s s1 s' : Shared} {K : KE} {A : Around} {E : Value → Shared → Prop} {env : Env} {sc csc : Scope} {m : M} {k : Nat} {y : Str} {cl : List (Str × Addr)} {C : Addr}
theorem lookup_map_self {α : Type} {f : Str × α → Str × α} (hf : ∀ p, (f p).1 = p.1) : ∀ (l : List (Str × α)) (z : Str) (v : α), l.lookup z = some v → (l.map f).lookup z = some (f (z, v)).2
  | [], z, v, h => by cases h
  | (a, b) :: r, z, v, h => by
    rw [List.lookup_cons] at h
    rw [List.map_cons]
    have e1 : f (a, b) = (a, (f (a, b)).2) := Prod.ext (hf (a, b)) rfl
    rw [e1, List.lookup_cons]
    cases e : z == a with
    | true => rw [e] at h; cases h; have := beq_iff_eq.mp e; subst this; rfl
    | false => rw [e] at h; exact lookup_map_self hf r z v h
noncomputable def relab (env : Env) (p : Str × NameKind) : Str × NameKind := if (p.2 == .free && env.scope.kind == .function && env.kindOf p.1 == some .cell) = true then (p.1, .cell) else (p.1, p.2)
theorem relabel_names (scope : Scope) (env : Env) : (relabel scope env).names = scope.names.map (relab env) := by
  unfold relabel relab; rfl
theorem relab_fst (env : Env) (p : Str × NameKind) : (relab env p).1 = p.1 := by
  unfold relab; split <;> rfl
theorem kindOf_comp (z : Str) (v : NameKind) (h : csc.names.lookup z = some v) : (compEnvC csc cl C env).kindOf z = some (relab env (z, v)).2 := by
  show ((relabel csc env).names.lookup z) = _
  rw [relabel_names]
  exact lookup_map_self (relab_fst env) _ _ _ h
theorem lookup_map_none {α : Type} {f : Str × α → Str × α} (hf : ∀ p, (f p).1 = p.1) : ∀ (l : List (Str × α)) (z : Str), l.lookup z = none → (l.map f).lookup z = none
  | [], z, h => rfl
  | (a, b) :: r, z, h => by
    rw [List.lookup_cons] at h
    rw [List.map_cons]
    have e1 : f (a, b) = (a, (f (a, b)).2) := Prod.ext (hf (a, b)) rfl
    rw [e1, List.lookup_cons]
    cases e : z == a with
    | true => rw [e] at h; cases h
    | false => rw [e] at h; exact lookup_map_none hf r z h
theorem kindOf_comp_inv (z : Str) (kd : NameKind) (h : (compEnvC csc cl C env).kindOf z = some kd) : ∃ v, csc.names.lookup z = some v ∧ kd = (relab env (z, v)).2 := by
  cases e : csc.names.lookup z with
  | none =>
    have : (compEnvC csc cl C env).kindOf z = none := by
      show ((relabel csc env).names.lookup z) = _
      rw [relabel_names]
      exact lookup_map_none (relab_fst env) _ _ e
    rw [this] at h; cases h
  | some v =>
    rw [kindOf_comp z v e] at h
    exact ⟨v, rfl, (Option.some.inj h).symm⟩
theorem relab_local (z : Str) : (relab env (z, .local)).2 = .local := by unfold relab; simp
theorem relab_glb (z : Str) : (relab env (z, .globalImplicit)).2 = .globalImplicit := by unfold relab; simp
theorem relab_free (ek : EnvOk sc env) (z : Str) (h : sc.names.lookup z = some .cell) : (relab env (z, .free)).2 = .cell := by
  unfold relab; simp [ek.kind, ek.cel z h]
theorem CompScope.envOk (o : CompScope sc csc y) (ek : EnvOk sc env) : EnvOk csc (compEnvC csc cl C env) where
  kind := o.kind
  loc z e := by rw [kindOf_comp z _ e, relab_local]
  cel z e := absurd rfl (o.cells _ (lookup_mem e))
  fre z e := .inl (by rw [kindOf_comp z _ e, relab_free ek z (o.fre _ (lookup_mem e) rfl).2])
  glb z e := by rw [kindOf_comp z _ e, relab_glb]
  globals := ek.globals
  builtins := ek.builtins
theorem nid_inj {y z : Str} {i : Nat} (h : nid y = some i) (h' : nid z = some i) : y = z := by
  have := place_get h
  have e := place_get h'
  rw [this] at e
  exact Option.some.inj e
theorem nid_dot : nid ".0" = none := by decide +kernel
theorem CompScope.closure (o : CompScope sc csc y) (ek : EnvOk sc env) (f : ∀ z i, nid z = some i → (env.kindOf z = some .cell ∨ env.kindOf z = some .free) → ∃ c, env.cells.lookup z = some c) :
    ∃ cl, closureFor csc env = pure cl ∧ (∀ z, csc.names.lookup z = some .free → cl.lookup z = env.cells.lookup z) := by
  obtain ⟨cl, h1, h2⟩ := closure_ok (env := env) (scope := csc) fun p hp e => by
    obtain ⟨i, hi⟩ := o.ids p hp e
    exact f p.1 i hi (.inl (ek.cel _ (o.fre p hp e).2))
  exact ⟨cl, h1, fun z e => h2 z (lookup_mem e)⟩
theorem CompScope.frame (o : CompScope sc csc y) (ek : EnvOk sc env) {i : Nat} (hi : nid y = some i) (f : FrameIn x env m F s.heap) (hcl : ∀ z, csc.names.lookup z = some .free → cl.lookup z = env.cells.lookup z)
    (hF : ∀ a ob, F a = some ob → F2 a = some ob) {oC : Obj} (eC : F2 C = some oC) {mm : Str → Option Value} (ns : s.heap.Ns C mm) {v : V} {v' : Value} (rv : VR x s.heap v v') (hm : mm y = some v') : FrameIn x (compEnvC csc cl C env) (upd m i v) F2 s.heap where
  loc := by
    refine ⟨mm, oC, eC, ns, fun z j hz hk u hu => ?_⟩
    obtain ⟨kd, h1, h2⟩ := kindOf_comp_inv z _ hk
    have hl : kd = .local := by
      induction kd using PySem.NameKind.casesOn with
      | «local» => rfl
      | cell => exact absurd rfl (o.cells _ (lookup_mem h1))
      | free => rw [relab_free ek z (o.fre _ (lookup_mem h1) rfl).2] at h2; cases h2
      | globalExplicit => exact absurd rfl (o.exp _ (lookup_mem h1))
      | globalImplicit => rw [relab_glb] at h2; cases h2
    subst hl
    rcases (o.loc _ (lookup_mem h1) rfl).2 with e | e
    · dsimp only at e
      subst e
      rw [hi] at hz
      cases hz
      simp only [upd, if_true, Option.some.injEq] at hu
      subst hu
      exact ⟨v', hm, rv⟩
    · dsimp only at e
      subst e
      rw [nid_dot] at hz; cases hz
  cel z j hz hk := by
    have hfree : csc.names.lookup z = some .free := by
      rcases hk with hk | hk <;>
      · obtain ⟨kd, h1, h2⟩ := kindOf_comp_inv z _ hk
        induction kd using PySem.NameKind.casesOn with
        | «local» => rw [relab_local] at h2; cases h2
        | cell => exact absurd rfl (o.cells _ (lookup_mem h1))
        | free => exact h1
        | globalExplicit => exact absurd rfl (o.exp _ (lookup_mem h1))
        | globalImplicit => rw [relab_glb] at h2; cases h2
    have hsc := (o.fre _ (lookup_mem hfree) rfl).2
    obtain ⟨c, ob, e1, e2, ov, hc, q⟩ := f.cel z j hz (.inl (ek.cel z hsc))
    refine ⟨c, ob, (hcl z hfree).trans e1, hF _ _ e2, ov, hc, fun u hu => ?_⟩
    have hne : j ≠ i := fun e => by
      subst e
      have := nid_inj hz hi
      subst this
      rw [o.own] at hfree; cases hfree
    simp only [upd, hne, if_false] at hu
    exact q u hu
end
end
section
open PySem PySem.W PyProof.Rows
section
variable {x : X} {n : Nat} {g : G} {F F2 : FM} {h : H} {s s1 s' : Shared} {K : KE} {A : Around} {E : Value → Shared → Prop} {env : Env} {sc csc : Scope} {m : M} {k : Nat} {y : Str} {cl : List (Str × Addr)} {C D I : Addr}
theorem RH.none0 (R : RH x F h s.heap) {a : Addr} (e : F a = none) : x.h0.get? a = none := by
  cases q : x.h0.get? a with
  | none => rfl
  | some o => rw [R.base _ _ q] at e; cases e
theorem ns_data {hp : Heap} {mm : Str → Option Value} (ns : hp.Ns C mm) : ∃ o, hp.get? C = some o ∧ ¬ TupO o := by
  obtain ⟨o, es, ep, e, hd, _⟩ := ns
  exact ⟨o, e, not_tup_dict hd⟩
theorem ne_of {a : Addr} {ob : Obj} (n : F I = none) (e : F a = some ob) : a ≠ I := fun q => none_ne (n.symm.trans (q ▸ e))
noncomputable def CI (x : X) (F : FM) (s0 : Shared) (I C D : Addr) (src : Src) (W : Nat → List V → H → Prop) (s : Shared) : Prop :=
  ∃ F2 h acc accv nn idx oI oC mm, Later s0 s ∧ (∀ a, a ≠ I → a ≠ C → a ≠ D → F2 a = F a) ∧ F2 I = some oI ∧ F2 C = some oC ∧ F2 D = some (listOf (List.toArray accv) nn) ∧ RH x F2 h s.heap ∧ It x s.heap I idx src ∧ s.heap.Ns C mm ∧ VRs x s.heap acc accv ∧ W idx acc h
theorem CI.elim {src : Src} {W : Nat → List V → H → Prop} {P : Prop} (q : CI x F s I C D src W s1) (k : ∀ F2 h acc accv nn idx oI oC mm, Later s s1 → (∀ a, a ≠ I → a ≠ C → a ≠ D → F2 a = F a) → F2 I = some oI → F2 C = some oC → F2 D = some (listOf (List.toArray accv) nn) → RH x F2 h s1.heap → It x s1.heap I idx src → s1.heap.Ns C mm → VRs x s1.heap acc accv → W idx acc h → P) : P :=
  Exists.elim q fun F2 q => q.elim fun h q => q.elim fun acc q => q.elim fun accv q => q.elim fun nn q => q.elim fun idx q => q.elim fun oI q => q.elim fun oC q => q.elim fun mm q =>
    k F2 h acc accv nn idx oI oC mm q.1 q.2.1 q.2.2.1 q.2.2.2.1 q.2.2.2.2.1 q.2.2.2.2.2.1 q.2.2.2.2.2.2.1 q.2.2.2.2.2.2.2.1 q.2.2.2.2.2.2.2.2.1 q.2.2.2.2.2.2.2.2.2
theorem QE.bindN {M : Model} {c : Sem Value} {Q : Value → Shared → Prop} {E' : Value → Shared → Prop} (p : wpAny M A c (QE x F s K) NoE s) (k : ∀ v' s1 v h1, Later s s1 → VR x s1.heap v v' → RH x F h1 s1.heap → K v h1 → Q v' s1) : wpAny M A c Q E' s :=
  wpAny_mono p (fun v' s1 q => q.elim fun v q => q.elim fun h1 q => k v' s1 v h1 q.1 q.2.1 q.2.2.1 q.2.2.2) fun _ _ y => y.elim
theorem size_acc {hp : Heap} {acc : List V} {accv : List Value} (r : VRs x hp acc accv) (l : acc.length < 100000) : accv.toArray.size ≤ sizeLine := by
  have e1 := r.length
  rw [List.size_toArray, sizeLine_eq]; (first | lia | omega)
theorem comp_loop {elt iter : Expr} {px pos : Pos} {i : Nat} {iel : IE} {src : Src} {RR : Value → Addr → Result → Shared → Prop} (o : CompScope sc csc y) (IH : SE x n g csc elt iel) (hA : OkA (n + 1) A) (ek : EnvOk sc env) (hi : nid y = some i)
    (f : FrameIn x env m F s.heap) (R0 : RH x F h s.heap) (hcl : ∀ z, csc.names.lookup z = some .free → cl.lookup z = env.cells.lookup z) (nI : F I = none) (nC : F C = none) (nD : F D = none) (dIC : I ≠ C) (dID : I ≠ D) (dCD : C ≠ D)
    (hRR : ∀ s' h' acc oC, Later s s' → h' D = none → RH x (fset F C oC) (hset h' D (.list acc)) s'.heap → (∃ mm, s'.heap.Ns C mm) → newW (.list acc) K h' → RR (.ref D) C (.ok .next) s')
    {fuel : Nat} {s₁ : Shared} (inv : CI x F s I C D src (fun idx acc h => compW (fun v K h => wE g iel (upd m i v) K h) src fuel idx acc K h) s₁) :
    codeAny (MD x.w) A (.compLoop (.ListComp elt [⟨.Name y px, iter, [], 0⟩] csc pos) 0 (.ref I) (.ref D) (compEnvC csc cl C env)) (RR (.ref D) C) s₁ := by
  refine codeAny_compLoop_list (fun k s' => CI x F s I C D src (fun idx acc h => compW (fun v K h => wE g iel (upd m i v) K h) src k idx acc K h) s') (fun k s' q => q.elim fun F2 h acc accv nn idx oI oC mm l out fI fC fD R it ns vs w => ?_) fuel inv
  induction k using Nat.casesOn with
  | zero => exact w.elim
  | succ k =>
    have le : ∀ a ob, F a = some ob → F2 a = some ob := fun a ob e => (out a (ne_of nI e) (ne_of nC e) (ne_of nD e)).trans e
    have zI := R0.none0 nI
    have zC := R0.none0 nC
    have zD := R0.none0 nD
    refine compW_inv w (fun hsrc hlen w => op_next_end hA.hnd R it hsrc fun hp' he => ?_) fun v hsrc hlen w => op_next_item R it hsrc fun v' hp1 tk hs1 k1 it1 rv1 => ?_
    · obtain ⟨oI', eI', nt⟩ := it.obj
      have kp := TupKeep.ofExtBut eI' nt he
      have eI : F2 I = some oI' := fI.trans ((R.frz _ _ fI).symm.trans eI')
      have q := (R.extBut eI zI nt he).give (a := D) ((fdel_ne F2 (Ne.symm dID)).trans fD) zD (vs.later kp)
      refine hRR { s' with heap := hp' } h acc oC (l.trans ⟨kp, rfl, rfl⟩) q.1 (q.2.less (fun a ob e => (fset_ne F oC (ne_of zC e)).trans (R0.base a ob e)) fun a ob e => ?_) ⟨mm, ns.extBut he (Ne.symm dIC)⟩ w
      by_cases hc : a = C
      · subst hc
        exact (fdel_ne _ dCD).trans ((fdel_ne _ (Ne.symm dIC)).trans (fC.trans ((fset_same ..).symm.trans e)))
      · have e := (fset_ne F oC hc).symm.trans e
        exact (fdel_ne _ (ne_of nD e)).trans ((fdel_ne _ (ne_of nI e)).trans (le a ob e))
    · obtain ⟨oI1, eI1, nt1⟩ := it1.obj
      have R1 := R.updF fI zI hs1 k1 eI1
      have ns1 := ns.sameBut hs1 (Ne.symm dIC)
      obtain ⟨oC1, eC1, ntC1⟩ := ns_data ns1
      have fC1 : fset F2 I oI1 C = some oC1 := (fset_ne F2 oI1 (Ne.symm dIC)).trans (fC.trans ((R.frz _ _ fC).symm.trans ((hs1.2 C (Ne.symm dIC)).symm.trans eC1)))
      refine wpAny_assign_Name (wpAny_storeName_local ((kindOf_comp y _ o.own).trans (congrArg some (relab_local _))) ns1 (fun hp2 ns2 hs2 => ?_) (by simp [compEnvC, relabel, o.kind]))
      have k2 : TupKeep hp1 hp2 := TupKeep.ofSame hs2 eC1 ntC1
      obtain ⟨oC2, eC2, ntC2⟩ := ns_data ns2
      have R2 := R1.updF fC1 zC hs2 k2 eC2
      have l2 : Later s' { s' with heap := hp2, toks := tk + 1 } := ⟨k1.trans k2, rfl, rfl⟩
      have le2 : ∀ a ob, F a = some ob → fset (fset F2 I oI1) C oC2 a = some ob := fun a ob e => (fset_ne _ _ (ne_of nC e)).trans ((fset_ne _ _ (ne_of nI e)).trans (le a ob e))
      refine QE.bindN (IH A _ _ _ _ { s' with heap := hp2, toks := tk + 1 } _ hA (o.envOk ek) (o.frame (s := { s' with heap := hp2, toks := tk + 1 }) ek hi (f.later R0 (R2.less R0.base le2) (l.trans l2).tup) hcl le2 (fset_same _ _ _) ns2 (rv1.later k2) (if_pos rfl)) R2 w) fun r' s3 r h3 l3 rr R3 w3 => ?_
      have fD3 : fset (fset F2 I oI1) C oC2 D = some (listOf accv.toArray nn) := (fset_ne _ _ (Ne.symm dCD)).trans ((fset_ne _ _ (Ne.symm dID)).trans fD)
      have acc3 : VRs x s3.heap acc accv := vs.later (l2.tup.trans l3.tup)
      refine append_at (hsz := size_acc acc3 hlen) (R3.frz _ _ fD3) fun hp4 hs4 eD4 => ?_
      have k4 : TupKeep s3.heap hp4 := TupKeep.ofSame hs4 (R3.frz _ _ fD3) listNotTup
      have gI : fset (fset F2 I oI1) C oC2 I = some oI1 := (fset_ne _ _ dIC).trans (fset_same _ _ _)
      have gC : fset (fset F2 I oI1) C oC2 C = some oC2 := fset_same _ _ _
      have ns4 := ns2.at' (fun ob e => (hs4.2 C dCD).trans ((R3.frz _ _ gC).trans (((R2.frz _ _ gC).symm).trans e)) : ∀ ob, hp2.get? C = some ob → hp4.get? C = some ob)
      exact ⟨k, Nat.lt_succ_self k, _, h3, acc ++ [r], accv ++ [r'], nn + 1, idx + 1, oI1, oC2, _, l.trans (l2.trans (l3.trans ⟨k4, rfl, rfl⟩)), fun a h1 h2 h3 => (fset_ne _ _ h3).trans ((fset_ne _ _ h2).trans ((fset_ne _ _ h1).trans (out a h1 h2 h3))), (fset_ne _ _ dID).trans gI, (fset_ne _ _ dCD).trans gC, fset_same _ _ _,
        R3.updF fD3 zD hs4 k4 (eD4.trans (congrArg (fun z => some (listOf z (nn + 1))) (List.push_toArray accv r'))), (it1.later k2 (hs2.2 I dIC)).later (l3.tup.trans k4) (((hs4.2 I dID).trans (R3.frz _ _ gI)).trans (R2.frz _ _ gI).symm), ns4, (acc3.snoc rr).later k4, w3⟩
theorem comp_block {elt iter : Expr} {px pos : Pos} {i : Nat} {iel : IE} {src : Src} {oI : Obj} {fuel : Nat} {RR : Value → Addr → Result → Shared → Prop} (o : CompScope sc csc y) (IH : SE x n g csc elt iel) (hA : OkA (n + 1) A) (ek : EnvOk sc env) (hi : nid y = some i)
    (f : FrameIn x env m F s.heap) (R0 : RH x (fset F I oI) h s.heap) (nI : F I = none) (zI : x.h0.get? I = none) (it : It x s.heap I 0 src) (hcl : ∀ z, csc.names.lookup z = some .free → cl.lookup z = env.cells.lookup z)
    (w : compW (fun v K h => wE g iel (upd m i v) K h) src fuel 0 [] K h)
    (hRR : ∀ C D s' h' acc oC, F C = none → C ≠ D → Later s s' → h' D = none → RH x (fset F C oC) (hset h' D (.list acc)) s'.heap → (∃ mm, s'.heap.Ns C mm) → newW (.list acc) K h' → RR (.ref D) C (.ok .next) s') :
    wpAny (MD x.w) A (newList []) (fun acc s₃ => wpAny (MD x.w) A (newFunctionEnv csc env.globals cl [] env.qual none .none (some env)) (fun cenv s₄ =>
      codeAny (MD x.w) A (.compStart (.ListComp elt [⟨.Name y px, iter, [], 0⟩] csc pos) 0 (.ref I) acc { cenv with scope := relabel csc env }) (RR acc cenv.locals) s₄) E s₃) E s := by
  refine wpAny_newObj_type (wpAny_newFunctionEnv o.cells (by intro y hy; simp at hy) (fun h₁ hns₁ hsb₁ => ?_) o.kind)
  dsimp only at hns₁ hsb₁ ⊢
  generalize hH2 : s.heap.push { cls := .type "list", dict := none, data := .seq ([] : List Value).toArray } = H2 at hns₁ hsb₁ ⊢
  have hC : H2.objs.size = s.heap.objs.size + 1 := by rw [← hH2, Heap.size_push]
  have hI : I < s.heap.objs.size := Heap.lt_size (R0.frz _ _ (fset_same _ _ _))
  have dID : I ≠ s.heap.objs.size := Nat.ne_of_lt hI
  have dIC : I ≠ H2.objs.size := by rw [hC]; exact Nat.ne_of_lt (Nat.lt_succ_of_lt hI)
  have dCD : H2.objs.size ≠ s.heap.objs.size := by rw [hC]; exact Nat.succ_ne_self _
  have R1 : RH x (fset (fset F I oI) s.heap.objs.size (listOf ([] : List Value).toArray 0)) h H2 := by
    rw [← hH2]; exact R0.pushF rfl
  have R2 := R1.pushF (ob := { cls := .type "dict", data := .dict #[] }) rfl
  have nD0 : fset F I oI s.heap.objs.size = none := R0.freshF
  have nD : F s.heap.objs.size = none := by rwa [fset_ne F oI (Ne.symm dID)] at nD0
  have nC0 : fset (fset F I oI) s.heap.objs.size (listOf ([] : List Value).toArray 0) H2.objs.size = none := R1.freshF
  have nC : F H2.objs.size = none := by rwa [fset_ne _ _ dCD, fset_ne F oI (Ne.symm dIC)] at nC0
  have le : ∀ a ob, F a = some ob → fset F I oI a = some ob := fun a ob e => (fset_ne _ _ (ne_of nI e)).trans e
  have bs : ∀ a ob, x.h0.get? a = some ob → F a = some ob := fun a ob e => (fset_ne _ _ (ne_of zI e)).symm.trans (R0.base a ob e)
  have R0' : RH x F h s.heap := R0.less bs le
  have eD2 : (H2.push { cls := .type "dict", data := .dict #[] }).get? H2.objs.size = some { cls := .type "dict", data := .dict #[] } := Heap.get?_push_size _ rfl
  have k2 : TupKeep (H2.push { cls := .type "dict", data := .dict #[] }) h₁ := TupKeep.ofSame hsb₁ eD2 (not_tup_dict rfl)
  obtain ⟨oC, eC, ntC⟩ := ns_data hns₁
  have R3 := R2.updF (fset_same _ _ _) (R0'.none0 nC) hsb₁ k2 eC
  have ka : TupKeep s.heap H2 := by rw [← hH2]; exact (Keeps.push s.heap _).tup
  have kk : TupKeep s.heap h₁ := (ka.trans (Keeps.push H2 _).tup).trans k2
  have l3 : Later s { s with heap := h₁, toks := s.toks + ([] : List (Str × Value)).length } := ⟨kk, rfl, rfl⟩
  have it3 : It x h₁ I 0 src := it.later kk (by
    have e1 := R0.frz _ _ (fset_same F I oI)
    rw [e1]
    refine (hsb₁.2 I dIC).trans (Heap.get?_push_of_some _ ?_)
    rw [← hH2]; exact Heap.get?_push_of_some _ e1)
  have loop : codeAny (MD x.w) A (.compLoop (.ListComp elt [⟨.Name y px, iter, [], 0⟩] csc pos) 0 (.ref I) (.ref s.heap.objs.size) (compEnvC csc cl H2.objs.size env)) (RR (.ref s.heap.objs.size) H2.objs.size) { s with heap := h₁, toks := s.toks + ([] : List (Str × Value)).length } := by
    refine comp_loop (s := s) o IH hA ek hi f R0' hcl nI nC nD dIC dID dCD (fun s' h' acc oC l e R ns w => hRR _ _ s' h' acc oC nC dCD l e R ns w) ⟨fset (fset (fset (fset F I oI) s.heap.objs.size (listOf ([] : List Value).toArray 0)) H2.objs.size { cls := .type "dict", data := .dict #[] }) H2.objs.size oC,
      h, [], [], 0, 0, oI, oC, _, l3, fun a h1 h2 h3 => (fset_ne _ _ h2).trans ((fset_ne _ _ h2).trans ((fset_ne _ _ h3).trans (fset_ne _ _ h1))), (fset_ne _ _ dIC).trans ((fset_ne _ _ dIC).trans ((fset_ne _ _ dID).trans (fset_same _ _ _))), fset_same _ _ _,
      (fset_ne _ _ (Ne.symm dCD)).trans ((fset_ne _ _ (Ne.symm dCD)).trans (fset_same _ _ _)), R3, it3, hns₁, .nil, w⟩
  refine codeAny_compStart_list loop ?_
  induction src using Qd.Src.casesOn with
  | list l => exact wpAny_pyIter_listiter it3 loop
  | vals xs =>
    rcases it3 with ⟨t, vs, it3, _⟩ | ⟨n, _, it3, _⟩
    · exact wpAny_pyIter_tupleiter it3 loop
    · exact wpAny_pyIter_rangeiter it3 loop
end
end
section
open PySem PySem.W PyProof.Rows
section
variable {x : X} {n : Nat} {g : G} {F F2 : FM} {h : H} {s s1 s' : Shared} {K : KE} {A : Around} {E : Value → Shared → Prop} {env : Env} {sc csc : Scope} {m : M} {k : Nat} {y : Str} {cl : List (Str × Addr)} {C D I : Addr}
theorem rangeArg_facts {P : Expr → Prop} {e a : Expr} (h : rangeArg sc e = some a) (k : ∀ p pos, glb sc (Str.ofString "range") = true → P (.Call (.Name (Str.ofString "range") p) [a] [] pos)) : P e := by
  induction e using PySem.Expr.casesOn with
  | Call f args kws pos =>
    induction f using PySem.Expr.casesOn with
    | Name y p =>
      induction args using List.casesOn with
      | nil => exact none_ne h
      | cons b r => induction r using List.casesOn with
        | cons _ _ => exact none_ne h
        | nil => induction kws using List.casesOn with
          | cons _ _ => exact none_ne h
          | nil =>
            refine ifs h fun hc e => ?_
            rw [Bool.and_eq_true] at hc
            obtain rfl := eq_of_beq hc.1
            exact Option.some.inj e ▸ k p pos hc.2
    | _ => exact none_ne h
  | _ => exact none_ne h
theorem folded {it : Expr} {z : Value} (h : isSeqE it = false) : foldedSetIterable it env z = pure z := by
  cases it <;> first | exact Eq.refl (pure z) | exact tf h
theorem range_src {a : Expr} {ia : IE} {p pos : Pos} {Kn : Int → H → Prop} {Q : Value → Shared → Prop} (hx : XOk x) (G : GOk x) (IH : ∀ e ie, cE k sc e = some ie → SE x n g sc e ie) (hg : glb sc (Str.ofString "range") = true) (ha : cE k sc a = some ia)
    (hA : OkA (n + 1) A) (ek : EnvOk sc env) (f : FrameIn x env m F s.heap) (R : RH x F h s.heap) (w : wE g ia m (fun v h => ∃ j, v = .int j ∧ 0 ≤ j ∧ j < 100000 ∧ Kn j h) h)
    (q : ∀ j h1 s1 I oI, F I = none → x.h0.get? I = none → Later s s1 → RH x (fset F I oI) h1 s1.heap → It x s1.heap I 0 (rangeSrc j) → Kn j h1 → Q (.ref I) s1) :
    wpAny (MD x.w) A (eval (.Call (.Name (Str.ofString "range") p) [a] [] pos) env) (fun xv s₁ => wpAny (MD x.w) A (pyIter xv) Q NoE s₁) NoE s := by
  obtain ⟨mg, mb, ng, nb, gc, gf, gcl, gb, gt⟩ := G.ex
  have b := gt "range" (by simp)
  refine wpAny_bind (wpAny_Name (op_loadBuiltin ek R ng nb hg b.1 b.2 ?_) (by decide +kernel))
  refine callWith_list (cL_one ha) pos (keeps_machine (by nofun)) (QEs.bind (sound_list IH hA ek [a] _ h s (K1 fun v h => ∃ j, v = .int j ∧ 0 ≤ j ∧ j < 100000 ∧ Kn j h) (cL_one ha) f R w) fun vs' s1 vs h1 _ l1 rvs R1 w1 => ⟨R1.kin hx, ?_⟩)
  refine VRs.one (C := fun vs' => wpAny _ _ (call _ vs') _ _ _) rvs w1 fun v v' r w => ?_
  obtain ⟨j, rfl, j0, j1, w1⟩ := w
  cases r
  refine op_iter_range j0 j1 fun o o2 tk it hf ht => ?_
  have k1 := Keeps.push s1.heap o
  have R2 := R1.keep k1
  have R3 := R2.pushF (ob := o2) hf
  have f2 := R2.freshF
  rw [Heap.size_push] at R3 f2
  exact q j h1 _ (s1.heap.objs.size + 1) o2 f2 (R2.none0 (s := { s1 with heap := s1.heap.push o }) f2) (l1.trans ⟨(k1.trans (Keeps.push _ _)).tup, rfl, rfl⟩) R3 it w1
theorem list_src {e : Expr} {ie : IE} {Kn : Src → H → Prop} {Q : Value → Shared → Prop} (IH : SE x n g sc e ie)
    (hA : OkA (n + 1) A) (ek : EnvOk sc env) (f : FrameIn x env m F s.heap) (R : RH x F h s.heap) (w : wE g ie m (fun v h => ∃ src, srcOf v = some src ∧ Kn src h) h) (hk : ∀ src h, Kn src h → srcAt h src 0 ≠ none)
    (q : ∀ src h1 s1 I oI, F I = none → x.h0.get? I = none → Later s s1 → RH x (fset F I oI) h1 s1.heap → It x s1.heap I 0 src → Kn src h1 → Q (.ref I) s1) :
    wpAny (MD x.w) A (eval e env) (fun xv s₁ => wpAny (MD x.w) A (pyIter xv) Q NoE s₁) NoE s := by
  refine QE.bind (IH A env F m h s _ hA ek f R w) fun v' s1 v h1 l1 rv R1 w1 => ?_
  obtain ⟨src, hs, w1⟩ := w1
  refine op_iter R1 rv hs (hk src h1 w1) fun o it hf ht => ?_
  exact q src h1 _ s1.heap.objs.size o R1.freshF (R1.none0 R1.freshF) (l1.trans ⟨(Keeps.push _ _).tup, rfl, rfl⟩) (R1.pushF hf) it w1
theorem compW_src {body : V → KE → H → Prop} {src : Src} {fuel i : Nat} {acc : List V} (w : compW body src fuel i acc K h) (e : srcAt h src i = none) : False := by
  induction fuel using Nat.casesOn with
  | zero => exact w
  | succ n => exact compW_inv w (fun q _ _ => none_ne (e.symm.trans q)) fun v q _ _ => none_ne (e.symm.trans q)
theorem forW_src {tu : Bool} {xs : List Nat} {B : KS → M → H → Prop} {Ks : KS} {src : Src} {fuel i : Nat} (w : forW tu xs B Ks src fuel i m h) (e : srcAt h src i = none) : False := by
  induction fuel using Nat.casesOn with
  | zero => exact w
  | succ n => exact forW_inv w (fun q _ => none_ne (e.symm.trans q)) fun v m' q _ _ => none_ne (e.symm.trans q)
theorem fset_le {I : Addr} (oI : Obj) (nI : F I = none) (a : Addr) (ob : Obj) (e : F a = some ob) : fset F I oI a = some ob :=
  (fset_ne _ _ fun q => none_ne (nI.symm.trans (q ▸ e))).trans e
theorem RH.unset {I : Addr} {oI : Obj} {h1 : H} {hp hp0 : Heap} (R1 : RH x (fset F I oI) h1 hp) (R : RH x F h hp0) (nI : F I = none) : RH x F h1 hp :=
  R1.less R.base (fset_le oI nI)
theorem comp_all {elt iter : Expr} {px pos : Pos} {ie : IE} {use : Option (Value → Sem Unit)} {Q : Value → Shared → Prop} (hx : XOk x) (G : GOk x) (IH : ∀ sc e ie, cE k sc e = some ie → SE x n g sc e ie)
    (hc : cE (k + 1) sc (.ListComp elt [⟨.Name y px, iter, [], 0⟩] csc pos) = some ie) (hA : OkA (n + 1) A) (ek : EnvOk sc env) (f : FrameIn x env m F s.heap) (R : RH x F h s.heap) (w : wE g ie m K h)
    (hRR : ∀ C D s' h' acc oC, F C = none → C ≠ D → Later s s' → h' D = none → RH x (fset F C oC) (hset h' D (.list acc)) s'.heap → (∃ mm, s'.heap.Ns C mm) → newW (.list acc) K h' → compPost (MD x.w) A NoE use Q (.ref D) C (.ok .next) s') (e : Expr) (he : clausesOf e = [⟨.Name y px, iter, [], 0⟩])
    (hee : e = .ListComp elt [⟨.Name y px, iter, [], 0⟩] csc pos) (p2 : Pos) :
    wpAny (MD x.w) A (comprehension e csc env p2 (newList []) false (eval iter env) use) Q NoE s := by
  rw [q_comp] at hc
  refine ifn hc fun hcond hc => obind hc fun i hi hc => obind hc fun iel hel hc => ?_
  rw [Bool.or_eq_false_iff] at hcond
  have o := okComp_facts (Bool.not_eq_eq_eq_not.mp hcond.1)
  obtain ⟨cl, hclos, hcl⟩ := o.closure ek fun z j hz hk => let ⟨c, _, e, _⟩ := f.cel z j hz hk; ⟨c, e⟩
  subst hee
  generalize har : rangeArg sc iter = ra at hc
  induction ra using Option.casesOn with
  | some a =>
    revert w
    refine omap (P := fun ie => wE g ie m K h → _) hc fun ia ha w => ?_
    refine rangeArg_facts (P := fun iter => wpAny _ _ (comprehension (.ListComp elt [⟨.Name y px, iter, [], 0⟩] csc pos) csc env p2 (newList []) false (eval iter env) use) Q NoE s) har fun rp rpos hg => ?_
    refine wpAny_comprehension_free rfl (fun _ => rfl) hclos o.kind (fun z hz e => (o.loc z hz e).1) ?_
    exact range_src hx G (IH sc) hg ha hA ek f R w fun j h1 s1 I oI nI zI l1 R1 it ⟨fuel, w1⟩ => comp_block (RR := fun acc C => compPost (MD x.w) A NoE use Q acc C) o (IH csc _ _ hel) hA ek hi (f.later R (R1.unset R nI) l1.tup) R1 nI zI it hcl w1 fun C D s' h' acc oC a b l c d e f => hRR C D s' h' acc oC a b (l1.trans l) c d e f
  | none =>
    refine ifn hc fun hseq hc => ?_
    revert w
    refine omap (P := fun ie => wE g ie m K h → _) hc fun it hit w => ?_
    refine wpAny_comprehension_free rfl (fun z => folded hseq) hclos o.kind (fun z hz e => (o.loc z hz e).1) ?_
    exact list_src (IH sc _ _ hit) hA ek f R w (fun _ _ ⟨_, q⟩ => compW_src q) fun src h1 s1 I oI nI zI l1 R1 it ⟨fuel, w1⟩ => comp_block (RR := fun acc C => compPost (MD x.w) A NoE use Q acc C) o (IH csc _ _ hel) hA ek hi (f.later R (R1.unset R nI) l1.tup) R1 nI zI it hcl w1 fun C D s' h' acc oC a b l c d e f => hRR C D s' h' acc oC a b (l1.trans l) c d e f
theorem RH.dropC {oC : Obj} {hp' : Heap} {mm : Str → Option Value} (R : RH x (fset F C oC) h s.heap) (nC : F C = none) (bs : ∀ a o, x.h0.get? a = some o → F a = some o) (ns : s.heap.Ns C mm) (hs : Heap.SameBut C s.heap hp') : TupKeep s.heap hp' ∧ RH x F h hp' := by
  obtain ⟨o, e, nt⟩ := ns_data ns
  have e2 := R.frz _ _ (fset_same F C oC)
  rw [e] at e2
  cases e2
  have zC : x.h0.get? C = none := by
    cases q : x.h0.get? C with
    | none => rfl
    | some o => rw [bs _ _ q] at nC; cases nC
  exact ⟨TupKeep.ofSame hs e nt, (R.extBut (fset_same F C oC) zC nt hs.extBut).less bs fun a ob e3 => (fdel_ne _ fun q => none_ne (nC.symm.trans (q ▸ e3))).trans (fset_le oC nC a ob e3)⟩
theorem se_comp {elt iter : Expr} {px pos : Pos} {ie : IE} (hx : XOk x) (G : GOk x) (IH : ∀ sc e ie, cE k sc e = some ie → SE x n g sc e ie)
    (hc : cE (k + 1) sc (.ListComp elt [⟨.Name y px, iter, [], 0⟩] csc pos) = some ie) : SE x n g sc (.ListComp elt [⟨.Name y px, iter, [], 0⟩] csc pos) ie := by
  intro A env F m h s K hA ek f R w
  rw [eval_ListComp]
  refine comp_all (use := none) hx G IH hc hA ek f R w (fun C D s' h' acc oC nC dCD l hD R' ⟨mm, ns⟩ kk => ?_) _ rfl rfl _
  refine ⟨mm, ns, fun h'' hs => ?_⟩
  obtain ⟨k2, R2⟩ := R'.dropC nC R.base ns hs
  exact ⟨.ref D, _, l.trans ⟨k2, rfl, rfl⟩, .ref D, R2, (newW_at kk hD)⟩
end
end
section
open PySem PySem.W PyProof.Rows
section
variable {x : X} {n : Nat} {g : G}
theorem se_bool {k : Nat} {sc : Scope} {op : BoolOp} {vs : List Expr} {p : Pos} {ie : IE} (IH : ∀ e ie, cE k sc e = some ie → SE x n g sc e ie) (IT : ∀ e ie, cE k sc e = some ie → ST x n g sc e ie) (hc : cE (k + 1) sc (.BoolOp op vs p) = some ie) :
    SE x n g sc (.BoolOp op vs p) ie ∧ ST x n g sc (.BoolOp op vs p) ie := by
  refine obind hc fun es hes hb => ⟨fun A env F m h s K hA ek f R w => ?_, fun A env F m h s K hA ek f R w => ?_⟩
  · rw [arm_eval_BoolOp]
    exact boolOp_sound IH hA ek vs es ie h s hes hb f R w
  · rw [arm_isTrue_BoolOp]
    exact allTrue_sound IT hA ek vs es ie h s hes hb f R w
theorem comp_gens {P : List Comprehension → Prop} {k : Nat} {sc csc : Scope} {elt : Expr} {gens : List Comprehension} {p : Pos} {ie : IE} (hc : cE (k + 1) sc (.ListComp elt gens csc p) = some ie) (q : ∀ z px iter, P [⟨.Name z px, iter, [], 0⟩]) : P gens := by
  induction gens using List.casesOn with
  | nil => exact none_ne hc
  | cons c r =>
    induction c using PySem.Comprehension.casesOn with
    | mk t it ifs a =>
    induction t using PySem.Expr.casesOn with
    | Name z px =>
      induction ifs using List.casesOn with
      | nil =>
        induction r using List.casesOn with
        | cons _ _ => induction a using Int.casesOn with
          | negSucc _ => exact none_ne hc
          | ofNat a => cases a <;> exact none_ne hc
        | nil => induction a using Int.casesOn with
          | negSucc _ => exact none_ne hc
          | ofNat a => induction a using Nat.casesOn with
            | zero => exact q z px it
            | succ _ => exact none_ne hc
      | cons _ _ => exact none_ne hc
    | _ => exact none_ne hc
theorem both {sc : Scope} {e : Expr} {ie : IE} (hr : ∀ e', e' = e → ∀ env whole, isTrue e env whole = (do
    let v ← whole
    standAt e.pos
    holding [v] (truthy v))) (z : SE x n g sc e ie) : SE x n g sc e ie ∧ ST x n g sc e ie := ⟨z, st_of z (hr e rfl)⟩
theorem sound_e (hx : XOk x) (G : GOk x) (hsc : g.sc = x.sc) (C : CallOk x n g.C) : ∀ (k : Nat) (sc : Scope) (e : Expr) (ie : IE), cE k sc e = some ie → SE x n g sc e ie ∧ ST x n g sc e ie := by
  intro k
  induction k with
  | zero => intro sc e ie hc; exact none_ne hc
  | succ k ih =>
    intro sc e ie hc
    have IH : ∀ sc e ie, cE k sc e = some ie → SE x n g sc e ie := fun sc e ie h => (ih sc e ie h).1
    induction e using PySem.Expr.casesOn with
    | BoolOp op vs p => exact se_bool (IH sc) (fun e ie h => (ih sc e ie h).2) hc
    | BinOp l op r p => exact both (fun _ _ _ _ => rfl) (se_bin (IH sc) hc)
    | Dict ks vs p =>
      induction ks using List.casesOn with
      | nil => induction vs using List.casesOn with
        | nil => exact both (fun _ _ _ _ => rfl) (se_dict hc)
        | cons _ _ => exact none_ne hc
      | cons _ _ => exact none_ne hc
    | ListComp elt gens csc p =>
      revert hc
      refine fun hc => comp_gens (P := fun gens => cE (k + 1) sc (.ListComp elt gens csc p) = some ie → SE x n g sc (.ListComp elt gens csc p) ie ∧ ST x n g sc (.ListComp elt gens csc p) ie) hc (fun y px iter hc => both (fun _ _ _ _ => rfl) (se_comp hx G IH hc)) hc
    | Compare l ops rs p =>
      induction ops using List.casesOn with
      | nil => exact none_ne hc
      | cons op r1 =>
        induction r1 using List.casesOn with
        | cons _ _ => exact none_ne hc
        | nil =>
          induction rs using List.casesOn with
          | nil => exact none_ne hc
          | cons r r2 =>
            induction r2 using List.casesOn with
            | cons _ _ => exact none_ne hc
            | nil => exact se_cmp hx (IH sc) hc
    | Call fn args kws p =>
      induction fn using PySem.Expr.casesOn with
      | Name y q =>
       induction kws using List.casesOn with
       | cons _ _ => exact none_ne hc
       | nil => exact both (fun _ _ _ _ => rfl) (se_call hx G C (IH sc) hc)
      | Attribute o m ap =>
       induction kws using List.casesOn with
       | cons _ _ => exact none_ne hc
       | nil => exact both (fun _ _ _ _ => rfl) (se_methods hx C (IH sc) hc)
      | _ => exact none_ne hc
    | Constant c k0 p => exact both (fun _ _ _ _ => rfl) (se_const hc)
    | Attribute v a p => exact both (fun _ _ _ _ => rfl) (se_attr hx (IH sc) hc)
    | Subscript v sl p => exact both (fun _ _ _ _ => rfl) (se_sub hx hsc (IH sc) hc)
    | Name y p => exact both (fun _ _ _ _ => rfl) (se_name G hc)
    | List es p => exact both (fun _ _ _ _ => rfl) (se_list (IH sc) hc)
    | Tuple es k0 p => exact both (fun _ _ _ _ => rfl) (se_tuple (IH sc) hc)
    | _ => exact none_ne hc
end
end
section
open PySem PySem.W PyProof.Rows
inductive FlR (x : X) (hp : Heap) : Fl → Flow → Prop where
  | next : FlR x hp .next .next
  | ret {v : V} {v' : Value} : VR x hp v v' → FlR x hp (.ret v) (.ret v')
noncomputable def FrameAddr (env : Env) (a : Addr) : Prop := a = env.locals ∨ ∃ y i, nid y = some i ∧ (env.kindOf y = some .cell ∨ env.kindOf y = some .free) ∧ env.cells.lookup y = some a
structure FrOk (x : X) (env : Env) : Prop where
  base : ∀ a, FrameAddr env a → x.h0.get? a = none
  loc : ∀ y i c, nid y = some i → (env.kindOf y = some .cell ∨ env.kindOf y = some .free) → env.cells.lookup y = some c → c ≠ env.locals
  inj : ∀ y z i j c, nid y = some i → nid z = some j → (env.kindOf y = some .cell ∨ env.kindOf y = some .free) → (env.kindOf z = some .cell ∨ env.kindOf z = some .free) → env.cells.lookup y = some c → env.cells.lookup z = some c → y = z
noncomputable def Touch (env : Env) (F F' : FM) : Prop := ∀ a, ¬ FrameAddr env a → F' a = F a
theorem Touch.refl (env : Env) (F : FM) : Touch env F F := fun _ _ => rfl
theorem Touch.trans {env : Env} {F F' F'' : FM} (a : Touch env F F') (b : Touch env F' F'') : Touch env F F'' := fun c h => (b c h).trans (a c h)
noncomputable def QS (x : X) (env : Env) (F : FM) (s : Shared) (K : KS) (fl' : Flow) (s' : Shared) : Prop :=
  ∃ fl m' h' F', Later s s' ∧ FrameIn x env m' F' s'.heap ∧ Touch env F F' ∧ RH x F' h' s'.heap ∧ FlR x s'.heap fl fl' ∧ K fl m' h'
noncomputable def SS (x : X) (n : Nat) (g : G) (sc : Scope) (st : Stmt) (is : IS) : Prop :=
  ∀ (A : Around) (env : Env) (F : FM) (m : M) (h : H) (s : Shared) (K : KS), OkA (n + 1) A → EnvOk sc env → FrOk x env → FrameIn x env m F s.heap → RH x F h s.heap → wS g is K m h →
    wpAny (MD x.w) A (exec st env) (QS x env F s K) NoE s
noncomputable def SSs (x : X) (n : Nat) (g : G) (sc : Scope) (st : List Stmt) (is : ISs) : Prop :=
  ∀ (A : Around) (env : Env) (F : FM) (m : M) (h : H) (s : Shared) (K : KS), OkA (n + 1) A → EnvOk sc env → FrOk x env → FrameIn x env m F s.heap → RH x F h s.heap → wSs g is K m h →
    wpAny (MD x.w) A (execs st env) (QS x env F s K) NoE s
section
variable {x : X} {n : Nat} {g : G} {F F' F2 : FM} {h h' : H} {s s1 s' : Shared} {K : KS} {A : Around} {E : Value → Shared → Prop} {env : Env} {sc : Scope} {m : M} {k : Nat} {y : Str} {hp hp' : Heap}
theorem FrameIn.locE {C : Prop} (f : FrameIn x env m F hp) (k : ∀ mm o, F env.locals = some o → hp.Ns env.locals mm → (∀ y i, nid y = some i → env.kindOf y = some .local → ∀ v, m i = some v → ∃ v', mm y = some v' ∧ VR x hp v v') → C) : C :=
  f.loc.elim fun mm q => q.elim fun o q => k mm o q.1 q.2.1 q.2.2
theorem FrameIn.celE {C : Prop} (f : FrameIn x env m F hp) {y : Str} {i : Nat} (hy : nid y = some i) (hk : env.kindOf y = some .cell ∨ env.kindOf y = some .free) (k : ∀ c o ov, env.cells.lookup y = some c → F c = some o → hp.IsCell c ov → (∀ v, m i = some v → ∃ v', ov = some v' ∧ VR x hp v v') → C) : C :=
  (f.cel y i hy hk).elim fun c q => q.elim fun o q => q.2.2.elim fun ov q2 => k c o ov q.1 q.2.1 q2.1 q2.2
theorem vr_later {ov : Option Value} {v : V} (kp : TupKeep hp hp') (q : ∃ v', ov = some v' ∧ VR x hp v v') : ∃ v', ov = some v' ∧ VR x hp' v v' := q.elim fun v' q => ⟨v', q.1, q.2.later kp⟩
theorem FrameIn.move (f : FrameIn x env m F hp) (hF : ∀ a o, FrameAddr env a → F a = some o → F' a = some o ∧ hp'.get? a = hp.get? a) (kp : TupKeep hp hp') : FrameIn x env m F' hp' where
  loc := f.locE fun mm o e ns q => have z := hF _ _ (.inl rfl) e; ⟨mm, o, z.1, ns.elim fun o2 h => h.elim fun es h => h.elim fun ep h => ⟨o2, es, ep, z.2.trans h.1, h.2⟩, fun y i a b v c => vr_later kp (q y i a b v c)⟩
  cel y i a b := f.celE a b fun c o ov p1 e hc q => have z := hF _ _ (.inr ⟨y, i, a, b, p1⟩) e; ⟨c, o, p1, z.1, ov, hc.elim fun o2 h => ⟨o2, z.2.trans h.1, h.2⟩, fun v w => vr_later kp (q v w)⟩
theorem FrameIn.addr (f : FrameIn x env m F hp) {a : Addr} (h : FrameAddr env a) : ∃ o, F a = some o := by
  rcases h with rfl | ⟨y, i, hy, hk, hc⟩
  · obtain ⟨mm, o, e, _⟩ := f.loc; exact ⟨o, e⟩
  · obtain ⟨c, o, p1, e, _⟩ := f.cel y i hy hk
    rw [hc] at p1; cases p1
    exact ⟨o, e⟩
theorem FrameIn.sub (f : FrameIn x env m F hp) (le : ∀ a o, F a = some o → F' a = some o) : FrameIn x env m F' hp := f.move (fun a o _ e => ⟨le _ _ e, rfl⟩) (.refl _)
theorem QS.elim {fl' : Flow} {C : Prop} (q : QS x env F s K fl' s') (k : ∀ fl m1 h1 F1, Later s s' → FrameIn x env m1 F1 s'.heap → Touch env F F1 → RH x F1 h1 s'.heap → FlR x s'.heap fl fl' → K fl m1 h1 → C) : C :=
  Exists.elim q fun fl q => q.elim fun m1 q => q.elim fun h1 q => q.elim fun F1 q => k fl m1 h1 F1 q.1 q.2.1 q.2.2.1 q.2.2.2.1 q.2.2.2.2.1 q.2.2.2.2.2
theorem QS.bind {M : Model} {c : Sem Flow} {E' : Value → Shared → Prop} {Q : Flow → Shared → Prop} (p : wpAny M A c (QS x env F s K) NoE s) (k : ∀ fl' s1 fl m1 h1 F1, Later s s1 → FrameIn x env m1 F1 s1.heap → Touch env F F1 → RH x F1 h1 s1.heap → FlR x s1.heap fl fl' → K fl m1 h1 → Q fl' s1) : wpAny M A c Q E' s :=
  wpAny_mono p (fun fl' s1 q => q.elim (k fl' s1)) fun _ _ y => y.elim
theorem QS.touch {fl' : Flow} (l : Later s s1) (t : Touch env F F2) (q : QS x env F2 s1 K fl' s') : QS x env F s K fl' s' := q.elim fun fl m1 h1 F1 a b c d => fun r w => ⟨fl, m1, h1, F1, l.trans a, b, t.trans c, d, r, w⟩
theorem QS.later {fl' : Flow} (l : Later s s1) (q : QS x env F s1 K fl' s') : QS x env F s K fl' s' := q.touch l (.refl _ _)
theorem upd_at {m : M} {i j : Nat} {v u : V} {C : Prop} (e : upd m i v j = some u) (k1 : j = i → v = u → C) (k2 : j ≠ i → m j = some u → C) : C := by
  by_cases q : j = i
  · exact k1 q (Option.some.inj ((if_pos q).symm.trans e))
  · exact k2 q ((if_neg q).symm.trans e)
theorem cell_data {c : Addr} {ov : Option Value} (e : hp.IsCell c ov) : ∃ o, hp.get? c = some o ∧ ¬ TupO o := by
  obtain ⟨o, e, hd⟩ := e
  exact ⟨o, e, fun ⟨_, vs, n, q⟩ => by rw [hd] at q; cases q⟩
theorem own_inv {sc : Scope} {y : Str} {i : Nat} (hfree : ∀ p ∈ sc.names, p.2 ≠ .free) (e : own sc y = some i) : nid y = some i ∧ (sc.names.lookup y = some .local ∨ sc.names.lookup y = some .cell) := by
  unfold own at e
  generalize q : sc.names.lookup y = o at e
  induction o using Option.casesOn with
  | none => exact none_ne e
  | some kd => induction kd using PySem.NameKind.casesOn with
    | «local» => exact ⟨e, .inl rfl⟩
    | cell => exact ⟨e, .inr rfl⟩
    | free => exact absurd rfl (hfree _ (lookup_mem q))
    | globalExplicit => exact none_ne e
    | globalImplicit => exact none_ne e
theorem op_store {M : Model} {v : V} {v' : Value} {i : Nat} {Q : Unit → Shared → Prop} (ek : EnvOk sc env) (fo : FrOk x env) (hfree : ∀ p ∈ sc.names, p.2 ≠ .free) (ho : own sc y = some i) (f : FrameIn x env m F s.heap) (R : RH x F h s.heap) (rv : VR x s.heap v v')
    (q : ∀ F' s', Later s s' → FrameIn x env (upd m i v) F' s'.heap → Touch env F F' → RH x F' h s'.heap → Q () s') : wpAny M A (storeName env y v') Q E s := by
  have O := own_inv hfree ho
  have hn := O.1
  refine O.2.elim (fun e => f.locE fun mm o e1 ns g => ?_) fun e => f.celE hn (.inl (ek.cel y e)) fun c oc ov p1 e1 hc g => ?_
  · have hk := ek.loc y e
    obtain ⟨o1, eo, nt⟩ := ns_data ns
    refine wpAny_storeName_local hk ns (fun hp' ns' hs => ?_) (by simp [ek.kind])
    have kp := TupKeep.ofSame hs eo nt
    obtain ⟨o2, e2, nt2⟩ := ns_data ns'
    refine q (fset F env.locals o2) _ ⟨kp, rfl, rfl⟩ ⟨⟨_, o2, fset_same _ _ _, ns', fun z j hz hkz u hu => upd_at hu (fun hj e => ?_) fun hj hu => ?_⟩, fun z j hz hkz => f.celE hz hkz fun c oc ov p1 p2 hc g2 => ?_⟩ (fun a ha => fset_ne _ _ fun e => ha (.inl e)) (R.updF e1 (fo.base _ (.inl rfl)) hs kp e2)
    · subst hj
      exact ⟨v', if_pos (nid_inj hz hn), e ▸ rv.later kp⟩
    · exact (vr_later kp (g z j hz hkz u hu)).imp fun w p => ⟨(if_neg fun q : z = y => hj (Option.some.inj (hz.symm.trans (q ▸ hn)))).trans p.1, p.2⟩
    · have hcl := fo.loc z j c hz hkz p1
      refine ⟨c, oc, p1, (fset_ne _ _ hcl).trans p2, ov, hc.elim fun oo h => ⟨oo, (hs.2 _ hcl).trans h.1, h.2⟩, fun u hu => upd_at hu (fun hj _ => ?_) fun hj hu => vr_later kp (g2 u hu)⟩
      subst hj
      rw [nid_inj hz hn, hk] at hkz
      rcases hkz with hkz | hkz <;> cases hkz
  · have hk := ek.cel y e
    obtain ⟨o1, eo, nt⟩ := cell_data hc
    refine wpAny_storeName_cell ek.kind hk p1 hc fun hp' hc' hs => ?_
    have kp := TupKeep.ofSame hs eo nt
    obtain ⟨o2, e2, nt2⟩ := cell_data hc'
    have hcl := fo.loc y i c hn (.inl hk) p1
    refine q (fset F c o2) _ ⟨kp, rfl, rfl⟩ ⟨f.locE fun mm o e3 ns g3 => ⟨mm, o, (fset_ne _ _ (Ne.symm hcl)).trans e3, ns.sameBut hs (Ne.symm hcl), fun z j hz hkz u hu => upd_at hu (fun hj _ => ?_) fun hj hu => vr_later kp (g3 z j hz hkz u hu)⟩, fun z j hz hkz => ?_⟩ (fun a ha => fset_ne _ _ fun e => ha (.inr ⟨y, i, hn, .inl hk, e ▸ p1⟩)) (R.updF e1 (fo.base _ (.inr ⟨y, i, hn, .inl hk, p1⟩)) hs kp e2)
    · subst hj
      rw [nid_inj hz hn, hk] at hkz
      cases hkz
    · by_cases hj : j = i
      · subst hj
        obtain rfl := nid_inj hz hn
        exact ⟨c, o2, p1, fset_same _ _ _, _, hc', fun u hu => upd_at hu (fun _ e => ⟨v', rfl, e ▸ rv.later kp⟩) fun q _ => absurd rfl q⟩
      · refine f.celE hz hkz fun c2 oc2 ov2 p2 e2' hc2 g2 => ?_
        have hne : c2 ≠ c := fun q => hj (Option.some.inj (hz.symm.trans (fo.inj y z i j c hn hz (.inl hk) hkz p1 (q ▸ p2) ▸ hn)))
        exact ⟨c2, oc2, p2, (fset_ne _ _ hne).trans e2', ov2, hc2.elim fun oo h => ⟨oo, (hs.2 _ hne).trans h.1, h.2⟩, fun u hu => upd_at hu (fun q _ => absurd q hj) fun _ hu => vr_later kp (g2 u hu)⟩
theorem each_name {z : Str} {p : Pos} {r : List Expr} : assignEach (.Name z p :: r) env = (false, assign (.Name z p) env) :: assignEach r env := rfl
theorem names_inv {P : Expr → List Nat → Prop} {e : Expr} {r : List Expr} {is : List Nat} (h : names? sc (e :: r) = some is) (k : ∀ z p i is', own sc z = some i → names? sc r = some is' → P (.Name z p) (i :: is')) : P e is := by
  induction e using PySem.Expr.casesOn with
  | Name z p => exact obind h fun i hi h => omap h fun is' his => k z p i is' hi his
  | _ => exact none_ne h
theorem names_each (elts : List Expr) : ∀ {is : List Nat}, names? sc elts = some is → (assignEach elts env).length = elts.length ∧ is.length = elts.length ∧ (assignEach elts env).findIdx? (·.1) = none := by
  induction elts with
  | nil => intro is h; cases h; exact ⟨rfl, rfl, rfl⟩
  | cons e r ih =>
    intro is h
    refine names_inv (P := fun e is => (assignEach (e :: r) env).length = (e :: r).length ∧ is.length = (e :: r).length ∧ (assignEach (e :: r) env).findIdx? (·.1) = none) h fun z p i is' hi his => ?_
    have q := ih his
    exact ⟨congrArg (· + 1) q.1, congrArg (· + 1) q.2.1, by rw [each_name, List.findIdx?_cons, q.2.2]; rfl⟩
theorem op_storeEach {Mo : Model} (ek : EnvOk sc env) (fo : FrOk x env) (hfree : ∀ p ∈ sc.names, p.2 ≠ .free) (elts : List Expr) : ∀ (is : List Nat) (vs : List V) (vs' : List Value) (F : FM) (m : M) (s : Shared) {Q : Unit → Shared → Prop}, names? sc elts = some is → is.length = vs.length →
    FrameIn x env m F s.heap → RH x F h s.heap → VRs x s.heap vs vs' → (∀ F' s', Later s s' → FrameIn x env (updL m is vs) F' s'.heap → Touch env F F' → RH x F' h s'.heap → Q () s') → wpAny Mo A (assignInOrder ((assignEach elts env).map (·.2)) vs') Q E s := by
  induction elts with
  | nil =>
    intro is vs vs' F m s Q hn hl f R rv q
    cases hn
    induction vs using List.casesOn with
    | nil => exact assignInOrder_nil (q F s (.refl s) f (.refl _ _) R)
    | cons _ _ => cases hl
  | cons e r ih =>
    intro is vs vs' F m s Q hn
    refine names_inv (P := fun e is => is.length = vs.length → FrameIn x env m F s.heap → RH x F h s.heap → VRs x s.heap vs vs' → (∀ F' s', Later s s' → FrameIn x env (updL m is vs) F' s'.heap → Touch env F F' → RH x F' h s'.heap → Q () s') → wpAny Mo A (assignInOrder ((assignEach (e :: r) env).map (·.2)) vs') Q E s) hn fun z p i is' hi his hl f R rv q => ?_
    cases rv with
    | nil => cases hl
    | cons r1 r2 =>
      exact assignInOrder_cons (wpAny_assign_Name (op_store ek fo hfree hi f R r1 fun F1 s1 l1 f1 t1 R1 =>
        ih is' _ _ F1 (upd m i _) s1 his (Nat.succ.inj hl) f1 R1 (r2.later l1.tup) fun F2 s2 l2 f2 t2 R2 => q F2 s2 (l1.trans l2) f2 (t1.trans t2) R2))
theorem op_unpack {elts : List Expr} {is : List Nat} {vs : List V} {t : Value} {k0 : Nat} {p : Pos} {Q : Unit → Shared → Prop} (hA : A.handled = none) (ek : EnvOk sc env) (fo : FrOk x env) (hfree : ∀ p ∈ sc.names, p.2 ≠ .free) (hn : names? sc elts = some is) (hl : vs.length = is.length)
    (f : FrameIn x env m F s.heap) (R : RH x F h s.heap) (rv : VR x s.heap (.tup vs) t) (q : ∀ F' s', Later s s' → FrameIn x env (updL m is vs) F' s'.heap → Touch env F F' → RH x F' h s'.heap → Q () s') :
    wpAny (MD x.w) A (assign (.Tuple elts k0 p) env t) Q E s := by
  obtain ⟨a, b, c⟩ := names_each (env := env) elts hn
  cases rv with
  | tup tp rvs =>
    have hlen := rvs.length
    refine assign_Tuple_tuple hA tp (by simp [a, ← hlen, hl, b]) c fun hp' he => ?_
    have kp : Keeps s.heap hp' := fun b o e => he b o (Nat.ne_of_lt (Heap.lt_size e)) e
    have R1 := R.keep kp
    refine op_storeEach (s := { s with heap := hp' }) ek fo hfree elts is vs _ F m hn hl.symm (f.later R R1 kp.tup) R1 (rvs.later kp.tup) fun F' s' l f' t' R' => ?_
    exact q F' s' ((⟨kp.tup, rfl, rfl⟩ : Later s { s with heap := hp' }).trans l) f' t' R'
end
end
section
open PySem PySem.W PyProof.Rows
section
variable {x : X} {n : Nat} {g : G} {F F' F2 : FM} {h h' : H} {s s1 s' : Shared} {K : KS} {A : Around} {E : Value → Shared → Prop} {env : Env} {sc : Scope} {m : M} {k : Nat} {y : Str} {hp hp' : Heap}
theorem comp_swaps {v : Expr} {t : Option Expr} {l : Nat} (h : isCompE v = false) : swapsWith v t l env = pure false := by
  cases v <;> first | exact Eq.refl (pure false) | exact tf h
theorem comp_sole {v t : Expr} {l : Nat} (h : isCompE v = false) : swapsWithSole [t] v l env = pure false := comp_swaps (t := some t) h
theorem FrameIn.drop {I : Addr} (f : FrameIn x env m F hp) (nFA : ¬ FrameAddr env I) (hs : ∀ a o, a ≠ I → F a = some o → hp'.get? a = hp.get? a) (kp : TupKeep hp hp') : FrameIn x env m (fdel F I) hp' :=
  f.move (fun a o ha e => have q : a ≠ I := fun q => nFA (q ▸ ha); ⟨(fdel_ne _ q).trans e, hs a o q e⟩) kp
theorem touch_drop {I : Addr} (nI : F I = none) (t : ∀ a, ¬ FrameAddr env a → a ≠ I → F2 a = F a) : Touch env F (fdel F2 I) := fun a ha => by
  by_cases hc : a = I
  · subst hc; rw [fdel_same, nI]
  · rw [fdel_ne _ hc]; exact t a ha hc
theorem not_frame {I : Addr} (f : FrameIn x env m F hp) (nI : F I = none) : ¬ FrameAddr env I := fun q => (f.addr q).elim fun o e => none_ne (nI.symm.trans e)
theorem bindT_inv {xs : List Nat} {v : V} {m' : M} {P : V → M → Prop} (h : bindT true xs m v = some m') (k : ∀ vs, vs.length = xs.length → P (.tup vs) (updL m xs vs)) : P v m' := by
  induction v using Qd.V.casesOn with
  | tup vs =>
    by_cases q : vs.length = xs.length
    · exact Option.some.inj ((if_pos q).symm.trans h) ▸ k vs q
    · exact none_ne ((if_neg q).symm.trans h)
  | _ => exact none_ne h
theorem QS.mk {fl : Fl} {fl' : Flow} (l : Later s s') (f : FrameIn x env m F' s'.heap) (t : Touch env F F') (R : RH x F' h' s'.heap) (r : FlR x s'.heap fl fl') (kk : K fl m h') : QS x env F s K fl' s' := ⟨fl, m, h', F', l, f, t, R, r, kk⟩
theorem ss_name {p p2 : Pos} {v : Expr} {i : Nat} {ie : IE} (hfree : ∀ p ∈ sc.names, p.2 ≠ .free) (IH : SE x n g sc v ie) (ho : own sc y = some i) (hcomp : isCompE v = false) : SS x n g sc (.Assign [.Name y p] v p2) (.set i ie) := by
  intro A env F m h s K hA ek fo f R w
  refine wpAny_Assign_Name (QE.bind (IH A env F m h s _ hA ek f R w) fun v' s1 v h1 l1 rv R1 w1 => ?_) (comp_swaps hcomp)
  exact op_store ek fo hfree ho (f.later R R1 l1.tup) R1 rv fun F' s2 l2 f2 t2 R2 => .mk (l1.trans l2) f2 t2 R2 .next w1
theorem ss_comp {p p2 px pos : Pos} {elt iter : Expr} {z : Str} {csc : Scope} {i : Nat} {ie : IE} (hx : XOk x) (G : GOk x) (hfree : ∀ p ∈ sc.names, p.2 ≠ .free) (IH : ∀ sc e ie, cE k sc e = some ie → SE x n g sc e ie)
    (hc : cE (k + 1) sc (.ListComp elt [⟨.Name z px, iter, [], 0⟩] csc pos) = some ie) (ho : own sc y = some i) : SS x n g sc (.Assign [.Name y p] (.ListComp elt [⟨.Name z px, iter, [], 0⟩] csc pos) p2) (.set i ie) := by
  intro A env F m h s K hA ek fo f R w
  have hb : ∃ b, swapsWith (.ListComp elt [⟨.Name z px, iter, [], 0⟩] csc pos) (some (.Name y p)) p2.line env = pure b := ⟨_, rfl⟩
  obtain ⟨b, hb⟩ := hb
  induction b using Bool.casesOn with
  | false =>
    refine wpAny_Assign_Name (QE.bind (se_comp hx G IH hc A env F m h s _ hA ek f R w) fun v' s1 v h1 l1 rv R1 w1 => ?_) hb
    exact op_store ek fo hfree ho (f.later R R1 l1.tup) R1 rv fun F' s2 l2 f2 t2 R2 => .mk (l1.trans l2) f2 t2 R2 .next w1
  | true =>
    rw [exec_Assign_Name_used _ _ _ _ hb]
    refine wpAny_bind (wpAny_standAt (wpAny_bind ?_))
    show wpAny _ A (do let _ ← comprehension (.ListComp elt [⟨.Name z px, iter, [], 0⟩] csc pos) csc env _ (newList []) false (eval iter env) (some (assign (.Name y p) env))) _ _ s
    refine wpAny_bind (wpAny_mono (comp_all (use := some (assign (.Name y p) env)) (Q := fun _ s' => QS x env F s K .next s') hx G IH hc hA ek f R w (fun C D s' h' acc oC nC dCD l hD R' ⟨mm, ns⟩ kk => ?_) _ rfl rfl _) (fun _ s' hq => wpAny_pure (wpAny_pure hq)) fun _ _ e => e)
    have f1 : FrameIn x env m (fset F C oC) s'.heap := (f.later R (R'.unset R nC) l.tup).sub (fset_le oC nC)
    have nFA := not_frame f nC
    refine wpAny_assign_Name (op_store ek fo hfree ho f1 R' (.ref D) fun F1 s2 l2 f2 t2 R2 => ?_)
    have eC : F1 C = some oC := (t2 C nFA).trans (fset_same _ _ _)
    have e3 := R2.frz _ _ eC
    have ns2 : s2.heap.Ns C mm := ns.at' fun ob e => e3.trans ((R'.frz _ _ (fset_same _ _ _)).symm.trans e)
    refine ⟨mm, ns2, fun h'' hs => ?_⟩
    obtain ⟨o4, e4, nt⟩ := ns_data ns2
    rw [e3] at e4
    cases e4
    have kp := TupKeep.ofExtBut e3 nt hs.extBut
    exact .mk (l.trans (l2.trans ⟨kp, rfl, rfl⟩)) (F' := fdel F1 C) (f2.drop nFA (fun a ob h e => hs.2 _ h) kp) (touch_drop nC fun a ha hc => (t2 a ha).trans (fset_ne _ _ hc)) (R2.extBut eC (R.none0 nC) nt hs.extBut) .next (newW_at kk hD)
theorem ss_tuple {p p2 : Pos} {ts : List Expr} {k0 : Nat} {v : Expr} {is : List Nat} {ie : IE} (hfree : ∀ p ∈ sc.names, p.2 ≠ .free) (IH : SE x n g sc v ie) (hn : names? sc ts = some is) (hseq : isSeqE v = false) (hcomp : isCompE v = false) :
    SS x n g sc (.Assign [.Tuple ts k0 p] v p2) (.setT is ie) := by
  intro A env F m h s K hA ek fo f R w
  refine wpAny_Assign_stores (QE.bind (IH A env F m h s _ hA ek f R w) fun v' s1 v h1 l1 rv R1 q => ?_) (comp_sole hcomp) (by cases v <;> first | exact tf hseq | rfl)
  obtain ⟨m', hb, w1⟩ := q
  exact bindT_inv (P := fun v m' => VR x s1.heap v v' → K .next m' h1 → wpAny _ A (assign (.Tuple ts k0 p) env v') _ _ s1) hb (fun vs hl rv w1 => op_unpack hA.hnd ek fo hfree hn hl (f.later R R1 l1.tup) R1 rv fun F' s2 l2 f2 t2 R2 => .mk (l1.trans l2) f2 t2 R2 .next w1) rv w1
theorem ss_attr {p p2 : Pos} {o v : Expr} {a : Str} {i : Nat} {ie io : IE} (hx : XOk x) (IH : SE x n g sc v ie) (IO : SE x n g sc o io) (ha : aid a = some i) (hcomp : isCompE v = false) :
    SS x n g sc (.Assign [.Attribute o a p] v p2) (.setA io i ie) := by
  intro A env F m h s K hA ek fo f R w
  refine wpAny_Assign_stores (QE.bind (IH A env F m h s _ hA ek f R w) fun v' s1 v h1 l1 rv R1 w1 => ?_) (comp_sole hcomp) (by cases v <;> rfl)
  show wpAny _ A (do
    let ov ← holding [v'] (eval o env)
    standAt p.atName
    holding [v', ov] (setAttr ov a v')
    release [v', ov] []) _ _ s1
  refine wpAny_bind (wpAny_holding (QE.bind (IO A env F m h1 s1 _ hA ek (f.later R R1 l1.tup) R1 w1) fun o' s2 vo h2 l2 ro R2 w2 => ?_))
  refine wpAny_bind (wpAny_standAt (wpAny_bind (wpAny_holding (op_setA hx (place_get ha) R2 ro (rv.later l2.tup) w2 fun s3 h3 l3 R3 w3 => wpAny_release ?_))))
  exact .mk ((l1.trans l2).trans l3) (f.later R R3 ((l1.trans l2).trans l3).tup) (.refl _ _) R3 .next w3
theorem ss_sub {p p2 : Pos} {o v i : Expr} {ie io ii : IE} (IH : SE x n g sc v ie) (IO : SE x n g sc o io) (II : SE x n g sc i ii) (hcomp : isCompE v = false) :
    SS x n g sc (.Assign [.Subscript o i p] v p2) (.setI io ii ie) := by
  intro A env F m h s K hA ek fo f R w
  refine wpAny_Assign_stores (QE.bind (IH A env F m h s _ hA ek f R w) fun v' s1 v h1 l1 rv R1 w1 => ?_) (comp_sole hcomp) (by cases v <;> rfl)
  show wpAny _ A (assign (.Subscript o i p) env v') _ _ s1
  rw [arm_assign_Subscript]
  refine wpAny_bind (wpAny_holding (QE.bind (IO A env F m h1 s1 _ hA ek (f.later R R1 l1.tup) R1 w1) fun o' s2 vo h2 l2 ro R2 w2 => ?_))
  refine wpAny_bind (wpAny_holding (QE.bind (II A env F m h2 s2 _ hA ek (f.later R R2 (l1.trans l2).tup) R2 w2) fun i' s3 vi h3 l3 ri R3 w3 => ?_))
  refine wpAny_bind (wpAny_standAt (wpAny_bind (wpAny_holding (op_setI R3 (ro.later l3.tup) ri (rv.later (l2.trans l3).tup) w3 fun s4 h4 l4 R4 w4 => wpAny_release ?_))))
  exact .mk (((l1.trans l2).trans l3).trans l4) (f.later R R4 (((l1.trans l2).trans l3).trans l4).tup) (.refl _ _) R4 .next w4
theorem ss_augV {p p2 : Pos} {v : Expr} {i : Nat} {ie : IE} {op : Operator} {o : BOp} (hfree : ∀ p ∈ sc.names, p.2 ≠ .free) (IH : SE x n g sc v ie) (hop : cAug op = some o) (ho : own sc y = some i) : SS x n g sc (.AugAssign (.Name y p) op v p2) (.augV i o ie) := by
  intro A env F m h s K hA ek fo f R w
  obtain ⟨u, hu, w⟩ := w
  refine wpAny_AugAssign_Name (op_loadOwn ek f ho (own_cd ho) hu fun u' ru => ?_)
  refine QE.bind (IH A env F m h s _ hA ek f R w) fun v' s1 v h1 l1 rv R1 w1 => ?_
  refine QE.bind (op_aug hop R1 (ru.later l1.tup) rv w1) fun r' s2 r h2 l2 rr R2 w2 => ?_
  exact op_store ek fo hfree ho (f.later R R2 (l1.trans l2).tup) R2 rr fun F' s3 l3 f3 t3 R3 => .mk ((l1.trans l2).trans l3) f3 t3 R3 .next w2
theorem ss_augA {p p2 : Pos} {ob v : Expr} {a : Str} {i : Nat} {ie io : IE} {op : Operator} {o : BOp} (hx : XOk x) (IH : SE x n g sc v ie) (IO : SE x n g sc ob io) (hop : cAug op = some o) (ha : aid a = some i) : SS x n g sc (.AugAssign (.Attribute ob a p) op v p2) (.augA io i o ie) := by
  intro A env F m h s K hA ek fo f R w
  rw [arm_exec_AugAssign_2]
  refine wpAny_bind (wpAny_standAt (wpAny_bind (QE.bind (IO A env F m h s _ hA ek f R w) fun o' s1 vo h1 l1 ro R1 w1 => ?_)))
  refine wpAny_bind (wpAny_holding (wpAny_bind (wpAny_standAt (wpAny_bind (QE.bind (op_attr hx (place_get ha) R1 ro w1) fun u' s2 u h2 l2 ru R2 w2 => ?_)))))
  refine wpAny_bind (wpAny_holding (QE.bind (IH A env F m h2 s2 _ hA ek (f.later R R2 (l1.trans l2).tup) R2 w2) fun v' s3 v h3 l3 rv R3 w3 => ?_))
  refine wpAny_bind (wpAny_standAt (wpAny_operateT (QE.bind (op_aug hop R3 (ru.later l3.tup) rv w3) fun r' s4 r h4 l4 rr R4 w4 => ?_)))
  refine wpAny_bind (wpAny_standAt (wpAny_bind (wpAny_holding (op_setA hx (place_get ha) R4 (ro.later ((l2.trans l3).trans l4).tup) rr w4 fun s5 h5 l5 R5 w5 => wpAny_bind (wpAny_release (wpAny_pure ?_))))))
  have ll := (((l1.trans l2).trans l3).trans l4).trans l5
  exact .mk ll (f.later R R5 ll.tup) (.refl _ _) R5 .next w5
theorem ss_augI {p p2 : Pos} {ob v idx : Expr} {ie io ii : IE} {op : Operator} {o : BOp} (IH : SE x n g sc v ie) (IO : SE x n g sc ob io) (II : SE x n g sc idx ii) (hop : cAug op = some o) (hs : isSliceE idx = false) : SS x n g sc (.AugAssign (.Subscript ob idx p) op v p2) (.augI io ii o ie) := by
  intro A env F m h s K hA ek fo f R w
  refine wpAny_AugAssign_Subscript_any (QE.bind (IO A env F m h s _ hA ek f R w) fun o' s1 vo h1 l1 ro R1 w1 => ?_) (by intro _ _ _; cases idx <;> first | exact tf hs | rfl)
  refine QE.bind (II A env F m h1 s1 _ hA ek (f.later R R1 l1.tup) R1 w1) fun i' s2 vi h2 l2 ri R2 w2 => ?_
  refine QE.bind (op_getItem R2 (ro.later l2.tup) ri w2) fun u' s3 u h3 l3 ru R3 w3 => ?_
  refine QE.bind (IH A env F m h3 s3 _ hA ek (f.later R R3 ((l1.trans l2).trans l3).tup) R3 w3) fun v' s4 v h4 l4 rv R4 w4 => ?_
  refine QE.bind (op_aug hop R4 (ru.later l4.tup) rv w4) fun r' s5 r h5 l5 rr R5 w5 => ?_
  have lb := (l3.trans l4).trans l5
  refine op_setI R5 (ro.later (l2.trans lb).tup) (ri.later lb.tup) rr w5 fun s6 h6 l6 R6 w6 => ?_
  have ll := ((l1.trans l2).trans lb).trans l6
  exact .mk ll (f.later R R6 ll.tup) (.refl _ _) R6 .next w6
theorem ss_ret {p : Pos} {v : Expr} {ie : IE} (IH : SE x n g sc v ie) : SS x n g sc (.Return (some v) p) (.ret ie) := by
  intro A env F m h s K hA ek fo f R w
  refine wpAny_Return_some (QE.bind (IH A env F m h s _ hA ek f R w) fun v' s1 v h1 l1 rv R1 w1 => ?_)
  exact .mk l1 (f.later R R1 l1.tup) (.refl _ _) R1 (.ret rv) w1
theorem ss_ret0 {p : Pos} : SS x n g sc (.Return none p) .ret0 := by
  intro A env F m h s K hA ek fo f R w
  exact wpAny_Return_none (.mk (.refl s) f (.refl _ _) R (.ret .none) w)
theorem ss_ex {p : Pos} {v : Expr} {ie : IE} (IH : SE x n g sc v ie) (hcomp : isCompE v = false) : SS x n g sc (.Expr v p) (.ex ie) := by
  intro A env F m h s K hA ek fo f R w
  refine wpAny_Expr_any (QE.bind (IH A env F m h s _ hA ek f R w) fun v' s1 v h1 l1 rv R1 w1 => ?_) (by unfold interactive; rw [ek.kind]; rfl) (comp_swaps hcomp)
  exact .mk l1 (f.later R R1 l1.tup) (.refl _ _) R1 .next w1
end
end
section
open PySem PySem.W PyProof.Rows
section
variable {x : X} {n : Nat} {g : G} {F F' F2 : FM} {h h' : H} {s s1 s' : Shared} {K : KS} {A : Around} {E : Value → Shared → Prop} {env : Env} {sc : Scope} {m : M} {k : Nat} {y : Str} {hp hp' : Heap}
theorem QB.bindN {M : Model} {c : Sem Bool} {Kb : Bool → H → Prop} {Q : Bool → Shared → Prop} {E' : Value → Shared → Prop} (p : wpAny M A c (QB x F s Kb) NoE s) (k : ∀ t s1 h1, Later s s1 → RH x F h1 s1.heap → Kb t h1 → Q t s1) : wpAny M A c Q E' s :=
  wpAny_mono p (fun t s1 q => q.elim fun h1 q => k t s1 h1 q.1 q.2.1 q.2.2) fun _ _ y => y.elim
theorem ss_if {p : Pos} {c : Expr} {ic : IE} {t e : List Stmt} {it ie : ISs} (IT : ST x n g sc c ic) (I1 : SSs x n g sc t it) (I2 : SSs x n g sc e ie) : SS x n g sc (.If c t e p) (.ife ic it ie) := by
  intro A env F m h s K hA ek fo f R w
  refine wpAny_If (QB.bind (IT A env F m h s (fun b h => if b = true then wSs g it K m h else wSs g ie K m h) hA ek f R w) fun b s1 h1 l1 R1 w1 => ?_)
  induction b using Bool.casesOn with
  | true => exact wpAny_mono (I1 A env F m h1 s1 K hA ek fo (f.later R R1 l1.tup) R1 w1) (fun fl s2 q => q.later l1) fun _ _ y => y
  | false => exact wpAny_mono (I2 A env F m h1 s1 K hA ek fo (f.later R R1 l1.tup) R1 w1) (fun fl s2 q => q.later l1) fun _ _ y => y
theorem ss_while {p : Pos} {c : Expr} {ic : IE} {b : List Stmt} {ib : ISs} (IT : ST x n g sc c ic) (IB : SSs x n g sc b ib) : SS x n g sc (.While c b [] p) (.whl ic ib) := by
  intro A env F m h s K hA ek fo f R w
  refine w.elim fun fuel w => wpAny_While (codeAny_whileLoop (fun k s1 => QS x env F s (fun _ m h => whlW (fun m K h => wE g ic m K h) (fun K m h => wSs g ib K m h) K k m h) .next s1) (fun k s1 q => q.elim fun _ m1 h1 F1 l1 f1 t1 R1 _ w1 => ?_) fuel (.mk (.refl s) f (.refl _ _) R .next w))
  induction k using Nat.casesOn with
  | zero => exact w1.elim
  | succ k =>
    refine QB.bindN (IT A env F1 m1 h1 s1 (fun t h => if t = true then wSs g ib (fun fl m h => match fl with
        | .next => whlW (fun m K h => wE g ic m K h) (fun K m h => wSs g ib K m h) K k m h
        | .ret v => K (.ret v) m h) m1 h else K .next m1 h) hA ek f1 R1 w1) fun bb s2 h2 l2 R2 w2 => ?_
    induction bb using Bool.casesOn with
    | true =>
      refine QS.bind (IB A env F1 m1 h2 s2 _ hA ek fo (f1.later R1 R2 l2.tup) R2 w2) fun fl' s3 fl m3 h3 F3 l3 f3 t3 R3 r3 w3 => ?_
      have l := (l1.trans l2).trans l3
      cases r3 with
      | next => exact ⟨k, Nat.lt_succ_self k, .mk l f3 (t1.trans t3) R3 .next w3⟩
      | ret rv => exact .mk l f3 (t1.trans t3) R3 (.ret rv) w3
    | false => exact wpAny_execs_nil (.mk (l1.trans l2) (f1.later R1 R2 l2.tup) t1 R2 .next w2)
theorem codeAny_forLoopT {prog : Program} {w : World} {R : Result → Shared → Prop} {target it body orelse} (I : Nat → Shared → Prop)
    (turn : ∀ n s, I n s → wpAny (model prog w) A (pyNext it) (fun r s₁ => match r with
      | none => wpAny (model prog w) A (execs orelse env) (fun f s₃ => R (.ok f) s₃) (notedBy (model prog w) A env fun e s' => R (.error e) s') s₁
      | some v => wpAny (model prog w) A (letOwnedTupleGo target it v) (fun _ s₁ => wpAny (model prog w) A (assign target env v) (fun _ s₂ => wpAny (model prog w) A (execs body env) (fun f s₃ => match f with
          | .next | .cont => ∃ m, m < n ∧ I m s₃
          | .brk => R (.ok .next) s₃
          | .ret v => R (.ok (.ret v)) s₃) (notedBy (model prog w) A env fun e s' => R (.error e) s') s₂) (notedBy (model prog w) A env fun e s' => R (.error e) s') s₁) (notedBy (model prog w) A env fun e s' => R (.error e) s') s₁) (notedBy (model prog w) A env fun e s' => R (.error e) s') s)
    (n : Nat) (h : I n s) : codeAny (model prog w) A (.forLoop target it body orelse env) R s := by
  refine codeAny_loop' rfl I (fun n s hI => ?_) n h
  show wpAny _ _ ((forTurn target it body orelse env).onRaise (fun x => do noteFrame x env; theTreesLotGoes x)) _ _ s
  refine wpAny_noted ?_
  simp only [forTurn]
  refine wpAny_bind (wpAny_standAt (wpAny_bind (wpAny_onRaise (wpAny_mono (turn n s hI) (fun r s₁ h₁ => ?_) fun _ _ h' => wpAny_standAt h'))))
  induction r using Option.casesOn with
  | none => exact wpAny_pure (.inr ⟨rfl, codeAny_block h₁⟩)
  | some v =>
    refine wpAny_bind (wpAny_mono h₁ (fun _ s₁ h₁ => ?_) fun _ _ h' => h')
    refine wpAny_bind (wpAny_mono h₁ (fun _ s₂ h₂ => wpAny_bind (wpAny_mono h₂ (fun f s₃ h₃ => ?_) fun _ _ h' => h')) fun _ _ h' => h')
    induction f using PySem.Flow.casesOn with
    | next => exact wpAny_pure (.inl ⟨rfl, h₃⟩)
    | cont => exact wpAny_pure (.inl ⟨rfl, h₃⟩)
    | brk => exact wpAny_pure h₃
    | ret v => exact wpAny_pure h₃
theorem own_go {M : Model} {es : List Expr} {k0 : Nat} {p : Pos} {I a : Addr} {o : Obj} {nm : String} {vs : Array Value} {Q : Unit → Shared → Prop} (e : s.heap.get? I = some o) (hc : o.cls = .type nm) (hd : o.data = .fields vs) (hn : ["enumerate", "zip", "dict_itemiterator", "dict_reverseitemiterator", "odict_iterator", "itertools.zip_longest", "itertools.pairwise"].contains nm = false) (q : Q () s) :
    wpAny M A (letOwnedTupleGo (.Tuple es k0 p) (.ref I) (.ref a)) Q E s := by
  refine wpAny_bind (wpAny_load e ?_)
  rw [hc, hd]
  dsimp only
  rw [hn]
  exact wpAny_pure q
theorem letGo_It {M : Model} {target : Expr} {I : Addr} {i : Nat} {src : Src} {v : Value} {Q : Unit → Shared → Prop} (it : It x s.heap I i src) (q : Q () s) : wpAny M A (letOwnedTupleGo target (.ref I) v) Q E s := by
  have key : ∀ es k0 p, wpAny M A (letOwnedTupleGo (.Tuple es k0 p) (.ref I) v) Q E s := fun es k0 p => by
    induction v using PySem.Value.casesOn with
    | ref a =>
      induction src using Qd.Src.casesOn with
      | list l => exact it.elim fun o h => own_go h.1 h.2.1 h.2.2 (by decide) q
      | vals xs => exact it.elim (fun h => h.elim fun t h => h.elim fun vs h => h.1.elim fun o h => own_go h.1 h.2.1 h.2.2 (by decide) q) fun h => h.elim fun n h => own_go h.2.1 rfl rfl (by decide) q
    | _ => exact wpAny_pure q
  induction target using PySem.Expr.casesOn with
  | Tuple es k0 p => exact key es k0 p
  | List es p => exact key es 0 p
  | _ => exact wpAny_pure q
noncomputable def Binds (x : X) (sc : Scope) (target : Expr) (tu : Bool) (xs : List Nat) : Prop :=
  ∀ (A : Around) (env : Env) (F : FM) (m m' : M) (h : H) (s : Shared) (v : V) (v' : Value) (Q : Unit → Shared → Prop) (E : Value → Shared → Prop), A.handled = none → EnvOk sc env → FrOk x env → FrameIn x env m F s.heap → RH x F h s.heap → VR x s.heap v v' → bindT tu xs m v = some m' →
    (∀ F' s', Later s s' → FrameIn x env m' F' s'.heap → Touch env F F' → RH x F' h s'.heap → Q () s') → wpAny (MD x.w) A (assign target env v') Q E s
theorem binds_name {p : Pos} {i : Nat} (hfree : ∀ p ∈ sc.names, p.2 ≠ .free) (ho : own sc y = some i) : Binds x sc (.Name y p) false [i] := by
  intro A env F m m' h s v v' Q E hA ek fo f R rv hb q
  cases hb
  exact wpAny_assign_Name (op_store ek fo hfree ho f R rv q)
theorem binds_tuple {p : Pos} {ts : List Expr} {k0 : Nat} {is : List Nat} (hfree : ∀ p ∈ sc.names, p.2 ≠ .free) (hn : names? sc ts = some is) : Binds x sc (.Tuple ts k0 p) true is := fun A env F m m' h s v v' Q E hA ek fo f R rv hb q =>
  bindT_inv (P := fun v m' => VR x s.heap v v' → (∀ F' s', Later s s' → FrameIn x env m' F' s'.heap → Touch env F F' → RH x F' h s'.heap → Q () s') → wpAny (MD x.w) A (assign (.Tuple ts k0 p) env v') Q E s) hb (fun vs hl rv q => op_unpack hA ek fo hfree hn hl f R rv q) rv q
noncomputable def LI (x : X) (env : Env) (F : FM) (I : Addr) (src : Src) (W : Nat → M → H → Prop) (s s2 : Shared) : Prop :=
  ∃ F' m' h' idx oI, Later s s2 ∧ FrameIn x env m' F' s2.heap ∧ (∀ a, ¬ FrameAddr env a → a ≠ I → F' a = F a) ∧ F' I = some oI ∧ RH x F' h' s2.heap ∧ It x s2.heap I idx src ∧ W idx m' h'
theorem LI.elim {I : Addr} {src : Src} {W : Nat → M → H → Prop} {s2 : Shared} {C : Prop} (q : LI x env F I src W s s2) (k : ∀ F' m' h' idx oI, Later s s2 → FrameIn x env m' F' s2.heap → (∀ a, ¬ FrameAddr env a → a ≠ I → F' a = F a) → F' I = some oI → RH x F' h' s2.heap → It x s2.heap I idx src → W idx m' h' → C) : C :=
  Exists.elim q fun F' q => q.elim fun m' q => q.elim fun h' q => q.elim fun idx q => q.elim fun oI q => k F' m' h' idx oI q.1 q.2.1 q.2.2.1 q.2.2.2.1 q.2.2.2.2.1 q.2.2.2.2.2.1 q.2.2.2.2.2.2
theorem for_loop {target : Expr} {tu : Bool} {xs : List Nat} {b : List Stmt} {ib : ISs} {src : Src} {I : Addr} {oI : Obj} {fuel : Nat} (HB : Binds x sc target tu xs) (IB : SSs x n g sc b ib) (hA : OkA (n + 1) A) (ek : EnvOk sc env) (fo : FrOk x env) (f : FrameIn x env m F s.heap)
    (nI : F I = none) (zI : x.h0.get? I = none) (l : Later s s1) (R1 : RH x (fset F I oI) h s1.heap) (f1 : FrameIn x env m (fset F I oI) s1.heap) (it : It x s1.heap I 0 src) (w : forW tu xs (fun K m h => wSs g ib K m h) K src fuel 0 m h) :
    codeAny (MD x.w) A (.forLoop target (.ref I) b [] env) (fun r s' => match r with | .ok fl => QS x env F s K fl s' | .error e => cameBackBy (MD x.w) A env NoE e s') s1 := by
  have nFA := not_frame f nI
  refine codeAny_forLoopT (fun k s2 => LI x env F I src (fun idx m h => forW tu xs (fun K m h => wSs g ib K m h) K src k idx m h) s s2) (fun k s2 q => q.elim fun F2 m2 h2 idx oI2 l2 f2 t2 eI2 R2 it2 w2 => ?_) fuel
    ⟨fset F I oI, m, h, 0, oI, l, f1, fun a _ ha => fset_ne _ _ ha, fset_same _ _ _, R1, it, w⟩
  induction k using Nat.casesOn with
  | zero => exact w2.elim
  | succ k =>
    have nn : ∀ {G : FM}, G I = none → ∀ a o, G a = some o → a ≠ I := fun n a o e q => none_ne (n.symm.trans (q ▸ e))
    refine forW_inv w2 (fun hsrc w2 => op_next_end hA.hnd R2 it2 hsrc fun hp' he => wpAny_execs_nil ?_) fun v m' hsrc hb w3 => op_next_item R2 it2 hsrc fun v' hp1 tk hs1 k1 it3 rv3 => letGo_It (s := { s2 with heap := hp1, toks := tk }) it3 ?_
    · obtain ⟨oI3, eI3, nt⟩ := it2.obj
      have kp := TupKeep.ofExtBut eI3 nt he
      exact .mk (l2.trans ⟨kp, rfl, rfl⟩) (f2.drop nFA (fun a o hc e => (he _ _ hc (R2.frz _ _ e)).trans (R2.frz _ _ e).symm) kp) (touch_drop nI t2) (R2.extBut ((R2.frz _ _ eI2).symm.trans eI3 ▸ eI2) zI nt he) .next w2
    · obtain ⟨oI3, eI3, nt3⟩ := it3.obj
      have R3 := R2.updF eI2 zI hs1 k1 eI3
      have f3 : FrameIn x env m2 (fset F2 I oI3) hp1 := f2.move (fun a o ha e => have q : a ≠ I := fun q => nFA (q ▸ ha); ⟨(fset_ne _ _ q).trans e, hs1.2 _ q⟩) k1
      refine HB A env (fset F2 I oI3) m2 m' h2 { s2 with heap := hp1, toks := tk } v v' _ _ hA.hnd ek fo f3 R3 rv3 hb fun F4 s4 l4 f4 t4 R4 => ?_
      refine QS.bind (IB A env F4 m' h2 s4 _ hA ek fo f4 R4 w3) fun fl' s5 fl m5 h5 F5 l5 f5 t5 R5 r5 w5 => ?_
      have eI5 : F5 I = some oI3 := (t5 I nFA).trans ((t4 I nFA).trans (fset_same _ _ _))
      have tt : ∀ a, ¬ FrameAddr env a → a ≠ I → F5 a = F a := fun a ha hc => (t5 a ha).trans ((t4 a ha).trans ((fset_ne _ _ hc).trans (t2 a ha hc)))
      have ll : Later s s5 := ((l2.trans (⟨k1, rfl, rfl⟩ : Later s2 { s2 with heap := hp1, toks := tk })).trans l4).trans l5
      cases r5 with
      | next => exact ⟨k, Nat.lt_succ_self k, F5, m5, h5, idx + 1, oI3, ll, f5, tt, eI5, R5, it3.later (l4.tup.trans l5.tup) ((R5.frz _ _ eI5).trans eI3.symm), w5⟩
      | ret rv => exact .mk ll (f5.drop nFA (fun _ _ _ _ => rfl) (.refl _)) (touch_drop nI tt) (R5.less (fun a o e => (fdel_ne _ (nn zI a o e)).trans (R5.base _ _ e)) fun a o e => (fdel_ne _ (nn (fdel_same F5 I) a o e)).symm.trans e) (.ret rv) w5
theorem ss_forR {p px : Pos} {it a : Expr} {b : List Stmt} {ib : ISs} {i : Nat} {ia : IE} (hx : XOk x) (G : GOk x) (hfree : ∀ p ∈ sc.names, p.2 ≠ .free) (IH : ∀ e ie, cE k sc e = some ie → SE x n g sc e ie) (IB : SSs x n g sc b ib) (ho : own sc y = some i)
    (har : rangeArg sc it = some a) (ha : cE k sc a = some ia) : SS x n g sc (.For (.Name y px) it b [] p) (.forR i ia ib) := by
  intro A env F m h s K hA ek fo f R w
  refine rangeArg_facts (P := fun it => wpAny _ _ (exec (.For (.Name y px) it b [] p) env) _ _ _) har fun rp rpos hg => ?_
  exact wpAny_For (range_src hx G IH hg ha hA ek f R w fun j h1 s1 I oI nI zI l1 R1 it ⟨fuel, w1⟩ => for_loop (binds_name hfree ho) IB hA ek fo f nI zI l1 R1 ((f.later R (R1.unset R nI) l1.tup).sub (fset_le oI nI)) it w1)
theorem ss_forL {p : Pos} {target it : Expr} {b : List Stmt} {ib : ISs} {tu : Bool} {xs : List Nat} {ii : IE} (HB : Binds x sc target tu xs) (IH : SE x n g sc it ii) (IB : SSs x n g sc b ib) (hseq : isSeqE it = false) : SS x n g sc (.For target it b [] p) (.forL tu xs ii ib) := by
  intro A env F m h s K hA ek fo f R w
  exact wpAny_For (list_src IH hA ek f R w (fun _ _ ⟨_, q⟩ => forW_src q) fun src h1 s1 I oI nI zI l1 R1 it ⟨fuel, w1⟩ => for_loop HB IB hA ek fo f nI zI l1 R1 ((f.later R (R1.unset R nI) l1.tup).sub (fset_le oI nI)) it w1) fun z => folded hseq
theorem ss_nil : SSs x n g sc [] .nil := fun A env F m h s K hA ek fo f R w => wpAny_execs_nil (.mk (.refl s) f (.refl _ _) R .next w)
theorem ss_cons {st : Stmt} {r : List Stmt} {is : IS} {ir : ISs} (I1 : SS x n g sc st is) (I2 : SSs x n g sc r ir) : SSs x n g sc (st :: r) (.cons is ir) := by
  intro A env F m h s K hA ek fo f R w
  refine wpAny_execs_cons (QS.bind (I1 A env F m h s _ hA ek fo f R w) fun fl' s1 fl m1 h1 F1 l1 f1 t1 R1 r1 w1 => ?_)
  cases r1 with
  | next => exact wpAny_mono (I2 A env F1 m1 h1 s1 K hA ek fo f1 R1 w1) (fun fl s2 q => q.touch l1 t1) fun _ _ y => y
  | ret rv => exact .mk l1 f1 t1 R1 (.ret rv) w1
end
end
section
open PySem PySem.W PyProof.Rows
section
variable {x : X} {n : Nat} {g : G}
theorem sound_ss {sc : Scope} {k : Nat} (I : ∀ st is, cS k sc st = some is → SS x n g sc st is) (l : List Stmt) : ∀ il : ISs, cLs (cS k sc) l = some il → SSs x n g sc l il := by
  induction l with
  | nil => intro il h; exact osome h ss_nil
  | cons st r ih => intro il h; exact obind h fun a ha h => omap h fun b hb => ss_cons (I st a ha) (ih b hb)
theorem ss_asgN {sc : Scope} {k i : Nat} {y : Str} {v : Expr} {e : IE} {p py : Pos} (hx : XOk x) (G : GOk x) (hsc : g.sc = x.sc) (C : CallOk x n g.C) (hfree : ∀ p ∈ sc.names, p.2 ≠ .free) (hi : own sc y = some i) (he : cE k sc v = some e) : SS x n g sc (.Assign [.Name y py] v p) (.set i e) := by
  generalize hv : isCompE v = c
  induction c using Bool.casesOn with
  | false => exact ss_name hfree (sound_e hx G hsc C k sc _ _ he).1 hi hv
  | true =>
    induction k using Nat.casesOn with
    | zero => exact none_ne he
    | succ k =>
      induction v using PySem.Expr.casesOn with
      | ListComp elt gens csc pos => exact comp_gens (P := fun gens => cE (k + 1) sc (.ListComp elt gens csc pos) = some e → SS x n g sc (.Assign [.Name y py] (.ListComp elt gens csc pos) p) (.set i e)) he (fun z px iter he => ss_comp hx G hfree (fun sc e ie h => (sound_e hx G hsc C k sc e ie h).1) he hi) he
      | SetComp _ _ _ _ => exact none_ne he
      | DictComp _ _ _ _ _ => exact none_ne he
      | _ => exact ff hv
theorem or_false {a b : Bool} (h : (a || b) = false) : a = false ∧ b = false := Bool.or_eq_false_iff.mp h
theorem sound_s (hx : XOk x) (G : GOk x) (hsc : g.sc = x.sc) (C : CallOk x n g.C) {sc : Scope} (hfree : ∀ p ∈ sc.names, p.2 ≠ .free) (k : Nat) : ∀ (st : Stmt) (is : IS), cS k sc st = some is → SS x n g sc st is := by
  induction k with
  | zero => intro st is hc; exact none_ne hc
  | succ k ih =>
    intro st is hc
    have IE : ∀ e ie, cE k sc e = some ie → SE x n g sc e ie := fun e ie h => (sound_e hx G hsc C k sc e ie h).1
    have IT : ∀ e ie, cE k sc e = some ie → ST x n g sc e ie := fun e ie h => (sound_e hx G hsc C k sc e ie h).2
    have IL := sound_ss ih
    induction st using PySem.Stmt.casesOn with
    | Assign ts v p =>
      induction ts using List.casesOn with
      | nil => exact none_ne hc
      | cons t ts1 =>
       induction ts1 using List.casesOn with
       | cons _ _ => exact none_ne hc
       | nil =>
        induction t using PySem.Expr.casesOn with
        | Name y py => exact obind hc fun i hi hc => omap hc fun e he => ss_asgN hx G hsc C hfree hi he
        | Tuple ts k0 pt => exact ifn hc fun hq hc => obind hc fun is' his hc => omap hc fun e he => ss_tuple hfree (IE _ _ he) his (or_false hq).1 (or_false hq).2
        | Attribute o a pt => exact ifn hc fun hq hc => obind hc fun e he hc => obind hc fun io ho hc => omap hc fun i hi => ss_attr hx (IE _ _ he) (IE _ _ ho) hi hq
        | Subscript o i pt => exact ifn hc fun hq hc => obind hc fun e he hc => obind hc fun io ho hc => omap hc fun ii hi => ss_sub (IE _ _ he) (IE _ _ ho) (IE _ _ hi) (or_false hq).1
        | _ => exact none_ne hc
    | AugAssign t op v p =>
      refine obind hc fun o hop hc => obind hc fun e he hc => ?_
      induction t using PySem.Expr.casesOn with
      | Name y py => exact omap hc fun i hi => ss_augV hfree (IE _ _ he) hop hi
      | Attribute b a pt => exact obind hc fun io ho hc => omap hc fun i hi => ss_augA hx (IE _ _ he) (IE _ _ ho) hop hi
      | Subscript b i pt => exact ifn hc fun hs hc => obind hc fun io ho hc => omap hc fun ii hi => ss_augI (IE _ _ he) (IE _ _ ho) (IE _ _ hi) hop hs
      | _ => exact none_ne hc
    | If c t e p => exact obind hc fun ic h1 hc => obind hc fun it h2 hc => omap hc fun ie h3 => ss_if (IT _ _ h1) (IL _ _ h2) (IL _ _ h3)
    | While c b o p =>
      induction o using List.casesOn with
      | cons _ _ => exact none_ne hc
      | nil => exact obind hc fun ic h1 hc => omap hc fun ib h2 => ss_while (IT _ _ h1) (IL _ _ h2)
    | For t it b o p =>
      induction o using List.casesOn with
      | cons _ _ => exact none_ne hc
      | nil =>
        refine obind hc fun ib hb hc => ifn hc fun hseq hc => ?_
        induction t using PySem.Expr.casesOn with
        | Name y py =>
          refine obind hc fun i hi hc => ?_
          generalize har : rangeArg sc it = r at hc
          induction r using Option.casesOn with
          | some a => exact omap hc fun ia ha => ss_forR hx G hfree IE (IL _ _ hb) hi har ha
          | none => exact omap hc fun ii hii => ss_forL (binds_name hfree hi) (IE _ _ hii) (IL _ _ hb) hseq
        | Tuple ts k0 pt => exact obind hc fun is' his hc => omap hc fun ii hii => ss_forL (binds_tuple hfree his) (IE _ _ hii) (IL _ _ hb) hseq
        | _ => exact none_ne hc
    | Return v p =>
      induction v using Option.casesOn with
      | none => exact osome hc ss_ret0
      | some v => exact omap hc fun ie he => ss_ret (IE _ _ he)
    | Expr v p => exact ifn hc fun hq hc => omap hc fun ie he => ss_ex (IE _ _ he) hq
    | _ => exact none_ne hc
end
end
section
open PySem PySem.W PyProof.Rows
theorem zip_lookup : ∀ (ns : List Str) (vs : List Value), ns.Nodup → vs.length = ns.length → ∀ n ∈ ns, ((ns.zip vs).lookup n).isSome = true
  | [], vs, _, _, n, h => by cases h
  | a :: r, [], _, hl, n, h => by simp at hl
  | a :: r, v :: vs, hd, hl, n, h => by
    rw [List.zip_cons_cons, List.lookup_cons]
    cases e : n == a with
    | true => rfl
    | false =>
      rcases List.mem_cons.mp h with rfl | h
      · simp at e
      · exact zip_lookup r vs (List.nodup_cons.mp hd).2 (by simpa using hl) n h
theorem fm_congr {α β : Type} {f g : α → Option β} : ∀ (l : List α), (∀ n ∈ l, f n = g n) → l.filterMap f = l.filterMap g
  | [], _ => rfl
  | a :: r, h => by
    rw [List.filterMap_cons, List.filterMap_cons, h a List.mem_cons_self, fm_congr r fun n hn => h n (List.mem_cons_of_mem _ hn)]
theorem zip_filterMap : ∀ (ns : List Str) (vs : List Value), ns.Nodup → vs.length = ns.length → (ns.filterMap fun n => ((ns.zip vs).lookup n).map fun z => (n, z)) = ns.zip vs
  | [], vs, _, _ => by simp
  | a :: r, [], _, hl => by simp at hl
  | a :: r, v :: vs, hd, hl => by
    obtain ⟨h1, h2⟩ := List.nodup_cons.mp hd
    have e1 : (r.filterMap fun n => (((a :: r).zip (v :: vs)).lookup n).map fun z => (n, z)) = r.filterMap fun n => ((r.zip vs).lookup n).map fun z => (n, z) := by
      refine fm_congr _ fun n hn => ?_
      rw [List.zip_cons_cons, List.lookup_cons]
      have : (n == a) = false := by
        cases e : n == a with
        | false => rfl
        | true => rw [beq_iff_eq.mp e] at hn; exact absurd hn h1
      rw [this]
    have e2 : (((a :: r).zip (v :: vs)).lookup a) = some v := by rw [List.zip_cons_cons, List.lookup_cons_self]
    rw [List.filterMap_cons, e1, zip_filterMap r vs h2 (by simpa using hl), e2]
    rfl
theorem ite_go {c : Prop} [Decidable c] {α : Type} {t e r : α} (h : ¬ c) (k : e = r) : (if c then t else e) = r := (if_neg h).trans k
theorem nl_ {α : Type} {l : List α} (h : l.isEmpty = true) {P : List α → Prop} (k : P []) : P l := by
  induction l using List.casesOn with
  | nil => exact k
  | cons _ _ => cases h
theorem no_ {α : Type} {l : Option α} (h : l.isNone = true) {P : Option α → Prop} (k : P none) : P l := by
  induction l using Option.casesOn with
  | none => exact k
  | some _ => cases h
theorem okArgs_go {P : Arguments → Prop} {a : Arguments} (h : okArgs a = true) (k : P ⟨[], a.args, none, [], [], none, []⟩) : P a := by
  obtain ⟨p, as, v, ko, kd, kw, df⟩ := a
  unfold okArgs at h
  simp only [Bool.and_eq_true] at h
  exact nl_ (P := fun p => P ⟨p, as, v, ko, kd, kw, df⟩) h.1.1.1.1.1 <| no_ (P := fun v => P ⟨[], as, v, ko, kd, kw, df⟩) h.1.1.1.1.2 <| nl_ (P := fun ko => P ⟨[], as, none, ko, kd, kw, df⟩) h.1.1.1.2 <|
    nl_ (P := fun kd => P ⟨[], as, none, [], kd, kw, df⟩) h.1.1.2 <| no_ (P := fun kw => P ⟨[], as, none, [], [], kw, df⟩) h.1.2 <| nl_ (P := fun df => P ⟨[], as, none, [], [], none, df⟩) h.2 k
theorem forIn_go {α β γ : Type} {l : List α} {f : α → β → Sem (ForInStep β)} {b : β} {k : β → Sem γ} {r : Sem γ} (e : l = []) (h : k b = r) : (forIn l b f >>= k) = r := by subst e; exact h
theorem not_miss {b : Bool} (h : b = true) : ¬ (!b) = true := by subst h; nofun
theorem not_more {a b : Nat} {c : Bool} (h : a = b) : ¬ (decide (a > b) && c) = true := by subst h; rw [decide_eq_false (Nat.lt_irrefl a)]; nofun
theorem miss_nil (ns : List Str) (vals : List Value) (hnd : ns.Nodup) (hl : vals.length = ns.length) (k : Nat) : ((ns.take k).filter fun n => ((ns.zip vals).lookup n).isNone).isEmpty = true := by
  rw [List.isEmpty_iff, List.filter_eq_nil_iff]
  intro n hn e
  have := zip_lookup ns vals hnd hl n (List.mem_of_mem_take hn)
  rw [Option.isNone_iff_eq_none.mp e] at this
  cases this
theorem bind_plain {fd : FuncData} {vals : List Value} (hp : okArgs fd.params = true) (hd : fd.defaults = .none) (hnd : (fd.params.args.map (·.arg)).Nodup) (hl : vals.length = (fd.params.args.map (·.arg)).length) :
    bindArgs fd ⟨vals, []⟩ = pure ((fd.params.args.map (·.arg)).zip vals) := by
  obtain ⟨nm, qn, params, body, scope, gl, cl, dfs, a1, a2, a3, a4, a5, a6, a7⟩ := fd
  cases hd
  revert hnd hl
  refine okArgs_go (P := fun p => (p.args.map (·.arg)).Nodup → vals.length = (p.args.map (·.arg)).length → bindArgs ⟨nm, qn, p, body, scope, gl, cl, .none, a1, a2, a3, a4, a5, a6, a7⟩ ⟨vals, []⟩ = pure ((p.args.map (·.arg)).zip vals)) hp fun hnd hl => ?_
  refine ite_go (not_more hl) (ite_go (not_miss (miss_nil (params.args.map fun x : Arg => x.arg) vals hnd hl _)) (forIn_go (List.zip_eq_nil_iff.mpr (.inr List.drop_nil)) ?_))
  refine forIn_go rfl ?_
  refine ite_go Bool.noConfusion ?_
  exact congrArg pure ((congrArg (List.filterMap _) (List.append_nil (params.args.map fun x : Arg => x.arg))).trans (zip_filterMap (params.args.map fun x : Arg => x.arg) vals hnd hl))
structure FnAt (x : X) (i : Nat) (a : Arguments) (b : List Stmt) (sc : Scope) : Prop where
  ex : ∃ o fd, x.h0.get? (x.faddr i) = some o ∧ o.data = .func fd ∧ fd.body = .stmts b ∧ fd.scope = sc ∧ fd.params = a ∧ fd.closure = [] ∧ fd.defaults = .none ∧ fd.globals = mainGlobals ∧ fd.builtins = builtinsNs ∧ x.h0.CodeRec fd.code fd.qualname
structure FOk (x : X) : Prop where
  fn : ∀ i nm a b dl rt tp sc ts bd p, theDefs[i]? = some (.FunctionDef nm a b dl rt tp sc ts bd p) → FnAt x i a b sc
  lim : x.h0.NoLimit
theorem cF_inv {s : Stmt} {r : List (Option Nat) × ISs} {P : Stmt → Prop} (h : cF s = some r) (k : ∀ nm a b dl rt tp sc ts bd p, okArgs a = true → okScope sc = true → (cLs (cS 40 sc) b).map (fun d => (a.args.map fun x => own sc x.arg, d)) = some r → P (.FunctionDef nm a b dl rt tp sc ts bd p)) : P s := by
  induction s using PySem.Stmt.casesOn with
  | FunctionDef nm a b dl rt tp sc ts bd p =>
    refine ifs h fun hc h => ?_
    rw [Bool.and_eq_true] at hc
    exact k nm a b dl rt tp sc ts bd p hc.1 hc.2 h
  | _ => exact none_ne h
theorem fn_text {i : Nat} {fn : Fn} {C : Prop} (h : prog i = some fn) (k : ∀ nm a b dl rt tp sc ts bd p, theDefs[i]? = some (.FunctionDef nm a b dl rt tp sc ts bd p) → okArgs a = true → okScope sc = true → cLs (cS 40 sc) b = some fn.body → a.args.map (fun z => own sc z.arg) = fn.params.map some → C) : C := by
  have e : (theDefs.map cF)[i]? = (funs.map wantF)[i]? := by rw [compiled]
  rw [List.getElem?_map, List.getElem?_map, show funs[i]? = some fn from h] at e
  obtain ⟨d, hd, hf⟩ := Option.map_eq_some_iff.mp e
  revert hd
  refine cF_inv (P := fun d => theDefs[i]? = some d → C) hf fun nm a b dl rt tp sc ts bd p h1 h2 h3 hd => ?_
  obtain ⟨d, h4, h5⟩ := Option.map_eq_some_iff.mp h3
  have q := Prod.mk.inj h5
  exact k nm a b dl rt tp sc ts bd p hd h1 h2 (h4.trans (congrArg some q.2)) q.1
theorem params_nodup : ∀ f ∈ funs, f.params.Nodup := by decide +kernel
theorem names_nodup {sc : Scope} : ∀ {ns : List Str} {is : List Nat}, ns.map (own sc) = is.map some → is.Nodup → ns.Nodup
  | [], is, h, hd => List.nodup_nil
  | a :: r, [], h, hd => by simp at h
  | a :: r, i :: is, h, hd => by
    simp only [List.map_cons, List.cons.injEq] at h
    obtain ⟨h1, h2⟩ := h
    obtain ⟨d1, d2⟩ := List.nodup_cons.mp hd
    refine List.nodup_cons.mpr ⟨fun hm => ?_, names_nodup h2 d2⟩
    have : own sc a ∈ is.map some := by rw [← h2]; exact List.mem_map_of_mem hm
    rw [h1] at this
    obtain ⟨j, hj, e⟩ := List.mem_map.mp this
    cases e
    exact d1 hj
theorem cellsFrom_has : ∀ (names : List (Str × NameKind)) (n : Nat) (acc : List (Str × Addr)) (y : Str), ((y, NameKind.cell) ∈ names ∨ (acc.lookup y).isSome = true) → ((cellsFrom n names acc).lookup y).isSome = true
  | [], n, acc, y, h => by
    rcases h with h | h
    · cases h
    · exact h
  | (nm, kd) :: r, n, acc, y, h => by
    unfold cellsFrom
    split
    · rename_i hk
      refine cellsFrom_has r _ _ y ?_
      by_cases e : y = nm
      · subst e; exact .inr (by rw [List.lookup_cons_self]; rfl)
      · rcases h with h | h
        · rcases List.mem_cons.mp h with q | q
          · cases q; exact absurd rfl e
          · exact .inl q
        · refine .inr ?_
          rw [List.lookup_cons]
          have : (y == nm) = false := by simpa using e
          rw [this]; exact h
    · rename_i hk
      refine cellsFrom_has r _ _ y ?_
      rcases h with h | h
      · rcases List.mem_cons.mp h with q | q
        · cases q; exact absurd rfl hk
        · exact .inl q
      · exact .inr h
section
variable {x : X} {F : FM} {h : H} {hp hp' : Heap} {env : Env} {sc : Scope} {s s' s₁ : Shared} {A : Around} {k : Nat}
noncomputable def grow (F : FM) (n : Nat) (hp : Heap) : FM := fun a => if a < n then F a else hp.get? a
theorem RH.grow (R : RH x F h hp) (kp : Keeps hp hp') : RH x (Qd.grow F hp.objs.size hp') h hp' := by
  have R1 := R.keep kp
  have hlt : ∀ c o, h c = some o → c < hp.objs.size := fun c o e => R.lt e
  refine ⟨fun c o e => ?_, fun c o e => ?_, R1.obj, fun c o e => ?_, fun c cl fs C d e q => ?_, R1.inj⟩
  · have e2 := R.base c o e
    show (if c < hp.objs.size then F c else hp'.get? c) = some o
    rw [if_pos (R.ltF e2)]; exact e2
  · unfold Qd.grow at e
    split at e
    · exact R1.frz c o e
    · exact e
  · show (if c < hp.objs.size then F c else hp'.get? c) = none
    rw [if_pos (hlt c o e)]; exact R.off c o e
  · obtain ⟨h1, h2⟩ := R1.dict c cl fs C d e q
    refine ⟨h1, ?_⟩
    obtain ⟨d0, es, m, p, n, _⟩ := R.instOf e
    obtain ⟨_, rfl⟩ := instEq (kp _ _ p) q
    show (if d0 < hp.objs.size then F d0 else hp'.get? d0) = none
    rw [if_pos (Heap.lt_size n)]; exact h2
theorem bind_gen {P : Str → Prop} {st : Str → Value → (Str → Option Value) → Str → Option Value} {fold : List (Str × Value) → (Str → Option Value) → Str → Option Value} (hs : ∀ a v mm y, P y → (if y = a then some v else mm y) = st a v mm y) (f0 : ∀ mm, fold [] mm = mm) (f1 : ∀ a v r mm, fold ((a, v) :: r) mm = fold r (st a v mm))
    (ho : ∀ y i, own sc y = some i → nid y = some i) (vs : List V) : ∀ (vs' : List Value) (rv : VRs x hp vs vs') (ns : List Str) (is : List Nat) (m : M) (mm : Str → Option Value), ns.map (own sc) = is.map some → vs.length = is.length →
    (∀ y i v, nid y = some i → P y → m i = some v → ∃ v', mm y = some v' ∧ VR x hp v v') → ∀ y i v, nid y = some i → P y → updL m is vs i = some v → ∃ v', fold (ns.zip vs') mm y = some v' ∧ VR x hp v v' := by
  induction vs with
  | nil =>
    intro vs' rv ns is m mm hn hl g
    cases rv
    induction is using List.casesOn with
    | nil => rw [List.zip_nil_right, f0]; exact g
    | cons _ _ => cases hl
  | cons v vs ih =>
    intro vs' rv ns is m mm hn hl g
    cases rv with
    | @cons _ v' _ vs' rv rvs =>
    induction is using List.casesOn with
    | nil => cases hl
    | cons i is => induction ns using List.casesOn with
      | nil => cases hn
      | cons a r =>
        have h := List.cons.inj hn
        have hi := ho a i h.1
        rw [List.zip_cons_cons, f1]
        refine ih vs' rvs r is (upd m i v) (st a v' mm) h.2 (Nat.succ.inj hl) fun y j w hy hk hw => ?_
        rw [← hs a v' mm y hk]
        by_cases hj : j = i
        · subst hj
          exact ⟨v', if_pos (nid_inj hy hi), Option.some.inj ((if_pos rfl).symm.trans hw) ▸ rv⟩
        · rw [if_neg fun q : y = a => hj (Option.some.inj (hy.symm.trans (q ▸ hi)))]
          exact g y j w hy hk ((if_neg hj).symm.trans hw)
theorem bind_rel {kindOf : Str → Option NameKind} (ns : List Str) (is : List Nat) (vs : List V) (vs' : List Value) (m : M) (mm cm : Str → Option Value) (hn : ns.map (own sc) = is.map some) (rv : VRs x hp vs vs') (hl : vs.length = is.length)
    (ho : ∀ y i, own sc y = some i → nid y = some i)
    (g1 : ∀ y i v, nid y = some i → kindOf y = some .local → m i = some v → ∃ v', mm y = some v' ∧ VR x hp v v') (g2 : ∀ y i v, nid y = some i → kindOf y ≠ some .local → m i = some v → ∃ v', cm y = some v' ∧ VR x hp v v') :
    (∀ y i v, nid y = some i → kindOf y = some .local → updL m is vs i = some v → ∃ v', bindL kindOf (ns.zip vs') mm y = some v' ∧ VR x hp v v') ∧
    (∀ y i v, nid y = some i → kindOf y ≠ some .local → updL m is vs i = some v → ∃ v', bindC kindOf (ns.zip vs') cm y = some v' ∧ VR x hp v v') :=
  ⟨bind_gen (P := fun y => kindOf y = some .local) (st := fun a v mm => if kindOf a = some .local then fun y => if y = a then some v else mm y else mm) (fun a v mm y h => by
      by_cases q : kindOf a = some .local
      · rw [if_pos q]
      · rw [if_neg q]; exact if_neg fun e : y = a => q (e ▸ h)) (fun _ => rfl) (fun _ _ _ _ => rfl) ho vs vs' rv ns is m mm hn hl g1,
   bind_gen (P := fun y => kindOf y ≠ some .local) (st := fun a v mm => if kindOf a = some .local then mm else fun y => if y = a then some v else mm y) (fun a v mm y h => by
      by_cases q : kindOf a = some .local
      · rw [if_pos q]; exact if_neg fun e : y = a => h (e ▸ q)
      · rw [if_neg q]) (fun _ => rfl) (fun _ _ _ _ => rfl) ho vs vs' rv ns is m cm hn hl g2⟩
end
end
section
open PySem PySem.W PyProof.Rows
section
variable {x : X}
theorem base_lt {F : FM} {h : H} {hp : Heap} (R : RH x F h hp) {a : Addr} (ha : hp.objs.size ≤ a) : x.h0.get? a = none := by
  cases e : x.h0.get? a with
  | none => rfl
  | some o => exact absurd (R.ltF (R.base _ _ e)) (Nat.not_lt.mpr ha)
theorem callN_inv {P : Nat → Option Fn} {sc : List Int} {k f : Nat} {args : List V} {K : KE} {h : H} {C : Prop} (w : callN P sc (k + 1) f args K h) (q : ∀ fn, P f = some fn → args.length = fn.params.length → wSs ⟨sc, callN P sc k⟩ fn.body (fun fl _ h => match fl with
        | .next => K .none h
        | .ret v => K v h) (updL (fun _ => Option.none) fn.params args) h → C) : C := by
  unfold callN at w
  cases e : P f with
  | none => rw [e] at w; exact w.elim
  | some fn => rw [e] at w; exact q fn e w.1 w.2
theorem call_body {F : FM} {h : H} {s s₁ : Shared} {m : M} {A : Around} {env : Env} {sc : Scope} {n : Nat} {g : G} {b : List Stmt} {ib : ISs} {K : KE} {E' : Value → Shared → Prop} (body : SSs x n g sc b ib) (hA : OkA (n + 1) A) (ek : EnvOk sc env) (hloc : env.locals = s.heap.objs.size) (above : ∀ y c, env.cells.lookup y = some c → s.heap.objs.size < c)
    (apart : ∀ y z c, env.cells.lookup y = some c → env.cells.lookup z = some c → y = z) (R : RH x F h s.heap) (Xk : Keeps s.heap s₁.heap) (l1 : Later s s₁) (fin : FrameIn x env m (grow F s.heap.objs.size s₁.heap) s₁.heap)
    (w : wSs g ib (fun fl _ h => match fl with
        | .next => K .none h
        | .ret v => K v h) m h) : wpAny (MD x.w) A (execs b env) (fun f s' => ∃ v', Except.ok (Flow.ret (match f with | .ret v => v | _ => .none)) = (Except.ok (.ret v') : Result) ∧ QE x F s K v' s') E' s₁ := by
  have frame : ∀ a, FrameAddr env a → s.heap.objs.size ≤ a := fun a ha =>
    ha.elim (fun e => Nat.le_of_eq (e.trans hloc).symm) fun q => q.elim fun y q => q.elim fun i q => Nat.le_of_lt (above y a q.2.2)
  have fro : FrOk x env := ⟨fun a ha => base_lt R (frame a ha), fun y i c _ _ e q => Nat.lt_irrefl _ (((q.trans hloc) ▸ above y c e : s.heap.objs.size < s.heap.objs.size)), fun y z i j c _ _ _ _ e q => apart y z c e q⟩
  refine QS.bind (body A env _ m h s₁ _ hA ek fro fin (R.grow Xk) w) fun fl' s2 fl m2 h2 F2 l2 f2 t2 R2 r2 w2 => ?_
  have R3 : RH x F h2 s2.heap := R2.less R.base fun a ob e => (t2 a fun q => absurd (R.ltF e) (Nat.not_lt.mpr (frame a q))).trans ((if_pos (R.ltF e)).trans e)
  cases r2 with
  | next => exact ⟨_, rfl, .none, h2, l1.trans l2, .none, R3, w2⟩
  | ret rv => exact ⟨_, rfl, _, h2, l1.trans l2, rv, R3, w2⟩
theorem okScope_inv {sc : Scope} (h : okScope sc = true) : sc.kind = .function ∧ sc.isGenerator = false ∧ sc.isCoroutine = false ∧ ∀ p ∈ sc.names, p.2 ≠ .free := by
  unfold okScope at h
  simp only [Bool.and_eq_true] at h
  exact ⟨eq_of_beq h.1.1.1, Bool.not_eq_eq_eq_not.mp h.1.1.2, Bool.not_eq_eq_eq_not.mp h.1.2, fun p hp => bne_iff_ne.mp (List.all_eq_true.mp h.2 p hp)⟩
theorem sound_calls (hx : XOk x) (G : GOk x) (fo : FOk x) (k : Nat) : CallOk x (2 * k) (callN prog x.sc k) := by
  induction k with
  | zero => exact fun A F h s f args args' K hA R r w => w.elim
  | succ k ih =>
    intro A F h s f args args' K hA R r w
    refine callN_inv w fun fn hfn hlen w => fn_text hfn fun nm a b dl rt tp sc ts bd p hd hargs hscope hbody hown => ?_
    obtain ⟨o, fd, e1, e2, e3, rfl, rfl, e6, e7, e8, e9, e10⟩ := (fo.fn f _ _ _ _ _ _ _ _ _ _ hd).ex
    have kp0 : Keeps x.h0 s.heap := fun b o e => R.frz _ _ (R.base _ _ e)
    have S := okScope_inv hscope
    have hmap : (fd.params.args.map (·.arg)).map (own fd.scope) = fn.params.map some := List.map_map.trans hown
    have hl2 : args'.length = (fd.params.args.map (·.arg)).length := by rw [← r.length, hlen, ← List.length_map (f := some), ← hmap, List.length_map]
    refine codeAny_call_cells (fd := fd) (binds := (fd.params.args.map (·.arg)).zip args') (Nat.lt_of_le_of_lt (Nat.le_trans (Nat.le_add_right _ _) hA.dep) (Nat.le_of_ble_eq_true rfl)) (kp0 _ _ e1) e2 (fo.lim.keeps kp0) (e10.keeps kp0) e3 (bind_plain hargs e7 (names_nodup hmap (params_nodup fn (List.mem_of_getElem? hfn))) hl2) e6 (fun z hz => ?_) (fun s₁ X => ?_) S.2.2.1 S.2.1 S.1
    · have hm2 : own fd.scope z.1 ∈ fn.params.map some := hmap ▸ List.mem_map_of_mem (List.of_mem_zip hz).1
      obtain ⟨i, _, hi⟩ := List.mem_map.mp hm2
      exact (own_inv S.2.2.2 hi.symm).2.imp_right fun q => ⟨q, cellsFrom_has _ _ _ _ (.inl (lookup_mem q))⟩
    · have Xk := X.toInCall.keep
      have ek : EnvOk fd.scope (callEnvC fd s.heap.objs.size (x.faddr f)) := ⟨S.1, fun y e => e, fun y e => e, fun y e => absurd rfl (S.2.2.2 _ (lookup_mem e)), fun y e => e, e8, e9⟩
      have rel := bind_rel (x := x) (hp := s₁.heap) (kindOf := fun y => List.lookup y fd.scope.names) (fd.params.args.map (·.arg)) fn.params args args' (fun _ => none) (fun _ => none) (fun _ => none) hmap (r.later (Keeps.tup Xk)) hlen (fun y i e => (own_inv S.2.2.2 e).1)
        (fun y i v _ _ e => none_ne e) (fun y i v _ _ e => none_ne e)
      have above : ∀ y c, (cellsFrom (s.heap.objs.size + 1) fd.scope.names []).lookup y = some c → s.heap.objs.size < c := fun n c e => X.above n c (mem_of_lookup e)
      have gnew : ∀ a, s.heap.objs.size ≤ a → grow F s.heap.objs.size s₁.heap a = s₁.heap.get? a := fun a ha => if_neg (Nat.not_lt.mpr ha)
      refine call_body (sound_ss (fun st is h => sound_s (g := ⟨x.sc, callN prog x.sc k⟩) hx G rfl ih S.2.2.2 40 st is h) b fn.body hbody) ⟨hA.hnd, ?_, ?_⟩ ek rfl above (fun y z c e q => name_of_addr X.apart (mem_of_lookup e) (mem_of_lookup q)) R Xk ?_ ⟨?_, fun y i hy hkk => ?_⟩ w
      · exact dstep (d := 1) (e := 4) (c := 8) hA.dep rfl
      · exact dstep (d := 3) (e := 20) (c := 40) hA.uni rfl
      · obtain ⟨hq, tq, hsame⟩ := X.toInCall.same
        exact ⟨Keeps.tup Xk, by rw [hsame], by rw [hsame]⟩
      · obtain ⟨oo, eo, _⟩ := ns_data X.toInCall.ns
        exact ⟨_, oo, (gnew _ (Nat.le_refl _)).trans eo, X.toInCall.ns, fun y i hy hk v hv => rel.1 y i v hy hk hv⟩
      · have hc : fd.scope.names.lookup y = some .cell := hkk.elim id fun q => absurd rfl (S.2.2.2 _ (lookup_mem q))
        obtain ⟨c, ec⟩ := Option.isSome_iff_exists.mp (cellsFrom_has fd.scope.names (s.heap.objs.size + 1) [] y (.inl (lookup_mem hc)))
        have ic := X.cell y c ec
        obtain ⟨oo, eo, _⟩ := cell_data ic
        exact ⟨c, oo, ec, (gnew _ (Nat.le_of_lt (above y c ec))).trans eo, _, ic, fun v hv => rel.2 y i v hy (by rw [hc]; nofun) hv⟩
end
end
section
open PySem PySem.W PyProof.Rows
noncomputable def faddrs : List Addr := [21,28,35,42,49,63,84,98,105,112,119,126,133,140,147,154,161,168,175,182,189,196,203,210,217,224,238,252,259,266,273,280,287,294,301,308,322,329,343,350,357,364,371,378,385,392,399,406,413,420,428,435,442,449,454,459]
noncomputable def faddrOf (i : Nat) : Addr := faddrs.getD i 21
noncomputable def caddrOf : Nat → Addr
  | 0 => 66
  | 1 => 87
  | 2 => 241
  | _ => 332
noncomputable def atOk (K : Frag) (C : Addr) : Bool := anames.all fun n => match findIn K (.ref C) n with
  | some attr => noGet K attr && takerIn K C n == some none
  | none => false
noncomputable def clsOk (K : Frag) (C : Addr) (f : Addr) : Bool :=
  makesIn K C && plainGet K C "" && plainOver K C && hasDictIn K C && findIn K (.ref C) (Str.ofString "__setattr__") == some (some (.builtin "object.__setattr__")) && keepIn K (.ref C) &&
  findIn K (.ref C) (Str.ofString "__init__") == some (some (.ref f)) && atOk K C
noncomputable def fnOk (K : Frag) (a : Addr) : Bool := keepIn K (.ref a) && typeIn K (.ref a) == some (.type "function")
noncomputable def fdOf (o : Obj) : Option FuncData := match o.data with
  | .func fd => some fd
  | _ => none
noncomputable def refOf : Value → Option Addr
  | .ref c => some c
  | _ => none
noncomputable def fieldsOf (o : Obj) : Option (Array Value) := match o.data with
  | .fields vs => some vs
  | _ => none
noncomputable def strOf : Value → Option Str
  | .str q _ => some q
  | _ => none
noncomputable def infoF (o : Option Obj) : Option (FuncBody × Scope × Arguments × List (Str × Addr) × Value × Addr × Addr) :=
  o.bind fun o => (fdOf o).map fun fd => (fd.body, fd.scope, fd.params, fd.closure, fd.defaults, fd.globals, fd.builtins)
noncomputable def infoD : Stmt → Option (FuncBody × Scope × Arguments × List (Str × Addr) × Value × Addr × Addr)
  | .FunctionDef _ a b _ _ _ sc _ _ _ => some (.stmts b, sc, a, [], .none, mainGlobals, builtinsNs)
  | _ => none
noncomputable def codeOk (K : Frag) (a : Addr) : Bool :=
  ((K.lookup a).bind fun o => (fdOf o).bind fun fd => (refOf fd.code).bind fun c => (K.lookup c).bind fun oc => (fieldsOf oc).bind fun vs => (vs[1]?).bind fun z => (strOf z).bind fun q => if q == fd.qualname then some () else none).isSome
noncomputable def intsOk : List V → List Value → Bool
  | [], vs => vs.isEmpty
  | x :: r, vs => match x with
    | .int i => match vs with
      | .int j _ :: r' => i == j && intsOk r r'
      | _ => false
    | _ => false
noncomputable def seqOf (o : Obj) : Option (Array Value) := match o.data with
  | .seq vs _ => some vs
  | _ => none
noncomputable def dictE (o : Obj) : Option (Array DictEntry) := match o.data with
  | .dict es _ => some es
  | _ => none
noncomputable def mgK (KK : Params → Frag) (p : Params) (n : Str) : Option Value := ((KK p).lookup mainGlobals).bind fun o => (dictE o).bind fun es => nsFind es n
noncomputable def conOk (K : Frag) (v : V) (v' : Option Value) : Bool := match v with
  | .int i => match v' with
    | some (.int j _) => i == j
    | _ => false
  | .tup xs => (v'.bind fun v' => (refOf v').bind fun a => (K.lookup a).bind fun o => (seqOf o).bind fun vs => if o.cls == .type "tuple" && intsOk xs vs.toList then some () else none).isSome
  | _ => false
structure Wd (KK : Params → Frag) : Prop where
  cls0 : ∀ p : Params, clsOk (KK p) 66 63 = true
  cls1 : ∀ p : Params, clsOk (KK p) 87 84 = true
  cls2 : ∀ p : Params, clsOk (KK p) 241 238 = true
  cls3 : ∀ p : Params, clsOk (KK p) 332 322 = true
  fns : ∀ p : Params, faddrs.all (fnOk (KK p)) = true
  nw : ∀ p : Params, findIn (KK p) (.ref 332) (Str.ofString "new_word") = some (some (.ref 329))
  info : ∀ p : Params, faddrs.map (fun a => infoF ((KK p).lookup a)) = theDefs.map infoD
  codes : ∀ p : Params, faddrs.all (codeOk (KK p)) = true
  cons : ∀ p : Params, gcons.all (fun c => conOk (KK p) c.2 (mgK KK p c.1)) = true
  fg : ∀ p : Params, (List.range 56).all (fun i => match fnames[i]? with | some n => (i == 5 || i == 6 || i == 26 || i == 36 || i == 37) || mgK KK p n == some (.ref (faddrOf i)) | none => true) = true
  cg : ∀ p : Params, (List.range 4).all (fun i => match cnames[i]? with | some n => mgK KK p n == some (.ref (caddrOf i)) | none => true) = true
  bg : ∀ p : Params, ["len", "sum", "sorted", "max", "min", "tuple", "range"].all (fun n => mgK KK p (Str.ofString n) == none) = true
  keys : ∀ p : Params, (((KK p).lookup mainGlobals).bind fun o => (dictE o).bind fun es => if es.all (fun e => (strOf e.key).isSome) then some () else none).isSome = true
  law : ∀ p : Params, mgK KK p (Str.ofString "law") = some (.ref 459)
end
section
open PySem PySem.W PyProof.Rows
noncomputable def XX (KK : Params → Frag) (w : World) (h0 : Heap) (sc : List Int) (scA : Addr) : X := ⟨w, h0, sc, scA, KK w.params, faddrOf, caddrOf⟩
theorem faddr_mem (i : Nat) : faddrOf i ∈ faddrs := by
  unfold faddrOf
  rw [List.getD_eq_getElem?_getD]
  cases e : faddrs[i]? with
  | none => show (21 : Nat) ∈ faddrs; decide
  | some a => exact List.mem_of_getElem? e
section
variable {KK : Params → Frag} {w : World} {h0 : Heap} {sc : List Int} {scA : Addr}
theorem clsFacts (D : Wd KK) (w : World) (c : Nat) : clsOk (KK w.params) (caddrOf c) (faddrOf (initOf c)) = true := by
  match c with
  | 0 => exact D.cls0 _
  | 1 => exact D.cls1 _
  | 2 => exact D.cls2 _
  | c + 3 => exact D.cls3 _
theorem xok (D : Wd KK) (KX : (KK w.params).In h0) (hs : h0.get? sysModules ≠ none) {vs : List Value} (hl : h0.IsList scA vs.toArray) (hI : IntsAre vs sc) (hlen : sc.length ≤ 63) : XOk (XX KK w h0 sc scA) := by
  have C := fun c => clsFacts D w c
  unfold clsOk at C
  simp only [Bool.and_eq_true] at C
  have Fn := fun i => Bool.and_eq_true_iff.mp (List.all_eq_true.mp (D.fns w.params) _ (faddr_mem i))
  refine ⟨KX, hs, ⟨vs, hl, hI⟩, hlen, fun c => (C c).1.1.1.1.1.1.1, fun c n => (C c).1.1.1.1.1.1.2, fun c => (C c).1.1.1.1.1.2, fun c => (C c).1.1.1.1.2, fun c => eq_of_beq (C c).1.1.1.2, fun f => (Fn f).1, fun c => (C c).1.1.2, fun f => eq_of_beq (Fn f).2, fun c => eq_of_beq (C c).1.2, D.nw _, fun c k n hn => ?_⟩
  have A := List.all_eq_true.mp (C c).2 n (List.mem_of_getElem? hn)
  generalize e : findIn (KK w.params) (.ref (caddrOf c)) n = o at A
  induction o using Option.casesOn with
  | none => exact ff A
  | some attr => exact ⟨attr, e, (Bool.and_eq_true_iff.mp A).1, eq_of_beq (Bool.and_eq_true_iff.mp A).2⟩
theorem isome {α : Type} {o : Option α} {C : Prop} (h : o.isSome = true) (k : ∀ a, o = some a → C) : C := by
  induction o using Option.casesOn with
  | none => exact ff h
  | some a => exact k a rfl
theorem fdOf_inv {o : Obj} {fd : FuncData} {C : Prop} (h : fdOf o = some fd) (k : o.data = .func fd → C) : C := by
  unfold fdOf at h
  generalize o.data = d at h k
  induction d using PySem.Data.casesOn with
  | func f => exact k (congrArg Data.func (Option.some.inj h))
  | _ => exact none_ne h
theorem fieldsOf_inv {o : Obj} {vs : Array Value} {C : Prop} (h : fieldsOf o = some vs) (k : o.data = .fields vs → C) : C := by
  unfold fieldsOf at h
  generalize o.data = d at h k
  induction d using PySem.Data.casesOn with
  | fields f => exact k (congrArg Data.fields (Option.some.inj h))
  | _ => exact none_ne h
theorem seqOf_inv {o : Obj} {vs : Array Value} {C : Prop} (h : seqOf o = some vs) (k : ∀ ep, o.data = .seq vs ep → C) : C := by
  unfold seqOf at h
  generalize o.data = d at h k
  induction d using PySem.Data.casesOn with
  | seq f ep => exact k ep (congrArg (Data.seq · ep) (Option.some.inj h))
  | _ => exact none_ne h
theorem dictE_inv {o : Obj} {vs : Array DictEntry} {C : Prop} (h : dictE o = some vs) (k : ∀ ep, o.data = .dict vs ep → C) : C := by
  unfold dictE at h
  generalize o.data = d at h k
  induction d using PySem.Data.casesOn with
  | dict f ep => exact k ep (congrArg (Data.dict · ep) (Option.some.inj h))
  | _ => exact none_ne h
theorem refOf_inv {v : Value} {c : Addr} {P : Value → Prop} (h : refOf v = some c) (k : P (.ref c)) : P v := by
  induction v using PySem.Value.casesOn with
  | ref a => exact osome (P := fun c => P (.ref c) → P (.ref a)) h id k
  | _ => exact none_ne h
theorem strOf_inv {v : Value} {q : Str} {P : Value → Prop} (h : strOf v = some q) (k : ∀ t, P (.str q t)) : P v := by
  induction v using PySem.Value.casesOn with
  | str s t => exact osome (P := fun c => (∀ t, P (.str c t)) → P (.str s t)) h (fun k => k t) k
  | _ => exact none_ne h
theorem mgK_ns (D : Wd KK) (KX : (KK w.params).In h0) : h0.Ns mainGlobals (mgK KK w.params) := by
  refine isome (D.keys w.params) fun _ h => obind h fun o ho h => obind h fun es he h => ifs h fun ha _ => dictE_inv he fun ep hd => ⟨o, es, ep, KX _ _ ho, hd, fun e hm => ?_, fun n => ?_⟩
  · exact isome (Array.all_eq_true_iff_forall_mem.mp ha e hm) fun q hq => strOf_inv (P := fun v => ∃ n t, v = .str n t) hq fun t => ⟨q, t, rfl⟩
  · unfold mgK
    rw [ho, Option.bind_some, he]; rfl
theorem ints_rel {hp : Heap} (xs : List V) : ∀ vs : List Value, intsOk xs vs = true → VRs (XX KK w h0 sc scA) hp xs vs := by
  induction xs with
  | nil =>
    intro vs h
    induction vs using List.casesOn with
    | nil => exact .nil
    | cons _ _ => exact ff h
  | cons x r ih =>
    intro vs h
    induction x using Qd.V.casesOn with
    | int i => induction vs using List.casesOn with
      | nil => exact ff h
      | cons y r' => induction y using PySem.Value.casesOn with
        | int j t =>
          have q := Bool.and_eq_true_iff.mp h
          exact .cons (eq_of_beq q.1 ▸ .int i t) (ih r' q.2)
        | _ => exact ff h
    | _ => exact ff h
theorem con_rel (KX : (KK w.params).In h0) {v : V} {v' : Option Value} (h : conOk (KK w.params) v v' = true) : ∃ u, v' = some u ∧ VR (XX KK w h0 sc scA) h0 v u := by
  induction v using Qd.V.casesOn with
  | int i => induction v' using Option.casesOn with
    | none => exact ff h
    | some u => induction u using PySem.Value.casesOn with
      | int j t => exact ⟨_, rfl, eq_of_beq h ▸ .int i t⟩
      | _ => exact ff h
  | tup xs => exact isome h fun _ h => obind h fun u hu h => obind h fun a ha h => obind h fun o ho h => obind h fun vs hv h => ifs h fun hc _ => seqOf_inv hv fun ep hd =>
      have q := Bool.and_eq_true_iff.mp hc
      ⟨u, hu, refOf_inv (P := fun u => VR (XX KK w h0 sc scA) h0 (.tup xs) u) ha (.tup (vs := vs.toList) ⟨o, KX _ _ ho, eq_of_beq q.1, ep, hd⟩ (ints_rel xs vs.toList q.2))⟩
  | _ => exact ff h
theorem fnames_inj {n : Str} {i j : Nat} (h : fnames[i]? = some n) (h' : fnames[j]? = some n) : i = j := nodup_inj (by decide +kernel : fnames.Nodup) i j n h h'
theorem mem_c {P : String → Prop} {n a : String} {l : List String} (h : n ∈ a :: l) (k1 : P a) (k2 : n ∈ l → P n) : P n := (List.mem_cons.mp h).elim (fun e => e ▸ k1) k2
theorem mem_n {P : String → Prop} {n : String} (h : n ∈ ([] : List String)) : P n := absurd h List.not_mem_nil
theorem mem5 {P : String → Prop} {n : String} (h : n ∈ ["len", "sum", "sorted", "max", "min"]) (h1 : P "len") (h2 : P "sum") (h3 : P "sorted") (h4 : P "max") (h5 : P "min") : P n :=
  mem_c h h1 fun h => mem_c h h2 fun h => mem_c h h3 fun h => mem_c h h4 fun h => mem_c h h5 mem_n
theorem mem2 {P : String → Prop} {n : String} (h : n ∈ ["tuple", "range"]) (h1 : P "tuple") (h2 : P "range") : P n := mem_c h h1 fun h => mem_c h h2 mem_n
theorem or_r {c m : Bool} (h : (c || m) = true) (n : (!c) = true) : m = true := by
  induction c using Bool.casesOn with
  | true => exact ff n
  | false => exact h
theorem gok (D : Wd KK) (KX : (KK w.params).In h0) {mb : Str → Option Value} (nb : h0.Ns builtinsNs mb) (hb : ∀ x : Str, x ≠ "__name__" → mb x = bootBuiltins x) : GOk (XX KK w h0 sc scA) := by
  have B : ∀ n ∈ ["len", "sum", "sorted", "max", "min", "tuple", "range"], mgK KK w.params (Str.ofString n) = none := fun n hn => eq_of_beq (List.all_eq_true.mp (D.bg w.params) n hn)
  have C : ∀ n : String, ∀ v, (Str.ofString n ≠ "__name__" ∧ bootBuiltins (Str.ofString n) = some v) → mb (Str.ofString n) = some v := fun n v h => (hb _ h.1).trans h.2
  refine ⟨mgK KK w.params, mb, mgK_ns D KX, nb, fun n v hv => con_rel KX (List.all_eq_true.mp (D.cons w.params) (n, v) (lookup_mem hv)), fun n i hi => ?_, fun n i hi => ?_,
    fun n hn => ⟨B n (List.mem_append_left ["tuple", "range"] hn), C n _ (mem5 (P := fun n => Str.ofString n ≠ "__name__" ∧ bootBuiltins (Str.ofString n) = some (.builtin n)) hn ⟨by decide +kernel, by kernel_rfl⟩ ⟨by decide +kernel, by kernel_rfl⟩ ⟨by decide +kernel, by kernel_rfl⟩ ⟨by decide +kernel, by kernel_rfl⟩ ⟨by decide +kernel, by kernel_rfl⟩)⟩,
    fun n hn => ⟨B n (List.mem_append_right ["len", "sum", "sorted", "max", "min"] hn), C n _ (mem2 (P := fun n => Str.ofString n ≠ "__name__" ∧ bootBuiltins (Str.ofString n) = some (.type n)) hn ⟨by decide +kernel, by kernel_rfl⟩ ⟨by decide +kernel, by kernel_rfl⟩)⟩⟩
  · obtain ⟨hp, hf⟩ := Option.filter_eq_some_iff.mp hi
    have hg := place_get hp
    have q := List.all_eq_true.mp (D.fg w.params) i (List.mem_range.mpr (List.getElem?_eq_some_iff.mp hg).1)
    rw [hg] at q
    exact eq_of_beq (or_r q hf)
  · have hg := place_get hi
    have q := List.all_eq_true.mp (D.cg w.params) i (List.mem_range.mpr (List.getElem?_eq_some_iff.mp hg).1)
    rw [hg] at q
    exact eq_of_beq q
theorem fok (D : Wd KK) (KX : (KK w.params).In h0) (hn : h0.NoLimit) : FOk (XX KK w h0 sc scA) := by
  refine ⟨fun i nm a b dl rt tp sc ts bd p hd => ?_, hn⟩
  have e : (faddrs.map (fun a => infoF ((KK w.params).lookup a)))[i]? = (theDefs.map infoD)[i]? := by rw [D.info]
  rw [List.getElem?_map, List.getElem?_map, hd] at e
  obtain ⟨ad, had, hi⟩ := Option.map_eq_some_iff.mp e
  have hfa : faddrOf i = ad := by unfold faddrOf; rw [List.getD_eq_getElem?_getD, had]; rfl
  refine obind (b := (FuncBody.stmts b, sc, a, [], Value.none, mainGlobals, builtinsNs)) hi fun o ho hi => ?_
  obtain ⟨fd, hfd, q⟩ := Option.map_eq_some_iff.mp hi
  refine fdOf_inv hfd fun hdt => ⟨o, fd, (congrArg h0.get? hfa).trans (KX _ _ ho), hdt, congrArg (fun t => t.1) q, congrArg (fun t => t.2.1) q, congrArg (fun t => t.2.2.1) q, congrArg (fun t => t.2.2.2.1) q, congrArg (fun t => t.2.2.2.2.1) q, congrArg (fun t => t.2.2.2.2.2.1) q, congrArg (fun t => t.2.2.2.2.2.2) q, ?_⟩
  refine isome (List.all_eq_true.mp (D.codes w.params) ad (List.mem_of_getElem? had)) fun _ h => obind h fun o2 ho2 h => obind h fun fd2 hfd2 h => obind h fun c hc h => obind h fun oc hoc h => obind h fun vs hvs h => obind h fun z hz h => obind h fun q hq h => ifs h fun hqn _ => ?_
  obtain rfl := Option.some.inj (ho.symm.trans ho2)
  obtain rfl := Option.some.inj (hfd.symm.trans hfd2)
  obtain rfl := eq_of_beq hqn
  exact fieldsOf_inv hvs fun hvs => strOf_inv (P := fun z => vs[1]? = some z → _) hq (fun t hz => refOf_inv (P := fun v => Heap.CodeRec h0 v fd.qualname) hc ⟨c, oc, vs, t, rfl, KX _ _ hoc, hvs, hz⟩) hz
end
end
section
open PySem PySem.W PyProof.Rows
theorem ns_unique {h : Heap} {a : Addr} {m m' : Str → Option Value} (x : h.Ns a m) (y : h.Ns a m') : m = m' := by
  obtain ⟨o, es, ep, e1, e2, _, e3⟩ := x
  obtain ⟨o', es', ep', f1, f2, _, f3⟩ := y
  rw [e1] at f1
  cases f1
  rw [e2] at f2
  cases f2
  funext n
  rw [← e3, ← f3]
theorem join_call {KK : Params → Frag} (D : Wd KK) {w : World} {s₁ : Shared} {mg mb : Str → Option Value} {vs : List Value} {ns : List Int} {l fa : Addr} (KX : (KK w.params).In s₁.heap) (nb : s₁.heap.Ns builtinsNs mb) (hb : ∀ x : Str, x ≠ "__name__" → mb x = bootBuiltins x) (ng : s₁.heap.Ns mainGlobals mg) (hmg : mg (Str.ofString "law") = some (.ref fa))
    (hn : s₁.heap.NoLimit) (hs : s₁.heap.get? sysModules ≠ none) (hl : s₁.heap.IsList l vs.toArray) (hI : IntsAre vs ns) (hlen : ns.length ≤ 63) (H : callN prog ns 40 55 [.script] (fun v h => v = .bool true) (fun _ => none)) :
    codeAny (MD w) callerA (.call (.ref fa) ⟨[.ref l], []⟩) (fun r s' => r = .ok (.ret (.bool true)) ∧ (∀ b o, s₁.heap.get? b = some o → s'.heap.get? b = some o) ∧ s'.os = s₁.os ∧ s'.gens = s₁.gens) s₁ := by
  have e := ns_unique ng (mgK_ns D KX)
  rw [e, D.law] at hmg
  cases hmg
  have hx := xok (scA := l) D KX hs hl hI hlen
  have G := gok (sc := ns) (scA := l) D KX nb hb
  have fo := fok (sc := ns) (scA := l) D KX hn
  have R : RH (XX KK w s₁.heap ns l) (fun a => s₁.heap.get? a) (fun _ => none) s₁.heap := ⟨fun _ _ e => e, fun _ _ e => e, fun _ _ e => (nomatch e), fun _ _ e => (nomatch e), fun _ _ _ _ _ e => (nomatch e), fun _ _ _ _ _ _ _ _ _ e => (nomatch e)⟩
  have A : OkA (2 * 40) callerA := ⟨rfl, by decide +kernel, by decide +kernel⟩
  refine codeAny_mono (sound_calls hx G fo 40 callerA _ _ s₁ 55 [.script] [.ref l] (fun v h => v = .bool true) A R (.cons .script .nil) H) ?_
  rintro r s' ⟨v', rfl, v, h', lt, rv, R', rfl⟩
  cases rv
  exact ⟨rfl, fun b o e => R'.frz _ _ e, lt.os, lt.gens⟩
end
section
theorem qT1 {a b c : Nat} (h : a ≤ b) (k : Nat.ble (b + 1) c = true) : a < c := Nat.lt_of_le_of_lt h (Nat.le_of_ble_eq_true k)
theorem qT2 {a b c : Nat} (h : a < b) (k : Nat.ble b c = true) : a < c := Nat.lt_of_lt_of_le h (Nat.le_of_ble_eq_true k)
theorem qT3 {a b c : Nat} (h : a ≤ b) (k : Nat.ble b c = true) : a ≤ c := Nat.le_trans h (Nat.le_of_ble_eq_true k)
theorem qI1 {a b : Nat} {d : Int} (h : a ≤ b) (k : Nat.ble (b + 1) d.toNat = true) : (a : Int) < d := by
  have := Nat.le_of_ble_eq_true k
  (first | lia | omega)
theorem qI2 {a b : Nat} {d : Int} (h : a < b) (k : Nat.ble b d.toNat = true) : (a : Int) < d := by
  have := Nat.le_of_ble_eq_true k
  (first | lia | omega)
theorem qLe {a b c : Nat} (h : a ≤ b) (k : b < c) : a < c := Nat.lt_of_le_of_lt h k
theorem qLl {a b c : Nat} (h : a < b) (k : b ≤ c) : a < c := Nat.lt_of_lt_of_le h k
theorem qIN {d : Int} (h : 0 ≤ d) : 0 ≤ d + 1 := Int.le_trans h (Int.le_of_lt (Int.lt_succ d))
theorem qEI {a : Int} {n : Nat} (e : a = Int.ofNat n) : a = (n : Int) := e
theorem qM1 {x m c : Nat} (h : Nat.ble 1 m = true) (k : Nat.ble m c = true) : x % m < c := Nat.lt_of_lt_of_le (Nat.mod_lt x (Nat.le_of_ble_eq_true h)) (Nat.le_of_ble_eq_true k)
theorem qM2 {x m : Nat} {c : Int} (h : Nat.ble 1 m = true) (k : Nat.ble m c.toNat = true) : ((x % m : Nat) : Int) < c := qI2 (Nat.mod_lt x (Nat.le_of_ble_eq_true h)) k
structure Led (h : H) (L : List (Nat × O)) : Prop where
  nd : (L.map (·.1)).Nodup
  at_ : ∀ p ∈ L, h p.1 = some p.2
inductive Upd (l : Nat) (o o' : O) : List (Nat × O) → List (Nat × O) → Prop where
  | head (r : List (Nat × O)) : Upd l o o' ((l, o) :: r) ((l, o') :: r)
  | tail (p : Nat × O) {r r' : List (Nat × O)} : Upd l o o' r r' → Upd l o o' (p :: r) (p :: r')
section
variable {h : H} {L L' : List (Nat × O)} {l : Nat} {o o' : O}
theorem hset_self (h : H) (l : Nat) (o : O) : hset h l o l = some o := if_pos rfl
theorem hset_oth (h : H) {l a : Nat} (o : O) (e : a ≠ l) : hset h l o a = h a := if_neg e
theorem Led.get (L1 : Led h L) (m : (l, o) ∈ L) : h l = some o := L1.at_ _ m
theorem Led.new (L1 : Led h L) (e : h l = none) : Led (hset h l o) ((l, o) :: L) := by
  have ne : ∀ p ∈ L, p.1 ≠ l := fun p hp q => by rw [← q, L1.at_ p hp] at e; cases e
  refine ⟨?_, fun p hp => ?_⟩
  · rw [List.map_cons, List.nodup_cons]
    refine ⟨fun hm => ?_, L1.nd⟩
    obtain ⟨p, hp, q⟩ := List.mem_map.mp hm
    exact ne p hp q
  · rcases List.mem_cons.mp hp with rfl | hp
    · exact hset_self _ _ _
    · rw [hset_oth _ _ (ne p hp)]; exact L1.at_ p hp
theorem Upd.keys (u : Upd l o o' L L') : L'.map (·.1) = L.map (·.1) := by
  induction u with
  | head r => rfl
  | tail p u ih => simp [ih]
theorem Upd.mem (u : Upd l o o' L L') : (l, o) ∈ L := by
  induction u with
  | head r => exact .head _
  | tail p u ih => exact .tail _ ih
theorem Upd.old (u : Upd l o o' L L') (nd : (L.map (·.1)).Nodup) : ∀ p ∈ L', p = (l, o') ∨ (p ∈ L ∧ p.1 ≠ l) := by
  induction u with
  | head r =>
    rw [List.map_cons, List.nodup_cons] at nd
    intro p hp
    rcases List.mem_cons.mp hp with rfl | hp
    · exact .inl rfl
    · exact .inr ⟨.tail _ hp, fun q => nd.1 (List.mem_map.mpr ⟨p, hp, q⟩)⟩
  | tail p u ih =>
    rw [List.map_cons, List.nodup_cons] at nd
    intro q hq
    rcases List.mem_cons.mp hq with rfl | hq
    · refine .inr ⟨.head _, fun e => nd.1 ?_⟩
      rw [e]
      exact List.mem_map.mpr ⟨_, u.mem, rfl⟩
    · rcases ih nd.2 q hq with e | ⟨a, b⟩
      · exact .inl e
      · exact .inr ⟨.tail _ a, b⟩
theorem Led.upd (L1 : Led h L) (u : Upd l o o' L L') : Led (hset h l o') L' := by
  refine ⟨by rw [u.keys]; exact L1.nd, fun p hp => ?_⟩
  rcases u.old L1.nd p hp with rfl | ⟨a, b⟩
  · exact hset_self _ _ _
  · rw [hset_oth _ _ b]; exact L1.at_ p a
theorem Led.drop {p : Nat × O} (L1 : Led h (p :: L)) : Led h L := ⟨(List.nodup_cons.mp L1.nd).2, fun q hq => L1.at_ q (.tail _ hq)⟩
theorem Led.sub (L1 : Led h L) (s : L'.Sublist L) : Led h L' := ⟨(s.map _).nodup L1.nd, fun q hq => L1.at_ q (s.subset hq)⟩
end
section
variable {h : H} {L L' : List (Nat × O)} {l : Nat} {o o' : O} {P : KE} {Q : H → Prop}
theorem x_attr {c f : Nat} {fs : List (Nat × V)} {v : V} (Ld : Led h L) (m : (l, O.inst c fs) ∈ L) (q : fs.lookup f = some v) (k : P v h) : attrW (.ref l) f P h := by unfold attrW; exact ⟨l, c, fs, v, rfl, Ld.get m, q, k⟩
theorem x_setA {c f : Nat} {fs fs' : List (Nat × V)} {v : V} (Ld : Led h L) (u : Upd l (.inst c fs) (.inst c fs') L L') (hl : fs.length < 100) (e : putF fs f v = fs') (k : ∀ h', Led h' L' → Q h') : setAW (.ref l) f v Q h := by unfold setAW; exact ⟨l, c, fs, rfl, Ld.get u.mem, hl, k _ (e ▸ Ld.upd u)⟩
theorem x_idxT {i : Int} {xs : List V} {v : V} (h0 : 0 ≤ i) (h1 : i < 100000) (e : xs[i.toNat]? = some v) (k : P v h) : idxW (.tup xs) (.int i) P h := by unfold idxW; exact ⟨i, rfl, h0, h1, v, e, k⟩
theorem x_idxL {i : Int} {xs : List V} {v : V} (Ld : Led h L) (m : (l, O.list xs) ∈ L) (h0 : 0 ≤ i) (h1 : i < 100000) (e : xs[i.toNat]? = some v) (k : P v h) : idxW (.ref l) (.int i) P h := by unfold idxW; exact ⟨i, rfl, .inl ⟨h0, h1, xs, v, Ld.get m, e, k⟩⟩
theorem x_idxD {i : Int} {es : List (Int × V)} {v : V} (Ld : Led h L) (m : (l, O.dict es) ∈ L) (e : es.lookup i = some v) (k : P v h) : idxW (.ref l) (.int i) P h := by unfold idxW; exact ⟨i, rfl, .inr ⟨es, v, Ld.get m, e, k⟩⟩
theorem x_setL {i : Int} {xs : List V} {v : V} (Ld : Led h L) (u : Upd l (.list xs) (.list (xs.set i.toNat v)) L L') (h0 : 0 ≤ i) (h1 : i < 100000) (hl : i.toNat < xs.length) (k : ∀ h', Led h' L' → Q h') : setIW (.ref l) (.int i) v Q h := by unfold setIW; exact ⟨l, i, rfl, rfl, .inl ⟨h0, h1, xs, Ld.get u.mem, hl, k _ (Ld.upd u)⟩⟩
theorem x_setD {i : Int} {es : List (Int × V)} {v : V} (Ld : Led h L) (u : Upd l (.dict es) (.dict (putD es i v)) L L') (hl : es.length < 100000) (k : ∀ h', Led h' L' → Q h') : setIW (.ref l) (.int i) v Q h := by unfold setIW; exact ⟨l, i, rfl, rfl, .inr ⟨es, Ld.get u.mem, hl, k _ (Ld.upd u)⟩⟩
theorem x_lenT {xs : List V} (hl : xs.length < 100000) (k : P (.int xs.length) h) : lenW (.tup xs) P h := by unfold lenW; exact ⟨hl, k⟩
theorem x_lenL {xs : List V} (Ld : Led h L) (m : (l, O.list xs) ∈ L) (hl : xs.length < 100000) (k : P (.int xs.length) h) : lenW (.ref l) P h := by unfold lenW; exact ⟨xs, Ld.get m, hl, k⟩
theorem x_new (Ld : Led h L) (k : ∀ l h', Led h' ((l, o) :: L) → P (.ref l) h') : newW o P h := by unfold newW; exact fun l hl => k l _ (Ld.new hl)
theorem x_append {xs : List V} {v : V} (Ld : Led h L) (u : Upd l (.list xs) (.list (xs ++ [v])) L L') (hl : xs.length < 100000) (k : ∀ h', Led h' L' → P .none h') : appendW (.ref l) v P h := by unfold appendW; exact ⟨l, xs, rfl, Ld.get u.mem, hl, k _ (Ld.upd u)⟩
theorem x_pop {xs ys : List V} {v : V} (Ld : Led h L) (u : Upd l (.list xs) (.list ys) L L') (e : xs = ys ++ [v]) (hl : ys.length < 100000) (k : ∀ h', Led h' L' → P v h') : popW (.ref l) P h := by unfold popW; exact ⟨l, ys, v, rfl, e ▸ Ld.get u.mem, hl, k _ (Ld.upd u)⟩
theorem x_get {i : Int} {es : List (Int × V)} {d : V} (Ld : Led h L) (m : (l, O.dict es) ∈ L) (k : P ((es.lookup i).getD d) h) : getW (.ref l) (.int i) d P h := by unfold getW; exact ⟨l, es, i, rfl, rfl, Ld.get m, k⟩
theorem x_inD {i : Int} {es : List (Int × V)} {R : Bool → Prop} (Ld : Led h L) (m : (l, O.dict es) ∈ L) (k : R (es.any fun e => e.1 == i)) : memW (.int i) (.ref l) R h := by unfold memW; exact .inl ⟨es, Ld.get m, k⟩
theorem Led.dropN (G : List (Nat × O)) (Ld : Led h (G ++ L)) : Led h L := Ld.sub (List.sublist_append_right G L)
inductive Pull (p : Nat × O) : List (Nat × O) → List (Nat × O) → Prop where
  | head (r : List (Nat × O)) : Pull p (p :: r) r
  | tail (q : Nat × O) {r r' : List (Nat × O)} : Pull p r r' → Pull p (q :: r) (q :: r')
theorem Pull.perm {p : Nat × O} {r r' : List (Nat × O)} (u : Pull p r r') : r.Perm (p :: r') := by
  induction u with
  | head r => exact .refl _
  | tail q u ih => exact (ih.cons q).trans (.swap p q _)
theorem Led.perm (Ld : Led h L) (e : L.Perm L') : Led h L' := ⟨(e.map _).nodup_iff.mp Ld.nd, fun p hp => Ld.at_ p (e.mem_iff.mpr hp)⟩
theorem Led.pull {p : Nat × O} (Ld : Led h L) (u : Pull p L L') : Led h (p :: L') := Ld.perm u.perm
theorem x_popC {xs : List V} {v : V} (Ld : Led h L) (u : Upd l (.list xs) (.list xs.dropLast) L L') (e : xs.getLast? = some v) (hl : xs.length < 100000) (k : ∀ h', Led h' L' → P v h') : popW (.ref l) P h := by
  obtain ⟨ys, rfl⟩ := List.getLast?_eq_some_iff.mp e
  rw [List.dropLast_concat] at u
  exact x_pop Ld u rfl (by simp at hl; (first | lia | omega)) k
end
theorem x_tupOf {h : H} {L : List (Nat × O)} {l : Nat} {P : KE} {xs : List V} (Ld : Led h L) (m : (l, O.list xs) ∈ L) (hl : xs.length < 100000) (k : P (.tup xs) h) : tupOfW (.ref l) P h := by unfold tupOfW; exact ⟨l, xs, rfl, Ld.get m, hl, k⟩
end
section
/-! named continuations: each step is a small term -/
inductive A3 (p1 p2 p3 : Prop) : Prop
  | mk : p1 → p2 → p3 → A3 p1 p2 p3
inductive A4 (p1 p2 p3 p4 : Prop) : Prop
  | mk : p1 → p2 → p3 → p4 → A4 p1 p2 p3 p4
inductive A5 (p1 p2 p3 p4 p5 : Prop) : Prop
  | mk : p1 → p2 → p3 → p4 → p5 → A5 p1 p2 p3 p4 p5
inductive A6 (p1 p2 p3 p4 p5 p6 : Prop) : Prop
  | mk : p1 → p2 → p3 → p4 → p5 → p6 → A6 p1 p2 p3 p4 p5 p6
inductive A7 (p1 p2 p3 p4 p5 p6 p7 : Prop) : Prop
  | mk : p1 → p2 → p3 → p4 → p5 → p6 → p7 → A7 p1 p2 p3 p4 p5 p6 p7
inductive A8 (p1 p2 p3 p4 p5 p6 p7 p8 : Prop) : Prop
  | mk : p1 → p2 → p3 → p4 → p5 → p6 → p7 → p8 → A8 p1 p2 p3 p4 p5 p6 p7 p8
inductive A9 (p1 p2 p3 p4 p5 p6 p7 p8 p9 : Prop) : Prop
  | mk : p1 → p2 → p3 → p4 → p5 → p6 → p7 → p8 → p9 → A9 p1 p2 p3 p4 p5 p6 p7 p8 p9
inductive A10 (p1 p2 p3 p4 p5 p6 p7 p8 p9 p10 : Prop) : Prop
  | mk : p1 → p2 → p3 → p4 → p5 → p6 → p7 → p8 → p9 → p10 → A10 p1 p2 p3 p4 p5 p6 p7 p8 p9 p10
inductive A11 (p1 p2 p3 p4 p5 p6 p7 p8 p9 p10 p11 : Prop) : Prop
  | mk : p1 → p2 → p3 → p4 → p5 → p6 → p7 → p8 → p9 → p10 → p11 → A11 p1 p2 p3 p4 p5 p6 p7 p8 p9 p10 p11
inductive A12 (p1 p2 p3 p4 p5 p6 p7 p8 p9 p10 p11 p12 : Prop) : Prop
  | mk : p1 → p2 → p3 → p4 → p5 → p6 → p7 → p8 → p9 → p10 → p11 → p12 → A12 p1 p2 p3 p4 p5 p6 p7 p8 p9 p10 p11 p12
inductive A13 (p1 p2 p3 p4 p5 p6 p7 p8 p9 p10 p11 p12 p13 : Prop) : Prop
  | mk : p1 → p2 → p3 → p4 → p5 → p6 → p7 → p8 → p9 → p10 → p11 → p12 → p13 → A13 p1 p2 p3 p4 p5 p6 p7 p8 p9 p10 p11 p12 p13
section
variable {g : G}
noncomputable def kB1 (g : G) (o : BOp) (b : IE) (m : M) (K : KE) (x : V) (h : H) : Prop := wE g b m (fun y h => binW o x y K h) h
noncomputable def kB2 (o : BOp) (x : V) (K : KE) (y : V) (h : H) : Prop := binW o x y K h
noncomputable def kC1 (g : G) (o : COp) (b : IE) (m : M) (K : KE) (x : V) (h : H) : Prop := wE g b m (fun y h => cmpW o x y K h) h
noncomputable def kC2 (o : COp) (x : V) (K : KE) (y : V) (h : H) : Prop := cmpW o x y K h
noncomputable def kAnd (g : G) (b : IE) (m : M) (K : KE) (x : V) (h : H) : Prop := truthW x fun t => if t = true then wE g b m K h else K x h
noncomputable def kOr (g : G) (b : IE) (m : M) (K : KE) (x : V) (h : H) : Prop := truthW x fun t => if t = true then K x h else wE g b m K h
noncomputable def kAttr (f : Nat) (K : KE) (x : V) (h : H) : Prop := attrW x f K h
noncomputable def kI1 (g : G) (i : IE) (m : M) (K : KE) (x : V) (h : H) : Prop := wE g i m (fun y h => idxW x y K h) h
noncomputable def kI2 (x : V) (K : KE) (y : V) (h : H) : Prop := idxW x y K h
noncomputable def kTup (K : KE) (vs : List V) (h : H) : Prop := K (.tup vs) h
noncomputable def kLst (K : KE) (vs : List V) (h : H) : Prop := newW (.list vs) K h
noncomputable def kCall (g : G) (f : Nat) (K : KE) (vs : List V) (h : H) : Prop := g.C f vs K h
noncomputable def kNewR (l : Nat) (K : KE) (r : V) (h : H) : Prop := r = .none ∧ K (.ref l) h
noncomputable def kNew (g : G) (c : Nat) (K : KE) (vs : List V) (h : H) : Prop := ∀ l, h l = Option.none → g.C (initOf c) (.ref l :: vs) (kNewR l K) (hset h l (.inst c []))
noncomputable def kMeth (g : G) (f : Nat) (es : IEs) (m : M) (K : KE) (x : V) (h : H) : Prop := (∃ l fs, x = .ref l ∧ h l = some (.inst 3 fs)) ∧ wEs g es m (fun vs h => g.C f (x :: vs) K h) h
noncomputable def kMC (g : G) (f : Nat) (x : V) (K : KE) (vs : List V) (h : H) : Prop := g.C f (x :: vs) K h
noncomputable def kLen (K : KE) (x : V) (h : H) : Prop := lenW x K h
noncomputable def kSum (K : KE) (x : V) (h : H) : Prop := sumW x K h
noncomputable def kTo (K : KE) (x : V) (h : H) : Prop := tupOfW x K h
noncomputable def kSo (K : KE) (x : V) (h : H) : Prop := sortedW x K h
noncomputable def kMx1 (g : G) (b : IE) (m : M) (K : KE) (x : V) (h : H) : Prop := wE g b m (fun y h => ∃ i j, x = .int i ∧ y = .int j ∧ K (.int (if j > i then j else i)) h) h
noncomputable def kMx2 (x : V) (K : KE) (y : V) (h : H) : Prop := ∃ i j, x = .int i ∧ y = .int j ∧ K (.int (if j > i then j else i)) h
noncomputable def kMn1 (g : G) (b : IE) (m : M) (K : KE) (x : V) (h : H) : Prop := wE g b m (fun y h => ∃ i j, x = .int i ∧ y = .int j ∧ K (.int (if j < i then j else i)) h) h
noncomputable def kMn2 (x : V) (K : KE) (y : V) (h : H) : Prop := ∃ i j, x = .int i ∧ y = .int j ∧ K (.int (if j < i then j else i)) h
noncomputable def kAp1 (g : G) (x : IE) (m : M) (K : KE) (r : V) (h : H) : Prop := (∃ l xs, r = .ref l ∧ h l = some (.list xs)) ∧ wE g x m (fun v h => appendW r v K h) h
noncomputable def kAp2 (r : V) (K : KE) (v : V) (h : H) : Prop := appendW r v K h
noncomputable def kPop (K : KE) (r : V) (h : H) : Prop := popW r K h
noncomputable def kG1 (g : G) (k : IE) (m : M) (K : KE) (d : V) (h : H) : Prop := (∃ l es, d = .ref l ∧ h l = some (.dict es)) ∧ wE g k m (fun k h => getW d k .none K h) h
noncomputable def kG2 (d : V) (K : KE) (k : V) (h : H) : Prop := getW d k .none K h
noncomputable def kH1 (g : G) (k v : IE) (m : M) (K : KE) (d : V) (h : H) : Prop := (∃ l es, d = .ref l ∧ h l = some (.dict es)) ∧ wE g k m (fun k h => wE g v m (fun v h => getW d k v K h) h) h
noncomputable def kH2 (g : G) (d : V) (v : IE) (m : M) (K : KE) (k : V) (h : H) : Prop := wE g v m (fun v h => getW d k v K h) h
noncomputable def kH3 (d k : V) (K : KE) (v : V) (h : H) : Prop := getW d k v K h
noncomputable def kCW (g : G) (elt : IE) (x : Nat) (m : M) (K : KE) (s : Src) (h : H) : Prop := ∃ fuel, compW (fun v K h => wE g elt (upd m x v) K h) s fuel 0 [] K h
noncomputable def kFW (g : G) (tu : Bool) (xs : List Nat) (b : ISs) (K : KS) (s : Src) (m : M) (h : H) : Prop := ∃ fuel, forW tu xs (fun K m h => wSs g b K m h) K s fuel 0 m h
noncomputable def kWN (g : G) (c : IE) (b : ISs) (K : KS) (n : Nat) (m : M) (h : H) : Prop := whlW (fun m K h => wE g c m K h) (fun K m h => wSs g b K m h) K n m h
noncomputable def kWl (g : G) (c : IE) (b : ISs) (K : KS) (m : M) (h : H) : Prop := ∃ n, whlW (fun m K h => wE g c m K h) (fun K m h => wSs g b K m h) K n m h
noncomputable def kV (g : G) (c : IE) (b : ISs) (K : KS) (n : Nat) (fl : Fl) (m : M) (h : H) : Prop := match fl with
  | .next => kWN g c b K n m h
  | .ret v => K (.ret v) m h
noncomputable def kU (g : G) (c : IE) (b : ISs) (K : KS) (n : Nat) (m : M) (v : V) (h : H) : Prop := truthW v fun t => if t = true then wSs g b (kV g c b K n) m h else K .next m h
noncomputable def kCR (g : G) (elt : IE) (x : Nat) (m : M) (K : KE) (n : V) (h : H) : Prop := ∃ k, n = .int k ∧ 0 ≤ k ∧ k < 100000 ∧ kCW g elt x m K (rangeSrc k) h
noncomputable def kCL (g : G) (elt : IE) (x : Nat) (m : M) (K : KE) (it : V) (h : H) : Prop := ∃ s, srcOf it = some s ∧ kCW g elt x m K s h
noncomputable def kT40 (g : G) (K : KE) (a : V) (h : H) : Prop := a = .script ∧ newW (.list (vints (g.sc.take 40))) K h
noncomputable def kEs (g : G) (es : IEs) (m : M) (K : KEs) (v : V) (h : H) : Prop := wEs g es m (fun vs h => K (v :: vs) h) h
noncomputable def kCn (v : V) (K : KEs) (vs : List V) (h : H) : Prop := K (v :: vs) h
noncomputable def kSet (x : Nat) (m : M) (K : KS) (v : V) (h : H) : Prop := K .next (upd m x v) h
noncomputable def kST (xs : List Nat) (m : M) (K : KS) (v : V) (h : H) : Prop := ∃ m', bindT true xs m v = some m' ∧ K .next m' h
noncomputable def kNx (m : M) (K : KS) (h : H) : Prop := K .next m h
noncomputable def kSA1 (g : G) (o : IE) (f : Nat) (m : M) (K : KS) (v : V) (h : H) : Prop := wE g o m (fun x h => setAW x f v (fun h => K .next m h) h) h
noncomputable def kSA2 (f : Nat) (v : V) (m : M) (K : KS) (x : V) (h : H) : Prop := setAW x f v (kNx m K) h
noncomputable def kSI1 (g : G) (o i : IE) (m : M) (K : KS) (v : V) (h : H) : Prop := wE g o m (fun x h => wE g i m (fun y h => setIW x y v (fun h => K .next m h) h) h) h
noncomputable def kSI2 (g : G) (i : IE) (v : V) (m : M) (K : KS) (x : V) (h : H) : Prop := wE g i m (fun y h => setIW x y v (fun h => K .next m h) h) h
noncomputable def kSI3 (x v : V) (m : M) (K : KS) (y : V) (h : H) : Prop := setIW x y v (kNx m K) h
noncomputable def kAV (x : Nat) (op : BOp) (u : V) (m : M) (K : KS) (v : V) (h : H) : Prop := augW op u v (kSet x m K) h
noncomputable def kAA1 (g : G) (f : Nat) (op : BOp) (e : IE) (m : M) (K : KS) (x : V) (h : H) : Prop := attrW x f (fun u h => wE g e m (fun v h => augW op u v (fun r h => setAW x f r (fun h => K .next m h) h) h) h) h
noncomputable def kAA2 (g : G) (f : Nat) (op : BOp) (e : IE) (x : V) (m : M) (K : KS) (u : V) (h : H) : Prop := wE g e m (fun v h => augW op u v (fun r h => setAW x f r (fun h => K .next m h) h) h) h
noncomputable def kAA3 (f : Nat) (op : BOp) (x u : V) (m : M) (K : KS) (v : V) (h : H) : Prop := augW op u v (fun r h => setAW x f r (fun h => K .next m h) h) h
noncomputable def kAA4 (f : Nat) (x : V) (m : M) (K : KS) (r : V) (h : H) : Prop := setAW x f r (kNx m K) h
noncomputable def kAI1 (g : G) (i : IE) (op : BOp) (e : IE) (m : M) (K : KS) (x : V) (h : H) : Prop := wE g i m (fun y h => idxW x y (fun u h => wE g e m (fun v h => augW op u v (fun r h => setIW x y r (fun h => K .next m h) h) h) h) h) h
noncomputable def kAI2 (g : G) (op : BOp) (e : IE) (x : V) (m : M) (K : KS) (y : V) (h : H) : Prop := idxW x y (fun u h => wE g e m (fun v h => augW op u v (fun r h => setIW x y r (fun h => K .next m h) h) h) h) h
noncomputable def kAI3 (g : G) (op : BOp) (e : IE) (x y : V) (m : M) (K : KS) (u : V) (h : H) : Prop := wE g e m (fun v h => augW op u v (fun r h => setIW x y r (fun h => K .next m h) h) h) h
noncomputable def kAI4 (op : BOp) (x y u : V) (m : M) (K : KS) (v : V) (h : H) : Prop := augW op u v (fun r h => setIW x y r (fun h => K .next m h) h) h
noncomputable def kAI5 (x y : V) (m : M) (K : KS) (r : V) (h : H) : Prop := setIW x y r (kNx m K) h
noncomputable def kIf (g : G) (t e : ISs) (m : M) (K : KS) (x : V) (h : H) : Prop := truthW x fun b => if b = true then wSs g t K m h else wSs g e K m h
noncomputable def kFR (g : G) (x : Nat) (b : ISs) (m : M) (K : KS) (v : V) (h : H) : Prop := ∃ k, v = .int k ∧ 0 ≤ k ∧ k < 100000 ∧ kFW g false [x] b K (rangeSrc k) m h
noncomputable def kFL (g : G) (tu : Bool) (xs : List Nat) (b : ISs) (m : M) (K : KS) (v : V) (h : H) : Prop := ∃ s, srcOf v = some s ∧ kFW g tu xs b K s m h
noncomputable def kRet (m : M) (K : KS) (v : V) (h : H) : Prop := K (.ret v) m h
noncomputable def kEx (m : M) (K : KS) (_ : V) (h : H) : Prop := K .next m h
noncomputable def kSq (g : G) (ss : ISs) (K : KS) (fl : Fl) (m : M) (h : H) : Prop := match fl with
  | .next => wSs g ss K m h
  | .ret v => K (.ret v) m h
noncomputable def kInv (K : KS) (J : M → H → Prop) (fl : Fl) (m : M) (h : H) : Prop := match fl with
  | .next => J m h
  | .ret v => K (.ret v) m h
noncomputable def kWh (g : G) (b : ISs) (Kb : KS) (m : M) (K : KS) (v : V) (h : H) : Prop := truthW v fun t => if t = true then wSs g b Kb m h else K .next m h
noncomputable def kCo (Inv : Nat → List V → H → Prop) (i : Nat) (acc : List V) (r : V) (h : H) : Prop := Inv (i + 1) (acc ++ [r]) h
noncomputable def kMb (K : KE) (h : H) (b : Bool) : Prop := K (.bool b) h
noncomputable def kMn (K : KE) (h : H) (b : Bool) : Prop := K (.bool (!b)) h
noncomputable def kSt (g : G) (tu : Bool) (xs : List Nat) (b : ISs) (K : KS) (s : Src) (i : Nat) (m : M) (h : H) : Prop := ∃ v m', srcAt h s i = some (some v) ∧ bindT tu xs m v = some m' ∧ wSs g b K m' h
noncomputable def kSc (g : G) (elt : IE) (x : Nat) (m : M) (K : KE) (s : Src) (i : Nat) (h : H) : Prop := ∃ v, srcAt h s i = some (some v) ∧ wE g elt (upd m x v) K h
noncomputable def kFn (K : KE) (fl : Fl) (_ : M) (h : H) : Prop := match fl with
  | .next => K .none h
  | .ret v => K v h
variable {a b c e i o r x' elt : IE} {es : IEs} {m : M} {K : KE} {Ks : KEs} {S : KS} {h : H} {v x y u : V} {f n : Nat} {op : BOp} {co : COp} {ss t el : ISs} {xs : List Nat} {vs : List V} {s : IS} {tu : Bool} {q : Int} {src : Src}
theorem e_con : (wE g (.con v) m K h) = (K v h) := rfl
theorem e_bin : (wE g (.bin op a b) m K h) = (wE g a m (kB1 g op b m K) h) := rfl
theorem e_B1 : (kB1 g op b m K x h) = (wE g b m (kB2 op x K) h) := rfl
theorem e_B2 : (kB2 op x K y h) = (binW op x y K h) := rfl
theorem e_cmp : (wE g (.cmp co a b) m K h) = (wE g a m (kC1 g co b m K) h) := rfl
theorem e_C1 : (kC1 g co b m K x h) = (wE g b m (kC2 co x K) h) := rfl
theorem e_C2 : (kC2 co x K y h) = (cmpW co x y K h) := rfl
theorem e_band : (wE g (.band a b) m K h) = (wE g a m (kAnd g b m K) h) := rfl
theorem e_andT : (kAnd g b m K (.bool true) h) = (wE g b m K h) := rfl
theorem e_andF : (kAnd g b m K (.bool false) h) = (K (.bool false) h) := rfl
theorem e_bor : (wE g (.bor a b) m K h) = (wE g a m (kOr g b m K) h) := rfl
theorem e_orT : (kOr g b m K (.bool true) h) = (K (.bool true) h) := rfl
theorem e_orF : (kOr g b m K (.bool false) h) = (wE g b m K h) := rfl
theorem e_attr : (wE g (.attr a f) m K h) = (wE g a m (kAttr f K) h) := rfl
theorem e_At : (kAttr f K x h) = (attrW x f K h) := rfl
theorem e_idx : (wE g (.idx a i) m K h) = (wE g a m (kI1 g i m K) h) := rfl
theorem e_I1 : (kI1 g i m K x h) = (wE g i m (kI2 x K) h) := rfl
theorem e_I2 : (kI2 x K y h) = (idxW x y K h) := rfl
theorem e_tup : (wE g (.tup es) m K h) = (wEs g es m (kTup K) h) := rfl
theorem e_Tu : (kTup K vs h) = (K (.tup vs) h) := rfl
theorem e_lst : (wE g (.lst es) m K h) = (wEs g es m (kLst K) h) := rfl
theorem e_Ls : (kLst K vs h) = (newW (.list vs) K h) := rfl
theorem e_dict0 : (wE g .dict0 m K h) = (newW (.dict []) K h) := rfl
theorem e_call : (wE g (.call f es) m K h) = (wEs g es m (kCall g f K) h) := rfl
theorem e_Ca {P : Nat → Option Fn} {sc : List Int} : (kCall ⟨sc, callN P sc n⟩ f K vs h) = (callN P sc n f vs K h) := rfl
theorem e_new : (wE g (.new f es) m K h) = (wEs g es m (kNew g f K) h) := rfl
theorem e_Ne {P : Nat → Option Fn} {sc : List Int} : (kNew ⟨sc, callN P sc n⟩ f K vs h) = (∀ l, h l = Option.none → callN P sc n (initOf f) (.ref l :: vs) (kNewR l K) (hset h l (.inst f []))) := rfl
theorem e_meth : (wE g (.meth f r es) m K h) = (wE g r m (kMeth g f es m K) h) := rfl
theorem e_len : (wE g (.len a) m K h) = (wE g a m (kLen K) h) := rfl
theorem e_Le : (kLen K x h) = (lenW x K h) := rfl
theorem e_sum : (wE g (.sum a) m K h) = (wE g a m (kSum K) h) := rfl
theorem e_Su : (kSum K x h) = (sumW x K h) := rfl
theorem e_tupOf : (wE g (.tupOf a) m K h) = (wE g a m (kTo K) h) := rfl
theorem e_To : (kTo K x h) = (tupOfW x K h) := rfl
theorem e_sorted : (wE g (.sorted a) m K h) = (wE g a m (kSo K) h) := rfl
theorem e_So : (kSo K x h) = (sortedW x K h) := rfl
theorem e_max2 : (wE g (.max2 a b) m K h) = (wE g a m (kMx1 g b m K) h) := rfl
theorem e_Mx1 : (kMx1 g b m K x h) = (wE g b m (kMx2 x K) h) := rfl
theorem e_min2 : (wE g (.min2 a b) m K h) = (wE g a m (kMn1 g b m K) h) := rfl
theorem e_Mn1 : (kMn1 g b m K x h) = (wE g b m (kMn2 x K) h) := rfl
theorem e_append : (wE g (.append r x') m K h) = (wE g r m (kAp1 g x' m K) h) := rfl
theorem e_Ap2 : (kAp2 x K v h) = (appendW x v K h) := rfl
theorem e_pop : (wE g (.pop r) m K h) = (wE g r m (kPop K) h) := rfl
theorem e_Po : (kPop K x h) = (popW x K h) := rfl
theorem e_get1 : (wE g (.get1 a b) m K h) = (wE g a m (kG1 g b m K) h) := rfl
theorem e_G2 : (kG2 x K y h) = (getW x y .none K h) := rfl
theorem e_get2 : (wE g (.get2 a b c) m K h) = (wE g a m (kH1 g b c m K) h) := rfl
theorem e_H2 : (kH2 g x e m K y h) = (wE g e m (kH3 x y K) h) := rfl
theorem e_H3 : (kH3 x y K v h) = (getW x y v K h) := rfl
theorem e_compR : (wE g (.compR elt n a) m K h) = (wE g a m (kCR g elt n m K) h) := rfl
theorem e_compL : (wE g (.compL elt n a) m K h) = (wE g a m (kCL g elt n m K) h) := rfl
theorem e_take40 : (wE g (.take40 a) m K h) = (wE g a m (kT40 g K) h) := rfl
theorem e_nilE : (wEs g .nil m Ks h) = (Ks [] h) := rfl
theorem e_consE : (wEs g (.cons e es) m Ks h) = (wE g e m (kEs g es m Ks) h) := rfl
theorem e_Es : (kEs g es m Ks v h) = (wEs g es m (kCn v Ks) h) := rfl
theorem e_Cn : (kCn v Ks vs h) = (Ks (v :: vs) h) := rfl
theorem e_set {z : Nat} : (wS g (.set z e) S m h) = (wE g e m (kSet z m S) h) := rfl
theorem e_Se {z : Nat} : (kSet z m S v h) = (S .next (upd m z v) h) := rfl
theorem e_setT : (wS g (.setT xs e) S m h) = (wE g e m (kST xs m S) h) := rfl
theorem e_Nx : (kNx m S h) = (S .next m h) := rfl
theorem e_setA : (wS g (.setA o f e) S m h) = (wE g e m (kSA1 g o f m S) h) := rfl
theorem e_SA1 : (kSA1 g o f m S v h) = (wE g o m (kSA2 f v m S) h) := rfl
theorem e_SA2 : (kSA2 f v m S x h) = (setAW x f v (kNx m S) h) := rfl
theorem e_setI : (wS g (.setI o i e) S m h) = (wE g e m (kSI1 g o i m S) h) := rfl
theorem e_SI1 : (kSI1 g o i m S v h) = (wE g o m (kSI2 g i v m S) h) := rfl
theorem e_SI2 : (kSI2 g i v m S x h) = (wE g i m (kSI3 x v m S) h) := rfl
theorem e_SI3 : (kSI3 x v m S y h) = (setIW x y v (kNx m S) h) := rfl
theorem e_AVa {z : Nat} {i j : Int} : (kAV z .add (.int i) m S (.int j) h) = (S .next (upd m z (.int (i + j))) h) := rfl
theorem e_AVs {z : Nat} {i j : Int} : (kAV z .sub (.int i) m S (.int j) h) = (S .next (upd m z (.int (i - j))) h) := rfl
theorem e_augA : (wS g (.augA o f op e) S m h) = (wE g o m (kAA1 g f op e m S) h) := rfl
theorem e_AA1 : (kAA1 g f op e m S x h) = (attrW x f (kAA2 g f op e x m S) h) := rfl
theorem e_AA2 : (kAA2 g f op e x m S u h) = (wE g e m (kAA3 f op x u m S) h) := rfl
theorem e_AA3 {i j : Int} : (kAA3 f .add x (.int i) m S (.int j) h) = (setAW x f (.int (i + j)) (kNx m S) h) := rfl
theorem e_augI : (wS g (.augI o i op e) S m h) = (wE g o m (kAI1 g i op e m S) h) := rfl
theorem e_AI1 : (kAI1 g i op e m S x h) = (wE g i m (kAI2 g op e x m S) h) := rfl
theorem e_AI2 : (kAI2 g op e x m S y h) = (idxW x y (kAI3 g op e x y m S) h) := rfl
theorem e_AI3 : (kAI3 g op e x y m S u h) = (wE g e m (kAI4 op x y u m S) h) := rfl
theorem e_AI4 {i j : Int} : (kAI4 .add x y (.int i) m S (.int j) h) = (setIW x y (.int (i + j)) (kNx m S) h) := rfl
theorem e_ife : (wS g (.ife c t el) S m h) = (wE g c m (kIf g t el m S) h) := rfl
theorem e_ifT : (kIf g t el m S (.bool true) h) = (wSs g t S m h) := rfl
theorem e_ifF : (kIf g t el m S (.bool false) h) = (wSs g el S m h) := rfl
theorem e_whl : (wS g (.whl c t) S m h) = (kWl g c t S m h) := rfl
theorem e_UT {z : Nat} : (kU g c t S z m (.bool true) h) = (wSs g t (kV g c t S z) m h) := rfl
theorem e_UF {z : Nat} : (kU g c t S z m (.bool false) h) = (S .next m h) := rfl
theorem e_VN {z : Nat} : (kV g c t S z .next m h) = (kWN g c t S z m h) := rfl
theorem e_VR {z : Nat} : (kV g c t S z (.ret v) m h) = (S (.ret v) m h) := rfl
theorem e_inn : (cmpW .inn x y K h) = (memW x y (kMb K h) h) := rfl
theorem e_nin : (cmpW .nin x y K h) = (memW x y (kMn K h) h) := rfl
theorem e_Mb {t : Bool} : (kMb K h t) = (K (.bool t) h) := rfl
theorem e_MnT : (kMn K h true) = (K (.bool false) h) := rfl
theorem e_MnF : (kMn K h false) = (K (.bool true) h) := rfl
theorem e_forR {z : Nat} : (wS g (.forR z e t) S m h) = (wE g e m (kFR g z t m S) h) := rfl
theorem e_forL : (wS g (.forL tu xs e t) S m h) = (wE g e m (kFL g tu xs t m S) h) := rfl
theorem e_ret : (wS g (.ret e) S m h) = (wE g e m (kRet m S) h) := rfl
theorem e_Re : (kRet m S v h) = (S (.ret v) m h) := rfl
theorem e_ret0 : (wS g .ret0 S m h) = (S (.ret .none) m h) := rfl
theorem e_ex : (wS g (.ex e) S m h) = (wE g e m (kEx m S) h) := rfl
theorem e_Ex : (kEx m S v h) = (S .next m h) := rfl
theorem e_nil : (wSs g .nil S m h) = (S .next m h) := rfl
theorem e_cons : (wSs g (.cons s ss) S m h) = (wS g s (kSq g ss S) m h) := rfl
theorem e_SqN : (kSq g ss S .next m h) = (wSs g ss S m h) := rfl
theorem e_SqR : (kSq g ss S (.ret v) m h) = (S (.ret v) m h) := rfl
theorem e_InN {J : M → H → Prop} : (kInv S J .next m h) = (J m h) := rfl
theorem e_InR {J : M → H → Prop} : (kInv S J (.ret v) m h) = (S (.ret v) m h) := rfl
theorem e_WhT {Kb : KS} : (kWh g t Kb m S (.bool true) h) = (wSs g t Kb m h) := rfl
theorem e_WhF {Kb : KS} : (kWh g t Kb m S (.bool false) h) = (S .next m h) := rfl
theorem e_Co {Inv : Nat → List V → H → Prop} {z : Nat} {acc : List V} : (kCo Inv z acc v h) = (Inv (z + 1) (acc ++ [v]) h) := rfl
theorem e_FnN : (kFn K .next m h) = (K .none h) := rfl
theorem e_FnR : (kFn K (.ret v) m h) = (K v h) := rfl
theorem e_add {i j : Int} : (binW .add (.int i) (.int j) K h) = (K (.int (i + j)) h) := rfl
theorem e_sub {i j : Int} : (binW .sub (.int i) (.int j) K h) = (K (.int (i - j)) h) := rfl
theorem e_MC {P : Nat → Option Fn} {sc : List Int} : (kMC ⟨sc, callN P sc n⟩ f x K vs h) = (callN P sc n f (x :: vs) K h) := rfl
theorem s_var {z : Nat} (e : m z = some v) (k : K v h) : wE g (.var z) m K h := ⟨v, e, k⟩
theorem s_NR {l : Nat} (k : K (.ref l) h) : kNewR l K .none h := ⟨rfl, k⟩
theorem s_Mx2 {i j : Int} (k : K (.int (if j > i then j else i)) h) : kMx2 (.int i) K (.int j) h := ⟨i, j, rfl, rfl, k⟩
theorem s_Mn2 {i j : Int} (k : K (.int (if j < i then j else i)) h) : kMn2 (.int i) K (.int j) h := ⟨i, j, rfl, rfl, k⟩
theorem s_CR (k : 0 ≤ q ∧ q < 100000 ∧ kCW g elt n m K (rangeSrc q) h) : kCR g elt n m K (.int q) h := ⟨q, rfl, k⟩
theorem s_CL (e : srcOf v = some src) (k : kCW g elt n m K src h) : kCL g elt n m K v h := ⟨src, e, k⟩
theorem s_ST {m' : M} (e : bindT true xs m v = some m') (k : S .next m' h) : kST xs m S v h := ⟨m', e, k⟩
theorem s_augV {z : Nat} (q : m z = some u) (k : wE g e m (kAV z op u m S) h) : wS g (.augV z op e) S m h := ⟨u, q, k⟩
theorem s_w40 (k : kWN g c t S 40 m h) : kWl g c t S m h := ⟨40, k⟩
theorem s_unr {z : Nat} (k : wE g c m (kU g c t S z m) h) : kWN g c t S (z + 1) m h := k
theorem s_FR {z : Nat} (k : 0 ≤ q ∧ q < 100000 ∧ kFW g false [z] t S (rangeSrc q) m h) : kFR g z t m S (.int q) h := ⟨q, rfl, k⟩
theorem s_FL (e : srcOf v = some src) (k : kFW g tu xs t S src m h) : kFL g tu xs t m S v h := ⟨src, e, k⟩
theorem s_cons (k : wS g s (kSq g ss S) m h) : wSs g (.cons s ss) S m h := k
theorem Jx {α : Type} {I J : Nat → α → H → Prop} (j : ∀ i m h, I i m h → J i m h) {z : Nat} {w : α} (k : I z w h) : J z w h := j _ _ _ k
theorem Jw {I J : M → H → Prop} (j : ∀ m h, I m h → J m h) (k : I m h) : J m h := j _ _ k
theorem lt5 {k N b : Nat} (h : k < N) (n : N ≤ b) (e : Nat.ble b 99999 = true) : (k : Int) < 100000 := by
  have := Nat.le_of_ble_eq_true e
  (first | lia | omega)
theorem lt6 {N b : Nat} (n : N ≤ b) (e : Nat.ble b 99999 = true) : (N : Int) < 100000 := by
  have := Nat.le_of_ble_eq_true e
  (first | lia | omega)
theorem dn {j k n : Nat} (h : k ≤ n + 1) (e : Nat.ble (j + 1) k = true) : j ≤ n := Nat.le_of_succ_le_succ (Nat.le_trans (Nat.le_of_ble_eq_true e) h)
theorem dm {j k n : Nat} (h : k ≤ n) (e : Nat.ble j k = true) : j ≤ n := Nat.le_trans (Nat.le_of_ble_eq_true e) h
theorem s_fn {P : Nat → Option Fn} {sc : List Int} {ps : List Nat} {body : ISs} {n d : Nat} (hn : d + 1 ≤ n) (e : P f = some ⟨ps, body⟩) (l : vs.length = ps.length) (k : ∀ n, d ≤ n → wSs ⟨sc, callN P sc n⟩ body (kFn K) (updL (fun _ => none) ps vs) h) : callN P sc n f vs K h := by
  induction n using Nat.casesOn with
  | zero => exact absurd hn (Nat.not_succ_le_zero d)
  | succ n =>
    simp only [callN, e]
    exact ⟨l, k n (Nat.le_of_succ_le_succ hn)⟩
section
variable {i j : Int}
theorem s_ltT (p : i < j) (k : K (.bool true) h) : cmpW .lt (.int i) (.int j) K h := ⟨i, j, rfl, rfl, by rw [decide_eq_true p]; exact k⟩
theorem s_ltF (p : ¬ i < j) (k : K (.bool false) h) : cmpW .lt (.int i) (.int j) K h := ⟨i, j, rfl, rfl, by rw [decide_eq_false p]; exact k⟩
theorem s_leT (p : i ≤ j) (k : K (.bool true) h) : cmpW .le (.int i) (.int j) K h := ⟨i, j, rfl, rfl, by rw [decide_eq_true p]; exact k⟩
theorem s_leF (p : ¬ i ≤ j) (k : K (.bool false) h) : cmpW .le (.int i) (.int j) K h := ⟨i, j, rfl, rfl, by rw [decide_eq_false p]; exact k⟩
theorem s_gtT (p : j < i) (k : K (.bool true) h) : cmpW .gt (.int i) (.int j) K h := ⟨i, j, rfl, rfl, by rw [decide_eq_true p]; exact k⟩
theorem s_gtF (p : ¬ j < i) (k : K (.bool false) h) : cmpW .gt (.int i) (.int j) K h := ⟨i, j, rfl, rfl, by rw [decide_eq_false p]; exact k⟩
theorem s_geT (p : j ≤ i) (k : K (.bool true) h) : cmpW .ge (.int i) (.int j) K h := ⟨i, j, rfl, rfl, by rw [decide_eq_true p]; exact k⟩
theorem s_geF (p : ¬ j ≤ i) (k : K (.bool false) h) : cmpW .ge (.int i) (.int j) K h := ⟨i, j, rfl, rfl, by rw [decide_eq_false p]; exact k⟩
theorem s_eqT (p : i = j) (k : K (.bool true) h) : cmpW .eq (.int i) (.int j) K h := by
  show K (.bool (i == j)) h
  rw [beq_iff_eq.mpr p]; exact k
theorem s_eqF (p : i ≠ j) (k : K (.bool false) h) : cmpW .eq (.int i) (.int j) K h := by
  show K (.bool (i == j)) h
  rw [beq_false_of_ne p]; exact k
theorem s_neF (p : i = j) (k : K (.bool false) h) : cmpW .ne (.int i) (.int j) K h := by
  show K (.bool (!(i == j))) h
  rw [beq_iff_eq.mpr p]; exact k
theorem s_neT (p : i ≠ j) (k : K (.bool true) h) : cmpW .ne (.int i) (.int j) K h := by
  show K (.bool (!(i == j))) h
  rw [beq_false_of_ne p]; exact k
theorem s_isnR {l : Nat} (k : K (.bool true) h) : cmpW .isn (.ref l) .none K h := ⟨rfl, false, rfl, k⟩
theorem s_isnN (k : K (.bool false) h) : cmpW .isn .none .none K h := ⟨rfl, true, rfl, k⟩
theorem s_isR {l : Nat} (k : K (.bool false) h) : cmpW .is (.ref l) .none K h := ⟨rfl, false, rfl, k⟩
theorem s_isN (k : K (.bool true) h) : cmpW .is .none .none K h := ⟨rfl, true, rfl, k⟩
end
section
variable {L L' : List (Nat × O)} {l : Nat}
theorem s_Ap1 {ys : List V} (Ld : Led h L) (mm : (l, O.list ys) ∈ L) (k : wE g x' m (kAp2 (.ref l) K) h) : kAp1 g x' m K (.ref l) h := ⟨⟨l, ys, rfl, Ld.get mm⟩, k⟩
theorem s_G1 {es' : List (Int × V)} (Ld : Led h L) (mm : (l, O.dict es') ∈ L) (k : wE g b m (kG2 (.ref l) K) h) : kG1 g b m K (.ref l) h := ⟨⟨l, es', rfl, Ld.get mm⟩, k⟩
theorem s_H1 {es' : List (Int × V)} (Ld : Led h L) (mm : (l, O.dict es') ∈ L) (k : wE g b m (kH2 g (.ref l) c m K) h) : kH1 g b c m K (.ref l) h := ⟨⟨l, es', rfl, Ld.get mm⟩, k⟩
end
end
end
section
theorem newW_mono {o : O} {K K' : KE} {h : H} (k : ∀ v h, K v h → K' v h) (w : newW o K h) : newW o K' h := by
  unfold newW at *; exact fun l e => k _ _ (w l e)
theorem binW_mono {o : BOp} {x y : V} {K K' : KE} {h : H} (k : ∀ v h, K v h → K' v h) (w : binW o x y K h) : binW o x y K' h := by
  induction o using Qd.BOp.casesOn with
  | add => exact bW_add (Q := fun x y => binW .add x y K' h) w (fun a b w => k _ _ w) fun a b w => w.imp fun xs w => w.imp fun ys w => ⟨w.1, w.2.1, w.2.2.1, newW_mono k w.2.2.2⟩
  | sub => exact bW_int (Q := fun x y => binW .sub x y K' h) w nofun fun a b w => k _ _ w
  | mul => exact bW_int (Q := fun x y => binW .mul x y K' h) w nofun fun a b w => ⟨w.1, w.2.1, k _ _ w.2.2⟩
  | fdiv => exact bW_int (Q := fun x y => binW .fdiv x y K' h) w nofun fun a b w => ⟨w.1, w.2.1, k _ _ w.2.2⟩
  | fmod => exact bW_int (Q := fun x y => binW .fmod x y K' h) w nofun fun a b w => ⟨w.1, k _ _ w.2⟩
  | shr => exact bW_int (Q := fun x y => binW .shr x y K' h) w nofun fun a b w => ⟨w.1, w.2.1, k _ _ w.2.2⟩
  | pow => exact bW_int (Q := fun x y => binW .pow x y K' h) w nofun fun a b w => ⟨w.1, w.2.1, w.2.2.1, k _ _ w.2.2.2⟩
theorem augW_mono {o : BOp} {x y : V} {K K' : KE} {h : H} (k : ∀ v h, K v h → K' v h) (w : augW o x y K h) : augW o x y K' h :=
  aW_int (Q := fun o x y => augW o x y K' h) w (fun a b w => k _ _ w) fun a b w => k _ _ w
theorem memW_mono {x y : V} {K K' : Bool → Prop} {h : H} (k : ∀ b, K b → K' b) (w : memW x y K h) : memW x y K' h := by
  refine mW_ref (Q := fun x y => memW x y K' h) w (fun a b es e w => ?_) fun a b xs e w => ?_ <;> unfold memW
  · exact .inl ⟨es, e, k _ w⟩
  · exact .inr ⟨xs, e, k _ w⟩
theorem eqW_mono {x y : V} {K K' : Bool → Prop} {h : H} (k : ∀ b, K b → K' b) (w : eqW x y K h) : eqW x y K' h :=
  eW_two (Q := fun x y => eqW x y K' h) w (fun a b w => k _ w) fun a b d d1 d2 w => ⟨d, d1, d2, k _ w⟩
theorem cmpW_mono {o : COp} {x y : V} {K K' : KE} {h : H} (k : ∀ v h, K v h → K' v h) (w : cmpW o x y K h) : cmpW o x y K' h := by
  cases o
  · exact eqW_mono (K := fun b => K (.bool b) h) (fun b w => k _ _ w) w
  · exact eqW_mono (K := fun b => K (.bool (!b)) h) (fun b w => k _ _ w) w
  · exact Exists.imp (fun a w => w.imp fun b w => ⟨w.1, w.2.1, k _ _ w.2.2⟩) w
  · exact Exists.imp (fun a w => w.imp fun b w => ⟨w.1, w.2.1, k _ _ w.2.2⟩) w
  · exact Exists.imp (fun a w => w.imp fun b w => ⟨w.1, w.2.1, k _ _ w.2.2⟩) w
  · exact Exists.imp (fun a w => w.imp fun b w => ⟨w.1, w.2.1, k _ _ w.2.2⟩) w
  · exact ⟨w.1, w.2.imp fun b w => ⟨w.1, k _ _ w.2⟩⟩
  · exact ⟨w.1, w.2.imp fun b w => ⟨w.1, k _ _ w.2⟩⟩
  · exact memW_mono (K := fun b => K (.bool b) h) (fun b w => k _ _ w) w
  · exact memW_mono (K := fun b => K (.bool (!b)) h) (fun b w => k _ _ w) w
theorem attrW_mono {x : V} {f : Nat} {K K' : KE} {h : H} (k : ∀ v h, K v h → K' v h) (w : attrW x f K h) : attrW x f K' h := by
  unfold attrW at *; exact w.imp fun l w => w.imp fun c w => w.imp fun fs w => w.imp fun v w => ⟨w.1, w.2.1, w.2.2.1, k _ _ w.2.2.2⟩
theorem setAW_mono {x v : V} {f : Nat} {K K' : H → Prop} {h : H} (k : ∀ h, K h → K' h) (w : setAW x f v K h) : setAW x f v K' h := by
  unfold setAW at *; exact w.imp fun l w => w.imp fun c w => w.imp fun fs w => ⟨w.1, w.2.1, w.2.2.1, k _ w.2.2.2⟩
theorem idxW_mono {x i : V} {K K' : KE} {h : H} (k : ∀ v h, K v h → K' v h) (w : idxW x i K h) : idxW x i K' h := by
  unfold idxW at *
  refine w.imp fun j w => ⟨w.1, ?_⟩
  have w := w.2
  induction x using Qd.V.casesOn with
  | ref l => exact w.imp (fun w => ⟨w.1, w.2.1, w.2.2.imp fun xs w => w.imp fun v w => ⟨w.1, w.2.1, k _ _ w.2.2⟩⟩) fun w => w.imp fun es w => w.imp fun v w => ⟨w.1, w.2.1, k _ _ w.2.2⟩
  | tup xs => exact ⟨w.1, w.2.1, w.2.2.imp fun v w => ⟨w.1, k _ _ w.2⟩⟩
  | _ => exact w.elim
theorem setIW_mono {x i v : V} {K K' : H → Prop} {h : H} (k : ∀ h, K h → K' h) (w : setIW x i v K h) : setIW x i v K' h := by
  unfold setIW at *
  exact w.imp fun l w => w.imp fun j w => ⟨w.1, w.2.1, w.2.2.imp (fun w => ⟨w.1, w.2.1, w.2.2.imp fun xs w => ⟨w.1, w.2.1, k _ w.2.2⟩⟩) fun w => w.imp fun es w => ⟨w.1, w.2.1, k _ w.2.2⟩⟩
theorem lenW_mono {x : V} {K K' : KE} {h : H} (k : ∀ v h, K v h → K' v h) (w : lenW x K h) : lenW x K' h := by
  unfold lenW at *
  induction x using Qd.V.casesOn with
  | ref l => exact w.imp fun xs w => ⟨w.1, w.2.1, k _ _ w.2.2⟩
  | tup xs => exact ⟨w.1, k _ _ w.2⟩
  | _ => exact w.elim
theorem truthW_mono {x : V} {K K' : Bool → Prop} (k : ∀ b, K b → K' b) (w : truthW x K) : truthW x K' := by
  cases x <;> first | exact w.elim | exact k _ w
theorem tru_ite {x : V} {A A' B B' : Prop} (a : A → A') (b : B → B') (w : truthW x fun t => if t = true then A else B) : truthW x fun t => if t = true then A' else B' := by
  induction x using Qd.V.casesOn with
  | bool t => induction t using Bool.casesOn with
    | true => exact a w
    | false => exact b w
  | _ => exact w.elim
theorem compW_mono {body : V → KE → H → Prop} (hb : ∀ v K K' h, (∀ v h, K v h → K' v h) → body v K h → body v K' h) {s : Src} {K K' : KE} (k : ∀ v h, K v h → K' v h) (n : Nat) : ∀ (i : Nat) (acc : List V) (h : H), compW body s n i acc K h → compW body s n i acc K' h := by
  induction n with
  | zero => exact fun _ _ _ w => w
  | succ n ih => exact fun i acc h w => compW_inv w (fun e l w => compW_e e l (newW_mono k w)) fun v e l w => compW_n e l (hb _ _ _ _ (fun r h' w => ih (i + 1) _ h' w) w)
noncomputable def CMono (C : Nat → List V → KE → H → Prop) : Prop := ∀ f args K K' h, (∀ v h, K v h → K' v h) → C f args K h → C f args K' h
theorem fl_mono {P P' : M → H → Prop} {K K' : KS} (p : ∀ m h, P m h → P' m h) (k : ∀ v m h, K (.ret v) m h → K' (.ret v) m h) (f : Fl) (m : M) (h : H) : (match f with | .next => P m h | .ret v => K (.ret v) m h) → match f with | .next => P' m h | .ret v => K' (.ret v) m h := by
  induction f using Qd.Fl.casesOn with
  | next => exact p m h
  | ret v => exact k v m h
theorem whlW_mono {T : M → KE → H → Prop} {B : KS → M → H → Prop} (hT : ∀ m K K' h, (∀ v h, K v h → K' v h) → T m K h → T m K' h) (hB : ∀ K K' m h, (∀ f m h, K f m h → K' f m h) → B K m h → B K' m h) {K K' : KS} (k : ∀ f m h, K f m h → K' f m h) (n : Nat) : ∀ (m : M) (h : H), whlW T B K n m h → whlW T B K' n m h := by
  induction n with
  | zero => exact fun _ _ w => w
  | succ n ih => exact fun m h w => hT m _ _ h (fun v h1 w => tru_ite (hB _ _ m h1 (fl_mono ih fun v => k (.ret v))) (k .next m h1) w) w
theorem forW_mono {tu : Bool} {xs : List Nat} {B : KS → M → H → Prop} (hB : ∀ K K' m h, (∀ f m h, K f m h → K' f m h) → B K m h → B K' m h) {K K' : KS} (k : ∀ f m h, K f m h → K' f m h) {s : Src} (n : Nat) : ∀ (i : Nat) (m : M) (h : H), forW tu xs B K s n i m h → forW tu xs B K' s n i m h := by
  induction n with
  | zero => exact fun _ _ _ w => w
  | succ n ih => exact fun i m h w => forW_inv w (fun e w => forW_e e (k _ _ _ w)) fun v m' e b w => forW_n e b (hB _ _ m' h (fl_mono (ih (i + 1)) fun v => k (.ret v)) w)
theorem getW_mono {x y d : V} {K K' : KE} {h : H} (k : ∀ v h, K v h → K' v h) (w : getW x y d K h) : getW x y d K' h := by
  unfold getW at *; exact w.imp fun l w => w.imp fun es w => w.imp fun i w => ⟨w.1, w.2.1, w.2.2.1, k _ _ w.2.2.2⟩
noncomputable def ME (g : G) (e : IE) : Prop := ∀ (m : M) (K K' : KE) (h : H), (∀ v h, K v h → K' v h) → wE g e m K h → wE g e m K' h
noncomputable def MEs (g : G) (es : IEs) : Prop := ∀ (m : M) (K K' : KEs) (h : H), (∀ v h, K v h → K' v h) → wEs g es m K h → wEs g es m K' h
noncomputable def MS (g : G) (s : IS) : Prop := ∀ (K K' : KS) (m : M) (h : H), (∀ f m h, K f m h → K' f m h) → wS g s K m h → wS g s K' m h
noncomputable def MSs (g : G) (s : ISs) : Prop := ∀ (K K' : KS) (m : M) (h : H), (∀ f m h, K f m h → K' f m h) → wSs g s K m h → wSs g s K' m h
section
variable {g : G} (hC : CMono g.C)
include hC
theorem monoE (e : IE) : ME g e := by
  refine IE.rec (motive_1 := ME g) (motive_2 := MEs g) ?_ ?_ ?_ ?_ ?_ ?_ ?_ ?_ ?_ ?_ ?_ ?_ ?_ ?_ ?_ ?_ ?_ ?_ ?_ ?_ ?_ ?_ ?_ ?_ ?_ ?_ ?_ ?_ ?_ e
  · exact fun v m K K' h k w => k _ _ w
  · exact fun x m K K' h k w => Exists.imp (fun v w => ⟨w.1, k _ _ w.2⟩) w
  · exact fun o a b ia ib m K K' h k w => ia m _ _ h (fun x h w => ib m _ _ h (fun y h w => binW_mono k w) w) w
  · exact fun o a b ia ib m K K' h k w => ia m _ _ h (fun x h w => ib m _ _ h (fun y h w => cmpW_mono k w) w) w
  · exact fun a b ia ib m K K' h k w => ia m _ _ h (fun x h w => tru_ite (ib m _ _ h k) (k _ _) w) w
  · exact fun a b ia ib m K K' h k w => ia m _ _ h (fun x h w => tru_ite (k _ _) (ib m _ _ h k) w) w
  · exact fun a f ia m K K' h k w => ia m _ _ h (fun x h w => attrW_mono k w) w
  · exact fun a i ia ii m K K' h k w => ia m _ _ h (fun x h w => ii m _ _ h (fun y h w => idxW_mono k w) w) w
  · exact fun es ie m K K' h k w => ie m _ _ h (fun vs h w => k _ _ w) w
  · exact fun es ie m K K' h k w => ie m _ _ h (fun vs h w => newW_mono k w) w
  · exact fun m K K' h k w => newW_mono k w
  · exact fun f es ie m K K' h k w => ie m _ _ h (fun vs h w => hC _ _ _ _ _ k w) w
  · exact fun c es ie m K K' h k w => ie m _ _ h (fun vs h w l e => hC _ _ _ _ _ (fun r h' w => ⟨w.1, k _ _ w.2⟩) (w l e)) w
  · exact fun f r es ir ie m K K' h k w => ir m _ _ h (fun x h w => ⟨w.1, ie m _ _ h (fun vs h w => hC _ _ _ _ _ k w) w.2⟩) w
  · exact fun a ia m K K' h k w => ia m _ _ h (fun x h w => lenW_mono k w) w
  · exact fun a ia m K K' h k w => ia m _ _ h (fun x h w => by unfold sumW at *; exact w.imp fun l w => w.imp fun xs w => ⟨w.1, w.2.1, w.2.2.1, w.2.2.2.1, k _ _ w.2.2.2.2⟩) w
  · exact fun a ia m K K' h k w => ia m _ _ h (fun x h w => by unfold tupOfW at *; exact w.imp fun l w => w.imp fun xs w => ⟨w.1, w.2.1, w.2.2.1, k _ _ w.2.2.2⟩) w
  · exact fun a ia m K K' h k w => ia m _ _ h (fun x h w => by unfold sortedW at *; exact w.imp fun l w => ⟨w.1, w.2.imp (fun w => w.imp fun xs w => ⟨w.1, w.2.1, newW_mono k w.2.2⟩) fun w => w.imp fun es w => ⟨w.1, w.2.1, newW_mono k w.2.2⟩⟩) w
  · exact fun a b ia ib m K K' h k w => ia m _ _ h (fun x h w => ib m _ _ h (fun y h w => Exists.imp (fun i w => w.imp fun j w => ⟨w.1, w.2.1, k _ _ w.2.2⟩) w) w) w
  · exact fun a b ia ib m K K' h k w => ia m _ _ h (fun x h w => ib m _ _ h (fun y h w => Exists.imp (fun i w => w.imp fun j w => ⟨w.1, w.2.1, k _ _ w.2.2⟩) w) w) w
  · exact fun r x ir ix m K K' h k w => ir m _ _ h (fun r h w => ⟨w.1, ix m _ _ h (fun v h w => by unfold appendW at *; exact w.imp fun l w => w.imp fun xs w => ⟨w.1, w.2.1, w.2.2.1, k _ _ w.2.2.2⟩) w.2⟩) w
  · exact fun r ir m K K' h k w => ir m _ _ h (fun r h w => by unfold popW at *; exact w.imp fun l w => w.imp fun xs w => w.imp fun v w => ⟨w.1, w.2.1, w.2.2.1, k _ _ w.2.2.2⟩) w
  · exact fun d x id ix m K K' h k w => id m _ _ h (fun d h w => ⟨w.1, ix m _ _ h (fun x h w => getW_mono k w) w.2⟩) w
  · exact fun d x y id ix iy m K K' h k w => id m _ _ h (fun d h w => ⟨w.1, ix m _ _ h (fun x h w => iy m _ _ h (fun y h w => getW_mono k w) w) w.2⟩) w
  · exact fun elt x n ie i m K K' h k w => i m _ _ h (fun v h w => Exists.imp (fun j w => ⟨w.1, w.2.1, w.2.2.1, w.2.2.2.imp fun fuel w => compW_mono (body := fun v K h => wE g elt (upd m x v) K h) (fun v K K' h k w => ie (upd m x v) _ _ h k w) k fuel 0 [] h w⟩) w) w
  · exact fun elt x it ie i m K K' h k w => i m _ _ h (fun v h w => Exists.imp (fun s w => ⟨w.1, w.2.imp fun fuel w => compW_mono (body := fun v K h => wE g elt (upd m x v) K h) (fun v K K' h k w => ie (upd m x v) _ _ h k w) k fuel 0 [] h w⟩) w) w
  · exact fun a ia m K K' h k w => ia m _ _ h (fun v h w => ⟨w.1, newW_mono k w.2⟩) w
  · exact fun m K K' h k w => k _ _ w
  · exact fun e es ie is m K K' h k w => ie m _ _ h (fun v h w => is m _ _ h (fun vs h w => k _ _ w) w) w
theorem monoSs (s : ISs) : MSs g s := by
  refine ISs.rec (motive_1 := MS g) (motive_2 := MSs g) ?_ ?_ ?_ ?_ ?_ ?_ ?_ ?_ ?_ ?_ ?_ ?_ ?_ ?_ ?_ ?_ s
  · exact fun x e K K' m h k w => monoE hC e m _ _ h (fun v h w => k _ _ _ w) w
  · exact fun xs e K K' m h k w => monoE hC e m _ _ h (fun v h w => Exists.imp (fun m' w => ⟨w.1, k _ _ _ w.2⟩) w) w
  · exact fun o f e K K' m h k w => monoE hC e m _ _ h (fun v h w => monoE hC o m _ _ h (fun x h w => setAW_mono (fun h w => k _ _ _ w) w) w) w
  · exact fun o i e K K' m h k w => monoE hC e m _ _ h (fun v h w => monoE hC o m _ _ h (fun x h w => monoE hC i m _ _ h (fun y h w => setIW_mono (fun h w => k _ _ _ w) w) w) w) w
  · exact fun x op e K K' m h k w => Exists.imp (fun u w => ⟨w.1, monoE hC e m _ _ h (fun v h w => augW_mono (fun r h w => k _ _ _ w) w) w.2⟩) w
  · exact fun o f op e K K' m h k w => monoE hC o m _ _ h (fun x h w => attrW_mono (fun u h w => monoE hC e m _ _ h (fun v h w => augW_mono (fun r h w => setAW_mono (fun h w => k _ _ _ w) w) w) w) w) w
  · exact fun o i op e K K' m h k w => monoE hC o m _ _ h (fun x h w => monoE hC i m _ _ h (fun y h w => idxW_mono (fun u h w => monoE hC e m _ _ h (fun v h w => augW_mono (fun r h w => setIW_mono (fun h w => k _ _ _ w) w) w) w) w) w) w
  · exact fun c t e it ie K K' m h k w => monoE hC c m _ _ h (fun x h w => tru_ite (it _ _ m h k) (ie _ _ m h k) w) w
  · exact fun c b ib K K' m h k w => Exists.imp (fun n w => whlW_mono (T := fun m K h => wE g c m K h) (B := fun K m h => wSs g b K m h) (fun m K K' h k w => monoE hC c m _ _ h k w) ib k n m h w) w
  · exact fun x n b ib K K' m h k w => monoE hC n m _ _ h (fun v h w => Exists.imp (fun j w => ⟨w.1, w.2.1, w.2.2.1, w.2.2.2.imp fun fuel w => forW_mono (B := fun K m h => wSs g b K m h) ib k fuel 0 m h w⟩) w) w
  · exact fun tu xs e b ib K K' m h k w => monoE hC e m _ _ h (fun v h w => Exists.imp (fun s w => ⟨w.1, w.2.imp fun fuel w => forW_mono (B := fun K m h => wSs g b K m h) ib k fuel 0 m h w⟩) w) w
  · exact fun e K K' m h k w => monoE hC e m _ _ h (fun v h w => k _ _ _ w) w
  · exact fun K K' m h k w => k _ _ _ w
  · exact fun e K K' m h k w => monoE hC e m _ _ h (fun v h w => k _ _ _ w) w
  · exact fun K K' m h k w => k _ _ _ w
  · exact fun s ss is iss K K' m h k w => is _ _ m h (fl_mono (iss _ _ · · k) fun v => k (.ret v)) w
end
theorem mono_call {P : Nat → Option Fn} {sc : List Int} (n : Nat) : CMono (callN P sc n) := by
  induction n with
  | zero => exact fun f args K K' h k w => w
  | succ n ih =>
    intro f args K K' h k w
    unfold callN at *
    cases e : P f with
    | none => rw [e] at w; exact w.elim
    | some fn =>
      rw [e] at w
      exact ⟨w.1, monoSs (g := ⟨sc, callN P sc n⟩) ih _ _ _ _ _ (fun fl m h w => by
        induction fl using Qd.Fl.casesOn with
        | next => exact k _ _ w
        | ret v => exact k _ _ w) w.2⟩
theorem whl_inv0 {P : Nat → Option Fn} {sc : List Int} {n : Nat} {c : IE} {b : ISs} {K : KS} (Inv : Nat → M → H → Prop)
    (step : ∀ d m h, Inv d m h → wE ⟨sc, callN P sc n⟩ c m (kWh ⟨sc, callN P sc n⟩ b (kInv K fun m2 h2 => ∃ d', d' < d ∧ Inv d' m2 h2) m K) h)
    {d : Nat} {m : M} {h : H} (h0 : Inv d m h) : kWl ⟨sc, callN P sc n⟩ c b K m h := by
  have key : ∀ N d m h, d < N → Inv d m h → whlW (fun m K h => wE ⟨sc, callN P sc n⟩ c m K h) (fun K m h => wSs ⟨sc, callN P sc n⟩ b K m h) K N m h := by
    intro N
    induction N with
    | zero => exact fun d m h hd => absurd hd (Nat.not_lt_zero d)
    | succ N ih =>
      exact fun d m h hd hi => monoE (g := ⟨sc, callN P sc n⟩) (mono_call n) c m _ _ h (fun v h1 w => tru_ite (monoSs (g := ⟨sc, callN P sc n⟩) (mono_call n) b _ _ m h1 (fl_mono (P := fun m2 h2 => ∃ d', d' < d ∧ Inv d' m2 h2) (K := K) (fun m2 h2 w => w.elim fun d' w => ih d' m2 h2 (Nat.lt_of_lt_of_le w.1 (Nat.le_of_lt_succ hd)) w.2) fun _ _ _ w => w)) id w) (step d m h hi)
  exact ⟨d + 1, key _ d m h (Nat.lt_succ_self d) h0⟩
theorem for_inv0 {P : Nat → Option Fn} {sc : List Int} {n : Nat} {tu : Bool} {xs : List Nat} {b : ISs} {K : KS} {s : Src} (len : Nat) (Inv : Nat → M → H → Prop)
    (hend : ∀ m h, Inv len m h → srcAt h s len = some none ∧ K .next m h)
    (step : ∀ i m h, i < len → Inv i m h → ∃ v m', srcAt h s i = some (some v) ∧ bindT tu xs m v = some m' ∧ wSs ⟨sc, callN P sc n⟩ b (kInv K (Inv (i + 1))) m' h)
    {m : M} {h : H} (h0 : Inv 0 m h) : kFW ⟨sc, callN P sc n⟩ tu xs b K s m h := by
  have key : ∀ k i m h, i + k = len → Inv i m h → forW tu xs (fun K m h => wSs ⟨sc, callN P sc n⟩ b K m h) K s (k + 1) i m h := by
    intro k
    induction k with
    | zero =>
      intro i m h hi hv
      obtain rfl : i = len := hi
      exact forW_e (hend m h hv).1 (hend m h hv).2
    | succ k ih =>
      intro i m h hi hv
      exact (step i m h (hi ▸ Nat.lt_add_of_pos_right (Nat.succ_pos k)) hv).elim fun v q => q.elim fun m' q => forW_n q.1 q.2.1 (monoSs (g := ⟨sc, callN P sc n⟩) (mono_call n) b _ _ m' h (fl_mono (fun m2 h2 w => ih (i + 1) m2 h2 ((Nat.succ_add i k).trans hi) w) fun _ _ _ w => w) q.2.2)
  exact ⟨len + 1, key len 0 m h (Nat.zero_add len) h0⟩
theorem comp_inv0 {P : Nat → Option Fn} {sc : List Int} {n : Nat} {x : Nat} {elt : IE} {m : M} {K : KE} {s : Src} (len : Nat) (Inv : Nat → List V → H → Prop) (hlen : len < 100000)
    (hend : ∀ acc h, Inv len acc h → srcAt h s len = some none ∧ newW (.list acc) K h)
    (step : ∀ i acc h, i < len → Inv i acc h → ∃ v, srcAt h s i = some (some v) ∧ wE ⟨sc, callN P sc n⟩ elt (upd m x v) (kCo Inv i acc) h)
    {h : H} (h0 : Inv 0 [] h) : kCW ⟨sc, callN P sc n⟩ elt x m K s h := by
  have key : ∀ k i acc h, i + k = len → acc.length = i → Inv i acc h → compW (fun v K h => wE ⟨sc, callN P sc n⟩ elt (upd m x v) K h) s (k + 1) i acc K h := by
    intro k
    induction k with
    | zero =>
      intro i acc h hi ha hv
      obtain rfl : i = len := hi
      exact compW_e (hend acc h hv).1 (ha.symm ▸ hlen) (hend acc h hv).2
    | succ k ih =>
      intro i acc h hi ha hv
      have lt : i < len := hi ▸ Nat.lt_add_of_pos_right (Nat.succ_pos k)
      exact (step i acc h lt hv).elim fun v q => compW_n q.1 (ha.symm ▸ Nat.lt_trans lt hlen) (monoE (g := ⟨sc, callN P sc n⟩) (mono_call n) elt _ _ _ h (fun r h' w => ih (i + 1) _ h' ((Nat.succ_add i k).trans hi) (List.length_append.trans (congrArg (· + 1) ha)) w) q.2)
  exact ⟨len + 1, key len 0 [] h (Nat.zero_add len) rfl h0⟩
theorem whl_inv {P : Nat → Option Fn} {sc : List Int} {n : Nat} {c : IE} {b : ISs} {K : KS} (Inv : Nat → M → H → Prop)
    (step : ∀ (d : Nat) (J : M → H → Prop), (∀ m h, (∃ d', d' < d ∧ Inv d' m h) → J m h) → ∀ m h, Inv d m h → wE ⟨sc, callN P sc n⟩ c m (kWh ⟨sc, callN P sc n⟩ b (kInv K J) m K) h)
    {d : Nat} {m : M} {h : H} (h0 : Inv d m h) : kWl ⟨sc, callN P sc n⟩ c b K m h := whl_inv0 Inv (fun d m h i => step d _ (fun _ _ k => k) m h i) h0
theorem for_inv {P : Nat → Option Fn} {sc : List Int} {n : Nat} {tu : Bool} {xs : List Nat} {b : ISs} {K : KS} {s : Src} (len : Nat) (Inv : Nat → M → H → Prop)
    (hend : ∀ m h, Inv len m h → srcAt h s len = some none ∧ K .next m h)
    (step : ∀ (J : Nat → M → H → Prop), (∀ i m h, Inv i m h → J i m h) → ∀ i m h, i < len → Inv i m h → kSt ⟨sc, callN P sc n⟩ tu xs b (kInv K (J (i + 1))) s i m h)
    {m : M} {h : H} (h0 : Inv 0 m h) : kFW ⟨sc, callN P sc n⟩ tu xs b K s m h := for_inv0 len Inv hend (fun i m h a b => step _ (fun _ _ _ k => k) i m h a b) h0
theorem comp_inv {P : Nat → Option Fn} {sc : List Int} {n : Nat} {x : Nat} {elt : IE} {m : M} {K : KE} {s : Src} (len : Nat) (Inv : Nat → List V → H → Prop) (hlen : len < 100000)
    (hend : ∀ acc h, Inv len acc h → srcAt h s len = some none ∧ newW (.list acc) K h)
    (step : ∀ (J : Nat → List V → H → Prop), (∀ i acc h, Inv i acc h → J i acc h) → ∀ i acc h, i < len → Inv i acc h → kSc ⟨sc, callN P sc n⟩ elt x m (kCo J i acc) s i h)
    {h : H} (h0 : Inv 0 [] h) : kCW ⟨sc, callN P sc n⟩ elt x m K s h := comp_inv0 len Inv hlen hend (fun i acc h a b => step _ (fun _ _ _ k => k) i acc h a b) h0
end
section
set_option compiler.extract_closed false
local macro_rules | `(tactic| trivial) => `(tactic| (repeat (first | exact List.Mem.head _ | exact Upd.head _ | exact Pull.head _ | exact List.Sublist.refl _ | assumption | apply List.Mem.tail | apply Upd.tail | apply Pull.tail | apply List.Sublist.cons_cons | apply List.Sublist.cons | apply List.mem_append_right)))
set_option hygiene false in
local macro_rules | `(tactic| walk_at "ds") => `(tactic| dsimp only [e_attr, e_At, e_call, e_Ca, e_consE, e_nilE, e_Es, e_Cn, e_con, e_idx, e_I1, e_I2, e_set, e_Se, e_SqN, e_nil, e_cmp, e_C1, e_C2, e_ife, e_ifT, e_ifF, e_bin, e_B1, e_B2, e_tup, e_Tu, e_ret, e_Re, e_FnR, e_InN, e_ex, e_Ex, e_Nx])
set_option hygiene false in
local macro_rules | `(tactic| walk_at "ds2") => `(tactic| dsimp only [e_band, e_andT, e_andF, e_bor, e_orT, e_orF, e_lst, e_Ls, e_dict0, e_new, e_Ne, e_meth, e_len, e_Le, e_sum, e_Su, e_tupOf, e_To, e_sorted, e_So, e_max2, e_Mx1, e_min2, e_Mn1, e_append, e_Ap2, e_pop, e_Po, e_get1, e_G2, e_get2, e_H2, e_H3, e_compR, e_compL, e_take40, e_setT, e_setA, e_SA1, e_SA2, e_setI, e_SI1, e_SI2, e_SI3, e_AVa, e_AVs, e_augA, e_AA1, e_AA2, e_AA3, e_augI, e_AI1, e_AI2, e_AI3, e_AI4, e_whl, e_forR, e_forL, e_ret0, e_cons, e_SqR, e_InR, e_WhT, e_WhF, e_Co, e_FnN, e_add, e_sub, e_MC, e_UT, e_UF, e_VN, e_VR, e_inn, e_nin, e_Mb, e_MnT, e_MnF, Option.getD_some, Option.getD_none, Option.isSome_none, Option.isSome_some])
local macro_rules | `(tactic| walk_at "v") => `(tactic| ((with_reducible refine' s_var ?e ?_); (case e => first | rfl | assumption)))
local macro_rules | `(tactic| walk_at "st") => `(tactic| (first | walk_at "ds" | walk_at "v" | ((with_reducible show wSs _ _ _ _ _); refine s_cons ?_) | refine x_attr (by assumption) (by trivial) (by rfl) ?_ | walk_at "ds2" | ((with_reducible show cmpW .isn _ _ _ _); first | refine s_isnR ?_ | refine s_isnN ?_) | ((with_reducible show cmpW .is _ _ _ _); first | refine s_isR ?_ | refine s_isN ?_) | (with_reducible first | apply s_FR | apply s_CR | apply s_NR | apply s_Mx2 | apply s_Mn2) | ((with_reducible refine' s_augV ?e ?_); (case e => first | rfl | assumption)) | ((with_reducible refine' s_FL ?e ?_); (case e => rfl)) | ((with_reducible refine' s_CL ?e ?_); (case e => rfl)) | ((with_reducible refine' s_ST ?e ?_); (case e => rfl)) | ((with_reducible refine' Jx ?e ?_); (case e => assumption)) | ((with_reducible refine' Jw ?e ?_); (case e => assumption)) | ((with_reducible show ∃ _, _); refine ⟨_, (by first | rfl | assumption), ?_⟩) | ((with_reducible show cmpW _ (.int _) (.int _) _ _); first | refine s_eqT rfl ?_ | refine s_eqF (of_decide_eq_true rfl) ?_ | refine s_neF rfl ?_ | refine s_neT (of_decide_eq_true rfl) ?_ | refine s_ltT (of_decide_eq_true rfl) ?_ | refine s_ltF (of_decide_eq_false rfl) ?_ | refine s_gtT (of_decide_eq_true rfl) ?_ | refine s_gtF (of_decide_eq_false rfl) ?_ | refine s_geT (of_decide_eq_true rfl) ?_ | refine s_geF (of_decide_eq_false rfl) ?_)))
local macro_rules | `(tactic| walk_at "go") => `(tactic| repeat walk_at "st")
local macro_rules | `(tactic| walk_at "gob") => `(tactic| repeat (first | walk_at "st" | refine x_idxT (by first | decide | (simp; done) | lia | (first | lia | omega)) (by first | decide | (simp; done) | lia | (first | lia | omega)) (by rfl) ?_ | refine x_lenT (by simp) ?_ | refine x_lenL (by assumption) (by trivial) (by first | (simp; done) | lia | (first | lia | omega) | (simp; (first | lia | omega))) ?_ | refine x_idxL (by assumption) (by trivial) (by first | decide | (simp; done) | lia | (first | lia | omega)) (by first | decide | (simp; done) | lia | (first | lia | omega)) (by rfl) ?_ | refine s_Ap1 (by assumption) (by trivial) ?_ | refine x_tupOf (by assumption) (by trivial) (by first | (simp; done) | lia | (first | lia | omega)) ?_ | (refine x_append (by assumption) (by trivial) (by first | (simp; done) | lia | (first | lia | omega) | (simp; (first | lia | omega))) ?_; intro h Ld) | (refine x_popC (by assumption) (by trivial) (by rfl) (by simp) ?_; intro h Ld) | (refine x_new (by assumption) ?_; intro l h Ld) | refine s_w40 ?_ | (with_reducible apply s_unr)))
local macro_rules | `(tactic| walk_at "lk") => `(tactic| first | with_reducible assumption | ((with_reducible refine' Nat.le_of_eq ?z); (case z => with_reducible assumption)) | ((with_reducible refine' Nat.le_of_eq (Eq.symm ?z)); (case z => with_reducible assumption)) | ((with_reducible refine' Nat.le_of_lt ?z); (case z => with_reducible assumption)))
local macro_rules | `(tactic| walk_at "lk2") => `(tactic| first | with_reducible assumption | ((with_reducible refine' Nat.le_trans ?x ?y); (case x => walk_at "lk"); (case y => walk_at "lk")) | ((with_reducible refine' Nat.le_trans ?x ?y); (case x => walk_at "lk"); (case y => ((with_reducible refine' Nat.le_trans ?u ?v); (case u => walk_at "lk"); (case v => walk_at "lk")))))
local macro_rules | `(tactic| walk_at "om") => `(tactic| first | with_reducible assumption | with_reducible rfl | with_reducible exact Nat.le_of_ble_eq_true rfl | with_reducible exact Int.natCast_nonneg _ | decide | ((with_reducible refine' Nat.le_of_lt ?z); (case z => with_reducible assumption)) | ((with_reducible refine' Nat.le_of_eq ?z); (case z => with_reducible assumption)) | ((with_reducible refine' Nat.not_lt.mpr ?z); (case z => with_reducible assumption)) | ((with_reducible refine' Int.not_lt.mpr ?z); (case z => with_reducible assumption)) | ((with_reducible refine' qIN ?z); (case z => with_reducible assumption)) | ((with_reducible refine' Nat.lt_succ_of_lt ?z); (case z => with_reducible assumption)) | ((with_reducible refine' Nat.lt_of_succ_le ?z); (case z => with_reducible assumption)) | ((with_reducible refine' Nat.succ_le_of_lt ?z); (case z => with_reducible assumption)) | ((with_reducible refine' Nat.le_succ_of_le ?z); (case z => with_reducible assumption)) | ((with_reducible refine' qEI ?z); (case z => rfl)) | ((with_reducible refine' qT1 ?x ?y); (case x => walk_at "lk"); (case y => rfl)) | ((with_reducible refine' qT3 ?x ?y); (case x => walk_at "lk"); (case y => rfl)) | ((with_reducible refine' qI1 ?x ?y); (case x => walk_at "lk"); (case y => rfl)) | ((with_reducible refine' qT2 ?x ?y); (case x => with_reducible assumption); (case y => rfl)) | ((with_reducible refine' qI2 ?x ?y); (case x => with_reducible assumption); (case y => rfl)) | ((with_reducible refine' qM1 ?x ?y); (case x => rfl); (case y => rfl)) | ((with_reducible refine' qM2 ?x ?y); (case x => rfl); (case y => rfl)) | ((with_reducible refine' qLl ?x ?y); (case x => with_reducible assumption); (case y => walk_at "lk")) | ((with_reducible refine' qLe ?x ?y); (case x => walk_at "lk"); (case y => with_reducible assumption)) | ((with_reducible refine' qT1 ?x ?y); (case x => walk_at "lk2"); (case y => rfl)) | ((with_reducible refine' qT3 ?x ?y); (case x => walk_at "lk2"); (case y => rfl)) | ((with_reducible refine' qI1 ?x ?y); (case x => walk_at "lk2"); (case y => rfl)) | lia | (first | lia | omega))
local macro_rules | `(tactic| walk_at "i") => `(tactic| first | decide | exact Int.natCast_nonneg _ | walk_at "om")
local macro_rules | `(tactic| walk_at "j") => `(tactic| first | decide | ((with_reducible refine' lt5 ?x ?y ?z); (case x => assumption); (case y => assumption); (case z => rfl)) | ((with_reducible refine' lt6 ?x ?z); (case x => assumption); (case z => rfl)) | walk_at "om")
local macro_rules | `(tactic| walk_at "le") => `(tactic| first | exact dm (by assumption) rfl | exact dn (by assumption) rfl | walk_at "om")
local macro_rules | `(tactic| walk_at "setA") => `(tactic| refine x_setA (by assumption) (by trivial) (by first | exact Nat.le_of_ble_eq_true rfl | simp) (by rfl) ?_)
section
section
variable {sc : List Int} {n : Nat} {h : H} {K : KE} {R : List (Nat × O)}
noncomputable def wordsFor (c : Int) : Int := if 2 + c < 3 then 3 else 2 + c
theorem sp_words_for (hn : 1 ≤ n) {c : Int} (hK : K (.int (wordsFor c)) h) : callN prog sc n 4 [.int c] K h := by
  refine s_fn (by assumption) rfl rfl ?_
  intro n hn
  walk_at "go"
  unfold wordsFor at hK
  by_cases hc : 2 + c < 3
  · rw [if_pos hc] at hK
    first | refine s_ltT hc ?_ | refine s_leT hc ?_ | refine s_gtT hc ?_ | refine s_geT hc ?_
    walk_at "go"
    exact hK
  · rw [if_neg hc] at hK
    first | refine s_ltF hc ?_ | refine s_leF hc ?_ | refine s_gtF hc ?_ | refine s_geF hc ?_
    walk_at "go"
    exact hK
theorem sp_Thing (hn : 2 ≤ n) {l s : Nat} {a k : Int} {vs : List V} (Ld : Led h ((l, O.inst 0 []) :: R)) (ms : (s, O.list vs) ∈ R) (hv : vs.length < 1000)
    (hK : ∀ h', Led h' ((l, O.inst 0 [(0, .int a), (1, .int k), (2, .ref s), (3, .int 0), (4, .int (wordsFor vs.length)), (5, .int 0)]) :: R) → K .none h') :
    callN prog sc n 5 [.ref l, .int a, .int k, .ref s] K h := by
  refine s_fn (by assumption) rfl rfl ?_
  intro n hn
  walk_at "go"
  walk_at "setA"
  intro h Ld
  walk_at "go"
  walk_at "setA"
  intro h Ld
  walk_at "go"
  walk_at "setA"
  intro h Ld
  walk_at "go"
  walk_at "setA"
  intro h Ld
  walk_at "go"
  refine x_lenL (by assumption) (by trivial) (by first | walk_at "om" | (simp; done) | (simp; walk_at "om")) ?_
  walk_at "go"
  refine sp_words_for (by walk_at "le") ?_
  walk_at "go"
  walk_at "setA"
  intro h Ld
  walk_at "go"
  walk_at "setA"
  intro h Ld
  walk_at "go"
  exact hK _ (by assumption)
end
end
section
inductive SV where
  | ref (w : Int)
  | i4 (c : Int)
  | s5 (w c : Int)
  | s6 (w w2 : Int)
  | ftn (t : V)
  | ph (w : Int) (t : V)
  | pn (k : Int) (a b c : V)
noncomputable def SV.v : SV → V
  | .ref w => .tup [.int 4, .int w]
  | .i4 c => .tup [.int 1, .int c]
  | .s5 w c => .tup [.int 5, .int 30, .tup [.tup [.int 4, .int w], .tup [.int 1, .int c]]]
  | .s6 w w2 => .tup [.int 5, .int 31, .tup [.tup [.int 5, .int 32, .tup []], .tup [.int 5, .int 30, .tup [.tup [.int 4, .int w], .tup [.int 1, .int 19]]], .tup [.int 4, .int w2]]]
  | .ftn t => .tup [.int 7, t]
  | .ph w t => .tup [.int 6, .tup [.int 3, .int w, t]]
  | .pn k a b c => .tup [.int 6, .tup [.int k, a, b, c]]
noncomputable def SV.ok : SV → Prop
  | .s5 w _ => w ≠ 0
  | .s6 w w2 => w ≠ 0 ∧ w2 ≠ 0
  | .pn k _ _ _ => k ≠ 3
  | _ => True
noncomputable def SV.refs : SV → List Int
  | .ref w => if w = 0 then [] else [w]
  | .s5 w _ => [w]
  | .s6 w w2 => [w, w2]
  | _ => []
noncomputable def SV.words : SV → List Int
  | .ref w => [w]
  | .s5 w _ => [w]
  | .s6 w w2 => [w, w2]
  | .ph w _ => [w]
  | _ => []
section
variable {sc : List Int} {n : Nat} {h : H} {K : KE} {R : List (Nat × O)}
theorem sp_refs_in (hn : 1 ≤ n) (Ld : Led h R) {s : SV} (ok : s.ok) (hK : ∀ l h', Led h' ((l, .list (vints s.refs)) :: R) → K (.ref l) h') : callN prog sc n 0 [s.v] K h := by
  refine s_fn (by assumption) rfl rfl ?_
  intro n hn
  cases s with
  | ref w =>
    walk_at "gob"
    by_cases hw : w = 0
    · subst hw
      simp only [SV.refs, if_true] at hK
      walk_at "gob"
      exact hK _ _ (Led.sub (by assumption) (by trivial))
    · simp only [SV.refs, if_neg hw] at hK
      first | refine s_eqF hw ?_ | refine s_neT hw ?_
      walk_at "gob"
      exact hK _ _ (Led.sub (by assumption) (by trivial))
  | i4 c =>
    walk_at "gob"
    exact hK _ _ (Led.sub (by assumption) (by trivial))
  | s5 w c =>
    walk_at "gob"
    first | refine s_eqF (ok : w ≠ 0) ?_ | refine s_neT (ok : w ≠ 0) ?_
    walk_at "gob"
    exact hK _ _ (Led.sub (by assumption) (by trivial))
  | s6 w w2 =>
    walk_at "gob"
    first | refine s_eqF ok.1 ?_ | refine s_neT ok.1 ?_
    walk_at "gob"
    first | refine s_eqF ok.2 ?_ | refine s_neT ok.2 ?_
    walk_at "gob"
    exact hK _ _ (Led.sub (by assumption) (by trivial))
  | ftn t =>
    walk_at "gob"
    exact hK _ _ (Led.sub (by assumption) (by trivial))
  | ph w t =>
    walk_at "gob"
    exact hK _ _ (Led.sub (by assumption) (by trivial))
  | pn k a b c =>
    walk_at "gob"
    exact hK _ _ (Led.sub (by assumption) (by trivial))
end
end
section
structure Th where
  loc : Nat
  sl : Nat
  addr : Int
  kind : Int
  gen : Int
  size : Int
  serial : Int
  slots : List V
noncomputable def thO (t : Th) : O := .inst 0 [(0, .int t.addr), (1, .int t.kind), (2, .ref t.sl), (3, .int t.gen), (4, .int t.size), (5, .int t.serial)]
structure Hp where
  tl : Nat
  al : Nat
  cl : Nat
  fl : Nat
  rl : Nat
  top : Int
  limit : Int
  bits : Int
  fresh : Int
  young : Int
  moved : Int
  made : Int
noncomputable def hpO (p : Hp) : O := .inst 1 [(6, .ref p.tl), (7, .ref p.al), (8, .int p.top), (9, .int p.limit), (10, .ref p.cl), (11, .int p.bits), (12, .int p.fresh), (13, .int p.young), (14, .ref p.fl), (15, .ref p.rl), (16, .int p.moved), (17, .int p.made)]
noncomputable def locs (ts : List Th) : List V := ts.map fun t => .ref t.loc
@[simp] theorem locs_len (ts : List Th) : (locs ts).length = ts.length := List.length_map _
noncomputable def atD (ts : List Th) : List (Int × V) := ts.map fun t => (t.addr, .ref t.loc)
structure GH (R : List (Nat × O)) (hl : Nat) (p : Hp) (ts : List Th) : Prop where
  hp : (hl, hpO p) ∈ R
  tl : (p.tl, .list (locs ts)) ∈ R
  al : (p.al, .dict (atD ts)) ∈ R
  th : ∀ t ∈ ts, (t.loc, thO t) ∈ R ∧ (t.sl, .list t.slots) ∈ R
structure Sorted (ts : List Th) : Prop where
  few : ts.length ≤ 8
  pos : ∀ t ∈ ts, 16 ≤ t.addr ∧ t.addr < 1000 ∧ 3 ≤ t.size ∧ t.size < 10
  ord : ts.Pairwise fun a b => a.addr + a.size ≤ b.addr
theorem GH.mono {R R' : List (Nat × O)} {hl : Nat} {p : Hp} {ts : List Th} (G : GH R hl p ts) (s : ∀ x ∈ R, x ∈ R') : GH R' hl p ts :=
  ⟨s _ G.hp, s _ G.tl, s _ G.al, fun t ht => ⟨s _ (G.th t ht).1, s _ (G.th t ht).2⟩⟩
theorem Sorted.lookup {ts : List Th} (S : ts.Pairwise fun a b => a.addr + a.size ≤ b.addr) (hs : ∀ t ∈ ts, 3 ≤ t.size) {t : Th} (ht : t ∈ ts) : (atD ts).lookup t.addr = some (.ref t.loc) := by
  induction ts with
  | nil => cases ht
  | cons a r ih =>
    rw [List.pairwise_cons] at S
    show List.lookup t.addr ((a.addr, V.ref a.loc) :: atD r) = _
    rw [List.lookup_cons]
    rcases List.mem_cons.mp ht with rfl | ht
    · simp
    · have h1 := S.1 t ht
      have h2 := hs a List.mem_cons_self
      have : (t.addr == a.addr) = false := by simp; walk_at "om"
      rw [this]
      exact ih S.2 (fun t ht => hs t (List.mem_cons_of_mem _ ht)) ht
theorem Sorted.lookup_none {ts : List Th} {w : Int} (h : ∀ t ∈ ts, t.addr ≠ w) : (atD ts).lookup w = none := by
  induction ts with
  | nil => rfl
  | cons a r ih =>
    show List.lookup w ((a.addr, V.ref a.loc) :: atD r) = _
    rw [List.lookup_cons]
    have : (w == a.addr) = false := by simpa using fun e => h a List.mem_cons_self e.symm
    rw [this]
    exact ih fun t ht => h t (List.mem_cons_of_mem _ ht)
theorem Sorted.at_lt {ts : List Th} (S : ts.Pairwise fun a b => a.addr + a.size ≤ b.addr) (i j : Nat) (a b : Th) (ha : ts[i]? = some a) (hb : ts[j]? = some b) (hij : i < j) : a.addr + a.size ≤ b.addr := by
  have h1 := List.pairwise_iff_getElem.mp S
  obtain ⟨h2, rfl⟩ := List.getElem?_eq_some_iff.mp ha
  obtain ⟨h3, rfl⟩ := List.getElem?_eq_some_iff.mp hb
  exact h1 i j h2 h3 hij
theorem locs_at {ts : List Th} {i : Nat} {t : Th} (h : ts[i]? = some t) : (locs ts)[i]? = some (.ref t.loc) := by
  unfold locs; rw [List.getElem?_map, h]; rfl
section
variable {sc : List Int} {n : Nat} {h : H} {K : KE} {R : List (Nat × O)} {hl : Nat} {p : Hp} {ts : List Th}
theorem sp_find (hn : 1 ≤ n) (Ld : Led h R) (G : GH R hl p ts) (S : Sorted ts) {j : Nat} {t : Th} (ht : ts[j]? = some t) {w : Int} (h1 : t.addr ≤ w) (h2 : w < t.addr + t.size) (hK : K (.ref t.loc) h) : callN prog sc n 10 [.ref hl, .int w] K h := by
  obtain ⟨ghp, gtl, gal, gth⟩ := G
  have few := S.few
  have htm := List.mem_of_getElem? ht
  have jlt : j < ts.length := (List.getElem?_eq_some_iff.mp ht).1
  refine s_fn (by assumption) rfl rfl ?_
  intro n hn
  walk_at "go"
  first | refine s_G1 (by assumption) (by trivial) ?_ | refine s_H1 (by assumption) (by trivial) ?_
  walk_at "go"
  refine x_get (by assumption) (by trivial) ?_
  walk_at "go"
  by_cases hw : t.addr = w
  · subst hw
    rw [Sorted.lookup S.ord (fun t ht => (S.pos t ht).2.2.1) htm]
    walk_at "go"
    exact hK
  · have none_ : ∀ u ∈ ts, u.addr ≠ w := by
      intro u hu e
      obtain ⟨i, hi, rfl⟩ := List.getElem_of_mem hu
      have q1 := S.pos _ hu
      rcases Nat.lt_trichotomy i j with q | q | q
      · have := Sorted.at_lt S.ord i j _ _ (List.getElem?_eq_getElem hi) ht q
        walk_at "om"
      · subst q
        rw [List.getElem?_eq_getElem hi] at ht
        cases ht
        walk_at "om"
      · have := Sorted.at_lt S.ord j i _ _ ht (List.getElem?_eq_getElem hi) q
        walk_at "om"
    rw [Sorted.lookup_none none_]
    walk_at "go"
    refine x_lenL (by assumption) (by trivial) (by simp [locs]; walk_at "om") ?_
    walk_at "go"
    refine whl_inv (fun d m h' => h' = h ∧ ∃ lo hi : Nat, d = hi - lo ∧ lo ≤ j + 1 ∧ j + 1 ≤ hi ∧ hi ≤ ts.length ∧ m 18 = some (.ref hl) ∧ m 21 = some (.int w) ∧ m 23 = some (.int lo) ∧ m 24 = some (.int hi)) ?_ (d := ts.length) ⟨rfl, 0, ts.length, by walk_at "om", by walk_at "om", by walk_at "om", by walk_at "om", rfl, rfl, rfl, by simp [locs]; rfl⟩
    rintro d J hJ m _ ⟨rfl, lo, hi, hd, a1, a2, a3, m1, m2, m3, m4⟩
    walk_at "go"
    by_cases hlt : lo < hi
    · first | refine s_ltT ((by walk_at "om" : (lo : Int) < (hi : Int))) ?_ | refine s_leT ((by walk_at "om" : (lo : Int) < (hi : Int))) ?_ | refine s_gtT ((by walk_at "om" : (lo : Int) < (hi : Int))) ?_ | refine s_geT ((by walk_at "om" : (lo : Int) < (hi : Int))) ?_
      walk_at "go"
      refine ⟨by walk_at "i", by walk_at "j", ?_⟩
      walk_at "go"
      have hmid : ((lo : Int) + (hi : Int)) / 2 = (((lo + hi) / 2 : Nat) : Int) := by walk_at "om"
      rw [hmid]
      obtain ⟨u, hu⟩ : ∃ u, ts[(lo + hi) / 2]? = some u := ⟨_, List.getElem?_eq_getElem (by walk_at "om")⟩
      refine x_idxL (by assumption) (by trivial) (by walk_at "om") (by walk_at "om") (by rw [Int.toNat_natCast]; exact locs_at hu) ?_
      walk_at "go"
      obtain ⟨gu1, gu2⟩ := gth u (List.mem_of_getElem? hu)
      walk_at "go"
      by_cases hle : u.addr ≤ w
      · first | refine s_ltT (hle) ?_ | refine s_leT (hle) ?_ | refine s_gtT (hle) ?_ | refine s_geT (hle) ?_
        walk_at "go"
        refine ⟨hi - ((lo + hi) / 2 + 1), by walk_at "om", rfl, (lo + hi) / 2 + 1, hi, rfl, ?_, by walk_at "om", by walk_at "om", m1, m2, ?_, m4⟩
        · rcases Nat.lt_or_ge j ((lo + hi) / 2) with q | q
          · have := Sorted.at_lt S.ord _ _ _ _ ht hu q
            walk_at "om"
          · walk_at "om"
        · show some (V.int _) = some (V.int _)
          congr 2
      · first | refine s_ltF (hle) ?_ | refine s_leF (hle) ?_ | refine s_gtF (hle) ?_ | refine s_geF (hle) ?_
        walk_at "go"
        refine ⟨(lo + hi) / 2 - lo, by walk_at "om", rfl, lo, (lo + hi) / 2, rfl, by walk_at "om", ?_, by walk_at "om", m1, m2, m3, rfl⟩
        rcases Nat.lt_or_ge j ((lo + hi) / 2) with q | q
        · walk_at "om"
        · rcases Nat.lt_or_ge ((lo + hi) / 2) j with q2 | q2
          · have := Sorted.at_lt S.ord _ _ _ _ hu ht q2
            have := S.pos u (List.mem_of_getElem? hu)
            walk_at "om"
          · have e : (lo + hi) / 2 = j := by walk_at "om"
            rw [e, ht] at hu
            cases hu
            walk_at "om"
    · first | refine s_ltF ((by walk_at "om" : ¬ (lo : Int) < (hi : Int))) ?_ | refine s_leF ((by walk_at "om" : ¬ (lo : Int) < (hi : Int))) ?_ | refine s_gtF ((by walk_at "om" : ¬ (lo : Int) < (hi : Int))) ?_ | refine s_geF ((by walk_at "om" : ¬ (lo : Int) < (hi : Int))) ?_
      walk_at "go"
      have hlo : lo = j + 1 := by walk_at "om"
      subst hlo
      first | refine s_eqF ((by walk_at "om" : ((j + 1 : Nat) : Int) ≠ 0)) ?_ | refine s_neT ((by walk_at "om" : ((j + 1 : Nat) : Int) ≠ 0)) ?_
      walk_at "go"
      have e : (((j + 1 : Nat) : Int) - 1) = (j : Int) := by walk_at "om"
      rw [e]
      refine x_idxL (by assumption) (by trivial) (by walk_at "om") (by walk_at "om") (by rw [Int.toNat_natCast]; exact locs_at ht) ?_
      walk_at "go"
      obtain ⟨gu1, gu2⟩ := gth t htm
      walk_at "go"
      first | refine s_ltT (h2) ?_ | refine s_leT (h2) ?_ | refine s_gtT (h2) ?_ | refine s_geT (h2) ?_
      walk_at "go"
      exact hK
end
end
section
theorem nodup_len {α : Type} : ∀ {L T : List α}, L.Nodup → (∀ a ∈ L, a ∈ T) → L.length ≤ T.length
  | [], T, _, _ => Nat.zero_le _
  | a :: r, T, hd, hs => by
    obtain ⟨h1, h2⟩ := List.nodup_cons.mp hd
    obtain ⟨T1, T2, rfl⟩ := List.append_of_mem (hs a List.mem_cons_self)
    have := nodup_len (T := T1 ++ T2) h2 fun b hb => by
      have := hs b (List.mem_cons_of_mem _ hb)
      rcases List.mem_append.mp this with q | q
      · exact List.mem_append_left _ q
      · rcases List.mem_cons.mp q with rfl | q
        · exact absurd hb h1
        · exact List.mem_append_right _ q
    simp at this ⊢
    walk_at "om"
noncomputable def marksD (M : List Th) : List (Int × V) := M.map fun t => (t.addr, .int 1)
structure MOk (ts M : List Th) : Prop where
  sub : ∀ t ∈ M, t ∈ ts
  nd : (M.map (·.addr)).Nodup
theorem MOk.len {ts M : List Th} (h : MOk ts M) : M.length ≤ ts.length := by
  have := nodup_len (T := ts.map (·.addr)) h.nd fun a ha => by
    obtain ⟨t, ht, rfl⟩ := List.mem_map.mp ha
    exact List.mem_map_of_mem (h.sub t ht)
  simpa using this
theorem Sorted.inj {ts : List Th} (S : Sorted ts) {t u : Th} (ht : t ∈ ts) (hu : u ∈ ts) (e : t.addr = u.addr) : t = u := by
  obtain ⟨i, hi, rfl⟩ := List.getElem_of_mem ht
  obtain ⟨j, hj, rfl⟩ := List.getElem_of_mem hu
  have p1 := S.pos _ ht
  have p2 := S.pos _ hu
  rcases Nat.lt_trichotomy i j with q | q | q
  · have := Sorted.at_lt S.ord i j _ _ (List.getElem?_eq_getElem hi) (List.getElem?_eq_getElem hj) q
    walk_at "om"
  · subst q; rfl
  · have := Sorted.at_lt S.ord j i _ _ (List.getElem?_eq_getElem hj) (List.getElem?_eq_getElem hi) q
    walk_at "om"
structure Pushed (ts : List Th) (tg : Th → Prop) (M W M' W' : List Th) : Prop where
  ex : ∃ X, M' = M ++ X ∧ W' = W ++ X ∧ (∀ t ∈ X, tg t) ∧ MOk ts M' ∧ ∀ t ∈ ts, tg t → t ∈ M'
theorem Pushed.refl {ts M W : List Th} {tg : Th → Prop} (h : MOk ts M) (k : ∀ t ∈ ts, tg t → t ∈ M) : Pushed ts tg M W M W := ⟨[], by simp, by simp, by simp, h, k⟩
theorem Pushed.trans {ts M W M1 W1 M2 W2 : List Th} {a b : Th → Prop} (h1 : Pushed ts a M W M1 W1) (h2 : Pushed ts b M1 W1 M2 W2) : Pushed ts (fun t => a t ∨ b t) M W M2 W2 := by
  obtain ⟨X, rfl, rfl, x1, x2, x3⟩ := h1
  obtain ⟨Y, rfl, rfl, y1, y2, y3⟩ := h2
  refine ⟨X ++ Y, by simp, by simp, fun t ht => ?_, y2, fun t ht q => ?_⟩
  · rcases List.mem_append.mp ht with q | q
    · exact .inl (x1 t q)
    · exact .inr (y1 t q)
  · rcases q with q | q
    · exact List.mem_append_left _ (x3 t ht q)
    · exact y3 t ht q
theorem Pushed.iff {ts M W M' W' : List Th} {a b : Th → Prop} (h : Pushed ts a M W M' W') (e : ∀ t, a t ↔ b t) : Pushed ts b M W M' W' := by
  obtain ⟨X, h1, h2, h3, h4, h5⟩ := h
  exact ⟨X, h1, h2, fun t ht => (e t).mp (h3 t ht), h4, fun t ht q => h5 t ht ((e t).mpr q)⟩
theorem Pushed.mok {ts M W M' W' : List Th} {a : Th → Prop} (h : Pushed ts a M W M' W') : MOk ts M' := let ⟨_, _, _, _, h, _⟩ := h; h
noncomputable def Hits (ts : List Th) (w : Int) (t : Th) : Prop := t ∈ ts ∧ t.addr ≤ w ∧ w < t.addr + t.size
noncomputable def Tgt (ts : List Th) (s : SV) (t : Th) : Prop := ∃ w ∈ s.words, Hits ts w t
noncomputable def WordsOk (ts : List Th) (s : SV) : Prop := s.ok ∧ ∀ w ∈ s.words, w = 0 ∨ ∃ t, Hits ts w t
section
variable {sc : List Int} {n : Nat} {h : H} {K : KE} {R : List (Nat × O)} {hl ml wl : Nat} {p : Hp} {ts M W : List Th}
theorem sp_words_of (hn : 2 ≤ n) (Ld : Led h R) {s : SV} (ok : s.ok) (hK : ∀ l h', Led h' ((l, .list (vints s.words)) :: R) → K (.ref l) h') : callN prog sc n 15 [s.v] K h := by
  refine s_fn (by assumption) rfl rfl ?_
  intro n hn
  cases s with
  | ref w =>
    walk_at "gob"
    exact hK _ _ (Led.sub (by assumption) (by trivial))
  | i4 c =>
    walk_at "gob"
    exact sp_refs_in (s := .i4 c) (by walk_at "om") Ld ok hK
  | s5 w c =>
    walk_at "gob"
    exact sp_refs_in (s := .s5 w c) (by walk_at "om") Ld ok hK
  | s6 w w2 =>
    walk_at "gob"
    exact sp_refs_in (s := .s6 w w2) (by walk_at "om") Ld ok hK
  | ftn t =>
    walk_at "gob"
    exact sp_refs_in (s := .ftn t) (by walk_at "om") Ld ok hK
  | ph w t =>
    walk_at "gob"
    exact hK _ _ (Led.sub (by assumption) (by trivial))
  | pn k a b c =>
    walk_at "gob"
    first | refine s_eqF (ok : k ≠ 3) ?_ | refine s_neT (ok : k ≠ 3) ?_
    walk_at "gob"
    exact hK _ _ (Led.sub (by assumption) (by trivial))
theorem any_marks (M : List Th) (a : Int) : (marksD M).any (fun e => e.1 == a) = M.any (fun u => u.addr == a) := by
  unfold marksD; rw [List.any_map]; rfl
theorem sp_push_word (hn : 2 ≤ n) (Ld : Led h ((ml, .dict (marksD M)) :: (wl, .list (locs W)) :: R)) (G : GH R hl p ts) (S : Sorted ts) (mo : MOk ts M) (hW : W.length ≤ M.length) (hg : ∀ t ∈ ts, t.gen ≤ 2) {w : Int} (hw : w = 0 ∨ ∃ t, Hits ts w t)
    (hK : ∀ M' W' h', Pushed ts (Hits ts w) M W M' W' → Led h' ((ml, .dict (marksD M')) :: (wl, .list (locs W')) :: R) → K .none h') : callN prog sc n 16 [.ref hl, .int w, .int 2, .ref ml, .ref wl] K h := by
  have hlen := mo.len
  have few := S.few
  refine s_fn (by assumption) rfl rfl ?_
  intro n hn
  walk_at "go"
  by_cases h0 : w = 0
  · subst h0
    walk_at "go"
    refine hK M W _ (.refl mo fun t ht q => ?_) Ld
    have := S.pos t ht
    have := q.2.1
    walk_at "om"
  · obtain ⟨t, ht, ht1, ht2⟩ := hw.resolve_left h0
    obtain ⟨j, hj, rfl⟩ := List.getElem_of_mem ht
    generalize hte : ts[j] = t at *
    have only : ∀ u ∈ ts, Hits ts w u → u = t := fun u hu q => by
      have e1 := S.pos u hu
      obtain ⟨i, hi, rfl⟩ := List.getElem_of_mem hu
      obtain ⟨_, q1, q2⟩ := q
      have et : ts[j]? = some t := by rw [List.getElem?_eq_getElem hj, hte]
      rcases Nat.lt_trichotomy i j with q | q | q
      · have := Sorted.at_lt S.ord i j _ _ (List.getElem?_eq_getElem hi) et q
        walk_at "om"
      · subst q; exact hte
      · have := Sorted.at_lt S.ord j i _ _ et (List.getElem?_eq_getElem hi) q
        walk_at "om"
    first | refine s_eqF (h0) ?_ | refine s_neT (h0) ?_
    walk_at "go"
    refine sp_find (by walk_at "le") Ld ((G.mono fun x hx => .tail _ (.tail _ hx))) S (by rw [List.getElem?_eq_getElem hj, hte]) ht1 ht2 ?_
    obtain ⟨ghp, gtl, gal, gth⟩ := G
    obtain ⟨g1, g2⟩ := gth t ht
    walk_at "go"
    first | refine s_ltF ((by have := hg t ht; walk_at "om" : ¬ (2 : Int) < t.gen)) ?_ | refine s_leF ((by have := hg t ht; walk_at "om" : ¬ (2 : Int) < t.gen)) ?_ | refine s_gtF ((by have := hg t ht; walk_at "om" : ¬ (2 : Int) < t.gen)) ?_ | refine s_geF ((by have := hg t ht; walk_at "om" : ¬ (2 : Int) < t.gen)) ?_
    walk_at "go"
    refine x_inD (by assumption) (by trivial) ?_
    rw [any_marks]
    cases hm : M.any fun u => u.addr == t.addr with
    | true =>
      walk_at "go"
      refine hK M W _ (.refl mo fun u hu q => ?_) Ld
      rw [only u hu q]
      obtain ⟨x, hx, e⟩ := List.any_eq_true.mp hm
      have := S.inj (mo.sub x hx) ht (beq_iff_eq.mp e)
      rw [← this]; exact hx
    | false =>
      have hno : ∀ u ∈ M, u.addr ≠ t.addr := fun u hu e => by
        have := List.any_eq_false.mp hm u hu
        simp [e] at this
      walk_at "go"
      refine x_setD (by assumption) (by trivial) (by unfold marksD; simp; walk_at "om") ?_
      intro h Ld
      walk_at "go"
      refine s_Ap1 (by assumption) (by trivial) ?_
      walk_at "go"
      refine x_append (by assumption) (by trivial) (by simp [locs] <;> walk_at "om") ?_
      intro h Ld
      walk_at "go"
      have e1 : putD (marksD M) t.addr (.int 1) = marksD (M ++ [t]) := by
        unfold putD
        have : (marksD M).any (fun e => decide (e.1 = t.addr)) = false := by
          rw [List.any_eq_false]
          intro e he
          obtain ⟨u, hu, rfl⟩ := List.mem_map.mp he
          simpa using hno u hu
        rw [if_neg (by rw [this]; simp)]
        simp [marksD]
      have e2 : locs W ++ [.ref t.loc] = locs (W ++ [t]) := by simp [locs]
      rw [e1, e2] at Ld
      refine hK _ _ _ ⟨[t], rfl, rfl, fun u hu => ?_, ⟨fun u hu => ?_, ?_⟩, fun u hu q => ?_⟩ Ld
      · rw [List.mem_singleton.mp hu]; exact ⟨ht, ht1, ht2⟩
      · rcases List.mem_append.mp hu with q | q
        · exact mo.sub u q
        · rw [List.mem_singleton.mp q]; exact ht
      · rw [List.map_append, List.nodup_append]
        refine ⟨mo.nd, by simp, fun a ha b hb => ?_⟩
        obtain ⟨u, hu, rfl⟩ := List.mem_map.mp ha
        simp at hb
        subst hb
        exact hno u hu
      · rw [only u hu q]; simp
theorem src_list {l : Nat} {xs : List V} {L : List (Nat × O)} (Ld : Led h L) (m : (l, O.list xs) ∈ L) (i : Nat) : srcAt h (.list l) i = some xs[i]? := by
  simp only [srcAt, Ld.get m]
theorem src_e {l n : Nat} {xs : List V} {L : List (Nat × O)} (Ld : Led h L) (m : (l, O.list xs) ∈ L) (e : xs.length = n) : srcAt h (.list l) n = some none := by
  rw [src_list Ld m, ← e, List.getElem?_eq_none (Nat.le_refl _)]
theorem src_i {l n : Nat} {xs : List V} {v : V} {L : List (Nat × O)} (Ld : Led h L) (m : (l, O.list xs) ∈ L) (e : xs[n]? = some v) : srcAt h (.list l) n = some (some v) := by
  rw [src_list Ld m, e]
theorem get_map {α : Type} {l : List α} {f : α → V} {n : Nat} (h : n < l.length) : (l.map f)[n]? = some (f l[n]) := by
  rw [List.getElem?_map, List.getElem?_eq_getElem h]; rfl
theorem Pushed.len {M' W' : List Th} {a : Th → Prop} (h : Pushed ts a M W M' W') (hW : W.length ≤ M.length) : W'.length ≤ M'.length := by
  obtain ⟨X, rfl, rfl, _⟩ := h
  simp; walk_at "om"
theorem sp_push_value (hn : 3 ≤ n) (Ld : Led h ((ml, .dict (marksD M)) :: (wl, .list (locs W)) :: R)) (G : GH R hl p ts) (S : Sorted ts) (mo : MOk ts M) (hW : W.length ≤ M.length) (hg : ∀ t ∈ ts, t.gen ≤ 2) {s : SV} (hs : WordsOk ts s)
    (hK : ∀ M' W' h', Pushed ts (Tgt ts s) M W M' W' → Led h' ((ml, .dict (marksD M')) :: (wl, .list (locs W')) :: R) → K .none h') : callN prog sc n 17 [.ref hl, s.v, .int 2, .ref ml, .ref wl] K h := by
  refine s_fn (by assumption) rfl rfl ?_
  intro n hn
  walk_at "go"
  refine sp_words_of (by walk_at "le") Ld hs.1 ?_
  intro l h Ld
  walk_at "go"
  refine for_inv (s := .list l) s.words.length (fun i m h' => ∃ M1 W1, A6 (Pushed ts (fun t => ∃ w ∈ s.words.take i, Hits ts w t) M W M1 W1) (Led h' ((ml, .dict (marksD M1)) :: (wl, .list (locs W1)) :: (l, .list (vints s.words)) :: R)) (m 18 = some (.ref hl)) (m 20 = some (.int 2)) (m 27 = some (.ref ml)) (m 28 = some (.ref wl))) ?_ ?_ ?_
  · rintro m h ⟨M1, W1, P, Ld, _⟩
    refine ⟨src_e Ld (by trivial) (by first | exact List.length_map _ | exact (List.length_map _).trans (List.length_map _) | (simp [vints])), ?_⟩
    rw [List.take_length] at P
    exact hK M1 W1 _ P (Led.sub Ld (by trivial))
  · rintro J hJ i m h hi ⟨M1, W1, P, Ld, m1, m2, m3, m4⟩
    refine ⟨.int s.words[i], _, src_i Ld (by trivial) (by first | exact get_map (by assumption) | (simp [vints, hi])), rfl, ?_⟩
    walk_at "go"
    refine sp_push_word (by walk_at "le") Ld (G.mono fun x hx => .tail _ hx) S P.mok (P.len hW) hg (hs.2 _ (List.getElem_mem hi)) ?_
    intro M2 W2 h P2 Ld
    walk_at "go"
    refine ⟨M2, W2, (P.trans P2).iff fun t => ?_, Ld, m1, m2, m3, m4⟩
    rw [List.take_add_one, List.getElem?_eq_getElem hi]
    simp only [Option.toList_some, List.mem_append, List.mem_singleton]
    constructor
    · rintro (⟨w, a, b⟩ | b)
      · exact ⟨w, .inl a, b⟩
      · exact ⟨_, .inr rfl, b⟩
    · rintro ⟨w, a | rfl, b⟩
      · exact .inl ⟨w, a, b⟩
      · exact .inr b
  · exact ⟨M, W, .refl mo (by simp), Led.pull (Led.pull (p := (wl, O.list (locs W))) Ld (by trivial)) (by trivial), rfl, rfl, rfl, rfl⟩
noncomputable def Edge (ts : List Th) (sv : Th → List SV) (t u : Th) : Prop := ∃ s ∈ sv t, Tgt ts s u
structure SlotsOk (ts : List Th) (sv : Th → List SV) : Prop where
  eq : ∀ t ∈ ts, t.slots = (sv t).map SV.v
  ok : ∀ t ∈ ts, ∀ s ∈ sv t, WordsOk ts s
  few : ∀ t ∈ ts, t.slots.length ≤ 8
theorem sp_drain (hn : 4 ≤ n) {sv : Th → List SV} {P : Th → Prop} (Ld : Led h ((ml, .dict (marksD M)) :: (wl, .list (locs W)) :: R)) (G : GH R hl p ts) (S : Sorted ts) (mo : MOk ts M) (hW : W.length ≤ M.length) (hg : ∀ t ∈ ts, t.gen ≤ 2) (so : SlotsOk ts sv)
    (hP : ∀ t u, P t → Edge ts sv t u → P u) (h1 : ∀ t ∈ M, P t) (h2 : ∀ t ∈ W, t ∈ M) (h3 : ∀ t ∈ M, t ∈ W ∨ ∀ u, Edge ts sv t u → u ∈ M)
    (hK : ∀ M' h', MOk ts M' → (∀ t ∈ M, t ∈ M') → (∀ t ∈ M', P t) → (∀ t ∈ M', ∀ u, Edge ts sv t u → u ∈ M') → Led h' ((ml, .dict (marksD M')) :: (wl, .list []) :: R) → K .none h') : callN prog sc n 18 [.ref hl, .ref wl, .int 2, .ref ml] K h := by
  have few := S.few
  refine s_fn (by assumption) rfl rfl ?_
  intro n hn
  walk_at "go"
  refine whl_inv (fun d m h' => ∃ M1 W1, A12 (d = (8 - M1.length) + W1.length) (MOk ts M1) (W1.length ≤ M1.length) ((∀ t ∈ M, t ∈ M1)) ((∀ t ∈ M1, P t)) ((∀ t ∈ W1, t ∈ M1)) ((∀ t ∈ M1, t ∈ W1 ∨ ∀ u, Edge ts sv t u → u ∈ M1)) (Led h' ((ml, .dict (marksD M1)) :: (wl, .list (locs W1)) :: R)) (m 18 = some (.ref hl)) (m 20 = some (.int 2)) (m 27 = some (.ref ml)) (m 28 = some (.ref wl))) ?_ (d := (8 - M.length) + W.length)
    ⟨M, W, rfl, mo, hW, fun _ h => h, h1, h2, h3, Ld, rfl, rfl, rfl, rfl⟩
  rintro d J hJ m h ⟨M1, W1, hd, mo1, hW1, s1, s2, s3, s4, Ld, m1, m2, m3, m4⟩
  have hlen := mo1.len
  walk_at "go"
  refine x_lenL (by assumption) (by trivial) (by simp [locs] <;> walk_at "om") ?_
  walk_at "go"
  rcases List.eq_nil_or_concat W1 with rfl | ⟨W2, t, rfl⟩
  · walk_at "go"
    refine hK M1 _ mo1 s1 s2 (fun t ht u e => ?_) Ld
    rcases s4 t ht with q | q
    · cases q
    · exact q u e
  · rw [List.concat_eq_append] at *
    first | refine s_ltT ((by simp [locs] <;> walk_at "om" : (0 : Int) < ((locs (W2 ++ [t])).length : Int))) ?_ | refine s_leT ((by simp [locs] <;> walk_at "om" : (0 : Int) < ((locs (W2 ++ [t])).length : Int))) ?_ | refine s_gtT ((by simp [locs] <;> walk_at "om" : (0 : Int) < ((locs (W2 ++ [t])).length : Int))) ?_ | refine s_geT ((by simp [locs] <;> walk_at "om" : (0 : Int) < ((locs (W2 ++ [t])).length : Int))) ?_
    walk_at "go"
    have ht : t ∈ ts := mo1.sub t (s3 t (by simp))
    refine x_pop (ys := locs W2) (v := .ref t.loc) (by assumption) (by trivial) (by simp [locs]) (by simp [locs] at hW1 ⊢; walk_at "om") ?_
    intro h Ld
    walk_at "go"
    have G0 := G
    obtain ⟨ghp, gtl, gal, gth⟩ := G
    obtain ⟨g1, g2⟩ := gth t ht
    walk_at "go"
    refine for_inv (s := .list t.sl) (sv t).length (fun i m h' => ∃ M3 W3, A6 (Pushed ts (fun u => ∃ s ∈ (sv t).take i, Tgt ts s u) M1 W2 M3 W3) (Led h' ((ml, .dict (marksD M3)) :: (wl, .list (locs W3)) :: R)) (m 18 = some (.ref hl)) (m 20 = some (.int 2)) (m 27 = some (.ref ml)) (m 28 = some (.ref wl))) ?_ ?_ ?_
    · rintro m h ⟨M3, W3, Pu, Ld, m1, m2, m3, m4⟩
      refine ⟨by rw [src_list Ld (.tail _ (.tail _ g2)), so.eq t ht]; simp, ?_⟩
      rw [List.take_length] at Pu
      walk_at "go"
      have hl3 := Pu.mok.len
      have hl4 := Pu.len (W := W2) (by simp at hW1; walk_at "om")
      obtain ⟨X, rfl, rfl, x1, x2, x3⟩ := Pu
      refine ⟨(8 - (M1 ++ X).length) + (W2 ++ X).length, ?_, M1 ++ X, W2 ++ X, rfl, x2, hl4, fun u hu => List.mem_append_left _ (s1 u hu), fun u hu => ?_, fun u hu => ?_, fun u hu => ?_, Ld, m1, m2, m3, m4⟩
      · simp only [List.length_append, List.length_cons, List.length_nil] at hl3 hl4 hW1 hd ⊢; walk_at "om"
      · rcases List.mem_append.mp hu with q | q
        · exact s2 u q
        · obtain ⟨s, hs, e⟩ := x1 u q
          exact hP t u (s2 t (s3 t (by simp))) ⟨s, hs, e⟩
      · rcases List.mem_append.mp hu with q | q
        · exact List.mem_append_left _ (s3 u (by simp [q]))
        · exact List.mem_append_right _ q
      · rcases List.mem_append.mp hu with q | q
        · rcases s4 u q with r | r
          · rcases List.mem_append.mp r with r | r
            · exact .inl (List.mem_append_left _ r)
            · rw [List.mem_singleton.mp r]
              refine .inr fun v e => ?_
              obtain ⟨s, hs, e⟩ := e
              exact x3 v (let ⟨_, _, q⟩ := e; q.1) ⟨s, hs, e⟩
          · exact .inr fun v e => List.mem_append_left _ (r v e)
        · exact .inl (List.mem_append_right _ q)
    · rintro J hJ i m h hi ⟨M3, W3, Pu, Ld, m1, m2, m3, m4⟩
      refine ⟨((sv t)[i]).v, _, by rw [src_list Ld (.tail _ (.tail _ g2)), so.eq t ht]; simp [hi], rfl, ?_⟩
      walk_at "go"
      refine sp_push_value (by walk_at "le") Ld G0 S Pu.mok (Pu.len (by simp at hW1; walk_at "om")) hg (so.ok t ht _ (List.getElem_mem hi)) ?_
      intro M4 W4 h P2 Ld
      walk_at "go"
      refine ⟨M4, W4, (Pu.trans P2).iff fun u => ?_, Ld, m1, m2, m3, m4⟩
      rw [List.take_add_one, List.getElem?_eq_getElem hi]
      simp only [Option.toList_some, List.mem_append, List.mem_singleton]
      constructor
      · rintro (⟨w, a, b⟩ | b)
        · exact ⟨w, .inl a, b⟩
        · exact ⟨_, .inr rfl, b⟩
      · rintro ⟨w, a | rfl, b⟩
        · exact .inl ⟨w, a, b⟩
        · exact .inr b
    · exact ⟨M1, W2, .refl mo1 (by simp), Ld, m1, m2, m3, m4⟩
end
end
section
structure GT (R : List (Nat × O)) (p : Hp) (ts : List Th) : Prop where
  tl : (p.tl, .list (locs ts)) ∈ R
  al : (p.al, .dict (atD ts)) ∈ R
  th : ∀ t ∈ ts, (t.loc, thO t) ∈ R ∧ (t.sl, .list t.slots) ∈ R
theorem GT.mono {R R' : List (Nat × O)} {p : Hp} {ts : List Th} (G : GT R p ts) (s : ∀ x ∈ R, x ∈ R') : GT R' p ts := ⟨s _ G.tl, s _ G.al, fun t ht => ⟨s _ (G.th t ht).1, s _ (G.th t ht).2⟩⟩
theorem GT.gh {R : List (Nat × O)} {p : Hp} {ts : List Th} {hl : Nat} (G : GT R p ts) (m : (hl, hpO p) ∈ R) : GH R hl p ts := ⟨m, G.tl, G.al, G.th⟩
noncomputable def svs (l : List SV) : List V := l.map SV.v
@[simp] theorem svs_len (l : List SV) : (svs l).length = l.length := List.length_map _
structure Roots (R : List (Nat × O)) (ts : List Th) (ll : Nat) (roots : List (Nat × List SV)) : Prop where
  ll : (ll, .list (roots.map fun r => .ref r.1)) ∈ R
  at_ : ∀ r ∈ roots, (r.1, .list (svs r.2)) ∈ R
  ok : ∀ r ∈ roots, ∀ s ∈ r.2, WordsOk ts s
  few : roots.length ≤ 100
theorem Roots.mono {R R' : List (Nat × O)} {ts : List Th} {ll : Nat} {roots : List (Nat × List SV)} (G : Roots R ts ll roots) (s : ∀ x ∈ R, x ∈ R') : Roots R' ts ll roots := ⟨s _ G.ll, fun r hr => s _ (G.at_ r hr), G.ok, G.few⟩
noncomputable def Seed (ts : List Th) (roots : List (Nat × List SV)) (t : Th) : Prop := ∃ r ∈ roots, ∃ s ∈ r.2, Tgt ts s t
inductive Reach (ts : List Th) (sv : Th → List SV) (roots : List (Nat × List SV)) : Th → Prop where
  | seed {t : Th} : Seed ts roots t → Reach ts sv roots t
  | step {t u : Th} : Reach ts sv roots t → Edge ts sv t u → Reach ts sv roots u
theorem Tgt.mem {ts : List Th} {s : SV} {t : Th} (h : Tgt ts s t) : t ∈ ts := let ⟨_, _, q⟩ := h; q.1
theorem take_iff {α : Type} {l : List α} {i : Nat} (hi : i < l.length) {P : α → Prop} : ((∃ a ∈ l.take i, P a) ∨ P l[i]) ↔ ∃ a ∈ l.take (i + 1), P a := by
  rw [List.take_add_one, List.getElem?_eq_getElem hi]
  simp only [Option.toList_some, List.mem_append, List.mem_singleton]
  constructor
  · rintro (⟨w, a, b⟩ | b)
    · exact ⟨w, .inl a, b⟩
    · exact ⟨_, .inr rfl, b⟩
  · rintro ⟨w, a | rfl, b⟩
    · exact .inl ⟨w, a, b⟩
    · exact .inr b
section
variable {sc : List Int} {n : Nat} {h : H} {K : KE} {R : List (Nat × O)} {hl ml wl ll : Nat} {p : Hp} {ts M W : List Th} {sv : Th → List SV} {roots : List (Nat × List SV)}
theorem sp_mark (hn : 5 ≤ n) (Ld : Led h R) (G : GH R hl p ts) (S : Sorted ts) (hg : ∀ t ∈ ts, t.gen ≤ 2) (so : SlotsOk ts sv) (ro : Roots R ts ll roots)
    (hK : ∀ M' ml h', MOk ts M' → (∀ t, t ∈ M' ↔ Reach ts sv roots t) → Led h' ((ml, .dict (marksD M')) :: R) → K (.ref ml) h') : callN prog sc n 20 [.ref hl, .ref ll, .int 2] K h := by
  obtain ⟨rl1, rl2, rl3, rl4⟩ := id ro
  refine s_fn (by assumption) rfl rfl ?_
  intro n hn
  walk_at "go"
  refine x_new (by assumption) ?_
  intro ml h Ld
  walk_at "go"
  refine x_new (by assumption) ?_
  intro wl h Ld
  walk_at "go"
  refine for_inv (s := .list ll) roots.length (fun i m h' => ∃ M1 W1, A6 (Pushed ts (fun t => ∃ r ∈ roots.take i, ∃ s ∈ r.2, Tgt ts s t) [] [] M1 W1) (Led h' ((ml, .dict (marksD M1)) :: (wl, .list (locs W1)) :: R)) (m 18 = some (.ref hl)) (m 20 = some (.int 2)) (m 27 = some (.ref ml)) (m 28 = some (.ref wl))) ?_ ?_ ?_
  · rintro m h ⟨M1, W1, P, Ld, m1, m2, m3, m4⟩
    refine ⟨src_e Ld (by trivial) (by first | exact List.length_map _ | exact (List.length_map _).trans (List.length_map _) | (simp)), ?_⟩
    rw [List.take_length] at P
    walk_at "go"
    have hm := P.mok
    have hlen := P.len (W := []) (by simp)
    obtain ⟨X, e1, e2, x1, x2, x3⟩ := P
    simp only [List.nil_append] at e1 e2
    subst e1 e2
    refine sp_drain (P := Reach ts sv roots) (by walk_at "le") Ld (G.mono fun x hx => hx) S hm hlen hg so (fun t u a b => .step a b) (fun t ht => .seed (x1 t ht)) (fun t ht => ht) (fun t ht => .inl ht) ?_
    intro M' h mo' s1 s2 s3 Ld
    walk_at "go"
    refine hK M' ml _ mo' (fun t => ⟨s2 t, fun q => ?_⟩) (Led.sub Ld (by trivial))
    induction q with
    | seed q => obtain ⟨r, hr, s, hs, e⟩ := q; exact s1 _ (x3 _ e.mem ⟨r, hr, s, hs, e⟩)
    | step a b ih => exact s3 _ ih _ b
  · rintro J hJ i m h hi ⟨M1, W1, P, Ld, m1, m2, m3, m4⟩
    have hr := List.getElem_mem hi
    generalize hre : roots[i] = r at *
    have gr := rl2 r hr
    refine ⟨.ref r.1, _, src_i Ld (by trivial) (by first | exact get_map (by assumption) | (simp [hi, hre])), rfl, ?_⟩
    walk_at "go"
    refine for_inv (s := .list r.1) r.2.length (fun j m h' => ∃ M3 W3, A6 (Pushed ts (fun u => ∃ s ∈ r.2.take j, Tgt ts s u) M1 W1 M3 W3) (Led h' ((ml, .dict (marksD M3)) :: (wl, .list (locs W3)) :: R)) (m 18 = some (.ref hl)) (m 20 = some (.int 2)) (m 27 = some (.ref ml)) (m 28 = some (.ref wl))) ?_ ?_ ?_
    · rintro m h ⟨M3, W3, Pu, Ld, m1, m2, m3, m4⟩
      refine ⟨src_e Ld (by trivial) (by first | exact List.length_map _ | exact (List.length_map _).trans (List.length_map _) | (simp [svs])), ?_⟩
      rw [List.take_length] at Pu
      walk_at "go"
      refine ⟨M3, W3, (P.trans Pu).iff fun t => ?_, Ld, m1, m2, m3, m4⟩
      have := take_iff (P := fun r : Nat × List SV => ∃ s ∈ r.2, Tgt ts s t) hi
      rw [hre] at this
      exact this
    · rintro J hJ j m h hj ⟨M3, W3, Pu, Ld, m1, m2, m3, m4⟩
      refine ⟨(r.2[j]).v, _, src_i Ld (by trivial) (by first | exact get_map (by assumption) | (simp [hj, svs])), rfl, ?_⟩
      walk_at "go"
      refine sp_push_value (by walk_at "le") Ld G S Pu.mok (Pu.len (P.len (W := []) (by simp))) hg (rl3 r hr _ (List.getElem_mem hj)) ?_
      intro M4 W4 h P2 Ld
      walk_at "go"
      exact ⟨M4, W4, (Pu.trans P2).iff fun u => take_iff hj, Ld, m1, m2, m3, m4⟩
    · exact ⟨M1, W1, .refl P.mok (by simp), Ld, m1, m2, m3, m4⟩
  · exact ⟨[], [], .refl ⟨by simp, by simp⟩ (by simp), Led.pull (p := (ml, O.dict [])) Ld (by trivial), rfl, rfl, rfl, rfl⟩
end
end
section
noncomputable abbrev HS := Option (Nat × Nat × List (Nat × Int))
noncomputable def hv : HS → V
  | none => .none
  | some x => .ref x.1
noncomputable def rowO (a : Int) : O := .list [.int 3, .int a, .int 1]
noncomputable def HAt (R : List (Nat × O)) : HS → Prop
  | none => True
  | some (hh, rw, rows) => (hh, .inst 2 [(18, .ref rw)]) ∈ R ∧ (rw, .list (rows.map fun r => .ref r.1)) ∈ R ∧ (∀ r ∈ rows, (r.1, rowO r.2) ∈ R ∧ r.2 ≠ 0) ∧ rows.length ≤ 8
theorem HAt.mono {R R' : List (Nat × O)} {hs : HS} (G : HAt R hs) (s : ∀ x ∈ R, x ∈ R') : HAt R' hs := by
  induction hs using Option.casesOn with
  | none => trivial
  | some q =>
    obtain ⟨hh, rw, rows⟩ := q
    exact ⟨s _ G.1, s _ G.2.1, fun r hr => ⟨s _ (G.2.2.1 r hr).1, (G.2.2.1 r hr).2⟩, G.2.2.2⟩
noncomputable def hsv : HS → List SV
  | none => []
  | some (_, _, rows) => rows.map fun r => .ref r.2
section
variable {sc : List Int} {n : Nat} {h : H} {K : KE} {R : List (Nat × O)} {hl ml wl ll : Nat} {p : Hp} {ts M W : List Th} {sv : Th → List SV} {roots : List (Nat × List SV)} {hs : HS}
theorem sp_strong (hn : 1 ≤ n) (Ld : Led h R) {x : Nat × Nat × List (Nat × Int)} (H : HAt R (some x)) (hK : ∀ l h', Led h' ((l, .list (svs (hsv (some x)))) :: R) → K (.ref l) h') : callN prog sc n 29 [.ref x.1] K h := by
  obtain ⟨hh, rw_, rows⟩ := x
  obtain ⟨H1, H2, H3, H4⟩ := H
  refine s_fn (by assumption) rfl rfl ?_
  intro n hn
  walk_at "go"
  refine x_new (by assumption) ?_
  intro ol h Ld
  walk_at "go"
  refine for_inv (s := .list rw_) rows.length (fun i m h' => Led h' ((ol, .list (svs ((rows.take i).map fun r => .ref r.2))) :: R) ∧ m 29 = some (.ref ol)) ?_ ?_ ?_
  · rintro m h ⟨Ld, m1⟩
    refine ⟨src_e Ld (by trivial) (by first | exact List.length_map _ | exact (List.length_map _).trans (List.length_map _) | (simp)), ?_⟩
    rw [List.take_length] at Ld
    walk_at "go"
    exact hK _ _ Ld
  · rintro J hJ i m h hi ⟨Ld, m1⟩
    have hr := List.getElem_mem hi
    generalize hre : rows[i] = r at *
    obtain ⟨g1, g2⟩ := H3 r hr
    refine ⟨.ref r.1, _, src_i Ld (by trivial) (by first | exact get_map (by assumption) | (simp [hi, hre])), rfl, ?_⟩
    unfold rowO at g1
    walk_at "gob"
    first | refine s_eqF g2 ?_ | refine s_neT g2 ?_
    walk_at "gob"
    refine ⟨?_, m1⟩
    have e : svs ((rows.take (i + 1)).map fun r => SV.ref r.2) = svs ((rows.take i).map fun r => SV.ref r.2) ++ [V.tup [V.int 4, V.int r.2]] := by
      rw [List.take_add_one, List.getElem?_eq_getElem hi, hre]
      simp [svs, SV.v]
    rw [e]
    assumption
  · exact ⟨Ld, rfl⟩
theorem sp_clear (hn : 1 ≤ n) (Ld : Led h R) {x : Nat × Nat × List (Nat × Int)} (H : HAt R (some x)) {s : Int} (h3 : (3 : Int) ≠ s) {a b c : V} (hK : ∀ v, K v h) : callN prog sc n 31 [.ref x.1, .int s, a, b, c] K h := by
  obtain ⟨hh, rw_, rows⟩ := x
  obtain ⟨H1, H2, H3, H4⟩ := H
  refine s_fn (by assumption) rfl rfl ?_
  intro n hn
  walk_at "go"
  refine for_inv (s := .list rw_) rows.length (fun i m h' => A3 (h' = h) (m 35 = some (.int s)) (m 11 = some (.int 0))) ?_ ?_ ?_
  · rintro m _ ⟨rfl, m1, m2⟩
    refine ⟨src_e Ld (by trivial) (by first | exact List.length_map _ | exact (List.length_map _).trans (List.length_map _) | (simp)), ?_⟩
    walk_at "go"
    exact hK _
  · rintro J hJ i m _ hi ⟨rfl, m1, m2⟩
    have hr := List.getElem_mem hi
    generalize hre : rows[i] = r at *
    obtain ⟨g1, g2⟩ := H3 r hr
    refine ⟨.ref r.1, _, src_i Ld (by trivial) (by first | exact get_map (by assumption) | (simp [hi, hre])), rfl, ?_⟩
    unfold rowO at g1
    walk_at "gob"
    first | refine s_eqF h3 ?_ | refine s_neT h3 ?_
    walk_at "gob"
    exact ⟨rfl, m1, m2⟩
  · exact ⟨rfl, rfl, rfl⟩
theorem sp_pick (hn : 1 ≤ n) (Ld : Led h ((hl, hpO p) :: R)) (hf : (p.fl, .list []) ∈ R) {a : V} (hK : ∀ l f h', Led h' ((l, .list []) :: (f, .list []) :: (hl, hpO { p with fl := f }) :: R) → K (.ref l) h') : callN prog sc n 33 [.ref hl, a, .int 2] K h := by
  refine s_fn (by assumption) rfl rfl ?_
  intro n hn
  walk_at "go"
  refine x_new (by assumption) ?_
  intro f h Ld
  walk_at "go"
  refine x_new (by assumption) ?_
  intro l h Ld
  walk_at "go"
  refine for_inv (s := .list p.fl) 0 (fun i m h' => A4 (h' = h) (m 18 = some (.ref hl)) (m 39 = some (.ref f)) (m 40 = some (.ref l))) ?_ ?_ ?_
  · rintro m _ ⟨rfl, m1, m2, m3⟩
    refine ⟨src_e Ld (by trivial) (by first | exact List.length_map _ | exact (List.length_map _).trans (List.length_map _) | (simp)), ?_⟩
    walk_at "go"
    refine x_setA (by assumption) (by trivial) (by simp) (by rfl) ?_
    intro h Ld
    walk_at "go"
    exact hK _ _ _ Ld
  · intro i m h hi; walk_at "om"
  · exact ⟨rfl, rfl, rfl, rfl⟩
theorem sp_reach_more (hn : 5 ≤ n) (Ld : Led h ((ml, .dict (marksD M)) :: R)) {al : Nat} (ha : (al, .list []) ∈ R) (G : GH R hl p ts) (S : Sorted ts) (mo : MOk ts M) (hg : ∀ t ∈ ts, t.gen ≤ 2) (hK : ∀ h', Led h' ((ml, .dict (marksD M)) :: R) → K .none h') : callN prog sc n 21 [.ref hl, .ref ml, .ref al, .int 2] K h := by
  refine s_fn (by assumption) rfl rfl ?_
  intro n hn
  walk_at "go"
  refine x_new (by assumption) ?_
  intro wl h Ld
  walk_at "go"
  refine for_inv (s := .list al) 0 (fun i m h' => A5 (h' = h) (m 18 = some (.ref hl)) (m 20 = some (.int 2)) (m 27 = some (.ref ml)) (m 28 = some (.ref wl))) ?_ ?_ ?_
  · rintro m _ ⟨rfl, m1, m2, m3, m4⟩
    refine ⟨src_e Ld (by trivial) (by first | exact List.length_map _ | exact (List.length_map _).trans (List.length_map _) | (simp)), ?_⟩
    walk_at "go"
    refine s_fn (by assumption) rfl rfl ?_
    intro n hn
    walk_at "go"
    refine ⟨1, s_unr (z := 0) ?_⟩
    walk_at "go"
    refine x_lenL (by assumption) (by trivial) (by simp) ?_
    walk_at "go"
    exact hK _ (Led.sub Ld (by trivial))
  · intro i m h hi; walk_at "om"
  · exact ⟨rfl, rfl, rfl, rfl, rfl⟩
end
end
section
theorem Reach.congr {ts : List Th} {sv : Th → List SV} {r1 r2 : List (Nat × List SV)} (e : ∀ t, Seed ts r1 t → Seed ts r2 t) {t : Th} (h : Reach ts sv r1 t) : Reach ts sv r2 t := by
  induction h with
  | seed q => exact .seed (e _ q)
  | step a b ih => exact .step ih b
theorem Seed_app {ts : List Th} {a b : List (Nat × List SV)} {t : Th} : Seed ts (a ++ b) t ↔ Seed ts a t ∨ Seed ts b t := by
  unfold Seed
  simp only [List.mem_append, or_and_right, exists_or]
theorem Seed_cons {ts : List Th} {r : Nat × List SV} {b : List (Nat × List SV)} {t : Th} : Seed ts (r :: b) t ↔ (∃ s ∈ r.2, Tgt ts s t) ∨ Seed ts b t := by
  unfold Seed
  simp only [List.mem_cons, or_and_right, exists_or, exists_eq_left]
theorem Seed_nil {ts : List Th} {t : Th} : Seed ts [] t ↔ False := by
  unfold Seed; simp
section
variable {sc : List Int} {n : Nat} {h : H} {K : KE} {R : List (Nat × O)} {hl ml wl ll : Nat} {p : Hp} {ts M W : List Th} {sv : Th → List SV} {roots : List (Nat × List SV)} {hs : HS} {ready : List SV}
theorem sp_root_lists (hn : 2 ≤ n) (Ld : Led h R) (hp : (hl, hpO p) ∈ R) (ro : Roots R ts ll roots) (H : HAt R hs) (hr : (p.rl, .list (svs ready)) ∈ R) (hk1 : ∀ s ∈ ready, WordsOk ts s) (hk2 : ∀ s ∈ hsv hs, WordsOk ts s) (hfew : roots.length ≤ 50)
    (hK : ∀ l h' R' ro', Led h' R' → (∀ x ∈ R, x ∈ R') → Roots R' ts l ro' → (∀ t, Seed ts ro' t ↔ Seed ts (roots ++ [(p.rl, ready), (0, hsv hs)]) t) → (∃ G, R' = G ++ R) → K (.ref l) h') : callN prog sc n 47 [.ref hl, .ref ll, hv hs] K h := by
  obtain ⟨r1, r2, r3, r4⟩ := id ro
  refine s_fn (by assumption) rfl rfl ?_
  intro n hn
  walk_at "go"
  refine x_new (by assumption) ?_
  intro ol h Ld
  walk_at "go"
  refine for_inv (s := .list ll) roots.length (fun i m h' => A4 (Led h' ((ol, .list ((roots.take i).map fun r => .ref r.1)) :: R)) (m 29 = some (.ref ol)) (m 18 = some (.ref hl)) (m 47 = some (hv hs))) ?_ ?_ ⟨Ld, rfl, rfl, rfl⟩
  · rintro m h ⟨Ld, m1, m2, m3⟩
    refine ⟨src_e Ld (by trivial) (by first | exact List.length_map _ | exact (List.length_map _).trans (List.length_map _) | (simp)), ?_⟩
    rw [List.take_length] at Ld
    walk_at "go"
    refine s_Ap1 (by assumption) (by trivial) ?_
    walk_at "go"
    refine x_append (by assumption) (by trivial) (by simp; walk_at "om") ?_
    intro h Ld
    walk_at "go"
    induction hs using Option.casesOn with
    | none =>
      walk_at "go"
      refine hK ol h _ (roots ++ [(p.rl, ready)]) Ld (fun x hx => .tail _ hx) ⟨by simp, fun r hr' => ?_, fun r hr' => ?_, by simp; walk_at "om"⟩ (fun t => ?_) ⟨[_], rfl⟩
      · rcases List.mem_append.mp hr' with q | q
        · exact .tail _ (r2 r q)
        · rw [List.mem_singleton.mp q]; exact .tail _ hr
      · rcases List.mem_append.mp hr' with q | q
        · exact r3 r q
        · rw [List.mem_singleton.mp q]; exact hk1
      · simp [Seed_app, Seed_cons, Seed_nil, hsv]
    | some x =>
      walk_at "go"
      refine s_Ap1 (by assumption) (by trivial) ?_
      walk_at "go"
      refine sp_strong (x := x) (by walk_at "le") Ld (H.mono fun x hx => .tail _ hx) ?_
      intro sl h Ld
      walk_at "go"
      refine x_append (by assumption) (by trivial) (by simp; walk_at "om") ?_
      intro h Ld
      walk_at "go"
      refine hK ol h _ (roots ++ [(p.rl, ready), (sl, hsv (some x))]) Ld (fun x hx => .tail _ (.tail _ hx)) ⟨by simp, fun r hr' => ?_, fun r hr' => ?_, by simp; walk_at "om"⟩ (fun t => ?_) ⟨[_, _], rfl⟩
      · rcases List.mem_append.mp hr' with q | q
        · exact .tail _ (.tail _ (r2 r q))
        · rcases List.mem_cons.mp q with rfl | q
          · exact .tail _ (.tail _ hr)
          · rw [List.mem_singleton.mp q]; exact .head _
      · rcases List.mem_append.mp hr' with q | q
        · exact r3 r q
        · rcases List.mem_cons.mp q with rfl | q
          · exact hk1
          · rw [List.mem_singleton.mp q]; exact hk2
      · simp [Seed_app, Seed_cons, Seed_nil]
  · rintro J hJ i m h hi ⟨Ld, m1, m2, m3⟩
    refine ⟨.ref (roots[i]).1, _, src_i Ld (by trivial) (by first | exact get_map (by assumption) | (simp [hi])), rfl, ?_⟩
    walk_at "go"
    refine s_Ap1 (by assumption) (by trivial) ?_
    walk_at "go"
    refine x_append (by assumption) (by trivial) (by simp; walk_at "om") ?_
    intro h Ld
    walk_at "go"
    refine ⟨?_, m1, m2, m3⟩
    have e : (roots.take (i + 1)).map (fun r => V.ref r.1) = (roots.take i).map (fun r => V.ref r.1) ++ [V.ref (roots[i]).1] := by
      rw [List.take_add_one, List.getElem?_eq_getElem hi, List.map_append]; rfl
    rw [e]; exact Ld
theorem sp_find_living (hn : 6 ≤ n) (Ld : Led h ((hl, hpO p) :: R)) (G : GT R p ts) (S : Sorted ts) (hg : ∀ t ∈ ts, t.gen ≤ 2) (so : SlotsOk ts sv) (ro : Roots R ts ll roots) (H : HAt R hs) (hr : (p.rl, .list (svs ready)) ∈ R) (hk1 : ∀ s ∈ ready, WordsOk ts s) (hk2 : ∀ s ∈ hsv hs, WordsOk ts s) (hfew : roots.length ≤ 50) (hf : (p.fl, .list []) ∈ R)
    (hK : ∀ M' ml f h', MOk ts M' → (∀ t, t ∈ M' ↔ Reach ts sv (roots ++ [(p.rl, ready), (0, hsv hs)]) t) → Led h' ((ml, .dict (marksD M')) :: (f, .list []) :: (hl, hpO { p with fl := f }) :: R) → K (.ref ml) h') :
    callN prog sc n 48 [.ref hl, .ref ll, hv hs, .int 2] K h := by
  refine s_fn (by assumption) rfl rfl ?_
  intro n hn
  walk_at "go"
  refine sp_root_lists (ts := ts) (by walk_at "le") Ld (.head _) (ro.mono fun x hx => .tail _ hx) (H.mono fun x hx => .tail _ hx) (.tail _ hr) hk1 hk2 hfew ?_
  rintro l h _ ro' Ld hsub ro1 hseed ⟨Gb, rfl⟩
  walk_at "go"
  refine sp_mark (by walk_at "le") Ld ((G.mono fun x hx => hsub _ (.tail _ hx)).gh (hsub _ (.head _))) S hg so ro1 ?_
  intro M' ml h mo hM Ld
  have hM' : ∀ t, t ∈ M' ↔ Reach ts sv (roots ++ [(p.rl, ready), (0, hsv hs)]) t := fun t => (hM t).trans ⟨Reach.congr fun t => (hseed t).mp, Reach.congr fun t => (hseed t).mpr⟩
  have Ld : Led h ((hl, hpO p) :: (ml, .dict (marksD M')) :: R) := by
    refine (Led.sub (L' := (ml, .dict (marksD M')) :: (hl, hpO p) :: R) Ld ?_).pull (.tail _ (.head _))
    exact List.Sublist.cons_cons _ (List.sublist_append_right _ _)
  clear hM
  induction hs using Option.casesOn with
  | none =>
    walk_at "go"
    refine sp_pick (R := (ml, .dict (marksD M')) :: R) (by walk_at "le") Ld (.tail _ hf) ?_
    intro l f h Ld
    walk_at "go"
    have Ld : Led h ((ml, .dict (marksD M')) :: (l, .list []) :: (f, .list []) :: (hl, hpO { p with fl := f }) :: R) := Led.pull Ld (by trivial)
    refine sp_reach_more (al := l) (by walk_at "le") Ld (by trivial) (GT.gh (p := { p with fl := f }) ⟨.tail _ (.tail _ (.tail _ G.tl)), .tail _ (.tail _ (.tail _ G.al)), fun t ht => ⟨.tail _ (.tail _ (.tail _ (G.th t ht).1)), .tail _ (.tail _ (.tail _ (G.th t ht).2))⟩⟩ (by trivial)) S mo hg ?_
    intro h Ld
    walk_at "go"
    exact hK M' ml f _ mo hM' (Led.sub Ld (by trivial))
  | some x =>
    walk_at "go"
    refine sp_clear (x := x) (by walk_at "le") Ld (H.mono fun x hx => .tail _ (.tail _ hx)) (by decide) ?_
    intro v
    walk_at "go"
    refine sp_pick (R := (ml, .dict (marksD M')) :: R) (by walk_at "le") Ld (.tail _ hf) ?_
    intro l f h Ld
    walk_at "go"
    have Ld : Led h ((ml, .dict (marksD M')) :: (l, .list []) :: (f, .list []) :: (hl, hpO { p with fl := f }) :: R) := Led.pull Ld (by trivial)
    refine sp_reach_more (al := l) (by walk_at "le") Ld (by trivial) (GT.gh (p := { p with fl := f }) ⟨.tail _ (.tail _ (.tail _ G.tl)), .tail _ (.tail _ (.tail _ G.al)), fun t ht => ⟨.tail _ (.tail _ (.tail _ (G.th t ht).1)), .tail _ (.tail _ (.tail _ (G.th t ht).2))⟩⟩ (by trivial)) S mo hg ?_
    intro h Ld
    walk_at "go"
    refine sp_clear (x := x) (by walk_at "le") Ld (H.mono fun x hx => .tail _ (.tail _ (.tail _ (.tail _ hx)))) (by decide) ?_
    intro v
    walk_at "go"
    exact hK M' ml f _ mo hM' (Led.sub Ld (by trivial))
end
end
section
theorem snoc_ind {α : Type} {P : List α → Prop} (h0 : P []) (h1 : ∀ l a, P l → P (l ++ [a])) (l : List α) : P l := by
  rw [← List.reverse_reverse l]
  induction l.reverse with
  | nil => exact h0
  | cons a r ih => rw [List.reverse_cons]; exact h1 _ _ ih
noncomputable def aliveB (M : List Th) (t : Th) : Bool := M.any fun u => u.addr == t.addr
noncomputable def st (al : Th → Bool) (l : List Th) : List (Int × Int) × Int := l.foldl (fun s t => if al t then (s.1 ++ [(t.addr, s.2)], s.2 + t.size) else s) ([], 16)
noncomputable def dI (l : List (Int × Int)) : List (Int × V) := l.map fun p => (p.1, V.int p.2)
theorem st_snoc (al : Th → Bool) (l : List Th) (t : Th) : st al (l ++ [t]) = if al t then ((st al l).1 ++ [(t.addr, (st al l).2)], (st al l).2 + t.size) else st al l := by
  unfold st; rw [List.foldl_append]; rfl
theorem take_snoc {α : Type} {l : List α} {i : Nat} (hi : i < l.length) : l.take (i + 1) = l.take i ++ [l[i]] := by
  rw [List.take_add_one, List.getElem?_eq_getElem hi]; rfl
theorem st_keys (al : Th → Bool) : ∀ (l : List Th) (k : Int), k ∈ (st al l).1.map (·.1) → ∃ t ∈ l, t.addr = k := by
  refine snoc_ind ?_ ?_
  · intro k h; simp [st] at h
  · intro l t ih k h
    rw [st_snoc] at h
    split at h
    · simp at h
      rcases h with h | h
      · obtain ⟨x, hx⟩ := h
        obtain ⟨u, hu, e⟩ := ih k (List.mem_map.mpr ⟨_, hx, rfl⟩)
        exact ⟨u, by simp [hu], e⟩
      · exact ⟨t, by simp, h.symm⟩
    · obtain ⟨u, hu, e⟩ := ih k h
      exact ⟨u, by simp [hu], e⟩
theorem any_dI (l : List (Int × Int)) (k : Int) : (dI l).any (fun e => e.1 == k) = (l.any fun e => e.1 == k) := by
  unfold dI; rw [List.any_map]; rfl
theorem lookup_dI (l : List (Int × Int)) (k : Int) : (dI l).lookup k = (l.lookup k).map V.int := by
  induction l with
  | nil => rfl
  | cons p r ih =>
    obtain ⟨a, b⟩ := p
    show List.lookup k ((a, V.int b) :: dI r) = _
    rw [List.lookup_cons, List.lookup_cons]
    split <;> simp [ih]
theorem lookup_snoc {l : List (Int × Int)} {a b : Int} (h : ∀ p ∈ l, p.1 ≠ a) : (l ++ [(a, b)]).lookup a = some b := by
  induction l with
  | nil => simp
  | cons p r ih =>
    rw [List.cons_append, List.lookup_cons]
    have : (a == p.1) = false := by simpa using fun e => h p List.mem_cons_self e.symm
    rw [this]
    exact ih fun q hq => h q (List.mem_cons_of_mem _ hq)
theorem lookup_snoc_ne {l : List (Int × Int)} {a b k : Int} (h : k ≠ a) : (l ++ [(a, b)]).lookup k = l.lookup k := by
  induction l with
  | nil => simp [h]
  | cons p r ih =>
    rw [List.cons_append, List.lookup_cons, List.lookup_cons, ih]
theorem lookup_none_of {l : List (Int × Int)} {k : Int} (h : ∀ p ∈ l, p.1 ≠ k) : l.lookup k = none := by
  induction l with
  | nil => rfl
  | cons p r ih =>
    rw [List.lookup_cons]
    have : (k == p.1) = false := by simpa using fun e => h p List.mem_cons_self e.symm
    rw [this]
    exact ih fun q hq => h q (List.mem_cons_of_mem _ hq)
theorem st_lookup {ts : List Th} (S : Sorted ts) (al : Th → Bool) : ∀ i, i ≤ ts.length → (∀ j (hj : j < i) (hl : j < ts.length), (st al (ts.take i)).1.lookup (ts[j]).addr = if al ts[j] then some (st al (ts.take j)).2 else none) := by
  intro i
  induction i with
  | zero => intro _ j hj; walk_at "om"
  | succ i ih =>
    intro hi j hj hl
    rw [take_snoc (by walk_at "om"), st_snoc]
    have nk : ∀ p ∈ (st al (ts.take i)).1, p.1 ≠ (ts[i]).addr := fun p hp e => by
      obtain ⟨u, hu, e2⟩ := st_keys al _ p.1 (List.mem_map_of_mem hp)
      obtain ⟨k, hk, rfl⟩ := List.getElem_of_mem hu
      simp only [List.length_take] at hk
      rw [List.getElem_take] at e2
      have := Sorted.at_lt S.ord k i _ _ (List.getElem?_eq_getElem (by walk_at "om")) (List.getElem?_eq_getElem (by walk_at "om")) (by walk_at "om")
      have := S.pos (ts[k]) (List.getElem_mem _)
      walk_at "om"
    rcases Nat.lt_or_ge j i with q | q
    · have hne : (ts[j]).addr ≠ (ts[i]).addr := fun e => by
        have := Sorted.at_lt S.ord j i _ _ (List.getElem?_eq_getElem (by walk_at "om")) (List.getElem?_eq_getElem (by walk_at "om")) q
        have := S.pos (ts[j]) (List.getElem_mem _)
        walk_at "om"
      split
      · rw [lookup_snoc_ne hne]; exact ih (by walk_at "om") j q hl
      · exact ih (by walk_at "om") j q hl
    · have : j = i := by walk_at "om"
      subst this
      split
      · exact lookup_snoc nk
      · exact lookup_none_of nk
section
variable {sc : List Int} {n : Nat} {h : H} {K : KE} {R : List (Nat × O)} {hl ml : Nat} {p : Hp} {ts M : List Th}
theorem sp_end (hn : 1 ≤ n) (Ld : Led h R) (G : GH R hl p ts) (hg : ∀ t ∈ ts, t.gen ≤ 2) (hK : K (.int 16) h) : callN prog sc n 34 [.ref hl, .int 2] K h := by
  obtain ⟨ghp, gtl, gal, gth⟩ := G
  refine s_fn (by assumption) rfl rfl ?_
  intro n hn
  walk_at "go"
  refine for_inv (s := .list p.tl) ts.length (fun i m h' => A3 (h' = h) (m 20 = some (.int 2)) (m 41 = some (.int 16))) ?_ ?_ ⟨rfl, rfl, rfl⟩
  · rintro m _ ⟨rfl, m1, m2⟩
    refine ⟨src_e Ld (by trivial) (by first | exact List.length_map _ | exact (List.length_map _).trans (List.length_map _) | (simp [locs])), ?_⟩
    walk_at "go"
    exact hK
  · rintro J hJ i m _ hi ⟨rfl, m1, m2⟩
    have ht := List.getElem_mem hi
    obtain ⟨g1, g2⟩ := gth _ ht
    refine ⟨.ref (ts[i]).loc, _, src_i Ld (by trivial) (by first | exact get_map (by assumption) | (simp [locs, hi])), rfl, ?_⟩
    walk_at "go"
    first | refine s_ltF ((by have := hg _ ht; walk_at "om" : ¬ (2 : Int) < (ts[i]).gen)) ?_ | refine s_leF ((by have := hg _ ht; walk_at "om" : ¬ (2 : Int) < (ts[i]).gen)) ?_ | refine s_gtF ((by have := hg _ ht; walk_at "om" : ¬ (2 : Int) < (ts[i]).gen)) ?_ | refine s_geF ((by have := hg _ ht; walk_at "om" : ¬ (2 : Int) < (ts[i]).gen)) ?_
    walk_at "go"
    exact ⟨rfl, m1, m2⟩
theorem sp_plan (hn : 2 ≤ n) (Ld : Led h R) (G : GH R hl p ts) (S : Sorted ts) (hg : ∀ t ∈ ts, t.gen ≤ 2) (hm : (ml, .dict (marksD M)) ∈ R) (hK : ∀ l h', Led h' ((l, .dict (dI (st (aliveB M) ts).1)) :: R) → K (.ref l) h') : callN prog sc n 35 [.ref hl, .ref ml, .int 2] K h := by
  obtain ⟨ghp, gtl, gal, gth⟩ := id G
  have few := S.few
  refine s_fn (by assumption) rfl rfl ?_
  intro n hn
  walk_at "go"
  refine x_new (by assumption) ?_
  intro mv h Ld
  walk_at "go"
  refine sp_end (by walk_at "le") Ld (G.mono fun x hx => .tail _ hx) hg ?_
  walk_at "go"
  refine for_inv (s := .list p.tl) ts.length (fun i m h' => A5 (Led h' ((mv, .dict (dI (st (aliveB M) (ts.take i)).1)) :: R)) (m 20 = some (.int 2)) (m 27 = some (.ref ml)) (m 38 = some (.ref mv)) (m 42 = some (.int (st (aliveB M) (ts.take i)).2))) ?_ ?_ ⟨Ld, rfl, rfl, rfl, rfl⟩
  · rintro m h ⟨Ld, m1, m2, m3, m4⟩
    refine ⟨src_e Ld (by trivial) (by first | exact List.length_map _ | exact (List.length_map _).trans (List.length_map _) | (simp [locs])), ?_⟩
    rw [List.take_length] at Ld
    walk_at "go"
    exact hK _ _ Ld
  · rintro J hJ i m h hi ⟨Ld, m1, m2, m3, m4⟩
    have ht := List.getElem_mem hi
    obtain ⟨g1, g2⟩ := gth _ ht
    refine ⟨.ref (ts[i]).loc, _, src_i Ld (by trivial) (by first | exact get_map (by assumption) | (simp [locs, hi])), rfl, ?_⟩
    walk_at "go"
    first | refine s_ltT ((hg _ ht : (ts[i]).gen ≤ 2)) ?_ | refine s_leT ((hg _ ht : (ts[i]).gen ≤ 2)) ?_ | refine s_gtT ((hg _ ht : (ts[i]).gen ≤ 2)) ?_ | refine s_geT ((hg _ ht : (ts[i]).gen ≤ 2)) ?_
    walk_at "go"
    refine x_inD (by assumption) (by trivial) ?_
    rw [any_marks]
    replace hJ := hJ (i + 1)
    rw [take_snoc hi, st_snoc] at hJ
    show kMb _ _ (aliveB M ts[i])
    cases ha : aliveB M ts[i] with
    | true =>
      rw [ha] at hJ
      walk_at "go"
      have nk : (dI (st (aliveB M) (ts.take i)).1).any (fun e => decide (e.1 = (ts[i]).addr)) = false := by
        rw [List.any_eq_false]
        intro e he
        obtain ⟨q, hq, rfl⟩ := List.mem_map.mp he
        obtain ⟨u, hu, e2⟩ := st_keys _ _ q.1 (List.mem_map_of_mem hq)
        obtain ⟨k, hk, rfl⟩ := List.getElem_of_mem hu
        simp only [List.length_take] at hk
        rw [List.getElem_take] at e2
        have := Sorted.at_lt S.ord k i _ _ (List.getElem?_eq_getElem (by walk_at "om")) (List.getElem?_eq_getElem (by walk_at "om")) (by walk_at "om")
        have := S.pos (ts[k]) (List.getElem_mem _)
        simp
        walk_at "om"
      have hlen : (dI (st (aliveB M) (ts.take i)).1).length < 100000 := by
        have : ∀ l : List Th, (st (aliveB M) l).1.length ≤ l.length := by
          refine snoc_ind ?_ ?_
          · simp [st]
          · intro l t ih
            rw [st_snoc]; split <;> simp <;> walk_at "om"
        have := this (ts.take i)
        simp [dI] at this ⊢
        walk_at "om"
      refine x_setD (by assumption) (by trivial) hlen ?_
      intro h Ld
      walk_at "go"
      refine ⟨?_, m1, m2, m3, rfl⟩
      unfold putD at Ld
      rw [if_neg (by rw [nk]; simp)] at Ld
      have e : dI ((st (aliveB M) (ts.take i)).1 ++ [((ts[i]).addr, (st (aliveB M) (ts.take i)).2)]) = dI (st (aliveB M) (ts.take i)).1 ++ [((ts[i]).addr, V.int (st (aliveB M) (ts.take i)).2)] := by simp [dI]
      show Led h ((mv, O.dict (dI ((st (aliveB M) (ts.take i)).1 ++ [((ts[i]).addr, (st (aliveB M) (ts.take i)).2)]))) :: R)
      rw [e]
      exact Ld
    | false =>
      rw [ha] at hJ
      walk_at "go"
      exact ⟨Ld, m1, m2, m3, m4⟩
end
end
section
noncomputable def mvW (mv : List (Int × Int)) (w : Int) : Int := (mv.lookup w).getD w
noncomputable def phW (ts : List Th) (mv : List (Int × Int)) (w : Int) : Int := match ts.find? (fun t => decide (t.addr ≤ w) && decide (w < t.addr + t.size)) with
  | some t => w - t.addr + mvW mv t.addr
  | none => w
noncomputable def mvS (ts : List Th) (mv : List (Int × Int)) : SV → SV
  | .ref w => .ref (mvW mv w)
  | .i4 c => .i4 c
  | .s5 w c => .s5 (mvW mv w) c
  | .s6 w w2 => .s6 (mvW mv w) (mvW mv w2)
  | .ftn t => .ftn t
  | .ph w t => .ph (phW ts mv w) t
  | .pn k a b c => .pn k a b c
theorem Hits.find {ts : List Th} (S : Sorted ts) {w : Int} {t : Th} (h : Hits ts w t) : ts.find? (fun t => decide (t.addr ≤ w) && decide (w < t.addr + t.size)) = some t := by
  obtain ⟨ht, h1, h2⟩ := h
  cases e : ts.find? (fun t => decide (t.addr ≤ w) && decide (w < t.addr + t.size)) with
  | none =>
    have := List.find?_eq_none.mp e t ht
    simp at this
    walk_at "om"
  | some u =>
    have hu := List.mem_of_find?_eq_some e
    have q := List.find?_some e
    simp at q
    obtain ⟨i, hi, rfl⟩ := List.getElem_of_mem ht
    obtain ⟨j, hj, rfl⟩ := List.getElem_of_mem hu
    rcases Nat.lt_trichotomy i j with r | r | r
    · have := Sorted.at_lt S.ord i j _ _ (List.getElem?_eq_getElem hi) (List.getElem?_eq_getElem hj) r
      walk_at "om"
    · subst r; rfl
    · have := Sorted.at_lt S.ord j i _ _ (List.getElem?_eq_getElem hj) (List.getElem?_eq_getElem hi) r
      walk_at "om"
noncomputable def MvOk (ts : List Th) : SV → Prop
  | .ph w _ => ∃ t, Hits ts w t
  | .pn k _ _ _ => k ≠ 3
  | _ => True
structure MC (R : List (Nat × O)) (wo hl ml : Nat) (p : Hp) (ts : List Th) (mv : List (Int × Int)) : Prop where
  wo : (wo, .inst 3 [(19, .ref hl), (20, .ref ml)]) ∈ R
  ml : (ml, .dict (dI mv)) ∈ R
  gh : GH R hl p ts
theorem MC.mono {R R' : List (Nat × O)} {wo hl ml : Nat} {p : Hp} {ts : List Th} {mv : List (Int × Int)} (G : MC R wo hl ml p ts mv) (s : ∀ x ∈ R, x ∈ R') : MC R' wo hl ml p ts mv := ⟨s _ G.wo, s _ G.ml, G.gh.mono s⟩
theorem any_some (l : List (Int × Int)) (k : Int) : (l.any fun e => e.1 == k) = (l.lookup k).isSome := by
  induction l with
  | nil => rfl
  | cons p r ih =>
    obtain ⟨a, b⟩ := p
    rw [List.any_cons, List.lookup_cons, ih]
    by_cases h : k = a
    · subst h; simp
    · have h1 : (k == a) = false := by simpa using h
      have h2 : (a == k) = false := by simpa using fun e => h e.symm
      rw [h1, h2]; simp
section
variable {sc : List Int} {n : Nat} {h : H} {K : KE} {R : List (Nat × O)} {wo hl ml : Nat} {p : Hp} {ts : List Th} {mv : List (Int × Int)}
theorem sp_moved_word (hn : 2 ≤ n) (Ld : Led h R) (G : MC R wo hl ml p ts mv) (S : Sorted ts) {w : Int} {t : Th} (hw : Hits ts w t) (hK : K (.int (phW ts mv w)) h) : callN prog sc n 38 [.ref hl, .ref ml, .int w] K h := by
  have hk : phW ts mv w = w - t.addr + mvW mv t.addr := by unfold phW; rw [hw.find S]
  rw [hk] at hK
  obtain ⟨ht, h1, h2⟩ := hw
  obtain ⟨c1, c2, c3⟩ := G
  obtain ⟨g1, g2⟩ := c3.th t ht
  obtain ⟨j, hj, rfl⟩ := List.getElem_of_mem ht
  refine s_fn (by assumption) rfl rfl ?_
  intro n hn
  walk_at "go"
  refine sp_find (by walk_at "le") Ld c3 S (List.getElem?_eq_getElem hj) h1 h2 ?_
  walk_at "go"
  refine x_inD (by assumption) (by trivial) ?_
  rw [any_dI, any_some]
  unfold mvW at hK
  cases e : mv.lookup (ts[j]).addr with
  | none =>
    rw [e] at hK
    walk_at "go"
    have : w - (ts[j]).addr + (none : Option Int).getD (ts[j]).addr = w := by simp
    rw [this] at hK
    exact hK
  | some g =>
    rw [e] at hK
    walk_at "go"
    refine x_idxD (v := .int g) (by assumption) (by trivial) (by rw [lookup_dI, e]; rfl) ?_
    walk_at "go"
    exact hK
theorem sp_new_word (hn : 3 ≤ n) (Ld : Led h R) (G : MC R wo hl ml p ts mv) (S : Sorted ts) {w : Int} {t : Th} (hw : Hits ts w t) (hK : K (.int (phW ts mv w)) h) : callN prog sc n 37 [.ref wo, .int w] K h := by
  obtain ⟨c1, c2, c3⟩ := id G
  refine s_fn (by assumption) rfl rfl ?_
  intro n hn
  walk_at "go"
  exact sp_moved_word (by walk_at "om") Ld G S hw hK
theorem getD_dI (w : Int) : ((dI mv).lookup w).getD (.int w) = .int (mvW mv w) := by
  rw [lookup_dI]; unfold mvW
  cases mv.lookup w <;> rfl
theorem sp_plain (hn : 4 ≤ n) (Ld : Led h R) (G : MC R wo hl ml p ts mv) (S : Sorted ts) {s : SV} (ok : MvOk ts s) (ns : ∀ w c, s ≠ .s5 w c) (ns2 : ∀ w c, s ≠ .s6 w c) (hK : K (mvS ts mv s).v h) : callN prog sc n 2 [s.v, .ref ml, .ref wo] K h := by
  obtain ⟨c1, c2, c3⟩ := id G
  refine s_fn (by assumption) rfl rfl ?_
  intro n hn
  cases s with
  | ref w =>
    walk_at "gob"
    first | refine s_G1 (by assumption) (by trivial) ?_ | refine s_H1 (by assumption) (by trivial) ?_
    walk_at "go"
    walk_at "gob"
    refine x_get (by assumption) (by trivial) ?_
    rw [getD_dI]
    walk_at "gob"
    exact hK
  | i4 c =>
    walk_at "gob"
    exact hK
  | s5 w c => exact absurd rfl (ns w c)
  | s6 w w2 => exact absurd rfl (ns2 w w2)
  | ftn t =>
    walk_at "gob"
    exact hK
  | ph w t =>
    obtain ⟨u, hu⟩ := ok
    walk_at "gob"
    refine ⟨⟨wo, _, rfl, Ld.get c1⟩, ?_⟩
    walk_at "gob"
    refine sp_new_word (by walk_at "le") Ld G S hu ?_
    walk_at "gob"
    exact hK
  | pn k a b c =>
    walk_at "gob"
    first | refine s_eqF (ok : k ≠ 3) ?_ | refine s_neT (ok : k ≠ 3) ?_
    walk_at "gob"
    exact hK
end
end
section
section
variable {sc : List Int} {n : Nat} {h : H} {K : KE} {R : List (Nat × O)} {wo hl ml : Nat} {p : Hp} {ts : List Th} {mv : List (Int × Int)}
theorem sp_struct5 (hn : 5 ≤ n) (Ld : Led h R) (G : MC R wo hl ml p ts mv) (S : Sorted ts) {w c : Int} (hK : ∀ h', Led h' R → K (mvS ts mv (.s5 w c)).v h') : callN prog sc n 3 [(SV.s5 w c).v, .ref ml, .ref wo] K h := by
  refine s_fn (by assumption) rfl rfl ?_
  intro n hn
  walk_at "gob"
  rename_i h Ld
  refine sp_plain (s := .ref w) (by walk_at "le") Ld (G.mono fun x hx => .tail _ (.tail _ hx)) S trivial (by simp) (by simp) ?_
  walk_at "gob"
  rename_i h Ld
  refine sp_plain (s := .i4 c) (by walk_at "le") Ld (G.mono fun x hx => .tail _ (.tail _ hx)) S trivial (by simp) (by simp) ?_
  walk_at "gob"
  rename_i h Ld
  exact hK _ (Led.sub Ld (by trivial))
theorem sp_struct6 (hn : 5 ≤ n) (Ld : Led h R) (G : MC R wo hl ml p ts mv) (S : Sorted ts) {w c : Int} (hK : ∀ h', Led h' R → K (mvS ts mv (.s6 w c)).v h') : callN prog sc n 3 [(SV.s6 w c).v, .ref ml, .ref wo] K h := by
  refine s_fn (by assumption) rfl rfl ?_
  intro n hn
  walk_at "gob"
  rename_i h Ld
  refine sp_plain (s := .ref w) (by walk_at "le") Ld (G.mono fun x hx => .tail _ (.tail _ (.tail _ (.tail _ hx)))) S trivial (by simp) (by simp) ?_
  walk_at "gob"
  rename_i h Ld
  refine sp_plain (s := .i4 19) (by walk_at "le") Ld (G.mono fun x hx => .tail _ (.tail _ (.tail _ (.tail _ hx)))) S trivial (by simp) (by simp) ?_
  walk_at "gob"
  rename_i h Ld
  refine sp_plain (s := .ref c) (by walk_at "le") Ld (G.mono fun x hx => .tail _ (.tail _ (.tail _ (.tail _ hx)))) S trivial (by simp) (by simp) ?_
  walk_at "gob"
  rename_i h Ld
  exact hK _ (Led.sub Ld (by trivial))
end
end
section
noncomputable def VL (ls : List Nat) (cont : Nat → List V) : List (Nat × O) := ls.map fun l => (l, O.list (cont l))
noncomputable def cset (cont : Nat → List V) (l : Nat) (v : List V) : Nat → List V := fun x => if x = l then v else cont x
theorem Upd.app {l : Nat} {o o' : O} {A A' R : List (Nat × O)} (u : Upd l o o' A A') : Upd l o o' (A ++ R) (A' ++ R) := by
  induction u with
  | head r => exact .head _
  | tail p u ih => exact .tail _ ih
theorem VL_upd {l : Nat} {v : List V} : ∀ {ls : List Nat} {cont : Nat → List V}, ls.Nodup → l ∈ ls → Upd l (.list (cont l)) (.list v) (VL ls cont) (VL ls (cset cont l v))
  | a :: r, cont, hd, hm => by
    obtain ⟨h1, h2⟩ := List.nodup_cons.mp hd
    show Upd l _ _ ((a, O.list (cont a)) :: VL r cont) ((a, O.list (cset cont l v a)) :: VL r (cset cont l v))
    rcases List.mem_cons.mp hm with rfl | hm
    · have e : VL r (cset cont l v) = VL r cont := by
        unfold VL
        refine List.map_congr_left fun x hx => ?_
        have : x ≠ l := fun e => h1 (e ▸ hx)
        simp [cset, this]
      rw [e]
      have : cset cont l v l = v := by simp [cset]
      rw [this]
      exact .head _
    · have : a ≠ l := fun e => h1 (e ▸ hm)
      have e : cset cont l v a = cont a := by simp [cset, this]
      rw [e]
      exact .tail _ (VL_upd h2 hm)
theorem VL_mem {ls : List Nat} {cont : Nat → List V} {l : Nat} (h : l ∈ ls) : (l, O.list (cont l)) ∈ VL ls cont := List.mem_map.mpr ⟨l, h, rfl⟩
section
variable {sc : List Int} {n : Nat} {h : H} {K : KE} {R : List (Nat × O)} {wo hl ml : Nat} {p : Hp} {ts : List Th} {mv : List (Int × Int)}
theorem sp_move_value (hn : 6 ≤ n) (Ld : Led h R) (G : MC R wo hl ml p ts mv) (S : Sorted ts) {s : SV} (ok : MvOk ts s) (hK : ∀ h', Led h' R → K (mvS ts mv s).v h') : callN prog sc n 1 [s.v, .ref ml, .ref wo] K h := by
  refine s_fn (by assumption) rfl rfl ?_
  intro n hn
  cases s with
  | ref w =>
    walk_at "gob"
    exact sp_plain (s := .ref w) (by walk_at "om") Ld G S ok (by simp) (by simp) (hK _ Ld)
  | i4 c =>
    walk_at "gob"
    exact sp_plain (s := .i4 c) (by walk_at "om") Ld G S ok (by simp) (by simp) (hK _ Ld)
  | s5 w c =>
    walk_at "gob"
    exact sp_struct5 (by walk_at "om") Ld G S hK
  | s6 w w2 =>
    walk_at "gob"
    exact sp_struct6 (by walk_at "om") Ld G S hK
  | ftn t =>
    walk_at "gob"
    exact sp_plain (s := .ftn t) (by walk_at "om") Ld G S ok (by simp) (by simp) (hK _ Ld)
  | ph w t =>
    walk_at "gob"
    exact sp_plain (s := .ph w t) (by walk_at "om") Ld G S ok (by simp) (by simp) (hK _ Ld)
  | pn k a b c =>
    walk_at "gob"
    exact sp_plain (s := .pn k a b c) (by walk_at "om") Ld G S ok (by simp) (by simp) (hK _ Ld)
theorem sp_moved_values (hn : 7 ≤ n) (Ld : Led h R) (G : MC R wo hl ml p ts mv) (S : Sorted ts) {l : Nat} {ss : List SV} (hm : (l, .list (svs ss)) ∈ R) (ok : ∀ s ∈ ss, MvOk ts s) (few : ss.length ≤ 100) (hK : ∀ o h', Led h' ((o, .list (svs (ss.map (mvS ts mv)))) :: R) → K (.ref o) h') : callN prog sc n 40 [.ref l, .ref ml, .ref wo] K h := by
  refine s_fn (by assumption) rfl rfl ?_
  intro n hn
  walk_at "go"
  refine x_new (by assumption) ?_
  intro o h Ld
  walk_at "go"
  refine for_inv (s := .list l) ss.length (fun i m h' => A4 (Led h' ((o, .list (svs ((ss.take i).map (mvS ts mv)))) :: R)) (m 29 = some (.ref o)) (m 38 = some (.ref ml)) (m 6 = some (.ref wo))) ?_ ?_ ⟨Ld, rfl, rfl, rfl⟩
  · rintro m h ⟨Ld, m1, m2, m3⟩
    refine ⟨src_e Ld (by trivial) (by first | exact List.length_map _ | exact (List.length_map _).trans (List.length_map _) | (simp [svs])), ?_⟩
    rw [List.take_length] at Ld
    walk_at "go"
    exact hK _ _ Ld
  · rintro J hJ i m h hi ⟨Ld, m1, m2, m3⟩
    refine ⟨(ss[i]).v, _, src_i Ld (by trivial) (by first | exact get_map (by assumption) | (simp [svs, hi])), rfl, ?_⟩
    walk_at "go"
    refine s_Ap1 (by assumption) (by trivial) ?_
    walk_at "go"
    refine sp_move_value (by walk_at "le") Ld (G.mono fun x hx => .tail _ hx) S (ok _ (List.getElem_mem hi)) ?_
    intro h Ld
    walk_at "go"
    refine x_append (by assumption) (by trivial) (by simp [svs]; walk_at "om") ?_
    intro h Ld
    walk_at "go"
    refine ⟨?_, m1, m2, m3⟩
    have e : svs ((ss.take (i + 1)).map (mvS ts mv)) = svs ((ss.take i).map (mvS ts mv)) ++ [(mvS ts mv ss[i]).v] := by
      rw [take_snoc hi, svs, List.map_append, List.map_append]; rfl
    rw [e]
    exact Ld
theorem sp_new_lists (hn : 8 ≤ n) (Ld : Led h R) (G : MC R wo hl ml p ts mv) (S : Sorted ts) {ll : Nat} {every : List Nat} {c : Nat → List SV} (hm : (ll, .list (every.map .ref)) ∈ R) (hc : ∀ l ∈ every, (l, .list (svs (c l))) ∈ R) (ok : ∀ l ∈ every, ∀ s ∈ c l, MvOk ts s) (few : ∀ l ∈ every, (c l).length ≤ 100) (few2 : every.length ≤ 100)
    (hK : ∀ (nl : Nat) (nf : List Nat) (NL : List (Nat × O)) h', nf.length = every.length → (∀ k (h1 : k < every.length) (h2 : k < nf.length), (nf[k], O.list (svs ((c every[k]).map (mvS ts mv)))) ∈ NL) → Led h' ((nl, .list (nf.map .ref)) :: (NL ++ R)) → K (.ref nl) h') : callN prog sc n 41 [.ref ll, .ref ml, .ref wo] K h := by
  refine s_fn (by assumption) rfl rfl ?_
  intro n hn
  walk_at "go"
  refine x_new (by assumption) ?_
  intro o h Ld
  walk_at "go"
  refine for_inv (s := .list ll) every.length (fun i m h' => ∃ (nf : List Nat) (NL : List (Nat × O)), A6 (nf.length = i) ((∀ k (h1 : k < every.length) (h2 : k < nf.length), (nf[k], O.list (svs ((c every[k]).map (mvS ts mv)))) ∈ NL)) (Led h' ((o, .list (nf.map .ref)) :: (NL ++ R))) (m 29 = some (.ref o)) (m 38 = some (.ref ml)) (m 6 = some (.ref wo))) ?_ ?_ ⟨[], [], rfl, by simp, Ld, rfl, rfl, rfl⟩
  · rintro m h ⟨nf, NL, e1, e2, Ld, m1, m2, m3⟩
    refine ⟨src_e Ld (.tail _ (List.mem_append_right _ hm)) (by first | exact List.length_map _ | exact (List.length_map _).trans (List.length_map _) | (simp)), ?_⟩
    walk_at "go"
    exact hK _ nf NL _ e1 e2 Ld
  · rintro J hJ i m h hi ⟨nf, NL, e1, e2, Ld, m1, m2, m3⟩
    refine ⟨.ref every[i], _, src_i Ld (.tail _ (List.mem_append_right _ hm)) (by first | exact get_map (by assumption) | (simp [hi])), rfl, ?_⟩
    walk_at "go"
    refine s_Ap1 (by assumption) (by trivial) ?_
    walk_at "go"
    refine sp_moved_values (by walk_at "le") Ld (G.mono fun x hx => .tail _ (List.mem_append_right _ hx)) S (.tail _ (List.mem_append_right _ (hc _ (List.getElem_mem hi)))) (ok _ (List.getElem_mem hi)) (few _ (List.getElem_mem hi)) ?_
    intro q h Ld
    walk_at "go"
    refine x_append (by assumption) (by trivial) (by simp; walk_at "om") ?_
    intro h Ld
    walk_at "go"
    refine ⟨nf ++ [q], (q, O.list (svs ((c every[i]).map (mvS ts mv)))) :: NL, by simp [e1], fun k h1 h2 => ?_, ?_, m1, m2, m3⟩
    · rw [List.getElem_append]
      split
      · exact .tail _ (e2 k h1 (by assumption))
      · rename_i h3
        have : k = i := by simp at h2; walk_at "om"
        subst this
        simp
    · have e : (nf ++ [q]).map V.ref = nf.map V.ref ++ [V.ref q] := by simp
      rw [e]
      exact Led.pull Ld (.tail _ (.head _))
theorem sp_moved_addrs (hn : 1 ≤ n) (Ld : Led h R) {l : Nat} (hm : (l, .list []) ∈ R) {a : V} (hK : ∀ o h', Led h' ((o, .list []) :: R) → K (.ref o) h') : callN prog sc n 43 [.ref l, a] K h := by
  refine s_fn (by assumption) rfl rfl ?_
  intro n hn
  walk_at "go"
  refine x_new (by assumption) ?_
  intro o h Ld
  walk_at "go"
  refine for_inv (s := .list l) 0 (fun i m h' => h' = h ∧ m 29 = some (.ref o)) ?_ ?_ ⟨rfl, rfl⟩
  · rintro m _ ⟨rfl, m1⟩
    refine ⟨src_e Ld (by trivial) (by first | exact List.length_map _ | exact (List.length_map _).trans (List.length_map _) | (simp)), ?_⟩
    walk_at "go"
    exact hK _ _ Ld
  · intro i m h hi; walk_at "om"
end
end
section
theorem set_mix {a b : List V} {j : Nat} (h : j < a.length) (e : a.length = b.length) : (a.take j ++ b.drop j).set j a[j] = a.take (j + 1) ++ b.drop (j + 1) := by
  have hl : (a.take j).length = j := List.length_take_of_le (Nat.le_of_lt h)
  rw [take_snoc h, List.append_assoc, List.set_append_right _ _ (Nat.le_of_eq hl), hl, Nat.sub_self, List.drop_eq_getElem_cons (e ▸ h)]
  rfl
theorem src_range_in {h : H} {n i : Nat} (hi : i < n) : srcAt h (rangeSrc (n : Int)) i = some (some (.int i)) := by
  unfold rangeSrc
  simp [srcAt, hi]
theorem src_range_end {h : H} {n : Nat} : srcAt h (rangeSrc (n : Int)) n = some none := by
  unfold rangeSrc
  simp [srcAt]
section
variable {sc : List Int} {n : Nat} {h : H} {K : KE} {R : List (Nat × O)}
theorem sp_put_lists (hn : 1 ≤ n) {ls every nf : List Nat} {cont g : Nat → List V} {ll fl : Nat} (Ld : Led h (VL ls cont ++ R)) (nd : ls.Nodup) (he : ∀ l ∈ every, l ∈ ls) (hm : (ll, .list (every.map .ref)) ∈ R) (hf : (fl, .list (nf.map .ref)) ∈ R) (e1 : nf.length = every.length)
    (e2 : ∀ k (h1 : k < every.length) (h2 : k < nf.length), (nf[k], O.list (g every[k])) ∈ R) (e3 : ∀ l ∈ every, (g l).length = (cont l).length) (few : ∀ l ∈ every, (g l).length ≤ 100) (few2 : every.length ≤ 100)
    (hK : ∀ ct h', (∀ l ∈ every, ct l = g l) → (∀ l, l ∉ every → ct l = cont l) → Led h' (VL ls ct ++ R) → K .none h') : callN prog sc n 42 [.ref ll, .ref fl] K h := by
  refine s_fn (by assumption) rfl rfl ?_
  intro n hn
  walk_at "go"
  refine x_lenL (by assumption) (List.mem_append_right _ hm) (by simp; walk_at "om") ?_
  walk_at "go"
  rw [List.length_map]
  refine ⟨by walk_at "i", by walk_at "j", ?_⟩
  refine for_inv every.length (fun i m h' => ∃ ct, A5 (Led h' (VL ls ct ++ R)) ((∀ l ∈ every.take i, ct l = g l)) ((∀ l, l ∉ every.take i → ct l = cont l)) (m 30 = some (.ref ll)) (m 43 = some (.ref fl))) ?_ ?_ ⟨cont, Ld, by simp, by simp, rfl, rfl⟩
  · rintro m h ⟨ct, Ld, c1, c2, m1, m2⟩
    refine ⟨src_range_end, ?_⟩
    rw [List.take_length] at c1 c2
    walk_at "go"
    exact hK ct _ c1 c2 Ld
  · rintro J hJ i m h hi ⟨ct, Ld, c1, c2, m1, m2⟩
    refine ⟨.int i, _, src_range_in hi, rfl, ?_⟩
    walk_at "go"
    refine x_idxL (v := .ref every[i]) (by assumption) (List.mem_append_right _ hm) (by walk_at "i") (by walk_at "j") (by simp [hi]) ?_
    walk_at "go"
    have hel := List.getElem_mem hi
    have hin := he _ hel
    have glen := e3 _ hel
    have gfew := few _ hel
    have clen : (ct every[i]).length = (g every[i]).length := by
      by_cases q : every[i] ∈ every.take i
      · rw [c1 _ q]
      · rw [c2 _ q, glen]
    refine x_lenL (by assumption) (List.mem_append_left _ (VL_mem hin)) (by walk_at "om") ?_
    walk_at "go"
    refine ⟨by walk_at "i", by walk_at "j", ?_⟩
    refine for_inv (ct every[i]).length (fun j m h' => ∃ c3, A7 (Led h' (VL ls c3 ++ R)) (c3 every[i] = (g every[i]).take j ++ (ct every[i]).drop j) ((∀ l, l ≠ every[i] → c3 l = ct l)) (m 30 = some (.ref ll)) (m 43 = some (.ref fl)) (m 31 = some (.ref every[i])) (m 4 = some (.int i))) ?_ ?_ ⟨ct, Ld, by simp, fun _ _ => rfl, m1, m2, rfl, rfl⟩
    · rintro m h ⟨c3, Ld, d1, d2, m1, m2, m3, m4⟩
      refine ⟨src_range_end, ?_⟩
      walk_at "go"
      refine ⟨c3, Ld, fun l hl => ?_, fun l hl => ?_, m1, m2⟩
      · by_cases q : l = every[i]
        · subst q
          rw [d1, clen, List.take_length, List.drop_eq_nil_of_le (by walk_at "om"), List.append_nil]
        · rw [d2 l q]
          rw [take_snoc hi] at hl
          rcases List.mem_append.mp hl with r | r
          · exact c1 l r
          · exact absurd (List.mem_singleton.mp r) q
      · rw [take_snoc hi] at hl
        simp only [List.mem_append, List.mem_singleton, not_or] at hl
        rw [d2 l hl.2]
        exact c2 l hl.1
    · rintro J hJ j m h hj ⟨c3, Ld, d1, d2, m1, m2, m3, m4⟩
      refine ⟨.int j, _, src_range_in hj, rfl, ?_⟩
      walk_at "go"
      have h2 : i < nf.length := by walk_at "om"
      refine x_idxL (v := .ref nf[i]) (by assumption) (List.mem_append_right _ hf) (by walk_at "i") (by walk_at "j") (by simp [h2]) ?_
      walk_at "go"
      have hj2 : j < (g every[i]).length := by walk_at "om"
      refine x_idxL (v := (g every[i])[j]) (by assumption) (List.mem_append_right _ (e2 i hi h2)) (by walk_at "i") (by walk_at "j") (by simp [hj2]) ?_
      walk_at "go"
      refine x_setL (by assumption) (VL_upd nd hin).app (by walk_at "i") (by walk_at "j") (by rw [d1]; simp; walk_at "om") ?_
      intro h Ld
      walk_at "go"
      refine ⟨_, Ld, ?_, fun l hl => ?_, m1, m2, m3, m4⟩
      · have : cset c3 every[i] ((c3 every[i]).set (Int.toNat (j : Int)) (g every[i])[j]) every[i] = (c3 every[i]).set (Int.toNat (j : Int)) (g every[i])[j] := by simp [cset]
        rw [this, d1, Int.toNat_natCast]
        exact set_mix hj2 clen.symm
      · simp only [cset, hl, if_false]
        exact d2 l hl
end
end
section
noncomputable abbrev stA (A : List Th) := st (fun _ => true) A
theorem stA_snoc (A : List Th) (t : Th) : stA (A ++ [t]) = ((stA A).1 ++ [(t.addr, (stA A).2)], (stA A).2 + t.size) := by
  rw [stA, st_snoc]; rfl
theorem st_filter (al : Th → Bool) : ∀ l : List Th, st al l = stA (l.filter al) := by
  refine snoc_ind rfl ?_
  intro l t ih
  rw [st_snoc, List.filter_append, List.filter_cons, List.filter_nil]
  split
  · rw [ih]
    exact (stA_snoc _ _).symm
  · rw [ih, List.append_nil]
noncomputable def agen (g : Int) : Int := if g < 2 then g + 1 else g
noncomputable def upT (mv : List (Int × Int)) (t : Th) : Th := { t with addr := mvW mv t.addr, gen := agen t.gen }
noncomputable def TL (A : List Th) : List (Nat × O) := A.map fun t => (t.loc, thO t)
noncomputable def cn (A : List Th) : Int := (A.foldl (fun (s : Int × Int) t => (s.1 + t.size, if s.1 = t.addr then s.2 else s.2 + 1)) (16, 0)).2
theorem cn_fst : ∀ A : List Th, (A.foldl (fun (s : Int × Int) t => (s.1 + t.size, if s.1 = t.addr then s.2 else s.2 + 1)) (16, 0)).1 = (stA A).2 := by
  refine snoc_ind rfl ?_
  intro l t ih
  rw [List.foldl_append, stA, st_snoc]
  show _ + t.size = _
  rw [ih]; rfl
theorem cn_snoc (A : List Th) (t : Th) : cn (A ++ [t]) = if (stA A).2 = t.addr then cn A else cn A + 1 := by
  unfold cn
  rw [List.foldl_append, ← cn_fst A]
  rfl
section
variable {sc : List Int} {n : Nat} {h : H} {K : KE} {R : List (Nat × O)} {hl ml : Nat} {p : Hp} {ts A : List Th} {mv : List (Int × Int)}
theorem sp_settle_thing (hn : 1 ≤ n) {t : Th} {g : Int} (Ld : Led h ((t.loc, thO t) :: (hl, hpO p) :: R)) (hm : (ml, .dict (dI mv)) ∈ R) (hg : t.gen ≤ 2) (hl_ : mv.lookup t.addr = some g)
    (hK : ∀ h', Led h' ((t.loc, thO { t with addr := g, gen := agen t.gen }) :: (hl, hpO { p with moved := if g = t.addr then p.moved else p.moved + 1 }) :: R) → K .none h') : callN prog sc n 44 [.ref hl, .ref t.loc, .ref ml, .int 2] K h := by
  refine s_fn (by assumption) rfl rfl ?_
  intro n hn
  walk_at "go"
  first | refine s_ltF ((by walk_at "om" : ¬ (2 : Int) < t.gen)) ?_ | refine s_leF ((by walk_at "om" : ¬ (2 : Int) < t.gen)) ?_ | refine s_gtF ((by walk_at "om" : ¬ (2 : Int) < t.gen)) ?_ | refine s_geF ((by walk_at "om" : ¬ (2 : Int) < t.gen)) ?_
  walk_at "go"
  refine x_idxD (v := .int g) (by assumption) (by trivial) (by rw [lookup_dI, hl_]; rfl) ?_
  walk_at "go"
  unfold agen at hK
  by_cases q : g = t.addr
  · rw [if_pos q] at hK
    first | refine s_eqT (q) ?_ | refine s_neF (q) ?_
    walk_at "go"
    walk_at "setA"
    intro h Ld
    walk_at "go"
    by_cases q : t.gen < 2
    · first | refine s_ltT (q) ?_ | refine s_leT (q) ?_ | refine s_gtT (q) ?_ | refine s_geT (q) ?_
      walk_at "go"
      rw [if_pos q] at hK
      walk_at "setA"
      intro h Ld
      walk_at "go"
      exact hK _ Ld
    · first | refine s_ltF (q) ?_ | refine s_leF (q) ?_ | refine s_gtF (q) ?_ | refine s_geF (q) ?_
      walk_at "go"
      rw [if_neg q] at hK
      exact hK _ Ld
  · rw [if_neg q] at hK
    first | refine s_eqF (q) ?_ | refine s_neT (q) ?_
    walk_at "go"
    walk_at "setA"
    intro h Ld
    walk_at "go"
    walk_at "setA"
    intro h Ld
    walk_at "go"
    by_cases q : t.gen < 2
    · first | refine s_ltT (q) ?_ | refine s_leT (q) ?_ | refine s_gtT (q) ?_ | refine s_geT (q) ?_
      walk_at "go"
      rw [if_pos q] at hK
      walk_at "setA"
      intro h Ld
      walk_at "go"
      exact hK _ Ld
    · first | refine s_ltF (q) ?_ | refine s_leF (q) ?_ | refine s_gtF (q) ?_ | refine s_geF (q) ?_
      walk_at "go"
      rw [if_neg q] at hK
      exact hK _ Ld
end
end
section
theorem Pull.mid {p : Nat × O} : ∀ (X Y : List (Nat × O)), Pull p (X ++ p :: Y) (X ++ Y)
  | [], Y => .head _
  | a :: X, Y => .tail _ (Pull.mid X Y)
theorem Led.push {h : H} {p : Nat × O} {r r' : List (Nat × O)} (Ld : Led h (p :: r')) (u : Pull p r r') : Led h r := Ld.perm u.perm.symm
theorem TL_app (a b : List Th) : TL (a ++ b) = TL a ++ TL b := List.map_append ..
theorem stA_lt {A : List Th} (S : Sorted A) : ∀ i j, i < j → (hj : j ≤ A.length) → (stA (A.take i)).2 + 3 ≤ (stA (A.take j)).2 := by
  intro i j hij
  induction j with
  | zero => walk_at "om"
  | succ j ih =>
    intro hj
    have hs := (S.pos _ (List.getElem_mem (show j < A.length by walk_at "om"))).2.2.1
    rw [take_snoc (by walk_at "om"), stA_snoc]
    rcases Nat.lt_or_ge i j with q | q
    · have := ih q (by walk_at "om")
      show _ ≤ _ + _
      walk_at "om"
    · have : i = j := by walk_at "om"
      subst this
      show _ ≤ _ + _
      walk_at "om"
section
variable {sc : List Int} {n : Nat} {h : H} {K : KE} {R : List (Nat × O)} {hl ml : Nat} {p : Hp} {ts A : List Th} {mv : List (Int × Int)}
theorem sp_stays (hn : 1 ≤ n) {t : Th} (Ld : Led h R) (ht : (t.loc, thO t) ∈ R) (hm : (ml, .dict (dI mv)) ∈ R) (hg : t.gen ≤ 2) (hK : K (.bool (mv.lookup t.addr).isSome) h) : callN prog sc n 39 [.ref t.loc, .ref ml, .int 2] K h := by
  refine s_fn (by assumption) rfl rfl ?_
  intro n hn
  walk_at "go"
  first | refine s_ltF ((by walk_at "om" : ¬ (2 : Int) < t.gen)) ?_ | refine s_leF ((by walk_at "om" : ¬ (2 : Int) < t.gen)) ?_ | refine s_gtF ((by walk_at "om" : ¬ (2 : Int) < t.gen)) ?_ | refine s_geF ((by walk_at "om" : ¬ (2 : Int) < t.gen)) ?_
  walk_at "go"
  refine x_inD (by assumption) (by trivial) ?_
  rw [any_dI, any_some]
  exact hK
theorem sp_settle_things (hn : 2 ≤ n) (hA : A = ts.filter fun t => (mv.lookup t.addr).isSome) (hmv : mv = (stA A).1) (Ld : Led h ((hl, hpO p) :: (TL A ++ R))) (htl : (p.tl, .list (locs ts)) ∈ R) (hm : (ml, .dict (dI mv)) ∈ R) (hdead : ∀ t ∈ ts, mv.lookup t.addr = none → (t.loc, thO t) ∈ R) (S : Sorted ts) (hg : ∀ t ∈ ts, t.gen ≤ 2)
    (hK : ∀ lv al h', Led h' ((lv, .list (locs A)) :: (al, .dict (atD (A.map (upT mv)))) :: (hl, hpO { p with tl := lv, al := al, top := (stA A).2, moved := p.moved + cn A }) :: (TL (A.map (upT mv)) ++ R)) → K .none h') : callN prog sc n 45 [.ref hl, .ref ml, .int 2] K h := by
  have few := S.few
  have sub : ∀ t ∈ A, t ∈ ts := fun t ht => by rw [hA] at ht; exact (List.mem_filter.mp ht).1
  have SA : Sorted A := by
    rw [hA]
    exact ⟨Nat.le_trans (List.length_filter_le _ _) few, fun t ht => S.pos t (List.mem_filter.mp ht).1, S.ord.filter _⟩
  have fewA := SA.few
  have thA : ∀ t ∈ ts, (t.loc, thO t) ∈ TL A ++ R := fun t ht => by
    cases e : mv.lookup t.addr with
    | none => exact List.mem_append_right _ (hdead t ht e)
    | some g => exact List.mem_append_left _ (List.mem_map.mpr ⟨t, by rw [hA]; exact List.mem_filter.mpr ⟨ht, by rw [e]; rfl⟩, rfl⟩)
  refine s_fn (by assumption) rfl rfl ?_
  intro n hn
  walk_at "go"
  refine x_new (by assumption) ?_
  intro lv h Ld
  walk_at "go"
  refine for_inv (s := .list p.tl) ts.length (fun i m h' => A5 (Led h' ((lv, .list (locs ((ts.take i).filter fun t => (mv.lookup t.addr).isSome))) :: (hl, hpO p) :: (TL A ++ R))) (m 18 = some (.ref hl)) (m 38 = some (.ref ml)) (m 20 = some (.int 2)) (m 45 = some (.ref lv))) ?_ ?_ ⟨Ld, rfl, rfl, rfl, rfl⟩
  · rintro m h ⟨Ld, m1, m2, m3, m4⟩
    refine ⟨src_e Ld (.tail _ (.tail _ (List.mem_append_right _ htl))) (by first | exact List.length_map _ | exact (List.length_map _).trans (List.length_map _) | (simp [locs])), ?_⟩
    rw [List.take_length, ← hA] at Ld
    walk_at "go"
    walk_at "setA"
    intro h Ld
    walk_at "go"
    refine x_new (by assumption) ?_
    intro al h Ld
    walk_at "go"
    walk_at "setA"
    intro h Ld
    walk_at "go"
    walk_at "setA"
    intro h Ld
    walk_at "go"
    refine for_inv (s := .list lv) A.length (fun i m h' => A4 (Led h' ((lv, .list (locs A)) :: (al, .dict (atD ((A.take i).map (upT mv)))) :: (hl, hpO { p with tl := lv, al := al, top := (stA (A.take i)).2, moved := p.moved + cn (A.take i) }) :: (TL ((A.take i).map (upT mv) ++ A.drop i) ++ R))) (m 18 = some (.ref hl)) (m 38 = some (.ref ml)) (m 20 = some (.int 2))) ?_ ?_ ⟨?_, m1, m2, m3⟩
    · rintro m h ⟨Ld, m1, m2, m3⟩
      refine ⟨src_e Ld (by trivial) (by first | exact List.length_map _ | exact (List.length_map _).trans (List.length_map _) | (simp [locs])), ?_⟩
      rw [List.take_length, List.drop_length, List.append_nil] at Ld
      walk_at "go"
      exact hK lv al _ Ld
    · rintro J hJ i m h hi ⟨Ld, m1, m2, m3⟩
      refine ⟨.ref (A[i]).loc, _, src_i Ld (by trivial) (by first | exact get_map (by assumption) | (simp [locs, hi])), rfl, ?_⟩
      walk_at "go"
      have hlk : mv.lookup (A[i]).addr = some (stA (A.take i)).2 := by
        have := st_lookup SA (fun _ => true) A.length (Nat.le_refl _) i hi hi
        rw [List.take_length] at this
        rw [hmv]; simpa using this
      rw [List.drop_eq_getElem_cons hi, TL_app] at Ld
      generalize hX : TL ((A.take i).map (upT mv)) = X at Ld
      have Ld : Led h ((lv, .list (locs A)) :: (al, .dict (atD ((A.take i).map (upT mv)))) :: (hl, hpO { p with tl := lv, al := al, top := (stA (A.take i)).2, moved := p.moved + cn (A.take i) }) :: (X ++ ((A[i]).loc, thO A[i]) :: (TL (A.drop (i + 1)) ++ R))) := by
        have e : X ++ ((A[i]).loc, thO A[i]) :: (TL (A.drop (i + 1)) ++ R) = X ++ TL (A[i] :: A.drop (i + 1)) ++ R := by rw [List.append_assoc]; rfl
        rw [e]; exact Ld
      have Ld : Led h (((A[i]).loc, thO A[i]) :: (hl, hpO { p with tl := lv, al := al, top := (stA (A.take i)).2, moved := p.moved + cn (A.take i) }) :: (lv, .list (locs A)) :: (al, .dict (atD ((A.take i).map (upT mv)))) :: (X ++ (TL (A.drop (i + 1)) ++ R))) :=
        (Led.pull (p := (hl, hpO { p with tl := lv, al := al, top := (stA (A.take i)).2, moved := p.moved + cn (A.take i) })) Ld (by trivial)).pull (.tail _ (.tail _ (.tail _ (Pull.mid X _))))
      refine sp_settle_thing (t := A[i]) (g := (stA (A.take i)).2) (mv := mv) (by walk_at "le") Ld (.tail _ (.tail _ (List.mem_append_right _ (List.mem_append_right _ hm)))) (hg _ (sub _ (List.getElem_mem hi))) hlk ?_
      intro h Ld
      walk_at "go"
      have hlen : (atD ((A.take i).map (upT mv))).length < 100000 := by simp [atD]; walk_at "om"
      refine x_setD (by assumption) (by trivial) hlen ?_
      intro h Ld
      walk_at "go"
      walk_at "setA"
      intro h Ld
      walk_at "go"
      refine ⟨?_, m1, m2, m3⟩
      have hup : upT mv A[i] = { A[i] with addr := (stA (A.take i)).2, gen := agen (A[i]).gen } := by unfold upT mvW; rw [hlk]; rfl
      have eat : putD (atD ((A.take i).map (upT mv))) (stA (A.take i)).2 (.ref (A[i]).loc) = atD ((A.take (i + 1)).map (upT mv)) := by
        have nk : (atD ((A.take i).map (upT mv))).any (fun e => decide (e.1 = (stA (A.take i)).2)) = false := by
          rw [List.any_eq_false]
          intro e he
          unfold atD at he
          rw [List.map_map] at he
          obtain ⟨t, ht, rfl⟩ := List.mem_map.mp he
          obtain ⟨k, hk, rfl⟩ := List.getElem_of_mem ht
          simp only [List.length_take] at hk
          have hlk2 : mv.lookup (A[k]).addr = some (stA (A.take k)).2 := by
            have := st_lookup SA (fun _ => true) A.length (Nat.le_refl _) k (by walk_at "om") (by walk_at "om")
            rw [List.take_length] at this
            rw [hmv]; simpa using this
          have := stA_lt SA k i (by walk_at "om") (by walk_at "om")
          simp only [Function.comp, List.getElem_take, upT, mvW, hlk2, Option.getD_some, decide_eq_true_eq]
          walk_at "om"
        unfold putD
        rw [if_neg (by rw [nk]; simp), take_snoc hi, List.map_append, atD, atD, List.map_append]
        simp [hup]
      rw [eat] at Ld
      have ecn : (if (stA (A.take i)).2 = (A[i]).addr then p.moved + cn (A.take i) else p.moved + cn (A.take i) + 1) = p.moved + cn (A.take (i + 1)) := by
        rw [take_snoc hi, cn_snoc]; split <;> walk_at "om"
      have etop : (stA (A.take i)).2 + (A[i]).size = (stA (A.take (i + 1))).2 := by rw [take_snoc hi, stA_snoc]
      have e2 : TL ((A.take (i + 1)).map (upT mv) ++ A.drop (i + 1)) ++ R = X ++ ((A[i]).loc, thO { A[i] with addr := (stA (A.take i)).2, gen := agen (A[i]).gen }) :: (TL (A.drop (i + 1)) ++ R) := by
        rw [take_snoc hi, List.map_append, TL_app, TL_app, hX, ← hup]
        simp only [TL, List.map_cons, List.map_nil, List.append_assoc, List.cons_append, List.nil_append]
        rfl
      rw [e2, ← etop, ← ecn]
      exact ((Led.push Ld (.tail _ (.tail _ (.tail _ (Pull.mid X _))))).pull (p := (al, .dict (atD ((A.take (i + 1)).map (upT mv))))) (by trivial)).pull (by trivial)
    · have this := Led.pull (p := (lv, .list (locs A))) Ld (by trivial)
      have e0 : p.moved = p.moved + cn (A.take 0) := by show _ = _ + (0 : Int); walk_at "om"
      rw [e0] at this
      exact this
  · rintro J hJ i m h hi ⟨Ld, m1, m2, m3, m4⟩
    have ht := List.getElem_mem hi
    refine ⟨.ref (ts[i]).loc, _, src_i Ld (.tail _ (.tail _ (List.mem_append_right _ htl))) (by first | exact get_map (by assumption) | (simp [locs, hi])), rfl, ?_⟩
    walk_at "go"
    refine sp_stays (t := ts[i]) (by walk_at "le") Ld (.tail _ (.tail _ (thA _ ht))) (.tail _ (.tail _ (List.mem_append_right _ hm))) (hg _ ht) ?_
    replace hJ := hJ (i + 1)
    rw [take_snoc hi, List.filter_append, List.filter_cons, List.filter_nil] at hJ
    cases e : (mv.lookup (ts[i]).addr).isSome with
    | true =>
      rw [e] at hJ
      walk_at "go"
      refine s_Ap1 (by assumption) (by trivial) ?_
      walk_at "go"
      refine x_append (by assumption) (by trivial) (by have := List.length_filter_le (fun t => (mv.lookup t.addr).isSome) (ts.take i); simp [locs] at this ⊢; walk_at "om") ?_
      intro h Ld
      walk_at "go"
      refine ⟨?_, m1, m2, m3, m4⟩
      have e : locs ((ts.take i).filter (fun t => (mv.lookup t.addr).isSome) ++ [ts[i]]) = locs ((ts.take i).filter fun t => (mv.lookup t.addr).isSome) ++ [.ref (ts[i]).loc] := by simp [locs]
      rw [if_pos rfl, e]; exact Ld
    | false =>
      rw [e] at hJ
      walk_at "go"
      rw [if_neg (by simp), List.append_nil]
      exact ⟨Ld, m1, m2, m3, m4⟩
end
end
section
section
variable {sc : List Int} {n : Nat} {h : H} {K : KE} {R : List (Nat × O)} {hl ml ll : Nat} {p : Hp} {ts A : List Th} {mv : List (Int × Int)} {ls roots : List Nat} {c : Nat → List SV}
theorem sp_Words_init (hn : 1 ≤ n) {l : Nat} {a b : V} (Ld : Led h ((l, .inst 3 []) :: R)) (hK : ∀ h', Led h' ((l, .inst 3 [(19, a), (20, b)]) :: R) → K .none h') : callN prog sc n 36 [.ref l, a, b] K h := by
  refine s_fn (by assumption) rfl rfl ?_
  intro n hn
  walk_at "go"
  walk_at "setA"
  intro h Ld
  walk_at "go"
  walk_at "setA"
  intro h Ld
  walk_at "go"
  exact hK _ Ld
theorem sp_move_all (hn : 9 ≤ n) (hA : A = ts.filter fun t => (mv.lookup t.addr).isSome) (hmv : mv = (stA A).1) (Ld : Led h ((hl, hpO p) :: (TL A ++ (VL ls (fun l => svs (c l)) ++ R)))) (htl : (p.tl, .list (locs ts)) ∈ R) (hal : (p.al, .dict (atD ts)) ∈ R) (hm : (ml, .dict (dI mv)) ∈ R) (hfl : (p.fl, .list []) ∈ R)
    (hll : (ll, .list (roots.map .ref)) ∈ R) (hdead : ∀ t ∈ ts, mv.lookup t.addr = none → (t.loc, thO t) ∈ R ∧ (t.sl, .list t.slots) ∈ R) (halive : ∀ t ∈ A, t.sl ∈ ls ∧ t.slots = svs (c t.sl)) (hroots : ∀ l ∈ roots, l ∈ ls) (hready : p.rl ∈ ls) (hall : ∀ l ∈ ls, l ∈ roots ∨ l = p.rl ∨ ∃ t ∈ A, t.sl = l)
    (S : Sorted ts) (hg : ∀ t ∈ ts, t.gen ≤ 2) (ok : ∀ l ∈ ls, ∀ s ∈ c l, MvOk ts s) (few : ∀ l ∈ ls, (c l).length ≤ 100) (few2 : roots.length ≤ 50)
    (hK : ∀ lv al fl h', Led h' ((lv, .list (locs A)) :: (al, .dict (atD (A.map (upT mv)))) :: (hl, hpO { p with tl := lv, al := al, fl := fl, top := (stA A).2, moved := p.moved + cn A }) :: (TL (A.map (upT mv)) ++ ((fl, .list []) :: (VL ls (fun l => svs ((c l).map (mvS ts mv))) ++ R)))) → K .none h') : callN prog sc n 46 [.ref hl, .ref ll, .ref ml, .int 2] K h := by
  have fewS := S.few
  have sub : ∀ t ∈ A, t ∈ ts := fun t ht => by rw [hA] at ht; exact (List.mem_filter.mp ht).1
  have inA : ∀ t ∈ ts, mv.lookup t.addr ≠ none → t ∈ A := fun t ht e => by
    rw [hA]; exact List.mem_filter.mpr ⟨ht, by cases q : mv.lookup t.addr with | none => exact absurd q e | some g => rfl⟩
  have thA : ∀ t ∈ ts, (t.loc, thO t) ∈ TL A ++ (VL ls (fun l => svs (c l)) ++ R) ∧ (t.sl, .list t.slots) ∈ TL A ++ (VL ls (fun l => svs (c l)) ++ R) := fun t ht => by
    cases e : mv.lookup t.addr with
    | none => exact ⟨List.mem_append_right _ (List.mem_append_right _ (hdead t ht e).1), List.mem_append_right _ (List.mem_append_right _ (hdead t ht e).2)⟩
    | some g =>
      have hin := inA t ht (by rw [e]; simp)
      obtain ⟨h1, h2⟩ := halive t hin
      exact ⟨List.mem_append_left _ (List.mem_map.mpr ⟨t, hin, rfl⟩), List.mem_append_right _ (List.mem_append_left _ (by rw [h2]; exact VL_mem h1))⟩
  have lenA : A.length ≤ 8 := by rw [hA]; exact Nat.le_trans (List.length_filter_le _ _) fewS
  have nd : ls.Nodup := by
    have h1 := Ld.nd
    rw [List.map_cons, List.nodup_cons] at h1
    have h2 := h1.2
    rw [List.map_append, List.nodup_append] at h2
    have h3 := h2.2.1
    rw [List.map_append, List.nodup_append] at h3
    have h4 := h3.1
    unfold VL at h4
    rw [List.map_map] at h4
    have : List.map ((fun x : Nat × O => x.1) ∘ fun l => (l, O.list (svs (c l)))) ls = ls := by
      rw [show ((fun x : Nat × O => x.1) ∘ fun l => (l, O.list (svs (c l)))) = id from rfl, List.map_id]
    rw [this] at h4
    exact h4
  generalize hL0 : TL A ++ (VL ls (fun l => svs (c l)) ++ R) = L0 at *
  have rin : ∀ x ∈ R, x ∈ L0 := fun x hx => by rw [← hL0]; exact List.mem_append_right _ (List.mem_append_right _ hx)
  have vin : ∀ l ∈ ls, (l, O.list (svs (c l))) ∈ L0 := fun l hl => by rw [← hL0]; exact List.mem_append_right _ (List.mem_append_left _ (VL_mem hl))
  refine s_fn (by assumption) rfl rfl ?_
  intro n hn
  walk_at "go"
  intro wo hwo
  refine sp_Words_init (R := (hl, hpO p) :: L0) (by walk_at "le") (Ld.new hwo) ?_
  clear hwo
  intro h Ld
  refine ⟨rfl, ?_⟩
  walk_at "go"
  refine x_new (by assumption) ?_
  intro ev h Ld
  walk_at "go"
  refine for_inv (s := .list ll) roots.length (fun i m h' => A6 (Led h' ((ev, .list ((roots.take i).map .ref)) :: (wo, .inst 3 [(19, .ref hl), (20, .ref ml)]) :: (hl, hpO p) :: L0)) (m 18 = some (.ref hl)) (m 38 = some (.ref ml)) (m 20 = some (.int 2)) (m 46 = some (.ref ev)) (m 6 = some (.ref wo))) ?_ ?_ ⟨Ld, rfl, rfl, rfl, rfl, rfl⟩
  · rintro m h ⟨Ld, m1, m2, m3, m4, m5⟩
    refine ⟨src_e Ld (.tail _ (.tail _ (.tail _ (rin _ hll)))) (by first | exact List.length_map _ | exact (List.length_map _).trans (List.length_map _) | (simp)), ?_⟩
    rw [List.take_length] at Ld
    walk_at "go"
    refine s_Ap1 (by assumption) (by trivial) ?_
    walk_at "go"
    refine x_append (by assumption) (by trivial) (by simp; walk_at "om") ?_
    intro h Ld
    walk_at "go"
    refine for_inv (s := .list p.tl) ts.length (fun i m h' => A6 (Led h' ((ev, .list ((roots ++ [p.rl] ++ ((ts.take i).filter fun t => (mv.lookup t.addr).isSome).map (·.sl)).map .ref)) :: (wo, .inst 3 [(19, .ref hl), (20, .ref ml)]) :: (hl, hpO p) :: L0)) (m 18 = some (.ref hl)) (m 38 = some (.ref ml)) (m 20 = some (.int 2)) (m 46 = some (.ref ev)) (m 6 = some (.ref wo))) ?_ ?_ ⟨by simpa using Ld, m1, m2, m3, m4, m5⟩
    · rintro m h ⟨Ld, m1, m2, m3, m4, m5⟩
      refine ⟨src_e Ld (.tail _ (.tail _ (.tail _ (rin _ htl)))) (by first | exact List.length_map _ | exact (List.length_map _).trans (List.length_map _) | (simp [locs])), ?_⟩
      rw [List.take_length, ← hA] at Ld
      generalize hev : roots ++ [p.rl] ++ A.map (·.sl) = every at Ld
      have evin : ∀ l ∈ every, l ∈ ls := fun l hl => by
        rw [← hev] at hl
        simp only [List.mem_append, List.mem_singleton, List.mem_map] at hl
        rcases hl with (hl | rfl) | ⟨t, ht, rfl⟩
        · exact hroots l hl
        · exact hready
        · exact (halive t ht).1
      have evall : ∀ l ∈ ls, l ∈ every := fun l hl => by
        rw [← hev]
        simp only [List.mem_append, List.mem_singleton, List.mem_map]
        rcases hall l hl with q | q | q
        · exact .inl (.inl q)
        · exact .inl (.inr q)
        · exact .inr q
      have evlen : every.length ≤ 100 := by rw [← hev]; simp; walk_at "om"
      walk_at "go"
      refine sp_new_lists (p := p) (ts := ts) (mv := mv) (c := c) (by walk_at "le") Ld ⟨by trivial, .tail _ (.tail _ (.tail _ (rin _ hm))), ⟨by trivial, .tail _ (.tail _ (.tail _ (rin _ htl))), .tail _ (.tail _ (.tail _ (rin _ hal))), fun t ht => ⟨.tail _ (.tail _ (.tail _ (thA t ht).1)), .tail _ (.tail _ (.tail _ (thA t ht).2))⟩⟩⟩ S (by trivial)
        (fun l hl => .tail _ (.tail _ (.tail _ (vin l (evin l hl))))) (fun l hl => ok l (evin l hl)) (fun l hl => few l (evin l hl)) evlen ?_
      intro nl nf NL h e1 e2 Ld
      walk_at "go"
      generalize hX : (nl, O.list (nf.map V.ref)) :: (NL ++ ((ev, O.list (every.map V.ref)) :: (wo, O.inst 3 [(19, .ref hl), (20, .ref ml)]) :: (hl, hpO p) :: TL A)) = X
      have Ld : Led h (X ++ (VL ls (fun l => svs (c l)) ++ R)) := by
        rw [← hX]
        rw [← hL0] at Ld
        simpa using Ld
      have Ld : Led h (VL ls (fun l => svs (c l)) ++ (X ++ R)) := Ld.perm (List.perm_append_comm_assoc _ _ _)
      have xin : ∀ x ∈ X, x ∈ X ++ R := fun x hx => List.mem_append_left _ hx
      refine sp_put_lists (every := every) (nf := nf) (g := fun l => svs ((c l).map (mvS ts mv))) (by walk_at "le") Ld nd evin (xin _ (by rw [← hX]; exact .tail _ (List.mem_append_right _ (.head _)))) (xin _ (by rw [← hX]; exact .head _)) e1
        (fun k h1 h2 => xin _ (by rw [← hX]; exact .tail _ (List.mem_append_left _ (e2 k h1 h2)))) (fun l hl => by simp [svs]) (fun l hl => by have := few l (evin l hl); simpa [svs] using this) evlen ?_
      intro ct h c1 c2 Ld
      walk_at "go"
      have ect : VL ls ct = VL ls (fun l => svs ((c l).map (mvS ts mv))) := List.map_congr_left fun l hl => by rw [c1 l (evall l hl)]
      rw [ect] at Ld
      generalize hZ : VL ls (fun l => svs ((c l).map (mvS ts mv))) ++ R = Z
      have Ld : Led h ((hl, hpO p) :: (TL A ++ Z)) := by
        have Ld := Ld.perm (List.perm_append_comm_assoc _ _ _)
        rw [hZ] at Ld
        refine Led.sub Ld ?_
        rw [← hX]
        exact List.Sublist.append_right (l₁ := (hl, hpO p) :: TL A) (.cons _ (List.sublist_append_of_sublist_right (.cons _ (.cons _ (.refl _))))) Z
      have rz : ∀ x ∈ R, x ∈ Z := fun x hx => by rw [← hZ]; exact List.mem_append_right _ hx
      walk_at "go"
      refine sp_moved_addrs (l := p.fl) (by walk_at "le") Ld (.tail _ (List.mem_append_right _ (rz _ hfl))) ?_
      intro o h Ld
      walk_at "go"
      walk_at "setA"
      intro h Ld
      walk_at "go"
      have Ld : Led h ((hl, hpO { p with fl := o }) :: (TL A ++ ((o, .list []) :: Z))) := Led.push (p := (o, O.list [])) Ld (.tail _ (Pull.mid (TL A) Z))
      refine sp_settle_things (p := { p with fl := o }) (ts := ts) (by walk_at "le") hA hmv Ld (.tail _ (rz _ htl)) (.tail _ (rz _ hm)) (fun t ht e => .tail _ (rz _ (hdead t ht e).1)) S hg ?_
      intro lv al h Ld
      walk_at "go"
      rw [← hZ] at Ld
      exact hK lv al o _ Ld
    · rintro J hJ i m h hi ⟨Ld, m1, m2, m3, m4, m5⟩
      have ht := List.getElem_mem hi
      obtain ⟨g1, g2⟩ := thA _ ht
      refine ⟨.ref (ts[i]).loc, _, src_i Ld (.tail _ (.tail _ (.tail _ (rin _ htl)))) (by first | exact get_map (by assumption) | (simp [locs, hi])), rfl, ?_⟩
      walk_at "go"
      refine sp_stays (t := ts[i]) (by walk_at "le") Ld (.tail _ (.tail _ (.tail _ g1))) (.tail _ (.tail _ (.tail _ (rin _ hm)))) (hg _ ht) ?_
      replace hJ := hJ (i + 1)
      rw [take_snoc hi, List.filter_append, List.filter_cons, List.filter_nil] at hJ
      cases e : (mv.lookup (ts[i]).addr).isSome with
      | true =>
        rw [e] at hJ
        walk_at "go"
        refine s_Ap1 (by assumption) (by trivial) ?_
        walk_at "go"
        refine x_append (by assumption) (by trivial) (by have := List.length_filter_le (fun t => (mv.lookup t.addr).isSome) (ts.take i); simp at this ⊢; walk_at "om") ?_
        intro h Ld
        walk_at "go"
        refine ⟨?_, m1, m2, m3, m4, m5⟩
        have e : (roots ++ [p.rl] ++ ((ts.take i).filter (fun t => (mv.lookup t.addr).isSome) ++ [ts[i]]).map (·.sl)).map V.ref = (roots ++ [p.rl] ++ ((ts.take i).filter fun t => (mv.lookup t.addr).isSome).map (·.sl)).map V.ref ++ [.ref (ts[i]).sl] := by simp
        rw [if_pos rfl, e]; exact Ld
      | false =>
        rw [e] at hJ
        walk_at "go"
        rw [if_neg (by simp), List.append_nil]
        exact ⟨Ld, m1, m2, m3, m4, m5⟩
  · rintro J hJ i m h hi ⟨Ld, m1, m2, m3, m4, m5⟩
    refine ⟨.ref roots[i], _, src_i Ld (.tail _ (.tail _ (.tail _ (rin _ hll)))) (by first | exact get_map (by assumption) | (simp [hi])), rfl, ?_⟩
    walk_at "go"
    refine s_Ap1 (by assumption) (by trivial) ?_
    walk_at "go"
    refine x_append (by assumption) (by trivial) (by simp; walk_at "om") ?_
    intro h Ld
    walk_at "go"
    refine ⟨?_, m1, m2, m3, m4, m5⟩
    have e : (roots.take (i + 1)).map V.ref = (roots.take i).map V.ref ++ [V.ref roots[i]] := by
      rw [take_snoc hi, List.map_append]; rfl
    rw [e]; exact Ld
end
end
section
noncomputable def HL (rows : List (Nat × Int)) : List (Nat × O) := rows.map fun r => (r.1, rowO r.2)
theorem HL_app (a b : List (Nat × Int)) : HL (a ++ b) = HL a ++ HL b := List.map_append ..
section
variable {sc : List Int} {n : Nat} {h : H} {K : KE} {R : List (Nat × O)} {hl ml ll : Nat} {p : Hp} {ts A : List Th} {mv : List (Int × Int)}
theorem sp_move_handles (hn : 1 ≤ n) {hh rw_ : Nat} {rows : List (Nat × Int)} (Ld : Led h (HL rows ++ R)) (H1 : (hh, .inst 2 [(18, .ref rw_)]) ∈ R) (H2 : (rw_, .list (rows.map fun r => .ref r.1)) ∈ R) (hm : (ml, .dict (dI mv)) ∈ R) (few : rows.length ≤ 8)
    (hK : ∀ h', Led h' (HL (rows.map fun r => (r.1, mvW mv r.2)) ++ R) → K .none h') : callN prog sc n 32 [.ref hh, .ref ml] K h := by
  have rin : ∀ (X : List (Nat × O)), ∀ x ∈ R, x ∈ X ++ R := fun X x hx => List.mem_append_right _ hx
  refine s_fn (by assumption) rfl rfl ?_
  intro n hn
  walk_at "go"
  refine for_inv (s := .list rw_) rows.length (fun i m h' => Led h' (HL ((rows.take i).map fun r => (r.1, mvW mv r.2)) ++ (HL (rows.drop i) ++ R)) ∧ m 38 = some (.ref ml)) ?_ ?_ ⟨by simpa [HL] using Ld, rfl⟩
  · rintro m h ⟨Ld, m1⟩
    refine ⟨src_e Ld (List.mem_append_right _ (List.mem_append_right _ H2)) (by first | exact List.length_map _ | exact (List.length_map _).trans (List.length_map _) | (simp)), ?_⟩
    walk_at "go"
    rw [List.take_length, List.drop_length] at Ld
    exact hK _ Ld
  · rintro J hJ i m h hi ⟨Ld, m1⟩
    generalize hX : HL ((rows.take i).map fun r => (r.1, mvW mv r.2)) = X at Ld
    rw [List.drop_eq_getElem_cons hi] at Ld
    refine ⟨.ref (rows[i]).1, _, src_i Ld (List.mem_append_right _ (List.mem_append_right _ H2)) (by first | exact get_map (by assumption) | (simp [hi])), rfl, ?_⟩
    have Ld : Led h (((rows[i]).1, .list [.int 3, .int (rows[i]).2, .int 1]) :: (X ++ (HL (rows.drop (i + 1)) ++ R))) := Led.pull (p := ((rows[i]).1, .list [.int 3, .int (rows[i]).2, .int 1])) Ld (Pull.mid X _)
    have hm' : (ml, O.dict (dI mv)) ∈ X ++ (HL (rows.drop (i + 1)) ++ R) := List.mem_append_right _ (List.mem_append_right _ hm)
    have goal : ∀ h, Led h (((rows[i]).1, .list [.int 3, .int (mvW mv (rows[i]).2), .int 1]) :: (X ++ (HL (rows.drop (i + 1)) ++ R))) → Led h (HL ((rows.take (i + 1)).map fun r => (r.1, mvW mv r.2)) ++ (HL (rows.drop (i + 1)) ++ R)) := by
      intro h Ld
      have := Led.push Ld (Pull.mid X _)
      rw [take_snoc hi, List.map_append, HL_app, hX, List.append_assoc]
      exact this
    walk_at "gob"
    refine x_inD (by assumption) (by trivial) ?_
    rw [any_dI, any_some]
    cases e : mv.lookup (rows[i]).2 with
    | none =>
      walk_at "go"
      have : mvW mv (rows[i]).2 = (rows[i]).2 := by unfold mvW; rw [e]; rfl
      rw [this] at goal
      exact ⟨goal _ Ld, m1⟩
    | some g =>
      walk_at "gob"
      refine x_idxD (v := .int g) (by assumption) (by trivial) (by rw [lookup_dI, e]; rfl) ?_
      walk_at "gob"
      refine x_setL (by assumption) (by trivial) (by decide) (by decide) (by simp) ?_
      intro h Ld
      walk_at "go"
      have : mvW mv (rows[i]).2 = g := by unfold mvW; rw [e]; rfl
      rw [this] at goal
      exact ⟨goal _ Ld, m1⟩
noncomputable def yngW (A : List Th) (g : Int) (w : Int) : Bool := match A.find? (fun u => u.addr == w) with
  | some u => decide (u.gen < g)
  | none => false
noncomputable def yng (A : List Th) (t : Th) (s : SV) : Bool := s.refs.any (yngW A t.gen)
theorem atD_find (A : List Th) (w : Int) : (atD A).lookup w = (A.find? (fun u => u.addr == w)).map fun u => .ref u.loc := by
  induction A with
  | nil => rfl
  | cons a r ih =>
    show List.lookup w ((a.addr, V.ref a.loc) :: atD r) = _
    rw [List.lookup_cons, List.find?_cons, ih]
    by_cases q : w = a.addr
    · subst q; simp
    · have h1 : (w == a.addr) = false := by simpa using q
      have h2 : (a.addr == w) = false := by simpa using fun e => q e.symm
      rw [h1, h2]
theorem sp_refers (hn : 2 ≤ n) (Ld : Led h R) (G : GH R hl p A) {t : Th} (ht : t ∈ A) {s : SV} (ok : s.ok) (hK : ∀ h', Led h' R → K (.bool (yng A t s)) h') : callN prog sc n 23 [.ref hl, .ref t.loc, s.v] K h := by
  obtain ⟨ghp, gtl, gal, gth⟩ := id G
  refine s_fn (by assumption) rfl rfl ?_
  intro n hn
  walk_at "go"
  refine sp_refs_in (by walk_at "le") Ld ok ?_
  intro l h Ld
  walk_at "go"
  refine for_inv (s := .list l) s.refs.length (fun i m h' => A4 (h' = h) ((s.refs.take i).any (yngW A t.gen) = false) (m 18 = some (.ref hl)) (m 19 = some (.ref t.loc))) ?_ ?_ ⟨rfl, rfl, rfl, rfl⟩
  · rintro m _ ⟨rfl, e, m1, m2⟩
    refine ⟨src_e Ld (by trivial) (by first | exact List.length_map _ | exact (List.length_map _).trans (List.length_map _) | (simp [vints])), ?_⟩
    rw [List.take_length] at e
    walk_at "go"
    have := hK _ (Led.sub Ld (by trivial))
    unfold yng at this
    rw [e] at this
    exact this
  · rintro J hJ i m _ hi ⟨rfl, e, m1, m2⟩
    refine ⟨.int s.refs[i], _, src_i Ld (by trivial) (by first | exact get_map (by assumption) | (simp [vints, hi])), rfl, ?_⟩
    walk_at "go"
    first | refine s_G1 (by assumption) (by trivial) ?_ | refine s_H1 (by assumption) (by trivial) ?_
    walk_at "go"
    refine x_get (by assumption) (by trivial) ?_
    rw [atD_find]
    cases q : A.find? (fun u => u.addr == s.refs[i]) with
    | none =>
      walk_at "go"
      refine ⟨rfl, ?_, m1, m2⟩
      rw [take_snoc hi, List.any_append, e]
      simp [yngW, q]
    | some u =>
      obtain ⟨u1, u2⟩ := gth u (List.mem_of_find?_eq_some q)
      obtain ⟨t1, t2⟩ := gth t ht
      walk_at "go"
      by_cases r : u.gen < t.gen
      · first | refine s_ltT (r) ?_ | refine s_leT (r) ?_ | refine s_gtT (r) ?_ | refine s_geT (r) ?_
        walk_at "go"
        have := hK _ (Led.sub Ld (by trivial))
        have e2 : yng A t s = true := List.any_eq_true.mpr ⟨s.refs[i], List.getElem_mem hi, by simp [yngW, q, r]⟩
        rw [e2] at this
        exact this
      · first | refine s_ltF (r) ?_ | refine s_leF (r) ?_ | refine s_gtF (r) ?_ | refine s_geF (r) ?_
        walk_at "go"
        refine ⟨rfl, ?_, m1, m2⟩
        rw [take_snoc hi, List.any_append, e]
        simp [yngW, q]
        walk_at "om"
end
end
section
noncomputable def pk (A : List Th) (t : Th) (l : List SV) (k : Nat) : List (Th × Nat) := ((List.range k).filter fun j => match l[j]? with | some s => yng A t s | none => false).map fun j => (t, j)
noncomputable def pairsT (A : List Th) (sv : Th → List SV) (t : Th) : List (Th × Nat) := if 0 < t.gen then pk A t (sv t) (sv t).length else []
noncomputable def pairsA (A : List Th) (sv : Th → List SV) (l : List Th) : List (Th × Nat) := l.flatMap (pairsT A sv)
noncomputable def pv (x : Th × Nat) : V := .tup [.ref x.1.loc, .int x.2]
noncomputable def addK (ks : List Int) (x : Int) : List Int := if x ∈ ks then ks else ks ++ [x]
noncomputable def ksD (ks : List Int) : List (Int × V) := ks.map fun k => (k, V.int 1)
noncomputable def cardOf (b : Int) (x : Th × Nat) : Int := (x.1.addr + 2 + x.2) / 2 ^ b.toNat
noncomputable def cardsK (b : Int) (l : List (Th × Nat)) : List Int := l.foldl (fun ks x => addK ks (cardOf b x)) []
theorem pk_succ (A : List Th) (t : Th) (l : List SV) {k : Nat} (hk : k < l.length) : pk A t l (k + 1) = pk A t l k ++ if yng A t l[k] then [(t, k)] else [] := by
  unfold pk
  rw [List.range_succ, List.filter_append, List.map_append, List.filter_cons, List.filter_nil, List.getElem?_eq_getElem hk]
  dsimp only
  split <;> rfl
theorem pairsA_len (A : List Th) (sv : Th → List SV) (h : ∀ t ∈ A, (sv t).length ≤ 8) : ∀ l : List Th, (∀ t ∈ l, t ∈ A) → (pairsA A sv l).length ≤ 8 * l.length
  | [], _ => Nat.zero_le _
  | t :: r, hl => by
    show (pairsT A sv t ++ pairsA A sv r).length ≤ _
    have h1 := pairsA_len A sv h r fun x hx => hl x (List.mem_cons_of_mem _ hx)
    have h2 : (pairsT A sv t).length ≤ 8 := by
      unfold pairsT pk
      split
      · have := h t (hl t List.mem_cons_self)
        have h3 := List.length_filter_le (fun j => match (sv t)[j]? with | some s => yng A t s | none => false) (List.range (sv t).length)
        rw [List.length_map]
        simp at h3
        walk_at "om"
      · simp
    simp
    walk_at "om"
theorem putD_ks (ks : List Int) (x : Int) : putD (ksD ks) x (.int 1) = ksD (addK ks x) := by
  unfold putD addK
  by_cases h : x ∈ ks
  · have h1 : (ksD ks).any (fun e => decide (e.1 = x)) = true := List.any_eq_true.mpr ⟨(x, .int 1), List.mem_map.mpr ⟨x, h, rfl⟩, by simp⟩
    rw [if_pos h1, if_pos h]
    unfold ksD
    rw [List.map_map]
    refine List.map_congr_left fun y _ => ?_
    simp only [Function.comp]
    split
    · rename_i e; rfl
    · rfl
  · have h1 : (ksD ks).any (fun e => decide (e.1 = x)) = false := by
      rw [List.any_eq_false]
      intro e he
      obtain ⟨y, hy, rfl⟩ := List.mem_map.mp he
      simp
      rintro rfl; exact h hy
    rw [if_neg (by rw [h1]; simp), if_neg h]
    simp [ksD]
theorem addK_len (ks : List Int) (x : Int) : (addK ks x).length ≤ ks.length + 1 := by
  unfold addK; split <;> simp
theorem cardsK_len (b : Int) : ∀ l : List (Th × Nat), (cardsK b l).length ≤ l.length := by
  refine snoc_ind (by simp [cardsK]) ?_
  intro l x ih
  have : cardsK b (l ++ [x]) = addK (cardsK b l) (cardOf b x) := by unfold cardsK; rw [List.foldl_append]; rfl
  rw [this]
  have := addK_len (cardsK b l) (cardOf b x)
  simp
  walk_at "om"
section
variable {sc : List Int} {n : Nat} {h : H} {K : KE} {R : List (Nat × O)} {hl : Nat} {p : Hp} {A : List Th} {sv : Th → List SV}
theorem sp_slot_word (hn : 1 ≤ n) (Ld : Led h R) {t : Th} (ht : (t.loc, thO t) ∈ R) {k : Int} (hK : K (.int (t.addr + 2 + k)) h) : callN prog sc n 11 [.ref t.loc, .int k] K h := by
  refine s_fn (by assumption) rfl rfl ?_
  intro n hn
  walk_at "go"
  exact hK
theorem sp_card_number (hn : 1 ≤ n) (Ld : Led h R) (hp : (hl, hpO p) ∈ R) (b0 : 0 ≤ p.bits) (b1 : p.bits < 64) {w : Int} (hK : K (.int (w / 2 ^ p.bits.toNat)) h) : callN prog sc n 13 [.ref hl, .int w] K h := by
  refine s_fn (by assumption) rfl rfl ?_
  intro n hn
  walk_at "go"
  exact ⟨b0, b1, hK⟩
theorem sp_mark_card (hn : 2 ≤ n) {ks : List Int} (Ld : Led h ((p.cl, .dict (ksD ks)) :: R)) (hp : (hl, hpO p) ∈ R) (b0 : 0 ≤ p.bits) (b1 : p.bits < 64) (few : ks.length ≤ 1000) {w : Int} (hK : ∀ h', Led h' ((p.cl, .dict (ksD (addK ks (w / 2 ^ p.bits.toNat)))) :: R) → K .none h') : callN prog sc n 22 [.ref hl, .int w] K h := by
  refine s_fn (by assumption) rfl rfl ?_
  intro n hn
  walk_at "go"
  refine sp_card_number (p := p) (by walk_at "le") Ld (.tail _ hp) b0 b1 ?_
  walk_at "go"
  refine x_setD (by assumption) (by trivial) (by simp [ksD]; walk_at "om") ?_
  intro h Ld
  rw [putD_ks] at Ld
  walk_at "go"
  exact hK _ Ld
theorem sp_younger (hn : 3 ≤ n) (Ld : Led h R) (G : GH R hl p A) (few : A.length ≤ 8) (hs : ∀ t ∈ A, t.slots = svs (sv t)) (ok : ∀ t ∈ A, ∀ s ∈ sv t, s.ok) (few2 : ∀ t ∈ A, (sv t).length ≤ 8) (hK : ∀ l h', Led h' ((l, .list ((pairsA A sv A).map pv)) :: R) → K (.ref l) h') : callN prog sc n 24 [.ref hl] K h := by
  obtain ⟨ghp, gtl, gal, gth⟩ := id G
  refine s_fn (by assumption) rfl rfl ?_
  intro n hn
  walk_at "go"
  refine x_new (by assumption) ?_
  intro o h Ld
  walk_at "go"
  refine for_inv (s := .list p.tl) A.length (fun i m h' => A3 (Led h' ((o, .list ((pairsA A sv (A.take i)).map pv)) :: R)) (m 18 = some (.ref hl)) (m 29 = some (.ref o))) ?_ ?_ ⟨Ld, rfl, rfl⟩
  · rintro m h ⟨Ld, m1, m2⟩
    refine ⟨src_e Ld (by trivial) (by first | exact List.length_map _ | exact (List.length_map _).trans (List.length_map _) | (simp [locs])), ?_⟩
    rw [List.take_length] at Ld
    walk_at "go"
    exact hK _ _ Ld
  · rintro J hJ i m h hi ⟨Ld, m1, m2⟩
    have ht := List.getElem_mem hi
    generalize hte : A[i] = t at *
    obtain ⟨g1, g2⟩ := gth t ht
    refine ⟨.ref t.loc, _, src_i Ld (by trivial) (by first | exact get_map (by assumption) | (simp [locs, hi, hte])), rfl, ?_⟩
    have bound := pairsA_len A sv few2 (A.take i) fun x hx => List.mem_of_mem_take hx
    rw [List.length_take] at bound
    have fw := few2 t ht
    have et : pairsA A sv (A.take (i + 1)) = pairsA A sv (A.take i) ++ pairsT A sv t := by
      rw [take_snoc hi, hte]; unfold pairsA; rw [List.flatMap_append]; simp
    walk_at "go"
    by_cases q : 0 < t.gen
    · first | refine s_ltT (q) ?_ | refine s_leT (q) ?_ | refine s_gtT (q) ?_ | refine s_geT (q) ?_
      walk_at "go"
      rw [pairsT, if_pos q] at et
      refine x_lenL (by assumption) (by trivial) (by rw [hs t ht]; simp [svs]; walk_at "om") ?_
      have elen : t.slots.length = (sv t).length := by rw [hs t ht]; simp [svs]
      walk_at "go"
      refine ⟨by walk_at "i", by walk_at "j", ?_⟩
      refine for_inv t.slots.length (fun k m h' => A4 (Led h' ((o, .list ((pairsA A sv (A.take i) ++ pk A t (sv t) k).map pv)) :: R)) (m 18 = some (.ref hl)) (m 29 = some (.ref o)) (m 19 = some (.ref t.loc))) ?_ ?_ ⟨by simpa [pk] using Ld, m1, m2, rfl⟩
      · rintro m h ⟨Ld, m1, m2, m3⟩
        refine ⟨src_range_end, ?_⟩
        rw [elen] at Ld
        walk_at "go"
        rw [et]
        exact ⟨Ld, m1, m2⟩
      · rintro J hJ k m h hk ⟨Ld, m1, m2, m3⟩
        have hk2 : k < (sv t).length := by walk_at "om"
        refine ⟨.int k, _, src_range_in hk, rfl, ?_⟩
        walk_at "go"
        refine x_idxL (v := ((sv t)[k]).v) (by assumption) (by trivial) (by walk_at "i") (by walk_at "j") (by rw [hs t ht]; simp [svs, hk2]) ?_
        walk_at "go"
        refine sp_refers (by walk_at "le") Ld (G.mono fun x hx => .tail _ hx) ht (ok t ht _ (List.getElem_mem hk2)) ?_
        intro h Ld
        have ep := pk_succ A t (sv t) hk2
        cases e : yng A t (sv t)[k] with
        | true =>
          rw [e] at ep
          walk_at "go"
          refine s_Ap1 (by assumption) (by trivial) ?_
          walk_at "go"
          have pl : (pk A t (sv t) k).length ≤ k := by
            unfold pk
            have h3 := List.length_filter_le (fun j => match (sv t)[j]? with | some s => yng A t s | none => false) (List.range k)
            simp at h3 ⊢
            exact h3
          refine x_append (by assumption) (by trivial) (by simp; walk_at "om") ?_
          intro h Ld
          walk_at "go"
          refine ⟨?_, m1, m2, m3⟩
          have e3 : (pairsA A sv (A.take i) ++ pk A t (sv t) (k + 1)).map pv = (pairsA A sv (A.take i) ++ pk A t (sv t) k).map pv ++ [V.tup [.ref t.loc, .int k]] := by
            rw [ep, if_pos rfl, ← List.append_assoc, List.map_append]; rfl
          rw [e3]; exact Ld
        | false =>
          rw [e, if_neg (by simp), List.append_nil] at ep
          walk_at "go"
          rw [ep]
          exact ⟨Ld, m1, m2, m3⟩
    · first | refine s_ltF (q) ?_ | refine s_leF (q) ?_ | refine s_gtF (q) ?_ | refine s_geF (q) ?_
      walk_at "go"
      rw [et, pairsT, if_neg q, List.append_nil]
      exact ⟨Ld, m1, m2⟩
end
end
section
theorem pairsA_mem {A : List Th} {sv : Th → List SV} {x : Th × Nat} : ∀ {l : List Th}, x ∈ pairsA A sv l → x.1 ∈ l := by
  intro l h
  unfold pairsA at h
  obtain ⟨t, ht, hx⟩ := List.mem_flatMap.mp h
  unfold pairsT pk at hx
  split at hx
  · obtain ⟨j, _, rfl⟩ := List.mem_map.mp hx
    exact ht
  · cases hx
theorem cardsK_snoc (b : Int) (l : List (Th × Nat)) (x : Th × Nat) : cardsK b (l ++ [x]) = addK (cardsK b l) (cardOf b x) := by unfold cardsK; rw [List.foldl_append]; rfl
noncomputable def noteP (p : Hp) : Hp := { p with fresh := 0, limit := if p.limit < 2 * (p.top - 16) then 2 * (p.top - 16) else p.limit }
section
variable {sc : List Int} {n : Nat} {h : H} {K : KE} {R : List (Nat × O)} {hl : Nat} {p : Hp} {A : List Th} {sv : Th → List SV}
theorem sp_renew (hn : 4 ≤ n) (Ld : Led h ((hl, hpO p) :: R)) (G : GT R p A) (b0 : 0 ≤ p.bits) (b1 : p.bits < 64) (few : A.length ≤ 8) (hs : ∀ t ∈ A, t.slots = svs (sv t)) (ok : ∀ t ∈ A, ∀ s ∈ sv t, s.ok) (few2 : ∀ t ∈ A, (sv t).length ≤ 8)
    (hK : ∀ cl h', Led h' ((cl, .dict (ksD (cardsK p.bits (pairsA A sv A)))) :: (hl, hpO { p with cl := cl }) :: R) → K .none h') : callN prog sc n 25 [.ref hl] K h := by
  refine s_fn (by assumption) rfl rfl ?_
  intro n hn
  walk_at "go"
  refine x_new (by assumption) ?_
  intro cl h Ld
  walk_at "go"
  walk_at "setA"
  intro h Ld
  walk_at "go"
  have Ld : Led h ((cl, .dict (ksD [])) :: (hl, hpO { p with cl := cl }) :: R) := Ld
  refine sp_younger (p := { p with cl := cl }) (by walk_at "le") Ld (GT.gh (p := { p with cl := cl }) ⟨.tail _ (.tail _ G.tl), .tail _ (.tail _ G.al), fun t ht => ⟨.tail _ (.tail _ (G.th t ht).1), .tail _ (.tail _ (G.th t ht).2)⟩⟩ (by trivial)) few hs ok few2 ?_
  intro l h Ld
  walk_at "go"
  have plen := pairsA_len A sv few2 A fun x hx => hx
  have pmem : ∀ x ∈ pairsA A sv A, x.1 ∈ A := fun x hx => pairsA_mem hx
  generalize pairsA A sv A = P at *
  refine for_inv (s := .list l) P.length (fun i m h' => Led h' ((cl, .dict (ksD (cardsK p.bits (P.take i)))) :: (l, .list (P.map pv)) :: (hl, hpO { p with cl := cl }) :: R) ∧ m 18 = some (.ref hl)) ?_ ?_ ⟨Led.pull (p := (cl, .dict (ksD []))) Ld (by trivial), rfl⟩
  · rintro m h ⟨Ld, m1⟩
    refine ⟨src_e Ld (by trivial) (by first | exact List.length_map _ | exact (List.length_map _).trans (List.length_map _) | (simp)), ?_⟩
    rw [List.take_length] at Ld
    walk_at "go"
    exact hK _ _ (Led.sub Ld (by trivial))
  · rintro J hJ i m h hi ⟨Ld, m1⟩
    have hx := pmem _ (List.getElem_mem hi)
    obtain ⟨g1, g2⟩ := G.th _ hx
    refine ⟨pv P[i], _, src_i Ld (by trivial) (by first | exact get_map (by assumption) | (simp [hi])), rfl, ?_⟩
    walk_at "go"
    refine sp_slot_word (t := P[i].1) (by walk_at "le") Ld (by trivial) ?_
    walk_at "go"
    have cl2 := cardsK_len p.bits (P.take i)
    rw [List.length_take] at cl2
    refine sp_mark_card (p := { p with cl := cl }) (by walk_at "le") Ld (by trivial) b0 b1 (by walk_at "om") ?_
    intro h Ld
    walk_at "go"
    rw [take_snoc hi, cardsK_snoc]
    exact ⟨Ld, m1⟩
theorem sp_used (hn : 1 ≤ n) (Ld : Led h R) (hp : (hl, hpO p) ∈ R) (hK : K (.int (p.top - 16)) h) : callN prog sc n 8 [.ref hl] K h := by
  refine s_fn (by assumption) rfl rfl ?_
  intro n hn
  walk_at "go"
  exact hK
theorem sp_note (hn : 2 ≤ n) (Ld : Led h ((hl, hpO p) :: R)) (t0 : 16 ≤ p.top) (t1 : p.top < 100000) (hK : ∀ h', Led h' ((hl, hpO (noteP p)) :: R) → K .none h') : callN prog sc n 9 [.ref hl, .int 2] K h := by
  have sm2 : small 2 := by unfold small; walk_at "om"
  have sm : small (p.top - 16) := by unfold small; walk_at "om"
  refine s_fn (by assumption) rfl rfl ?_
  intro n hn
  walk_at "go"
  walk_at "setA"
  intro h Ld
  walk_at "go"
  have Ld : Led h ((hl, hpO { p with fresh := 0 }) :: R) := Ld
  refine sp_used (p := { p with fresh := 0 }) (by walk_at "le") Ld (by trivial) ?_
  walk_at "go"
  refine ⟨sm2, sm, ?_⟩
  walk_at "go"
  unfold noteP at hK
  by_cases q : p.limit < 2 * (p.top - 16)
  · rw [if_pos q] at hK
    first | refine s_ltT (q) ?_ | refine s_leT (q) ?_ | refine s_gtT (q) ?_ | refine s_geT (q) ?_
    walk_at "go"
    refine sp_used (p := { p with fresh := 0 }) (by walk_at "le") Ld (by trivial) ?_
    walk_at "go"
    refine ⟨sm2, sm, ?_⟩
    walk_at "go"
    walk_at "setA"
    intro h Ld
    walk_at "go"
    exact hK _ Ld
  · rw [if_neg q] at hK
    first | refine s_ltF (q) ?_ | refine s_leF (q) ?_ | refine s_gtF (q) ?_ | refine s_geF (q) ?_
    walk_at "go"
    exact hK _ Ld
end
end
section
noncomputable def HB : HS → List (Nat × O)
  | none => []
  | some (_, _, rows) => HL rows
noncomputable def mvH (mv : List (Int × Int)) : HS → HS
  | none => none
  | some (a, b, rows) => some (a, b, rows.map fun r => (r.1, mvW mv r.2))
noncomputable def fin (ts : List Th) (c : Nat → List SV) (mv : List (Int × Int)) (t : Th) : Th := { t with addr := mvW mv t.addr, gen := agen t.gen, slots := svs ((c t.sl).map (mvS ts mv)) }
theorem Led.swap {h : H} (A B C : List (Nat × O)) (Ld : Led h (A ++ (B ++ C))) : Led h (B ++ (A ++ C)) := Ld.perm (List.perm_append_comm_assoc _ _ _)
theorem Led.re1 {h : H} {a1 a2 a3 F1 : Nat × O} {HB TA VB XD : List (Nat × O)} (Ld : Led h (HB ++ (a1 :: a2 :: a3 :: (TA ++ (F1 :: (VB ++ XD)))))) : Led h (a3 :: a1 :: a2 :: (TA ++ (F1 :: (VB ++ (HB ++ XD))))) := by
  have h1 := Led.swap HB (a1 :: a2 :: a3 :: (TA ++ (F1 :: VB))) XD (by simpa using Ld)
  have h2 : Led h (a1 :: a2 :: a3 :: (TA ++ (F1 :: (VB ++ (HB ++ XD))))) := by simpa using h1
  exact h2.pull (.tail _ (.tail _ (.head _)))
theorem st_vals {A : List Th} (hs : ∀ t ∈ A, 0 ≤ t.size) : ∀ l : List Th, (∀ t ∈ l, t ∈ A) → 16 ≤ (stA l).2 ∧ ∀ q ∈ (stA l).1, 16 ≤ q.2 := by
  refine snoc_ind (fun _ => ⟨by simp [stA, st], by simp [stA, st]⟩) ?_
  intro l t ih h
  obtain ⟨h1, h2⟩ := ih fun x hx => h x (by simp [hx])
  have := hs t (h t (by simp))
  rw [stA_snoc]
  refine ⟨by show 16 ≤ _ + _; walk_at "om", fun q hq => ?_⟩
  rcases List.mem_append.mp hq with r | r
  · exact h2 q r
  · rw [List.mem_singleton.mp r]; exact h1
theorem lookup_mem' {l : List (Int × Int)} {k v : Int} (h : l.lookup k = some v) : (k, v) ∈ l := by
  induction l with
  | nil => cases h
  | cons p r ih =>
    obtain ⟨a, b⟩ := p
    rw [List.lookup_cons] at h
    split at h
    · rename_i e
      cases h; rw [beq_iff_eq.mp e]; exact List.mem_cons_self
    · exact List.mem_cons_of_mem _ (ih h)
theorem mvW_ne {mv : List (Int × Int)} (h : ∀ q ∈ mv, 16 ≤ q.2) {w : Int} (hw : w ≠ 0) : mvW mv w ≠ 0 := by
  unfold mvW
  cases e : mv.lookup w with
  | none => exact hw
  | some g =>
    have := h _ (lookup_mem' e)
    show g ≠ 0
    walk_at "om"
theorem mvS_ok {ts : List Th} {mv : List (Int × Int)} (h : ∀ q ∈ mv, 16 ≤ q.2) {s : SV} (ok : s.ok) : (mvS ts mv s).ok := by
  cases s with
  | s5 w c => exact mvW_ne h ok
  | s6 w c => exact ⟨mvW_ne h ok.1, mvW_ne h ok.2⟩
  | pn k a b c => exact ok
  | _ => trivial
theorem aliveB_iff {ts M : List Th} (S : Sorted ts) (mo : MOk ts M) {t : Th} (ht : t ∈ ts) : aliveB M t = true ↔ t ∈ M := by
  unfold aliveB
  rw [List.any_eq_true]
  constructor
  · rintro ⟨u, hu, e⟩
    rw [← S.inj (mo.sub u hu) ht (beq_iff_eq.mp e)]; exact hu
  · intro h; exact ⟨t, h, by simp⟩
theorem filter_mv {ts : List Th} (S : Sorted ts) (al : Th → Bool) : ∀ t ∈ ts, ((st al ts).1.lookup t.addr).isSome = al t := by
  intro t ht
  obtain ⟨i, hi, rfl⟩ := List.getElem_of_mem ht
  have := st_lookup S al ts.length (Nat.le_refl _) i hi hi
  rw [List.take_length] at this
  rw [this]
  cases al ts[i] <;> rfl
noncomputable def RR (roots : List Nat) (c : Nat → List SV) (p : Hp) (hs : HS) : List (Nat × List SV) := roots.map (fun l => (l, c l)) ++ [(p.rl, c p.rl), (0, hsv hs)]
noncomputable def finP (p : Hp) (A : List Th) (lv al fl cl : Nat) : Hp := noteP { p with tl := lv, al := al, fl := fl, cl := cl, top := (stA A).2, moved := p.moved + cn A }
structure CIn (R : List (Nat × O)) (hl ll : Nat) (p : Hp) (ts : List Th) (c : Nat → List SV) (ls0 roots : List Nat) (hs : HS) : Prop where
  tl : (p.tl, .list (locs ts)) ∈ R
  al : (p.al, .dict (atD ts)) ∈ R
  fl : (p.fl, .list []) ∈ R
  ll : (ll, .list (roots.map .ref)) ∈ R
  slots : ∀ t ∈ ts, t.slots = svs (c t.sl)
  rts : ∀ l ∈ roots, l ∈ ls0
  ready : p.rl ∈ ls0
  all : ∀ l ∈ ls0, l ∈ roots ∨ l = p.rl
  H : HAt (HB hs ++ R) hs
  H2 : ∀ hh rw_ rows, hs = some (hh, rw_, rows) → (hh, .inst 2 [(18, .ref rw_)]) ∈ R ∧ (rw_, .list (rows.map fun r => .ref r.1)) ∈ R ∧ rows.length ≤ 8
  S : Sorted ts
  gen : ∀ t ∈ ts, t.gen ≤ 2
  ok1 : ∀ t ∈ ts, ∀ s ∈ c t.sl, WordsOk ts s ∧ MvOk ts s
  ok2 : ∀ l ∈ ls0, ∀ s ∈ c l, WordsOk ts s ∧ MvOk ts s
  ok3 : ∀ s ∈ hsv hs, WordsOk ts s
  few1 : ∀ t ∈ ts, (c t.sl).length ≤ 8
  few2 : ∀ l ∈ ls0, (c l).length ≤ 100
  few3 : roots.length ≤ 50
  b0 : 0 ≤ p.bits
  b1 : p.bits < 64
section
variable {sc : List Int} {n : Nat} {h : H} {K : KE} {R : List (Nat × O)} {hl ll : Nat} {p : Hp} {ts : List Th} {c : Nat → List SV} {ls0 roots : List Nat} {hs : HS}
theorem sp_collect (hn : 10 ≤ n) (I : CIn R hl ll p ts c ls0 roots hs) (Ld : Led h ((hl, hpO p) :: (TL ts ++ (VL ls0 (fun l => svs (c l)) ++ (VL (ts.map (·.sl)) (fun l => svs (c l)) ++ (HB hs ++ R))))))
    (hK : ∀ (al : Th → Bool) (mv : List (Int × Int)) (A : List Th) lv at_ fl cl h', (∀ t ∈ ts, al t = true ↔ Reach ts (fun t => c t.sl) (RR roots c p hs) t) → A = ts.filter al → mv = (stA A).1 → 
      Led h' ((lv, .list (locs A)) :: (at_, .dict (atD (A.map (fin ts c mv)))) :: (cl, .dict (ksD (cardsK p.bits (pairsA (A.map (fin ts c mv)) (fun t => (c t.sl).map (mvS ts mv)) (A.map (fin ts c mv)))))) :: (hl, hpO (finP p A lv at_ fl cl)) ::
        (TL (A.map (fin ts c mv)) ++ (VL (ls0 ++ A.map (·.sl)) (fun l => svs ((c l).map (mvS ts mv))) ++ (HB (mvH mv hs) ++ R)))) → K (.int ((ts.length : Int) - (A.length : Int))) h') :
    callN prog sc n 49 [.ref hl, .ref ll, hv hs, .int 2] K h := by
  have few := I.S.few
  generalize hL1 : TL ts ++ (VL ls0 (fun l => svs (c l)) ++ (VL (ts.map (·.sl)) (fun l => svs (c l)) ++ (HB hs ++ R))) = L1 at Ld
  have rin : ∀ x ∈ R, x ∈ L1 := fun x hx => by rw [← hL1]; simp [hx]
  have hin : ∀ x ∈ HB hs ++ R, x ∈ L1 := fun x hx => by rw [← hL1]; exact List.mem_append_right _ (List.mem_append_right _ (List.mem_append_right _ hx))
  have vin : ∀ l ∈ ls0, (l, O.list (svs (c l))) ∈ L1 := fun l hl => by rw [← hL1]; exact List.mem_append_right _ (List.mem_append_left _ (VL_mem hl))
  have tin : ∀ t ∈ ts, (t.loc, thO t) ∈ L1 ∧ (t.sl, .list t.slots) ∈ L1 := fun t ht => by
    rw [← hL1]
    refine ⟨List.mem_append_left _ (List.mem_map.mpr ⟨t, ht, rfl⟩), List.mem_append_right _ (List.mem_append_right _ (List.mem_append_left _ ?_))⟩
    rw [I.slots t ht]
    exact VL_mem (cont := fun l => svs (c l)) (List.mem_map.mpr ⟨t, ht, rfl⟩)
  have so : SlotsOk ts (fun t => c t.sl) := ⟨I.slots, fun t ht s hs => (I.ok1 t ht s hs).1, fun t ht => by rw [I.slots t ht]; simpa [svs] using I.few1 t ht⟩
  have G1 : GT L1 p ts := ⟨rin _ I.tl, rin _ I.al, tin⟩
  refine s_fn (by assumption) rfl rfl ?_
  intro n hn
  walk_at "go"
  refine x_lenL (by assumption) (.tail _ (rin _ I.tl)) (by simp [locs]; walk_at "om") ?_
  walk_at "go"
  refine sp_find_living (sv := fun t => c t.sl) (roots := roots.map fun l => (l, c l)) (ready := c p.rl) (by walk_at "le") Ld G1 I.S I.gen so ⟨by rw [List.map_map]; exact rin _ I.ll, fun r hr => ?_, fun r hr => ?_, by simp; have := I.few3; walk_at "om"⟩ (I.H.mono hin) (vin _ I.ready) (fun s hs => (I.ok2 _ I.ready s hs).1) I.ok3 (by simp; exact I.few3) (rin _ I.fl) ?_
  · obtain ⟨l, hl, rfl⟩ := List.mem_map.mp hr; exact vin l (I.rts l hl)
  · obtain ⟨l, hl, rfl⟩ := List.mem_map.mp hr; exact fun s hs => (I.ok2 l (I.rts l hl) s hs).1
  intro M ml f h mo hM Ld
  walk_at "go"
  have Gp : GH ((ml, O.dict (marksD M)) :: (f, O.list []) :: (hl, hpO { p with fl := f }) :: L1) hl { p with fl := f } ts := ⟨by trivial, .tail _ (.tail _ (.tail _ G1.tl)), .tail _ (.tail _ (.tail _ G1.al)), fun t ht => ⟨.tail _ (.tail _ (.tail _ (tin t ht).1)), .tail _ (.tail _ (.tail _ (tin t ht).2))⟩⟩
  refine sp_plan (p := { p with fl := f }) (M := M) (by walk_at "le") Ld Gp I.S I.gen (.head _) ?_
  intro mvl h Ld
  walk_at "go"
  generalize hal0 : aliveB M = al at *
  have hal : ∀ t ∈ ts, al t = true ↔ Reach ts (fun t => c t.sl) (RR roots c p hs) t := fun t ht => by
    rw [← hal0, aliveB_iff I.S mo ht, hM t]; rfl
  generalize hmv : (st al ts).1 = mv at *
  generalize hAe : ts.filter al = A
  generalize hDe : (ts.filter fun t => !al t) = D
  have hmvA : mv = (stA A).1 := by rw [← hmv, ← hAe, st_filter]
  have hAf : A = ts.filter fun t => (mv.lookup t.addr).isSome := by
    rw [← hAe]
    exact List.filter_congr fun t ht => by rw [← hmv]; exact (filter_mv I.S al t ht).symm
  have Asub : ∀ t ∈ A, t ∈ ts := fun t ht => by rw [← hAe] at ht; exact (List.mem_filter.mp ht).1
  have fewA : A.length ≤ 8 := by rw [← hAe]; exact Nat.le_trans (List.length_filter_le _ _) few
  have vals : ∀ q ∈ mv, 16 ≤ q.2 := by
    rw [hmvA]
    exact (st_vals (A := A) (fun t ht => by have := I.S.pos t (Asub t ht); walk_at "om") A fun x hx => hx).2
  have top0 : 16 ≤ (stA A).2 := (st_vals (A := A) (fun t ht => by have := I.S.pos t (Asub t ht); walk_at "om") A fun x hx => hx).1
  have top1 : (stA A).2 ≤ 16 + 10 * (A.length : Int) := by
    have : ∀ l : List Th, (∀ t ∈ l, t ∈ A) → (stA l).2 ≤ 16 + 10 * (l.length : Int) := by
      refine snoc_ind (fun _ => by simp [stA, st]) ?_
      intro l t ih hh
      have h1 := ih fun x hx => hh x (by simp [hx])
      have h2 := I.S.pos t (Asub t (hh t (by simp)))
      rw [stA_snoc]
      show _ + _ ≤ _
      simp
      walk_at "om"
    exact this A fun x hx => hx
  have pT : (TL ts).Perm (TL A ++ TL D) := by
    rw [← TL_app, ← hAe, ← hDe]
    exact ((List.filter_append_perm al ts).symm).map _
  have pV : (VL (ts.map (·.sl)) (fun l => svs (c l))).Perm (VL (A.map (·.sl)) (fun l => svs (c l)) ++ VL (D.map (·.sl)) (fun l => svs (c l))) := by
    unfold VL
    rw [← List.map_append, ← List.map_append, ← hAe, ← hDe]
    exact (((List.filter_append_perm al ts).symm).map _).map _
  generalize hX : [(mvl, O.dict (dI mv)), (ml, O.dict (marksD M)), (f, O.list [])] = X
  have Ld : Led h ((hl, hpO { p with fl := f }) :: (TL A ++ (VL (ls0 ++ A.map (·.sl)) (fun l => svs (c l)) ++ (X ++ (TL D ++ (VL (D.map (·.sl)) (fun l => svs (c l)) ++ (HB hs ++ R))))))) := by
    rw [← hL1] at Ld
    have e0 : (mvl, O.dict (dI mv)) :: (ml, O.dict (marksD M)) :: (f, O.list []) :: (hl, hpO { p with fl := f }) :: (TL ts ++ (VL ls0 (fun l => svs (c l)) ++ (VL (ts.map (·.sl)) (fun l => svs (c l)) ++ (HB hs ++ R)))) = (X ++ [(hl, hpO { p with fl := f })]) ++ (TL ts ++ (VL ls0 (fun l => svs (c l)) ++ (VL (ts.map (·.sl)) (fun l => svs (c l)) ++ (HB hs ++ R)))) := by rw [← hX]; rfl
    rw [e0] at Ld
    have Ld := Ld.perm (List.Perm.append_left _ (List.Perm.append pT (List.Perm.append_left _ (List.Perm.append_right _ pV))))
    have eVL : VL (ls0 ++ A.map (·.sl)) (fun l => svs (c l)) = VL ls0 (fun l => svs (c l)) ++ VL (A.map (·.sl)) (fun l => svs (c l)) := List.map_append ..
    rw [eVL]
    generalize VL ls0 (fun l => svs (c l)) = V0 at *
    generalize VL (A.map (·.sl)) (fun l => svs (c l)) = VA at *
    generalize VL (D.map (·.sl)) (fun l => svs (c l)) = VD at *
    generalize TL A = TA at *
    generalize TL D = TD at *
    generalize HB hs ++ R = Z at *
    generalize (hl, hpO { p with fl := f }) = a at *
    have Ld := Led.swap (X ++ [a] ++ TA ++ TD ++ V0) VA (VD ++ Z) (by simpa [List.append_assoc] using Ld)
    have Ld := Led.swap (VA ++ X ++ [a] ++ TA ++ TD) V0 (VD ++ Z) (by simpa [List.append_assoc] using Ld)
    have Ld := Led.swap (V0 ++ VA ++ X ++ [a]) TA (TD ++ (VD ++ Z)) (by simpa [List.append_assoc] using Ld)
    have Ld := Led.swap (TA ++ V0 ++ VA ++ X) [a] (TD ++ (VD ++ Z)) (by simpa [List.append_assoc] using Ld)
    simpa [List.append_assoc] using Ld
  have r2 : ∀ x ∈ R, x ∈ X ++ (TL D ++ (VL (D.map (·.sl)) (fun l => svs (c l)) ++ (HB hs ++ R))) := fun x hx => by simp [hx]
  refine sp_move_all (p := { p with fl := f }) (ts := ts) (A := A) (mv := mv) (roots := roots) (by walk_at "le") hAf hmvA Ld (r2 _ I.tl) (r2 _ I.al) (by rw [← hX]; exact .head _) (by rw [← hX]; exact .tail _ (.tail _ (.head _))) (r2 _ I.ll) (fun t ht e => ?_) (fun t ht => ⟨List.mem_append_right _ (List.mem_map.mpr ⟨t, ht, rfl⟩), I.slots t (Asub t ht)⟩)
    (fun l hl => List.mem_append_left _ (I.rts l hl)) (List.mem_append_left _ I.ready) (fun l hl => ?_) I.S I.gen (fun l hl s hs => ?_) (fun l hl => ?_) I.few3 ?_
  · have hd : t ∈ D := by
      rw [← hDe]
      refine List.mem_filter.mpr ⟨ht, ?_⟩
      have := filter_mv I.S al t ht
      rw [hmv, e] at this
      rw [← this]; rfl
    refine ⟨List.mem_append_right _ (List.mem_append_left _ (List.mem_map.mpr ⟨t, hd, rfl⟩)), List.mem_append_right _ (List.mem_append_right _ (List.mem_append_left _ ?_))⟩
    rw [I.slots t ht]
    exact VL_mem (cont := fun l => svs (c l)) (List.mem_map.mpr ⟨t, hd, rfl⟩)
  · rcases List.mem_append.mp hl with q | q
    · rcases I.all l q with r | r
      · exact .inl r
      · exact .inr (.inl r)
    · obtain ⟨t, ht, e⟩ := List.mem_map.mp q
      exact .inr (.inr ⟨t, ht, e⟩)
  · rcases List.mem_append.mp hl with q | q
    · exact (I.ok2 l q s hs).2
    · obtain ⟨t, ht, rfl⟩ := List.mem_map.mp q
      exact (I.ok1 t (Asub t ht) s hs).2
  · rcases List.mem_append.mp hl with q | q
    · exact I.few2 l q
    · obtain ⟨t, ht, rfl⟩ := List.mem_map.mp q
      have := I.few1 t (Asub t ht)
      walk_at "om"
  intro lv at_ fl h Ld
  have elocs : locs (A.map (fin ts c mv)) = locs A := by unfold locs; rw [List.map_map]; rfl
  have elocs2 : True = True := rfl
  have eatD : atD (A.map (fin ts c mv)) = atD (A.map (upT mv)) := by unfold atD; rw [List.map_map, List.map_map]; rfl
  have eTL : TL (A.map (fin ts c mv)) = TL (A.map (upT mv)) := by unfold TL; rw [List.map_map, List.map_map]; rfl
  have Ld : Led h (HB hs ++ ((lv, .list (locs A)) :: (at_, .dict (atD (A.map (upT mv)))) :: (hl, hpO { p with tl := lv, al := at_, fl := fl, top := (stA A).2, moved := p.moved + cn A }) :: (TL (A.map (upT mv)) ++ ((fl, .list []) :: (VL (ls0 ++ A.map (·.sl)) (fun l => svs ((c l).map (mvS ts mv))) ++ (X ++ (TL D ++ (VL (D.map (·.sl)) (fun l => svs (c l)) ++ R)))))))) := by
    have := Led.swap ((lv, O.list (locs A)) :: (at_, O.dict (atD (A.map (upT mv)))) :: (hl, hpO { p with tl := lv, al := at_, fl := fl, top := (stA A).2, moved := p.moved + cn A }) :: (TL (A.map (upT mv)) ++ ((fl, O.list []) :: (VL (ls0 ++ A.map (·.sl)) (fun l => svs ((c l).map (mvS ts mv))) ++ (X ++ (TL D ++ VL (D.map (·.sl)) (fun l => svs (c l)))))))) (HB hs) R (by simpa [List.append_assoc] using Ld)
    simpa [List.append_assoc] using this
  match hs, I, Ld, hal, hK with
  | none, I, Ld, hal, hK =>
    have Ld : Led h (HB (mvH mv none) ++ _) := Ld
    walk_at "go"
    have Ld : Led h ((hl, hpO { p with tl := lv, al := at_, fl := fl, top := (stA A).2, moved := p.moved + cn A }) :: ((lv, .list (locs A)) :: (at_, .dict (atD (A.map (upT mv)))) :: (TL (A.map (upT mv)) ++ ((fl, .list []) :: (VL (ls0 ++ A.map (·.sl)) (fun l => svs ((c l).map (mvS ts mv))) ++ (HB (mvH mv none) ++ (X ++ (TL D ++ (VL (D.map (·.sl)) (fun l => svs (c l)) ++ R))))))))) := by
      exact Led.re1 Ld
    refine sp_renew (p := { p with tl := lv, al := at_, fl := fl, top := (stA A).2, moved := p.moved + cn A }) (A := A.map (fin ts c mv)) (sv := fun t => (c t.sl).map (mvS ts mv)) (by walk_at "le") Ld ⟨?_, ?_, ?_⟩ I.b0 I.b1 (by simpa using fewA) ?_ ?_ ?_ ?_
    · rw [elocs]; exact .head _
    · rw [eatD]; exact .tail _ (.head _)
    · intro t ht
      obtain ⟨u, hu, rfl⟩ := List.mem_map.mp ht
      refine ⟨.tail _ (.tail _ (List.mem_append_left _ (List.mem_map.mpr ⟨upT mv u, List.mem_map.mpr ⟨u, hu, rfl⟩, rfl⟩))), .tail _ (.tail _ (List.mem_append_right _ (.tail _ (List.mem_append_left _ ?_))))⟩
      exact VL_mem (cont := fun l => svs ((c l).map (mvS ts mv))) (List.mem_append_right _ (List.mem_map.mpr ⟨u, hu, rfl⟩))
    · intro t ht
      obtain ⟨u, hu, rfl⟩ := List.mem_map.mp ht
      rfl
    · intro t ht s hs
      obtain ⟨u, hu, rfl⟩ := List.mem_map.mp ht
      obtain ⟨s0, hs0, rfl⟩ := List.mem_map.mp hs
      exact mvS_ok vals (I.ok1 u (Asub u hu) s0 hs0).1.1
    · intro t ht
      obtain ⟨u, hu, rfl⟩ := List.mem_map.mp ht
      show ((c u.sl).map (mvS ts mv)).length ≤ 8
      rw [List.length_map]; exact I.few1 u (Asub u hu)
    intro cl h Ld
    walk_at "go"
    have Ld := Led.pull (p := (hl, hpO { p with tl := lv, al := at_, fl := fl, top := (stA A).2, moved := p.moved + cn A, cl := cl })) Ld (.tail _ (.head _))
    refine sp_note (p := { p with tl := lv, al := at_, fl := fl, top := (stA A).2, moved := p.moved + cn A, cl := cl }) (by walk_at "le") Ld top0 (by show (stA A).2 < _; walk_at "om") ?_
    intro h Ld
    walk_at "go"
    refine x_lenL (by assumption) (.tail _ (.tail _ (.head _))) (by simp [locs]; walk_at "om") ?_
    walk_at "go"
    have e9 : (((locs ts).length : Int) - ((locs A).length : Int)) = (ts.length : Int) - (A.length : Int) := by simp [locs]
    rw [e9]
    refine hK al mv A lv at_ fl cl _ hal hAe.symm hmvA ?_
    have eP : hpO (noteP { p with tl := lv, al := at_, fl := fl, top := (stA A).2, moved := p.moved + cn A, cl := cl }) = hpO (finP p A lv at_ fl cl) := rfl
    rw [eP] at Ld
    have Ld := ((Led.pull (p := (cl, .dict (ksD (cardsK p.bits (pairsA (A.map (fin ts c mv)) (fun t => (c t.sl).map (mvS ts mv)) (A.map (fin ts c mv))))))) Ld (.tail _ (.head _))).pull (p := (at_, .dict (atD (A.map (upT mv))))) (.tail _ (.tail _ (.tail _ (.head _))))).pull (p := (lv, .list (locs A))) (.tail _ (.tail _ (.tail _ (.head _))))
    rw [eatD, eTL]
    refine Led.sub Ld ?_
    refine .cons_cons _ (.cons_cons _ (.cons_cons _ (.cons_cons _ (List.Sublist.append (.refl _) (.cons _ (List.Sublist.append (.refl _) (List.Sublist.append (.refl _) ?_)))))))
    exact (List.sublist_append_right _ _).trans ((List.sublist_append_right _ _).trans (List.sublist_append_right X _))
  | some (hh, rw_, rows), I, Ld, hal, hK =>
    obtain ⟨I1, I2, I3⟩ := I.H2 hh rw_ rows rfl
    walk_at "go"
    have r3 : ∀ x, x ∈ R ∨ x ∈ X → x ∈ (lv, O.list (locs A)) :: (at_, O.dict (atD (A.map (upT mv)))) :: (hl, hpO { p with tl := lv, al := at_, fl := fl, top := (stA A).2, moved := p.moved + cn A }) :: (TL (A.map (upT mv)) ++ ((fl, O.list []) :: (VL (ls0 ++ A.map (·.sl)) (fun l => svs ((c l).map (mvS ts mv))) ++ (X ++ (TL D ++ (VL (D.map (·.sl)) (fun l => svs (c l)) ++ R)))))) := fun x hx => by
      rcases hx with hx | hx <;> simp [hx]
    refine sp_move_handles (mv := mv) (by walk_at "le") Ld (r3 _ (.inl I1)) (r3 _ (.inl I2)) (r3 _ (.inr (by rw [← hX]; exact .head _))) I3 ?_
    intro h Ld
    have Ld : Led h (HB (mvH mv (some (hh, rw_, rows))) ++ _) := Ld
    walk_at "go"
    have Ld : Led h ((hl, hpO { p with tl := lv, al := at_, fl := fl, top := (stA A).2, moved := p.moved + cn A }) :: ((lv, .list (locs A)) :: (at_, .dict (atD (A.map (upT mv)))) :: (TL (A.map (upT mv)) ++ ((fl, .list []) :: (VL (ls0 ++ A.map (·.sl)) (fun l => svs ((c l).map (mvS ts mv))) ++ (HB (mvH mv (some (hh, rw_, rows))) ++ (X ++ (TL D ++ (VL (D.map (·.sl)) (fun l => svs (c l)) ++ R))))))))) := by
      exact Led.re1 Ld
    refine sp_renew (p := { p with tl := lv, al := at_, fl := fl, top := (stA A).2, moved := p.moved + cn A }) (A := A.map (fin ts c mv)) (sv := fun t => (c t.sl).map (mvS ts mv)) (by walk_at "le") Ld ⟨?_, ?_, ?_⟩ I.b0 I.b1 (by simpa using fewA) ?_ ?_ ?_ ?_
    · rw [elocs]; exact .head _
    · rw [eatD]; exact .tail _ (.head _)
    · intro t ht
      obtain ⟨u, hu, rfl⟩ := List.mem_map.mp ht
      refine ⟨.tail _ (.tail _ (List.mem_append_left _ (List.mem_map.mpr ⟨upT mv u, List.mem_map.mpr ⟨u, hu, rfl⟩, rfl⟩))), .tail _ (.tail _ (List.mem_append_right _ (.tail _ (List.mem_append_left _ ?_))))⟩
      exact VL_mem (cont := fun l => svs ((c l).map (mvS ts mv))) (List.mem_append_right _ (List.mem_map.mpr ⟨u, hu, rfl⟩))
    · intro t ht
      obtain ⟨u, hu, rfl⟩ := List.mem_map.mp ht
      rfl
    · intro t ht s hs
      obtain ⟨u, hu, rfl⟩ := List.mem_map.mp ht
      obtain ⟨s0, hs0, rfl⟩ := List.mem_map.mp hs
      exact mvS_ok vals (I.ok1 u (Asub u hu) s0 hs0).1.1
    · intro t ht
      obtain ⟨u, hu, rfl⟩ := List.mem_map.mp ht
      show ((c u.sl).map (mvS ts mv)).length ≤ 8
      rw [List.length_map]; exact I.few1 u (Asub u hu)
    intro cl h Ld
    walk_at "go"
    have Ld := Led.pull (p := (hl, hpO { p with tl := lv, al := at_, fl := fl, top := (stA A).2, moved := p.moved + cn A, cl := cl })) Ld (.tail _ (.head _))
    refine sp_note (p := { p with tl := lv, al := at_, fl := fl, top := (stA A).2, moved := p.moved + cn A, cl := cl }) (by walk_at "le") Ld top0 (by show (stA A).2 < _; walk_at "om") ?_
    intro h Ld
    walk_at "go"
    refine x_lenL (by assumption) (.tail _ (.tail _ (.head _))) (by simp [locs]; walk_at "om") ?_
    walk_at "go"
    have e9 : (((locs ts).length : Int) - ((locs A).length : Int)) = (ts.length : Int) - (A.length : Int) := by simp [locs]
    rw [e9]
    refine hK al mv A lv at_ fl cl _ hal hAe.symm hmvA ?_
    have eP : hpO (noteP { p with tl := lv, al := at_, fl := fl, top := (stA A).2, moved := p.moved + cn A, cl := cl }) = hpO (finP p A lv at_ fl cl) := rfl
    rw [eP] at Ld
    have Ld := ((Led.pull (p := (cl, .dict (ksD (cardsK p.bits (pairsA (A.map (fin ts c mv)) (fun t => (c t.sl).map (mvS ts mv)) (A.map (fin ts c mv))))))) Ld (.tail _ (.head _))).pull (p := (at_, .dict (atD (A.map (upT mv))))) (.tail _ (.tail _ (.tail _ (.head _))))).pull (p := (lv, .list (locs A))) (.tail _ (.tail _ (.tail _ (.head _))))
    rw [eatD, eTL]
    refine Led.sub Ld ?_
    refine .cons_cons _ (.cons_cons _ (.cons_cons _ (.cons_cons _ (List.Sublist.append (.refl _) (.cons _ (List.Sublist.append (.refl _) (List.Sublist.append (.refl _) ?_)))))))
    exact (List.sublist_append_right _ _).trans ((List.sublist_append_right _ _).trans (List.sublist_append_right X _))
end
end
section
section
variable {sc : List Int} {n : Nat} {h : H} {K : KE} {R : List (Nat × O)} {hl : Nat} {p : Hp}
noncomputable def newP (tl al cl fl rl : Nat) (limit bits : Int) : Hp := { tl := tl, al := al, cl := cl, fl := fl, rl := rl, top := 16, limit := limit, bits := bits, fresh := 0, young := limit / 4 + 1, moved := 0, made := 0 }
theorem sp_Heap_init (hn : 1 ≤ n) {limit bits : Int} (Ld : Led h ((hl, .inst 1 []) :: R))
    (hK : ∀ tl al cl fl rl h', Led h' ((rl, .list []) :: (fl, .list []) :: (cl, .dict []) :: (al, .dict []) :: (tl, .list []) :: (hl, hpO (newP tl al cl fl rl limit bits)) :: R) → K .none h') : callN prog sc n 6 [.ref hl, .int limit, .int bits] K h := by
  refine s_fn (by assumption) rfl rfl ?_
  intro n hn
  walk_at "go"
  refine x_new (by assumption) ?_
  intro tl h Ld
  walk_at "go"
  walk_at "setA"
  intro h Ld
  walk_at "go"
  refine x_new (by assumption) ?_
  intro al h Ld
  walk_at "go"
  walk_at "setA"
  intro h Ld
  walk_at "go"
  walk_at "setA"
  intro h Ld
  walk_at "go"
  walk_at "setA"
  intro h Ld
  walk_at "go"
  refine x_new (by assumption) ?_
  intro cl h Ld
  walk_at "go"
  walk_at "setA"
  intro h Ld
  walk_at "go"
  walk_at "setA"
  intro h Ld
  walk_at "go"
  walk_at "setA"
  intro h Ld
  walk_at "go"
  refine ⟨by walk_at "i", by walk_at "j", ?_⟩
  walk_at "go"
  walk_at "setA"
  intro h Ld
  walk_at "go"
  refine x_new (by assumption) ?_
  intro fl h Ld
  walk_at "go"
  walk_at "setA"
  intro h Ld
  walk_at "go"
  refine x_new (by assumption) ?_
  intro rl h Ld
  walk_at "go"
  walk_at "setA"
  intro h Ld
  walk_at "go"
  walk_at "setA"
  intro h Ld
  walk_at "go"
  walk_at "setA"
  intro h Ld
  walk_at "go"
  exact hK tl al cl fl rl _ Ld
theorem sp_heap_alloc (hn : 3 ≤ n) {k : Int} {s : Nat} {vs xs : List V} {es : List (Int × V)} (Ld : Led h ((hl, hpO p) :: (p.tl, .list xs) :: (p.al, .dict es) :: R)) (hs : (s, .list vs) ∈ R) (hv : vs.length < 100) (hx : xs.length < 100) (he : es.length < 100)
    (hK : ∀ l h', Led h' ((l, thO { loc := l, sl := s, addr := p.top, kind := k, gen := 0, size := wordsFor vs.length, serial := p.made + 1, slots := vs }) :: (hl, hpO { p with made := p.made + 1, top := p.top + wordsFor vs.length, fresh := p.fresh + wordsFor vs.length }) :: (p.tl, .list (xs ++ [.ref l])) :: (p.al, .dict (putD es p.top (.ref l))) :: R) → K (.ref l) h') : callN prog sc n 7 [.ref hl, .int k, .ref s] K h := by
  refine s_fn (by assumption) rfl rfl ?_
  intro n hn
  walk_at "go"
  intro l hl0
  refine sp_Thing (R := (hl, hpO p) :: (p.tl, .list xs) :: (p.al, .dict es) :: R) (by walk_at "le") (Ld.new hl0) (.tail _ (.tail _ (.tail _ hs))) (by walk_at "om") ?_
  clear hl0
  intro h Ld
  refine ⟨rfl, ?_⟩
  walk_at "go"
  walk_at "setA"
  intro h Ld
  walk_at "go"
  walk_at "setA"
  intro h Ld
  walk_at "go"
  refine s_Ap1 (by assumption) (by trivial) ?_
  walk_at "go"
  refine x_append (by assumption) (by trivial) (by walk_at "om") ?_
  intro h Ld
  walk_at "go"
  refine x_setD (by assumption) (by trivial) (by walk_at "om") ?_
  intro h Ld
  walk_at "go"
  walk_at "setA"
  intro h Ld
  walk_at "go"
  walk_at "setA"
  intro h Ld
  walk_at "go"
  exact hK l _ Ld
theorem sp_holds (hn : 2 ≤ n) (Ld : Led h R) {s : SV} (ok : s.ok) (hK : ∀ b h', Led h' R → K (.bool b) h') : callN prog sc n 12 [s.v] K h := by
  refine s_fn (by assumption) rfl rfl ?_
  intro n hn
  have loop : ∀ (l : Nat) (h : H) (m : M), Led h ((l, .list (vints s.refs)) :: R) → wSs ⟨sc, callN prog sc n⟩ (.cons (.forL false [13] (.con (.ref l)) p_holds_reference_1b_0) p_holds_reference_2) (fun fl m h => match fl with | .next => K .none h | .ret v => K v h) m h := by
    intro l h m Ld
    walk_at "go"
    refine for_inv (s := .list l) s.refs.length (fun i m h' => h' = h) ?_ ?_ rfl
    · rintro m _ rfl
      refine ⟨src_e Ld (by trivial) (by first | exact List.length_map _ | exact (List.length_map _).trans (List.length_map _) | (simp [vints])), ?_⟩
      walk_at "go"
      exact hK _ _ (Led.sub Ld (by trivial))
    · rintro J hJ i m _ hi rfl
      refine ⟨.int s.refs[i], _, src_i Ld (by trivial) (by first | exact get_map (by assumption) | (simp [vints, hi])), rfl, ?_⟩
      walk_at "go"
      by_cases q : s.refs[i] = 0
      · first | refine s_eqT (q) ?_ | refine s_neF (q) ?_
        walk_at "go"
      · first | refine s_eqF (q) ?_ | refine s_neT (q) ?_
        walk_at "go"
        exact hK _ _ (Led.sub Ld (by trivial))
  cases s with
  | ref w =>
    walk_at "gob"
    exact hK _ _ Ld
  | i4 c =>
    walk_at "gob"
    refine sp_refs_in (s := .i4 c) (by walk_at "le") Ld ok ?_
    intro l h Ld
    exact loop l h _ Ld
  | s5 w c =>
    walk_at "gob"
    refine sp_refs_in (s := .s5 w c) (by walk_at "le") Ld ok ?_
    intro l h Ld
    exact loop l h _ Ld
  | s6 w c =>
    walk_at "gob"
    refine sp_refs_in (s := .s6 w c) (by walk_at "le") Ld ok ?_
    intro l h Ld
    exact loop l h _ Ld
  | ftn t =>
    walk_at "gob"
    refine sp_refs_in (s := .ftn t) (by walk_at "le") Ld ok ?_
    intro l h Ld
    exact loop l h _ Ld
  | ph w t =>
    walk_at "gob"
    refine sp_refs_in (s := .ph w t) (by walk_at "le") Ld ok ?_
    intro l h Ld
    exact loop l h _ Ld
  | pn k a b c =>
    walk_at "gob"
    refine sp_refs_in (s := .pn k a b c) (by walk_at "le") Ld ok ?_
    intro l h Ld
    exact loop l h _ Ld
theorem putD_len (es : List (Int × V)) (k : Int) (v : V) : (putD es k v).length ≤ es.length + 1 := by
  unfold putD; split <;> simp
theorem sp_store (hn : 3 ≤ n) {t : Th} {vs : List V} {es : List (Int × V)} {k : Nat} {s : SV} (Ld : Led h ((t.sl, .list vs) :: (p.cl, .dict es) :: R)) (hp : (hl, hpO p) ∈ R) (ht : (t.loc, thO t) ∈ R) (hk : k < vs.length) (few : vs.length < 100) (ok : s.ok) (he : es.length < 1000) (b0 : 0 ≤ p.bits) (b1 : p.bits < 64)
    (hK : ∀ es' h', es'.length ≤ es.length + 1 → Led h' ((t.sl, .list (vs.set k s.v)) :: (p.cl, .dict es') :: R) → K .none h') : callN prog sc n 14 [.ref hl, .ref t.loc, .int k, s.v] K h := by
  refine s_fn (by assumption) rfl rfl ?_
  intro n hn
  walk_at "go"
  refine x_setL (by assumption) (by trivial) (by walk_at "i") (by walk_at "j") (by simpa using hk) ?_
  intro h Ld
  rw [Int.toNat_natCast] at Ld
  walk_at "go"
  by_cases q : 0 < t.gen
  · first | refine s_ltT (q) ?_ | refine s_leT (q) ?_ | refine s_gtT (q) ?_ | refine s_geT (q) ?_
    walk_at "go"
    refine sp_holds (by walk_at "le") Ld ok ?_
    intro b h Ld
    induction b using Bool.casesOn with
    | true =>
      walk_at "go"
      refine sp_slot_word (t := t) (by walk_at "le") Ld (by trivial) ?_
      walk_at "go"
      refine sp_card_number (p := p) (by walk_at "le") Ld (by trivial) b0 b1 ?_
      walk_at "go"
      refine x_setD (by assumption) (by trivial) (by walk_at "om") ?_
      intro h Ld
      walk_at "go"
      exact hK _ _ (putD_len _ _ _) Ld
    | false =>
      walk_at "go"
      exact hK _ _ (Nat.le_succ _) Ld
  · first | refine s_ltF (q) ?_ | refine s_leF (q) ?_ | refine s_gtF (q) ?_ | refine s_geF (q) ?_
    walk_at "go"
    exact hK _ _ (Nat.le_succ _) Ld
theorem sp_Handles_init (hn : 1 ≤ n) {l : Nat} (Ld : Led h ((l, .inst 2 []) :: R)) (hK : ∀ rw_ h', Led h' ((rw_, .list []) :: (l, .inst 2 [(18, .ref rw_)]) :: R) → K .none h') : callN prog sc n 26 [.ref l] K h := by
  refine s_fn (by assumption) rfl rfl ?_
  intro n hn
  walk_at "go"
  refine x_new (by assumption) ?_
  intro r h Ld
  walk_at "go"
  walk_at "setA"
  intro h Ld
  walk_at "go"
  exact hK _ _ Ld
theorem sp_new_handle (hn : 1 ≤ n) {hh rw_ : Nat} {xs : List V} {a : Int} (Ld : Led h ((rw_, .list xs) :: R)) (H1 : (hh, .inst 2 [(18, .ref rw_)]) ∈ R) (few : xs.length < 100) (hK : ∀ r v h', Led h' ((r, rowO a) :: (rw_, .list (xs ++ [.ref r])) :: R) → K v h') : callN prog sc n 27 [.ref hh, .int 3, .int a] K h := by
  refine s_fn (by assumption) rfl rfl ?_
  intro n hn
  walk_at "go"
  refine s_Ap1 (by assumption) (by trivial) ?_
  walk_at "go"
  refine x_new (by assumption) ?_
  intro r h Ld
  walk_at "go"
  refine x_append (by assumption) (by trivial) (by walk_at "om") ?_
  intro h Ld
  walk_at "go"
  refine x_lenL (by assumption) (by trivial) (by simp; walk_at "om") ?_
  walk_at "go"
  exact hK _ _ _ Ld
theorem sp_target (hn : 1 ≤ n) {hh rw_ : Nat} {rows : List (Nat × Int)} (Ld : Led h R) (H1 : (hh, .inst 2 [(18, .ref rw_)]) ∈ R) (H2 : (rw_, .list (rows.map fun r => .ref r.1)) ∈ R) {k : Nat} (hk : k < rows.length) (few : rows.length ≤ 8) (H3 : ((rows[k]).1, rowO (rows[k]).2) ∈ R) (hK : K (.int (rows[k]).2) h) : callN prog sc n 28 [.ref hh, .int ((k : Int) + 1)] K h := by
  unfold rowO at H3
  have e7 : ((k : Int) + 1 - 1).toNat = k := by walk_at "om"
  refine s_fn (by assumption) rfl rfl ?_
  intro n hn
  walk_at "go"
  refine x_lenL (by assumption) (by trivial) (by simp; walk_at "om") ?_
  walk_at "go"
  first | refine s_ltF ((by simp; walk_at "om" : ¬ (((rows.map fun r => V.ref r.1).length : Int) < (k : Int) + 1))) ?_ | refine s_leF ((by simp; walk_at "om" : ¬ (((rows.map fun r => V.ref r.1).length : Int) < (k : Int) + 1))) ?_ | refine s_gtF ((by simp; walk_at "om" : ¬ (((rows.map fun r => V.ref r.1).length : Int) < (k : Int) + 1))) ?_ | refine s_geF ((by simp; walk_at "om" : ¬ (((rows.map fun r => V.ref r.1).length : Int) < (k : Int) + 1))) ?_
  walk_at "go"
  refine x_idxL (v := .ref (rows[k]).1) (by assumption) (by trivial) (by walk_at "i") (by walk_at "j") (by rw [e7]; simp [hk]) ?_
  walk_at "gob"
  exact hK
end
end
section
theorem c8 {c : Nat} (h : c < 8) : c = 0 ∨ c = 1 ∨ c = 2 ∨ c = 3 ∨ c = 4 ∨ c = 5 ∨ c = 6 ∨ c = 7 := match c, h with
  | 0, _ => .inl rfl
  | 1, _ => .inr (.inl rfl)
  | 2, _ => .inr (.inr (.inl rfl))
  | 3, _ => .inr (.inr (.inr (.inl rfl)))
  | 4, _ => .inr (.inr (.inr (.inr (.inl rfl))))
  | 5, _ => .inr (.inr (.inr (.inr (.inr (.inl rfl)))))
  | 6, _ => .inr (.inr (.inr (.inr (.inr (.inr (.inl rfl))))))
  | 7, _ => .inr (.inr (.inr (.inr (.inr (.inr (.inr rfl))))))
  | n + 8, h => absurd h (Nat.not_lt.mpr (Nat.le_add_left 8 n))
theorem c11 {c : Nat} (h : c < 11) : c = 0 ∨ c = 1 ∨ c = 2 ∨ c = 3 ∨ c = 4 ∨ c = 5 ∨ c = 6 ∨ c = 7 ∨ c = 8 ∨ c = 9 ∨ c = 10 := match c, h with
  | 0, _ => .inl rfl
  | 1, _ => .inr (.inl rfl)
  | 2, _ => .inr (.inr (.inl rfl))
  | 3, _ => .inr (.inr (.inr (.inl rfl)))
  | 4, _ => .inr (.inr (.inr (.inr (.inl rfl))))
  | 5, _ => .inr (.inr (.inr (.inr (.inr (.inl rfl)))))
  | 6, _ => .inr (.inr (.inr (.inr (.inr (.inr (.inl rfl))))))
  | 7, _ => .inr (.inr (.inr (.inr (.inr (.inr (.inr (.inl rfl)))))))
  | 8, _ => .inr (.inr (.inr (.inr (.inr (.inr (.inr (.inr (.inl rfl))))))))
  | 9, _ => .inr (.inr (.inr (.inr (.inr (.inr (.inr (.inr (.inr (.inl rfl)))))))))
  | 10, _ => .inr (.inr (.inr (.inr (.inr (.inr (.inr (.inr (.inr (.inr rfl)))))))))
  | n + 11, h => absurd h (Nat.not_lt.mpr (Nat.le_add_left 11 n))
structure Sp where
  c : Nat
  a : Nat
  b : Nat
  m : Nat
noncomputable def Sp.V (s : Sp) : V := .tup [.int s.c, .int s.a, .int s.b, .int s.m]
structure Sp.Ok (N k : Nat) (s : Sp) : Prop where
  c : s.c < k
  a : s.a < N
  b : s.b < N
  m : s.m < 5
noncomputable def sortOf (b : Nat) : Int := if b % 3 = 0 then 1 else if b % 3 = 1 then 2 else 4
noncomputable def lawS (w sz : Nat → Int) (s : Sp) : SV :=
  match s.c with
  | 0 => .ref 0
  | 1 => .ref (w s.a)
  | 2 => .ref (w s.a)
  | 3 => .ref (w s.a)
  | 4 => .i4 (16 + 3 * s.m)
  | 5 => .s5 (w s.a) (16 + s.m)
  | 6 => .s6 (w s.a) (w s.b)
  | 7 => .ftn (.tup [.int (16 + s.m), .int 300, .tup [.int 16]])
  | 8 => .ph (w s.a + s.m % sz s.a) (.tup [.int s.m, .int 1])
  | 9 => .ph (w s.a + sz s.a - 1) (.tup [])
  | _ => .pn (sortOf s.b) (.int (16 + s.m)) (.int 16) (.tup [.int 16])
noncomputable def tab (N : Nat) (f : Nat → Int) : List V := (List.range N).map fun i => .int (f i)
theorem tab_get {N i : Nat} {f : Nat → Int} (h : i < N) : (tab N f)[((i : Nat) : Int).toNat]? = some (.int (f i)) := by
  rw [Int.toNat_natCast]; unfold tab; simp [h]
noncomputable def goalsOf (s : Sp) : List Nat := if s.c = 6 then [s.a, s.b] else if s.c = 0 ∨ s.c = 4 ∨ s.c = 7 ∨ s.c = 10 then [] else [s.a]
noncomputable def vnats (l : List Nat) : List V := l.map fun (i : Nat) => V.int (i : Int)
section
variable {sc : List Int} {n : Nat} {h : H} {K : KE} {R : List (Nat × O)}
theorem sp_pull (hn : 1 ≤ n) {nl sl : Nat} {ns : List Int} {i : Int} (Ld : Led h ((sl, .list [.int i]) :: R)) (hm : (nl, .list (vints ns)) ∈ R) (h0 : 0 ≤ i) (hl : 0 < ns.length) (hb : ns.length < 100000) (hr : ∀ x ∈ ns, 0 ≤ x ∧ x < 100000)
    (hK : ∀ (v : Nat) h', v < 100000 → Led h' ((sl, .list [.int (i + 1)]) :: R) → K (.int v) h') : callN prog sc n 50 [.ref nl, .ref sl] K h := by
  refine s_fn (by assumption) rfl rfl ?_
  intro n hn
  walk_at "go"
  refine x_idxL (v := .int i) (by assumption) (by trivial) (by decide) (by decide) (by rfl) ?_
  walk_at "go"
  refine x_lenL (by assumption) (by trivial) (by simp [vints]; walk_at "om") ?_
  walk_at "go"
  have e1 : (vints ns).length = ns.length := by simp [vints]
  rw [e1]
  refine ⟨by walk_at "om", ?_⟩
  have q1 : 0 ≤ i % (ns.length : Int) := Int.emod_nonneg _ (by walk_at "om")
  have q2 : i % (ns.length : Int) < ns.length := Int.emod_lt_of_pos _ (by walk_at "om")
  have q3 : (i % (ns.length : Int)).toNat < ns.length := by walk_at "om"
  refine x_idxL (v := .int ns[(i % (ns.length : Int)).toNat]) (by assumption) (by trivial) q1 (by walk_at "om") (by simp [vints, q3]) ?_
  have q4 := hr _ (List.getElem_mem q3)
  generalize ns[(i % (ns.length : Int)).toNat] = x at *
  obtain ⟨v, rfl⟩ : ∃ v : Nat, x = v := ⟨x.toNat, by walk_at "om"⟩
  walk_at "go"
  refine x_idxL (v := .int i) (by assumption) (by trivial) (by decide) (by decide) (by rfl) ?_
  walk_at "go"
  refine x_setL (by assumption) (by trivial) (by decide) (by decide) (by simp) ?_
  intro h Ld
  walk_at "go"
  exact hK v _ (by walk_at "om") Ld
theorem sp_spec (hn : 1 ≤ n) {x N k : Nat} (hx : x < 100000) (hN : 0 < N) (hN2 : N < 1000) (hk : 0 < k) (hk2 : k < 1000) (hK : ∀ s : Sp, s.Ok N k → K s.V h) : callN prog sc n 51 [.int x, .int N, .int k] K h := by
  refine s_fn (by assumption) rfl rfl ?_
  intro n hn
  walk_at "go"
  refine ⟨by walk_at "om", ?_⟩
  walk_at "go"
  refine ⟨by walk_at "i", by walk_at "j", ?_⟩
  walk_at "go"
  refine ⟨by walk_at "om", ?_⟩
  walk_at "go"
  refine ⟨by walk_at "i", by walk_at "j", ?_⟩
  walk_at "go"
  refine ⟨by walk_at "i", by walk_at "j", ?_⟩
  walk_at "go"
  refine ⟨by walk_at "om", ?_⟩
  walk_at "go"
  refine ⟨by walk_at "i", by walk_at "j", ?_⟩
  walk_at "go"
  refine ⟨by walk_at "om", ?_⟩
  walk_at "go"
  have := hK ⟨x % k, x / k % N, x / k / N % N, x / 7 % 5⟩ ⟨Nat.mod_lt _ hk, Nat.mod_lt _ hN, Nat.mod_lt _ hN, Nat.mod_lt _ (by decide)⟩
  unfold Sp.V at this
  exact_mod_cast this
theorem sp_goals (hn : 1 ≤ n) {N : Nat} (Ld : Led h R) {s : Sp} (ok : s.Ok N 11) (hK : ∀ l h', Led h' ((l, .list (vnats (goalsOf s))) :: R) → K (.ref l) h') : callN prog sc n 53 [s.V] K h := by
  obtain ⟨c, a, b, m⟩ := s
  obtain ⟨o1, _, _, _⟩ := ok
  have hc : c = 0 ∨ c = 1 ∨ c = 2 ∨ c = 3 ∨ c = 4 ∨ c = 5 ∨ c = 6 ∨ c = 7 ∨ c = 8 ∨ c = 9 ∨ c = 10 := c11 o1
  refine s_fn (by assumption) rfl rfl ?_
  intro n hn
  rcases hc with rfl | rfl | rfl | rfl | rfl | rfl | rfl | rfl | rfl | rfl | rfl
  all_goals
    walk_at "gob"
    exact hK _ _ (by assumption)
theorem sp_value (hn : 1 ≤ n) {N : Nat} {wl zl : Nat} {w sz : Nat → Int} (Ld : Led h R) {s : Sp} (ok : s.Ok N 11) (hN : N < 100) (m1 : (wl, .list (tab N w)) ∈ R) (m2 : (zl, .list (tab N sz)) ∈ R) (hz : ∀ i, i < N → 0 < sz i ∧ sz i < 1000) (hK : K (lawS w sz s).v h) : callN prog sc n 52 [s.V, .ref wl, .ref zl] K h := by
  obtain ⟨c, a, b, m⟩ := s
  obtain ⟨o1, o2, o3, o4⟩ := ok
  dsimp only at o1 o2 o3 o4
  have hc : c = 0 ∨ c = 1 ∨ c = 2 ∨ c = 3 ∨ c = 4 ∨ c = 5 ∨ c = 6 ∨ c = 7 ∨ c = 8 ∨ c = 9 ∨ c = 10 := c11 o1
  have za := hz a o2
  refine s_fn (by assumption) rfl rfl ?_
  intro n hn
  rcases hc with rfl | rfl | rfl | rfl | rfl | rfl | rfl | rfl | rfl | rfl | rfl
  all_goals
    walk_at "go"
    refine x_idxL (i := (a : Int)) (v := .int (w a)) (by assumption) (by trivial) (by walk_at "i") (by walk_at "j") (tab_get o2) ?_
    walk_at "go"
  · exact hK
  · exact hK
  · exact hK
  · exact hK
  · refine ⟨by unfold small; walk_at "om", (by unfold small; walk_at "om" : small (m : Int)), ?_⟩
    walk_at "go"
    exact hK
  · exact hK
  · refine x_idxL (i := (b : Int)) (v := .int (w b)) (by assumption) (by trivial) (by walk_at "i") (by walk_at "j") (tab_get o3) ?_
    walk_at "go"
    exact hK
  · exact hK
  · refine x_idxL (i := (a : Int)) (v := .int (w a)) (by assumption) (by trivial) (by walk_at "i") (by walk_at "j") (tab_get o2) ?_
    walk_at "go"
    refine x_idxL (i := (a : Int)) (v := .int (sz a)) (by assumption) (by trivial) (by walk_at "i") (by walk_at "j") (tab_get o2) ?_
    walk_at "go"
    refine ⟨by walk_at "om", ?_⟩
    walk_at "go"
    exact hK
  · refine x_idxL (i := (a : Int)) (v := .int (w a)) (by assumption) (by trivial) (by walk_at "i") (by walk_at "j") (tab_get o2) ?_
    walk_at "go"
    refine x_idxL (i := (a : Int)) (v := .int (sz a)) (by assumption) (by trivial) (by walk_at "i") (by walk_at "j") (tab_get o2) ?_
    walk_at "go"
    exact hK
  · refine ⟨by walk_at "om", ?_⟩
    have hb : (b : Int) % 3 = ((b % 3 : Nat) : Int) := by walk_at "om"
    have hs : b % 3 = 0 ∨ b % 3 = 1 ∨ b % 3 = 2 := by walk_at "om"
    rw [hb]
    rcases hs with e | e | e
    all_goals
      rw [e]
      walk_at "gob"
      have q := hK
      simp only [lawS, sortOf, e] at q
      exact q
end
end
section
noncomputable def cf : Nat → (Nat → Bool) → Nat
  | 0, _ => 0
  | n + 1, B => cf n B + if B n then 0 else 1
theorem cf_le {B B' : Nat → Bool} (h : ∀ i, B i = true → B' i = true) : ∀ n, cf n B' ≤ cf n B
  | 0 => Nat.le_refl _
  | n + 1 => by
    have h1 := cf_le h n
    have h2 := h n
    simp only [cf]
    cases e : B n <;> cases e' : B' n <;> simp [e, e'] at h2 ⊢ <;> walk_at "om"
theorem cf_lt {B B' : Nat → Bool} (h : ∀ i, B i = true → B' i = true) {a : Nat} (h1 : B a = false) (h2 : B' a = true) : ∀ n, a < n → cf n B' < cf n B
  | 0, q => by walk_at "om"
  | n + 1, q => by
    simp only [cf]
    by_cases e : a = n
    · subst e
      have := cf_le h a
      rw [h1, h2]; simp; walk_at "om"
    · have h3 := cf_lt h h1 h2 n (by walk_at "om")
      have h4 := h n
      cases e1 : B n <;> cases e2 : B' n <;> simp [e1, e2] at h4 ⊢ <;> walk_at "om"
noncomputable def fB (B : Nat → Bool) (i : Nat) : Int := if B i then 1 else 0
noncomputable def setB (B : Nat → Bool) (a : Nat) : Nat → Bool := fun i => if i = a then true else B i
theorem tab_set (N : Nat) (B : Nat → Bool) {a : Nat} : (tab N (fB B)).set ((a : Nat) : Int).toNat (.int 1) = tab N (fB (setB B a)) := by
  rw [Int.toNat_natCast]
  unfold tab
  refine List.ext_getElem (by simp) fun i h1 h2 => ?_
  rw [List.getElem_set]
  simp only [List.getElem_map, List.getElem_range]
  split
  · rename_i e; subst e; simp [fB, setB]
  · rename_i e
    have : i ≠ a := fun q => e q.symm
    simp [fB, setB, this]
inductive RI (seeds : List Nat) (spx : Nat → List Sp) : Nat → Prop where
  | seed {a : Nat} : a ∈ seeds → RI seeds spx a
  | step {i a : Nat} {s : Sp} : RI seeds spx i → s ∈ spx i → a ∈ goalsOf s → RI seeds spx a
theorem goals_lt {N k : Nat} {s : Sp} (ok : s.Ok N k) : ∀ a ∈ goalsOf s, a < N := by
  intro a h
  unfold goalsOf at h
  split at h
  · simp at h; rcases h with rfl | rfl
    · exact ok.a
    · exact ok.b
  · split at h
    · cases h
    · simp at h; subst h; exact ok.a
structure Sw (seeds : List Nat) (spx : Nat → List Sp) (N : Nat) (B0 B : Nat → Bool) (t : Bool) : Prop where
  up : ∀ i, B0 i = true → B i = true
  so : ∀ i, B i = true → RI seeds spx i
  ff : t = false → B = B0
  tt : t = true → cf N B < cf N B0
section
variable {sc : List Int} {n : Nat} {h : H} {K : KE} {R : List (Nat × O)}
theorem sp_alive (hn : 2 ≤ n) {N : Nat} {pl sdl : Nat} {q : Nat → Nat} {spx : Nat → List Sp} {seeds : List Nat} (Ld : Led h R) (hN : N < 100) (m1 : (pl, .list ((List.range N).map fun i => .ref (q i))) ∈ R) (m2 : ∀ i, i < N → (q i, .list ((spx i).map Sp.V)) ∈ R) (m3 : (sdl, .list (vnats seeds)) ∈ R)
    (hs : ∀ a ∈ seeds, a < N) (ok : ∀ i, i < N → ∀ s ∈ spx i, s.Ok N 11) (hK : ∀ al B h', (∀ i, i < N → (B i = true ↔ RI seeds spx i)) → Led h' ((al, .list (tab N (fB B))) :: R) → K (.ref al) h') : callN prog sc n 54 [.int N, .ref pl, .ref sdl] K h := by
  have key : ∀ (B0 B : Nat → Bool) (t : Bool) (a : Nat), a < N → Sw seeds spx N B0 B t → B a = false → RI seeds spx a → Sw seeds spx N B0 (setB B a) true := by
    intro B0 B t a ha S hb hr
    have up : ∀ i, B i = true → setB B a i = true := fun i hi => by unfold setB; split <;> simp [hi]
    refine ⟨fun i hi => up i (S.up i hi), fun i hi => ?_, by simp, fun _ => ?_⟩
    · unfold setB at hi
      split at hi
      · rename_i e; rw [e]; exact hr
      · exact S.so i hi
    · have h1 := cf_lt up hb (by simp [setB] : setB B a a = true) N ha
      induction t using Bool.casesOn with
      | true => have := S.tt rfl; walk_at "om"
      | false => rw [S.ff rfl] at h1 ⊢; exact h1
  refine s_fn (by assumption) rfl rfl ?_
  intro n hn
  walk_at "go"
  refine ⟨by walk_at "i", by walk_at "j", comp_inv N (fun i acc h' => h' = h ∧ acc = tab i (fB fun _ => false)) (by walk_at "om") ?_ ?_ ⟨rfl, rfl⟩⟩
  · rintro acc _ ⟨rfl, rfl⟩
    refine ⟨src_range_end, ?_⟩
    refine x_new (by assumption) ?_
    intro al h Ld
    walk_at "go"
    refine for_inv (s := .list sdl) seeds.length (fun i m h' => ∃ B, A6 (Led h' ((al, .list (tab N (fB B))) :: R)) ((∀ a ∈ seeds.take i, B a = true)) ((∀ a, B a = true → RI seeds spx a)) (m 65 = some (.ref al)) (m 52 = some (.int N)) (m 63 = some (.ref pl))) ?_ ?_ ⟨_, Ld, by simp, by simp, rfl, rfl, rfl⟩
    · rintro m h ⟨B, Ld, b1, b2, v1, v2, v3⟩
      refine ⟨src_e Ld (by trivial) (by first | exact List.length_map _ | exact (List.length_map _).trans (List.length_map _) | (simp [vnats])), ?_⟩
      rw [List.take_length] at b1
      walk_at "go"
      refine whl_inv (fun d m h' => ∃ B t, A9 (d = cf N B + (if t = true then 1 else 0)) (Led h' ((al, .list (tab N (fB B))) :: R)) ((∀ a ∈ seeds, B a = true)) ((∀ a, B a = true → RI seeds spx a)) ((t = false → ∀ i, i < N → B i = true → ∀ s ∈ spx i, ∀ a ∈ goalsOf s, B a = true)) (m 65 = some (.ref al)) (m 52 = some (.int N)) (m 63 = some (.ref pl)) (m 66 = some (.bool t))) ?_ ⟨B, true, rfl, Ld, b1, b2, by simp, v1, v2, v3, rfl⟩
      clear b1 b2 v1 v2 v3 Ld
      rintro d J hJ m h ⟨B0, t, rfl, Ld, b1, b2, b3, v1, v2, v3, v4⟩
      refine ⟨_, v4, ?_⟩
      induction t using Bool.casesOn with
      | false =>
        walk_at "go"
        refine hK al B0 _ (fun i hi => ⟨b2 i, fun r => ?_⟩) Ld
        have : i < N ∧ B0 i = true := by
          clear hi
          induction r with
          | seed h => exact ⟨hs _ h, b1 _ h⟩
          | step r1 h1 h2 ih => exact ⟨goals_lt (ok _ ih.1 _ h1) _ h2, b3 rfl _ ih.1 ih.2 _ h1 _ h2⟩
        exact this.2
      | true =>
        walk_at "go"
        refine ⟨by walk_at "i", by walk_at "j", ?_⟩
        refine for_inv N (fun i m h' => ∃ B t, A7 (Led h' ((al, .list (tab N (fB B))) :: R)) (Sw seeds spx N B0 B t) ((t = false → ∀ j, j < i → B0 j = true → ∀ s ∈ spx j, ∀ a ∈ goalsOf s, B0 a = true)) (m 65 = some (.ref al)) (m 52 = some (.int N)) (m 63 = some (.ref pl)) (m 66 = some (.bool t))) ?_ ?_ ⟨B0, false, Ld, ⟨fun _ h => h, b2, fun _ => rfl, by simp⟩, by intro _ j hj; walk_at "om", v1, v2, v3, rfl⟩
        · rintro m h ⟨B, t, Ld, S, c1, v1, v2, v3, v4⟩
          refine ⟨src_range_end, ?_⟩
          walk_at "go"
          refine ⟨cf N B + (if t = true then 1 else 0), ?_, B, t, rfl, Ld, fun a ha => S.up a (b1 a ha), S.so, fun e i hi hB => ?_, v1, v2, v3, v4⟩
          · induction t using Bool.casesOn with
            | true => have := S.tt rfl; simp; walk_at "om"
            | false => rw [S.ff rfl]; simp
          · rw [S.ff e] at hB ⊢
            exact c1 e i hi hB
        · rintro J hJ i m h hi ⟨B, t, Ld, S, c1, v1, v2, v3, v4⟩
          refine ⟨.int i, _, src_range_in hi, rfl, ?_⟩
          walk_at "go"
          refine x_idxL (v := .int (fB B i)) (by assumption) (by trivial) (by walk_at "i") (by walk_at "j") (tab_get hi) ?_
          walk_at "go"
          cases hBi : B i with
          | false =>
            rw [show fB B i = 0 from by simp [fB, hBi]]
            walk_at "go"
            refine ⟨B, t, Ld, S, fun e j hj hB => ?_, v1, v2, v3, v4⟩
            rcases Nat.lt_or_ge j i with r | r
            · exact c1 e j r hB
            · have : j = i := by walk_at "om"
              subst this
              rw [S.ff e] at hBi
              rw [hBi] at hB; cases hB
          | true =>
            rw [show fB B i = 1 from by simp [fB, hBi]]
            walk_at "go"
            refine x_idxL (v := .ref (q i)) (by assumption) (by trivial) (by walk_at "i") (by walk_at "j") (by simp [hi]) ?_
            walk_at "go"
            have mq := m2 i hi
            refine for_inv (s := .list (q i)) (spx i).length (fun k m h' => ∃ B t, A9 (Led h' ((al, .list (tab N (fB B))) :: R)) (Sw seeds spx N B0 B t) (B i = true) ((t = false → ∀ s ∈ (spx i).take k, ∀ a ∈ goalsOf s, B0 a = true)) ((t = false → ∀ j, j < i → B0 j = true → ∀ s ∈ spx j, ∀ a ∈ goalsOf s, B0 a = true)) (m 65 = some (.ref al)) (m 52 = some (.int N)) (m 63 = some (.ref pl)) (m 66 = some (.bool t))) ?_ ?_ ⟨B, t, Ld, S, hBi, by simp, c1, v1, v2, v3, v4⟩
            · rintro m h ⟨B, t, Ld, S, hBi, c2, c1, v1, v2, v3, v4⟩
              refine ⟨src_e Ld (by trivial) (by first | exact List.length_map _ | exact (List.length_map _).trans (List.length_map _) | (simp)), ?_⟩
              rw [List.take_length] at c2
              walk_at "go"
              refine ⟨B, t, Ld, S, fun e j hj hB => ?_, v1, v2, v3, v4⟩
              rcases Nat.lt_or_ge j i with r | r
              · exact c1 e j r hB
              · have : j = i := by walk_at "om"
                subst this
                exact c2 e
            · rintro J hJ k m h hk ⟨B, t, Ld, S, hBi, c2, c1, v1, v2, v3, v4⟩
              have hsm := List.getElem_mem hk
              generalize hse : (spx i)[k] = s at *
              refine ⟨s.V, _, src_i Ld (by trivial) (by first | exact get_map (by assumption) | (simp [hk, hse])), rfl, ?_⟩
              walk_at "go"
              refine sp_goals (N := N) (by walk_at "le") Ld (ok i hi s hsm) ?_
              intro gl h Ld
              walk_at "go"
              refine for_inv (s := .list gl) (goalsOf s).length (fun g m h' => ∃ B t, A10 (Led h' ((al, .list (tab N (fB B))) :: (gl, .list (vnats (goalsOf s))) :: R)) (Sw seeds spx N B0 B t) (B i = true) ((t = false → ∀ a ∈ (goalsOf s).take g, B0 a = true)) ((t = false → ∀ s ∈ (spx i).take k, ∀ a ∈ goalsOf s, B0 a = true)) ((t = false → ∀ j, j < i → B0 j = true → ∀ s ∈ spx j, ∀ a ∈ goalsOf s, B0 a = true)) (m 65 = some (.ref al)) (m 52 = some (.int N)) (m 63 = some (.ref pl)) (m 66 = some (.bool t))) ?_ ?_ ⟨B, t, Led.pull (p := (al, .list (tab N (fB B)))) Ld (by trivial), S, hBi, by simp, c2, c1, v1, v2, v3, v4⟩
              · rintro m h ⟨B, t, Ld, S, hBi, c3, c2, c1, v1, v2, v3, v4⟩
                refine ⟨src_e Ld (by trivial) (by first | exact List.length_map _ | exact (List.length_map _).trans (List.length_map _) | (simp [vnats])), ?_⟩
                rw [List.take_length] at c3
                walk_at "go"
                refine ⟨B, t, Led.sub Ld (by trivial), S, hBi, fun e s' hs' => ?_, c1, v1, v2, v3, v4⟩
                rw [take_snoc hk, hse] at hs'
                rcases List.mem_append.mp hs' with r | r
                · exact c2 e s' r
                · rw [List.mem_singleton.mp r]; exact c3 e
              · rintro J hJ g m h hg ⟨B, t, Ld, S, hBi, c3, c2, c1, v1, v2, v3, v4⟩
                have hgm := List.getElem_mem hg
                generalize hae : (goalsOf s)[g] = a at *
                have haN := goals_lt (ok i hi s hsm) a hgm
                refine ⟨.int (a : Nat), _, src_i Ld (by trivial) (by first | exact get_map (by assumption) | (simp [vnats, hg, hae])), rfl, ?_⟩
                walk_at "go"
                refine x_idxL (v := .int (fB B a)) (by assumption) (by trivial) (by walk_at "i") (by walk_at "j") (tab_get haN) ?_
                walk_at "go"
                cases hBa : B a with
                | false =>
                  rw [show fB B a = 0 from by simp [fB, hBa]]
                  walk_at "go"
                  refine x_setL (by assumption) (by trivial) (by walk_at "i") (by walk_at "j") (by simp [tab]; walk_at "om") ?_
                  intro h Ld
                  rw [tab_set] at Ld
                  walk_at "go"
                  exact ⟨_, true, Ld, key B0 B t a haN S hBa (.step (S.so i hBi) hsm hgm), by unfold setB; split <;> simp [hBi], by simp, by simp, by simp, v1, v2, v3, rfl⟩
                | true =>
                  rw [show fB B a = 1 from by simp [fB, hBa]]
                  walk_at "go"
                  refine ⟨B, t, Ld, S, hBi, fun e a' ha' => ?_, c2, c1, v1, v2, v3, v4⟩
                  rw [take_snoc hg, hae] at ha'
                  rcases List.mem_append.mp ha' with r | r
                  · exact c3 e a' r
                  · rw [List.mem_singleton.mp r, ← S.ff e]; exact hBa
    · rintro J hJ i m h hi ⟨B, Ld, b1, b2, v1, v2, v3⟩
      have hlt := hs _ (List.getElem_mem hi)
      refine ⟨.int (seeds[i] : Nat), _, src_i Ld (by trivial) (by first | exact get_map (by assumption) | (simp [vnats, hi])), rfl, ?_⟩
      walk_at "go"
      refine x_setL (by assumption) (by trivial) (by walk_at "i") (by walk_at "j") (by simp [tab]; walk_at "om") ?_
      intro h Ld
      rw [tab_set] at Ld
      walk_at "go"
      refine ⟨_, Ld, fun a ha => ?_, fun a ha => ?_, v1, v2, v3⟩
      · rw [take_snoc hi] at ha
        unfold setB
        split
        · rfl
        · rename_i ne
          rcases List.mem_append.mp ha with r | r
          · exact b1 a r
          · exact absurd (List.mem_singleton.mp r) ne
      · unfold setB at ha
        split at ha
        · rename_i e; rw [e]; exact .seed (List.getElem_mem hi)
        · exact b2 a ha
  · rintro J hJ i acc _ hi ⟨rfl, rfl⟩
    refine ⟨.int i, src_range_in hi, ?_⟩
    walk_at "go"
    refine ⟨rfl, ?_⟩
    unfold tab
    rw [List.range_succ, List.map_append]
    rfl
end
end
section
mutual
noncomputable def vD : V → D
  | .none => .none
  | .bool b => .bool b
  | .int i => .int i
  | .ref _ => .none
  | .tup xs => .tup (vDs xs)
  | .script => .none
noncomputable def vDs : List V → List D
  | [] => []
  | x :: r => vD x :: vDs r
end
section
variable {h : H} {L : List (Nat × O)}
theorem Deep.mono {n n2 : Nat} {x : V} {d : D} (e : n ≤ n2) (a : Deep h n x d) : Deep h n2 x d := by
  refine Deep.rec (motive_1 := fun n x d _ => ∀ n2, n ≤ n2 → Deep h n2 x d) (motive_2 := fun n xs ds _ => ∀ n2, n ≤ n2 → Deeps h n2 xs ds) ?_ ?_ ?_ ?_ ?_ ?_ ?_ a n2 e
  · exact fun _ _ _ => .none _
  · exact fun _ b _ _ => .bool _ b
  · exact fun _ i _ _ => .int _ i
  · intro n xs ds _ ih n2 e
    obtain ⟨k, rfl⟩ : ∃ k, n2 = k + 1 := ⟨n2 - 1, by walk_at "om"⟩
    exact .tup (ih k (by walk_at "om"))
  · intro n l xs ds q _ ih n2 e
    obtain ⟨k, rfl⟩ : ∃ k, n2 = k + 1 := ⟨n2 - 1, by walk_at "om"⟩
    exact .list q (ih k (by walk_at "om"))
  · exact fun _ _ _ => .nil _
  · exact fun _ _ i1 i2 n2 e => .cons (i1 n2 e) (i2 n2 e)
theorem deeps_of {n : Nat} : ∀ {xs : List V}, (∀ x ∈ xs, Deep h n x (vD x)) → Deeps h n xs (vDs xs)
  | [], _ => .nil n
  | x :: r, k => .cons (k x List.mem_cons_self) (deeps_of fun y hy => k y (List.mem_cons_of_mem _ hy))
theorem deep_tup {n : Nat} {xs : List V} (k : ∀ x ∈ xs, Deep h n x (vD x)) : Deep h (n + 1) (.tup xs) (vD (.tup xs)) := .tup (deeps_of k)
theorem deep_int {n : Nat} (i : Int) : Deep h n (.int i) (vD (.int i)) := .int n i
theorem SV.deep {s : SV} (hk : ∀ t, (s = .ftn t ∨ ∃ w, s = .ph w t) → Deep h 3 t (vD t)) (hp : ∀ k a b c, s = .pn k a b c → Deep h 3 a (vD a) ∧ Deep h 3 b (vD b) ∧ Deep h 3 c (vD c)) : Deep h 5 s.v (vD s.v) := by
  have z : ∀ {n : Nat}, ∀ x ∈ ([] : List V), Deep h n x (vD x) := fun x hx => by cases hx
  have c1 : ∀ {n : Nat} {x : V} {r : List V}, Deep h n x (vD x) → (∀ y ∈ r, Deep h n y (vD y)) → ∀ y ∈ x :: r, Deep h n y (vD y) := fun a b y hy => by
    rcases List.mem_cons.mp hy with rfl | hy
    · exact a
    · exact b y hy
  cases s with
  | ref w => exact deep_tup (c1 (deep_int _) (c1 (deep_int _) z))
  | i4 c => exact deep_tup (c1 (deep_int _) (c1 (deep_int _) z))
  | s5 w c => exact deep_tup (c1 (deep_int _) (c1 (deep_int _) (c1 (deep_tup (c1 (deep_tup (c1 (deep_int _) (c1 (deep_int _) z))) (c1 (deep_tup (c1 (deep_int _) (c1 (deep_int _) z))) z))) z)))
  | s6 w w2 => exact deep_tup (c1 (deep_int _) (c1 (deep_int _) (c1 (deep_tup (c1 (deep_tup (c1 (deep_int _) (c1 (deep_int _) (c1 (deep_tup z) z)))) (c1 (deep_tup (c1 (deep_int _) (c1 (deep_int _) (c1 (deep_tup (c1 (deep_tup (c1 (deep_int _) (c1 (deep_int _) z))) (c1 (deep_tup (c1 (deep_int _) (c1 (deep_int _) z))) z))) z)))) (c1 (deep_tup (c1 (deep_int _) (c1 (deep_int _) z))) z)))) z)))
  | ftn t =>
    have := hk t (.inl rfl)
    refine deep_tup (c1 (deep_int _) (c1 ?_ z))
    exact Deep.mono (by walk_at "om") this
  | ph w t =>
    have := hk t (.inr ⟨w, rfl⟩)
    refine deep_tup (c1 (deep_int _) (c1 (deep_tup (c1 (deep_int _) (c1 (deep_int _) (c1 this z)))) z))
  | pn k a b c =>
    obtain ⟨d1, d2, d3⟩ := hp k a b c rfl
    exact deep_tup (c1 (deep_int _) (c1 (deep_tup (c1 (deep_int _) (c1 d1 (c1 d2 (c1 d3 z))))) z))
end
end
section
noncomputable abbrev LG (sc : List Int) (n : Nat) : G := ⟨sc, callN prog sc n⟩
noncomputable abbrev LK : KS := fun fl _ h => match fl with
  | .next => (fun (v : V) (_ : H) => v = V.bool true) V.none h
  | .ret v => (fun (v : V) (_ : H) => v = V.bool true) v h
structure Itm where
  q : Nat
  sp : List Sp
  th : Th
noncomputable def szs (its : List Itm) : Int := its.foldl (fun s x => s + x.th.size) 0
theorem szs_snoc (its : List Itm) (x : Itm) : szs (its ++ [x]) = szs its + x.th.size := by unfold szs; rw [List.foldl_append]; rfl
structure ItOk (N : Nat) (i : Nat) (pos : Int) (x : Itm) : Prop where
  addr : x.th.addr = pos
  size : x.th.size = wordsFor x.sp.length
  few : x.sp.length ≤ 3
  ok : ∀ s ∈ x.sp, s.Ok N 8
  gen : x.th.gen = 0 ∨ x.th.gen = 1 ∨ x.th.gen = 2
  serial : x.th.serial = (i : Int) + 1
  len : x.th.slots.length = x.sp.length
structure ItsOk (N : Nat) (its : List Itm) : Prop where
  at_ : ∀ i (hi : i < its.length), ItOk N i (16 + szs (its.take i)) its[i]
theorem ItsOk.nil (N : Nat) : ItsOk N [] := ⟨fun i hi => by simp at hi⟩
theorem ItsOk.snoc {N : Nat} {its : List Itm} {x : Itm} (I : ItsOk N its) (h : ItOk N its.length (16 + szs its) x) : ItsOk N (its ++ [x]) := by
  refine ⟨fun i hi => ?_⟩
  rcases Nat.lt_or_ge i its.length with q | q
  · have := I.at_ i q
    rw [List.getElem_append_left q, List.take_append_of_le_length (by walk_at "om")]
    exact this
  · have : i = its.length := by simp at hi; walk_at "om"
    subst this
    rw [List.getElem_append_right (Nat.le_refl _), List.take_left' rfl]
    simpa using h
noncomputable def thsOf (its : List Itm) : List Th := its.map (·.th)
noncomputable def specsV (its : List Itm) : List V := its.map fun x => .ref x.q
noncomputable def sizesV (its : List Itm) : List V := its.map fun x => .int x.th.size
noncomputable def kindsV (its : List Itm) : List V := its.map fun x => .int x.th.kind
noncomputable def gensV (its : List Itm) : List V := its.map fun x => .int x.th.gen
noncomputable def whereV (its : List Itm) : List V := its.map fun x => .int x.th.addr
noncomputable def specL (its : List Itm) : List (Nat × O) := its.map fun x => (x.q, .list (x.sp.map Sp.V))
noncomputable def slotL (its : List Itm) : List (Nat × O) := its.map fun x => (x.th.sl, .list x.th.slots)
section
variable {sc : List Int} {n : Nat} {h : H} {m : M} {R : List (Nat × O)}
structure Nums (ns : List Int) : Prop where
  pos : 0 < ns.length
  few : ns.length < 1000
  ok : ∀ x ∈ ns, 0 ≤ x ∧ x < 100000
noncomputable def tailL : List Int := [82, 320, 41, 1, 17, 0, 6, 5, 4, 30, 10, 3, 1203, 77, 5000, 909, 64, 28]
theorem x_addL {h : H} {L : List (Nat × O)} {a b : Nat} {xs ys : List V} {P : KE} (Ld : Led h L) (m1 : (a, .list xs) ∈ L) (m2 : (b, .list ys) ∈ L) (few : xs.length + ys.length < 100000) (k : ∀ l h', Led h' ((l, .list (xs ++ ys)) :: L) → P (.ref l) h') : binW .add (.ref a) (.ref b) P h :=
  ⟨xs, ys, Ld.get m1, Ld.get m2, few, x_new Ld k⟩
theorem vints_app (a b : List Int) : vints a ++ vints b = vints (a ++ b) := (List.map_append ..).symm
theorem nums_ok (sc : List Int) : Nums ((sc.take 40).map (· % 99991) ++ tailL) := by
  refine ⟨by simp [tailL], by simp [tailL]; walk_at "om", fun x hx => ?_⟩
  rcases List.mem_append.mp hx with q | q
  · obtain ⟨y, _, rfl⟩ := List.mem_map.mp q
    have h1 := Int.emod_nonneg y (show (99991 : Int) ≠ 0 by decide)
    have h2 := Int.emod_lt_of_pos y (show (0 : Int) < 99991 by decide)
    walk_at "om"
  · exact (by decide : ∀ x ∈ tailL, 0 ≤ x ∧ x < 100000) x q
theorem law_A (hn : 3 ≤ n) (hm : m 67 = some .script) (Ld : Led h [])
    (next : ∀ (m : M) (h : H) (nl sl : Nat) (ns : List Int) (i : Int), Nums ns → 0 ≤ i → m 49 = some (.ref nl) → m 50 = some (.ref sl) → Led h [(sl, .list [.int i]), (nl, .list (vints ns))] → wSs (LG sc n) p_law_2 LK m h) : wSs (LG sc n) p_law_0 LK m h := by
  walk_at "go"
  refine ⟨rfl, ?_⟩
  refine x_new (by assumption) ?_
  intro l1 h Ld
  walk_at "go"
  refine comp_inv (sc.take 40).length (fun i acc h' => h' = h ∧ acc = vints (((sc.take 40).take i).map (· % 99991))) (by simp; walk_at "om") ?_ ?_ ⟨rfl, by simp [vints]⟩
  · rintro acc _ ⟨rfl, rfl⟩
    refine ⟨src_e Ld (by trivial) (by first | exact List.length_map _ | exact (List.length_map _).trans (List.length_map _) | (simp [vints])), ?_⟩
    refine x_new (by assumption) ?_
    intro l2 h Ld
    walk_at "go"
    refine comp_inv (s := .vals (vints tailL)) tailL.length (fun i acc h' => h' = h ∧ acc = vints (tailL.take i)) (by decide) ?_ ?_ ⟨rfl, rfl⟩
    · rintro acc _ ⟨rfl, rfl⟩
      refine ⟨rfl, ?_⟩
      refine x_new (by assumption) ?_
      intro l3 h Ld
      walk_at "go"
      refine x_addL (by assumption) (.tail _ (.head _)) (.head _) (by simp [vints, tailL]; walk_at "om") ?_
      intro nl h Ld
      walk_at "go"
      refine x_new (by assumption) ?_
      intro sl h Ld
      show wSs (LG sc n) p_law_2 LK _ h
      refine next _ h nl sl _ 0 (nums_ok sc) (by decide) rfl rfl (Led.sub Ld ?_)
      rw [List.take_length, List.take_length, vints_app]
      exact .cons_cons _ (.cons_cons _ (List.nil_sublist _))
    · rintro J hJ i acc _ hi ⟨rfl, rfl⟩
      refine ⟨.int tailL[i], by simp [srcAt, vints, hi], ?_⟩
      walk_at "go"
      refine ⟨rfl, ?_⟩
      rw [take_snoc hi, ← vints_app]; rfl
  · rintro J hJ i acc _ hi ⟨rfl, rfl⟩
    refine ⟨.int (sc.take 40)[i], src_i Ld (by trivial) (by first | exact get_map (by assumption) | (simp only [vints, List.getElem?_map, List.getElem?_eq_getElem hi]; rfl)), ?_⟩
    walk_at "go"
    refine ⟨by decide, ?_⟩
    walk_at "go"
    refine ⟨rfl, ?_⟩
    rw [take_snoc hi, List.map_append, ← vints_app]; rfl
end
end
section
section
variable {sc : List Int} {n : Nat} {h : H} {m : M}
structure B0 (m : M) (nl sl hl pl zl kl gl wl : Nat) (N third twos ones limit bits form : Nat) : Prop where
  v49 : m 49 = some (.ref nl)
  v50 : m 50 = some (.ref sl)
  v70 : m 70 = some (.int third)
  v52 : m 52 = some (.int N)
  v71 : m 71 = some (.int twos)
  v72 : m 72 = some (.int ones)
  v16 : m 16 = some (.int limit)
  v73 : m 73 = some (.int bits)
  v74 : m 74 = some (.int form)
  v18 : m 18 = some (.ref hl)
  v63 : m 63 = some (.ref pl)
  v56 : m 56 = some (.ref zl)
  v75 : m 75 = some (.ref kl)
  v76 : m 76 = some (.ref gl)
  v55 : m 55 = some (.ref wl)
theorem law_B (hn : 3 ≤ n) {nl sl : Nat} {ns : List Int} {i : Int} (no : Nums ns) (hi : 0 ≤ i) (v49 : m 49 = some (.ref nl)) (v50 : m 50 = some (.ref sl)) (Ld : Led h [(sl, .list [.int i]), (nl, .list (vints ns))])
    (next : ∀ (m : M) (h : H) (i : Int) (hl tl al cl fl rl pl zl kl gl wl : Nat) (N third twos ones limit bits form : Nat), 0 ≤ i → 0 < N → N ≤ 8 → third < 100000 → limit < 100 → bits < 4 → form < 3 → B0 m nl sl hl pl zl kl gl wl N third twos ones limit bits form → m 77 = some (.int 16) →
      Led h [(wl, .list []), (gl, .list []), (kl, .list []), (zl, .list []), (pl, .list []), (rl, .list []), (fl, .list []), (cl, .dict []), (al, .dict []), (tl, .list []), (hl, hpO (newP tl al cl fl rl limit bits)), (sl, .list [.int i]), (nl, .list (vints ns))] → wSs (LG sc n) p_law_18 LK m h) : wSs (LG sc n) p_law_2 LK m h := by
  obtain ⟨n1, n2, n3⟩ := no
  walk_at "go"
  refine sp_pull (by walk_at "le") Ld (by trivial) hi n1 (by walk_at "om") n3 ?_
  intro first h f1 Ld
  walk_at "go"
  refine sp_pull (by walk_at "le") Ld (by trivial) (by walk_at "om") n1 (by walk_at "om") n3 ?_
  intro second h f2 Ld
  walk_at "go"
  refine sp_pull (by walk_at "le") Ld (by trivial) (by walk_at "om") n1 (by walk_at "om") n3 ?_
  intro third h f3 Ld
  walk_at "go"
  refine ⟨by walk_at "om", ?_⟩
  walk_at "go"
  refine ⟨by walk_at "i", by walk_at "j", ?_⟩
  walk_at "go"
  refine ⟨by walk_at "om", ?_⟩
  walk_at "go"
  refine ⟨by walk_at "i", by walk_at "j", ?_⟩
  walk_at "go"
  refine ⟨by walk_at "om", ?_⟩
  walk_at "go"
  refine ⟨by walk_at "om", ?_⟩
  walk_at "go"
  refine ⟨by walk_at "i", by walk_at "j", ?_⟩
  walk_at "go"
  refine ⟨by walk_at "om", ?_⟩
  walk_at "go"
  refine ⟨by walk_at "i", by walk_at "j", ?_⟩
  walk_at "go"
  refine ⟨by walk_at "om", ?_⟩
  walk_at "go"
  intro hl hl0
  refine sp_Heap_init (by walk_at "le") (Ld.new hl0) ?_
  clear hl0
  intro tl al cl fl rl h Ld
  refine ⟨rfl, ?_⟩
  walk_at "go"
  refine x_new (by assumption) ?_
  intro pl h Ld
  walk_at "go"
  refine x_new (by assumption) ?_
  intro zl h Ld
  walk_at "go"
  refine x_new (by assumption) ?_
  intro kl h Ld
  walk_at "go"
  refine x_new (by assumption) ?_
  intro gl h Ld
  walk_at "go"
  refine x_new (by assumption) ?_
  intro wl h Ld
  show wSs (LG sc n) p_law_17 LK _ h
  have go17 : ∀ m : M, wSs (LG sc n) p_law_18 LK (upd m 77 (.int 16)) h → wSs (LG sc n) p_law_17 LK m h := fun m k => k
  refine go17 _ ?_
  have e1 : (1 : Int) + (first : Int) % 8 = ((1 + first % 8 : Nat) : Int) := by walk_at "om"
  have e2 : (first : Int) / 8 % 9 = ((first / 8 % 9 : Nat) : Int) := by walk_at "om"
  have e3 : (first : Int) / 72 % 9 = ((first / 72 % 9 : Nat) : Int) := by walk_at "om"
  have e4 : (4 : Int) + (second : Int) % 64 = ((4 + second % 64 : Nat) : Int) := by walk_at "om"
  have e5 : (second : Int) / 64 % 4 = ((second / 64 % 4 : Nat) : Int) := by walk_at "om"
  have e6 : (second : Int) / 256 % 3 = ((second / 256 % 3 : Nat) : Int) := by walk_at "om"
  rw [e4, e5] at Ld
  rw [e1, e2, e3, e4, e5, e6]
  exact next _ h (i + 1 + 1 + 1) hl tl al cl fl rl pl zl kl gl wl (1 + first % 8) third (first / 8 % 9) (first / 72 % 9) (4 + second % 64) (second / 64 % 4) (second / 256 % 3) (by walk_at "om") (by walk_at "om") (by walk_at "om") f3 (by walk_at "om") (by walk_at "om") (by walk_at "om") ⟨v49, v50, rfl, rfl, rfl, rfl, rfl, rfl, rfl, rfl, rfl, rfl, rfl, rfl, rfl⟩ rfl Ld
end
end
section
theorem wordsFor_max (c : Nat) : (if (2 : Int) + ((c : Nat) : Int) > 3 then 2 + ((c : Nat) : Int) else 3) = wordsFor c := by
  unfold wordsFor; split <;> split <;> walk_at "om"
noncomputable def LB (its : List Itm) (sl nl hl pl zl kl gl wl tl al : Nat) (ns : List Int) (ix : Int) (p : Hp) (T : List (Nat × O)) : List (Nat × O) :=
  (sl, .list [.int ix]) :: (wl, .list (whereV its)) :: (gl, .list (gensV its)) :: (kl, .list (kindsV its)) :: (zl, .list (sizesV its)) :: (pl, .list (specsV its)) :: (hl, hpO p) :: (tl, .list (locs (thsOf its))) :: (al, .dict (atD (thsOf its))) :: (nl, .list (vints ns)) ::
    (TL (thsOf its) ++ (slotL its ++ (specL its ++ T)))
noncomputable def hpAt (its : List Itm) (tl al cl fl rl : Nat) (limit bits : Nat) : Hp := { newP tl al cl fl rl limit bits with made := its.length, top := 16 + szs its, fresh := szs its }
theorem lb_perm (a b c : Nat × O) (A B C T : List (Nat × O)) : (a :: b :: c :: (A ++ (B ++ (C ++ T)))).Perm ((A ++ [a]) ++ ((B ++ [b]) ++ ((C ++ [c]) ++ T))) := by
  have h1 : (b :: c :: (A ++ (a :: (B ++ (C ++ T))))).Perm (a :: b :: c :: (A ++ (B ++ (C ++ T)))) := Pull.perm (.tail _ (.tail _ (Pull.mid A _)))
  have h2 : (c :: (A ++ (a :: (B ++ (b :: (C ++ T)))))).Perm (b :: c :: (A ++ (a :: (B ++ (C ++ T))))) := Pull.perm (.tail _ (by have := Pull.mid (p := b) (A ++ (a :: B)) (C ++ T); simpa using this))
  have h3 : (A ++ (a :: (B ++ (b :: (C ++ (c :: T)))))).Perm (c :: (A ++ (a :: (B ++ (b :: (C ++ T)))))) := Pull.perm (by have := Pull.mid (p := c) (A ++ (a :: (B ++ (b :: C)))) T; simpa using this)
  have := ((h3.trans h2).trans h1).symm
  simpa using this
theorem szs_lt {N : Nat} {its : List Itm} (I : ItsOk N its) : ∀ j, j ≤ its.length → ∀ k, k < j → szs (its.take k) + 3 ≤ szs (its.take j) := by
  intro j
  induction j with
  | zero => intro _ k hk; walk_at "om"
  | succ j ih =>
    intro hj k hk
    rw [take_snoc (by walk_at "om"), szs_snoc]
    have h1 := (I.at_ j (by walk_at "om")).size
    have h2 : 3 ≤ wordsFor (its[j]).sp.length := by unfold wordsFor; split <;> walk_at "om"
    rcases Nat.lt_or_ge k j with q | q
    · have := ih (by walk_at "om") k q; walk_at "om"
    · have : k = j := by walk_at "om"
      subst this; walk_at "om"
theorem atD_new {N : Nat} {its : List Itm} (I : ItsOk N its) (v : Qd.V) : putD (atD (thsOf its)) (16 + szs its) v = atD (thsOf its) ++ [(16 + szs its, v)] := by
  unfold putD
  rw [if_neg]
  intro h
  obtain ⟨e, he, q⟩ := List.any_eq_true.mp h
  unfold atD thsOf at he
  rw [List.map_map] at he
  obtain ⟨x, hx, rfl⟩ := List.mem_map.mp he
  obtain ⟨k, hk, rfl⟩ := List.getElem_of_mem hx
  have h1 := (I.at_ k hk).addr
  have h2 := szs_lt I its.length (Nat.le_refl _) k hk
  rw [List.take_length] at h2
  simp only [Function.comp, decide_eq_true_eq] at q
  walk_at "om"
theorem lb_final {h : H} {its : List Itm} {x : Itm} {sl nl hl pl zl kl gl wl tl al : Nat} {ns : List Int} {ix : Int} {p : Hp} {T : List (Nat × O)}
    (Ld : Led h ((sl, .list [.int ix]) :: (wl, .list (whereV its ++ [.int x.th.addr])) :: (gl, .list (gensV its ++ [.int x.th.gen])) :: (kl, .list (kindsV its ++ [.int x.th.kind])) :: (zl, .list (sizesV its ++ [.int x.th.size])) :: (pl, .list (specsV its ++ [.ref x.q])) :: (hl, hpO p) :: (tl, .list (locs (thsOf its) ++ [.ref x.th.loc])) :: (al, .dict (atD (thsOf its) ++ [(x.th.addr, .ref x.th.loc)])) :: (nl, .list (vints ns)) ::
      (x.th.loc, thO x.th) :: (x.th.sl, .list x.th.slots) :: (x.q, .list (x.sp.map Sp.V)) :: (TL (thsOf its) ++ (slotL its ++ (specL its ++ T))))) : Led h (LB (its ++ [x]) sl nl hl pl zl kl gl wl tl al ns ix p T) := by
  have Ld := Ld.perm (.cons _ (.cons _ (.cons _ (.cons _ (.cons _ (.cons _ (.cons _ (.cons _ (.cons _ (.cons _ (lb_perm _ _ _ _ _ _ _)))))))))))
  simp only [LB, whereV, gensV, kindsV, sizesV, specsV, thsOf, locs, atD, TL, slotL, specL, List.map_append, List.map_cons, List.map_nil] at Ld ⊢
  exact Ld
theorem law_C6 {g : G} {S : KS} {m : M} {h : H} {k twos ones gl : Nat} {gs : List V} {L : List (Nat × O)} {L' : V → List (Nat × O)} (v44 : m 44 = some (.int k)) (v71 : m 71 = some (.int twos)) (v72 : m 72 = some (.int ones)) (v76 : m 76 = some (.ref gl)) (Ld : Led h L)
    (u : ∀ v, Upd gl (.list gs) (.list (gs ++ [v])) L (L' v)) (hl : gs.length < 100000) (next : ∀ h gn, (gn = 0 ∨ gn = 1 ∨ gn = 2) → Led h (L' (.int gn)) → wSs g p_law_18b_7 S m h) : wSs g p_law_18b_6 S m h := by
  have um := (u .none).mem
  walk_at "go"
  by_cases q1 : (k : Int) < (twos : Int)
  · first | refine s_ltT (q1) ?_ | refine s_leT (q1) ?_ | refine s_gtT (q1) ?_ | refine s_geT (q1) ?_
    walk_at "go"
    refine s_Ap1 (by assumption) (by trivial) ?_
    walk_at "go"
    refine x_append (by assumption) (u _) hl ?_
    intro h Ld
    show wSs g p_law_18b_7 S m h
    exact next h _ (.inr (.inr rfl)) Ld
  · first | refine s_ltF (q1) ?_ | refine s_leF (q1) ?_ | refine s_gtF (q1) ?_ | refine s_geF (q1) ?_
    walk_at "go"
    by_cases q2 : (k : Int) < (twos : Int) + (ones : Int)
    · first | refine s_ltT (q2) ?_ | refine s_leT (q2) ?_ | refine s_gtT (q2) ?_ | refine s_geT (q2) ?_
      walk_at "go"
      refine s_Ap1 (by assumption) (by trivial) ?_
      walk_at "go"
      refine x_append (by assumption) (u _) hl ?_
      intro h Ld
      show wSs g p_law_18b_7 S m h
      exact next h _ (.inr (.inl rfl)) Ld
    · first | refine s_ltF (q2) ?_ | refine s_leF (q2) ?_ | refine s_gtF (q2) ?_ | refine s_geF (q2) ?_
      walk_at "go"
      refine s_Ap1 (by assumption) (by trivial) ?_
      walk_at "go"
      refine x_append (by assumption) (u _) hl ?_
      intro h Ld
      show wSs g p_law_18b_7 S m h
      exact next h _ (.inl rfl) Ld
section
variable {sc : List Int} {n : Nat} {h : H} {m : M}
theorem law_C (hn : 4 ≤ n) {nl sl : Nat} {ns : List Int} {i : Int} {hl tl al cl fl rl pl zl kl gl wl : Nat} {N third twos ones limit bits form : Nat} (no : Nums ns) (hi : 0 ≤ i) (N0 : 0 < N) (N1 : N ≤ 8)
    (V : B0 m nl sl hl pl zl kl gl wl N third twos ones limit bits form) (v77 : m 77 = some (.int 16))
    (Ld : Led h [(wl, .list []), (gl, .list []), (kl, .list []), (zl, .list []), (pl, .list []), (rl, .list []), (fl, .list []), (cl, .dict []), (al, .dict []), (tl, .list []), (hl, hpO (newP tl al cl fl rl limit bits)), (sl, .list [.int i]), (nl, .list (vints ns))])
    (next : ∀ (m : M) (h : H) (i : Int) (its : List Itm), 0 ≤ i → its.length = N → ItsOk N its → B0 m nl sl hl pl zl kl gl wl N third twos ones limit bits form →
      Led h (LB its sl nl hl pl zl kl gl wl tl al ns i (hpAt its tl al cl fl rl limit bits) [(rl, .list []), (fl, .list []), (cl, .dict [])]) → wSs (LG sc n) p_law_19 LK m h) : wSs (LG sc n) p_law_18 LK m h := by
  have V0 := V
  obtain ⟨v49, v50, v70, v52, v71, v72, v16, v73, v74, v18, v63, v56, v75, v76, v55⟩ := V0
  obtain ⟨n1, n2, n3⟩ := id no
  walk_at "go"
  refine ⟨by walk_at "i", by walk_at "j", ?_⟩
  refine for_inv N (fun k m h' => ∃ (its : List Itm) (i : Int), A6 (its.length = k) (0 ≤ i) (ItsOk N its) (B0 m nl sl hl pl zl kl gl wl N third twos ones limit bits form) (m 77 = some (.int (16 + szs its))) (Led h' (LB its sl nl hl pl zl kl gl wl tl al ns i (hpAt its tl al cl fl rl limit bits) [(rl, .list []), (fl, .list []), (cl, .dict [])]))) ?_ ?_ ⟨[], i, rfl, hi, .nil N, V, v77, ?_⟩
  · rintro m h ⟨its, i, e, hi, I, V, v77, Ld⟩
    refine ⟨src_range_end, ?_⟩
    show wSs (LG sc n) p_law_19 LK _ h
    exact next m h i its hi e I V Ld
  · clear v49 v50 v70 v52 v71 v72 v16 v73 v74 v18 v63 v56 v75 v76 v55 v77 V Ld
    rintro J hJ k m h hk ⟨its, i, e, hi, I, V, v77, Ld⟩
    refine ⟨.int k, _, src_range_in hk, rfl, ?_⟩
    obtain ⟨v49, v50, v70, v52, v71, v72, v16, v73, v74, v18, v63, v56, v75, v76, v55⟩ := id V
    unfold LB at Ld
    generalize hZ : TL (thsOf its) ++ (slotL its ++ (specL its ++ [(rl, O.list []), (fl, O.list []), (cl, O.dict [])])) = Z at Ld
    have l1 : (specsV its).length = k := by simp [specsV, e]
    have l2 : (sizesV its).length = k := by simp [sizesV, e]
    have l3 : (kindsV its).length = k := by simp [kindsV, e]
    have l4 : (gensV its).length = k := by simp [gensV, e]
    have l5 : (whereV its).length = k := by simp [whereV, e]
    walk_at "go"
    refine sp_pull (by walk_at "le") Ld (by trivial) hi n1 (by walk_at "om") n3 ?_
    intro x h hx Ld
    walk_at "go"
    refine s_Ap1 (by assumption) (by trivial) ?_
    walk_at "go"
    refine ⟨by walk_at "om", ?_⟩
    have ex : (x : Int) % 4 = ((x % 4 : Nat) : Int) := by walk_at "om"
    rw [ex]
    walk_at "go"
    refine ⟨by walk_at "i", by walk_at "j", ?_⟩
    refine comp_inv (x % 4) (fun j acc h' => ∃ (sps : List Sp) (i : Int), A5 (sps.length = j) (acc = sps.map Sp.V) ((∀ s ∈ sps, s.Ok N 8)) (0 ≤ i) (Led h' (LB its sl nl hl pl zl kl gl wl tl al ns i (hpAt its tl al cl fl rl limit bits) [(rl, .list []), (fl, .list []), (cl, .dict [])]))) (by walk_at "om") ?_ ?_ ⟨[], i + 1, rfl, rfl, by simp, by walk_at "om", by unfold LB; rw [hZ]; exact Ld⟩
    · rintro acc h ⟨sps, i, e2, rfl, ok, hi, Ld⟩
      unfold LB at Ld
      rw [hZ] at Ld
      refine ⟨src_range_end, ?_⟩
      refine x_new (by assumption) ?_
      intro q h Ld
      walk_at "go"
      refine x_append (by assumption) (by trivial) (by walk_at "om") ?_
      intro h Ld
      walk_at "go"
      refine s_Ap1 (by assumption) (by trivial) ?_
      walk_at "go"
      refine ⟨by walk_at "om", ?_⟩
      rw [ex]
      walk_at "go"
      rw [wordsFor_max]
      refine x_append (by assumption) (by trivial) (by walk_at "om") ?_
      intro h Ld
      walk_at "go"
      refine s_Ap1 (by assumption) (by trivial) ?_
      walk_at "go"
      refine ⟨by walk_at "i", by walk_at "j", ?_⟩
      walk_at "go"
      refine ⟨by walk_at "om", ?_⟩
      walk_at "go"
      refine x_append (by assumption) (by trivial) (by walk_at "om") ?_
      intro h Ld
      walk_at "go"
      refine s_Ap1 (by assumption) (by trivial) ?_
      walk_at "go"
      refine x_append (by assumption) (by trivial) (by walk_at "om") ?_
      intro h Ld
      walk_at "go"
      refine x_idxL (v := Qd.V.int (wordsFor (x % 4 : Nat))) (by assumption) (by trivial) (by walk_at "i") (by walk_at "j") (by rw [Int.toNat_natCast]; simp [l2]) ?_
      walk_at "ds2"
      walk_at "ds"
      refine law_C6 (k := k) (twos := twos) (ones := ones) (gl := gl) rfl v71 v72 v76 Ld (fun v => by trivial) (by walk_at "om") ?_
      intro h gn hgn Ld
      walk_at "go"
      refine x_idxL (v := Qd.V.int (20 + (x : Int) / 4 % 3)) (by assumption) (by trivial) (by walk_at "i") (by walk_at "j") (by rw [Int.toNat_natCast]; simp [l3]) ?_
      walk_at "go"
      refine ⟨by walk_at "om", ?_⟩
      rw [ex]
      walk_at "go"
      refine ⟨by walk_at "i", by walk_at "j", ?_⟩
      refine comp_inv (x % 4) (fun j acc h' => h' = h ∧ acc = List.replicate j (Qd.V.tup [.int 4, .int 0])) (by walk_at "om") ?_ ?_ ⟨rfl, rfl⟩
      · rintro acc _ ⟨rfl, rfl⟩
        refine ⟨src_range_end, ?_⟩
        refine x_new (by assumption) ?_
        intro s h Ld
        walk_at "go"
        have Ld := ((Led.pull (p := (al, .dict (atD (thsOf its)))) Ld (by trivial)).pull (p := (tl, .list (locs (thsOf its)))) (by trivial)).pull (p := (hl, hpO (hpAt its tl al cl fl rl limit bits))) (by trivial)
        refine sp_heap_alloc (p := hpAt its tl al cl fl rl limit bits) (xs := locs (thsOf its)) (es := atD (thsOf its)) (by walk_at "le") Ld (.head _) (by simp; walk_at "om") (by simp [locs, thsOf, e]; walk_at "om") (by simp [atD, thsOf, e]; walk_at "om") ?_
        intro l h Ld
        walk_at "go"
        refine x_idxL (v := Qd.V.int gn) (by assumption) (by trivial) (by walk_at "i") (by walk_at "j") (by rw [Int.toNat_natCast]; simp [l4]) ?_
        walk_at "go"
        walk_at "setA"
        intro h Ld
        walk_at "go"
        have elen : (List.replicate (x % 4) (Qd.V.tup [.int 4, .int 0])).length = sps.length := by simp [e2]
        have Ix : ItsOk N (its ++ [⟨q, sps, { loc := l, sl := s, addr := 16 + szs its, kind := 20 + (x : Int) / 4 % 3, gen := gn, size := wordsFor (x % 4 : Nat), serial := (its.length : Int) + 1, slots := List.replicate (x % 4) (Qd.V.tup [.int 4, .int 0]) }⟩]) :=
          I.snoc ⟨rfl, by rw [← e2], by show sps.length ≤ 3; walk_at "om", ok, hgn, rfl, elen⟩
        refine ⟨_, i, by simp [e], hi, Ix, ⟨v49, v50, v70, v52, v71, v72, v16, v73, v74, v18, v63, v56, v75, v76, v55⟩, ?_, ?_⟩
        · rw [szs_snoc]
          exact congrArg (fun z => some (Qd.V.int z)) (by dsimp only; walk_at "om")
        · have Ld := ((((((((((((Led.pull (p := (q, _)) Ld (by trivial)).pull (p := (s, _)) (by trivial)).pull (p := (l, _)) (by trivial)).pull (p := (nl, _)) (by trivial)).pull (p := (al, _)) (by trivial)).pull (p := (tl, _)) (by trivial)).pull (p := (hl, _)) (by trivial)).pull (p := (pl, _)) (by trivial)).pull (p := (zl, _)) (by trivial)).pull (p := (kl, _)) (by trivial)).pull (p := (gl, _)) (by trivial)).pull (p := (wl, _)) (by trivial)).pull (p := (sl, _)) (by trivial)
          have eat : putD (atD (thsOf its)) (16 + szs its) (Qd.V.ref l) = atD (thsOf its) ++ [(16 + szs its, Qd.V.ref l)] := atD_new I _
          rw [List.length_replicate] at Ld
          have Ld := lb_final (its := its) (T := [(rl, O.list []), (fl, O.list []), (cl, O.dict [])]) (x := ⟨q, sps, { loc := l, sl := s, addr := 16 + szs its, kind := 20 + (x : Int) / 4 % 3, gen := gn, size := wordsFor (x % 4 : Nat), serial := (its.length : Int) + 1, slots := List.replicate (x % 4) (Qd.V.tup [.int 4, .int 0]) }⟩) (by rw [hZ, ← eat]; exact Ld)
          have eP : hpAt (its ++ [⟨q, sps, { loc := l, sl := s, addr := 16 + szs its, kind := 20 + (x : Int) / 4 % 3, gen := gn, size := wordsFor (x % 4 : Nat), serial := (its.length : Int) + 1, slots := List.replicate (x % 4) (Qd.V.tup [.int 4, .int 0]) }⟩]) tl al cl fl rl limit bits = { hpAt its tl al cl fl rl limit bits with made := (its.length : Int) + 1, top := 16 + szs its + wordsFor (x % 4 : Nat), fresh := szs its + wordsFor (x % 4 : Nat) } := by
            unfold hpAt
            rw [szs_snoc]
            simp [Int.add_assoc]
          rw [eP]
          exact Ld
      · rintro J hJ j acc _ hj ⟨rfl, rfl⟩
        refine ⟨.int j, src_range_in hj, ?_⟩
        walk_at "go"
        exact ⟨rfl, by rw [List.replicate_succ']⟩

    · rintro J hJ j acc h hj ⟨sps, i, e2, rfl, ok, hi, Ld⟩
      unfold LB at Ld
      rw [hZ] at Ld
      refine ⟨.int j, src_range_in hj, ?_⟩
      walk_at "go"
      refine sp_pull (by walk_at "le") Ld (by trivial) hi n1 (by walk_at "om") n3 ?_
      intro y h hy Ld
      walk_at "go"
      refine sp_spec (N := N) (k := 8) (by walk_at "le") hy N0 (by walk_at "om") (by walk_at "om") (by walk_at "om") ?_
      intro s hs
      walk_at "go"
      refine ⟨sps ++ [s], i + 1, by simp [e2], by simp, fun s' hs' => ?_, by walk_at "om", by unfold LB; rw [hZ]; exact Ld⟩
      rcases List.mem_append.mp hs' with r | r
      · exact ok s' r
      · rw [List.mem_singleton.mp r]; exact hs
  · have Ld := ((((((((((Led.pull (p := (nl, .list (vints ns))) Ld (by trivial)).pull (p := (al, .dict [])) (by trivial)).pull (p := (tl, .list [])) (by trivial)).pull (p := (hl, hpO (newP tl al cl fl rl limit bits))) (by trivial)).pull (p := (pl, .list [])) (by trivial)).pull (p := (zl, .list [])) (by trivial)).pull (p := (kl, .list [])) (by trivial)).pull (p := (gl, .list [])) (by trivial)).pull (p := (wl, .list [])) (by trivial)).pull (p := (sl, .list [.int i])) (by trivial))
    exact Ld
end
end
section
noncomputable def itAt (its : List Itm) (i : Nat) : Itm := its.getD i ⟨0, [], ⟨0, 0, 0, 0, 0, 0, 0, []⟩⟩
theorem tab_of {its : List Itm} (f : Itm → Int) : (its.map fun x => V.int (f x)) = tab its.length fun i => f (itAt its i) := by
  unfold tab itAt
  refine List.ext_getElem (by simp) fun i h1 h2 => ?_
  simp only [List.length_map] at h1
  simp [h1]
theorem itAt_lt {its : List Itm} {i : Nat} (h : i < its.length) : itAt its i = its[i] := by unfold itAt; simp [h]
noncomputable def wF (its : List Itm) (i : Nat) : Int := (itAt its i).th.addr
noncomputable def zF (its : List Itm) (i : Nat) : Int := (itAt its i).th.size
theorem whereV_tab (its : List Itm) : whereV its = tab its.length (wF its) := tab_of (fun x => x.th.addr)
theorem sizesV_tab (its : List Itm) : sizesV its = tab its.length (zF its) := tab_of (fun x => x.th.size)
theorem eqE_same {h : H} {L : List (Nat × O)} {a b : Nat} {xs : List V} {Q : Prop} (Ld : Led h L) (m1 : (a, .list xs) ∈ L) (m2 : (b, .list xs) ∈ L) (k : ∀ x ∈ xs, Deep h 7 x (vD x)) (q : Q) : ∃ d, Deep h 8 (.ref a) d ∧ Deep h 8 (.ref b) d ∧ Q :=
  ⟨.list (vDs xs), .list (Ld.get m1) (deeps_of k), .list (Ld.get m2) (deeps_of k), q⟩
section
variable {sc : List Int} {n : Nat} {h : H} {m : M}
theorem law_D (hn : 4 ≤ n) {nl sl : Nat} {ns : List Int} {i : Int} {hl tl al cl fl rl pl zl kl gl wl : Nat} {N third twos ones limit bits form : Nat} {its : List Itm} (e : its.length = N) (N1 : N ≤ 8)
    (V : B0 m nl sl hl pl zl kl gl wl N third twos ones limit bits form)
    (Ld : Led h (LB its sl nl hl pl zl kl gl wl tl al ns i (hpAt its tl al cl fl rl limit bits) [(rl, .list []), (fl, .list []), (cl, .dict [])]))
    (next : ∀ (h : H), Led h (LB its sl nl hl pl zl kl gl wl tl al ns i (hpAt its tl al cl fl rl limit bits) [(rl, .list []), (fl, .list []), (cl, .dict [])]) → wSs (LG sc n) p_law_20 LK m h) : wSs (LG sc n) p_law_19 LK m h := by
  obtain ⟨v49, v50, v70, v52, v71, v72, v16, v73, v74, v18, v63, v56, v75, v76, v55⟩ := id V
  have Ld0 := Ld
  unfold LB at Ld
  generalize hZ : TL (thsOf its) ++ (slotL its ++ (specL its ++ [(rl, O.list []), (fl, O.list []), (cl, O.dict [])])) = Z at Ld
  have hth : ∀ x ∈ its, (x.th.loc, thO x.th) ∈ Z := fun x hx => by
    rw [← hZ]; exact List.mem_append_left _ (List.mem_map.mpr ⟨x.th, List.mem_map.mpr ⟨x, hx, rfl⟩, rfl⟩)
  walk_at "go"
  refine comp_inv (s := .list tl) its.length (fun k acc h' => h' = h ∧ acc = whereV (its.take k)) (by walk_at "om") ?_ ?_ ⟨rfl, rfl⟩
  · rintro acc _ ⟨rfl, rfl⟩
    refine ⟨src_e Ld (by trivial) (by first | exact List.length_map _ | exact (List.length_map _).trans (List.length_map _) | (simp [locs, thsOf])), ?_⟩
    rw [List.take_length]
    refine x_new (by assumption) ?_
    intro l h Ld
    walk_at "go"
    refine eqE_same (xs := whereV its) Ld (.head _) (by trivial) (fun x hx => ?_) ?_
    · obtain ⟨y, _, rfl⟩ := List.mem_map.mp hx
      exact deep_int _
    walk_at "go"
    show wSs (LG sc n) p_law_20 LK m h
    refine next h ?_
    unfold LB
    rw [hZ]
    exact Ld.drop
  · rintro J hJ k acc _ hk ⟨rfl, rfl⟩
    have hx := hth _ (List.getElem_mem hk)
    refine ⟨.ref (its[k]).th.loc, src_i Ld (by trivial) (by first | exact get_map (by assumption) | (simp [locs, thsOf, hk])), ?_⟩
    walk_at "go"
    refine ⟨rfl, ?_⟩
    rw [take_snoc hk, whereV, whereV, List.map_append]; rfl
end
end
section
theorem cset_self (cont : Nat → List V) (l : Nat) : cset cont l (cont l) = cont := by
  funext x; unfold cset; split
  · rename_i e; rw [e]
  · rfl
theorem VL_pull {l : Nat} : ∀ {ls : List Nat} {cont : Nat → List V}, ls.Nodup → l ∈ ls → ∃ L', ∀ v, Pull (l, .list v) (VL ls (cset cont l v)) L'
  | a :: r, cont, hd, hm => by
    obtain ⟨h1, h2⟩ := List.nodup_cons.mp hd
    rcases List.mem_cons.mp hm with rfl | hm
    · refine ⟨VL r cont, fun v => ?_⟩
      have e : VL (l :: r) (cset cont l v) = (l, O.list v) :: VL r cont := by
        unfold VL
        rw [List.map_cons]
        congr 1
        · simp [cset]
        · refine List.map_congr_left fun x hx => ?_
          have : x ≠ l := fun e => h1 (e ▸ hx)
          simp [cset, this]
      rw [e]; exact .head _
    · obtain ⟨L', k⟩ := VL_pull (cont := cont) h2 hm
      have ne : a ≠ l := fun e => h1 (e ▸ hm)
      refine ⟨(a, .list (cont a)) :: L', fun v => ?_⟩
      have e : VL (a :: r) (cset cont l v) = (a, O.list (cont a)) :: VL r (cset cont l v) := by
        unfold VL
        rw [List.map_cons]
        simp [cset, ne]
      rw [e]; exact .tail _ (k v)
theorem Pull.appR {p : Nat × O} {A A' R : List (Nat × O)} (u : Pull p A A') : Pull p (A ++ R) (A' ++ R) := by
  induction u with
  | head r => exact .head _
  | tail q u ih => exact .tail _ ih
theorem Pull.appL {p : Nat × O} {R R' : List (Nat × O)} (u : Pull p R R') : ∀ X : List (Nat × O), Pull p (X ++ R) (X ++ R')
  | [] => u
  | a :: X => .tail _ (Pull.appL u X)
noncomputable def valsOf (its : List Itm) (x : Itm) : List V := x.sp.map fun s => (lawS (wF its) (zF its) s).v

noncomputable def sls (its : List Itm) : List Nat := its.map (·.th.sl)
theorem slotL_VL : ∀ {its : List Itm}, (sls its).Nodup → ∃ c0, slotL its = VL (sls its) c0 ∧ ∀ x ∈ its, c0 x.th.sl = x.th.slots
  | [], _ => ⟨fun _ => [], rfl, by simp⟩
  | a :: r, hd => by
    obtain ⟨h1, h2⟩ := List.nodup_cons.mp hd
    obtain ⟨c0, e, k⟩ := slotL_VL (its := r) h2
    have ne : ∀ x ∈ r, x.th.sl ≠ a.th.sl := fun x hx q => h1 (List.mem_map.mpr ⟨x, hx, q⟩)
    refine ⟨cset c0 a.th.sl a.th.slots, ?_, fun x hx => ?_⟩
    · have e2 : VL (sls (a :: r)) (cset c0 a.th.sl a.th.slots) = (a.th.sl, O.list a.th.slots) :: VL (sls r) c0 := by
        show VL (a.th.sl :: sls r) _ = _
        unfold VL
        rw [List.map_cons]
        congr 1
        · simp [cset]
        · refine List.map_congr_left fun x hx => ?_
          obtain ⟨y, hy, rfl⟩ := List.mem_map.mp hx
          simp [cset, ne y hy]
      rw [e2, ← e]; rfl
    · rcases List.mem_cons.mp hx with rfl | hx
      · simp [cset]
      · simp [cset, ne x hx]; exact k x hx
theorem szs_nn {N : Nat} {its : List Itm} (I : ItsOk N its) (j : Nat) (hj : j ≤ its.length) : 0 ≤ szs (its.take j) := by
  rcases Nat.eq_zero_or_pos j with q | q
  · subst q; simp [szs]
  · have := szs_lt I j hj 0 q
    simp [szs] at this ⊢
    walk_at "om"
theorem w_pos {N : Nat} {its : List Itm} (I : ItsOk N its) (e : its.length = N) {i : Nat} (hi : i < N) : 16 ≤ wF its i := by
  have h1 := (I.at_ i (by walk_at "om")).addr
  have h2 := szs_nn I i (by walk_at "om")
  unfold wF
  rw [itAt_lt (by walk_at "om"), h1]; walk_at "om"
theorem z_pos {N : Nat} {its : List Itm} (I : ItsOk N its) (e : its.length = N) {i : Nat} (hi : i < N) : 0 < zF its i ∧ zF its i < 1000 := by
  have h1 := (I.at_ i (by walk_at "om")).size
  have h2 := (I.at_ i (by walk_at "om")).few
  unfold zF
  rw [itAt_lt (by walk_at "om"), h1]
  unfold wordsFor
  split <;> walk_at "om"
theorem lawS_ok {N k : Nat} {w sz : Nat → Int} {s : Sp} (ok : s.Ok N k) (hw : ∀ i, i < N → w i ≠ 0) : (lawS w sz s).ok := by
  obtain ⟨c, a, b, m⟩ := s
  obtain ⟨o1, o2, o3, o4⟩ := ok
  dsimp only at o1 o2 o3 o4
  unfold lawS
  dsimp only
  split
  all_goals first | exact True.intro | exact hw _ o2 | exact ⟨hw _ o2, hw _ o3⟩ | skip
  show sortOf b ≠ 3
  unfold sortOf
  split
  · decide
  · split <;> decide
theorem Sp.Ok.mono {N k k' : Nat} {s : Sp} (h : k ≤ k') (o : s.Ok N k) : s.Ok N k' := ⟨by have := o.c; walk_at "om", o.a, o.b, o.m⟩
noncomputable def LE (its : List Itm) (cont : Nat → List V) (sl nl hl pl zl kl gl wl tl al : Nat) (ns : List Int) (ix : Int) (p : Hp) (T : List (Nat × O)) : List (Nat × O) :=
  (sl, .list [.int ix]) :: (wl, .list (whereV its)) :: (gl, .list (gensV its)) :: (kl, .list (kindsV its)) :: (zl, .list (sizesV its)) :: (pl, .list (specsV its)) :: (hl, hpO p) :: (tl, .list (locs (thsOf its))) :: (al, .dict (atD (thsOf its))) :: (nl, .list (vints ns)) ::
    (TL (thsOf its) ++ (VL (sls its) cont ++ (specL its ++ T)))
section
variable {sc : List Int} {n : Nat} {h : H} {m : M}
theorem law_E (hn : 4 ≤ n) {nl sl : Nat} {ns : List Int} {i : Int} {hl tl al cl fl rl pl zl kl gl wl : Nat} {N third twos ones limit bits form : Nat} {its : List Itm} (e : its.length = N) (N1 : N ≤ 8) (I : ItsOk N its) (hbits : bits < 4)
    (V : B0 m nl sl hl pl zl kl gl wl N third twos ones limit bits form)
    (Ld : Led h (LB its sl nl hl pl zl kl gl wl tl al ns i (hpAt its tl al cl fl rl limit bits) [(rl, .list []), (fl, .list []), (cl, .dict [])]))
    (next : ∀ (m : M) (h : H) (cont : Nat → List Qd.V) (es : List (Int × Qd.V)), (∀ x ∈ its, cont x.th.sl = valsOf its x) → B0 m nl sl hl pl zl kl gl wl N third twos ones limit bits form → es.length < 100 →
      Led h (LE its cont sl nl hl pl zl kl gl wl tl al ns i (hpAt its tl al cl fl rl limit bits) [(rl, .list []), (fl, .list []), (cl, .dict es)]) → wSs (LG sc n) p_law_21 LK m h) : wSs (LG sc n) p_law_20 LK m h := by
  have few : ∀ x ∈ its, x.sp.length ≤ 3 := fun x hx => by
    obtain ⟨k, hk, rfl⟩ := List.getElem_of_mem hx
    exact (I.at_ k hk).few
  have nd : (sls its).Nodup := by
    have Ld2 := Ld
    unfold LB at Ld2
    have h2 : ((slotL its).map (·.1)).Nodup := (((Led.dropN (TL (thsOf its)) Ld2.drop.drop.drop.drop.drop.drop.drop.drop.drop.drop).sub (List.sublist_append_left _ _))).nd
    have e2 : (slotL its).map (·.1) = sls its := by unfold slotL sls; rw [List.map_map]; rfl
    rw [← e2]; exact h2
  obtain ⟨c0, ec, kc⟩ := slotL_VL nd
  have Ld : Led h (LE its c0 sl nl hl pl zl kl gl wl tl al ns i (hpAt its tl al cl fl rl limit bits) [(rl, .list []), (fl, .list []), (cl, .dict [])]) := by
    unfold LB at Ld
    rw [ec] at Ld
    exact Ld
  obtain ⟨v49, v50, v70, v52, v71, v72, v16, v73, v74, v18, v63, v56, v75, v76, v55⟩ := id V
  walk_at "go"
  refine ⟨by walk_at "i", by walk_at "j", ?_⟩
  refine for_inv N (fun j m h' => ∃ cont es, A4 (es.length ≤ 3 * j) ((∀ k (hk : k < its.length), cont (its[k]).th.sl = if k < j then valsOf its its[k] else (its[k]).th.slots)) (B0 m nl sl hl pl zl kl gl wl N third twos ones limit bits form) (Led h' (LE its cont sl nl hl pl zl kl gl wl tl al ns i (hpAt its tl al cl fl rl limit bits) [(rl, .list []), (fl, .list []), (cl, .dict es)]))) ?_ ?_ ⟨c0, [], by simp, fun k hk => (kc _ (List.getElem_mem hk)).trans (if_neg (Nat.not_lt_zero k)).symm, V, Ld⟩
  · rintro m h ⟨cont, es, q1, q2, V, Ld⟩
    refine ⟨src_range_end, ?_⟩
    show wSs (LG sc n) p_law_21 LK _ h
    refine next m h cont es (fun x hx => ?_) V (by walk_at "om") Ld
    obtain ⟨k, hk, rfl⟩ := List.getElem_of_mem hx
    rw [q2 k hk, if_pos (by walk_at "om")]
  · clear v49 v50 v70 v52 v71 v72 v16 v73 v74 v18 v63 v56 v75 v76 v55 V Ld
    rintro J hJ j m h hj ⟨cont, es, q1, q2, V, Ld⟩
    refine ⟨.int j, _, src_range_in hj, rfl, ?_⟩
    have hj' : j < its.length := by walk_at "om"
    have hxm := List.getElem_mem hj'
    have hI := I.at_ j hj'
    have hv0 := q2 j hj'
    rw [if_neg (Nat.lt_irrefl j)] at hv0
    have hspec : (specsV its)[((j : Nat) : Int).toNat]? = some (.ref (its[j]).q) := by rw [Int.toNat_natCast]; simp [specsV, hj']
    have hloc : (locs (thsOf its))[((j : Nat) : Int).toNat]? = some (.ref (its[j]).th.loc) := by rw [Int.toNat_natCast]; simp [locs, thsOf, hj']
    generalize hx : its[j] = x at *
    have fx := few x hxm
    have inj : ∀ k (hk : k < its.length), k ≠ j → (its[k]).th.sl ≠ x.th.sl := fun k hk ne q => by
      have h1 : (sls its)[k]'(by simpa [sls] using hk) = (sls its)[j]'(by simpa [sls] using hj') := by simp [sls, hx, q]
      exact ne ((List.getElem_inj nd).mp h1)
    have msl : x.th.sl ∈ sls its := List.mem_map.mpr ⟨x, hxm, rfl⟩
    have mth : ∀ T, (x.th.loc, thO x.th) ∈ TL (thsOf its) ++ T := fun T => List.mem_append_left _ (List.mem_map.mpr ⟨x.th, List.mem_map.mpr ⟨x, hxm, rfl⟩, rfl⟩)
    have msp : ∀ A B T, (x.q, O.list (x.sp.map Sp.V)) ∈ A ++ (B ++ (specL its ++ T)) := fun A B T => List.mem_append_right _ (List.mem_append_right _ (List.mem_append_left _ (List.mem_map.mpr ⟨x, hxm, rfl⟩)))
    obtain ⟨v49, v50, v70, v52, v71, v72, v16, v73, v74, v18, v63, v56, v75, v76, v55⟩ := id V
    have Ld0 := Ld
    unfold LE at Ld
    have msp0 := msp (TL (thsOf its)) (VL (sls its) cont) [(rl, .list []), (fl, .list []), (cl, .dict es)]
    generalize hZ : TL (thsOf its) ++ (VL (sls its) cont ++ (specL its ++ [(rl, O.list []), (fl, O.list []), (cl, O.dict es)])) = Z at Ld msp0
    walk_at "go"
    refine x_idxL (v := .ref x.q) (by assumption) (by trivial) (by walk_at "i") (by walk_at "j") hspec ?_
    walk_at "go"
    refine x_lenL (xs := x.sp.map Sp.V) (by assumption) (by trivial) (by simp; walk_at "om") ?_
    rw [List.length_map]
    walk_at "go"
    refine ⟨by walk_at "i", by walk_at "j", ?_⟩
    refine for_inv x.sp.length (fun k m h' => ∃ cont es, A6 (es.length ≤ 3 * j + k) ((∀ k' (hk : k' < its.length), k' ≠ j → cont (its[k']).th.sl = if k' < j then valsOf its its[k'] else (its[k']).th.slots)) (cont x.th.sl = (valsOf its x).take k ++ x.th.slots.drop k) (B0 m nl sl hl pl zl kl gl wl N third twos ones limit bits form) (m 44 = some (.int j)) (Led h' (LE its cont sl nl hl pl zl kl gl wl tl al ns i (hpAt its tl al cl fl rl limit bits) [(rl, .list []), (fl, .list []), (cl, .dict es)]))) ?_ ?_ ⟨cont, es, by walk_at "om", fun k hk _ => q2 k hk, by simpa using hv0, ⟨v49, v50, v70, v52, v71, v72, v16, v73, v74, v18, v63, v56, v75, v76, v55⟩, rfl, Ld0⟩
    · rintro m h ⟨cont, es, q1, q2, q3, V, v44, Ld⟩
      refine ⟨src_range_end, ?_⟩
      walk_at "go"
      have hl := hI.len
      refine ⟨cont, es, by walk_at "om", fun k hk => ?_, V, Ld⟩
      by_cases ek : k = j
      · subst ek
        rw [if_pos (by walk_at "om"), hx, q3, ← hl, List.drop_length, List.take_of_length_le (by simp [valsOf, hl]), List.append_nil]
      · rw [q2 k hk ek]
        by_cases q : k < j
        · rw [if_pos q, if_pos (by walk_at "om")]
        · rw [if_neg q, if_neg (by walk_at "om")]
    · clear v49 v50 v70 v52 v71 v72 v16 v73 v74 v18 v63 v56 v75 v76 v55 V Ld Ld0 q1 q2 hv0 msp0 hZ Z cont es
      rintro J hJ k m h hk ⟨cont, es, q1, q2, q3, V, v44, Ld⟩
      refine ⟨.int k, _, src_range_in hk, rfl, ?_⟩
      obtain ⟨v49, v50, v70, v52, v71, v72, v16, v73, v74, v18, v63, v56, v75, v76, v55⟩ := id V
      have hso := hI.ok _ (List.getElem_mem hk)
      have hsp : (x.sp.map Sp.V)[((k : Nat) : Int).toNat]? = some (x.sp[k]).V := by rw [Int.toNat_natCast]; simp [hk]
      have hva : (valsOf its x)[k]'(by simpa [valsOf] using hk) = (lawS (wF its) (zF its) x.sp[k]).v := by simp [valsOf]
      generalize hs : x.sp[k] = s at *
      unfold LE at Ld
      obtain ⟨VL', pvl⟩ := VL_pull (cont := cont) nd msl
      have pv0 := pvl (cont x.th.sl)
      rw [cset_self] at pv0
      have Ld := Led.pull (p := (cl, O.dict es)) Ld (.tail _ (.tail _ (.tail _ (.tail _ (.tail _ (.tail _ (.tail _ (.tail _ (.tail _ (.tail _ (Pull.appL (Pull.appL (Pull.appL (.tail _ (.tail _ (.head _))) _) _) _)))))))))))
      have Ld := Led.pull (p := (x.th.sl, O.list (cont x.th.sl))) Ld (.tail _ (.tail _ (.tail _ (.tail _ (.tail _ (.tail _ (.tail _ (.tail _ (.tail _ (.tail _ (.tail _ (Pull.appL (Pull.appR pv0) _))))))))))))
      have msp0 := msp (TL (thsOf its)) VL' [(rl, .list []), (fl, .list [])]
      have mth0 := mth (VL' ++ (specL its ++ [(rl, .list []), (fl, .list [])]))
      generalize hZ : TL (thsOf its) ++ (VL' ++ (specL its ++ [(rl, O.list []), (fl, O.list [])])) = Z at Ld msp0 mth0
      walk_at "go"
      refine x_idxL (v := .ref x.th.loc) (by assumption) (by trivial) (by walk_at "i") (by walk_at "j") hloc ?_
      walk_at "go"
      refine x_idxL (v := .ref x.q) (by assumption) (by trivial) (by walk_at "i") (by walk_at "j") hspec ?_
      walk_at "go"
      refine x_idxL (v := s.V) (by assumption) (by trivial) (by walk_at "i") (by walk_at "j") hsp ?_
      walk_at "go"
      refine sp_value (N := N) (w := wF its) (sz := zF its) (by walk_at "le") Ld (hso.mono (by walk_at "om")) (by walk_at "om") (by rw [← e, ← whereV_tab]; trivial) (by rw [← e, ← sizesV_tab]; trivial) (fun i hi => z_pos I e hi) ?_
      walk_at "go"
      have hlen := hI.len
      have hlk : k < (cont x.th.sl).length := by rw [q3]; simp [valsOf, hlen]; walk_at "om"
      refine sp_store (t := x.th) (p := hpAt its tl al cl fl rl limit bits) (by walk_at "le") Ld (by trivial) (by trivial) hlk (by rw [q3]; simp [valsOf, hlen]; walk_at "om") (lawS_ok hso fun i hi => by have := w_pos I e hi; walk_at "om") (by walk_at "om") (by show (0 : Int) ≤ (bits : Int); walk_at "om") (by show (bits : Int) < 64; walk_at "om") ?_
      intro es' h he Ld
      walk_at "go"
      rw [← hZ] at Ld
      refine ⟨cset cont x.th.sl ((cont x.th.sl).set k (lawS (wF its) (zF its) s).v), es', by walk_at "om", fun k' hk' ne => ?_, ?_, ⟨v49, v50, v70, v52, v71, v72, v16, v73, v74, v18, v63, v56, v75, v76, v55⟩, v44, ?_⟩
      · have := inj k' hk' ne
        simp only [cset, if_neg this]
        exact q2 k' hk' ne
      · simp only [cset, if_pos rfl]
        rw [q3]
        have hk2 : k < (valsOf its x).length := by simpa [valsOf] using hk
        rw [take_snoc hk2, hva, List.append_assoc]
        rw [List.set_append_right _ _ (by simp; walk_at "om")]
        congr 1
        rw [List.length_take, Nat.min_eq_left (by walk_at "om"), Nat.sub_self]
        rw [List.drop_eq_getElem_cons (by walk_at "om")]
        rfl
      · unfold LE
        have Ld := Led.push Ld (.tail _ (.tail _ (.tail _ (.tail _ (.tail _ (.tail _ (.tail _ (.tail _ (.tail _ (.tail _ (.tail _ (Pull.appL (Pull.appR (pvl _)) _))))))))))))
        exact Led.push Ld (.tail _ (.tail _ (.tail _ (.tail _ (.tail _ (.tail _ (.tail _ (.tail _ (.tail _ (.tail _ (Pull.appL (Pull.appL (Pull.appL (.tail _ (.tail _ (.head _))) _) _) _)))))))))))
end
end
section
section
variable {sc : List Int} {n : Nat} {h : H} {m : M} {Z : List (Nat × O)}
theorem law_F1 (hn : 4 ≤ n) {nl sl : Nat} {ns : List Int} {i : Int} {hl pl zl kl gl wl : Nat} {N third twos ones limit bits form : Nat} (no : Nums ns) (hi : 0 ≤ i) (N0 : 0 < N) (N1 : N ≤ 8) (ht : third < 100000)
    (V : B0 m nl sl hl pl zl kl gl wl N third twos ones limit bits form) (hnl : (nl, .list (vints ns)) ∈ Z)
    (Ld : Led h ((sl, .list [.int i]) :: Z))
    (next : ∀ (m : M) (h : H) (i : Int) (lef rig wai : Nat) (ls rs : List Sp) (wt : List Nat), 0 ≤ i → (∀ s ∈ ls, s.Ok N 11) → (∀ s ∈ rs, s.Ok N 11) → (∀ a ∈ wt, a < N) → ls.length ≤ 3 → rs.length ≤ 2 → wt.length ≤ 2 → B0 m nl sl hl pl zl kl gl wl N third twos ones limit bits form → m 80 = some (.ref lef) → m 81 = some (.ref rig) → m 82 = some (.ref wai) →
      Led h ((sl, .list [.int i]) :: (wai, .list (vnats wt)) :: (rig, .list (rs.map Sp.V)) :: (lef, .list (ls.map Sp.V)) :: Z) → wSs (LG sc n) p_law_24 LK m h) : wSs (LG sc n) p_law_21 LK m h := by
  obtain ⟨v49, v50, v70, v52, v71, v72, v16, v73, v74, v18, v63, v56, v75, v76, v55⟩ := id V
  obtain ⟨n1, n2, n3⟩ := id no
  have e1 : (third : Int) % 4 = ((third % 4 : Nat) : Int) := by walk_at "om"
  have e2 : (third : Int) / 4 % 3 = ((third / 4 % 3 : Nat) : Int) := by walk_at "om"
  have e3 : (third : Int) / 12 % 3 = ((third / 12 % 3 : Nat) : Int) := by walk_at "om"
  walk_at "go"
  refine ⟨by walk_at "om", ?_⟩
  rw [e1]
  walk_at "go"
  refine ⟨by walk_at "i", by walk_at "j", ?_⟩
  refine comp_inv (third % 4) (fun j acc h' => ∃ (sps : List Sp) (i : Int), A5 (sps.length = j) (acc = sps.map Sp.V) ((∀ s ∈ sps, s.Ok N 11)) (0 ≤ i) (Led h' ((sl, .list [.int i]) :: Z))) (by walk_at "om") ?_ ?_ ⟨[], i, rfl, rfl, by simp, by walk_at "om", Ld⟩
  · rintro acc h ⟨ls, i, l1, rfl, ok1, hi, Ld⟩
    refine ⟨src_range_end, ?_⟩
    refine x_new (by assumption) ?_
    intro lef h Ld
    have Ld := Led.pull (p := (sl, _)) Ld (.tail _ (.head _))
    walk_at "go"
    refine ⟨by walk_at "i", by walk_at "j", ?_⟩
    walk_at "go"
    refine ⟨by walk_at "om", ?_⟩
    rw [e2]
    walk_at "go"
    refine ⟨by walk_at "i", by walk_at "j", ?_⟩
    refine comp_inv (third / 4 % 3) (fun j acc h' => ∃ (sps : List Sp) (i : Int), A5 (sps.length = j) (acc = sps.map Sp.V) ((∀ s ∈ sps, s.Ok N 11)) (0 ≤ i) (Led h' ((sl, .list [.int i]) :: (lef, .list (ls.map Sp.V)) :: Z))) (by walk_at "om") ?_ ?_ ⟨[], i, rfl, rfl, by simp, by walk_at "om", Ld⟩
    · rintro acc h ⟨rs, i, l2, rfl, ok2, hi, Ld⟩
      refine ⟨src_range_end, ?_⟩
      refine x_new (by assumption) ?_
      intro rig h Ld
      have Ld := Led.pull (p := (sl, _)) Ld (.tail _ (.head _))
      walk_at "go"
      refine ⟨by walk_at "i", by walk_at "j", ?_⟩
      walk_at "go"
      refine ⟨by walk_at "om", ?_⟩
      rw [e3]
      walk_at "go"
      refine ⟨by walk_at "i", by walk_at "j", ?_⟩
      refine comp_inv (third / 12 % 3) (fun j acc h' => ∃ (wt : List Nat) (i : Int), A5 (wt.length = j) (acc = vnats wt) ((∀ s ∈ wt, s < N)) (0 ≤ i) (Led h' ((sl, .list [.int i]) :: (rig, .list (rs.map Sp.V)) :: (lef, .list (ls.map Sp.V)) :: Z))) (by walk_at "om") ?_ ?_ ⟨[], i, rfl, rfl, by simp, by walk_at "om", Ld⟩
      · rintro acc h ⟨wt, i, l3, rfl, ok3, hi, Ld⟩
        refine ⟨src_range_end, ?_⟩
        refine x_new (by assumption) ?_
        intro wai h Ld
        have Ld := Led.pull (p := (sl, _)) Ld (.tail _ (.head _))
        show wSs (LG sc n) p_law_24 LK _ h
        exact next _ h i lef rig wai ls rs wt hi ok1 ok2 ok3 (by walk_at "om") (by walk_at "om") (by walk_at "om") ⟨v49, v50, v70, v52, v71, v72, v16, v73, v74, v18, v63, v56, v75, v76, v55⟩ rfl rfl rfl Ld
      · rintro J hJ j acc h hj ⟨sps, i, e2, rfl, ok, hi, Ld⟩
        refine ⟨.int j, src_range_in hj, ?_⟩
        walk_at "go"
        refine sp_pull (by walk_at "le") Ld (by trivial) hi n1 (by walk_at "om") n3 ?_
        intro y h hy Ld
        walk_at "go"
        refine ⟨by walk_at "om", ?_⟩
        have e9 : (y : Int) % (N : Int) = ((y % N : Nat) : Int) := by walk_at "om"
        rw [e9]
        walk_at "go"
        have hyN : y % N < N := Nat.mod_lt _ N0
        refine ⟨sps ++ [y % N], i + 1, by simp [e2], by simp [vnats], fun s' hs' => ?_, by walk_at "om", Ld⟩
        rcases List.mem_append.mp hs' with r | r
        · exact ok s' r
        · rw [List.mem_singleton.mp r]; exact hyN
    · rintro J hJ j acc h hj ⟨sps, i, e2, rfl, ok, hi, Ld⟩
      refine ⟨.int j, src_range_in hj, ?_⟩
      walk_at "go"
      refine sp_pull (by walk_at "le") Ld (by trivial) hi n1 (by walk_at "om") n3 ?_
      intro y h hy Ld
      walk_at "go"
      refine sp_spec (N := N) (k := 11) (by walk_at "le") hy N0 (by walk_at "om") (by walk_at "om") (by walk_at "om") ?_
      intro s hs
      walk_at "go"
      refine ⟨sps ++ [s], i + 1, by simp [e2], by simp, fun s' hs' => ?_, by walk_at "om", Ld⟩
      rcases List.mem_append.mp hs' with r | r
      · exact ok s' r
      · rw [List.mem_singleton.mp r]; exact hs
  · rintro J hJ j acc h hj ⟨sps, i, e2, rfl, ok, hi, Ld⟩
    refine ⟨.int j, src_range_in hj, ?_⟩
    walk_at "go"
    refine sp_pull (by walk_at "le") Ld (by trivial) hi n1 (by walk_at "om") n3 ?_
    intro y h hy Ld
    walk_at "go"
    refine sp_spec (N := N) (k := 11) (by walk_at "le") hy N0 (by walk_at "om") (by walk_at "om") (by walk_at "om") ?_
    intro s hs
    walk_at "go"
    refine ⟨sps ++ [s], i + 1, by simp [e2], by simp, fun s' hs' => ?_, by walk_at "om", Ld⟩
    rcases List.mem_append.mp hs' with r | r
    · exact ok s' r
    · rw [List.mem_singleton.mp r]; exact hs
end
end
section
theorem goals_two (s : Sp) : (goalsOf s).length ≤ 2 := by
  unfold goalsOf; split
  · simp
  · split <;> simp
theorem flat_two : ∀ l : List Sp, (l.flatMap goalsOf).length ≤ 2 * l.length
  | [] => by simp
  | a :: r => by
    have := flat_two r
    have := goals_two a
    simp [List.flatMap_cons] at *; walk_at "om"
theorem vnats_app (a b : List Nat) : vnats a ++ vnats b = vnats (a ++ b) := (List.map_append ..).symm
section
variable {sc : List Int} {n : Nat} {h : H} {m : M} {Z : List (Nat × O)}
theorem law_F2 (hn : 4 ≤ n) {nl sl hl pl zl kl gl wl : Nat} {N third twos ones limit bits form : Nat} {lef rig wai : Nat} {ls rs : List Sp} {wt : List Nat}
    (ok1 : ∀ s ∈ ls, s.Ok N 11) (ok2 : ∀ s ∈ rs, s.Ok N 11) (f1 : ls.length ≤ 3) (f2 : rs.length ≤ 2) (f3 : wt.length ≤ 2)
    (V : B0 m nl sl hl pl zl kl gl wl N third twos ones limit bits form) (v80 : m 80 = some (.ref lef)) (v81 : m 81 = some (.ref rig)) (v82 : m 82 = some (.ref wai))
    (h1 : (lef, .list (ls.map Sp.V)) ∈ Z) (h2 : (rig, .list (rs.map Sp.V)) ∈ Z) (h3 : (wai, .list (vnats wt)) ∈ Z)
    (Ld : Led h Z)
    (next : ∀ (m : M) (h : H) (str see : Nat), B0 m nl sl hl pl zl kl gl wl N third twos ones limit bits form → m 80 = some (.ref lef) → m 81 = some (.ref rig) → m 82 = some (.ref wai) → m 83 = some (.ref str) → m 64 = some (.ref see) →
      Led h ((see, .list (vnats (wt ++ (ls ++ rs).flatMap goalsOf))) :: (str, .list []) :: Z) → wSs (LG sc n) p_law_27 LK m h) : wSs (LG sc n) p_law_24 LK m h := by
  obtain ⟨v49, v50, v70, v52, v71, v72, v16, v73, v74, v18, v63, v56, v75, v76, v55⟩ := id V
  walk_at "go"
  refine x_new (by assumption) ?_
  intro str h Ld
  walk_at "go"
  refine comp_inv wt.length (fun j acc h' => h' = h ∧ acc = vnats (wt.take j)) (by walk_at "om") ?_ ?_ ⟨rfl, rfl⟩
  · rintro acc _ ⟨rfl, rfl⟩
    refine ⟨src_e Ld (by trivial) (by first | exact List.length_map _ | exact (List.length_map _).trans (List.length_map _) | (simp [vnats])), ?_⟩
    rw [List.take_length]
    refine x_new (by assumption) ?_
    intro see h Ld
    walk_at "go"
    refine x_addL (by assumption) (xs := ls.map Sp.V) (ys := rs.map Sp.V) (by trivial) (by trivial) (by simp; walk_at "om") ?_
    intro bo h Ld
    walk_at "go"
    refine for_inv (s := .list bo) (ls ++ rs).length (fun k m h' => ∃ see, A7 (B0 m nl sl hl pl zl kl gl wl N third twos ones limit bits form) (m 80 = some (.ref lef)) (m 81 = some (.ref rig)) (m 82 = some (.ref wai)) (m 83 = some (.ref str)) (m 64 = some (.ref see)) (Led h' ((see, .list (vnats (wt ++ ((ls ++ rs).take k).flatMap goalsOf))) :: (bo, .list ((ls ++ rs).map Sp.V)) :: (str, .list []) :: Z))) ?_ ?_ ⟨see, ⟨v49, v50, v70, v52, v71, v72, v16, v73, v74, v18, v63, v56, v75, v76, v55⟩, v80, v81, v82, rfl, rfl, by
        have := Led.pull (p := (see, _)) Ld (.tail _ (.head _))
        simpa using this⟩
    · rintro m h ⟨see, V, v80, v81, v82, v83, v64, Ld⟩
      refine ⟨src_e Ld (by trivial) (by first | exact List.length_map _ | exact (List.length_map _).trans (List.length_map _) | (simp)), ?_⟩
      rw [List.take_length] at Ld
      show wSs (LG sc n) p_law_27 LK _ h
      exact next m h str see V v80 v81 v82 v83 v64 (Led.sub Ld (by trivial))
    · clear v49 v50 v70 v52 v71 v72 v16 v73 v74 v18 v63 v56 v75 v76 v55 V Ld v80 v81 v82
      rintro J hJ k m h hk ⟨see, V, v80, v81, v82, v83, v64, Ld⟩
      have hok : (ls ++ rs)[k].Ok N 11 := by
        rcases List.mem_append.mp (List.getElem_mem hk) with r | r
        · exact ok1 _ r
        · exact ok2 _ r
      refine ⟨((ls ++ rs)[k]).V, _, src_i Ld (by trivial) (by first | exact get_map (by assumption) | (rw [List.getElem?_map, List.getElem?_eq_getElem hk]; rfl)), rfl, ?_⟩
      obtain ⟨v49, v50, v70, v52, v71, v72, v16, v73, v74, v18, v63, v56, v75, v76, v55⟩ := id V
      have hf := flat_two ((ls ++ rs).take k)
      have hg := goals_two (ls ++ rs)[k]
      have hs := take_snoc hk
      generalize (ls ++ rs)[k] = s at *
      have hlt : ((ls ++ rs).take k).length ≤ 5 := by simp; walk_at "om"
      walk_at "go"
      refine sp_goals (N := N) (by walk_at "le") Ld hok ?_
      intro gl' h Ld
      walk_at "go"
      refine x_addL (by assumption) (xs := vnats (wt ++ ((ls ++ rs).take k).flatMap goalsOf)) (ys := vnats (goalsOf s)) (by trivial) (by trivial) (by simp only [vnats, List.length_map, List.length_append]; walk_at "om") ?_
      intro see2 h Ld
      walk_at "go"
      refine ⟨see2, ⟨v49, v50, v70, v52, v71, v72, v16, v73, v74, v18, v63, v56, v75, v76, v55⟩, v80, v81, v82, v83, rfl, ?_⟩
      rw [vnats_app] at Ld
      have e : wt ++ ((ls ++ rs).take (k + 1)).flatMap goalsOf = wt ++ ((ls ++ rs).take k).flatMap goalsOf ++ goalsOf s := by
        rw [hs, List.flatMap_append, List.append_assoc]; simp
      rw [e]
      exact Led.sub Ld (by trivial)
  · rintro J hJ k acc _ hk ⟨rfl, rfl⟩
    refine ⟨.int (wt[k] : Nat), src_i Ld (by trivial) (by first | exact get_map (by assumption) | (simp [vnats, hk])), ?_⟩
    walk_at "go"
    exact ⟨rfl, by rw [take_snoc hk, ← vnats_app]; rfl⟩
end
end
section
theorem svs_snoc (l : List SV) (s : SV) : svs (l ++ [s]) = svs l ++ [s.v] := List.map_append ..
section
variable {sc : List Int} {n : Nat} {h : H} {m : M} {Z : List (Nat × O)}
theorem law_F3 (hn : 4 ≤ n) {nl sl hl pl zl kl gl wl : Nat} {N third twos ones limit bits form : Nat} {lef rig wai str see : Nat} {ls rs : List Sp} {wt : List Nat} {w sz : Nat → Int} {p : Hp}
    (N1 : N ≤ 8) (ok1 : ∀ s ∈ ls, s.Ok N 11) (ok2 : ∀ s ∈ rs, s.Ok N 11) (ok3 : ∀ a ∈ wt, a < N) (f1 : ls.length ≤ 3) (f2 : rs.length ≤ 2) (f3 : wt.length ≤ 2)
    (V : B0 m nl sl hl pl zl kl gl wl N third twos ones limit bits form) (v80 : m 80 = some (.ref lef)) (v81 : m 81 = some (.ref rig)) (v82 : m 82 = some (.ref wai)) (v83 : m 83 = some (.ref str)) (v64 : m 64 = some (.ref see))
    (h1 : (lef, .list (ls.map Sp.V)) ∈ Z) (h2 : (rig, .list (rs.map Sp.V)) ∈ Z) (h3 : (wai, .list (vnats wt)) ∈ Z) (hw : (wl, .list (tab N w)) ∈ Z) (hz : (zl, .list (tab N sz)) ∈ Z) (hsz : ∀ i, i < N → 0 < sz i ∧ sz i < 1000) (hh : (hl, hpO p) ∈ Z)
    (Ld : Led h ((p.rl, .list []) :: Z))
    (next : ∀ (m : M) (h : H) (one two ll : Nat), B0 m nl sl hl pl zl kl gl wl N third twos ones limit bits form → m 80 = some (.ref lef) → m 81 = some (.ref rig) → m 82 = some (.ref wai) → m 83 = some (.ref str) → m 64 = some (.ref see) → m 61 = some (.ref one) → m 84 = some (.ref two) → m 30 = some (.ref ll) → m 34 = some .none →
      Led h ((ll, .list [.ref one, .ref two]) :: (p.rl, .list (svs (wt.map fun a => .ref (w a)))) :: (two, .list (svs (rs.map (lawS w sz)))) :: (one, .list (svs (ls.map (lawS w sz)))) :: Z) → wSs (LG sc n) p_law_32 LK m h) : wSs (LG sc n) p_law_27 LK m h := by
  obtain ⟨v49, v50, v70, v52, v71, v72, v16, v73, v74, v18, v63, v56, v75, v76, v55⟩ := id V
  walk_at "go"
  refine comp_inv ls.length (fun j acc h' => h' = h ∧ acc = svs ((ls.take j).map (lawS w sz))) (by walk_at "om") ?_ ?_ ⟨rfl, rfl⟩
  · rintro acc _ ⟨rfl, rfl⟩
    refine ⟨src_e Ld (by trivial) (by first | exact List.length_map _ | exact (List.length_map _).trans (List.length_map _) | (simp)), ?_⟩
    rw [List.take_length]
    refine x_new (by assumption) ?_
    intro one h Ld
    walk_at "go"
    refine comp_inv rs.length (fun j acc h' => h' = h ∧ acc = svs ((rs.take j).map (lawS w sz))) (by walk_at "om") ?_ ?_ ⟨rfl, rfl⟩
    · rintro acc _ ⟨rfl, rfl⟩
      refine ⟨src_e Ld (by trivial) (by first | exact List.length_map _ | exact (List.length_map _).trans (List.length_map _) | (simp)), ?_⟩
      rw [List.take_length]
      refine x_new (by assumption) ?_
      intro two h Ld
      walk_at "go"
      refine for_inv (s := .list wai) wt.length (fun k m h' => A9 (B0 m nl sl hl pl zl kl gl wl N third twos ones limit bits form) (m 80 = some (.ref lef)) (m 81 = some (.ref rig)) (m 82 = some (.ref wai)) (m 83 = some (.ref str)) (m 64 = some (.ref see)) (m 61 = some (.ref one)) (m 84 = some (.ref two)) (Led h' ((p.rl, .list (svs ((wt.take k).map fun a => .ref (w a)))) :: (two, .list (svs (rs.map (lawS w sz)))) :: (one, .list (svs (ls.map (lawS w sz)))) :: Z))) ?_ ?_ ⟨⟨v49, v50, v70, v52, v71, v72, v16, v73, v74, v18, v63, v56, v75, v76, v55⟩, v80, v81, v82, v83, v64, rfl, rfl, Led.pull (p := (p.rl, _)) Ld (by trivial)⟩
      · rintro m h ⟨V, v80, v81, v82, v83, v64, v61, v84, Ld⟩
        refine ⟨src_e Ld (by trivial) (by first | exact List.length_map _ | exact (List.length_map _).trans (List.length_map _) | (simp [vnats])), ?_⟩
        rw [List.take_length] at Ld
        walk_at "go"
        refine x_new (by assumption) ?_
        intro ll h Ld
        show wSs (LG sc n) p_law_31 LK _ h
        have go31 : ∀ m : M, wSs (LG sc n) p_law_32 LK (upd m 34 .none) h → wSs (LG sc n) p_law_31 LK m h := fun m k => k
        refine go31 _ ?_
        obtain ⟨v49, v50, v70, v52, v71, v72, v16, v73, v74, v18, v63, v56, v75, v76, v55⟩ := id V
        exact next _ h one two ll ⟨v49, v50, v70, v52, v71, v72, v16, v73, v74, v18, v63, v56, v75, v76, v55⟩ v80 v81 v82 v83 v64 v61 v84 rfl rfl Ld
      · clear v49 v50 v70 v52 v71 v72 v16 v73 v74 v18 v63 v56 v75 v76 v55 V Ld v80 v81 v82 v83 v64
        rintro J hJ k m h hk ⟨V, v80, v81, v82, v83, v64, v61, v84, Ld⟩
        have hok := ok3 _ (List.getElem_mem hk)
        have hs := take_snoc hk
        refine ⟨.int (wt[k] : Nat), _, src_i Ld (by trivial) (by first | exact get_map (by assumption) | (simp [vnats, hk])), rfl, ?_⟩
        generalize wt[k] = a at *
        obtain ⟨v49, v50, v70, v52, v71, v72, v16, v73, v74, v18, v63, v56, v75, v76, v55⟩ := id V
        walk_at "go"
        refine s_Ap1 (by assumption) (by trivial) ?_
        walk_at "go"
        refine x_idxL (i := (a : Int)) (v := .int (w a)) (by assumption) (by trivial) (by walk_at "i") (by walk_at "j") (tab_get hok) ?_
        walk_at "go"
        refine x_append (by assumption) (by trivial) (by simp [svs]; walk_at "om") ?_
        intro h Ld
        walk_at "go"
        refine ⟨⟨v49, v50, v70, v52, v71, v72, v16, v73, v74, v18, v63, v56, v75, v76, v55⟩, v80, v81, v82, v83, v64, v61, v84, ?_⟩
        rw [hs, List.map_append, List.map_singleton, svs_snoc]
        exact Ld
    · rintro J hJ k acc _ hk ⟨rfl, rfl⟩
      have hok := ok2 _ (List.getElem_mem hk)
      refine ⟨(rs[k]).V, src_i Ld (by trivial) (by first | exact get_map (by assumption) | (rw [List.getElem?_map, List.getElem?_eq_getElem hk]; rfl)), ?_⟩
      walk_at "go"
      refine sp_value (N := N) (w := w) (sz := sz) (by walk_at "le") Ld hok (by walk_at "om") (by trivial) (by trivial) hsz ?_
      walk_at "go"
      exact ⟨rfl, by rw [take_snoc hk, List.map_append, List.map_singleton, svs_snoc]⟩
  · rintro J hJ k acc _ hk ⟨rfl, rfl⟩
    have hok := ok1 _ (List.getElem_mem hk)
    refine ⟨(ls[k]).V, src_i Ld (by trivial) (by first | exact get_map (by assumption) | (rw [List.getElem?_map, List.getElem?_eq_getElem hk]; rfl)), ?_⟩
    walk_at "go"
    refine sp_value (N := N) (w := w) (sz := sz) (by walk_at "le") Ld hok (by walk_at "om") (by trivial) (by trivial) hsz ?_
    walk_at "go"
    exact ⟨rfl, by rw [take_snoc hk, List.map_append, List.map_singleton, svs_snoc]⟩
end
end
section
structure HOk (R : List (Nat × O)) (w : Nat → Int) (sg : List Nat) (hs : HS) : Prop where
  none : hs = none → sg = []
  some : ∀ hh rw_ rows, hs = some (hh, rw_, rows) → (hh, O.inst 2 [(18, .ref rw_)]) ∈ R ∧ (rw_, O.list (rows.map fun r => .ref r.1)) ∈ R ∧ rows.map (·.2) = sg.map w
theorem hl_perm (a1 a2 a3 a4 a5 s : Nat × O) (A B : List (Nat × O)) {Z : List (Nat × O)} : (a1 :: a2 :: a3 :: a4 :: a5 :: s :: (A ++ (B ++ Z))).Perm (A ++ (s :: ((a1 :: a2 :: a3 :: a4 :: a5 :: B) ++ Z))) := by
  refine (List.perm_append_comm_assoc [a1, a2, a3, a4, a5, s] A (B ++ Z)).trans (List.Perm.append_left A ?_)
  exact List.perm_middle (l₁ := [a1, a2, a3, a4, a5]) (a := s) (l₂ := B ++ Z)
section
variable {sc : List Int} {n : Nat} {h : H} {m : M} {E Z : List (Nat × O)}
theorem law_F4 (hn : 4 ≤ n) {nl sl hl pl zl kl gl wl : Nat} {ns : List Int} {i : Int} {N third twos ones limit bits form : Nat} {lef rig wai str see one two ll : Nat} {sd : List Nat} {w : Nat → Int} {p : Hp} (no : Nums ns) (hi : 0 ≤ i) (N0 : 0 < N) (N1 : N ≤ 8) (hf : form < 3) (hsd : sd.length ≤ 100)
    (V : B0 m nl sl hl pl zl kl gl wl N third twos ones limit bits form) (v80 : m 80 = some (.ref lef)) (v81 : m 81 = some (.ref rig)) (v82 : m 82 = some (.ref wai)) (v83 : m 83 = some (.ref str)) (v64 : m 64 = some (.ref see)) (v61 : m 61 = some (.ref one)) (v84 : m 84 = some (.ref two)) (v30 : m 30 = some (.ref ll)) (v34 : m 34 = some .none)
    (hnl : (nl, .list (vints ns)) ∈ E ++ Z) (hw : (wl, .list (tab N w)) ∈ E ++ Z) (hh : (hl, hpO p) ∈ E ++ Z) (h1 : (str, .list []) ∈ E) (h2 : (see, .list (vnats sd)) ∈ E) (h3 : (ll, .list [.ref one, .ref two]) ∈ E)
    (Ld : Led h ((sl, .list [.int i]) :: (E ++ Z)))
    (next : ∀ (m : M) (h : H) (i : Int) (hs : HS) (sg : List Nat) (E : List (Nat × O)) (str see ll : Nat) (roots : List Nat), B0 m nl sl hl pl zl kl gl wl N third twos ones limit bits form → m 80 = some (.ref lef) → m 81 = some (.ref rig) → m 82 = some (.ref wai) → m 83 = some (.ref str) → m 64 = some (.ref see) → m 61 = some (.ref one) → m 84 = some (.ref two) → m 30 = some (.ref ll) → m 34 = some (hv hs) →
      (roots = [one, two] ∨ roots = [one, two, one] ∨ roots = [one, p.rl, two]) → (∀ a ∈ sg, a < N) → sg.length ≤ 2 → HOk E w sg hs → (str, .list (vnats sg)) ∈ E → (see, .list (vnats (sd ++ sg))) ∈ E → (ll, .list (roots.map .ref)) ∈ E →
      Led h (HB hs ++ ((sl, .list [.int i]) :: (E ++ Z))) → wSs (LG sc n) p_law_33 LK m h) : wSs (LG sc n) p_law_32 LK m h := by
  obtain ⟨v49, v50, v70, v52, v71, v72, v16, v73, v74, v18, v63, v56, v75, v76, v55⟩ := id V
  obtain ⟨n1, n2, n3⟩ := id no
  have h2' : (see, O.list (vnats sd)) ∈ E ++ Z := List.mem_append_left _ h2
  have e3 : (third : Int) / 36 % 3 = ((third / 36 % 3 : Nat) : Int) := by walk_at "om"
  walk_at "go"
  by_cases q : (0 : Int) < (form : Int)
  · first | refine s_ltT (q) ?_ | refine s_leT (q) ?_ | refine s_gtT (q) ?_ | refine s_geT (q) ?_
    walk_at "go"
    refine ⟨by walk_at "i", by walk_at "j", ?_⟩
    walk_at "go"
    refine ⟨by walk_at "om", ?_⟩
    rw [e3]
    walk_at "go"
    refine ⟨by walk_at "i", by walk_at "j", ?_⟩
    refine comp_inv (third / 36 % 3) (fun j acc h' => ∃ (sg : List Nat) (i : Int), A5 (sg.length = j) (acc = vnats sg) ((∀ s ∈ sg, s < N)) (0 ≤ i) (Led h' ((sl, .list [.int i]) :: (E ++ Z)))) (by walk_at "om") ?_ ?_ ⟨[], i, rfl, rfl, by simp, by walk_at "om", Ld⟩
    · rintro acc h ⟨sg, i, l3, rfl, ok3, hi, Ld⟩
      refine ⟨src_range_end, ?_⟩
      refine x_new (by assumption) ?_
      intro st h Ld
      walk_at "go"
      refine x_addL (by assumption) (xs := vnats sd) (ys := vnats sg) (by trivial) (by trivial) (by simp only [vnats, List.length_map]; walk_at "om") ?_
      intro se h Ld
      rw [vnats_app] at Ld
      walk_at "go"
      intro hh hh0
      refine sp_Handles_init (by walk_at "le") (Ld.new hh0) ?_
      clear hh0
      intro rw_ h Ld
      refine ⟨rfl, ?_⟩
      walk_at "go"
      refine for_inv (s := .list st) sg.length (fun k m h' => ∃ rows : List (Nat × Int), A11 (rows.map (·.2) = (sg.take k).map w) (B0 m nl sl hl pl zl kl gl wl N third twos ones limit bits form) (m 80 = some (.ref lef)) (m 81 = some (.ref rig)) (m 82 = some (.ref wai)) (m 83 = some (.ref st)) (m 64 = some (.ref se)) (m 61 = some (.ref one)) (m 84 = some (.ref two)) (m 34 = some (.ref hh)) (Led h' ((rw_, .list (rows.map fun r => .ref r.1)) :: (hh, .inst 2 [(18, .ref rw_)]) :: (se, .list (vnats (sd ++ sg))) :: (st, .list (vnats sg)) :: (sl, .list [.int i]) :: (HL rows ++ (E ++ Z))))) ?_ ?_ ⟨[], rfl, ⟨v49, v50, v70, v52, v71, v72, v16, v73, v74, v18, v63, v56, v75, v76, v55⟩, v80, v81, v82, rfl, rfl, v61, v84, rfl, Ld⟩
      · rintro m h ⟨rows, er, V, v80, v81, v82, v83, v64, v61, v84, v34, Ld⟩
        refine ⟨src_e Ld (by trivial) (by first | exact List.length_map _ | exact (List.length_map _).trans (List.length_map _) | (simp [vnats])), ?_⟩
        rw [List.take_length] at er
        have fin : ∀ (m : M) (h : H) (l2 : Nat) (roots : List Nat), B0 m nl sl hl pl zl kl gl wl N third twos ones limit bits form → m 80 = some (.ref lef) → m 81 = some (.ref rig) → m 82 = some (.ref wai) → m 83 = some (.ref st) → m 64 = some (.ref se) → m 61 = some (.ref one) → m 84 = some (.ref two) → m 30 = some (.ref l2) → m 34 = some (.ref hh) →
            (roots = [one, two] ∨ roots = [one, two, one] ∨ roots = [one, p.rl, two]) → Led h ((l2, .list (roots.map .ref)) :: (rw_, .list (rows.map fun r => .ref r.1)) :: (hh, .inst 2 [(18, .ref rw_)]) :: (se, .list (vnats (sd ++ sg))) :: (st, .list (vnats sg)) :: (sl, .list [.int i]) :: (HL rows ++ (E ++ Z))) → wSs (LG sc n) p_law_33 LK m h := by
          intro m h l2 roots V v80 v81 v82 v83 v64 v61 v84 v30 v34 hr Ld
          refine next m h i (some (hh, rw_, rows)) sg ((l2, .list (roots.map .ref)) :: (rw_, .list (rows.map fun r => .ref r.1)) :: (hh, .inst 2 [(18, .ref rw_)]) :: (se, .list (vnats (sd ++ sg))) :: (st, .list (vnats sg)) :: E) st se l2 roots V v80 v81 v82 v83 v64 v61 v84 v30 v34 hr ok3 (by walk_at "om") ⟨fun q => (nomatch q), fun a b c q => ?_⟩ (.tail _ (.tail _ (.tail _ (.tail _ (.head _))))) (.tail _ (.tail _ (.tail _ (.head _)))) (.head _) (Led.perm Ld (hl_perm _ _ _ _ _ _ _ _))
          cases q
          exact ⟨.tail _ (.tail _ (.head _)), .tail _ (.head _), er⟩
        obtain ⟨v49, v50, v70, v52, v71, v72, v16, v73, v74, v18, v63, v56, v75, v76, v55⟩ := id V
        walk_at "go"
        by_cases q1 : (form : Int) = 1
        · first | refine s_eqT (q1) ?_ | refine s_neF (q1) ?_
          walk_at "go"
          refine x_new (by assumption) ?_
          intro l2 h Ld
          show wSs (LG sc n) p_law_33 LK _ h
          exact fin _ h l2 [one, two, one] ⟨v49, v50, v70, v52, v71, v72, v16, v73, v74, v18, v63, v56, v75, v76, v55⟩ v80 v81 v82 v83 v64 v61 v84 rfl v34 (.inr (.inl rfl)) Ld
        · first | refine s_eqF (q1) ?_ | refine s_neT (q1) ?_
          walk_at "go"
          refine x_new (by assumption) ?_
          intro l2 h Ld
          show wSs (LG sc n) p_law_33 LK _ h
          exact fin _ h l2 [one, p.rl, two] ⟨v49, v50, v70, v52, v71, v72, v16, v73, v74, v18, v63, v56, v75, v76, v55⟩ v80 v81 v82 v83 v64 v61 v84 rfl v34 (.inr (.inr rfl)) Ld
      · rintro J hJ k m h hk ⟨rows, er, V, v80, v81, v82, v83, v64, v61, v84, v34, Ld⟩
        have hok := ok3 _ (List.getElem_mem hk)
        have hs := take_snoc hk
        have lr : rows.length ≤ 2 := by
          have := congrArg List.length er
          simp at this; walk_at "om"
        refine ⟨.int (sg[k] : Nat), _, src_i Ld (by trivial) (by first | exact get_map (by assumption) | (simp [vnats, hk])), rfl, ?_⟩
        generalize sg[k] = a at *
        obtain ⟨v49, v50, v70, v52, v71, v72, v16, v73, v74, v18, v63, v56, v75, v76, v55⟩ := id V
        walk_at "go"
        refine x_idxL (i := (a : Int)) (v := .int (w a)) (by assumption) (by trivial) (by walk_at "i") (by walk_at "j") (tab_get hok) ?_
        walk_at "go"
        refine sp_new_handle (by walk_at "le") Ld (by trivial) (by simp; walk_at "om") ?_
        intro r v h Ld
        walk_at "go"
        refine ⟨rows ++ [(r, w a)], by rw [hs, List.map_append, List.map_append, er]; rfl, ⟨v49, v50, v70, v52, v71, v72, v16, v73, v74, v18, v63, v56, v75, v76, v55⟩, v80, v81, v82, v83, v64, v61, v84, v34, ?_⟩
        rw [HL_app, List.append_assoc, List.map_append]
        exact Led.push Ld (.tail _ (.tail _ (.tail _ (.tail _ (.tail _ (Pull.mid (HL rows) (E ++ Z)))))))
    · rintro J hJ j acc h hj ⟨sps, i, e2, rfl, ok, hi, Ld⟩
      refine ⟨.int j, src_range_in hj, ?_⟩
      walk_at "go"
      refine sp_pull (by walk_at "le") Ld (by trivial) hi n1 (by walk_at "om") n3 ?_
      intro y h hy Ld
      walk_at "go"
      refine ⟨by walk_at "om", ?_⟩
      have e9 : (y : Int) % (N : Int) = ((y % N : Nat) : Int) := by walk_at "om"
      rw [e9]
      walk_at "go"
      have hyN : y % N < N := Nat.mod_lt _ N0
      refine ⟨sps ++ [y % N], i + 1, by simp [e2], by simp [vnats], fun s' hs' => ?_, by walk_at "om", Ld⟩
      rcases List.mem_append.mp hs' with r | r
      · exact ok s' r
      · rw [List.mem_singleton.mp r]; exact hyN
  · first | refine s_ltF q ?_ | refine s_leF q ?_ | refine s_gtF q ?_ | refine s_geF q ?_
    show wSs (LG sc n) p_law_33 LK _ h
    refine next m h i none [] E str see ll [one, two] ⟨v49, v50, v70, v52, v71, v72, v16, v73, v74, v18, v63, v56, v75, v76, v55⟩ v80 v81 v82 v83 v64 v61 v84 v30 v34 (.inl rfl) (by simp) (by simp) ⟨fun _ => rfl, fun a b c q => (nomatch q)⟩ h1 (by simpa using h2) h3 Ld
end
end
section
theorem specsV_range (its : List Itm) : specsV its = (List.range its.length).map fun i => .ref (itAt its i).q := by
  unfold specsV itAt
  refine List.ext_getElem (by simp) fun i h1 h2 => ?_
  simp only [List.length_map] at h1
  simp [h1]
theorem tab_congr {N : Nat} {f g : Nat → Int} (h : ∀ i, i < N → f i = g i) : tab N f = tab N g := by
  unfold tab
  refine List.map_congr_left fun i hi => ?_
  rw [h i (List.mem_range.mp hi)]
theorem tab_setI (N : Nat) (f : Nat → Int) (k : Nat) (v : Int) : (tab N f).set ((k : Nat) : Int).toNat (.int v) = tab N (fun i => if i = k then v else f i) := by
  rw [Int.toNat_natCast]
  unfold tab
  refine List.ext_getElem (by simp) fun i h1 h2 => ?_
  rw [List.getElem_set]
  simp only [List.getElem_map, List.getElem_range]
  by_cases e : k = i
  · rw [if_pos e, if_pos e.symm]
  · rw [if_neg e, if_neg fun q => e q.symm]
noncomputable def gF (its : List Itm) (i : Nat) : Int := (itAt its i).th.gen
theorem gensV_tab (its : List Itm) : gensV its = tab its.length (gF its) := tab_of (fun x => x.th.gen)
noncomputable def psF (B : Nat → Bool) (z : Nat → Int) : Nat → Int
  | 0 => 16
  | n + 1 => if B n = true then psF B z n + z n else psF B z n
noncomputable def frF (B : Nat → Bool) (z : Nat → Int) (i : Nat) : Int := if B i = true then psF B z i else 0
noncomputable def agF (B : Nat → Bool) (g : Nat → Int) (i : Nat) : Int := if B i = true then (if g i + 1 < 2 then g i + 1 else 2) else 0
noncomputable def mvF (B : Nat → Bool) (z w : Nat → Int) : Nat → Int
  | 0 => 0
  | n + 1 => if B n = true then (if psF B z n = w n then mvF B z w n else mvF B z w n + 1) else mvF B z w n
structure B1 (m : M) (lef rig wai str one two ll : Nat) (hs : HS) : Prop where
  v80 : m 80 = some (.ref lef)
  v81 : m 81 = some (.ref rig)
  v82 : m 82 = some (.ref wai)
  v83 : m 83 = some (.ref str)
  v61 : m 61 = some (.ref one)
  v84 : m 84 = some (.ref two)
  v30 : m 30 = some (.ref ll)
  v34 : m 34 = some (hv hs)
structure B2 (m : M) (al fr ag : Nat) (pos mov : Int) : Prop where
  v65 : m 65 = some (.ref al)
  v43 : m 43 = some (.ref fr)
  v85 : m 85 = some (.ref ag)
  v77 : m 77 = some (.int pos)
  v86 : m 86 = some (.int mov)
section
variable {sc : List Int} {n : Nat} {h : H} {m : M} {R : List (Nat × O)}
theorem law_G (hn : 4 ≤ n) {nl sl hl pl zl kl gl wl : Nat} {N third twos ones limit bits form : Nat} {lef rig wai str see one two ll : Nat} {hs : HS} {sd : List Nat} {w z g : Nat → Int} {q : Nat → Nat} {spx : Nat → List Sp} (N1 : N ≤ 8)
    (V : B0 m nl sl hl pl zl kl gl wl N third twos ones limit bits form) (W : B1 m lef rig wai str one two ll hs) (v64 : m 64 = some (.ref see))
    (hpl : (pl, .list ((List.range N).map fun i => .ref (q i))) ∈ R) (hsp : ∀ i, i < N → (q i, .list ((spx i).map Sp.V)) ∈ R) (hse : (see, .list (vnats sd)) ∈ R) (hsd : ∀ a ∈ sd, a < N) (ok : ∀ i, i < N → ∀ s ∈ spx i, s.Ok N 11)
    (hw : (wl, .list (tab N w)) ∈ R) (hz : (zl, .list (tab N z)) ∈ R) (hg : (gl, .list (tab N g)) ∈ R)
    (Ld : Led h R)
    (next : ∀ (m : M) (h : H) (al fr ag : Nat) (B : Nat → Bool), (∀ i, i < N → (B i = true ↔ RI sd spx i)) → B0 m nl sl hl pl zl kl gl wl N third twos ones limit bits form → B1 m lef rig wai str one two ll hs → B2 m al fr ag (psF B z N) (mvF B z w N) →
      Led h ((ag, .list (tab N (agF B g))) :: (fr, .list (tab N (frF B z))) :: (al, .list (tab N (fB B))) :: R) → wSs (LG sc n) p_law_39 LK m h) : wSs (LG sc n) p_law_33 LK m h := by
  obtain ⟨v49, v50, v70, v52, v71, v72, v16, v73, v74, v18, v63, v56, v75, v76, v55⟩ := id V
  obtain ⟨v80, v81, v82, v83, v61, v84, v30, v34⟩ := id W
  walk_at "go"
  refine sp_alive (by walk_at "le") Ld (by walk_at "om") hpl hsp hse hsd ok ?_
  intro al B h hB Ld
  walk_at "go"
  refine ⟨by walk_at "i", by walk_at "j", ?_⟩
  refine comp_inv N (fun i acc h' => h' = h ∧ acc = tab i fun _ => 0) (by walk_at "om") ?_ ?_ ⟨rfl, rfl⟩
  · rintro acc _ ⟨rfl, rfl⟩
    refine ⟨src_range_end, ?_⟩
    refine x_new (by assumption) ?_
    intro fr h Ld
    walk_at "go"
    refine ⟨by walk_at "i", by walk_at "j", ?_⟩
    refine comp_inv N (fun i acc h' => h' = h ∧ acc = tab i fun _ => 0) (by walk_at "om") ?_ ?_ ⟨rfl, rfl⟩
    · rintro acc _ ⟨rfl, rfl⟩
      refine ⟨src_range_end, ?_⟩
      refine x_new (by assumption) ?_
      intro ag h Ld
      walk_at "go"
      refine ⟨by walk_at "i", by walk_at "j", ?_⟩
      refine for_inv N (fun k m h' => A4 (B0 m nl sl hl pl zl kl gl wl N third twos ones limit bits form) (B1 m lef rig wai str one two ll hs) (B2 m al fr ag (psF B z k) (mvF B z w k)) (Led h' ((ag, .list (tab N fun i => if i < k then agF B g i else 0)) :: (fr, .list (tab N fun i => if i < k then frF B z i else 0)) :: (al, .list (tab N (fB B))) :: R))) ?_ ?_ ⟨⟨v49, v50, v70, v52, v71, v72, v16, v73, v74, v18, v63, v56, v75, v76, v55⟩, ⟨v80, v81, v82, v83, v61, v84, v30, v34⟩, ⟨rfl, rfl, rfl, rfl, rfl⟩, Ld⟩
      · rintro m h ⟨V, W, U, Ld⟩
        refine ⟨src_range_end, ?_⟩
        show wSs (LG sc n) p_law_39 LK _ h
        refine next m h al fr ag B hB V W U ?_
        rw [tab_congr (N := N) (f := agF B g) (g := fun i => if i < N then agF B g i else 0) fun i hi => (if_pos hi).symm, tab_congr (N := N) (f := frF B z) (g := fun i => if i < N then frF B z i else 0) fun i hi => (if_pos hi).symm]
        exact Ld
      · clear v49 v50 v70 v52 v71 v72 v16 v73 v74 v18 v63 v56 v75 v76 v55 v80 v81 v82 v83 v61 v84 v30 v34 V W Ld
        rintro J hJ k m h hk ⟨V, W, U, Ld⟩
        obtain ⟨v49, v50, v70, v52, v71, v72, v16, v73, v74, v18, v63, v56, v75, v76, v55⟩ := id V
        obtain ⟨v80, v81, v82, v83, v61, v84, v30, v34⟩ := id W
        obtain ⟨v65, v43, v85, v77, v86⟩ := id U
        refine ⟨.int k, _, src_range_in hk, rfl, ?_⟩
        walk_at "go"
        refine x_idxL (v := .int (fB B k)) (by assumption) (by trivial) (by walk_at "i") (by walk_at "j") (tab_get hk) ?_
        walk_at "go"
        cases hB : B k with
        | false =>
          rw [show fB B k = 0 from by simp [fB, hB]]
          walk_at "go"
          refine ⟨⟨v49, v50, v70, v52, v71, v72, v16, v73, v74, v18, v63, v56, v75, v76, v55⟩, ⟨v80, v81, v82, v83, v61, v84, v30, v34⟩, ⟨v65, v43, v85, by rw [psF, if_neg (by rw [hB]; decide)]; exact v77, by rw [mvF, if_neg (by rw [hB]; decide)]; exact v86⟩, ?_⟩
          rw [tab_congr (N := N) (f := fun i => if i < k + 1 then agF B g i else 0) (g := fun i => if i < k then agF B g i else 0), tab_congr (N := N) (f := fun i => if i < k + 1 then frF B z i else 0) (g := fun i => if i < k then frF B z i else 0)]
          · exact Ld
          · intro i hi
            by_cases e : i = k
            · subst e; simp [frF, hB]
            · simp only [show i < k + 1 ↔ i < k by walk_at "om"]
          · intro i hi
            by_cases e : i = k
            · subst e; simp [agF, hB]
            · simp only [show i < k + 1 ↔ i < k by walk_at "om"]
        | true =>
          rw [show fB B k = 1 from by simp [fB, hB]]
          walk_at "go"
          refine x_setL (by assumption) (by trivial) (by walk_at "i") (by walk_at "j") (by simp [tab]; walk_at "om") ?_
          intro h Ld
          rw [tab_setI] at Ld
          walk_at "go"
          refine x_idxL (v := .int (z k)) (by assumption) (by trivial) (by walk_at "i") (by walk_at "j") (tab_get hk) ?_
          walk_at "go"
          refine x_idxL (v := .int (g k)) (by assumption) (by trivial) (by walk_at "i") (by walk_at "j") (tab_get hk) ?_
          walk_at "go"
          refine x_setL (by assumption) (by trivial) (by walk_at "i") (by walk_at "j") (by simp [tab]; walk_at "om") ?_
          intro h Ld
          rw [tab_setI] at Ld
          walk_at "go"
          refine x_idxL (v := .int (psF B z k)) (by assumption) (by trivial) (by walk_at "i") (by walk_at "j") (by rw [tab_get hk, if_pos rfl]) ?_
          walk_at "go"
          refine x_idxL (v := .int (w k)) (by assumption) (by trivial) (by walk_at "i") (by walk_at "j") (tab_get hk) ?_
          walk_at "go"
          have La : Led h ((ag, .list (tab N fun i => if i < k + 1 then agF B g i else 0)) :: (fr, .list (tab N fun i => if i < k + 1 then frF B z i else 0)) :: (al, .list (tab N (fB B))) :: R) := by
            rw [tab_congr (N := N) (f := fun i => if i < k + 1 then agF B g i else 0) (g := fun i => if i = k then (if g k + 1 < 2 then g k + 1 else 2) else if i < k then agF B g i else 0), tab_congr (N := N) (f := fun i => if i < k + 1 then frF B z i else 0) (g := fun i => if i = k then psF B z k else if i < k then frF B z i else 0)]
            · exact Ld
            · intro i hi
              by_cases e : i = k
              · subst e; simp [frF, hB]
              · simp only [show i < k + 1 ↔ i < k by walk_at "om", if_neg e]
            · intro i hi
              by_cases e : i = k
              · subst e; simp [agF, hB]
              · simp only [show i < k + 1 ↔ i < k by walk_at "om", if_neg e]
          by_cases q : psF B z k = w k
          · first | refine s_eqT (q) ?_ | refine s_neF (q) ?_
            walk_at "go"
            refine ⟨⟨v49, v50, v70, v52, v71, v72, v16, v73, v74, v18, v63, v56, v75, v76, v55⟩, ⟨v80, v81, v82, v83, v61, v84, v30, v34⟩, ⟨v65, v43, v85, by rw [psF, if_pos hB]; rfl, by rw [mvF, if_pos hB, if_pos q]; exact v86⟩, La⟩
          · first | refine s_eqF (q) ?_ | refine s_neT (q) ?_
            walk_at "go"
            refine ⟨⟨v49, v50, v70, v52, v71, v72, v16, v73, v74, v18, v63, v56, v75, v76, v55⟩, ⟨v80, v81, v82, v83, v61, v84, v30, v34⟩, ⟨v65, v43, v85, by rw [psF, if_pos hB]; rfl, by rw [mvF, if_pos hB, if_neg q]; rfl⟩, La⟩
    · rintro J hJ i acc _ hi ⟨rfl, rfl⟩
      refine ⟨.int i, src_range_in hi, ?_⟩
      walk_at "go"
      refine ⟨rfl, ?_⟩
      unfold tab
      rw [List.range_succ, List.map_append]
      rfl
  · rintro J hJ i acc _ hi ⟨rfl, rfl⟩
    refine ⟨.int i, src_range_in hi, ?_⟩
    walk_at "go"
    refine ⟨rfl, ?_⟩
    unfold tab
    rw [List.range_succ, List.map_append]
    rfl
end
end
section
structure Tabs (ts : List Th) (N : Nat) (w z g : Nat → Int) : Prop where
  S : Sorted ts
  len : ts.length = N
  at_ : ∀ i (hi : i < ts.length), ts[i].addr = w i ∧ ts[i].size = z i ∧ ts[i].gen = g i
section
variable {ts : List Th} {N : Nat} {w z g : Nat → Int}
theorem Tabs.hit (T : Tabs ts N w z g) {a : Nat} (ha : a < N) {v : Int} (h1 : w a ≤ v) (h2 : v < w a + z a) : Hits ts v (ts[a]'(by have := T.len; walk_at "om")) := by
  have hl := T.len
  obtain ⟨e1, e2, _⟩ := T.at_ a (by walk_at "om")
  exact ⟨List.getElem_mem _, by walk_at "om", by walk_at "om"⟩
theorem Hits.uniq (S : Sorted ts) {v : Int} {t u : Th} (h : Hits ts v t) (k : Hits ts v u) : t = u := by
  have := (h.find S).symm.trans (k.find S)
  exact Option.some.inj this
theorem Tabs.pos (T : Tabs ts N w z g) {a : Nat} (ha : a < N) : 16 ≤ w a ∧ w a < 1000 ∧ 3 ≤ z a ∧ z a < 10 := by
  have hl := T.len
  obtain ⟨e1, e2, _⟩ := T.at_ a (by walk_at "om")
  have := T.S.pos _ (List.getElem_mem (l := ts) (n := a) (by walk_at "om"))
  walk_at "om"
theorem Tabs.hit_iff (T : Tabs ts N w z g) {a : Nat} (ha : a < N) {v : Int} (h1 : w a ≤ v) (h2 : v < w a + z a) (t : Th) : Hits ts v t ↔ ts[a]? = some t := by
  have hl := T.len
  rw [List.getElem?_eq_getElem (by walk_at "om")]
  constructor
  · intro h; rw [(T.hit ha h1 h2).uniq T.S h]
  · intro h; cases h; exact T.hit ha h1 h2
theorem Tabs.no_zero (T : Tabs ts N w z g) (t : Th) : ¬ Hits ts 0 t := by
  rintro ⟨h1, h2, _⟩
  have := T.S.pos t h1
  walk_at "om"
theorem Tabs.tgt (T : Tabs ts N w z g) {s : Sp} (ok : s.Ok N 11) (t : Th) : Tgt ts (lawS w z s) t ↔ ∃ a ∈ goalsOf s, ts[a]? = some t := by
  obtain ⟨c, a, b, m⟩ := s
  obtain ⟨o1, o2, o3, o4⟩ := ok
  dsimp only at o1 o2 o3 o4
  have pa := T.pos o2
  have pb := T.pos o3
  have ha := T.hit_iff o2 (v := w a) (by walk_at "om") (by walk_at "om") t
  have hb := T.hit_iff o3 (v := w b) (by walk_at "om") (by walk_at "om") t
  have h0 := T.no_zero t
  have m1 := Int.emod_nonneg (m : Int) (show z a ≠ 0 by walk_at "om")
  have m2 := Int.emod_lt_of_pos (m : Int) (show 0 < z a by walk_at "om")
  have h8 := T.hit_iff o2 (v := w a + m % z a) (by walk_at "om") (by walk_at "om") t
  have h9 := T.hit_iff o2 (v := w a + z a - 1) (by walk_at "om") (by walk_at "om") t
  have hc : c = 0 ∨ c = 1 ∨ c = 2 ∨ c = 3 ∨ c = 4 ∨ c = 5 ∨ c = 6 ∨ c = 7 ∨ c = 8 ∨ c = 9 ∨ c = 10 := c11 o1
  unfold Tgt
  rcases hc with rfl | rfl | rfl | rfl | rfl | rfl | rfl | rfl | rfl | rfl | rfl <;> simp [lawS, SV.words, goalsOf, ha, hb, h0, h8, h9]
theorem hit_one {x : Int} {t : Th} (h : Hits ts x t) : ∀ v ∈ [x], v = 0 ∨ ∃ t, Hits ts v t := fun v hv => by
  rw [List.mem_singleton.mp hv]; exact .inr ⟨t, h⟩
theorem Tabs.ok (T : Tabs ts N w z g) {s : Sp} (ok : s.Ok N 11) : WordsOk ts (lawS w z s) ∧ MvOk ts (lawS w z s) := by
  have lo := lawS_ok (w := w) (sz := z) ok fun i hi => by have := T.pos hi; walk_at "om"
  obtain ⟨c, a, b, m⟩ := s
  obtain ⟨o1, o2, o3, o4⟩ := ok
  dsimp only at o1 o2 o3 o4
  have pa := T.pos o2
  have pb := T.pos o3
  have m1 := Int.emod_nonneg (m : Int) (show z a ≠ 0 by walk_at "om")
  have m2 := Int.emod_lt_of_pos (m : Int) (show 0 < z a by walk_at "om")
  have ha := T.hit o2 (v := w a) (by walk_at "om") (by walk_at "om")
  have hb := T.hit o3 (v := w b) (by walk_at "om") (by walk_at "om")
  have h8 := T.hit o2 (v := w a + m % z a) (by walk_at "om") (by walk_at "om")
  have h9 := T.hit o2 (v := w a + z a - 1) (by walk_at "om") (by walk_at "om")
  have hc : c = 0 ∨ c = 1 ∨ c = 2 ∨ c = 3 ∨ c = 4 ∨ c = 5 ∨ c = 6 ∨ c = 7 ∨ c = 8 ∨ c = 9 ∨ c = 10 := c11 o1
  rcases hc with rfl | rfl | rfl | rfl | rfl | rfl | rfl | rfl | rfl | rfl | rfl
  · exact ⟨⟨lo, fun v hv => .inl (by simpa [lawS, SV.words] using hv)⟩, trivial⟩
  · exact ⟨⟨lo, hit_one ha⟩, trivial⟩
  · exact ⟨⟨lo, hit_one ha⟩, trivial⟩
  · exact ⟨⟨lo, hit_one ha⟩, trivial⟩
  · exact ⟨⟨lo, fun v hv => by cases hv⟩, trivial⟩
  · exact ⟨⟨lo, hit_one ha⟩, trivial⟩
  · refine ⟨⟨lo, fun v hv => ?_⟩, trivial⟩
    rcases List.mem_cons.mp hv with rfl | hv
    · exact .inr ⟨_, ha⟩
    · exact hit_one hb v hv
  · exact ⟨⟨lo, fun v hv => by cases hv⟩, trivial⟩
  · exact ⟨⟨lo, hit_one h8⟩, ⟨_, h8⟩⟩
  · exact ⟨⟨lo, hit_one h9⟩, ⟨_, h9⟩⟩
  · exact ⟨⟨lo, fun v hv => by cases hv⟩, lo⟩
theorem Tabs.reach (T : Tabs ts N w z g) {sv : Th → List SV} {rr : List (Nat × List SV)} {sd : List Nat} {spx : Nat → List Sp} (hok : ∀ i, i < N → ∀ s ∈ spx i, s.Ok N 11) (hsd : ∀ a ∈ sd, a < N) (hsv : ∀ i (hi : i < ts.length), sv ts[i] = (spx i).map (lawS w z))
    (hseed : ∀ t, Seed ts rr t ↔ ∃ a : Nat, a ∈ sd ∧ ts[a]? = some t) {i : Nat} (hi : i < ts.length) : Reach ts sv rr ts[i] ↔ RI sd spx i := by
  have nd : ∀ (a : Nat) (t : Th), ts[a]? = some t → ∀ b : Nat, ts[b]? = some t → a = b := by
    intro a t ha b hb
    rcases Nat.lt_trichotomy a b with q | q | q
    · have := Sorted.at_lt T.S.ord a b _ _ ha hb q
      have := T.S.pos t (List.mem_of_getElem? ha)
      walk_at "om"
    · exact q
    · have := Sorted.at_lt T.S.ord b a _ _ hb ha q
      have := T.S.pos t (List.mem_of_getElem? ha)
      walk_at "om"
  constructor
  · intro h
    have key : ∀ t, Reach ts sv rr t → ∃ a : Nat, ts[a]? = some t ∧ RI sd spx a := by
      intro t h
      induction h with
      | seed q =>
        obtain ⟨a, ha, e⟩ := (hseed _).mp q
        exact ⟨a, e, .seed ha⟩
      | step q e ih =>
        obtain ⟨a, ea, ra⟩ := ih
        obtain ⟨hal, ea2⟩ := List.getElem?_eq_some_iff.mp ea
        obtain ⟨s, hs, ht⟩ := e
        rw [← ea2, hsv a hal] at hs
        obtain ⟨x, hx, rfl⟩ := List.mem_map.mp hs
        obtain ⟨b, hb, eb⟩ := (T.tgt (hok a (by have := T.len; walk_at "om") x hx) _).mp ht
        exact ⟨b, eb, .step ra hx hb⟩
    obtain ⟨a, ea, ra⟩ := key _ h
    rw [nd a _ ea i (List.getElem?_eq_getElem hi)] at ra
    exact ra
  · intro h
    have key : ∀ a, RI sd spx a → a < N ∧ ∀ t, ts[a]? = some t → Reach ts sv rr t := by
      intro a h
      induction h with
      | seed q => exact ⟨hsd _ q, fun t e => .seed ((hseed t).mpr ⟨_, q, e⟩)⟩
      | @step a b s r hs hb ih =>
        refine ⟨goals_lt (hok a ih.1 s hs) b hb, fun t e => ?_⟩
        have ha : a < ts.length := by have := T.len; walk_at "om"
        have h1 := ih.2 _ (List.getElem?_eq_getElem ha)
        refine .step h1 ⟨lawS w z s, ?_, (T.tgt (hok a ih.1 s hs) t).mpr ⟨b, hb, e⟩⟩
        rw [hsv a ha]
        exact List.mem_map.mpr ⟨s, hs, rfl⟩
    exact (key i h).2 _ (List.getElem?_eq_getElem hi)
end
end
section
section
variable {ts : List Th} {N : Nat} {w z g : Nat → Int} {al : Th → Bool} {B : Nat → Bool}
theorem Tabs.stp (T : Tabs ts N w z g) (hB : ∀ i (hi : i < ts.length), al ts[i] = B i) : ∀ k, k ≤ N → (st al (ts.take k)).2 = psF B z k := by
  have hl := T.len
  intro k
  induction k with
  | zero => intro _; rfl
  | succ k ih =>
    intro hk
    rw [take_snoc (by walk_at "om"), st_snoc, psF, hB k (by walk_at "om"), ← ih (by walk_at "om"), (T.at_ k (by walk_at "om")).2.1]
    split <;> rfl
theorem Tabs.stp2 (T : Tabs ts N w z g) (hB : ∀ i (hi : i < ts.length), al ts[i] = B i) : (stA (ts.filter al)).2 = psF B z N := by
  rw [← st_filter, ← T.stp hB N (Nat.le_refl _), List.take_of_length_le (by have := T.len; walk_at "om")]
theorem Tabs.cnp (T : Tabs ts N w z g) (hB : ∀ i (hi : i < ts.length), al ts[i] = B i) : ∀ k, k ≤ N → cn ((ts.take k).filter al) = mvF B z w k := by
  have hl := T.len
  intro k
  induction k with
  | zero => intro _; rfl
  | succ k ih =>
    intro hk
    have h1 := T.stp hB k (by walk_at "om")
    rw [st_filter] at h1
    rw [take_snoc (by walk_at "om"), List.filter_append, mvF]
    cases q : B k with
    | false => rw [if_neg (by decide), List.filter_cons, hB k (by walk_at "om"), q, ← ih (by walk_at "om")]; simp
    | true =>
      rw [if_pos rfl, List.filter_cons, hB k (by walk_at "om"), q, if_pos rfl, List.filter_nil]
      rw [cn_snoc, h1, (T.at_ k (by walk_at "om")).1, ih (by walk_at "om")]
theorem Tabs.cnp2 (T : Tabs ts N w z g) (hB : ∀ i (hi : i < ts.length), al ts[i] = B i) : cn (ts.filter al) = mvF B z w N := by
  rw [← T.cnp hB N (Nat.le_refl _), List.take_of_length_le (by have := T.len; walk_at "om")]
theorem Tabs.mvw (T : Tabs ts N w z g) (hB : ∀ i (hi : i < ts.length), al ts[i] = B i) {a : Nat} (ha : a < N) (q : B a = true) : mvW (stA (ts.filter al)).1 (w a) = frF B z a := by
  have hl := T.len
  have h1 := st_lookup T.S al N (by walk_at "om") a ha (by walk_at "om")
  rw [List.take_of_length_le (by walk_at "om"), hB a (by walk_at "om"), q, if_pos rfl, (T.at_ a (by walk_at "om")).1, T.stp hB a (by walk_at "om")] at h1
  unfold mvW
  rw [← st_filter, h1]
  unfold frF
  rw [if_pos q]; rfl
theorem Tabs.mv0 (T : Tabs ts N w z g) (al : Th → Bool) : mvW (stA (ts.filter al)).1 0 = 0 := by
  unfold mvW
  rw [← st_filter, lookup_none_of]
  · rfl
  · intro p hp e
    obtain ⟨t, ht, q⟩ := st_keys al ts p.1 (List.mem_map_of_mem hp)
    have := T.S.pos t ht
    walk_at "om"
theorem Tabs.phw (T : Tabs ts N w z g) (hB : ∀ i (hi : i < ts.length), al ts[i] = B i) {a : Nat} (ha : a < N) (q : B a = true) {v : Int} (h1 : w a ≤ v) (h2 : v < w a + z a) : phW ts (stA (ts.filter al)).1 v = v - w a + frF B z a := by
  have hl := T.len
  have h := (T.hit ha h1 h2).find T.S
  unfold phW
  rw [h]
  show v - (ts[a]).addr + mvW _ (ts[a]).addr = _
  rw [(T.at_ a (by walk_at "om")).1, T.mvw hB ha q]
theorem Tabs.mvs (T : Tabs ts N w z g) (hB : ∀ i (hi : i < ts.length), al ts[i] = B i) {s : Sp} (ok : s.Ok N 11) (hs : ∀ a ∈ goalsOf s, B a = true) : mvS ts (stA (ts.filter al)).1 (lawS w z s) = lawS (frF B z) z s := by
  obtain ⟨c, a, b, m⟩ := s
  obtain ⟨o1, o2, o3, o4⟩ := ok
  dsimp only at o1 o2 o3 o4
  have pa := T.pos o2
  have m1 := Int.emod_nonneg (m : Int) (show z a ≠ 0 by walk_at "om")
  have m2 := Int.emod_lt_of_pos (m : Int) (show 0 < z a by walk_at "om")
  have hc : c = 0 ∨ c = 1 ∨ c = 2 ∨ c = 3 ∨ c = 4 ∨ c = 5 ∨ c = 6 ∨ c = 7 ∨ c = 8 ∨ c = 9 ∨ c = 10 := c11 o1
  rcases hc with rfl | rfl | rfl | rfl | rfl | rfl | rfl | rfl | rfl | rfl | rfl
  · exact congrArg SV.ref (T.mv0 al)
  · exact congrArg SV.ref (T.mvw hB o2 (hs a (.head _)))
  · exact congrArg SV.ref (T.mvw hB o2 (hs a (.head _)))
  · exact congrArg SV.ref (T.mvw hB o2 (hs a (.head _)))
  · rfl
  · exact congrArg (fun x => SV.s5 x (16 + m)) (T.mvw hB o2 (hs a (.head _)))
  · show SV.s6 _ _ = SV.s6 _ _
    rw [T.mvw hB o2 (hs a (.head _)), T.mvw hB o3 (hs b (.tail _ (.head _)))]
  · rfl
  · show SV.ph (phW ts _ (w a + m % z a)) _ = SV.ph (frF B z a + m % z a) _
    rw [T.phw hB o2 (hs a (.head _)) (by walk_at "om") (by walk_at "om"), show w a + m % z a - w a + frF B z a = frF B z a + m % z a by walk_at "om"]
  · show SV.ph (phW ts _ (w a + z a - 1)) _ = SV.ph (frF B z a + z a - 1) _
    rw [T.phw hB o2 (hs a (.head _)) (by walk_at "om") (by walk_at "om"), show w a + z a - 1 - w a + frF B z a = frF B z a + z a - 1 by walk_at "om"]
  · rfl
theorem Tabs.mvl (T : Tabs ts N w z g) (hB : ∀ i (hi : i < ts.length), al ts[i] = B i) {l : List Sp} (ok : ∀ s ∈ l, s.Ok N 11) (hs : ∀ s ∈ l, ∀ a ∈ goalsOf s, B a = true) : (l.map (lawS w z)).map (mvS ts (stA (ts.filter al)).1) = l.map (lawS (frF B z) z) := by
  rw [List.map_map]
  exact List.map_congr_left fun s h => T.mvs hB (ok s h) (hs s h)
noncomputable def liv (B : Nat → Bool) (N : Nat) : List Nat := (List.range N).filter B
theorem filter_liv (hB : ∀ i (hi : i < ts.length), al ts[i] = B i) (d : Th) : ts.filter al = (liv B ts.length).map fun i => ts.getD i d := by
  unfold liv
  have h : ts = (List.range ts.length).map fun i => ts.getD i d := by
    refine List.ext_getElem (by simp) fun i h1 h2 => ?_
    simp [h1]
  conv => lhs; rw [h]
  rw [List.filter_map]
  refine congrArg _ (List.filter_congr fun i hi => ?_)
  have hi := List.mem_range.mp hi
  simp [hi, hB i hi]
theorem liv_snoc (B : Nat → Bool) (N : Nat) : liv B (N + 1) = liv B N ++ if B N = true then [N] else [] := by
  unfold liv
  rw [List.range_succ, List.filter_append, List.filter_cons, List.filter_nil]
theorem liv_mem {i : Nat} (h : i ∈ liv B N) : i < N ∧ B i = true := by
  obtain ⟨a, b⟩ := List.mem_filter.mp h
  exact ⟨List.mem_range.mp a, b⟩
theorem sum_liv (B : Nat → Bool) : ∀ N, ((List.range N).map (fB B)).sum = ((liv B N).length : Int)
  | 0 => rfl
  | N + 1 => by
    rw [List.range_succ, List.map_append, List.sum_append, sum_liv B N, liv_snoc]
    cases h : B N <;> simp [fB, h]
end
end
section
noncomputable def thV (its : List Itm) (x : Itm) : Th := { x.th with slots := valsOf its x }
noncomputable def tsV (its : List Itm) : List Th := its.map (thV its)
theorem tsV_TL (its : List Itm) : TL (tsV its) = TL (thsOf its) := by unfold TL tsV thsOf; rw [List.map_map, List.map_map]; rfl
theorem tsV_locs (its : List Itm) : locs (tsV its) = locs (thsOf its) := by unfold locs tsV thsOf; rw [List.map_map, List.map_map]; rfl
theorem tsV_atD (its : List Itm) : atD (tsV its) = atD (thsOf its) := by unfold atD tsV thsOf; rw [List.map_map, List.map_map]; rfl
theorem tsV_sls (its : List Itm) : (tsV its).map (·.sl) = sls its := by unfold tsV sls; rw [List.map_map]; rfl
theorem szs_le {N : Nat} {its : List Itm} (I : ItsOk N its) : ∀ j, j ≤ its.length → szs (its.take j) ≤ 5 * j := by
  intro j
  induction j with
  | zero => intro _; simp [szs]
  | succ j ih =>
    intro hj
    rw [take_snoc (by walk_at "om"), szs_snoc, (I.at_ j (by walk_at "om")).size]
    have h1 := ih (by walk_at "om")
    have h2 := (I.at_ j (by walk_at "om")).few
    unfold wordsFor
    split <;> walk_at "om"
theorem tsV_tabs {N : Nat} {its : List Itm} (I : ItsOk N its) (e : its.length = N) (N1 : N ≤ 8) : Tabs (tsV its) N (wF its) (zF its) (gF its) := by
  have hl : (tsV its).length = its.length := by simp [tsV]
  have at_ : ∀ i (hi : i < (tsV its).length), (tsV its)[i] = thV its (its[i]'(by walk_at "om")) := fun i hi => by simp [tsV]
  have ad : ∀ i (hi : i < its.length), (its[i]).th.addr = 16 + szs (its.take i) ∧ 3 ≤ (its[i]).th.size ∧ (its[i]).th.size ≤ 5 ∧ 0 ≤ szs (its.take i) ∧ szs (its.take i) ≤ 40 := fun i hi => by
    have h1 := I.at_ i hi
    have h2 := szs_nn I i (by walk_at "om")
    have h3 := szs_le I i (by walk_at "om")
    have h4 := h1.few
    have h5 := h1.size
    refine ⟨h1.addr, ?_⟩
    rw [h5]
    unfold wordsFor
    split <;> walk_at "om"
  refine ⟨⟨by walk_at "om", fun t ht => ?_, ?_⟩, by walk_at "om", fun i hi => ?_⟩
  · obtain ⟨i, hi, rfl⟩ := List.getElem_of_mem ht
    rw [at_ i hi]
    have := ad i (by walk_at "om")
    show 16 ≤ (its[i]).th.addr ∧ (its[i]).th.addr < 1000 ∧ 3 ≤ (its[i]).th.size ∧ (its[i]).th.size < 10
    walk_at "om"
  · rw [List.pairwise_iff_getElem]
    intro i j hi hj hij
    rw [at_ i hi, at_ j hj]
    show (its[i]).th.addr + (its[i]).th.size ≤ (its[j]).th.addr
    have h1 := ad i (by walk_at "om")
    have h2 := ad j (by walk_at "om")
    have h3 : szs (its.take (i + 1)) = szs (its.take i) + (its[i]).th.size := by rw [take_snoc (by walk_at "om"), szs_snoc]
    have h4 : szs (its.take (i + 1)) ≤ szs (its.take j) := by
      rcases Nat.lt_or_ge (i + 1) j with q | q
      · have := szs_lt I j (by walk_at "om") (i + 1) q; walk_at "om"
      · have : i + 1 = j := by walk_at "om"
        rw [this]; exact Int.le_refl _
    walk_at "om"
  · rw [at_ i hi]
    unfold wF zF gF
    rw [itAt_lt (by walk_at "om")]
    exact ⟨rfl, rfl, rfl⟩
noncomputable def cC (its : List Itm) (w z : Nat → Int) (rl two one : Nat) (ls rs : List Sp) (wt : List Nat) (l : Nat) : List SV :=
  if l = rl then wt.map fun a => .ref (w a) else if l = two then rs.map (lawS w z) else if l = one then ls.map (lawS w z) else
    match its.find? (fun x => x.th.sl == l) with
    | some x => x.sp.map (lawS w z)
    | none => []
theorem find_sl {its : List Itm} {x : Itm} (hd : (sls its).Nodup) (hm : x ∈ its) : its.find? (fun y => y.th.sl == x.th.sl) = some x := by
  induction its with
  | nil => exact absurd hm (List.not_mem_nil)
  | cons a r ih =>
    obtain ⟨h1, h2⟩ := List.nodup_cons.mp hd
    rw [List.find?_cons]
    rcases List.mem_cons.mp hm with rfl | hm
    · rw [beq_self_eq_true]
    · rw [show (a.th.sl == x.th.sl) = false from beq_false_of_ne fun e => h1 (List.mem_map.mpr ⟨x, hm, e.symm⟩)]
      exact ih h2 hm
section
variable {its : List Itm} {w z : Nat → Int} {rl two one : Nat} {ls rs : List Sp} {wt : List Nat}
theorem cC_rl : cC its w z rl two one ls rs wt rl = wt.map fun a => .ref (w a) := if_pos rfl
theorem cC_two (h : two ≠ rl) : cC its w z rl two one ls rs wt two = rs.map (lawS w z) := by unfold cC; rw [if_neg h, if_pos rfl]
theorem cC_one (h : one ≠ rl) (k : one ≠ two) : cC its w z rl two one ls rs wt one = ls.map (lawS w z) := by unfold cC; rw [if_neg h, if_neg k, if_pos rfl]
theorem cC_sl (nd : ([rl, two, one] ++ sls its).Nodup) {x : Itm} (h : x ∈ its) : cC its w z rl two one ls rs wt x.th.sl = x.sp.map (lawS w z) := by
  obtain ⟨_, h2, h3⟩ := List.nodup_append.mp nd
  have hm : x.th.sl ∈ sls its := List.mem_map.mpr ⟨x, h, rfl⟩
  unfold cC
  rw [if_neg fun e => h3 rl (.head _) _ hm e.symm, if_neg fun e => h3 two (.tail _ (.head _)) _ hm e.symm, if_neg fun e => h3 one (.tail _ (.tail _ (.head _))) _ hm e.symm, find_sl h2 h]
end
section
variable {its : List Itm} {rl two one : Nat} {ls rs : List Sp} {wt sg : List Nat} {R E : List (Nat × O)} {hl ll N : Nat} {p : Hp} {hs : HS} {roots : List Nat}
theorem hsv_of {w : Nat → Int} (HO : HOk E w sg hs) : hsv hs = sg.map fun a => .ref (w a) := by
  induction hs using Option.casesOn with
  | none => rw [HO.none rfl]; rfl
  | some q =>
    obtain ⟨hh, rw_, rows⟩ := q
    have h := (HO.some hh rw_ rows rfl).2.2
    show rows.map (fun r => SV.ref r.2) = _
    rw [show (fun r : Nat × Int => SV.ref r.2) = SV.ref ∘ (fun r : Nat × Int => r.2) from rfl, ← List.map_map, h, List.map_map]
    rfl
theorem law_cin (I : ItsOk N its) (e : its.length = N) (N1 : N ≤ 8) (nd : ([p.rl, two, one] ++ sls its).Nodup) (ok1 : ∀ s ∈ ls, s.Ok N 11) (ok2 : ∀ s ∈ rs, s.Ok N 11) (ok3 : ∀ a ∈ wt, a < N) (ok4 : ∀ a ∈ sg, a < N) (f1 : ls.length ≤ 3) (f2 : rs.length ≤ 2) (f3 : wt.length ≤ 2) (f4 : sg.length ≤ 2)
    (htl : (p.tl, .list (locs (thsOf its))) ∈ R) (hal : (p.al, .dict (atD (thsOf its))) ∈ R) (hfl : (p.fl, .list []) ∈ R) (hll : (ll, .list (roots.map .ref)) ∈ R) (hr : roots = [one, two] ∨ roots = [one, two, one] ∨ roots = [one, p.rl, two])
    (HO : HOk E (wF its) sg hs) (hE : ∀ x ∈ E, x ∈ R) (b0 : 0 ≤ p.bits) (b1 : p.bits < 64) : CIn R hl ll p (tsV its) (cC its (wF its) (zF its) p.rl two one ls rs wt) [p.rl, two, one] roots hs := by
  have T := tsV_tabs I e N1
  have nd3 : [p.rl, two, one].Nodup := (List.nodup_append.mp nd).1
  simp at nd3
  have ne1 : two ≠ p.rl := fun q => nd3.1.1 q.symm
  have ne2 : one ≠ p.rl := fun q => nd3.1.2 q.symm
  have ne3 : one ≠ two := fun q => nd3.2 q.symm
  have okr : ∀ a, a < N → WordsOk (tsV its) (.ref (wF its a)) ∧ MvOk (tsV its) (.ref (wF its a)) := fun a ha =>
    T.ok (s := ⟨1, a, a, 0⟩) ⟨(by decide : (1 : Nat) < 11), ha, ha, (by decide : (0 : Nat) < 5)⟩
  have okA : ∀ t ∈ tsV its, ∃ x ∈ its, t = thV its x := fun t ht => by
    obtain ⟨x, hx, rfl⟩ := List.mem_map.mp ht
    exact ⟨x, hx, rfl⟩
  have few : ∀ x ∈ its, x.sp.length ≤ 3 ∧ (∀ s ∈ x.sp, s.Ok N 11) ∧ x.th.gen ≤ 2 := fun x hx => by
    obtain ⟨k, hk, rfl⟩ := List.getElem_of_mem hx
    have h := I.at_ k hk
    refine ⟨h.few, fun s hs => (h.ok s hs).mono (by decide), ?_⟩
    rcases h.gen with q | q | q <;> walk_at "om"
  have c1 := cC_rl (its := its) (w := wF its) (z := zF its) (rl := p.rl) (two := two) (one := one) (ls := ls) (rs := rs) (wt := wt)
  have c2 := cC_two (its := its) (w := wF its) (z := zF its) (one := one) (ls := ls) (rs := rs) (wt := wt) ne1
  have c3 := cC_one (its := its) (w := wF its) (z := zF its) (ls := ls) (rs := rs) (wt := wt) ne2 ne3
  have c4 : ∀ x ∈ its, cC its (wF its) (zF its) p.rl two one ls rs wt (thV its x).sl = x.sp.map (lawS (wF its) (zF its)) := fun x hx => cC_sl nd hx
  generalize cC its (wF its) (zF its) p.rl two one ls rs wt = c at *
  have ls0 : ∀ l ∈ [p.rl, two, one], l = p.rl ∨ l = two ∨ l = one := by simp
  refine { tl := by rw [tsV_locs]; exact htl, al := by rw [tsV_atD]; exact hal, fl := hfl, ll := hll, slots := ?_, rts := ?_, ready := .head _, all := ?_, H := ?_, H2 := ?_, S := T.S, gen := ?_, ok1 := ?_, ok2 := ?_, ok3 := ?_, few1 := ?_, few2 := ?_, few3 := ?_, b0 := b0, b1 := b1 }
  · intro t ht
    obtain ⟨x, hx, rfl⟩ := okA t ht
    rw [c4 x hx]
    unfold svs
    rw [List.map_map]
    rfl
  · rcases hr with rfl | rfl | rfl <;> simp
  · rcases hr with rfl | rfl | rfl <;> simp
  · induction hs using Option.casesOn with
    | none => exact True.intro
    | some q =>
      obtain ⟨hh, rw_, rows⟩ := q
      obtain ⟨g1, g2, g3⟩ := HO.some hh rw_ rows rfl
      have lr : rows.length ≤ 2 := by
        have := congrArg List.length g3
        simp at this; walk_at "om"
      refine ⟨List.mem_append_right _ (hE _ g1), List.mem_append_right _ (hE _ g2), fun r hr => ⟨List.mem_append_left _ (List.mem_map.mpr ⟨r, hr, rfl⟩), ?_⟩, by walk_at "om"⟩
      have : r.2 ∈ sg.map (wF its) := by rw [← g3]; exact List.mem_map.mpr ⟨r, hr, rfl⟩
      obtain ⟨a, ha, ea⟩ := List.mem_map.mp this
      have := T.pos (ok4 a ha)
      walk_at "om"
  · rintro hh rw_ rows rfl
    obtain ⟨g1, g2, g3⟩ := HO.some hh rw_ rows rfl
    have lr : rows.length ≤ 2 := by
      have := congrArg List.length g3
      simp at this; walk_at "om"
    exact ⟨hE _ g1, hE _ g2, by walk_at "om"⟩
  · intro t ht
    obtain ⟨x, hx, rfl⟩ := okA t ht
    exact (few x hx).2.2
  · intro t ht s hs
    obtain ⟨x, hx, rfl⟩ := okA t ht
    rw [c4 x hx] at hs
    obtain ⟨y, hy, rfl⟩ := List.mem_map.mp hs
    exact T.ok ((few x hx).2.1 y hy)
  · intro l hl s hs
    rcases ls0 l hl with rfl | rfl | rfl
    · rw [c1] at hs
      obtain ⟨a, ha, rfl⟩ := List.mem_map.mp hs
      exact okr a (ok3 a ha)
    · rw [c2] at hs
      obtain ⟨y, hy, rfl⟩ := List.mem_map.mp hs
      exact T.ok (ok2 y hy)
    · rw [c3] at hs
      obtain ⟨y, hy, rfl⟩ := List.mem_map.mp hs
      exact T.ok (ok1 y hy)
  · intro s hs'
    rw [hsv_of HO] at hs'
    obtain ⟨a, ha, rfl⟩ := List.mem_map.mp hs'
    exact (okr a (ok4 a ha)).1
  · intro t ht
    obtain ⟨x, hx, rfl⟩ := okA t ht
    rw [c4 x hx]
    have := (few x hx).1
    simp; walk_at "om"
  · intro l hl
    rcases ls0 l hl with rfl | rfl | rfl
    · rw [c1]; simp; walk_at "om"
    · rw [c2]; simp; walk_at "om"
    · rw [c3]; simp; walk_at "om"
  · rcases hr with rfl | rfl | rfl <;> simp
theorem prop1 (A A1 A2 D : Prop) : (A1 ∨ A2 ∨ False) ∨ A ∨ D ∨ False ↔ A ∨ A1 ∨ A2 ∨ D := by
  by_cases q1 : A <;> by_cases q2 : A1 <;> simp [q1, q2]
theorem prop2 (A A1 A2 D : Prop) : (A1 ∨ A2 ∨ A1 ∨ False) ∨ A ∨ D ∨ False ↔ A ∨ A1 ∨ A2 ∨ D := by
  by_cases q1 : A <;> by_cases q2 : A1 <;> simp [q1, q2]
theorem prop3 (A A1 A2 D : Prop) : (A1 ∨ A ∨ A2 ∨ False) ∨ A ∨ D ∨ False ↔ A ∨ A1 ∨ A2 ∨ D := by
  by_cases q1 : A <;> by_cases q2 : A1 <;> simp [q1, q2]
theorem law_seed (I : ItsOk N its) (e : its.length = N) (N1 : N ≤ 8) (nd : ([p.rl, two, one] ++ sls its).Nodup) (ok1 : ∀ s ∈ ls, s.Ok N 11) (ok2 : ∀ s ∈ rs, s.Ok N 11) (ok3 : ∀ a ∈ wt, a < N) (ok4 : ∀ a ∈ sg, a < N)
    (hr : roots = [one, two] ∨ roots = [one, two, one] ∨ roots = [one, p.rl, two]) (HO : HOk E (wF its) sg hs) (t : Th) :
    Seed (tsV its) (RR roots (cC its (wF its) (zF its) p.rl two one ls rs wt) p hs) t ↔ ∃ a : Nat, a ∈ wt ++ (ls ++ rs).flatMap goalsOf ++ sg ∧ (tsV its)[a]? = some t := by
  have T := tsV_tabs I e N1
  have nd3 : [p.rl, two, one].Nodup := (List.nodup_append.mp nd).1
  simp at nd3
  have ne1 : two ≠ p.rl := fun q => nd3.1.1 q.symm
  have ne2 : one ≠ p.rl := fun q => nd3.1.2 q.symm
  have ne3 : one ≠ two := fun q => nd3.2 q.symm
  have P1 : ∀ {l : List Sp}, (∀ s ∈ l, s.Ok N 11) → ((∃ s ∈ l.map (lawS (wF its) (zF its)), Tgt (tsV its) s t) ↔ ∃ a : Nat, a ∈ l.flatMap goalsOf ∧ (tsV its)[a]? = some t) := by
    intro l ok
    constructor
    · rintro ⟨s, hs, q⟩
      obtain ⟨y, hy, rfl⟩ := List.mem_map.mp hs
      obtain ⟨a, ha, q⟩ := (T.tgt (ok y hy) t).mp q
      exact ⟨a, List.mem_flatMap.mpr ⟨y, hy, ha⟩, q⟩
    · rintro ⟨a, ha, q⟩
      obtain ⟨y, hy, ha⟩ := List.mem_flatMap.mp ha
      exact ⟨_, List.mem_map.mpr ⟨y, hy, rfl⟩, (T.tgt (ok y hy) t).mpr ⟨a, ha, q⟩⟩
  have P2 : ∀ {l : List Nat}, (∀ a ∈ l, a < N) → ((∃ s ∈ l.map (fun a => SV.ref (wF its a)), Tgt (tsV its) s t) ↔ ∃ a : Nat, a ∈ l ∧ (tsV its)[a]? = some t) := by
    intro l ok
    have h := P1 (l := l.map fun a => ⟨1, a, a, 0⟩) fun s hs => by
      obtain ⟨a, ha, rfl⟩ := List.mem_map.mp hs
      exact ⟨(by decide : (1 : Nat) < 11), ok a ha, ok a ha, (by decide : (0 : Nat) < 5)⟩
    rw [List.map_map] at h
    have e2 : ∀ l : List Nat, (l.map fun a => (⟨1, a, a, 0⟩ : Sp)).flatMap goalsOf = l := by
      intro l
      induction l with
      | nil => rfl
      | cons a r ih => rw [List.map_cons, List.flatMap_cons, ih]; rfl
    rw [e2] at h
    exact h
  have c1 := cC_rl (its := its) (w := wF its) (z := zF its) (rl := p.rl) (two := two) (one := one) (ls := ls) (rs := rs) (wt := wt)
  have c2 := cC_two (its := its) (w := wF its) (z := zF its) (one := one) (ls := ls) (rs := rs) (wt := wt) ne1
  have c3 := cC_one (its := its) (w := wF its) (z := zF its) (ls := ls) (rs := rs) (wt := wt) ne2 ne3
  have q1 := P1 ok1
  have q2 := P1 ok2
  have q3 := P2 ok3
  have q4 := P2 ok4
  rw [← c3] at q1
  rw [← c2] at q2
  rw [← c1] at q3
  rw [← hsv_of HO] at q4
  generalize cC its (wF its) (zF its) p.rl two one ls rs wt = c at *
  have fin : Seed (tsV its) (RR roots c p hs) t ↔ (∃ s ∈ c p.rl, Tgt (tsV its) s t) ∨ (∃ s ∈ c one, Tgt (tsV its) s t) ∨ (∃ s ∈ c two, Tgt (tsV its) s t) ∨ (∃ s ∈ hsv hs, Tgt (tsV its) s t) := by
    unfold RR
    rw [Seed_app, Seed_cons, Seed_cons, Seed_nil]
    dsimp only
    rcases hr with rfl | rfl | rfl
    all_goals
      simp only [List.map_cons, List.map_nil, Seed_cons, Seed_nil]
      generalize (∃ s ∈ c p.rl, Tgt (tsV its) s t) = A at *
      generalize (∃ s ∈ c one, Tgt (tsV its) s t) = A1 at *
      generalize (∃ s ∈ c two, Tgt (tsV its) s t) = A2 at *
      generalize (∃ s ∈ hsv hs, Tgt (tsV its) s t) = D at *
      first | exact prop1 _ _ _ _ | exact prop2 _ _ _ _ | exact prop3 _ _ _ _
  rw [fin, q1, q2, q3, q4]
  simp only [List.flatMap_append, List.mem_append]
  constructor
  · rintro (⟨a, h, k⟩ | ⟨a, h, k⟩ | ⟨a, h, k⟩ | ⟨a, h, k⟩)
    · exact ⟨a, .inl (.inl h), k⟩
    · exact ⟨a, .inl (.inr (.inl h)), k⟩
    · exact ⟨a, .inl (.inr (.inr h)), k⟩
    · exact ⟨a, .inr h, k⟩
  · rintro ⟨a, (h | (h | h)) | h, k⟩
    · exact .inl ⟨a, h, k⟩
    · exact .inr (.inl ⟨a, h, k⟩)
    · exact .inr (.inr (.inl ⟨a, h, k⟩))
    · exact .inr (.inr (.inr ⟨a, h, k⟩))
end
end
section
theorem psF_nn {B : Nat → Bool} {z : Nat → Int} {N : Nat} (hz : ∀ i, i < N → 0 < z i) : ∀ j, j ≤ N → 16 ≤ psF B z j ∧ ∀ i, i < j → B i = true → psF B z i + z i ≤ psF B z j
  | 0, _ => ⟨by simp [psF], by intro i hi; walk_at "om"⟩
  | j + 1, hj => by
    obtain ⟨h1, h2⟩ := psF_nn (B := B) hz j (by walk_at "om")
    have hp := hz j (by walk_at "om")
    rw [psF]
    refine ⟨by split <;> walk_at "om", fun i hi hB => ?_⟩
    rcases Nat.lt_or_ge i j with q | q
    · have := h2 i q hB
      split <;> walk_at "om"
    · have e : i = j := by walk_at "om"
      subst e
      rw [if_pos hB]; exact Int.le_refl _
theorem psF_le {B : Nat → Bool} {z : Nat → Int} {N : Nat} (hz : ∀ i, i < N → z i < 10) : ∀ j, j ≤ N → psF B z j ≤ 16 + 10 * j
  | 0, _ => by simp [psF]
  | j + 1, hj => by
    have h1 := psF_le (B := B) hz j (by walk_at "om")
    have hp := hz j (by walk_at "om")
    rw [psF]
    split <;> walk_at "om"
theorem frF_inj {B : Nat → Bool} {z : Nat → Int} {N : Nat} (hz : ∀ i, i < N → 0 < z i) {i j : Nat} (hi : i < N) (hj : j < N) (bi : B i = true) (bj : B j = true) (e : frF B z i = frF B z j) : i = j := by
  unfold frF at e
  rw [if_pos bi, if_pos bj] at e
  have h1 := hz i hi
  have h2 := hz j hj
  rcases Nat.lt_trichotomy i j with q | q | q
  · have := (psF_nn (B := B) hz j (by walk_at "om")).2 i q bi; walk_at "om"
  · exact q
  · have := (psF_nn (B := B) hz i (by walk_at "om")).2 j q bj; walk_at "om"
noncomputable def finT (its : List Itm) (B : Nat → Bool) (i : Nat) : Th := { (itAt its i).th with addr := frF B (zF its) i, gen := agF B (gF its) i, slots := (itAt its i).sp.map fun s => (lawS (frF B (zF its)) (zF its) s).v }
noncomputable def finL (its : List Itm) (B : Nat → Bool) : List Th := (liv B its.length).map (finT its B)
noncomputable def yk (its : List Itm) (B : Nat → Bool) (i : Nat) (s : Sp) : Bool := (goalsOf s).any fun a => decide (agF B (gF its) a < agF B (gF its) i)
noncomputable def ykN (its : List Itm) (B : Nat → Bool) (i k : Nat) : Bool := match (itAt its i).sp[k]? with
  | some s => yk its B i s
  | none => false
noncomputable def cardI (its : List Itm) (B : Nat → Bool) (b i : Nat) (k : Nat) : Int := (frF B (zF its) i + 2 + k) / 2 ^ b
noncomputable def cardsI (its : List Itm) (B : Nat → Bool) (b i : Nat) (k : Nat) : List Int := ((List.range k).filter (ykN its B i)).map (cardI its B b i)
noncomputable def cardsN (its : List Itm) (B : Nat → Bool) (b n : Nat) : List Int := ((liv B n).flatMap fun i => cardsI its B b i (itAt its i).sp.length).foldl addK []
theorem find_fin {its : List Itm} {B : Nat → Bool} {z : Nat → Int} (hz : ∀ i, i < its.length → 0 < zF its i) : ∀ {l : List Nat} {a : Nat}, (∀ i ∈ l, i < its.length ∧ B i = true) → a ∈ l → (l.map (finT its B)).find? (fun u => u.addr == frF B (zF its) a) = some (finT its B a)
  | i :: r, a, hl, ha => by
    rw [List.map_cons, List.find?_cons]
    have hi := hl i (.head _)
    have h1 := hl a ha
    by_cases e : i = a
    · subst e
      have : ((finT its B i).addr == frF B (zF its) i) = true := by simp [finT]
      rw [this]
    · have : ((finT its B i).addr == frF B (zF its) a) = false := beq_false_of_ne fun q => e (frF_inj hz hi.1 h1.1 hi.2 h1.2 q)
      rw [this]
      refine find_fin (z := z) hz (fun j hj => hl j (.tail _ hj)) ?_
      rcases List.mem_cons.mp ha with q | q
      · exact absurd q.symm e
      · exact q
section
variable {N : Nat} {its : List Itm} {B : Nat → Bool} {al : Th → Bool} {c : Nat → List SV}
theorem itAt_mem {i : Nat} (h : i < its.length) : itAt its i ∈ its := by rw [itAt_lt h]; exact List.getElem_mem h
theorem it_gen (I : ItsOk N its) {i : Nat} (h : i < its.length) : gF its i = 0 ∨ gF its i = 1 ∨ gF its i = 2 := by
  unfold gF; rw [itAt_lt h]; exact (I.at_ i h).gen
theorem it_ok (I : ItsOk N its) {i : Nat} (h : i < its.length) : ∀ s ∈ (itAt its i).sp, s.Ok N 8 := by
  rw [itAt_lt h]; exact (I.at_ i h).ok
theorem fin_eq (I : ItsOk N its) (e : its.length = N) (N1 : N ≤ 8) (hc : ∀ x ∈ its, c x.th.sl = x.sp.map (lawS (wF its) (zF its))) (hB : ∀ i (hi : i < (tsV its).length), al (tsV its)[i] = B i) (hcl : ∀ i, i < N → B i = true → ∀ s ∈ (itAt its i).sp, ∀ a ∈ goalsOf s, B a = true) :
    ((tsV its).filter al).map (fin (tsV its) c (stA ((tsV its).filter al)).1) = finL its B := by
  have T := tsV_tabs I e N1
  have hl : (tsV its).length = its.length := by simp [tsV]
  have h0 := filter_liv hB ⟨0, 0, 0, 0, 0, 0, 0, []⟩
  conv => lhs; arg 2; rw [h0]
  unfold finL
  rw [List.map_map, hl]
  refine List.map_congr_left fun i hi => ?_
  obtain ⟨h1, h2⟩ := liv_mem hi
  have h3 : (tsV its).getD i ⟨0, 0, 0, 0, 0, 0, 0, []⟩ = thV its (itAt its i) := by rw [itAt_lt h1]; simp [tsV, h1]
  show fin _ _ _ ((tsV its).getD i _) = _
  rw [h3]
  unfold fin finT
  have e1 : mvW (stA ((tsV its).filter al)).1 (thV its (itAt its i)).addr = frF B (zF its) i := T.mvw hB (by walk_at "om") h2
  have e2 : agen (thV its (itAt its i)).gen = agF B (gF its) i := by
    show agen (gF its i) = _
    unfold agen agF
    rw [if_pos h2]
    rcases it_gen I h1 with q | q | q <;> rw [q] <;> decide
  have e3 : svs ((c (thV its (itAt its i)).sl).map (mvS (tsV its) (stA ((tsV its).filter al)).1)) = (itAt its i).sp.map fun s => (lawS (frF B (zF its)) (zF its) s).v := by
    show svs ((c (itAt its i).th.sl).map _) = _
    rw [hc _ (itAt_mem h1), T.mvl hB (fun s hs => (it_ok I h1 s hs).mono (by decide)) (hcl i (by walk_at "om") h2)]
    unfold svs
    rw [List.map_map]; rfl
  rw [e1, e2, e3]
  rfl
theorem yng_fin (I : ItsOk N its) (e : its.length = N) (N1 : N ≤ 8) (hcl : ∀ i, i < N → B i = true → ∀ s ∈ (itAt its i).sp, ∀ a ∈ goalsOf s, B a = true) {i : Nat} (hi : i ∈ liv B its.length) {s : Sp} (hs : s ∈ (itAt its i).sp) :
    yng (finL its B) (finT its B i) (lawS (frF B (zF its)) (zF its) s) = yk its B i s := by
  obtain ⟨h1, h2⟩ := liv_mem hi
  have hz : ∀ i, i < its.length → 0 < zF its i := fun i hi => (z_pos I e (by walk_at "om")).1
  have ok := it_ok I h1 s hs
  have hg := hcl i (by walk_at "om") h2 s hs
  have hm : ∀ a, a < N → B a = true → frF B (zF its) a ≠ 0 ∧ yngW (finL its B) (finT its B i).gen (frF B (zF its) a) = decide (agF B (gF its) a < agF B (gF its) i) := fun a ha hb => by
    have hp := (psF_nn (B := B) (N := N) (fun i hi => hz i (by walk_at "om")) a (by walk_at "om")).1
    refine ⟨by unfold frF; rw [if_pos hb]; walk_at "om", ?_⟩
    unfold yngW finL
    rw [find_fin (z := zF its) hz (fun i hi => liv_mem hi) (List.mem_filter.mpr ⟨List.mem_range.mpr (by walk_at "om"), hb⟩)]
    rfl
  obtain ⟨c, a, b, m⟩ := s
  obtain ⟨o1, o2, o3, o4⟩ := ok
  dsimp only at o1 o2 o3 o4
  have hc : c = 0 ∨ c = 1 ∨ c = 2 ∨ c = 3 ∨ c = 4 ∨ c = 5 ∨ c = 6 ∨ c = 7 := c8 o1
  unfold yng yk
  rcases hc with rfl | rfl | rfl | rfl | rfl | rfl | rfl | rfl
  · rfl
  · have := hm a o2 (hg a (.head _)); simp [lawS, SV.refs, goalsOf, this]
  · have := hm a o2 (hg a (.head _)); simp [lawS, SV.refs, goalsOf, this]
  · have := hm a o2 (hg a (.head _)); simp [lawS, SV.refs, goalsOf, this]
  · rfl
  · have := hm a o2 (hg a (.head _)); simp [lawS, SV.refs, goalsOf, this]
  · have h3 := hm a o2 (hg a (.head _))
    have h4 := hm b o3 (hg b (.tail _ (.head _)))
    simp [lawS, SV.refs, goalsOf, h3, h4]
  · rfl
theorem cards_eq (I : ItsOk N its) (e : its.length = N) (N1 : N ≤ 8) (hcl : ∀ i, i < N → B i = true → ∀ s ∈ (itAt its i).sp, ∀ a ∈ goalsOf s, B a = true) {sv : Th → List SV} (hsv : ∀ i ∈ liv B its.length, sv (finT its B i) = (itAt its i).sp.map (lawS (frF B (zF its)) (zF its))) (b : Nat) :
    cardsK (b : Int) (pairsA (finL its B) sv (finL its B)) = cardsN its B b its.length := by
  have key : ∀ l : List Nat, (∀ i ∈ l, i ∈ liv B its.length) → (pairsA (finL its B) sv (l.map (finT its B))).map (cardOf (b : Int)) = l.flatMap fun i => cardsI its B b i (itAt its i).sp.length := by
    intro l
    induction l with
    | nil => intro _; rfl
    | cons i r ih =>
      intro hl
      have hi := hl i (.head _)
      obtain ⟨h1, h2⟩ := liv_mem hi
      rw [List.map_cons, List.flatMap_cons, ← ih fun j hj => hl j (.tail _ hj)]
      show (pairsT (finL its B) sv (finT its B i) ++ pairsA _ sv (r.map (finT its B))).map _ = _
      rw [List.map_append]
      congr 1
      have hg : 0 < (finT its B i).gen := by
        show 0 < agF B (gF its) i
        unfold agF
        rw [if_pos h2]
        have := it_gen I h1
        split <;> walk_at "om"
      unfold pairsT
      rw [if_pos hg, hsv i hi]
      unfold pk cardsI
      rw [List.map_map, List.length_map]
      have hf : ∀ k ∈ List.range (itAt its i).sp.length, (match ((itAt its i).sp.map (lawS (frF B (zF its)) (zF its)))[k]? with | some s => yng (finL its B) (finT its B i) s | none => false) = ykN its B i k := fun k hk => by
        have hk := List.mem_range.mp hk
        unfold ykN
        rw [List.getElem?_map, List.getElem?_eq_getElem hk]
        exact yng_fin I e N1 hcl hi (List.getElem_mem hk)
      exact congrArg (List.map (cardI its B b i)) (List.filter_congr hf)
  unfold cardsK cardsN
  have h := key (liv B its.length) fun i h => h
  rw [← h, List.foldl_map]
  rfl
end
end
section
noncomputable def SLs (l : List Th) : List (Nat × O) := l.map fun t => (t.sl, O.list t.slots)
theorem x_sum {h : H} {L : List (Nat × O)} {l : Nat} {P : KE} {xs : List Int} (Ld : Led h L) (m : (l, O.list (vints xs)) ∈ L) (hl : xs.length < 1000) (hr : ∀ i ∈ xs, 0 ≤ i ∧ i < 1000000) (k : P (.int xs.sum) h) : sumW (.ref l) P h := by unfold sumW; exact ⟨l, xs, rfl, Ld.get m, hl, hr, k⟩
noncomputable def colP (p : Hp) (lv at_ fl cl : Nat) (top mov : Int) : Hp := noteP { p with tl := lv, al := at_, fl := fl, cl := cl, top := top, moved := p.moved + mov }
noncomputable def LC (its : List Itm) (B : Nat → Bool) (ls rs : List Sp) (wt : List Nat) (two one hl lv at_ fl cl bits : Nat) (p : Hp) (hs : HS) (R : List (Nat × O)) : List (Nat × O) :=
  (lv, .list (locs (finL its B))) :: (at_, .dict (atD (finL its B))) :: (cl, .dict (ksD (cardsN its B bits its.length))) :: (hl, hpO (colP p lv at_ fl cl (psF B (zF its) its.length) (mvF B (zF its) (wF its) its.length))) ::
    (TL (finL its B) ++ ((p.rl, .list (svs (wt.map fun a => .ref (frF B (zF its) a)))) :: (two, .list (svs (rs.map (lawS (frF B (zF its)) (zF its))))) :: (one, .list (svs (ls.map (lawS (frF B (zF its)) (zF its))))) :: (SLs (finL its B) ++ (HB hs ++ R))))
section
variable {sc : List Int} {n : Nat} {h : H} {m : M} {R E : List (Nat × O)}
theorem law_H (hn : 10 ≤ n) {nl sl hl pl zl kl gl wl : Nat} {N third twos ones limit bits form : Nat} {lef rig wai str one two ll : Nat} {hs : HS} {its : List Itm} {ls rs : List Sp} {wt sg roots : List Nat} {p : Hp} {alv : Nat} {B : Nat → Bool}
    (I : ItsOk N its) (e : its.length = N) (N1 : N ≤ 8) (nd : ([p.rl, two, one] ++ sls its).Nodup) (ok1 : ∀ s ∈ ls, s.Ok N 11) (ok2 : ∀ s ∈ rs, s.Ok N 11) (ok3 : ∀ a ∈ wt, a < N) (ok4 : ∀ a ∈ sg, a < N) (f1 : ls.length ≤ 3) (f2 : rs.length ≤ 2) (f3 : wt.length ≤ 2) (f4 : sg.length ≤ 2)
    (htl : (p.tl, .list (locs (thsOf its))) ∈ R) (hal : (p.al, .dict (atD (thsOf its))) ∈ R) (hfl : (p.fl, .list []) ∈ R) (hll : (ll, .list (roots.map .ref)) ∈ R) (hr : roots = [one, two] ∨ roots = [one, two, one] ∨ roots = [one, p.rl, two])
    (HO : HOk E (wF its) sg hs) (hE : ∀ x ∈ E, x ∈ R) (eb : p.bits = (bits : Int)) (hb : bits < 4) (halv : (alv, .list (tab N (fB B))) ∈ R)
    (hB : ∀ i, i < N → (B i = true ↔ RI (wt ++ (ls ++ rs).flatMap goalsOf ++ sg) (fun i => (itAt its i).sp) i))
    (V : B0 m nl sl hl pl zl kl gl wl N third twos ones limit bits form) (W : B1 m lef rig wai str one two ll hs) (v65 : m 65 = some (.ref alv))
    (Ld : Led h ((hl, hpO p) :: (TL (tsV its) ++ (VL [p.rl, two, one] (fun l => svs (cC its (wF its) (zF its) p.rl two one ls rs wt l)) ++ (VL ((tsV its).map (·.sl)) (fun l => svs (cC its (wF its) (zF its) p.rl two one ls rs wt l)) ++ (HB hs ++ R))))))
    (next : ∀ (h : H) (lv at_ fl cl : Nat) (hs' : HS), HOk E (frF B (zF its)) sg hs' → hv hs' = hv hs → (∀ a ∈ sg, B a = true) → (∀ i, i < N → B i = true → ∀ s ∈ (itAt its i).sp, ∀ a ∈ goalsOf s, B a = true) →
      Led h (LC its B ls rs wt two one hl lv at_ fl cl bits p hs' R) → wSs (LG sc n) p_law_40 LK m h) : wSs (LG sc n) p_law_39 LK m h := by
  obtain ⟨v49, v50, v70, v52, v71, v72, v16, v73, v74, v18, v63, v56, v75, v76, v55⟩ := id V
  obtain ⟨v80, v81, v82, v83, v61, v84, v30, v34⟩ := id W
  have T := tsV_tabs I e N1
  have htl' : (tsV its).length = N := by simp [tsV, e]
  have CI := law_cin (hl := hl) (ll := ll) I e N1 nd ok1 ok2 ok3 ok4 f1 f2 f3 f4 htl hal hfl hll hr HO hE (by walk_at "om") (by walk_at "om")
  have SD := law_seed (roots := roots) (hs := hs) I e N1 nd ok1 ok2 ok3 ok4 hr HO
  have hsdN : ∀ a ∈ wt ++ (ls ++ rs).flatMap goalsOf ++ sg, a < N := fun a ha => by
    rcases List.mem_append.mp ha with q | q
    · rcases List.mem_append.mp q with q | q
      · exact ok3 a q
      · obtain ⟨s, hs, q⟩ := List.mem_flatMap.mp q
        rcases List.mem_append.mp hs with r | r
        · exact goals_lt (ok1 s r) a q
        · exact goals_lt (ok2 s r) a q
    · exact ok4 a q
  have hcl : ∀ i, i < N → B i = true → ∀ s ∈ (itAt its i).sp, ∀ a ∈ goalsOf s, B a = true := fun i hi hb s hs a ha =>
    (hB a (goals_lt (it_ok I (by walk_at "om") s hs) a ha)).mpr (.step ((hB i hi).mp hb) hs ha)
  have hsd : ∀ a ∈ wt ++ (ls ++ rs).flatMap goalsOf ++ sg, B a = true := fun a ha => (hB a (hsdN a ha)).mpr (.seed ha)
  have nd3 : [p.rl, two, one].Nodup := (List.nodup_append.mp nd).1
  simp at nd3
  have ne1 : two ≠ p.rl := fun q => nd3.1.1 q.symm
  have ne2 : one ≠ p.rl := fun q => nd3.1.2 q.symm
  have ne3 : one ≠ two := fun q => nd3.2 q.symm
  have c1 := cC_rl (its := its) (w := wF its) (z := zF its) (rl := p.rl) (two := two) (one := one) (ls := ls) (rs := rs) (wt := wt)
  have c2 := cC_two (its := its) (w := wF its) (z := zF its) (one := one) (ls := ls) (rs := rs) (wt := wt) ne1
  have c3 := cC_one (its := its) (w := wF its) (z := zF its) (ls := ls) (rs := rs) (wt := wt) ne2 ne3
  have c4 : ∀ x ∈ its, cC its (wF its) (zF its) p.rl two one ls rs wt x.th.sl = x.sp.map (lawS (wF its) (zF its)) := fun x hx => cC_sl nd hx
  generalize cC its (wF its) (zF its) p.rl two one ls rs wt = c at *
  walk_at "go"
  refine sp_collect (by walk_at "le") CI Ld ?_
  intro al mv A lv at_ fl cl h hreach hA hmv Ld
  have hBal : ∀ i (hi : i < (tsV its).length), al (tsV its)[i] = B i := fun i hi => by
    have h1 := hreach _ (List.getElem_mem hi)
    have h2 := T.reach (sv := fun t => c t.sl) (spx := fun i => (itAt its i).sp) (fun i hi s hs => ((it_ok I (by walk_at "om") s hs).mono (by decide) : s.Ok N 11)) hsdN (fun i hi => by
      have hi' : i < its.length := by walk_at "om"
      show c ((tsV its)[i]).sl = _
      have e5 : (tsV its)[i] = thV its its[i] := by simp [tsV]
      rw [e5, itAt_lt hi']
      exact c4 _ (List.getElem_mem hi')) SD hi
    have h3 := hB i (by walk_at "om")
    rw [Bool.eq_iff_iff, h1, h2, h3]
  have hfin := fin_eq I e N1 c4 hBal hcl
  have mvls : ∀ {l : List Sp}, (∀ s ∈ l, s.Ok N 11) → (∀ s ∈ l, ∀ a ∈ goalsOf s, B a = true) → (l.map (lawS (wF its) (zF its))).map (mvS (tsV its) (stA ((tsV its).filter al)).1) = l.map (lawS (frF B (zF its)) (zF its)) := fun ok hs => T.mvl hBal ok hs
  have e1 := mvls ok1 fun s hs a ha => hsd a (by simp only [List.mem_append, List.mem_flatMap]; exact .inl (.inr ⟨s, .inl hs, ha⟩))
  have e2 := mvls ok2 fun s hs a ha => hsd a (by simp only [List.mem_append, List.mem_flatMap]; exact .inl (.inr ⟨s, .inr hs, ha⟩))
  have e3 : (wt.map fun a => SV.ref (wF its a)).map (mvS (tsV its) (stA ((tsV its).filter al)).1) = wt.map fun a => .ref (frF B (zF its) a) := by
    rw [List.map_map]
    exact List.map_congr_left fun a ha => congrArg SV.ref (T.mvw hBal (ok3 a ha) (hsd a (by simp [ha])))
  have e4 : ∀ i ∈ liv B its.length, (fun t : Th => (c t.sl).map (mvS (tsV its) (stA ((tsV its).filter al)).1)) (finT its B i) = (itAt its i).sp.map (lawS (frF B (zF its)) (zF its)) := fun i hi => by
    obtain ⟨h1, h2⟩ := liv_mem hi
    show (c (itAt its i).th.sl).map _ = _
    rw [c4 _ (itAt_mem h1)]
    exact mvls (fun s hs => (it_ok I h1 s hs).mono (by decide)) (hcl i (by walk_at "om") h2)
  have e5 := cards_eq (sv := fun t : Th => (c t.sl).map (mvS (tsV its) (stA ((tsV its).filter al)).1)) I e N1 hcl e4 bits
  have e6 : ((tsV its).filter al).length = (liv B N).length := by
    rw [filter_liv hBal ⟨0, 0, 0, 0, 0, 0, 0, []⟩, List.length_map, htl']
  have e7 := T.stp2 hBal
  have e8 := T.cnp2 hBal
  have HO' : HOk E (frF B (zF its)) sg (mvH (stA ((tsV its).filter al)).1 hs) := by
    induction hs using Option.casesOn with
    | none => exact ⟨fun _ => HO.none rfl, fun _ _ _ q => (nomatch q)⟩
    | some q =>
      obtain ⟨hh, rw_, rows⟩ := q
      refine ⟨fun q => (nomatch q), fun a b r q => ?_⟩
      cases q
      obtain ⟨g1, g2, g3⟩ := HO.some hh rw_ rows rfl
      refine ⟨g1, by rw [List.map_map]; exact g2, ?_⟩
      rw [List.map_map]
      have : (rows.map (·.2)).map (mvW (stA ((tsV its).filter al)).1) = (sg.map (wF its)).map (mvW (stA ((tsV its).filter al)).1) := by rw [g3]
      rw [List.map_map, List.map_map] at this
      refine Eq.trans this ?_
      exact List.map_congr_left fun a ha => T.mvw hBal (ok4 a ha) (hsd a (by simp [ha]))
  have e9 : hv (mvH (stA ((tsV its).filter al)).1 hs) = hv hs := by
    cases hs <;> rfl
  subst hA hmv
  have LdC : Led h (LC its B ls rs wt two one hl lv at_ fl cl bits p (mvH (stA ((tsV its).filter al)).1 hs) R) := by
    have s1 : locs ((tsV its).filter al) = locs (finL its B) := by rw [← hfin]; unfold locs; rw [List.map_map]; rfl
    have s2 : VL ([p.rl, two, one] ++ ((tsV its).filter al).map (·.sl)) (fun l => svs ((c l).map (mvS (tsV its) (stA ((tsV its).filter al)).1))) = (p.rl, O.list (svs (wt.map fun a => .ref (frF B (zF its) a)))) :: (two, .list (svs (rs.map (lawS (frF B (zF its)) (zF its))))) :: (one, .list (svs (ls.map (lawS (frF B (zF its)) (zF its))))) :: SLs (finL its B) := by
      rw [← hfin, ← e1, ← e2, ← e3, ← c1, ← c2, ← c3]
      unfold VL SLs
      rw [List.map_append, List.map_map, List.map_map]
      rfl
    rw [s1, hfin, eb, e5, s2] at Ld
    unfold LC colP
    unfold finP at Ld
    rw [e7, e8, ← e] at Ld
    exact Ld
  walk_at "go"
  have es : tab N (fB B) = vints ((List.range N).map (fB B)) := by unfold tab vints; rw [List.map_map]; rfl
  rw [es] at halv
  refine x_sum Ld (xs := (List.range N).map (fB B)) (by simp only [List.mem_cons, List.mem_append]; right; right; right; right; right; right; right; exact halv) (by simp; walk_at "om") (fun i hi => ?_) ?_
  · obtain ⟨k, _, rfl⟩ := List.mem_map.mp hi
    unfold fB
    split <;> walk_at "om"
  walk_at "go"
  first | refine s_eqT (by rw [sum_liv, e6, htl'] : ((tsV its).length : Int) - (((tsV its).filter al).length : Int) = (N : Int) - ((List.range N).map (fB B)).sum) ?_ | refine s_neF (by rw [sum_liv, e6, htl'] : ((tsV its).length : Int) - (((tsV its).filter al).length : Int) = (N : Int) - ((List.range N).map (fB B)).sum) ?_
  show wSs (LG sc n) p_law_40 LK _ h
  exact next h lv at_ fl cl _ HO' e9 (fun a ha => hsd a (by simp [ha])) hcl LdC
end
end
section
theorem x_inL {h : H} {L : List (Nat × O)} {l : Nat} {i : Int} {xs : List Int} {Q : Bool → Prop} (Ld : Led h L) (m : (l, O.list (vints xs)) ∈ L) (k : Q (xs.contains i)) : memW (.int i) (.ref l) Q h := by unfold memW; exact .inr ⟨xs, Ld.get m, k⟩
theorem fold_len : ∀ (l ks : List Int), (l.foldl addK ks).length ≤ ks.length + l.length
  | [], ks => by simp
  | a :: r, ks => by
    have h1 := fold_len r (addK ks a)
    have h2 := addK_len ks a
    simp only [List.foldl_cons, List.length_cons]
    walk_at "om"
theorem flat_len {α : Type} (f : α → List Int) (k : Nat) : ∀ l : List α, (∀ a ∈ l, (f a).length ≤ k) → (l.flatMap f).length ≤ k * l.length
  | [], _ => by simp
  | a :: r, h => by
    have h1 := flat_len f k r fun b hb => h b (.tail _ hb)
    have h2 := h a (.head _)
    rw [List.flatMap_cons, List.length_append, List.length_cons, Nat.mul_add]
    walk_at "om"
noncomputable def kF (its : List Itm) (i : Nat) : Int := (itAt its i).th.kind
theorem kindsV_tab (its : List Itm) : kindsV its = tab its.length (kF its) := tab_of (fun x => x.th.kind)
noncomputable def valI (its : List Itm) (B : Nat → Bool) (i : Nat) : List V := (itAt its i).sp.map fun s => (lawS (frF B (zF its)) (zF its) s).v
noncomputable def tupI (its : List Itm) (B : Nat → Bool) (lp : Nat → Nat) (i : Nat) : V := .tup [.int ((i : Int) + 1), .int (frF B (zF its) i), .int (kF its i), .int (agF B (gF its) i), .int (zF its i), .ref (lp i)]
noncomputable def PLs (its : List Itm) (B : Nat → Bool) (lp : Nat → Nat) (l : List Nat) : List (Nat × O) := l.map fun i => (lp i, .list (valI its B i))
structure Tb (R : List (Nat × O)) (its : List Itm) (B : Nat → Bool) (N pl zl kl al fr ag : Nat) : Prop where
  pl : (pl, .list ((List.range N).map fun i => .ref (itAt its i).q)) ∈ R
  sp : ∀ i, i < N → ((itAt its i).q, .list ((itAt its i).sp.map Sp.V)) ∈ R
  zl : (zl, .list (tab N (zF its))) ∈ R
  kl : (kl, .list (tab N (kF its))) ∈ R
  al : (al, .list (tab N (fB B))) ∈ R
  fr : (fr, .list (tab N (frF B (zF its)))) ∈ R
  ag : (ag, .list (tab N (agF B (gF its)))) ∈ R
noncomputable def addIf (b : Bool) (ks : List Int) (x : Int) : List Int := if b = true then addK ks x else ks
theorem addK_mem {ks : List Int} {x : Int} (h : x ∈ ks) : addK ks x = ks := if_pos h
theorem mem_addK (ks : List Int) (x : Int) : x ∈ addK ks x := by
  unfold addK; split
  · assumption
  · simp
theorem addK_addIf (b : Bool) (ks : List Int) (x : Int) : addK (addIf b ks x) x = addK ks x := by
  unfold addIf
  induction b using Bool.casesOn with
  | false => rfl
  | true => exact addK_mem (mem_addK ks x)
theorem addIf_len (b : Bool) (ks : List Int) (x : Int) : (addIf b ks x).length ≤ ks.length + 1 := by
  unfold addIf; split
  · exact addK_len ks x
  · walk_at "om"
theorem any_snoc {α : Type} (f : α → Bool) {l : List α} {k : Nat} (h : k < l.length) : (l.take (k + 1)).any f = ((l.take k).any f || f l[k]) := by
  rw [take_snoc h, List.any_append]; simp
theorem cardsI_succ (its : List Itm) (B : Nat → Bool) (b i k : Nat) (ks : List Int) : (cardsI its B b i (k + 1)).foldl addK ks = addIf (ykN its B i k) ((cardsI its B b i k).foldl addK ks) (cardI its B b i k) := by
  unfold cardsI addIf
  rw [List.range_succ, List.filter_append, List.filter_cons, List.filter_nil]
  cases h : ykN its B i k with
  | false => simp
  | true => simp
theorem cardsN_succ (its : List Itm) (B : Nat → Bool) (b k : Nat) : cardsN its B b (k + 1) = if B k = true then (cardsI its B b k (itAt its k).sp.length).foldl addK (cardsN its B b k) else cardsN its B b k := by
  unfold cardsN
  rw [liv_snoc, List.flatMap_append, List.foldl_append]
  cases h : B k <;> simp
theorem cardsI_len (its : List Itm) (B : Nat → Bool) (b i k : Nat) : (cardsI its B b i k).length ≤ k := by
  unfold cardsI
  rw [List.length_map]
  exact Nat.le_trans (List.length_filter_le _ _) (by simp)
theorem cardsN_len {N : Nat} {its : List Itm} (I : ItsOk N its) (B : Nat → Bool) (b k : Nat) (hk : k ≤ its.length) : (cardsN its B b k).length ≤ 3 * k := by
  unfold cardsN
  have h1 := fold_len ((liv B k).flatMap fun i => cardsI its B b i (itAt its i).sp.length) []
  have h2 := flat_len (fun i => cardsI its B b i (itAt its i).sp.length) 3 (liv B k) fun i hi => by
    have h3 := (liv_mem hi).1
    have h4 := cardsI_len its B b i (itAt its i).sp.length
    have h5 : (itAt its i).sp.length ≤ 3 := by rw [itAt_lt (by walk_at "om")]; exact (I.at_ i (by walk_at "om")).few
    walk_at "om"
  have h3 : (liv B k).length ≤ k := Nat.le_trans (List.length_filter_le _ _) (by simp)
  simp only [List.length_nil] at h1
  have h4 : 3 * (liv B k).length ≤ 3 * k := Nat.mul_le_mul_left 3 h3
  walk_at "om"
theorem PLs_congr {its : List Itm} {B : Nat → Bool} {lp lp' : Nat → Nat} {l : List Nat} (h : ∀ i ∈ l, lp i = lp' i) : PLs its B lp l = PLs its B lp' l := List.map_congr_left fun i hi => by rw [h i hi]
theorem tupI_congr {its : List Itm} {B : Nat → Bool} {lp lp' : Nat → Nat} {l : List Nat} (h : ∀ i ∈ l, lp i = lp' i) : l.map (tupI its B lp) = l.map (tupI its B lp') := List.map_congr_left fun i hi => by unfold tupI; rw [h i hi]
section
variable {sc : List Int} {n : Nat} {h : H} {m : M} {R : List (Nat × O)}
theorem law_I (hn : 4 ≤ n) {nl sl hl pl zl kl gl wl : Nat} {N third twos ones limit bits form : Nat} {lef rig wai str one two ll : Nat} {hs : HS} {its : List Itm} {alv fr ag : Nat} {pos mov : Int} {B : Nat → Bool}
    (I : ItsOk N its) (e : its.length = N) (N1 : N ≤ 8) (hb : bits < 4) (T : Tb R its B N pl zl kl alv fr ag)
    (V : B0 m nl sl hl pl zl kl gl wl N third twos ones limit bits form) (W : B1 m lef rig wai str one two ll hs) (U : B2 m alv fr ag pos mov)
    (Ld : Led h R)
    (next : ∀ (m : M) (h : H) (th ca : Nat) (lp : Nat → Nat), B0 m nl sl hl pl zl kl gl wl N third twos ones limit bits form → B1 m lef rig wai str one two ll hs → B2 m alv fr ag pos mov → m 87 = some (.ref th) → m 88 = some (.ref ca) →
      Led h ((ca, .list (vints (cardsN its B bits N))) :: (th, .list ((liv B N).map (tupI its B lp))) :: (PLs its B lp (liv B N) ++ R)) → wSs (LG sc n) p_law_43 LK m h) : wSs (LG sc n) p_law_40 LK m h := by
  obtain ⟨v49, v50, v70, v52, v71, v72, v16, v73, v74, v18, v63, v56, v75, v76, v55⟩ := id V
  obtain ⟨v80, v81, v82, v83, v61, v84, v30, v34⟩ := id W
  obtain ⟨v65, v43, v85, v77, v86⟩ := id U
  obtain ⟨tpl, tsp, tzl, tkl, tal, tfr, tag⟩ := id T
  walk_at "go"
  refine x_new (by assumption) ?_
  intro th h Ld
  walk_at "go"
  refine x_new (by assumption) ?_
  intro ca h Ld
  walk_at "go"
  refine ⟨by walk_at "i", by walk_at "j", ?_⟩
  refine for_inv N (fun k m h' => ∃ lp, A6 (B0 m nl sl hl pl zl kl gl wl N third twos ones limit bits form) (B1 m lef rig wai str one two ll hs) (B2 m alv fr ag pos mov) (m 87 = some (.ref th)) (m 88 = some (.ref ca)) (Led h' ((ca, .list (vints (cardsN its B bits k))) :: (th, .list ((liv B k).map (tupI its B lp))) :: (PLs its B lp (liv B k) ++ R)))) ?_ ?_ ⟨fun _ => 0, ⟨v49, v50, v70, v52, v71, v72, v16, v73, v74, v18, v63, v56, v75, v76, v55⟩, ⟨v80, v81, v82, v83, v61, v84, v30, v34⟩, ⟨v65, v43, v85, v77, v86⟩, rfl, rfl, Ld⟩
  · rintro m h ⟨lp, V, W, U, v87, v88, Ld⟩
    refine ⟨src_range_end, ?_⟩
    show wSs (LG sc n) p_law_43 LK _ h
    exact next m h th ca lp V W U v87 v88 Ld
  · clear v49 v50 v70 v52 v71 v72 v16 v73 v74 v18 v63 v56 v75 v76 v55 v80 v81 v82 v83 v61 v84 v30 v34 v65 v43 v85 v77 v86 V W U Ld
    rintro J hJ k m h hk ⟨lp, V, W, U, v87, v88, Ld⟩
    obtain ⟨v49, v50, v70, v52, v71, v72, v16, v73, v74, v18, v63, v56, v75, v76, v55⟩ := id V
    obtain ⟨v80, v81, v82, v83, v61, v84, v30, v34⟩ := id W
    obtain ⟨v65, v43, v85, v77, v86⟩ := id U
    have tspk := tsp k hk
    have few : (itAt its k).sp.length ≤ 3 := by rw [itAt_lt (by walk_at "om")]; exact (I.at_ k (by walk_at "om")).few
    have okk : ∀ s ∈ (itAt its k).sp, s.Ok N 11 := fun s hs => (it_ok I (by walk_at "om") s hs).mono (by decide)
    have hcl := cardsN_len I B bits k (by walk_at "om")
    have hlv : (liv B k).length ≤ k := Nat.le_trans (List.length_filter_le _ _) (by simp)
    have hspec : ((List.range N).map fun i => Qd.V.ref (itAt its i).q)[((k : Nat) : Int).toNat]? = some (.ref (itAt its k).q) := by rw [Int.toNat_natCast]; simp [hk]
    refine ⟨.int k, _, src_range_in hk, rfl, ?_⟩
    walk_at "go"
    refine x_idxL (v := .int (fB B k)) (by assumption) (by trivial) (by walk_at "i") (by walk_at "j") (tab_get hk) ?_
    walk_at "go"
    cases hB : B k with
    | false =>
      rw [show fB B k = 0 from by simp [fB, hB]]
      walk_at "go"
      refine ⟨lp, ⟨v49, v50, v70, v52, v71, v72, v16, v73, v74, v18, v63, v56, v75, v76, v55⟩, ⟨v80, v81, v82, v83, v61, v84, v30, v34⟩, ⟨v65, v43, v85, v77, v86⟩, v87, v88, ?_⟩
      rw [cardsN_succ, liv_snoc, hB, if_neg (by decide), if_neg (by decide), List.append_nil]
      exact Ld
    | true =>
      rw [show fB B k = 1 from by simp [fB, hB]]
      walk_at "go"
      refine s_Ap1 (by assumption) (by trivial) ?_
      walk_at "go"
      refine x_idxL (v := .int (frF B (zF its) k)) (by assumption) (by trivial) (by walk_at "i") (by walk_at "j") (tab_get hk) ?_
      walk_at "go"
      refine x_idxL (v := .int (kF its k)) (by assumption) (by trivial) (by walk_at "i") (by walk_at "j") (tab_get hk) ?_
      walk_at "go"
      refine x_idxL (v := .int (agF B (gF its) k)) (by assumption) (by trivial) (by walk_at "i") (by walk_at "j") (tab_get hk) ?_
      walk_at "go"
      refine x_idxL (v := .int (zF its k)) (by assumption) (by trivial) (by walk_at "i") (by walk_at "j") (tab_get hk) ?_
      walk_at "go"
      refine x_idxL (v := .ref (itAt its k).q) (by assumption) (by trivial) (by walk_at "i") (by walk_at "j") hspec ?_
      walk_at "go"
      refine comp_inv (s := .list (itAt its k).q) (itAt its k).sp.length (fun j acc h' => h' = h ∧ acc = ((itAt its k).sp.take j).map fun s => (lawS (frF B (zF its)) (zF its) s).v) (by walk_at "om") ?_ ?_ ⟨rfl, rfl⟩
      · rintro acc _ ⟨rfl, rfl⟩
        refine ⟨src_e Ld (by trivial) (by first | exact List.length_map _ | exact (List.length_map _).trans (List.length_map _) | (simp)), ?_⟩
        rw [List.take_length]
        refine x_new (by assumption) ?_
        intro l0 h Ld
        walk_at "go"
        refine x_append (by assumption) (by trivial) (by simp; walk_at "om") ?_
        intro h Ld
        walk_at "go"
        refine x_idxL (v := .ref (itAt its k).q) (by assumption) (by trivial) (by walk_at "i") (by walk_at "j") hspec ?_
        walk_at "go"
        refine x_lenL (xs := (itAt its k).sp.map Sp.V) (by assumption) (by trivial) (by simp; walk_at "om") ?_
        rw [List.length_map]
        walk_at "go"
        refine ⟨by walk_at "i", by walk_at "j", ?_⟩
        have Ld : Led h ((ca, .list (vints (cardsN its B bits k))) :: (th, .list ((liv B (k + 1)).map (tupI its B fun i => if i = k then l0 else lp i))) :: (PLs its B (fun i => if i = k then l0 else lp i) (liv B (k + 1)) ++ R)) := by
          have hc : ∀ i ∈ liv B k, lp i = (fun i => if i = k then l0 else lp i) i := fun i hi => by
            have := (liv_mem hi).1
            simp only [if_neg (show ¬ i = k by walk_at "om")]
          rw [PLs_congr hc, tupI_congr hc] at Ld
          rw [liv_snoc, hB, if_pos rfl]
          have e1 : PLs its B (fun i => if i = k then l0 else lp i) (liv B k ++ [k]) = PLs its B (fun i => if i = k then l0 else lp i) (liv B k) ++ [(l0, .list (valI its B k))] := by
            unfold PLs; rw [List.map_append]; simp
          have e2 : (liv B k ++ [k]).map (tupI its B fun i => if i = k then l0 else lp i) = (liv B k).map (tupI its B fun i => if i = k then l0 else lp i) ++ [.tup [.int ((k : Int) + 1), .int (frF B (zF its) k), .int (kF its k), .int (agF B (gF its) k), .int (zF its k), .ref l0]] := by
            rw [List.map_append]; simp [tupI]
          rw [e1, e2, List.append_assoc]
          exact Led.push Ld (.tail _ (.tail _ (Pull.mid _ _)))
        generalize hlp : (fun i => if i = k then l0 else lp i) = lp' at Ld
        refine for_inv (itAt its k).sp.length (fun j m h' => A7 (B0 m nl sl hl pl zl kl gl wl N third twos ones limit bits form) (B1 m lef rig wai str one two ll hs) (B2 m alv fr ag pos mov) (m 87 = some (.ref th)) (m 88 = some (.ref ca)) (m 44 = some (.int k)) (Led h' ((ca, .list (vints ((cardsI its B bits k j).foldl addK (cardsN its B bits k)))) :: (th, .list ((liv B (k + 1)).map (tupI its B lp'))) :: (PLs its B lp' (liv B (k + 1)) ++ R)))) ?_ ?_ ⟨⟨v49, v50, v70, v52, v71, v72, v16, v73, v74, v18, v63, v56, v75, v76, v55⟩, ⟨v80, v81, v82, v83, v61, v84, v30, v34⟩, ⟨v65, v43, v85, v77, v86⟩, v87, v88, rfl, Ld⟩
        · rintro m h ⟨V, W, U, v87, v88, v44, Ld⟩
          refine ⟨src_range_end, ?_⟩
          walk_at "go"
          refine ⟨lp', V, W, U, v87, v88, ?_⟩
          rw [cardsN_succ, hB, if_pos rfl]
          exact Ld
        · clear v49 v50 v70 v52 v71 v72 v16 v73 v74 v18 v63 v56 v75 v76 v55 v80 v81 v82 v83 v61 v84 v30 v34 v65 v43 v85 v77 v86 v87 v88 V W U Ld
          rintro J hJ j m h hj ⟨V, W, U, v87, v88, v44, Ld⟩
          obtain ⟨v49, v50, v70, v52, v71, v72, v16, v73, v74, v18, v63, v56, v75, v76, v55⟩ := id V
          obtain ⟨v80, v81, v82, v83, v61, v84, v30, v34⟩ := id W
          obtain ⟨v65, v43, v85, v77, v86⟩ := id U
          have hsm := List.getElem_mem hj
          have hsp : ((itAt its k).sp.map Sp.V)[((j : Nat) : Int).toNat]? = some ((itAt its k).sp[j]).V := by rw [Int.toNat_natCast]; simp [hj]
          have hyk : ykN its B k j = yk its B k (itAt its k).sp[j] := by unfold ykN; rw [List.getElem?_eq_getElem hj]
          have hcs := cardsI_succ its B bits k j (cardsN its B bits k)
          rw [hyk] at hcs
          have okj := okk _ hsm
          have g2 := goals_two (itAt its k).sp[j]
          generalize (itAt its k).sp[j] = s at *
          have hfl := fold_len (cardsI its B bits k j) (cardsN its B bits k)
          have hcil := cardsI_len its B bits k j
          generalize hks : (cardsI its B bits k j).foldl addK (cardsN its B bits k) = ks at *
          refine ⟨.int j, _, src_range_in hj, rfl, ?_⟩
          walk_at "go"
          refine x_idxL (v := .ref (itAt its k).q) (by assumption) (by trivial) (by walk_at "i") (by walk_at "j") hspec ?_
          walk_at "go"
          refine x_idxL (v := s.V) (by assumption) (by trivial) (by walk_at "i") (by walk_at "j") hsp ?_
          walk_at "go"
          refine sp_goals (N := N) (by walk_at "le") Ld okj ?_
          intro gl' h Ld
          walk_at "go"
          refine for_inv (s := .list gl') (goalsOf s).length (fun g m h' => A8 (B0 m nl sl hl pl zl kl gl wl N third twos ones limit bits form) (B1 m lef rig wai str one two ll hs) (B2 m alv fr ag pos mov) (m 87 = some (.ref th)) (m 88 = some (.ref ca)) (m 44 = some (.int k)) (m 78 = some (.int j)) (Led h' ((ca, .list (vints (addIf (((goalsOf s).take g).any fun a => decide (agF B (gF its) a < agF B (gF its) k)) ks (cardI its B bits k j)))) :: (gl', .list (vnats (goalsOf s))) :: (th, .list ((liv B (k + 1)).map (tupI its B lp'))) :: (PLs its B lp' (liv B (k + 1)) ++ R)))) ?_ ?_ ⟨⟨v49, v50, v70, v52, v71, v72, v16, v73, v74, v18, v63, v56, v75, v76, v55⟩, ⟨v80, v81, v82, v83, v61, v84, v30, v34⟩, ⟨v65, v43, v85, v77, v86⟩, v87, v88, v44, rfl, Led.pull (p := (ca, .list (vints ks))) Ld (by trivial)⟩
          · rintro m h ⟨V, W, U, v87, v88, v44, v78, Ld⟩
            refine ⟨src_e Ld (by trivial) (by first | exact List.length_map _ | exact (List.length_map _).trans (List.length_map _) | (simp [vnats])), ?_⟩
            rw [List.take_length] at Ld
            walk_at "go"
            rw [hcs]
            exact ⟨V, W, U, v87, v88, v44, Led.sub Ld (.cons_cons _ (.cons _ (.refl _)))⟩
          · clear v49 v50 v70 v52 v71 v72 v16 v73 v74 v18 v63 v56 v75 v76 v55 v80 v81 v82 v83 v61 v84 v30 v34 v65 v43 v85 v77 v86 v87 v88 v44 V W U Ld
            rintro J hJ g m h hg ⟨V, W, U, v87, v88, v44, v78, Ld⟩
            obtain ⟨v49, v50, v70, v52, v71, v72, v16, v73, v74, v18, v63, v56, v75, v76, v55⟩ := id V
            obtain ⟨v80, v81, v82, v83, v61, v84, v30, v34⟩ := id W
            obtain ⟨v65, v43, v85, v77, v86⟩ := id U
            have hgm := List.getElem_mem hg
            have han := any_snoc (fun a => decide (agF B (gF its) a < agF B (gF its) k)) hg
            refine ⟨.int ((goalsOf s)[g] : Nat), _, src_i Ld (by trivial) (by first | exact get_map (by assumption) | (simp [vnats, hg])), rfl, ?_⟩
            generalize (goalsOf s)[g] = a at *
            have haN := goals_lt okj a hgm
            generalize ((goalsOf s).take g).any (fun a => decide (agF B (gF its) a < agF B (gF its) k)) = bb at *
            have hal := addIf_len bb ks (cardI its B bits k j)
            walk_at "go"
            refine x_idxL (v := .int (frF B (zF its) k)) (by assumption) (by trivial) (by walk_at "i") (by walk_at "j") (tab_get hk) ?_
            walk_at "go"
            refine ⟨rfl, by walk_at "om", by walk_at "om", ?_⟩
            walk_at "go"
            have hp : (2 : Int) ^ ((bits : Int).toNat) = 2 ^ bits := by rw [Int.toNat_natCast]
            have hp2 : (0 : Int) < 2 ^ bits ∧ (2 : Int) ^ bits < 1000000 := by
              have : bits = 0 ∨ bits = 1 ∨ bits = 2 ∨ bits = 3 := by walk_at "om"
              rcases this with rfl | rfl | rfl | rfl <;> decide
            rw [hp]
            refine ⟨hp2.1, hp2.2, ?_⟩
            walk_at "go"
            refine x_idxL (v := .int (agF B (gF its) a)) (by assumption) (by trivial) (by walk_at "i") (by walk_at "j") (tab_get haN) ?_
            walk_at "go"
            refine x_idxL (v := .int (agF B (gF its) k)) (by assumption) (by trivial) (by walk_at "i") (by walk_at "j") (tab_get hk) ?_
            walk_at "go"
            by_cases q : agF B (gF its) a < agF B (gF its) k
            · first | refine s_ltT (q) ?_ | refine s_leT (q) ?_ | refine s_gtT (q) ?_ | refine s_geT (q) ?_
              walk_at "go"
              rw [(decide_eq_true q), Bool.or_true] at han
              refine x_inL (xs := addIf bb ks (cardI its B bits k j)) (by assumption) (by trivial) ?_
              have e9 : (frF B (zF its) k + 2 + (j : Int)) / 2 ^ bits = cardI its B bits k j := rfl
              rw [e9]
              by_cases q2 : cardI its B bits k j ∈ addIf bb ks (cardI its B bits k j)
              · rw [List.contains_iff_mem.mpr q2]
                walk_at "go"
                rw [han]
                refine ⟨⟨v49, v50, v70, v52, v71, v72, v16, v73, v74, v18, v63, v56, v75, v76, v55⟩, ⟨v80, v81, v82, v83, v61, v84, v30, v34⟩, ⟨v65, v43, v85, v77, v86⟩, v87, v88, v44, v78, ?_⟩
                have e8 : addIf true ks (cardI its B bits k j) = addIf bb ks (cardI its B bits k j) := by
                  show addK ks _ = _
                  rw [← addK_addIf bb, addK_mem q2]
                rw [e8]
                exact Ld
              · rw [show (addIf bb ks (cardI its B bits k j)).contains (cardI its B bits k j) = false from by simpa using q2]
                walk_at "go"
                refine s_Ap1 (by assumption) (by trivial) ?_
                walk_at "go"
                refine x_append (by assumption) (by trivial) (by simp [vints]; walk_at "om") ?_
                intro h Ld
                walk_at "go"
                rw [han]
                refine ⟨⟨v49, v50, v70, v52, v71, v72, v16, v73, v74, v18, v63, v56, v75, v76, v55⟩, ⟨v80, v81, v82, v83, v61, v84, v30, v34⟩, ⟨v65, v43, v85, v77, v86⟩, v87, v88, v44, v78, ?_⟩
                have e8 : addIf true ks (cardI its B bits k j) = addIf bb ks (cardI its B bits k j) ++ [cardI its B bits k j] := by
                  show addK ks _ = _
                  rw [← addK_addIf bb]
                  unfold addK
                  rw [if_neg q2]
                rw [e8, ← vints_app]
                exact Ld
            · first | refine s_ltF (q) ?_ | refine s_leF (q) ?_ | refine s_gtF (q) ?_ | refine s_geF (q) ?_
              walk_at "go"
              rw [(decide_eq_false q), Bool.or_false] at han
              rw [han]
              exact ⟨⟨v49, v50, v70, v52, v71, v72, v16, v73, v74, v18, v63, v56, v75, v76, v55⟩, ⟨v80, v81, v82, v83, v61, v84, v30, v34⟩, ⟨v65, v43, v85, v77, v86⟩, v87, v88, v44, v78, Ld⟩
      · rintro J hJ j acc _ hj ⟨rfl, rfl⟩
        have okj := okk _ (List.getElem_mem hj)
        refine ⟨((itAt its k).sp[j]).V, src_i Ld (by trivial) (by first | exact get_map (by assumption) | (rw [List.getElem?_map, List.getElem?_eq_getElem hj]; rfl)), ?_⟩
        walk_at "go"
        refine sp_value (N := N) (w := frF B (zF its)) (sz := zF its) (by walk_at "le") Ld okj (by walk_at "om") (by trivial) (by trivial) (fun i hi => z_pos I e hi) ?_
        walk_at "go"
        exact ⟨rfl, by rw [take_snoc hj, List.map_append]; rfl⟩
end
end
section
theorem deeps_map {h : H} {n : Nat} {α : Type} {f : α → V} {g : α → D} : ∀ {l : List α}, (∀ a ∈ l, Deep h n (f a) (g a)) → Deeps h n (l.map f) (l.map g)
  | [], _ => .nil n
  | a :: r, k => .cons (k a (.head _)) (deeps_map fun b hb => k b (.tail _ hb))
theorem lawS_deep {h : H} (w z : Nat → Int) (s : Sp) : Deep h 5 (lawS w z s).v (vD (lawS w z s).v) := by
  have z0 : ∀ {n : Nat}, ∀ x ∈ ([] : List V), Deep h n x (vD x) := fun x hx => by cases hx
  have c1 : ∀ {n : Nat} {x : V} {r : List V}, Deep h n x (vD x) → (∀ y ∈ r, Deep h n y (vD y)) → ∀ y ∈ x :: r, Deep h n y (vD y) := fun a b y hy => by
    rcases List.mem_cons.mp hy with rfl | hy
    · exact a
    · exact b y hy
  have t1 : Deep h 3 (.tup [.int 16]) (vD (.tup [.int 16])) := deep_tup (c1 (deep_int _) z0)
  obtain ⟨c, a, b, m⟩ := s
  unfold lawS
  dsimp only
  split
  all_goals refine SV.deep (fun t ht => ?_) (fun k x y u hk => ?_)
  all_goals first | (rcases ht with q | ⟨_, q⟩ <;> cases q) | cases hk
  · exact deep_tup (c1 (deep_int _) (c1 (deep_int _) (c1 (deep_tup (c1 (deep_int _) z0)) z0)))
  · exact deep_tup (c1 (deep_int _) (c1 (deep_int _) z0))
  · exact deep_tup z0
  · exact ⟨deep_int _, deep_int _, t1⟩
theorem x_sortedD {h : H} {L : List (Nat × O)} {l : Nat} {es : List (Int × V)} {P : KE} (Ld : Led h L) (m : (l, O.dict es) ∈ L) (hl : es.length < 64) (k : ∀ o h', Led h' ((o, .list (vints (isort (es.map (·.1))))) :: L) → P (.ref o) h') : sortedW (.ref l) P h := by
  unfold sortedW; exact ⟨l, rfl, .inr ⟨es, Ld.get m, hl, x_new Ld k⟩⟩
theorem x_sortedL {h : H} {L : List (Nat × O)} {l : Nat} {xs : List Int} {P : KE} (Ld : Led h L) (m : (l, O.list (vints xs)) ∈ L) (hl : xs.length < 64) (k : ∀ o h', Led h' ((o, .list (vints (isort xs))) :: L) → P (.ref o) h') : sortedW (.ref l) P h := by
  unfold sortedW; exact ⟨l, rfl, .inl ⟨xs, Ld.get m, hl, x_new Ld k⟩⟩
theorem isort_id : ∀ {l : List Int}, l.Pairwise (· ≤ ·) → isort l = l
  | [], _ => rfl
  | a :: r, h => by
    obtain ⟨h1, h2⟩ := List.pairwise_cons.mp h
    rw [isort, isort_id h2]
    induction r using List.casesOn with
    | nil => rfl
    | cons b r => rw [insSort, if_pos (h1 b (.head _))]
theorem liv_sorted (B : Nat → Bool) (N : Nat) : (liv B N).Pairwise (· < ·) := List.Pairwise.filter _ List.pairwise_lt_range
structure Fin (L E : List (Nat × O)) (its : List Itm) (B : Nat → Bool) (ls rs : List Sp) (wt sg : List Nat) (hl bits two one fr zl lef rig wai str th ca : Nat) (lp : Nat → Nat) (P : Hp) (hs : HS) : Prop where
  hp : (hl, hpO P) ∈ L
  tl : (P.tl, .list (locs (finL its B))) ∈ L
  al : (P.al, .dict (atD (finL its B))) ∈ L
  cl : (P.cl, .dict (ksD (cardsN its B bits its.length))) ∈ L
  ths : ∀ t ∈ finL its B, (t.loc, thO t) ∈ L ∧ (t.sl, O.list t.slots) ∈ L
  rl : (P.rl, .list (svs (wt.map fun a => .ref (frF B (zF its) a)))) ∈ L
  two : (two, .list (svs (rs.map (lawS (frF B (zF its)) (zF its))))) ∈ L
  one : (one, .list (svs (ls.map (lawS (frF B (zF its)) (zF its))))) ∈ L
  frl : (fr, .list (tab its.length (frF B (zF its)))) ∈ L
  zl : (zl, .list (tab its.length (zF its))) ∈ L
  lef : (lef, .list (ls.map Sp.V)) ∈ L
  rig : (rig, .list (rs.map Sp.V)) ∈ L
  wai : (wai, .list (vnats wt)) ∈ L
  str : (str, .list (vnats sg)) ∈ L
  thl : (th, .list ((liv B its.length).map (tupI its B lp))) ∈ L
  lps : ∀ i ∈ liv B its.length, (lp i, O.list (valI its B i)) ∈ L
  cal : (ca, .list (vints (cardsN its B bits its.length))) ∈ L
  HO : HOk E (frF B (zF its)) sg hs
  HE : ∀ x ∈ E, x ∈ L
  HB : ∀ x ∈ HB hs, x ∈ L
theorem Fin.mono {L L' E : List (Nat × O)} {its : List Itm} {B : Nat → Bool} {ls rs : List Sp} {wt sg : List Nat} {hl bits two one fr zl lef rig wai str th ca : Nat} {lp : Nat → Nat} {P : Hp} {hs : HS} (F : Fin L E its B ls rs wt sg hl bits two one fr zl lef rig wai str th ca lp P hs) (s : ∀ x ∈ L, x ∈ L') : Fin L' E its B ls rs wt sg hl bits two one fr zl lef rig wai str th ca lp P hs :=
  ⟨s _ F.hp, s _ F.tl, s _ F.al, s _ F.cl, fun t ht => ⟨s _ (F.ths t ht).1, s _ (F.ths t ht).2⟩, s _ F.rl, s _ F.two, s _ F.one, s _ F.frl, s _ F.zl, s _ F.lef, s _ F.rig, s _ F.wai, s _ F.str, s _ F.thl, fun i hi => s _ (F.lps i hi), s _ F.cal, F.HO, fun x hx => s _ (F.HE x hx), fun x hx => s _ (F.HB x hx)⟩
section
variable {sc : List Int} {n : Nat} {h : H} {m : M} {L E : List (Nat × O)} {its : List Itm} {B : Nat → Bool} {ls rs : List Sp} {wt sg : List Nat} {hl bits two one fr zl lef rig wai str th ca : Nat} {lp : Nat → Nat} {P : Hp} {hs : HS} {N : Nat}
theorem law_J1 (F : Fin L E its B ls rs wt sg hl bits two one fr zl lef rig wai str th ca lp P hs) (I : ItsOk N its) (e : its.length = N) (N1 : N ≤ 8) (v18 : m 18 = some (.ref hl)) (v87 : m 87 = some (.ref th)) (Ld : Led h L)
    (next : ∀ h L', (∀ x ∈ L, x ∈ L') → Led h L' → wSs (LG sc n) p_law_44 LK m h) : wSs (LG sc n) p_law_43 LK m h := by
  have hp := F.hp
  have tl := F.tl
  have ths := F.ths
  have thl := F.thl
  have fl : (finL its B).length = (liv B its.length).length := by simp [finL]
  have few : (liv B its.length).length ≤ 8 := Nat.le_trans (List.length_filter_le _ _) (by simp; walk_at "om")
  walk_at "go"
  refine comp_inv (s := .list P.tl) (finL its B).length (fun k acc h' => h' = h ∧ acc = ((finL its B).take k).map fun t => V.tup [.int t.serial, .int t.addr, .int t.kind, .int t.gen, .int t.size, .ref t.sl]) (by walk_at "om") ?_ ?_ ⟨rfl, rfl⟩
  · rintro acc _ ⟨rfl, rfl⟩
    refine ⟨src_e Ld (by trivial) (by first | exact List.length_map _ | exact (List.length_map _).trans (List.length_map _) | (simp [locs])), ?_⟩
    rw [List.take_length]
    refine x_new (by assumption) ?_
    intro l h Ld
    walk_at "go"
    have hd : ∀ i ∈ liv B its.length, ∀ q, (∃ x, (q, O.list (valI its B i)) = x ∧ x ∈ (l, O.list ((finL its B).map fun t => V.tup [.int t.serial, .int t.addr, .int t.kind, .int t.gen, .int t.size, .ref t.sl])) :: L) →
        Deep h 7 (.tup [.int ((i : Int) + 1), .int (frF B (zF its) i), .int (kF its i), .int (agF B (gF its) i), .int (zF its i), .ref q]) (.tup [.int ((i : Int) + 1), .int (frF B (zF its) i), .int (kF its i), .int (agF B (gF its) i), .int (zF its i), .list (vDs (valI its B i))]) := by
      rintro i hi q ⟨x, rfl, hx⟩
      refine .tup (.cons (.int _ _) (.cons (.int _ _) (.cons (.int _ _) (.cons (.int _ _) (.cons (.int _ _) (.cons (.list (Ld.get hx) (deeps_of fun y hy => ?_)) (.nil _)))))))
      obtain ⟨s, _, rfl⟩ := List.mem_map.mp hy
      exact lawS_deep _ _ _
    refine ⟨.list ((liv B its.length).map fun (i : Nat) => .tup [.int ((i : Int) + 1), .int (frF B (zF its) i), .int (kF its i), .int (agF B (gF its) i), .int (zF its i), .list (vDs (valI its B i))]), .list (Ld.get (.head _)) ?_, .list (Ld.get (.tail _ thl)) (deeps_map fun i hi => hd i hi _ ⟨_, rfl, .tail _ (F.lps i hi)⟩), ?_⟩
    · unfold finL
      rw [List.map_map]
      refine deeps_map fun i hi => ?_
      have hs : (finT its B i).serial = (i : Int) + 1 := by
        have := (liv_mem hi).1
        show (itAt its i).th.serial = _
        rw [itAt_lt this]; exact (I.at_ i this).serial
      show Deep h 7 (V.tup [.int (finT its B i).serial, .int (finT its B i).addr, .int (finT its B i).kind, .int (finT its B i).gen, .int (finT its B i).size, .ref (finT its B i).sl]) _
      rw [hs]
      exact hd i hi (finT its B i).sl ⟨_, rfl, .tail _ (ths _ (List.mem_map.mpr ⟨i, hi, rfl⟩)).2⟩
    · show wSs (LG sc n) p_law_44 LK _ h
      exact next h _ (fun x hx => .tail _ hx) Ld
  · rintro J hJ k acc _ hk ⟨rfl, rfl⟩
    have hx := ths _ (List.getElem_mem hk)
    obtain ⟨hx1, hx2⟩ := hx
    refine ⟨.ref ((finL its B)[k]).loc, src_i Ld (by trivial) (by first | exact get_map (by assumption) | (simp [locs, hk])), ?_⟩
    walk_at "go"
    exact ⟨rfl, by rw [take_snoc hk, List.map_append]; rfl⟩
theorem law_J2 (F : Fin L E its B ls rs wt sg hl bits two one fr zl lef rig wai str th ca lp P hs) (I : ItsOk N its) (e : its.length = N) (N1 : N ≤ 8) (v18 : m 18 = some (.ref hl)) (v87 : m 87 = some (.ref th)) (Ld : Led h L)
    (next : ∀ h L', (∀ x ∈ L, x ∈ L') → Led h L' → wSs (LG sc n) p_law_45 LK m h) : wSs (LG sc n) p_law_44 LK m h := by
  have hp := F.hp
  have al := F.al
  have ths := F.ths
  have thl := F.thl
  have few : (liv B its.length).length ≤ 8 := Nat.le_trans (List.length_filter_le _ _) (by simp; walk_at "om")
  have hz : ∀ i, i < its.length → 0 < zF its i := fun i hi => (z_pos I e (by walk_at "om")).1
  have keys : isort ((atD (finL its B)).map (·.1)) = (liv B its.length).map (frF B (zF its)) := by
    have e1 : (atD (finL its B)).map (·.1) = (liv B its.length).map (frF B (zF its)) := by unfold atD finL; rw [List.map_map, List.map_map]; rfl
    rw [e1]
    refine isort_id ?_
    rw [List.pairwise_map]
    refine (liv_sorted B its.length).imp_of_mem ?_
    intro i j hi hj q
    obtain ⟨h1, h2⟩ := liv_mem hi
    obtain ⟨h3, h4⟩ := liv_mem hj
    unfold frF
    rw [if_pos h2, if_pos h4]
    have := (psF_nn (B := B) hz j (by walk_at "om")).2 i q h2
    have := hz i h1
    walk_at "om"
  walk_at "go"
  refine x_sortedD Ld (by trivial) (by simp [atD, finL]; walk_at "om") ?_
  rw [keys]
  intro ks h Ld
  walk_at "go"
  refine comp_inv (s := .list ks) (liv B its.length).length (fun k acc h' => h' = h ∧ acc = ((liv B its.length).take k).map fun (i : Nat) => V.tup [.int ((i : Int) + 1), .int (frF B (zF its) i)]) (by walk_at "om") ?_ ?_ ⟨rfl, rfl⟩
  · rintro acc _ ⟨rfl, rfl⟩
    refine ⟨src_e Ld (by trivial) (by first | exact List.length_map _ | exact (List.length_map _).trans (List.length_map _) | (simp [vints])), ?_⟩
    rw [List.take_length]
    refine x_new (by assumption) ?_
    intro l1 h Ld
    walk_at "go"
    refine comp_inv (s := .list th) (liv B its.length).length (fun k acc h' => h' = h ∧ acc = ((liv B its.length).take k).map fun (i : Nat) => V.tup [.int ((i : Int) + 1), .int (frF B (zF its) i)]) (by walk_at "om") ?_ ?_ ⟨rfl, rfl⟩
    · rintro acc _ ⟨rfl, rfl⟩
      refine ⟨src_e Ld (by trivial) (by first | exact List.length_map _ | exact (List.length_map _).trans (List.length_map _) | (simp)), ?_⟩
      rw [List.take_length]
      refine x_new (by assumption) ?_
      intro l2 h Ld
      walk_at "go"
      refine eqE_same (xs := (liv B its.length).map fun (i : Nat) => V.tup [.int ((i : Int) + 1), .int (frF B (zF its) i)]) Ld (.tail _ (.head _)) (.head _) (fun x hx => ?_) ?_
      · obtain ⟨i, _, rfl⟩ := List.mem_map.mp hx
        refine deep_tup fun y hy => ?_
        rcases List.mem_cons.mp hy with rfl | hy
        · exact deep_int _
        · rw [List.mem_singleton.mp hy]; exact deep_int _
      show wSs (LG sc n) p_law_45 LK _ h
      exact next h _ (fun x hx => .tail _ (.tail _ (.tail _ hx))) Ld
    · rintro J hJ k acc _ hk ⟨rfl, rfl⟩
      refine ⟨tupI its B lp (liv B its.length)[k], src_i Ld (by trivial) (by first | exact get_map (by assumption) | (simp [hk])), ?_⟩
      walk_at "go"
      refine x_idxT (by decide) (by decide) (by rfl) ?_
      walk_at "go"
      refine x_idxT (by decide) (by decide) (by rfl) ?_
      walk_at "go"
      exact ⟨rfl, by rw [take_snoc hk, List.map_append]; rfl⟩
  · rintro J hJ k acc _ hk ⟨rfl, rfl⟩
    have hm := List.getElem_mem hk
    have hs := take_snoc hk
    refine ⟨.int (frF B (zF its) (liv B its.length)[k]), src_i Ld (by trivial) (by first | exact get_map (by assumption) | (simp [vints, hk])), ?_⟩
    generalize (liv B its.length)[k] = i at *
    have h1 := (liv_mem hm).1
    have hx := (ths _ (List.mem_map.mpr ⟨i, hm, rfl⟩)).1
    have hlk : (atD (finL its B)).lookup (frF B (zF its) i) = some (.ref (finT its B i).loc) := by
      rw [atD_find]
      unfold finL
      rw [find_fin (z := zF its) hz (fun j hj => liv_mem hj) hm]
      rfl
    have hse : (finT its B i).serial = (i : Int) + 1 := by
      show (itAt its i).th.serial = _
      rw [itAt_lt h1]; exact (I.at_ i h1).serial
    walk_at "go"
    refine x_idxD Ld (by trivial) hlk ?_
    walk_at "go"
    refine ⟨rfl, ?_⟩
    rw [hs, List.map_append, hse]; rfl
end
end
section
theorem ksD_keys (ks : List Int) : (ksD ks).map (·.1) = ks := by unfold ksD; rw [List.map_map]; exact List.map_id ks
section
variable {sc : List Int} {n : Nat} {h : H} {m : M} {L E : List (Nat × O)} {its : List Itm} {B : Nat → Bool} {ls rs : List Sp} {wt sg : List Nat} {hl bits two one fr zl lef rig wai str th ca : Nat} {lp : Nat → Nat} {P : Hp} {hs : HS} {N : Nat}
theorem svs_deep (w z : Nat → Int) (l : List Sp) : ∀ x ∈ svs (l.map (lawS w z)), Deep h 7 x (vD x) := fun x hx => by
  unfold svs at hx
  rw [List.map_map] at hx
  obtain ⟨s, _, rfl⟩ := List.mem_map.mp hx
  exact Deep.mono (by decide) (lawS_deep w z s)
theorem law_J3 (hn : 4 ≤ n) (F : Fin L E its B ls rs wt sg hl bits two one fr zl lef rig wai str th ca lp P hs) (I : ItsOk N its) (e : its.length = N) (N1 : N ≤ 8) (ok1 : ∀ s ∈ ls, s.Ok N 11) (ok2 : ∀ s ∈ rs, s.Ok N 11) (ok3 : ∀ a ∈ wt, a < N) (f1 : ls.length ≤ 3) (f2 : rs.length ≤ 2) (f3 : wt.length ≤ 2)
    (v18 : m 18 = some (.ref hl)) (v61 : m 61 = some (.ref one)) (v84 : m 84 = some (.ref two)) (v80 : m 80 = some (.ref lef)) (v81 : m 81 = some (.ref rig)) (v82 : m 82 = some (.ref wai)) (v43 : m 43 = some (.ref fr)) (v56 : m 56 = some (.ref zl)) (Ld : Led h L)
    (next : ∀ h L', (∀ x ∈ L, x ∈ L') → Led h L' → wSs (LG sc n) p_law_48 LK m h) : wSs (LG sc n) p_law_45 LK m h := by
  have hp := F.hp
  have hone := F.one
  have htwo := F.two
  have hrl := F.rl
  have hfr := F.frl
  have hzl := F.zl
  have hlef := F.lef
  have hrig := F.rig
  have hwai := F.wai
  subst e
  walk_at "go"
  refine comp_inv (s := .list lef) ls.length (fun j acc h' => h' = h ∧ acc = svs ((ls.take j).map (lawS (frF B (zF its)) (zF its)))) (by walk_at "om") ?_ ?_ ⟨rfl, rfl⟩
  · rintro acc _ ⟨rfl, rfl⟩
    refine ⟨src_e Ld (by trivial) (by first | exact List.length_map _ | exact (List.length_map _).trans (List.length_map _) | (simp)), ?_⟩
    rw [List.take_length]
    refine x_new (by assumption) ?_
    intro l1 h Ld
    walk_at "go"
    refine eqE_same (xs := svs (ls.map (lawS (frF B (zF its)) (zF its)))) Ld (.tail _ hone) (.head _) (svs_deep _ _ _) ?_
    show wSs (LG sc n) p_law_46 LK _ h
    walk_at "go"
    refine comp_inv (s := .list rig) rs.length (fun j acc h' => h' = h ∧ acc = svs ((rs.take j).map (lawS (frF B (zF its)) (zF its)))) (by walk_at "om") ?_ ?_ ⟨rfl, rfl⟩
    · rintro acc _ ⟨rfl, rfl⟩
      refine ⟨src_e Ld (by trivial) (by first | exact List.length_map _ | exact (List.length_map _).trans (List.length_map _) | (simp)), ?_⟩
      rw [List.take_length]
      refine x_new (by assumption) ?_
      intro l2 h Ld
      walk_at "go"
      refine eqE_same (xs := svs (rs.map (lawS (frF B (zF its)) (zF its)))) Ld (.tail _ (.tail _ htwo)) (.head _) (svs_deep _ _ _) ?_
      show wSs (LG sc n) p_law_47 LK _ h
      walk_at "go"
      refine comp_inv (s := .list wai) wt.length (fun j acc h' => h' = h ∧ acc = svs ((wt.take j).map fun a => .ref (frF B (zF its) a))) (by walk_at "om") ?_ ?_ ⟨rfl, rfl⟩
      · rintro acc _ ⟨rfl, rfl⟩
        refine ⟨src_e Ld (by trivial) (by first | exact List.length_map _ | exact (List.length_map _).trans (List.length_map _) | (simp [vnats])), ?_⟩
        rw [List.take_length]
        refine x_new (by assumption) ?_
        intro l3 h Ld
        walk_at "go"
        refine eqE_same (xs := svs (wt.map fun a => .ref (frF B (zF its) a))) Ld (.tail _ (.tail _ (.tail _ hrl))) (.head _) (fun x hx => ?_) ?_
        · unfold svs at hx
          rw [List.map_map] at hx
          obtain ⟨a, _, rfl⟩ := List.mem_map.mp hx
          refine deep_tup fun y hy => ?_
          rcases List.mem_cons.mp hy with rfl | hy
          · exact deep_int _
          · rw [List.mem_singleton.mp hy]; exact deep_int _
        show wSs (LG sc n) p_law_48 LK _ h
        exact next h _ (fun x hx => .tail _ (.tail _ (.tail _ hx))) Ld
      · rintro J hJ k acc _ hk ⟨rfl, rfl⟩
        have hok := ok3 _ (List.getElem_mem hk)
        refine ⟨.int (wt[k] : Nat), src_i Ld (by trivial) (by first | exact get_map (by assumption) | (simp [vnats, hk])), ?_⟩
        walk_at "go"
        refine x_idxL (v := .int (frF B (zF its) wt[k])) (by assumption) (by trivial) (by walk_at "i") (by walk_at "j") (tab_get hok) ?_
        walk_at "go"
        exact ⟨rfl, by rw [take_snoc hk, List.map_append, List.map_singleton, svs_snoc]; rfl⟩
    · rintro J hJ k acc _ hk ⟨rfl, rfl⟩
      have hok := ok2 _ (List.getElem_mem hk)
      refine ⟨(rs[k]).V, src_i Ld (by trivial) (by first | exact get_map (by assumption) | (rw [List.getElem?_map, List.getElem?_eq_getElem hk]; rfl)), ?_⟩
      walk_at "go"
      refine sp_value (N := its.length) (w := frF B (zF its)) (sz := zF its) (by walk_at "le") Ld hok (by walk_at "om") (by trivial) (by trivial) (fun i hi => z_pos I rfl hi) ?_
      walk_at "go"
      exact ⟨rfl, by rw [take_snoc hk, List.map_append, List.map_singleton, svs_snoc]⟩
  · rintro J hJ k acc _ hk ⟨rfl, rfl⟩
    have hok := ok1 _ (List.getElem_mem hk)
    refine ⟨(ls[k]).V, src_i Ld (by trivial) (by first | exact get_map (by assumption) | (rw [List.getElem?_map, List.getElem?_eq_getElem hk]; rfl)), ?_⟩
    walk_at "go"
    refine sp_value (N := its.length) (w := frF B (zF its)) (sz := zF its) (by walk_at "le") Ld hok (by walk_at "om") (by trivial) (by trivial) (fun i hi => z_pos I rfl hi) ?_
    walk_at "go"
    exact ⟨rfl, by rw [take_snoc hk, List.map_append, List.map_singleton, svs_snoc]⟩
theorem law_K (hn : 4 ≤ n) (F : Fin L E its B ls rs wt sg hl bits two one fr zl lef rig wai str th ca lp P hs) (e : its.length = N) (N1 : N ≤ 8) (ok4 : ∀ a ∈ sg, a < N) (f4 : sg.length ≤ 2) {pos mov : Int} {limit : Nat}
    (v18 : m 18 = some (.ref hl)) (v83 : m 83 = some (.ref str)) (v34 : m 34 = some (hv hs)) (v43 : m 43 = some (.ref fr)) (v77 : m 77 = some (.int pos)) (v86 : m 86 = some (.int mov)) (v16 : m 16 = some (.int limit)) (v88 : m 88 = some (.ref ca)) (Ld : Led h L)
    (next : ∀ m, m 18 = some (.ref hl) → m 77 = some (.int pos) → m 86 = some (.int mov) → m 16 = some (.int limit) → m 88 = some (.ref ca) → wSs (LG sc n) p_law_49 LK m h) : wSs (LG sc n) p_law_48 LK m h := by
  have hstr := F.str
  have hfr := F.frl
  subst e
  walk_at "go"
  refine x_lenL (by assumption) (by trivial) (by simp [vnats]; walk_at "om") ?_
  walk_at "go"
  have e1 : ((vnats sg).length : Int) = (sg.length : Int) := by simp [vnats]
  rw [e1]
  refine ⟨by walk_at "i", by walk_at "j", ?_⟩
  refine for_inv sg.length (fun k m h' => A9 (h' = h) (m 18 = some (.ref hl)) (m 83 = some (.ref str)) (m 34 = some (hv hs)) (m 43 = some (.ref fr)) (m 77 = some (.int pos)) (m 86 = some (.int mov)) (m 16 = some (.int limit)) (m 88 = some (.ref ca))) ?_ ?_ ⟨rfl, v18, v83, v34, v43, v77, v86, v16, v88⟩
  · rintro m _ ⟨rfl, v18, v83, v34, v43, v77, v86, v16, v88⟩
    refine ⟨src_range_end, ?_⟩
    show wSs (LG sc n) p_law_49 LK _ _
    exact next m v18 v77 v86 v16 v88
  · clear v18 v83 v34 v43 v77 v86 v16 v88
    rintro J hJ k m _ hk ⟨rfl, v18, v83, v34, v43, v77, v86, v16, v88⟩
    refine ⟨.int k, _, src_range_in hk, rfl, ?_⟩
    have hok := ok4 _ (List.getElem_mem hk)
    induction hs using Option.casesOn with
    | none =>
      have := F.HO.none rfl
      subst this
      simp at hk
    | some q =>
      obtain ⟨hh, rw_, rows⟩ := q
      obtain ⟨g1, g2, g3⟩ := F.HO.some hh rw_ rows rfl
      have lr : rows.length = sg.length := by
        have := congrArg List.length g3
        simpa using this
      have hk2 : k < rows.length := by walk_at "om"
      have H3 := F.HB (rows[k].1, rowO rows[k].2) (List.mem_map.mpr ⟨_, List.getElem_mem hk2, rfl⟩)
      have e2 : rows[k].2 = frF B (zF its) sg[k] := by
        have h1 : (rows.map (·.2))[k]? = (sg.map (frF B (zF its)))[k]? := by rw [g3]
        simp only [List.getElem?_map, List.getElem?_eq_getElem hk2, List.getElem?_eq_getElem hk, Option.map_some] at h1
        exact Option.some.inj h1
      walk_at "go"
      refine sp_target (by walk_at "le") Ld (F.HE _ g1) (F.HE _ g2) hk2 (by walk_at "om") H3 ?_
      walk_at "go"
      refine x_idxL (v := .int (sg[k] : Nat)) (by assumption) (by trivial) (by walk_at "i") (by walk_at "j") (by rw [Int.toNat_natCast]; simp [vnats, hk]) ?_
      walk_at "go"
      refine x_idxL (v := .int (frF B (zF its) sg[k])) (by assumption) (by trivial) (by walk_at "i") (by walk_at "j") (tab_get hok) ?_
      walk_at "go"
      first | refine s_eqT e2 ?_ | refine s_neF e2 ?_
      walk_at "go"
      exact ⟨rfl, v18, v83, v34, v43, v77, v86, v16, v88⟩
theorem law_L (F : Fin L E its B ls rs wt sg hl bits two one fr zl lef rig wai str th ca lp P hs) (I : ItsOk N its) (e : its.length = N) (N1 : N ≤ 8) {limit : Nat} {pos mov : Int} (p0 : 0 ≤ pos) (p1 : pos < 1000) (t1 : P.top = pos) (t2 : P.moved = mov) (t3 : P.fresh = 0) (t4 : P.limit = if (limit : Int) < 2 * (pos - 16) then 2 * (pos - 16) else limit)
    (v18 : m 18 = some (.ref hl)) (v77 : m 77 = some (.int pos)) (v86 : m 86 = some (.int mov)) (v16 : m 16 = some (.int limit)) (v88 : m 88 = some (.ref ca)) (Ld : Led h L) : wSs (LG sc n) p_law_49 LK m h := by
  have hp := F.hp
  have hcl := F.cl
  have hca := F.cal
  have few := cardsN_len I B bits its.length (Nat.le_refl _)
  have last : ∀ m : M, m 18 = some (.ref hl) → m 77 = some (.int pos) → m 86 = some (.int mov) → m 16 = some (.int P.limit) → m 88 = some (.ref ca) → wSs (LG sc n) p_law_50 LK m h := by
    intro m v18 v77 v86 v16 v88
    walk_at "go"
    first | refine s_eqT t1 ?_ | refine s_neF t1 ?_
    walk_at "go"
    first | refine s_eqT t2 ?_ | refine s_neF t2 ?_
    walk_at "go"
    refine x_sortedD Ld (by trivial) (by unfold ksD; rw [List.length_map]; walk_at "om") ?_
    rw [ksD_keys]
    intro o1 h Ld
    walk_at "go"
    refine x_sortedL Ld (xs := cardsN its B bits its.length) (by trivial) (by walk_at "om") ?_
    intro o2 h Ld
    walk_at "go"
    refine eqE_same (xs := vints (isort (cardsN its B bits its.length))) Ld (.tail _ (.head _)) (.head _) (fun x hx => ?_) ?_
    · obtain ⟨i, _, rfl⟩ := List.mem_map.mp hx
      exact deep_int _
    walk_at "go"
    first | refine s_eqT t3 ?_ | refine s_neF t3 ?_
    walk_at "go"
    exact rfl
  walk_at "go"
  refine ⟨by unfold small; walk_at "om", (by unfold small; walk_at "om" : small (pos - 16)), ?_⟩
  walk_at "go"
  by_cases q : (limit : Int) < 2 * (pos - 16)
  · first | refine s_ltT (q) ?_ | refine s_leT (q) ?_ | refine s_gtT (q) ?_ | refine s_geT (q) ?_
    walk_at "go"
    refine ⟨by unfold small; walk_at "om", (by unfold small; walk_at "om" : small (pos - 16)), ?_⟩
    show wSs (LG sc n) p_law_50 LK _ h
    refine last _ v18 v77 v86 ?_ v88
    rw [t4, if_pos q]
    rfl
  · first | refine s_ltF q ?_ | refine s_leF q ?_ | refine s_gtF q ?_ | refine s_geF q ?_
    show wSs (LG sc n) p_law_50 LK _ h
    refine last _ v18 v77 v86 ?_ v88
    rw [t4, if_neg q]
    exact v16
end
end
section
theorem blocks_perm {α : Type} (P1 HB P2 E P3 P4 P6 P5 T W S : List α) : (P1 ++ (HB ++ (P2 ++ (E ++ (P3 ++ (P4 ++ (P6 ++ (P5 ++ (T ++ (W ++ S)))))))))).Perm (P6 ++ (T ++ (P3 ++ (W ++ (HB ++ (P1 ++ (P2 ++ (E ++ (P4 ++ (P5 ++ S)))))))))) := by
  classical
  exact List.perm_iff_count.mpr fun a => by simp only [List.count_append]; walk_at "om"
theorem led_H {h : H} {P1 HB P2 E P3 P4 P6 P5 T W S : List (Nat × O)} (Ld : Led h (P1 ++ (HB ++ (P2 ++ (E ++ (P3 ++ (P4 ++ (P6 ++ (P5 ++ (T ++ (W ++ S)))))))))) ) : ∃ R, (∀ x ∈ P1, x ∈ R) ∧ (∀ x ∈ E, x ∈ R) ∧ (∀ x ∈ P4, x ∈ R) ∧ (∀ x ∈ P5, x ∈ R) ∧ (∀ x ∈ S, x ∈ R) ∧ Led h (P6 ++ (T ++ (P3 ++ (W ++ (HB ++ R))))) :=
  ⟨P1 ++ (P2 ++ (E ++ (P4 ++ (P5 ++ S)))), fun x hx => by simp [hx], fun x hx => by simp [hx], fun x hx => by simp [hx], fun x hx => by simp [hx], fun x hx => by simp [hx], Led.perm Ld (blocks_perm ..)⟩
theorem VL_congr {ls : List Nat} {c d : Nat → List V} (h : ∀ l ∈ ls, c l = d l) : VL ls c = VL ls d := List.map_congr_left fun l hl => by rw [h l hl]
theorem VL_keys (ls : List Nat) (c : Nat → List V) : (VL ls c).map (·.1) = ls := by unfold VL; rw [List.map_map]; exact List.map_id ls
theorem nd_of {h : H} {x a b c : Nat × O} {T W R : List (Nat × O)} (Ld : Led h ([x] ++ (T ++ ([a, b, c] ++ (W ++ R))))) : ([a.1, b.1, c.1] ++ W.map (·.1)).Nodup := by
  have h1 := (Led.dropN T (Led.dropN [x] Ld))
  rw [← List.append_assoc] at h1
  have h2 := (Led.sub h1 (List.sublist_append_left _ _)).nd
  rw [List.map_append] at h2
  exact h2
theorem law_all (sc : List Int) : callN prog sc 40 55 [.script] (fun v h => v = .bool true) (fun _ => none) := by
  refine ⟨rfl, ?_⟩
  show wSs (LG sc 39) p_law_0 LK _ _
  refine law_A (n := 39) (by decide) rfl ⟨.nil, fun p hp => nomatch hp⟩ ?_
  intro m h nl sl ns i no hi v49 v50 Ld
  refine law_B (by decide) no hi v49 v50 Ld ?_
  clear v49 v50 Ld hi
  intro m h i hl tl al cl fl rl pl zl kl gl wl N third twos ones limit bits form hi N0 N1 ht hlim hbits hform V v77 Ld
  refine law_C (by decide) no hi N0 N1 V v77 Ld ?_
  clear V v77 Ld hi
  intro m h i its hi e I V Ld
  subst e
  have e : its.length = its.length := rfl
  refine law_D (by decide) e N1 V Ld ?_
  clear Ld
  intro h Ld
  refine law_E (by decide) e N1 I hbits V Ld ?_
  clear V Ld
  intro m h cont es hcont V hes Ld
  unfold LE at Ld
  refine law_F1 (by decide) no hi N0 N1 ht V (by trivial) Ld ?_
  clear V Ld hi
  intro m h i lef rig wai ls rs wt hi ok1 ok2 ok3 f1 f2 f3 V v80 v81 v82 Ld
  refine law_F2 (by decide) ok1 ok2 f1 f2 f3 V v80 v81 v82 (by trivial) (by trivial) (by trivial) Ld ?_
  clear V v80 v81 v82 Ld
  intro m h str see V v80 v81 v82 v83 v64 Ld
  have Ld := Led.pull (p := (rl, O.list [])) Ld (.tail _ (.tail _ (.tail _ (.tail _ (.tail _ (.tail _ (.tail _ (.tail _ (.tail _ (.tail _ (.tail _ (.tail _ (.tail _ (.tail _ (.tail _ (Pull.appL (Pull.appL (Pull.appL (.head _) _) _) _))))))))))))))))
  have tw : whereV its = tab its.length (wF its) := whereV_tab its
  have tz : sizesV its = tab its.length (zF its) := sizesV_tab its
  have tg : gensV its = tab its.length (gF its) := gensV_tab its
  have tk : kindsV its = tab its.length (kF its) := kindsV_tab its
  have ts : specsV its = (List.range its.length).map fun i => .ref (itAt its i).q := specsV_range its
  rw [tw, tz, tg, tk, ts] at Ld
  refine law_F3 (p := hpAt its tl al cl fl rl limit bits) (by decide) N1 ok1 ok2 ok3 f1 f2 f3 V v80 v81 v82 v83 v64 (by trivial) (by trivial) (by trivial) (by trivial) (by trivial) (fun i hi => z_pos I e hi) (by trivial) Ld ?_
  clear V v80 v81 v82 v83 v64 Ld
  intro m h one two ll V v80 v81 v82 v83 v64 v61 v84 v30 v34 Ld
  have Ld := (((Led.pull (p := (str, _)) Ld (by trivial)).pull (p := (see, _)) (by trivial)).pull (p := (ll, _)) (by trivial)).pull (p := (sl, _)) (by trivial)
  have hsl : (vnats (wt ++ (ls ++ rs).flatMap goalsOf)).length ≤ 100 := by
    have := flat_two (ls ++ rs)
    simp [vnats] at this ⊢; walk_at "om"
  refine law_F4 (E := [(ll, _), (see, _), (str, _)]) (p := hpAt its tl al cl fl rl limit bits) (w := wF its) (by decide) no hi N0 N1 hform (by simpa [vnats] using hsl) V v80 v81 v82 v83 v64 v61 v84 v30 v34 (.tail _ (.tail _ (.tail _ (by trivial)))) (.tail _ (.tail _ (.tail _ (by trivial)))) (.tail _ (.tail _ (.tail _ (by trivial)))) (.tail _ (.tail _ (.head _))) (.tail _ (.head _)) (.head _) Ld ?_
  clear V v80 v81 v82 v83 v64 v61 v84 v30 v34 Ld hi
  intro m h i hs sg E str see ll roots V v80 v81 v82 v83 v64 v61 v84 v30 v34 hr ok4 f4 HO h1 h2 h3 Ld
  have hsdN : ∀ a ∈ wt ++ (ls ++ rs).flatMap goalsOf ++ sg, a < its.length := fun a ha => by
    rcases List.mem_append.mp ha with q | q
    · rcases List.mem_append.mp q with q | q
      · exact ok3 a q
      · obtain ⟨s, hs, q⟩ := List.mem_flatMap.mp q
        rcases List.mem_append.mp hs with r | r
        · exact goals_lt (ok1 s r) a q
        · exact goals_lt (ok2 s r) a q
    · exact ok4 a q
  have msp : ∀ i, i < its.length → ((itAt its i).q, O.list ((itAt its i).sp.map Sp.V)) ∈ specL its := fun i hi => List.mem_map.mpr ⟨_, itAt_mem hi, rfl⟩
  refine law_G (w := wF its) (z := zF its) (g := gF its) (q := fun i => (itAt its i).q) (spx := fun i => (itAt its i).sp) (by decide) N1 V ⟨v80, v81, v82, v83, v61, v84, v30, v34⟩ v64 ?_ ?_ ?_ hsdN (fun i hi s hs => (it_ok I hi s hs).mono (by decide)) ?_ ?_ ?_ Ld ?_
  · exact List.mem_append_right _ (.tail _ (List.mem_append_right _ (by trivial)))
  · intro i hi
    have m1 := List.mem_append_left [(fl, O.list []), (cl, O.dict es)] (msp i hi)
    exact List.mem_append_right _ (.tail _ (List.mem_append_right _ (by trivial)))
  · exact List.mem_append_right _ (.tail _ (List.mem_append_left _ h2))
  · exact List.mem_append_right _ (.tail _ (List.mem_append_right _ (by trivial)))
  · exact List.mem_append_right _ (.tail _ (List.mem_append_right _ (by trivial)))
  · exact List.mem_append_right _ (.tail _ (List.mem_append_right _ (by trivial)))
  clear V v80 v81 v82 v83 v61 v84 v30 v34 v64 Ld
  intro m h alv fr ag B hB V W U Ld
  obtain ⟨R, r1, r2, r4, r5, r6, Ld⟩ := led_H (P1 := [(ag, _), (fr, _), (alv, _)]) (HB := HB hs) (P2 := [(sl, _)]) (E := E) (P3 := [(rl, _), (two, _), (one, _)]) (P4 := [(wai, _), (rig, _), (lef, _), (wl, _), (gl, _), (kl, _), (zl, _), (pl, _)]) (P6 := [(hl, _)]) (P5 := [(tl, _), (al, _), (nl, _)]) (T := TL (thsOf its)) (W := VL (sls its) cont) Ld
  have nd : ([rl, two, one] ++ sls its).Nodup := by
    have h9 := nd_of Ld
    rw [VL_keys] at h9
    exact h9
  have c1 := cC_rl (its := its) (w := wF its) (z := zF its) (rl := rl) (two := two) (one := one) (ls := ls) (rs := rs) (wt := wt)
  have nd3 : [rl, two, one].Nodup := (List.nodup_append.mp nd).1
  simp at nd3
  have ne1 : two ≠ rl := fun q => nd3.1.1 q.symm
  have ne2 : one ≠ rl := fun q => nd3.1.2 q.symm
  have ne3 : one ≠ two := fun q => nd3.2 q.symm
  have c2 := cC_two (its := its) (w := wF its) (z := zF its) (one := one) (ls := ls) (rs := rs) (wt := wt) ne1
  have c3 := cC_one (its := its) (w := wF its) (z := zF its) (ls := ls) (rs := rs) (wt := wt) ne2 ne3
  have c4 : ∀ x ∈ its, cC its (wF its) (zF its) rl two one ls rs wt x.th.sl = x.sp.map (lawS (wF its) (zF its)) := fun x hx => cC_sl nd hx
  have e2 : VL (sls its) cont = VL ((tsV its).map (·.sl)) (fun l => svs (cC its (wF its) (zF its) rl two one ls rs wt l)) := by
    rw [tsV_sls]
    refine VL_congr fun l hl => ?_
    obtain ⟨x, hx, rfl⟩ := List.mem_map.mp hl
    rw [hcont x hx, c4 x hx]
    unfold svs valsOf
    rw [List.map_map]; rfl
  rw [e2, ← tsV_TL] at Ld
  have e3 : VL [rl, two, one] (fun l => svs (cC its (wF its) (zF its) rl two one ls rs wt l)) = [(rl, O.list (svs (wt.map fun a => .ref (wF its a)))), (two, .list (svs (rs.map (lawS (wF its) (zF its))))), (one, .list (svs (ls.map (lawS (wF its) (zF its)))))] := by
    unfold VL
    simp only [List.map_cons, List.map_nil, c1, c2, c3]
  obtain ⟨v65, v43, v85, v77, v86⟩ := id U
  refine law_H (E := E) (p := hpAt its tl al cl fl rl limit bits) (by decide) I e N1 nd ok1 ok2 ok3 ok4 f1 f2 f3 f4 (r5 _ (.head _)) (r5 _ (.tail _ (.head _))) (r6 _ (List.mem_append_right _ (.head _))) (r2 _ h3) hr HO r2 rfl hbits (r1 _ (.tail _ (.tail _ (.head _)))) hB V W v65 (by rw [show (hpAt its tl al cl fl rl limit bits).rl = rl from rfl, e3]; exact Ld) ?_
  clear Ld e2 e3 c1 c2 c3 c4
  intro h lv at_ fl' cl' hs' HO' e9 hsgB hcl Ld
  have q0 : ∀ x ∈ R, x ∈ LC its B ls rs wt two one hl lv at_ fl' cl' bits (hpAt its tl al cl fl rl limit bits) hs' R := fun x hx => .tail _ (.tail _ (.tail _ (.tail _ (List.mem_append_right _ (.tail _ (.tail _ (.tail _ (List.mem_append_right _ (List.mem_append_right _ hx)))))))))
  have T : Tb (LC its B ls rs wt two one hl lv at_ fl' cl' bits (hpAt its tl al cl fl rl limit bits) hs' R) its B its.length pl zl kl alv fr ag :=
    ⟨q0 _ (r4 _ (by trivial)), fun i hi => q0 _ (r6 _ (List.mem_append_left _ (msp i hi))), q0 _ (r4 _ (by trivial)), q0 _ (r4 _ (by trivial)), q0 _ (r1 _ (by trivial)), q0 _ (r1 _ (by trivial)), q0 _ (r1 _ (by trivial))⟩
  refine law_I (by decide) I e N1 hbits T V W U Ld ?_
  clear V W U v65 v43 v85 v77 v86
  intro m h th ca lp V W U v87 v88 Ld
  obtain ⟨v49, v50, v70, v52, v71, v72, v16, v73, v74, v18, v63, v56, v75, v76, v55⟩ := V
  obtain ⟨v80, v81, v82, v83, v61, v84, v30, v34⟩ := W
  obtain ⟨v65, v43, v85, v77, v86⟩ := U
  have q1 : ∀ x ∈ LC its B ls rs wt two one hl lv at_ fl' cl' bits (hpAt its tl al cl fl rl limit bits) hs' R, x ∈ (ca, O.list (vints (cardsN its B bits its.length))) :: (th, .list ((liv B its.length).map (tupI its B lp))) :: (PLs its B lp (liv B its.length) ++ LC its B ls rs wt two one hl lv at_ fl' cl' bits (hpAt its tl al cl fl rl limit bits) hs' R) := fun x hx => .tail _ (.tail _ (List.mem_append_right _ hx))
  have F : Fin ((ca, O.list (vints (cardsN its B bits its.length))) :: (th, .list ((liv B its.length).map (tupI its B lp))) :: (PLs its B lp (liv B its.length) ++ LC its B ls rs wt two one hl lv at_ fl' cl' bits (hpAt its tl al cl fl rl limit bits) hs' R)) E its B ls rs wt sg hl bits two one fr zl lef rig wai str th ca lp (colP (hpAt its tl al cl fl rl limit bits) lv at_ fl' cl' (psF B (zF its) its.length) (mvF B (zF its) (wF its) its.length)) hs' :=
    { hp := q1 _ (.tail _ (.tail _ (.tail _ (.head _)))), tl := q1 _ (.head _), al := q1 _ (.tail _ (.head _)), cl := q1 _ (.tail _ (.tail _ (.head _)))
      ths := fun t ht => ⟨q1 _ (.tail _ (.tail _ (.tail _ (.tail _ (List.mem_append_left _ (List.mem_map.mpr ⟨t, ht, rfl⟩)))))), q1 _ (.tail _ (.tail _ (.tail _ (.tail _ (List.mem_append_right _ (.tail _ (.tail _ (.tail _ (List.mem_append_left _ (List.mem_map.mpr ⟨t, ht, rfl⟩)))))))))) ⟩
      rl := q1 _ (.tail _ (.tail _ (.tail _ (.tail _ (List.mem_append_right _ (.head _)))))), two := q1 _ (.tail _ (.tail _ (.tail _ (.tail _ (List.mem_append_right _ (.tail _ (.head _))))))), one := q1 _ (.tail _ (.tail _ (.tail _ (.tail _ (List.mem_append_right _ (.tail _ (.tail _ (.head _))))))))
      frl := q1 _ (q0 _ (r1 _ (by trivial))), zl := q1 _ (q0 _ (r4 _ (by trivial))), lef := q1 _ (q0 _ (r4 _ (by trivial))), rig := q1 _ (q0 _ (r4 _ (by trivial))), wai := q1 _ (q0 _ (r4 _ (by trivial))), str := q1 _ (q0 _ (r2 _ h1))
      thl := .tail _ (.head _), lps := fun i hi => .tail _ (.tail _ (List.mem_append_left _ (List.mem_map.mpr ⟨i, hi, rfl⟩))), cal := .head _
      HO := HO', HE := fun x hx => q1 _ (q0 _ (r2 _ hx))
      HB := fun x hx => q1 _ (.tail _ (.tail _ (.tail _ (.tail _ (List.mem_append_right _ (.tail _ (.tail _ (.tail _ (List.mem_append_right _ (List.mem_append_left _ hx)))))))))) }
  have hz : ∀ i, i < its.length → 0 < zF its i ∧ zF its i < 10 := fun i hi => by
    have := (tsV_tabs I e N1).pos hi; walk_at "om"
  have p0 := (psF_nn (B := B) (z := zF its) (fun i hi => (hz i hi).1) its.length (Nat.le_refl _)).1
  have p1 := psF_le (B := B) (z := zF its) (fun i hi => (hz i hi).2) its.length (Nat.le_refl _)
  refine law_J1 F I e N1 v18 v87 Ld ?_
  clear Ld
  intro h L1 s1 Ld
  have F := F.mono s1
  refine law_J2 F I e N1 v18 v87 Ld ?_
  clear Ld
  intro h L2 s2 Ld
  have F := F.mono s2
  refine law_J3 (by decide) F I e N1 ok1 ok2 ok3 f1 f2 f3 v18 v61 v84 v80 v81 v82 v43 v56 Ld ?_
  clear Ld
  intro h L3 s3 Ld
  have F := F.mono s3
  refine law_K (by decide) F e N1 ok4 f4 v18 v83 (by rw [e9]; exact v34) v43 v77 v86 v16 v88 Ld ?_
  intro m v18 v77 v86 v16 v88
  exact law_L (pos := psF B (zF its) its.length) F I e N1 (by walk_at "om") (by walk_at "om") rfl (Int.zero_add _) rfl rfl v18 v77 v86 v16 v88 Ld
end
end
end Qd
open PySem PySem.W PyProof.Rows
theorem Mine.fin.tw10007411396671696613 : True := trivial
theorem Mine.fin.tw10070804522480449196 : True := trivial
theorem Mine.fin.tw1012361349325877821 : True := trivial
theorem Mine.fin.tw1014637456484912126 : True := trivial
theorem Mine.fin.tw10147658903529517814 : True := trivial
theorem Mine.fin.tw10196768644732416780 : True := trivial
theorem Mine.fin.tw10242451874928486539 : True := trivial
theorem Mine.fin.tw10329872625359487480 : True := trivial
theorem Mine.fin.tw1035503724928835527 : True := trivial
theorem Mine.fin.tw10383673109516279431 : True := trivial
theorem Mine.fin.tw10567028658651823492 : True := trivial
theorem Mine.fin.tw10580198807604790814 : True := trivial
theorem Mine.fin.tw10599938827571368224 : True := trivial
theorem Mine.fin.tw10631971776571026366 : True := trivial
theorem Mine.fin.tw10671828304227620169 : True := trivial
theorem Mine.fin.tw10683609927848735152 : True := trivial
theorem Mine.fin.tw10696652717036330658 : True := trivial
theorem Mine.fin.tw10699407837109476802 : True := trivial
theorem Mine.fin.tw10751089155417173751 : True := trivial
theorem Mine.fin.tw10782327089294195420 : True := trivial
theorem Mine.fin.tw1080700006314346644 : True := trivial
theorem Mine.fin.tw10807920368746810246 : True := trivial
theorem Mine.fin.tw10818889477481085253 : True := trivial
theorem Mine.fin.tw10829458402184033698 : True := trivial
theorem Mine.fin.tw10852849658779182186 : True := trivial
theorem Mine.fin.tw10874316729293906858 : True := trivial
theorem Mine.fin.tw10875463905939285979 : True := trivial
theorem Mine.fin.tw1088692219920020602 : True := trivial
theorem Mine.fin.tw10895054467252067526 : True := trivial
theorem Mine.fin.tw10907391636593693970 : True := trivial
theorem Mine.fin.tw10910768022184060351 : True := trivial
theorem Mine.fin.tw10925335251469727208 : True := trivial
theorem Mine.fin.tw10936777179133785780 : True := trivial
theorem Mine.fin.tw10939691994893167182 : True := trivial
theorem Mine.fin.tw11039862389202566683 : True := trivial
theorem Mine.fin.tw11040825799340251285 : True := trivial
theorem Mine.fin.tw11079828417688620724 : True := trivial
theorem Mine.fin.tw11151619158091525091 : True := trivial
theorem Mine.fin.tw11154830654865731599 : True := trivial
theorem Mine.fin.tw11192643925408225281 : True := trivial
theorem Mine.fin.tw11227884535216515135 : True := trivial
theorem Mine.fin.tw11273041486466551846 : True := trivial
theorem Mine.fin.tw11298980531735778240 : True := trivial
theorem Mine.fin.tw11336253725339858928 : True := trivial
theorem Mine.fin.tw11454252539852477091 : True := trivial
theorem Mine.fin.tw11466478281803324712 : True := trivial
theorem Mine.fin.tw11587955951900863698 : True := trivial
theorem Mine.fin.tw11607805686811502034 : True := trivial
theorem Mine.fin.tw11615019562542576733 : True := trivial
theorem Mine.fin.tw11897717083992391400 : True := trivial
theorem Mine.fin.tw11927315426732186749 : True := trivial
theorem Mine.fin.tw11936995450923721628 : True := trivial
theorem Mine.fin.tw11953781441336167498 : True := trivial
theorem Mine.fin.tw12105171945263650130 : True := trivial
theorem Mine.fin.tw12118000046449163591 : True := trivial
theorem Mine.fin.tw12135189313929291683 : True := trivial
theorem Mine.fin.tw12149302876761508202 : True := trivial
theorem Mine.fin.tw12212933522069011988 : True := trivial
theorem Mine.fin.tw12221555665107904926 : True := trivial
theorem Mine.fin.tw12237877928780879103 : True := trivial
theorem Mine.fin.tw12261892603037129033 : True := trivial
theorem Mine.fin.tw12284014389350100970 : True := trivial
theorem Mine.fin.tw12291753297600562012 : True := trivial
theorem Mine.fin.tw12347537446847802165 : True := trivial
theorem Mine.fin.tw12355744275394475900 : True := trivial
theorem Mine.fin.tw12356021495744459628 : True := trivial
theorem Mine.fin.tw12409915417874342407 : True := trivial
theorem Mine.fin.tw12448240930570709186 : True := trivial
theorem Mine.fin.tw12464766053444552404 : True := trivial
theorem Mine.fin.tw12494888245299231016 : True := trivial
theorem Mine.fin.tw1252854909445205041 : True := trivial
theorem Mine.fin.tw12550770813317053977 : True := trivial
theorem Mine.fin.tw12557769604369416430 : True := trivial
theorem Mine.fin.tw12567809125941998234 : True := trivial
theorem Mine.fin.tw12629903358213643309 : True := trivial
theorem Mine.fin.tw12649782002744950493 : True := trivial
theorem Mine.fin.tw12669758225909598566 : True := trivial
theorem Mine.fin.tw12696600883282566439 : True := trivial
theorem Mine.fin.tw12711679700452659978 : True := trivial
theorem Mine.fin.tw12740692763255036000 : True := trivial
theorem Mine.fin.tw12751662967071866640 : True := trivial
theorem Mine.fin.tw12809788781938459499 : True := trivial
theorem Mine.fin.tw12829507556594621215 : True := trivial
theorem Mine.fin.tw12833947400113492166 : True := trivial
theorem Mine.fin.tw12847644182280273618 : True := trivial
theorem Mine.fin.tw12869217540446652890 : True := trivial
theorem Mine.fin.tw12876064707754696378 : True := trivial
theorem Mine.fin.tw12876116671307685997 : True := trivial
theorem Mine.fin.tw12887231344917428322 : True := trivial
theorem Mine.fin.tw12946824338688289833 : True := trivial
theorem Mine.fin.tw12962497063298326498 : True := trivial
theorem Mine.fin.tw12977279227502587607 : True := trivial
theorem Mine.fin.tw12996517811204074000 : True := trivial
theorem Mine.fin.tw13066358836101814915 : True := trivial
theorem Mine.fin.tw13158425560686309300 : True := trivial
theorem Mine.fin.tw13162651487661262736 : True := trivial
theorem Mine.fin.tw13177410634674063896 : True := trivial
theorem Mine.fin.tw13199158710529813207 : True := trivial
theorem Mine.fin.tw13288929112427635611 : True := trivial
theorem Mine.fin.tw13294311002278339166 : True := trivial
theorem Mine.fin.tw13337293482115323266 : True := trivial
theorem Mine.fin.tw13383306551100868464 : True := trivial
theorem Mine.fin.tw13423622936843584764 : True := trivial
theorem Mine.fin.tw13467322939085005891 : True := trivial
theorem Mine.fin.tw13516622038369049944 : True := trivial
theorem Mine.fin.tw13700621096757390547 : True := trivial
theorem Mine.fin.tw13724452099449386491 : True := trivial
theorem Mine.fin.tw13790858721211988464 : True := trivial
theorem Mine.fin.tw13814004702073501669 : True := trivial
theorem Mine.fin.tw13815853411582834384 : True := trivial
theorem Mine.fin.tw13870153662132920491 : True := trivial
theorem Mine.fin.tw13898374239775968522 : True := trivial
theorem Mine.fin.tw13925877587632400325 : True := trivial
theorem Mine.fin.tw13929302177132474383 : True := trivial
theorem Mine.fin.tw1397303283331804279 : True := trivial
theorem Mine.fin.tw1405897622057794425 : True := trivial
theorem Mine.fin.tw14075178694198228753 : True := trivial
theorem Mine.fin.tw14109310954907245088 : True := trivial
theorem Mine.fin.tw14139026862911339306 : True := trivial
theorem Mine.fin.tw14166196953294261902 : True := trivial
theorem Mine.fin.tw1422313219903470601 : True := trivial
theorem Mine.fin.tw14245171486683049214 : True := trivial
theorem Mine.fin.tw14279960228734115912 : True := trivial
theorem Mine.fin.tw14333544728242365436 : True := trivial
theorem Mine.fin.tw14345562132136545540 : True := trivial
theorem Mine.fin.tw14347400895652799225 : True := trivial
theorem Mine.fin.tw14497727239971306367 : True := trivial
theorem Mine.fin.tw14517287926952318261 : True := trivial
theorem Mine.fin.tw14541005305830221311 : True := trivial
theorem Mine.fin.tw14560573928864763818 : True := trivial
theorem Mine.fin.tw14568449535678555946 : True := trivial
theorem Mine.fin.tw14574801432027512755 : True := trivial
theorem Mine.fin.tw14578271805448956485 : True := trivial
theorem Mine.fin.tw14679806638718605512 : True := trivial
theorem Mine.fin.tw14728723275428758510 : True := trivial
theorem Mine.fin.tw14781754792826865377 : True := trivial
theorem Mine.fin.tw14786503066443513839 : True := trivial
theorem Mine.fin.tw14793013804824869981 : True := trivial
theorem Mine.fin.tw14814673180317915700 : True := trivial
theorem Mine.fin.tw14855157385224911753 : True := trivial
theorem Mine.fin.tw15144710454662140524 : True := trivial
theorem Mine.fin.tw15205425988870721313 : True := trivial
theorem Mine.fin.tw15234240111613058569 : True := trivial
theorem Mine.fin.tw15309079848183770524 : True := trivial
theorem Mine.fin.tw15344004072050561172 : True := trivial
theorem Mine.fin.tw1535588207084551279 : True := trivial
theorem Mine.fin.tw15373703851562958014 : True := trivial
theorem Mine.fin.tw15399907426655090358 : True := trivial
theorem Mine.fin.tw15429735469372272745 : True := trivial
theorem Mine.fin.tw1542987894549481493 : True := trivial
theorem Mine.fin.tw15459455144867644326 : True := trivial
theorem Mine.fin.tw15533503492667675913 : True := trivial
theorem Mine.fin.tw15566928917628492161 : True := trivial
theorem Mine.fin.tw15583698165555649274 : True := trivial
theorem Mine.fin.tw1560641971993327685 : True := trivial
theorem Mine.fin.tw15621619335703214680 : True := trivial
theorem Mine.fin.tw15675102808854859970 : True := trivial
theorem Mine.fin.tw15688172546075569117 : True := trivial
theorem Mine.fin.tw15741700470354863883 : True := trivial
theorem Mine.fin.tw15815952407149668801 : True := trivial
theorem Mine.fin.tw15832999045522443761 : True := trivial
theorem Mine.fin.tw15989303212955285315 : True := trivial
theorem Mine.fin.tw16103849850496634939 : True := trivial
theorem Mine.fin.tw16115155874713506467 : True := trivial
theorem Mine.fin.tw1613116972386908190 : True := trivial
theorem Mine.fin.tw16196181902256332553 : True := trivial
theorem Mine.fin.tw16205109500356779066 : True := trivial
theorem Mine.fin.tw16211125797173286868 : True := trivial
theorem Mine.fin.tw16229209127682248589 : True := trivial
theorem Mine.fin.tw16237762584071213788 : True := trivial
theorem Mine.fin.tw16256441300576474876 : True := trivial
theorem Mine.fin.tw16275787546110486726 : True := trivial
theorem Mine.fin.tw16285329926789087883 : True := trivial
theorem Mine.fin.tw16307707646766795581 : True := trivial
theorem Mine.fin.tw1635022588487117616 : True := trivial
theorem Mine.fin.tw16401934584784274106 : True := trivial
theorem Mine.fin.tw16496857829328116044 : True := trivial
theorem Mine.fin.tw16502652511500755 : True := trivial
theorem Mine.fin.tw16510490156224867327 : True := trivial
theorem Mine.fin.tw16530489862217454893 : True := trivial
theorem Mine.fin.tw16570786720924097770 : True := trivial
theorem Mine.fin.tw16656299143469825513 : True := trivial
theorem Mine.fin.tw16906536467411238026 : True := trivial
theorem Mine.fin.tw16958243865122950064 : True := trivial
theorem Mine.fin.tw17041991840579044601 : True := trivial
theorem Mine.fin.tw17067295170570645592 : True := trivial
theorem Mine.fin.tw17123178472405020103 : True := trivial
theorem Mine.fin.tw17132207802985990308 : True := trivial
theorem Mine.fin.tw17164383140453370395 : True := trivial
theorem Mine.fin.tw17186005699333237546 : True := trivial
theorem Mine.fin.tw17187931989925639037 : True := trivial
theorem Mine.fin.tw17197158672614542318 : True := trivial
theorem Mine.fin.tw17204297501091165112 : True := trivial
theorem Mine.fin.tw17347454772498655404 : True := trivial
theorem Mine.fin.tw17362494058136835672 : True := trivial
theorem Mine.fin.tw17416127249078093707 : True := trivial
theorem Mine.fin.tw17495881415371897999 : True := trivial
theorem Mine.fin.tw17512474026176034454 : True := trivial
theorem Mine.fin.tw17570709534508481193 : True := trivial
theorem Mine.fin.tw17637551073024348614 : True := trivial
theorem Mine.fin.tw17656766251404061198 : True := trivial
theorem Mine.fin.tw17662344363894024548 : True := trivial
theorem Mine.fin.tw17698704350827878285 : True := trivial
theorem Mine.fin.tw17717364068325071970 : True := trivial
theorem Mine.fin.tw17719728818120068181 : True := trivial
theorem Mine.fin.tw17784850919643140607 : True := trivial
theorem Mine.fin.tw17801579834951734752 : True := trivial
theorem Mine.fin.tw17861066769153400444 : True := trivial
theorem Mine.fin.tw17869975865946814897 : True := trivial
theorem Mine.fin.tw17896612028031085017 : True := trivial
theorem Mine.fin.tw17933470926392208243 : True := trivial
theorem Mine.fin.tw17971676594858020690 : True := trivial
theorem Mine.fin.tw17974384156558142227 : True := trivial
theorem Mine.fin.tw18082680734076937219 : True := trivial
theorem Mine.fin.tw18105942590061964161 : True := trivial
theorem Mine.fin.tw18164189302063226315 : True := trivial
theorem Mine.fin.tw1819255440876223710 : True := trivial
theorem Mine.fin.tw18195182924450695511 : True := trivial
theorem Mine.fin.tw18230178534529381785 : True := trivial
theorem Mine.fin.tw18255404467826089762 : True := trivial
theorem Mine.fin.tw18373065035072037172 : True := trivial
theorem Mine.fin.tw1887099378405440850 : True := trivial
theorem Mine.fin.tw1921391257341544841 : True := trivial
theorem Mine.fin.tw1951045429614898598 : True := trivial
theorem Mine.fin.tw1963134401048803436 : True := trivial
theorem Mine.fin.tw1976505206021243879 : True := trivial
theorem Mine.fin.tw1982079694162106894 : True := trivial
theorem Mine.fin.tw2051409578822353534 : True := trivial
theorem Mine.fin.tw2067723777617599883 : True := trivial
theorem Mine.fin.tw2086631506510373192 : True := trivial
theorem Mine.fin.tw2149071653572219070 : True := trivial
theorem Mine.fin.tw2188544345594562320 : True := trivial
theorem Mine.fin.tw2236755162388048479 : True := trivial
theorem Mine.fin.tw2304379251839397102 : True := trivial
theorem Mine.fin.tw2305881189932309285 : True := trivial
theorem Mine.fin.tw2321816554428607280 : True := trivial
theorem Mine.fin.tw2367325634123391141 : True := trivial
theorem Mine.fin.tw2415902012162501839 : True := trivial
theorem Mine.fin.tw2462912638960843985 : True := trivial
theorem Mine.fin.tw2512408688544751470 : True := trivial
theorem Mine.fin.tw251868834278440796 : True := trivial
theorem Mine.fin.tw2608567993692976607 : True := trivial
theorem Mine.fin.tw2617349483901765261 : True := trivial
theorem Mine.fin.tw2656788454239962097 : True := trivial
theorem Mine.fin.tw2671655128345628175 : True := trivial
theorem Mine.fin.tw2775396313129547428 : True := trivial
theorem Mine.fin.tw2789213428527533208 : True := trivial
theorem Mine.fin.tw2824846461999071874 : True := trivial
theorem Mine.fin.tw2866121171748074186 : True := trivial
theorem Mine.fin.tw2910385600587045654 : True := trivial
theorem Mine.fin.tw2976117146107443816 : True := trivial
theorem Mine.fin.tw3028926083550364057 : True := trivial
theorem Mine.fin.tw3029852977388229646 : True := trivial
theorem Mine.fin.tw3105451386036433885 : True := trivial
theorem Mine.fin.tw3112429581023547943 : True := trivial
theorem Mine.fin.tw3125960719983571848 : True := trivial
theorem Mine.fin.tw3173534031939492945 : True := trivial
theorem Mine.fin.tw3199103547748192838 : True := trivial
theorem Mine.fin.tw3222278782482380304 : True := trivial
theorem Mine.fin.tw3263211703599914710 : True := trivial
theorem Mine.fin.tw3268265519342814607 : True := trivial
theorem Mine.fin.tw3314143786362844604 : True := trivial
theorem Mine.fin.tw3343445320678177929 : True := trivial
theorem Mine.fin.tw3404873503106905745 : True := trivial
theorem Mine.fin.tw3456623496861543869 : True := trivial
theorem Mine.fin.tw3459265974087741279 : True := trivial
theorem Mine.fin.tw3506512066687448480 : True := trivial
theorem Mine.fin.tw3598329298470268980 : True := trivial
theorem Mine.fin.tw3599858809825778643 : True := trivial
theorem Mine.fin.tw3683778510129048087 : True := trivial
theorem Mine.fin.tw3762306804915933987 : True := trivial
theorem Mine.fin.tw3810338749695602999 : True := trivial
theorem Mine.fin.tw3810570522144960214 : True := trivial
theorem Mine.fin.tw3812028171767442716 : True := trivial
theorem Mine.fin.tw3837020019201816242 : True := trivial
theorem Mine.fin.tw3857263333814641470 : True := trivial
theorem Mine.fin.tw3912488439876925007 : True := trivial
theorem Mine.fin.tw3955986520655104412 : True := trivial
theorem Mine.fin.tw3974152918291533672 : True := trivial
theorem Mine.fin.tw3975253019698251321 : True := trivial
theorem Mine.fin.tw4040260094072895976 : True := trivial
theorem Mine.fin.tw4162185377826839926 : True := trivial
theorem Mine.fin.tw4170516301191304579 : True := trivial
theorem Mine.fin.tw4171678462856256454 : True := trivial
theorem Mine.fin.tw4209717502836232480 : True := trivial
theorem Mine.fin.tw4218790737952374519 : True := trivial
theorem Mine.fin.tw428092273266315144 : True := trivial
theorem Mine.fin.tw4312942655851389009 : True := trivial
theorem Mine.fin.tw4326780796455107134 : True := trivial
theorem Mine.fin.tw4424551920762525699 : True := trivial
theorem Mine.fin.tw4443050520305737185 : True := trivial
theorem Mine.fin.tw4570111826955561243 : True := trivial
theorem Mine.fin.tw4588413851689716618 : True := trivial
theorem Mine.fin.tw4613182775407389354 : True := trivial
theorem Mine.fin.tw4640724917100965312 : True := trivial
theorem Mine.fin.tw4719063310657182621 : True := trivial
theorem Mine.fin.tw4754365596532378047 : True := trivial
theorem Mine.fin.tw4769821431679368130 : True := trivial
theorem Mine.fin.tw4788878847521262168 : True := trivial
theorem Mine.fin.tw480829909506669009 : True := trivial
theorem Mine.fin.tw4868334931027891882 : True := trivial
theorem Mine.fin.tw4878226113927451544 : True := trivial
theorem Mine.fin.tw4879674094562380441 : True := trivial
theorem Mine.fin.tw4898026214463823928 : True := trivial
theorem Mine.fin.tw4924110625330727750 : True := trivial
theorem Mine.fin.tw4928979718650693569 : True := trivial
theorem Mine.fin.tw500868675978126160 : True := trivial
theorem Mine.fin.tw5071919506433949198 : True := trivial
theorem Mine.fin.tw5073790198343104882 : True := trivial
theorem Mine.fin.tw5115476493328737885 : True := trivial
theorem Mine.fin.tw5196160543931855155 : True := trivial
theorem Mine.fin.tw5266742908149448401 : True := trivial
theorem Mine.fin.tw5293390819737331289 : True := trivial
theorem Mine.fin.tw5320702786494000081 : True := trivial
theorem Mine.fin.tw5402249366112354979 : True := trivial
theorem Mine.fin.tw544173102793226557 : True := trivial
theorem Mine.fin.tw5486226609284752418 : True := trivial
theorem Mine.fin.tw5647864574477489665 : True := trivial
theorem Mine.fin.tw5678346346211369953 : True := trivial
theorem Mine.fin.tw5776136370200156792 : True := trivial
theorem Mine.fin.tw5796354222422608987 : True := trivial
theorem Mine.fin.tw5805905742469029177 : True := trivial
theorem Mine.fin.tw5901363791540438844 : True := trivial
theorem Mine.fin.tw5962627729488381771 : True := trivial
theorem Mine.fin.tw6058378993454661626 : True := trivial
theorem Mine.fin.tw6068950659093879613 : True := trivial
theorem Mine.fin.tw6127190174262240918 : True := trivial
theorem Mine.fin.tw612862322836996645 : True := trivial
theorem Mine.fin.tw6144012678527597917 : True := trivial
theorem Mine.fin.tw6207176494656529804 : True := trivial
theorem Mine.fin.tw6232080684201472732 : True := trivial
theorem Mine.fin.tw6341822008880759003 : True := trivial
theorem Mine.fin.tw6381419901266130222 : True := trivial
theorem Mine.fin.tw6388184931127306564 : True := trivial
theorem Mine.fin.tw6435670951450185984 : True := trivial
theorem Mine.fin.tw6449190631224713292 : True := trivial
theorem Mine.fin.tw6454446336052903152 : True := trivial
theorem Mine.fin.tw6455845175183424153 : True := trivial
theorem Mine.fin.tw6474043946942992101 : True := trivial
theorem Mine.fin.tw6498334528663615478 : True := trivial
theorem Mine.fin.tw6515953530934532768 : True := trivial
theorem Mine.fin.tw6531376189190222733 : True := trivial
theorem Mine.fin.tw6566618420281934 : True := trivial
theorem Mine.fin.tw6577878126316647860 : True := trivial
theorem Mine.fin.tw6634307039904815820 : True := trivial
theorem Mine.fin.tw6667815254911646788 : True := trivial
theorem Mine.fin.tw6707113841082798463 : True := trivial
theorem Mine.fin.tw6766580051018981234 : True := trivial
theorem Mine.fin.tw6956187926921108005 : True := trivial
theorem Mine.fin.tw7055459427971326715 : True := trivial
theorem Mine.fin.tw7070210977369740762 : True := trivial
theorem Mine.fin.tw7282745182861764756 : True := trivial
theorem Mine.fin.tw731340195517672211 : True := trivial
theorem Mine.fin.tw7321584467024264148 : True := trivial
theorem Mine.fin.tw7380833856163905736 : True := trivial
theorem Mine.fin.tw744865244796547220 : True := trivial
theorem Mine.fin.tw7451905468542833597 : True := trivial
theorem Mine.fin.tw7470013935711676318 : True := trivial
theorem Mine.fin.tw7547296005191728479 : True := trivial
theorem Mine.fin.tw757079261281740938 : True := trivial
theorem Mine.fin.tw7613857476909055813 : True := trivial
theorem Mine.fin.tw7619839683568253995 : True := trivial
theorem Mine.fin.tw7661832156752021035 : True := trivial
theorem Mine.fin.tw7675655780812522254 : True := trivial
theorem Mine.fin.tw7684487725183542926 : True := trivial
theorem Mine.fin.tw7716820226725407877 : True := trivial
theorem Mine.fin.tw7779959011674639804 : True := trivial
theorem Mine.fin.tw7803649310394182010 : True := trivial
theorem Mine.fin.tw7830629276484211593 : True := trivial
theorem Mine.fin.tw783483362715066742 : True := trivial
theorem Mine.fin.tw7844069586390513008 : True := trivial
theorem Mine.fin.tw7845872953664198349 : True := trivial
theorem Mine.fin.tw7890596953891613788 : True := trivial
theorem Mine.fin.tw7929640520542984453 : True := trivial
theorem Mine.fin.tw7930893340574950883 : True := trivial
theorem Mine.fin.tw7976502392129159676 : True := trivial
theorem Mine.fin.tw799341379326975648 : True := trivial
theorem Mine.fin.tw7995362448368537469 : True := trivial
theorem Mine.fin.tw8018989035897545986 : True := trivial
theorem Mine.fin.tw8025084765662995669 : True := trivial
theorem Mine.fin.tw803859442106103436 : True := trivial
theorem Mine.fin.tw8119881530291889089 : True := trivial
theorem Mine.fin.tw8272817396058243321 : True := trivial
theorem Mine.fin.tw8281523328739849912 : True := trivial
theorem Mine.fin.tw8289400949097046189 : True := trivial
theorem Mine.fin.tw8330952907988395303 : True := trivial
theorem Mine.fin.tw8331973007464152698 : True := trivial
theorem Mine.fin.tw8352470293576582857 : True := trivial
theorem Mine.fin.tw8383268338085895543 : True := trivial
theorem Mine.fin.tw8399098705505230059 : True := trivial
theorem Mine.fin.tw8416529770105884409 : True := trivial
theorem Mine.fin.tw8462624477310905004 : True := trivial
theorem Mine.fin.tw8559517257967667466 : True := trivial
theorem Mine.fin.tw857469055436470443 : True := trivial
theorem Mine.fin.tw8590288500278120515 : True := trivial
theorem Mine.fin.tw8643116662766533202 : True := trivial
theorem Mine.fin.tw8656503046869711584 : True := trivial
theorem Mine.fin.tw8668149382578428375 : True := trivial
theorem Mine.fin.tw8682893921357222992 : True := trivial
theorem Mine.fin.tw876206183137641144 : True := trivial
theorem Mine.fin.tw888132650186811988 : True := trivial
theorem Mine.fin.tw891787732878383699 : True := trivial
theorem Mine.fin.tw8919302590299486024 : True := trivial
theorem Mine.fin.tw8947099994592609211 : True := trivial
theorem Mine.fin.tw9001875181463519149 : True := trivial
theorem Mine.fin.tw9113340658982188547 : True := trivial
theorem Mine.fin.tw9218923581257491847 : True := trivial
theorem Mine.fin.tw9221430085559818832 : True := trivial
theorem Mine.fin.tw9247658263007524724 : True := trivial
theorem Mine.fin.tw9260378047223084069 : True := trivial
theorem Mine.fin.tw9363291351745731410 : True := trivial
theorem Mine.fin.tw9387745189664136937 : True := trivial
theorem Mine.fin.tw9445451236469955387 : True := trivial
theorem Mine.fin.tw9544026089342320630 : True := trivial
theorem Mine.fin.tw9610726530385051774 : True := trivial
theorem Mine.fin.tw9725021084223525626 : True := trivial
theorem Mine.fin.tw9735714214384596553 : True := trivial
theorem Mine.fin.tw9746214513668125432 : True := trivial
theorem Mine.fin.tw9746901515087519452 : True := trivial
theorem Mine.fin.tw9806666330580929782 : True := trivial
theorem Mine.fin.tw9917203430921899224 : True := trivial
theorem Mine.fin.tw9997704412844104603 : True := trivial
theorem Mine.fin.tw999798209818781672 : True := trivial
set_option Elab.async true
set_option maxRecDepth 100000 in
set_option maxHeartbeats 8000000 in
theorem Mine.fin : PySem.Challenge.rw_qd0035_01.Holds := by
  w_on
  o_law
  k_head
  (case hw => w_witness2)
  k_fill
  intro w s₀ s₁ mg mb G Y fa o pm cd doc dV kV ho hd hcd hD hmg hg args vals as hpre hlay hrd hwl hlo
  have KX := kIn_of Y
  refine Ground.open G ?_
  intro T B D TE TW
  try (refine guard_noD D (by decide +kernel) ?_; clear D)
  wrow_args hpre hlay hrd hwl hlo
  all_goals (
    first | refine callC_kw (enter_call ?_) | refine enter_call ?_ | refine callC_kw (enter_callW ?_) | refine enter_callW ?_ | w_how
    w_top on
    try refine codeAny_mono ?_ (fun _ _ g => GoodW.toG g)
    have hsy : s₁.heap.get? sysModules ≠ none := by
      obtain ⟨mm, ⟨o, es, ep, e, _⟩, _⟩ := (T.seer (by decide +kernel)).mods
      rw [e]; simp
    refine codeAny_mono (Qd.join_call ⟨fun p => by kernel_rfl, fun p => by kernel_rfl, fun p => by kernel_rfl, fun p => by kernel_rfl, fun p => by kernel_rfl, fun p => by kernel_rfl, fun p => by kernel_rfl, fun p => by kernel_rfl, fun p => by kernel_rfl, fun p => by kernel_rfl, fun p => by kernel_rfl, fun p => by kernel_rfl, fun p => by kernel_rfl, fun p => by kernel_rfl⟩ KX T.b T.builtins T.g hmg T.nolimit hsy (by assumption) (by assumption) (by omega) (Qd.law_all _)) ?_
    rintro r s' ⟨rfl, keep, hos, hgn⟩
    refine ⟨.inl ⟨_, .bool true, [], rfl, fun cls => by rfl, .bool true, ?_, unshared_nil⟩, keep, hos, hgn.trans hg⟩
    wrow_post)
theorem PySem.Challenge.cw_qd0035_01_holds : PySem.Challenge.rw_qd0035_01.Holds :=
  Mine.fin
