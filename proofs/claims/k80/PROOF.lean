import PyProof.Rows.All
import HandS.ForMost
import HandS.Wide
import HandS.TupAny
import HandS.Flow
import HandS.ForExc
import HandS.IsInst
import HandS.RaiseMore
import HandS.CallSlots
import HandS.Defaults
import HandS.Head0
import HandS.Head1
import HandS.Head2
import HandS.HeadEnd
import HandS.HeadHook1
import HandS.HeadHook2
import PySem.Challenge.RW_wholeglance_k80_cases_written
open PySem PySem.Spec PyProof.Rows
set_option linter.all false
namespace Wg
open L2
/-- values: tuples are trees -/
inductive M where
  | non | bl (b : Bool) | int (i : Int) | str (x : List Nat) | tup (xs : List M) | ref (k : Nat) | fz (xs : List M)
instance : Inhabited M := ⟨.non⟩
def mkS (l : List Nat) : Str := ⟨l.toArray⟩
theorem mkS_inj {a b : List Nat} : mkS a = mkS b ↔ a = b := by
  constructor
  · intro h
    have : a.toArray = b.toArray := by simpa [mkS] using h
    simpa using congrArg Array.toList this
  · rintro rfl; rfl
mutual
def M.eqb : M → M → Bool
  | .non, .non => true
  | .bl a, .bl b => a == b
  | .int a, .int b => a == b
  | .str a, .str b => a == b
  | .tup a, .tup b => M.eqbs a b
  | .ref a, .ref b => a == b
  | .fz a, .fz b => M.eqbs a b
  | _, _ => false
def M.eqbs : List M → List M → Bool
  | [], [] => true
  | x :: xs, y :: ys => M.eqb x y && M.eqbs xs ys
  | _, _ => false
end
mutual
theorem M.eqb_iff : ∀ a b : M, M.eqb a b = true ↔ a = b
  | .non, b => by cases b <;> simp [M.eqb]
  | .bl _, b => by cases b <;> simp [M.eqb]
  | .int _, b => by cases b <;> simp [M.eqb]
  | .str _, b => by cases b <;> simp [M.eqb]
  | .tup xs, b => by
    cases b with
    | tup ys => simp [M.eqb, M.eqbs_iff xs ys]
    | _ => simp [M.eqb]
  | .ref _, b => by cases b <;> simp [M.eqb]
  | .fz xs, b => by
    cases b with
    | fz ys => simp [M.eqb, M.eqbs_iff xs ys]
    | _ => simp [M.eqb]
theorem M.eqbs_iff : ∀ a b : List M, M.eqbs a b = true ↔ a = b
  | [], b => by cases b <;> simp [M.eqbs]
  | x :: xs, b => by
    cases b with
    | nil => simp [M.eqbs]
    | cons y ys => simp [M.eqbs, M.eqb_iff x y, M.eqbs_iff xs ys]
end
instance : DecidableEq M := fun a b => decidable_of_iff (M.eqb a b = true) (M.eqb_iff a b)
end Wg
open PySem PySem.Spec PyProof.Rows
set_option linter.all false
namespace Wg
open L2
/-! ### data, the small heap, what is wanted -/
def M.dt : Nat → M → Bool
  | _, .non => true
  | _, .bl _ => false
  | _, .int _ => true
  | _, .str x => PyData.strOk (mkS x)
  | 0, .tup _ => false
  | n + 1, .tup xs => xs.all (M.dt n)
  | _, .ref _ => false
  | _, .fz _ => false
inductive MO where
  | lst (xs : List M) | dct (kvs : List (M × M)) | ins (c : Nat) (fs : List (Str × M))
abbrev MH := List MO
abbrev Env := List (Option M)
structure Exn where
  cls : Nat
  fs : List (Str × M)
abbrev QE := M → MH → Prop
abbrev XW := Exn → Env → MH → Prop
abbrev FS := List M → MH → QE → (Exn → MH → Prop) → Prop
structure Ed where
  nx : Env → MH → Prop
  rt : QE
  bk : Env → MH → Prop := fun _ _ => False
  ct : Env → MH → Prop := fun _ _ => False
/-! ### what operators do -/
def mulOk (i j : Int) : Prop := CMul i j ∨ CMulW i j
def binR : Operator → M → M → MH → QE → Prop
  | .Add, .int i, .int j, h, Q => Q (.int (i + j)) h
  | .Add, .str a, .str b, h, Q => a.length + b.length ≤ sizeLine ∧ Q (.str (a ++ b)) h
  | .Add, .tup a, .tup b, h, Q => a.length + b.length ≤ sizeLine ∧ Q (.tup (a ++ b)) h
  | .Add, .ref a, .ref b, h, Q => ∃ xs ys, h[a]? = some (.lst xs) ∧ h[b]? = some (.lst ys) ∧ xs.length + ys.length ≤ sizeLine ∧ Q (.ref h.length) (h ++ [.lst (xs ++ ys)])
  | .Sub, .int i, .int j, h, Q => Q (.int (i - j)) h
  | .Mult, .int i, .int j, h, Q => mulOk i j ∧ Q (.int (i * j)) h
  | .Mult, .ref a, .int k, h, Q => ∃ xs, h[a]? = some (.lst xs) ∧ -(2 ^ 63) ≤ k ∧ k < 2 ^ 63 ∧ xs.length * k.toNat ≤ sizeLine ∧ Q (.ref h.length) (h ++ [.lst (List.replicate k.toNat xs).flatten])
  | .FloorDiv, .int i, .int j, h, Q => (0 < j ∧ j.natAbs.log2 < 9000) ∧ Q (.int (i / j)) h
  | .Mod, .int i, .int j, h, Q => 0 < j ∧ Q (.int (i % j)) h
  | .Pow, .int i, .int j, h, Q => CPow i j ∧ Q (.int (i ^ j.toNat)) h
  | .LShift, .int i, .int j, h, Q => CPow i j ∧ Q (.int (i * 2 ^ j.toNat)) h
  | _, _, _, _, _ => False
def getL (h : MH) (k : Nat) : Option (List M) :=
  match h[k]? with
  | some (.lst xs) => some xs
  | _ => none
def flatM : M → Bool
  | .non => true
  | .int _ => true
  | .str _ => true
  | _ => false
def eqV (h : MH) : M → M → Option Bool
  | .ref a, .ref b => match h[a]?, h[b]? with
    | some (.lst xs), some (.lst ys) => if xs.all (M.dt 60) && ys.all (M.dt 60) then some (decide (xs = ys)) else none
    | _, _ => none
  | .bl a, .bl b => some (decide (a = b))
  | .str a, .str b => some (decide (a = b))
  | x, y => if M.dt 60 x && M.dt 60 y then some (decide (x = y)) else none
def inV (h : MH) (x : M) : M → Option Bool
  | .tup ys => if flatM x && ys.all flatM then some (decide (x ∈ ys)) else none
  | .ref a => match getL h a with
    | some ys => if flatM x && ys.all flatM then some (decide (x ∈ ys)) else none
    | none => none
  | _ => none
def cmpR : CmpOp → M → M → MH → (Bool → MH → Prop) → Prop
  | .Eq, x, y, h, Q => ∃ b, eqV h x y = some b ∧ Q b h
  | .NotEq, x, y, h, Q => ∃ b, eqV h x y = some b ∧ Q (!b) h
  | .Lt, .int i, .int j, h, Q => Q (decide (i < j)) h
  | .LtE, .int i, .int j, h, Q => Q (decide (i ≤ j)) h
  | .Gt, .int i, .int j, h, Q => Q (decide (j < i)) h
  | .GtE, .int i, .int j, h, Q => Q (decide (j ≤ i)) h
  | .Is, x, .non, h, Q => Q (decide (x = .non)) h
  | .IsNot, x, .non, h, Q => Q (!decide (x = .non)) h
  | .In, x, y, h, Q => ∃ b, inV h x y = some b ∧ Q b h
  | .NotIn, x, y, h, Q => ∃ b, inV h x y = some b ∧ Q (!b) h
  | _, _, _, _, _ => False
def truV (h : MH) : M → Option Bool
  | .non => some false
  | .bl b => some b
  | .int i => some (decide (i ≠ 0))
  | .str x => if x.length ≤ sizeLine then some (decide (x ≠ [])) else none
  | .tup xs => some (decide (xs ≠ []))
  | .fz _ => none
  | .ref a => match h[a]? with
    | some (.lst xs) => some (decide (xs ≠ []))
    | _ => none
def idxR (x y : M) (h : MH) (Q : QE) : Prop :=
  match x, y with
  | .tup xs, .int i => ∃ v, atI xs i = some v ∧ Q v h
  | .fz xs, .int i => ∃ v, atI xs i = some v ∧ Q v h
  | .str z, .int i => z.length ≤ sizeLine ∧ ∃ c, atI z i = some c ∧ Q (.str [c]) h
  | .ref a, .int i => ∃ xs v, getL h a = some xs ∧ atI xs i = some v ∧ Q v h
  | _, _ => False
def cutL {α : Type} (xs : List α) (lo hi : Option Int) : List α := (xs.drop (HT.sIx xs.length 0 lo)).take (HT.sIx xs.length xs.length hi - HT.sIx xs.length 0 lo)
def slcR (x : M) (lo hi : Option Int) (h : MH) (Q : QE) : Prop :=
  match x with
  | .tup xs => Q (.tup (cutL xs lo hi)) h
  | .str z => z.length ≤ sizeLine ∧ Q (.str (cutL z lo hi)) h
  | .ref a => ∃ xs, getL h a = some xs ∧ Q (.ref h.length) (h ++ [.lst (cutL xs lo hi)])
  | _ => False
/-! ### built-in functions and methods -/
inductive Pm where
  | len | tuple | list | str | int | min2 | max2 | abs | all | any | sum
  deriving DecidableEq
def bls : List M → Option (List Bool)
  | [] => some []
  | .bl b :: r => (bls r).map (b :: ·)
  | _ :: _ => none
def intsM : List M → Option (List Int)
  | [] => some []
  | .int b :: r => (intsM r).map (b :: ·)
  | _ :: _ => none
def strsM : List M → Option (List (List Nat))
  | [] => some []
  | .str b :: r => (strsM r).map (b :: ·)
  | _ :: _ => none
def intL (i : Int) : List Nat := TL.tl (toString i : Str)
def pm_len : List M → MH → QE → Prop
  | [.tup xs], h, Q => Q (.int xs.length) h
  | [.fz xs], h, Q => Q (.int xs.length) h
  | [.str x], h, Q => x.length ≤ sizeLine ∧ Q (.int x.length) h
  | [.ref a], h, Q => ∃ xs, getL h a = some xs ∧ Q (.int xs.length) h
  | _, _, _ => False
def pm_tuple : List M → MH → QE → Prop
  | [.tup xs], h, Q => Q (.tup xs) h
  | [.ref a], h, Q => ∃ xs, getL h a = some xs ∧ Q (.tup xs) h
  | _, _, _ => False
def pm_list : List M → MH → QE → Prop
  | [.tup xs], h, Q => Q (.ref h.length) (h ++ [.lst xs])
  | [.ref a], h, Q => ∃ xs, getL h a = some xs ∧ Q (.ref h.length) (h ++ [.lst xs])
  | _, _, _ => False
def pm_str : List M → MH → QE → Prop
  | [.str x], h, Q => Q (.str x) h
  | [.int i], h, Q => i.natAbs.log2 < 1920 ∧ Q (.str (intL i)) h
  | _, _, _ => False
def pm_int : List M → MH → QE → Prop
  | [.int i], h, Q => Q (.int i) h
  | [.bl b], h, Q => Q (.int (if b then 1 else 0)) h
  | _, _, _ => False
def pm_min2 : List M → MH → QE → Prop
  | [.int i, .int j], h, Q => Q (.int (if j < i then j else i)) h
  | _, _, _ => False
def pm_max2 : List M → MH → QE → Prop
  | [.int i, .int j], h, Q => Q (.int (if j > i then j else i)) h
  | _, _, _ => False
def pm_abs : List M → MH → QE → Prop
  | [.int i], h, Q => Q (.int (if i < 0 then -i else i)) h
  | _, _, _ => False
def pm_all : List M → MH → QE → Prop
  | [.ref a], h, Q => ∃ xs bs, getL h a = some xs ∧ bls xs = some bs ∧ Q (.bl (bs.all id)) h
  | _, _, _ => False
def pm_any : List M → MH → QE → Prop
  | [.ref a], h, Q => ∃ xs bs, getL h a = some xs ∧ bls xs = some bs ∧ Q (.bl (bs.any id)) h
  | _, _, _ => False
def pm_sum : List M → MH → QE → Prop
  | [.ref a], h, Q => ∃ xs ns, getL h a = some xs ∧ intsM xs = some ns ∧ Q (.int ns.sum) h
  | _, _, _ => False
def pmR : Pm → List M → MH → QE → Prop
  | .len => pm_len
  | .tuple => pm_tuple
  | .list => pm_list
  | .str => pm_str
  | .int => pm_int
  | .min2 => pm_min2
  | .max2 => pm_max2
  | .abs => pm_abs
  | .all => pm_all
  | .any => pm_any
  | .sum => pm_sum
inductive Mt where
  | join | append | extend | pop
  deriving DecidableEq
def mt_join : M → List M → MH → QE → Prop
  | .str a, [.ref p], h, Q => ∃ xs ys, getL h p = some xs ∧ strsM xs = some ys ∧ (ys.map (·.length)).sum + ys.length * a.length ≤ 16777216 ∧ Q (.str (TL.joinL a ys)) h
  | _, _, _, _ => False
def mt_append : M → List M → MH → QE → Prop
  | .ref l, [y], h, Q => ∃ xs, h[l]? = some (.lst xs) ∧ xs.length < sizeLine ∧ Q .non (h.set l (.lst (xs ++ [y])))
  | _, _, _, _ => False
def mt_extend : M → List M → MH → QE → Prop
  | .ref l, [.ref b], h, Q => ∃ xs zs, h[l]? = some (.lst xs) ∧ h[b]? = some (.lst zs) ∧ xs.length + zs.length ≤ sizeLine ∧ Q .non (h.set l (.lst (xs ++ zs)))
  | _, _, _, _ => False
def mt_pop : M → List M → MH → QE → Prop
  | .ref l, [], h, Q => ∃ xs y, h[l]? = some (.lst (xs ++ [y])) ∧ Q y (h.set l (.lst xs))
  | _, _, _, _ => False
def mtR : Mt → M → List M → MH → QE → Prop
  | .join => mt_join
  | .append => mt_append
  | .extend => mt_extend
  | .pop => mt_pop
def mtTy (m : Mt) (x : M) (h : MH) : Bool :=
  match m, x with
  | .join, .str _ => true
  | .append, .ref k => (getL h k).isSome
  | .extend, .ref k => (getL h k).isSome
  | .pop, .ref k => (getL h k).isSome
  | _, _ => false
inductive Ty where
  | tuple | str | int | bool | list
  deriving DecidableEq
def isiV (t : Ty) (h : MH) : M → Option Bool
  | .non => some false
  | .bl _ => some (t == .bool || t == .int)
  | .int _ => some (t == .int)
  | .str _ => some (t == .str)
  | .tup _ => some (t == .tuple)
  | .fz _ => none
  | .ref k => if (getL h k).isSome then some (t == .list) else none
/-! ### the small syntax -/
inductive Tg where
  | nm (i : Nat) | tp (is : List Nat)
mutual
inductive ME where
  | var (i : Nat)
  | cst (m : M)
  | glb (k : Nat)
  | tup (es : MEs)
  | lst (es : MEs)
  | bin (op : Operator) (a b : ME)
  | neg (a : ME)
  | cmp (op : CmpOp) (a b : ME)
  | chn (op op' : CmpOp) (a b c : ME)
  | not (a : ME)
  | and (es : MEs)
  | or (es : MEs)
  | ifx (c a b : ME)
  | idx (a b : ME)
  | slc (a : ME) (lo hi : MEo)
  | call (f : Nat) (es : MEs)
  | prm (p : Pm) (es : MEs)
  | mth (m : Mt) (o : ME) (es : MEs)
  | isi (t : Ty) (e : ME)
  | comp (vs : List Nat) (t : Tg) (it : MI) (c : MEo) (e : ME)
inductive MEs where
  | nil | cons (e : ME) (es : MEs)
inductive MEo where
  | no | so (e : ME)
inductive MI where
  | on (e : ME)
  | rng (es : MEs)
  | enm (e : ME)
  | zip (a b : ME)
end
mutual
inductive MS where
  | asg (t : Tg) (e : ME)
  | par (is : List Nat) (es : MEs)
  | sub (o i e : ME)
  | aug (i : Nat) (op : Operator) (e : ME)
  | exp (e : ME)
  | ret (e : ME)
  | retN
  | ife (c : ME) (a b : MSs)
  | for (t : Tg) (it : MI) (b : MSs)
  | whl (c : ME) (b : MSs)
  | pas | brk | cnt
inductive MSs where
  | nil | cons (s : MS) (ss : MSs)
end
/-! ### what it does: for each piece of syntax, what must hold ahead so that it ends as wanted -/
@[simp] def setAll : List Nat → List M → Env → Env
  | i :: is, v :: vs, env => setAll is vs (env.set i (some v))
  | _, _, env => env
/-- binding a target to a value -/
def bindT : Tg → M → Env → Option Env
  | .nm i, v, env => some (env.set i (some v))
  | .tp is, .tup vs, env => if vs.length = is.length then some (setAll is vs env) else none
  | _, _, _ => none
@[simp] def wipeE (env : Env) : List Nat → Env
  | [] => env
  | v :: vs => (wipeE env vs).set v none
abbrev WE := Env → MH → QE → (Exn → MH → Prop) → Prop
abbrev WT := Env → MH → (Bool → MH → Prop) → (Exn → MH → Prop) → Prop
@[simp] def compL (chk : MH → Prop) (bnd : M → Option Env) (cond : WT) (elt : WE) (X : Exn → MH → Prop) : List M → List M → MH → (List M → MH → Prop) → Prop
  | [], acc, h, R => chk h ∧ R acc h
  | x :: xs, acc, h, R => chk h ∧ ∃ env, bnd x = some env ∧ cond env h (fun b h1 => if b = true then elt env h1 (fun y h2 => compL chk bnd cond elt X xs (acc ++ [y]) h2 R) X else compL chk bnd cond elt X xs acc h1 R) X
@[simp] def forL (chk : MH → Prop) (t : Tg) (body : Env → MH → Ed → XW → Prop) (X : XW) (D : Ed) : List M → Env → MH → Prop
  | [], env, h => chk h ∧ D.nx env h
  | x :: xs, env, h => chk h ∧ ∃ env', bindT t x env = some env' ∧ body env' h { nx := forL chk t body X D xs, rt := D.rt, bk := D.nx, ct := forL chk t body X D xs } X
def rngOk (a b : Int) : Prop := -(2 ^ 62) ≤ a ∧ a < 2 ^ 62 ∧ -(2 ^ 62) ≤ b ∧ b < 2 ^ 62 ∧ (b - a).toNat ≤ sizeLine
def rngL (a b : Int) : List M := (List.range (b - a).toNat).map fun i => .int (a + (i : Nat))
abbrev KI := List M → (MH → Prop) → MH → Prop
def onR (x : M) (h : MH) (K : KI) : Prop :=
  match x with
  | .tup xs => K xs (fun _ => True) h
  | .fz xs => K xs (fun _ => True) h
  | .str z => z.length ≤ sizeLine ∧ K (z.map fun c => .str [c]) (fun _ => True) h
  | .ref a => ∃ xs, getL h a = some xs ∧ K xs (fun h' => getL h' a = some xs) h
  | _ => False
def rngR (vs : List M) (h : MH) (K : KI) : Prop :=
  match vs with
  | [.int b] => rngOk 0 b ∧ K (rngL 0 b) (fun _ => True) h
  | [.int a, .int b] => rngOk a b ∧ K (rngL a b) (fun _ => True) h
  | _ => False
def enmL (xs : List M) : List M := (xs.zipIdx 0).map fun p => .tup [.int (p.2 : Nat), p.1]
def zipL (xs ys : List M) : List M := (xs.zip ys).map fun p => .tup [p.1, p.2]
section
variable (gl : Nat → M) (Φ : Nat → FS)
mutual
@[simp] def wE : ME → WE
  | .var i, env, h, Q, X => ∃ v, env[i]? = some (some v) ∧ Q v h
  | .cst m, env, h, Q, X => Q m h
  | .glb k, env, h, Q, X => Q (gl k) h
  | .tup es, env, h, Q, X => wEs es env h (fun vs h1 => Q (.tup vs) h1) X
  | .lst es, env, h, Q, X => wEs es env h (fun vs h1 => Q (.ref h1.length) (h1 ++ [.lst vs])) X
  | .bin op a b, env, h, Q, X => wE a env h (fun x h1 => wE b env h1 (fun y h2 => binR op x y h2 Q) X) X
  | .neg a, env, h, Q, X => wE a env h (fun x h1 => ∃ i, x = .int i ∧ Q (.int (-i)) h1) X
  | .cmp op a b, env, h, Q, X => wE a env h (fun x h1 => wE b env h1 (fun y h2 => cmpR op x y h2 (fun k h3 => Q (.bl k) h3)) X) X
  | .chn op op' a b c, env, h, Q, X => wE a env h (fun x h1 => wE b env h1 (fun y h2 => cmpR op x y h2 (fun k h3 => if k = true then wE c env h3 (fun z h4 => cmpR op' y z h4 (fun k' h5 => Q (.bl k') h5)) X else Q (.bl false) h3)) X) X
  | .not a, env, h, Q, X => wE a env h (fun v h1 => ∃ k, truV h1 v = some k ∧ Q (.bl (!k)) h1) X
  | .and es, env, h, Q, X => wAnd es env h Q X
  | .or es, env, h, Q, X => wOr es env h Q X
  | .ifx c a b, env, h, Q, X => wT c env h (fun k h1 => if k = true then wE a env h1 Q X else wE b env h1 Q X) X
  | .idx a b, env, h, Q, X => wE a env h (fun x h1 => wE b env h1 (fun y h2 => idxR x y h2 Q) X) X
  | .slc a lo hi, env, h, Q, X => wE a env h (fun x h1 => wO lo env h1 (fun l h2 => wO hi env h2 (fun u h3 => slcR x l u h3 Q) X) X) X
  | .call f es, env, h, Q, X => wEs es env h (fun vs h1 => Φ f vs h1 Q X) X
  | .prm p es, env, h, Q, X => wEs es env h (fun vs h1 => pmR p vs h1 Q) X
  | .mth m o es, env, h, Q, X => wE o env h (fun x h1 => mtTy m x h1 = true ∧ wEs es env h1 (fun vs h2 => mtR m x vs h2 Q) X) X
  | .isi t e, env, h, Q, X => wE e env h (fun v h1 => ∃ b, isiV t h1 v = some b ∧ Q (.bl b) h1) X
  | .comp vs t it c e, env, h, Q, X => wI it env h (fun xs chk h1 =>
      compL chk (fun x => bindT t x (wipeE env vs)) (fun env' h Q X => wC c env' h Q X) (fun env' h Q X => wE e env' h Q X) (fun _ _ => False) xs [] h1 (fun acc h2 => Q (.ref h2.length) (h2 ++ [.lst acc]))) X
termination_by structural x => x
@[simp] def wEs : MEs → Env → MH → (List M → MH → Prop) → (Exn → MH → Prop) → Prop
  | .nil, env, h, Q, X => Q [] h
  | .cons e es, env, h, Q, X => wE e env h (fun v h1 => wEs es env h1 (fun vs h2 => Q (v :: vs) h2) X) X
termination_by structural x => x
@[simp] def wAnd : MEs → WE
  | .nil, env, h, Q, X => False
  | .cons e .nil, env, h, Q, X => wE e env h Q X
  | .cons e (.cons e' es), env, h, Q, X => wE e env h (fun v h1 => ∃ k, truV h1 v = some k ∧ if k = true then wAnd (.cons e' es) env h1 Q X else Q v h1) X
termination_by structural x => x
@[simp] def wOr : MEs → WE
  | .nil, env, h, Q, X => False
  | .cons e .nil, env, h, Q, X => wE e env h Q X
  | .cons e (.cons e' es), env, h, Q, X => wE e env h (fun v h1 => ∃ k, truV h1 v = some k ∧ if k = true then Q v h1 else wOr (.cons e' es) env h1 Q X) X
termination_by structural x => x
@[simp] def wT : ME → WT
  | .not a, env, h, Q, X => wT a env h (fun k h1 => Q (!k) h1) X
  | .and es, env, h, Q, X => wAndT es env h Q X
  | .or es, env, h, Q, X => wOrT es env h Q X
  | .cmp op a b, env, h, Q, X => wE a env h (fun x h1 => wE b env h1 (fun y h2 => cmpR op x y h2 Q) X) X
  | .chn op op' a b c, env, h, Q, X => wE a env h (fun x h1 => wE b env h1 (fun y h2 => cmpR op x y h2 (fun k h3 => if k = true then wE c env h3 (fun z h4 => cmpR op' y z h4 Q) X else Q false h3)) X) X
  | .var i, env, h, Q, X => ∃ v, env[i]? = some (some v) ∧ ∃ k, truV h v = some k ∧ Q k h
  | .call f es, env, h, Q, X => wEs es env h (fun vs h1 => Φ f vs h1 (fun v h2 => ∃ k, truV h2 v = some k ∧ Q k h2) X) X
  | .prm p es, env, h, Q, X => wEs es env h (fun vs h1 => pmR p vs h1 (fun v h2 => ∃ k, truV h2 v = some k ∧ Q k h2)) X
  | .cst m, env, h, Q, X => ∃ k, truV h m = some k ∧ Q k h
  | .isi t e, env, h, Q, X => wE e env h (fun v h1 => ∃ b, isiV t h1 v = some b ∧ Q b h1) X
  | .idx a b, env, h, Q, X => wE a env h (fun x h1 => wE b env h1 (fun y h2 => idxR x y h2 (fun v h3 => ∃ k, truV h3 v = some k ∧ Q k h3)) X) X
  | _, env, h, Q, X => False
termination_by structural x => x
@[simp] def wAndT : MEs → WT
  | .nil, env, h, Q, X => Q true h
  | .cons e es, env, h, Q, X => wT e env h (fun k h1 => if k = true then wAndT es env h1 Q X else Q false h1) X
termination_by structural x => x
@[simp] def wOrT : MEs → WT
  | .nil, env, h, Q, X => Q false h
  | .cons e es, env, h, Q, X => wT e env h (fun k h1 => if k = true then Q true h1 else wOrT es env h1 Q X) X
termination_by structural x => x
@[simp] def wO : MEo → Env → MH → (Option Int → MH → Prop) → (Exn → MH → Prop) → Prop
  | .no, env, h, Q, X => Q none h
  | .so e, env, h, Q, X => wE e env h (fun v h1 => ∃ i, v = .int i ∧ Q (some i) h1) X
termination_by structural x => x
@[simp] def wC : MEo → WT
  | .no, env, h, Q, X => Q true h
  | .so e, env, h, Q, X => wT e env h Q X
termination_by structural x => x
@[simp] def wI : MI → Env → MH → KI → (Exn → MH → Prop) → Prop
  | .on e, env, h, K, X => wE e env h (fun v h1 => onR v h1 K) X
  | .rng es, env, h, K, X => wEs es env h (fun vs h1 => rngR vs h1 K) X
  | .enm e, env, h, K, X => wE e env h (fun v h1 => match v with
      | .tup xs => K (enmL xs) (fun _ => True) h1
      | .ref a => ∃ xs, getL h1 a = some xs ∧ K (enmL xs) (fun h' => getL h' a = some xs) h1
      | _ => False) X
  | .zip a b, env, h, K, X => wE a env h (fun v h1 => wE b env h1 (fun u h2 => match v, u with
      | .tup xs, .tup ys => K (zipL xs ys) (fun _ => True) h2
      | .ref a, .ref b => ∃ xs ys, getL h2 a = some xs ∧ getL h2 b = some ys ∧ K (zipL xs ys) (fun h' => getL h' a = some xs ∧ getL h' b = some ys) h2
      | _, _ => False) X) X
termination_by structural x => x
end
abbrev WS := Env → MH → Ed → XW → Prop
mutual
@[simp] def wS : MS → WS
  | .asg t e, env, h, D, X => wE gl Φ e env h (fun v h1 => ∃ env', bindT t v env = some env' ∧ D.nx env' h1) (fun x h => X x env h)
  | .par is es, env, h, D, X => wEs gl Φ es env h (fun vs h1 => D.nx (setAll is vs env) h1) (fun x h => X x env h)
  | .sub o i e, env, h, D, X => wE gl Φ e env h (fun v h1 => wE gl Φ o env h1 (fun a h2 => wE gl Φ i env h2 (fun k h3 => ∃ l xs j n, a = .ref l ∧ k = .int j ∧ h3[l]? = some (.lst xs) ∧ ixN xs.length j = some n ∧ D.nx env (h3.set l (.lst (xs.set n v))))
      (fun x h => X x env h)) (fun x h => X x env h)) (fun x h => X x env h)
  | .aug i op e, env, h, D, X => ∃ x, env[i]? = some (some x) ∧ wE gl Φ e env h (fun y h1 => ∃ a b, x = .int a ∧ y = .int b ∧ op = .Add ∧ D.nx (env.set i (some (.int (a + b)))) h1) (fun x h => X x env h)
  | .exp e, env, h, D, X => wE gl Φ e env h (fun _ h1 => D.nx env h1) (fun x h => X x env h)
  | .ret e, env, h, D, X => wE gl Φ e env h D.rt (fun x h => X x env h)
  | .retN, env, h, D, X => D.rt .non h
  | .ife c a b, env, h, D, X => wT gl Φ c env h (fun k h1 => if k = true then wSs a env h1 D X else wSs b env h1 D X) (fun x h => X x env h)
  | .for t it b, env, h, D, X => wI gl Φ it env h (fun xs chk h1 => forL chk t (fun env h D X => wSs b env h D X) X D xs env h1) (fun x h => X x env h)
  | .whl c b, env, h, D, X => ∃ W : Nat → Env → MH → Prop, (∃ m, W m env h) ∧ ∀ m env h, W m env h →
      wT gl Φ c env h (fun k h1 => if k = true then wSs b env h1 { nx := fun e h => ∃ m', m' < m ∧ W m' e h, rt := D.rt, bk := D.nx, ct := fun e h => ∃ m', m' < m ∧ W m' e h } X else D.nx env h1) (fun x h => X x env h)
  | .pas, env, h, D, X => D.nx env h
  | .brk, env, h, D, X => D.bk env h
  | .cnt, env, h, D, X => D.ct env h
termination_by structural x => x
@[simp] def wSs : MSs → WS
  | .nil, env, h, D, X => D.nx env h
  | .cons s ss, env, h, D, X => wS s env h { D with nx := fun env' h' => wSs ss env' h' D X } X
termination_by structural x => x
end
end
end Wg
open PySem PySem.Spec PyProof.Rows
set_option linter.all false
namespace Wg
open L2
/-! ### how the small values stand in the heap -/
/-- a list that nobody changes -/
def SqF (K : PySem.W.Frag) (H : Hp) (a : Addr) (ys : List V) : Prop :=
  (∃ o, H a = some (.frz o (.lst ys))) ∨
    ∃ (o : Obj) (its : Array Value) (n : Nat), K.lookup a = some o ∧ o.cls = .type "list" ∧ o.dict = none ∧ o.data = .seq its n ∧ its.size ≤ sizeLine ∧ Vals ys its.toList
theorem SqF.sq {K : PySem.W.Frag} {H : Hp} {a : Addr} {ys : List V} (h : SqF K H a ys) : SqL K H a ys := by
  rcases h with ⟨o, h⟩ | h
  · exact .inl (.inr ⟨o, h⟩)
  · exact .inr h
mutual
inductive Rep (K : PySem.W.Frag) (ρ : List Addr) (H : Hp) : M → V → Prop
  | non : Rep K ρ H .non .non
  | bl (b : Bool) : Rep K ρ H (.bl b) (.bl b)
  | int (i : Int) : Rep K ρ H (.int i) (.int i)
  | str (x : List Nat) : Rep K ρ H (.str x) (.str (mkS x))
  | tup {a : Addr} {xs : List M} {ys : List V} : SqT K H a ys → Reps K ρ H xs ys → Rep K ρ H (.tup xs) (.ref a)
  | ref {a : Addr} {k : Nat} : ρ[k]? = some a → Rep K ρ H (.ref k) (.ref a)
  | fz {a : Addr} {xs : List M} {ys : List V} : SqF K H a ys → Reps K ρ H xs ys → Rep K ρ H (.fz xs) (.ref a)
inductive Reps (K : PySem.W.Frag) (ρ : List Addr) (H : Hp) : List M → List V → Prop
  | nil : Reps K ρ H [] []
  | cons {x : M} {y : V} {xs : List M} {ys : List V} : Rep K ρ H x y → Reps K ρ H xs ys → Reps K ρ H (x :: xs) (y :: ys)
end
def FR (K : PySem.W.Frag) (ρ : List Addr) (H : Hp) : List (Str × M) → List (Str × V) → Prop
  | [], [] => True
  | (f, x) :: xs, (g, y) :: ys => f = g ∧ Rep K ρ H x y ∧ FR K ρ H xs ys
  | _, _ => False
def OR (K : PySem.W.Frag) (ca : Nat → Addr) (ρ : List Addr) (H : Hp) : MO → Addr → Prop
  | .lst xs, a => ∃ ys, H a = some (.lst ys) ∧ Reps K ρ H xs ys
  | .dct _, _ => False
  | .ins c fs, a => ∃ dx gs, H a = some (.ins (ca c) dx gs) ∧ FR K ρ H fs gs
structure HR (K : PySem.W.Frag) (ca : Nat → Addr) (ρ : List Addr) (h : MH) (H : Hp) : Prop where
  len : ρ.length = h.length
  nd : ρ.Nodup
  ob : ∀ (k : Nat) (o : MO) (a : Addr), h[k]? = some o → ρ[k]? = some a → OR K ca ρ H o a
structure Ext (ρ : List Addr) (H : Hp) (ρ' : List Addr) (H' : Hp) : Prop where
  app : ∃ t, ρ' = ρ ++ t ∧ ∀ a ∈ t, H a = none
  keep : ∀ a o, H a = some o → a ∉ ρ → H' a = some o
def ER (K : PySem.W.Frag) (ρ : List Addr) (H : Hp) (env : Env) (σ : List (Option V)) : Prop :=
  env.length = σ.length ∧ ∀ (i : Nat) (m : M), env[i]? = some (some m) → ∃ v, σ[i]? = some (some v) ∧ Rep K ρ H m v
section
variable {K : PySem.W.Frag} {ca : Nat → Addr} {ρ ρ' ρ1 : List Addr} {h h' : MH} {H H' H1 : Hp} {a : Addr} {k : Nat}
theorem OR.there {o : MO} (r : OR K ca ρ H o a) : ∃ u, H a = some u ∧ ((∃ ys, u = .lst ys) ∨ ∃ C dx fs, u = .ins C dx fs) := by
  cases o with
  | lst xs => obtain ⟨ys, e, _⟩ := r; exact ⟨_, e, .inl ⟨_, rfl⟩⟩
  | dct _ => exact r.elim
  | ins c fs => obtain ⟨dx, gs, e, _⟩ := r; exact ⟨_, e, .inr ⟨_, _, _, rfl⟩⟩
theorem HR.there (r : HR K ca ρ h H) (m : a ∈ ρ) : ∃ u, H a = some u ∧ ((∃ ys, u = .lst ys) ∨ ∃ C dx fs, u = .ins C dx fs) := by
  obtain ⟨k, hk⟩ := List.getElem?_of_mem m
  have hl : k < h.length := by
    have := (List.getElem?_eq_some_iff.mp hk).1
    have := r.len
    omega
  exact (r.ob k h[k] a (List.getElem?_eq_getElem hl) hk).there
theorem HR.notT (r : HR K ca ρ h H) {ys : List V} (e : H a = some (.tup ys)) : a ∉ ρ := fun m => by
  obtain ⟨u, e', d⟩ := r.there m
  rw [e] at e'; cases e'
  rcases d with ⟨_, d⟩ | ⟨_, _, _, d⟩ <;> cases d
theorem HR.notF (r : HR K ca ρ h H) {o : Obj} {u : HO} (e : H a = some (.frz o u)) : a ∉ ρ := fun m => by
  obtain ⟨u, e', d⟩ := r.there m
  rw [e] at e'; cases e'
  rcases d with ⟨_, d⟩ | ⟨_, _, _, d⟩ <;> cases d
theorem HR.fresh (r : HR K ca ρ h H) (e : H a = none) : a ∉ ρ := fun m => by
  obtain ⟨u, e', _⟩ := r.there m
  rw [e] at e'; cases e'
theorem Ext.refl : Ext ρ H ρ H := ⟨⟨[], by simp, by simp⟩, fun _ _ e _ => e⟩
theorem Ext.trans (r1 : HR K ca ρ1 h H1) (x : Ext ρ H ρ1 H1) (y : Ext ρ1 H1 ρ' H') : Ext ρ H ρ' H' := by
  obtain ⟨⟨t, e, ht⟩, k⟩ := x
  obtain ⟨⟨u, e2, hu⟩, k2⟩ := y
  subst e; subst e2
  refine ⟨⟨t ++ u, by simp, fun a m => ?_⟩, fun a o q n => ?_⟩
  · rcases List.mem_append.mp m with m | m
    · exact ht a m
    · cases q : H a with
      | none => rfl
      | some o =>
        have n1 : a ∉ ρ ++ t := r1.fresh (hu a m)
        have := k a o q (fun z => n1 (List.mem_append_left _ z))
        rw [hu a m] at this; cases this
  · refine k2 a o (k a o q n) fun z => ?_
    rcases List.mem_append.mp z with z | z
    · exact n z
    · rw [ht a z] at q; cases q
theorem Ext.sqT (r : HR K ca ρ h H) (x : Ext ρ H ρ' H') {ys : List V} (s : SqT K H a ys) : SqT K H' a ys := by
  rcases s with (s | ⟨o, s⟩) | s
  · exact .inl (.inl (x.keep a _ s (r.notT s)))
  · exact .inl (.inr ⟨o, x.keep a _ s (r.notF s)⟩)
  · exact .inr s
theorem Ext.sqF (r : HR K ca ρ h H) (x : Ext ρ H ρ' H') {ys : List V} (s : SqF K H a ys) : SqF K H' a ys := by
  rcases s with ⟨o, s⟩ | s
  · exact .inl ⟨o, x.keep a _ s (r.notF s)⟩
  · exact .inr s
theorem Ext.ix (x : Ext ρ H ρ' H') (e : ρ[k]? = some a) : ρ'[k]? = some a := by
  obtain ⟨⟨t, rfl, _⟩, _⟩ := x
  rw [List.getElem?_append_left (List.getElem?_eq_some_iff.mp e).1]; exact e
mutual
theorem Rep.mono (r : HR K ca ρ h H) (x : Ext ρ H ρ' H') : ∀ {m : M} {v : V}, Rep K ρ H m v → Rep K ρ' H' m v
  | _, _, .non => .non
  | _, _, .bl b => .bl b
  | _, _, .int i => .int i
  | _, _, .str s => .str s
  | _, _, .tup s q => .tup (x.sqT r s) (Reps.mono r x q)
  | _, _, .ref e => .ref (x.ix e)
  | _, _, .fz s q => .fz (x.sqF r s) (Reps.mono r x q)
theorem Reps.mono (r : HR K ca ρ h H) (x : Ext ρ H ρ' H') : ∀ {m : List M} {v : List V}, Reps K ρ H m v → Reps K ρ' H' m v
  | _, _, .nil => .nil
  | _, _, .cons q t => .cons (Rep.mono r x q) (Reps.mono r x t)
end
theorem FR.mono (r : HR K ca ρ h H) (x : Ext ρ H ρ' H') : ∀ {m : List (Str × M)} {v : List (Str × V)}, FR K ρ H m v → FR K ρ' H' m v
  | [], [], _ => trivial
  | (_, _) :: _, (_, _) :: _, ⟨e, q, t⟩ => ⟨e, q.mono r x, FR.mono r x t⟩
theorem ER.mono (r : HR K ca ρ h H) (x : Ext ρ H ρ' H') {env : Env} {σ : List (Option V)} (e : ER K ρ H env σ) : ER K ρ' H' env σ :=
  ⟨e.1, fun i m q => let ⟨v, e1, e2⟩ := e.2 i m q; ⟨v, e1, e2.mono r x⟩⟩
theorem Reps.length : ∀ {xs : List M} {ys : List V}, Reps K ρ H xs ys → xs.length = ys.length
  | _, _, .nil => rfl
  | _, _, .cons _ t => by simp [Reps.length t]
theorem Reps.get : ∀ {xs : List M} {ys : List V} {i : Nat} {x : M}, Reps K ρ H xs ys → xs[i]? = some x → ∃ y, ys[i]? = some y ∧ Rep K ρ H x y
  | _, _, _, _, .nil, e => by simp at e
  | _, _, 0, _, .cons r _, e => by simp at e; subst e; exact ⟨_, rfl, r⟩
  | _, _, i + 1, x, .cons _ t, e => by
    obtain ⟨y, h1, h2⟩ := Reps.get (i := i) (x := x) t (by simpa using e)
    exact ⟨y, by simpa using h1, h2⟩
theorem Reps.append : ∀ {xs xs' : List M} {ys ys' : List V}, Reps K ρ H xs ys → Reps K ρ H xs' ys' → Reps K ρ H (xs ++ xs') (ys ++ ys')
  | _, _, _, _, .nil, q => q
  | _, _, _, _, .cons r t, q => .cons r (Reps.append t q)
theorem Reps.take : ∀ {xs : List M} {ys : List V} (n : Nat), Reps K ρ H xs ys → Reps K ρ H (xs.take n) (ys.take n)
  | _, _, 0, _ => by simpa using Reps.nil
  | _, _, _ + 1, .nil => by simpa using Reps.nil
  | _, _, n + 1, .cons r t => by simpa using Reps.cons r (Reps.take n t)
theorem Reps.drop : ∀ {xs : List M} {ys : List V} (n : Nat), Reps K ρ H xs ys → Reps K ρ H (xs.drop n) (ys.drop n)
  | _, _, 0, q => by simpa using q
  | _, _, _ + 1, .nil => by simpa using Reps.nil
  | _, _, n + 1, .cons r t => by simpa using Reps.drop n t
theorem Reps.set {m : M} {v : V} (q : Rep K ρ H m v) : ∀ {xs : List M} {ys : List V} (n : Nat), Reps K ρ H xs ys → Reps K ρ H (xs.set n m) (ys.set n v)
  | _, _, _, .nil => .nil
  | _, _, 0, .cons _ t => .cons q t
  | _, _, n + 1, .cons r t => .cons r (Reps.set q n t)
theorem Reps.flat {xs : List M} {ys : List V} (q : Reps K ρ H xs ys) : ∀ n, Reps K ρ H (List.replicate n xs).flatten (List.replicate n ys).flatten
  | 0 => by simpa using Reps.nil
  | n + 1 => by simpa [List.replicate_succ] using q.append (q.flat n)
theorem Reps.snoc {xs : List M} {y : M} : ∀ {ys : List V}, Reps K ρ H (xs ++ [y]) ys → ∃ zs v, ys = zs ++ [v] ∧ Reps K ρ H xs zs ∧ Rep K ρ H y v := by
  induction xs with
  | nil => intro ys q; cases q with | cons r t => cases t; exact ⟨[], _, rfl, .nil, r⟩
  | cons x xs ih =>
    intro ys q
    cases q with
    | cons r t =>
      obtain ⟨zs, v, rfl, a, b⟩ := ih t
      exact ⟨_ :: zs, v, rfl, .cons r a, b⟩
/-- a new object -/
theorem HR.new {p : Addr} {o : MO} {u : HO} (r : HR K ca ρ h H) (hp : H p = none) (no : ∀ ρ' H', Ext ρ H ρ' H' → H' p = some u → OR K ca ρ' H' o p) :
    HR K ca (ρ ++ [p]) (h ++ [o]) (upd H p u) ∧ Ext ρ H (ρ ++ [p]) (upd H p u) := by
  have hn : p ∉ ρ := r.fresh hp
  have x : Ext ρ H (ρ ++ [p]) (upd H p u) := ⟨⟨[p], rfl, fun a m => by simp at m; subst m; exact hp⟩, fun a o e n => by rw [upd_ne (ne_of_none e hp)]; exact e⟩
  refine ⟨⟨by simp [r.len], ?_, ?_⟩, x⟩
  · rw [List.nodup_append]
    exact ⟨r.nd, by simp, fun a ha b hb => by simp at hb; subst hb; rintro rfl; exact hn ha⟩
  · intro k o' a hk ha
    by_cases hl : k < ρ.length
    · rw [List.getElem?_append_left hl] at ha
      rw [List.getElem?_append_left (by rw [← r.len]; exact hl)] at hk
      have q := r.ob k o' a hk ha
      have ne : a ≠ p := fun z => hn (z ▸ List.mem_of_getElem? ha)
      cases o' with
      | lst xs => obtain ⟨ys, e, t⟩ := q; exact ⟨ys, by rw [upd_ne ne]; exact e, t.mono r x⟩
      | dct _ => exact q.elim
      | ins c fs => obtain ⟨dx, gs, e, t⟩ := q; exact ⟨dx, gs, by rw [upd_ne ne]; exact e, FR.mono r x t⟩
    · have e1 : k = ρ.length := by
        have := (List.getElem?_eq_some_iff.mp ha).1
        simp at this; omega
      subst e1
      rw [List.getElem?_append_right (Nat.le_refl _)] at ha
      rw [r.len, List.getElem?_append_right (Nat.le_refl _)] at hk
      simp at ha hk
      subst ha; subst hk
      exact no _ _ x upd_same
/-- an object changed -/
theorem HR.put {o o' : MO} {u : HO} (r : HR K ca ρ h H) (hk : h[k]? = some o) (ha : ρ[k]? = some a) (no : ∀ H', Ext ρ H ρ H' → H' a = some u → OR K ca ρ H' o' a) :
    HR K ca ρ (h.set k o') (upd H a u) ∧ Ext ρ H ρ (upd H a u) := by
  have hm : a ∈ ρ := List.mem_of_getElem? ha
  have x : Ext ρ H ρ (upd H a u) := ⟨⟨[], by simp, by simp⟩, fun b o e n => by rw [upd_ne (fun z : b = a => n (by rw [z]; exact hm))]; exact e⟩
  refine ⟨⟨by simp [r.len], r.nd, ?_⟩, x⟩
  intro j p b hj hb
  by_cases e : j = k
  · subst e
    rw [ha] at hb; cases hb
    have hl : j < h.length := (List.getElem?_eq_some_iff.mp hk).1
    rw [List.getElem?_set_self hl] at hj; cases hj
    exact no _ x upd_same
  · rw [List.getElem?_set_ne (Ne.symm e)] at hj
    have q := r.ob j p b hj hb
    have ne : b ≠ a := fun z => e (by
      subst z
      obtain ⟨h1, e1⟩ := List.getElem?_eq_some_iff.mp ha
      obtain ⟨h2, e2⟩ := List.getElem?_eq_some_iff.mp hb
      exact (List.getElem_inj r.nd).mp (e2.trans e1.symm))
    cases p with
    | lst xs => obtain ⟨ys, e, t⟩ := q; exact ⟨ys, by rw [upd_ne ne]; exact e, t.mono r x⟩
    | dct _ => exact q.elim
    | ins c fs => obtain ⟨dx, gs, e, t⟩ := q; exact ⟨dx, gs, by rw [upd_ne ne]; exact e, FR.mono r x t⟩
/-- a new tuple -/
theorem HR.newT {p : Addr} {ys : List V} (r : HR K ca ρ h H) (hp : H p = none) :
    HR K ca ρ h (upd H p (.tup ys)) ∧ Ext ρ H ρ (upd H p (.tup ys)) := by
  have hn : p ∉ ρ := r.fresh hp
  have x : Ext ρ H ρ (upd H p (.tup ys)) := ⟨⟨[], by simp, by simp⟩, fun a o e n => by rw [upd_ne (ne_of_none e hp)]; exact e⟩
  refine ⟨⟨r.len, r.nd, fun k o' a hk ha => ?_⟩, x⟩
  have q := r.ob k o' a hk ha
  have ne : a ≠ p := fun z => hn (z ▸ List.mem_of_getElem? ha)
  cases o' with
  | lst xs => obtain ⟨ys, e, t⟩ := q; exact ⟨ys, by rw [upd_ne ne]; exact e, t.mono r x⟩
  | dct _ => exact q.elim
  | ins c fs => obtain ⟨dx, gs, e, t⟩ := q; exact ⟨dx, gs, by rw [upd_ne ne]; exact e, FR.mono r x t⟩
theorem HR.lst {xs : List M} (r : HR K ca ρ h H) (hk : h[k]? = some (.lst xs)) (ha : ρ[k]? = some a) : ∃ ys, H a = some (.lst ys) ∧ Reps K ρ H xs ys := r.ob k _ a hk ha
theorem getL_lst {xs : List M} (e : getL h k = some xs) : h[k]? = some (.lst xs) := by
  unfold getL at e
  cases q : h[k]? with
  | none => rw [q] at e; simp at e
  | some o => rw [q] at e; cases o <;> simp at e; subst e; rfl
theorem getL_of {xs : List M} (e : h[k]? = some (.lst xs)) : getL h k = some xs := by unfold getL; rw [e]
theorem ER.get {env : Env} {σ : List (Option V)} {i : Nat} {m : M} (e : ER K ρ H env σ) (q : env[i]? = some (some m)) : ∃ v, σ[i]? = some (some v) ∧ Rep K ρ H m v := e.2 i m q
theorem ER.set {env : Env} {σ : List (Option V)} {i : Nat} {m : M} {v : V} (e : ER K ρ H env σ) (q : Rep K ρ H m v) : ER K ρ H (env.set i (some m)) (σ.set i (some v)) := by
  refine ⟨by simp [e.1], fun j x hx => ?_⟩
  by_cases hj : i = j
  · subst hj
    by_cases hl : i < env.length
    · rw [List.getElem?_set_self hl] at hx
      cases hx
      exact ⟨v, by rw [List.getElem?_set_self (by rw [← e.1]; exact hl)], q⟩
    · rw [List.getElem?_eq_none (by simp; omega)] at hx; cases hx
  · rw [List.getElem?_set_ne hj] at hx
    obtain ⟨w, e1, e2⟩ := e.2 j x hx
    exact ⟨w, by rw [List.getElem?_set_ne hj]; exact e1, e2⟩
theorem ER.wiped {env : Env} {σ : List (Option V)} (e : ER K ρ H env σ) : ∀ vs : List Nat, ER K ρ H (wipeE env vs) (wipe σ vs)
  | [] => e
  | i :: vs => by
    have ih := e.wiped vs
    refine ⟨by simp [wipeE, L2.wipe, ih.1], fun j x hx => ?_⟩
    unfold wipeE at hx
    unfold L2.wipe
    by_cases hj : i = j
    · subst hj
      by_cases hl : i < (wipeE env vs).length
      · rw [List.getElem?_set_self hl] at hx; cases hx
      · rw [List.getElem?_eq_none (by simp; omega)] at hx; cases hx
    · rw [List.getElem?_set_ne hj] at hx
      obtain ⟨w, e1, e2⟩ := ih.2 j x hx
      exact ⟨w, by rw [List.getElem?_set_ne hj]; exact e1, e2⟩
end
end Wg
open PySem PySem.Spec PyProof.Rows
set_option linter.all false
set_option Elab.async false
namespace Wg
open L2
/-! ### the operators' rules, over small values -/
structure Ads where
  fa : Nat → Addr
  ca : Nat → Addr
  xa : Nat → Addr
def XR (A : Ads) (K : PySem.W.Frag) (ρ : List Addr) (H : Hp) (x : Exn) (c : Value) (d : Option Addr) : Prop :=
  c = .ref (A.xa x.cls) ∧ (x.fs ≠ [] → ∃ a gs, d = some a ∧ H a = some (.xd gs) ∧ FR K ρ H x.fs gs)
section
variable (A : Ads) (K : PySem.W.Frag)
def QOK (ρ : List Addr) (H : Hp) (Qm : QE) (Q : VK) : Prop := ∀ v h', Qm v h' → ∀ ρ' H' v', Ext ρ H ρ' H' → HR K A.ca ρ' h' H' → Rep K ρ' H' v v' → Q v' H'
def BOK (ρ : List Addr) (H : Hp) (Qm : Bool → MH → Prop) (Q : Bool → Hp → Prop) : Prop := ∀ b h', Qm b h' → ∀ ρ' H', Ext ρ H ρ' H' → HR K A.ca ρ' h' H' → Q b H'
def XOK (ρ : List Addr) (H : Hp) (σ : List (Option V)) (Xm : Exn → MH → Prop) (W : WX) : Prop :=
  ∀ x h', Xm x h' → ∀ ρ' H' c d, Ext ρ H ρ' H' → HR K A.ca ρ' h' H' → XR A K ρ' H' x c d → W c d σ H'
def rB (op : Operator) : R2 := fun x y H Q => ∃ ρ h a b Qm, HR K A.ca ρ h H ∧ Rep K ρ H a x ∧ Rep K ρ H b y ∧ binR op a b h Qm ∧ QOK A K ρ H Qm Q
def rC (op : CmpOp) : R2 := fun x y H Q => ∃ ρ h a b Qm, HR K A.ca ρ h H ∧ Rep K ρ H a x ∧ Rep K ρ H b y ∧ cmpR op a b h Qm ∧ ∀ k h', Qm k h' → ∀ ρ' H', Ext ρ H ρ' H' → HR K A.ca ρ' h' H' → Q (.bl k) H'
end
section
variable {A : Ads} {K : PySem.W.Frag} {ρ ρ' ρ1 : List Addr} {h h' h1 : MH} {H H' H1 : Hp} {Qm : QE} {Q : VK}
theorem QOK.mono (r1 : HR K A.ca ρ1 h1 H1) (x : Ext ρ H ρ1 H1) (q : QOK A K ρ H Qm Q) : QOK A K ρ1 H1 Qm Q := fun v h' qm ρ' H' v' x' r' => q v h' qm ρ' H' v' (x.trans r1 x') r'
theorem XOK.mono {σ : List (Option V)} {Xm : Exn → MH → Prop} {W : WX} (r1 : HR K A.ca ρ1 h1 H1) (x : Ext ρ H ρ1 H1) (q : XOK A K ρ H σ Xm W) : XOK A K ρ1 H1 σ Xm W := fun v h' qm ρ' H' c d x' r' => q v h' qm ρ' H' c d (x.trans r1 x') r'
theorem QOK.here {v : M} {v' : V} (q : QOK A K ρ H Qm Q) (r : HR K A.ca ρ h H) (qm : Qm v h) (e : Rep K ρ H v v') : Q v' H := q v h qm ρ H v' .refl r e
theorem QOK.newT {xs : List M} {ys : List V} {p : Addr} (q : QOK A K ρ H Qm Q) (r : HR K A.ca ρ h H) (qm : Qm (.tup xs) h) (e : Reps K ρ H xs ys) (hp : H p = none) : Q (.ref p) (upd H p (.tup ys)) := by
  obtain ⟨r', x⟩ := r.newT (ys := ys) hp
  exact q _ h qm ρ _ _ x r' (.tup (.of upd_same) (e.mono r x))
theorem QOK.newL {xs : List M} {ys : List V} {p : Addr} (q : QOK A K ρ H Qm Q) (r : HR K A.ca ρ h H) (qm : Qm (.ref h.length) (h ++ [.lst xs])) (e : Reps K ρ H xs ys) (hp : H p = none) : Q (.ref p) (upd H p (.lst ys)) := by
  obtain ⟨r', x⟩ := r.new (o := .lst xs) hp fun ρ' H' x e' => ⟨ys, e', e.mono r x⟩
  refine q _ _ qm _ _ _ x r' (.ref ?_)
  rw [← r.len, List.getElem?_append_right (Nat.le_refl _)]; simp
theorem QOK.putL {v : M} {v' : V} {xs xs' : List M} {ys' : List V} {k : Nat} {a : Addr} (q : QOK A K ρ H Qm Q) (r : HR K A.ca ρ h H) (hk : h[k]? = some (.lst xs)) (ha : ρ[k]? = some a)
    (qm : Qm v (h.set k (.lst xs'))) (e : Rep K ρ H v v') (e' : Reps K ρ H xs' ys') : Q v' (upd H a (.lst ys')) := by
  obtain ⟨r', x⟩ := r.put (o' := .lst xs') hk ha fun H' x z => ⟨ys', z, e'.mono r x⟩
  exact q v _ qm ρ _ v' x r' (e.mono r x)
theorem mkS_length (x : List Nat) : (mkS x).length = x.length := by simp [mkS, Str.length]
theorem mkS_append (x y : List Nat) : mkS x ++ mkS y = mkS (x ++ y) := by
  show (⟨_⟩ : Str) = ⟨_⟩
  simp [mkS]
theorem tl_mkS (x : List Nat) : TL.tl (mkS x) = x := TL.tl_mk x
theorem mkS_tl (x : Str) : mkS (TL.tl x) = x := TL.mk_tl x
theorem ixN_get {n : Nat} {i : Int} {j : Nat} (h : ixN n i = some j) : j < n := (ixN_seq h).2.1
theorem atI_rep {xs : List M} {ys : List V} {i : Int} {v : M} (q : Reps K ρ H xs ys) (e : atI xs i = some v) : ∃ u, atI ys i = some u ∧ Rep K ρ H v u := by
  unfold atI at e ⊢
  rw [← q.length]
  cases z : ixN xs.length i with
  | none => rw [z] at e; cases e
  | some j =>
    rw [z] at e
    exact q.get e
theorem cut_rep {xs : List M} {ys : List V} (q : Reps K ρ H xs ys) (lo hi : Option Int) : Reps K ρ H (cutL xs lo hi) (cutV ys lo hi) := by
  unfold cutL cutV
  rw [← q.length]
  exact (q.drop _).take _
variable {X : Cx}
theorem op_bin (op : Operator) : OpR X (binaryOp op) (rB A X.K op) := by
  intro pins s σ H x y v u Q I rx ry ⟨ρ, h, a, b, Qm, r, ra, rb, m, q⟩
  unfold binR at m
  split at m
  · cases ra; cases rb
    exact op_add pins s σ H _ _ v u Q I rx ry ⟨_, _, rfl, rfl, q.here r m (.int _)⟩
  · cases ra; cases rb
    exact op_add_str pins s σ H _ _ v u Q I rx ry ⟨_, _, rfl, rfl, by rw [mkS_length, mkS_length]; exact m.1, by rw [mkS_append]; exact q.here r m.2 (.str _)⟩
  · cases ra with | tup sa qa =>
    cases rb with | tup sb qb =>
    refine op_catA pins s σ H _ _ v u Q I rx ry ⟨_, _, _, _, rfl, rfl, sa, sb, by rw [← qa.length, ← qb.length]; exact m.1, fun z => ?_, fun z1 z2 => ?_, fun z1 z2 p hp => ?_⟩
    · subst z; cases qa
      exact q.here r m.2 (.tup sb qb)
    · subst z2; cases qb
      exact q.here r m.2 (.tup sa (by simpa using qa))
    · exact q.newT r m.2 (qa.append qb) hp
  · cases ra with | ref ea =>
    cases rb with | ref eb =>
    obtain ⟨xs, ys, hx, hy, hz, m⟩ := m
    obtain ⟨us, e1, q1⟩ := r.lst hx ea
    obtain ⟨ws, e2, q2⟩ := r.lst hy eb
    exact op_cat pins s σ H _ _ v u Q I rx ry ⟨_, _, _, _, rfl, rfl, e1, e2, by rw [← q1.length, ← q2.length]; exact hz, fun p hp => q.newL r m (q1.append q2) hp⟩
  · cases ra; cases rb
    exact op_sub pins s σ H _ _ v u Q I rx ry ⟨_, _, rfl, rfl, q.here r m (.int _)⟩
  · cases ra; cases rb
    obtain ⟨ok | ok, m⟩ := m
    · exact op_mul pins s σ H _ _ v u Q I rx ry ⟨_, _, rfl, rfl, ok, q.here r m (.int _)⟩
    · exact op_mulW pins s σ H _ _ v u Q I rx ry ⟨_, _, rfl, rfl, ok, q.here r m (.int _)⟩
  · cases ra with | ref ea =>
    cases rb
    obtain ⟨xs, hx, h1, h2, hz, m⟩ := m
    obtain ⟨us, e1, q1⟩ := r.lst hx ea
    exact op_rep pins s σ H _ _ v u Q I rx ry ⟨_, _, _, rfl, rfl, e1, h1, h2, by rw [← q1.length]; exact hz, fun p hp => q.newL r m (q1.flat _) hp⟩
  · cases ra; cases rb
    exact op_fdivW pins s σ H _ _ v u Q I rx ry ⟨_, _, rfl, rfl, m.1, q.here r m.2 (.int _)⟩
  · cases ra; cases rb
    exact op_mod pins s σ H _ _ v u Q I rx ry ⟨_, _, rfl, rfl, m.1, q.here r m.2 (.int _)⟩
  · cases ra; cases rb
    exact op_pow pins s σ H _ _ v u Q I rx ry ⟨_, _, rfl, rfl, m.1, q.here r m.2 (.int _)⟩
  · cases ra; cases rb
    exact op_shl pins s σ H _ _ v u Q I rx ry ⟨_, _, rfl, rfl, m.1, q.here r m.2 (.int _)⟩
  · exact m.elim
/-! equality -/
mutual
def M.toD : M → PyData
  | .non => .none
  | .bl b => .bool b
  | .int i => .int i
  | .str x => .str (mkS x)
  | .tup xs => .tuple (M.toDs xs)
  | .ref _ => .none
  | .fz _ => .none
def M.toDs : List M → List PyData
  | [] => []
  | x :: xs => M.toD x :: M.toDs xs
end
theorem toDs_length : ∀ xs : List M, (M.toDs xs).length = xs.length
  | [] => rfl
  | _ :: xs => by simp [M.toDs, toDs_length xs]
mutual
theorem dt_eqv : ∀ (n : Nat) (a b : M), M.dt n a = true → M.dt n b = true → PyData.eqv a.toD b.toD = decide (a = b)
  | n, .non, b, _, hb => by cases n <;> cases b <;> simp_all [M.dt, M.toD, PyData.eqv]
  | n, .bl _, b, ha, _ => by cases n <;> simp [M.dt] at ha
  | n, .int i, b, _, hb => by
    cases n <;> cases b <;> simp_all [M.dt, M.toD, PyData.eqv, Bool.beq_eq_decide_eq]
  | n, .str x, b, ha, hb => by
    have e : ∀ y : List Nat, (mkS x == mkS y) = decide (x = y) := fun y => by
      by_cases z : x = y
      · subst z; simp
      · rw [decide_eq_false z]; exact beq_eq_false_iff_ne.mpr fun w => z (mkS_inj.mp w)
    cases n <;> cases b <;> simp_all [M.dt, M.toD, PyData.eqv]
  | n, .ref _, b, ha, _ => by cases n <;> simp [M.dt] at ha
  | n, .fz _, b, ha, _ => by cases n <;> simp [M.dt] at ha
  | 0, .tup _, b, ha, _ => by simp [M.dt] at ha
  | n + 1, .tup xs, b, ha, hb => by
    cases b with
    | tup ys =>
      simp only [M.dt] at ha hb
      simp only [M.toD, PyData.eqv]
      rw [dt_eqvs n xs ys ha hb]
      simp
    | non => simp [M.toD, PyData.eqv]
    | int _ => simp [M.toD, PyData.eqv]
    | str _ => simp [M.toD, PyData.eqv]
    | bl _ => simp [M.dt] at hb
    | ref _ => simp [M.dt] at hb
    | fz _ => simp [M.dt] at hb
theorem dt_eqvs : ∀ (n : Nat) (a b : List M), a.all (M.dt n) = true → b.all (M.dt n) = true → PyData.eqvAll (M.toDs a) (M.toDs b) = decide (a = b)
  | n, [], [], _, _ => by simp [M.toDs, PyData.eqvAll]
  | n, [], y :: ys, _, _ => by simp [M.toDs, PyData.eqvAll]
  | n, x :: xs, [], _, _ => by simp [M.toDs, PyData.eqvAll]
  | n, x :: xs, y :: ys, ha, hb => by
    simp only [List.all_cons, Bool.and_eq_true] at ha hb
    simp only [M.toDs, PyData.eqvAll, dt_eqv n x y ha.1 hb.1, dt_eqvs n xs ys ha.2 hb.2]
    by_cases e1 : x = y <;> by_cases e2 : xs = ys <;> simp [e1, e2]
end
mutual
theorem dt_shape : ∀ (n : Nat) (a : M), M.dt n a = true → PyData.canLay0 a.toD = true ∧ PyData.depth a.toD ≤ n + 1
  | n, .non, _ => by simp [M.toD, PyData.canLay0, PyData.depth]
  | n, .bl _, ha => by cases n <;> simp [M.dt] at ha
  | n, .int i, _ => by simp [M.toD, PyData.canLay0, PyData.depth]
  | n, .str x, ha => by
    have : PyData.strOk (mkS x) = true := by cases n <;> simpa [M.dt] using ha
    simp [M.toD, PyData.canLay0, PyData.depth, this]
  | n, .ref _, ha => by cases n <;> simp [M.dt] at ha
  | n, .fz _, ha => by cases n <;> simp [M.dt] at ha
  | 0, .tup _, ha => by simp [M.dt] at ha
  | n + 1, .tup xs, ha => by
    have := dt_shapes n xs (by simpa [M.dt] using ha)
    simp only [M.toD, PyData.canLay0, PyData.depth]
    exact ⟨this.1, by omega⟩
theorem dt_shapes : ∀ (n : Nat) (a : List M), a.all (M.dt n) = true → PyData.canLayAll0 (M.toDs a) = true ∧ PyData.depthAll (M.toDs a) ≤ n + 1
  | n, [], _ => by simp [M.toDs, PyData.canLayAll0, PyData.depthAll]
  | n, x :: xs, ha => by
    simp only [List.all_cons, Bool.and_eq_true] at ha
    have h1 := dt_shape n x ha.1
    have h2 := dt_shapes n xs ha.2
    simp only [M.toDs, PyData.canLayAll0, PyData.depthAll]
    refine ⟨by simp [h1.1, h2.1], by omega⟩
end
mutual
theorem dt_Dp : ∀ {a : M} {v : V} (n : Nat), M.dt n a = true → Rep K ρ H a v → Dp K H v a.toD
  | _, _, _, _, .non => .non
  | _, _, _, _, .bl b => .bl b
  | _, _, _, _, .int i => .int i
  | _, _, _, _, .str x => .str _
  | _, _, 0, ha, .tup s q => by simp [M.dt] at ha
  | _, _, n + 1, ha, .tup s q => .tup s (dt_Dps n (by simpa [M.dt] using ha) q)
  | _, _, n, ha, .ref e => by cases n <;> simp [M.dt] at ha
  | _, _, n, ha, .fz e q => by cases n <;> simp [M.dt] at ha
theorem dt_Dps : ∀ {a : List M} {v : List V} (n : Nat), a.all (M.dt n) = true → Reps K ρ H a v → DpAll K H v (M.toDs a)
  | _, _, _, _, .nil => .nil
  | _, _, n, ha, .cons q t => by
    simp only [List.all_cons, Bool.and_eq_true] at ha
    exact .cons (dt_Dp n ha.1 q) (dt_Dps n ha.2 t)
end
theorem dt_ok {a : M} (ha : M.dt 60 a = true) : SeqAt.shaped a.toD = true := by
  have := dt_shape 60 a ha
  unfold SeqAt.shaped
  rw [Bool.and_eq_true, decide_eq_true_eq]
  exact ⟨this.1, by omega⟩
theorem dts_ok {a : List M} (ha : a.all (M.dt 60) = true) : SeqAt.shaped (.list (M.toDs a)) = true := by
  have := dt_shapes 60 a ha
  unfold SeqAt.shaped
  rw [Bool.and_eq_true, decide_eq_true_eq]
  simp only [PyData.canLay0, PyData.depth]
  exact ⟨this.1, by omega⟩
/-- what the two stand for, and the answer -/
theorem eq_cases {a b : M} {x y : V} {k : Bool} (r : HR K A.ca ρ h H) (ra : Rep K ρ H a x) (rb : Rep K ρ H b y) (e : eqV h a b = some k) :
    (scal x y = true ∧ k = decide (x = y)) ∨ ∃ d d', Dp K H x d ∧ Dp K H y d' ∧ SeqAt.shaped d = true ∧ SeqAt.shaped d' = true ∧ PyData.eqv d d' = k := by
  unfold eqV at e
  split at e
  · cases ra with | ref ea =>
    cases rb with | ref eb =>
    split at e
    · rename_i xs ys hx hy
      split at e
      · rename_i hd
        rw [Bool.and_eq_true] at hd
        cases e
        obtain ⟨us, e1, q1⟩ := r.lst hx ea
        obtain ⟨ws, e2, q2⟩ := r.lst hy eb
        refine .inr ⟨.list (M.toDs xs), .list (M.toDs ys), .lst (.of e1) (dt_Dps 60 hd.1 q1), .lst (.of e2) (dt_Dps 60 hd.2 q2), dts_ok hd.1, dts_ok hd.2, ?_⟩
        rw [PyData.eqv]; exact dt_eqvs 60 _ _ hd.1 hd.2
      · cases e
    · cases e
  · cases ra; cases rb; cases e
    exact .inl ⟨rfl, by simp⟩
  · cases ra; cases rb; cases e
    exact .inl ⟨rfl, by simp [mkS_inj]⟩
  · split at e
    · rename_i hd
      rw [Bool.and_eq_true] at hd
      cases e
      exact .inr ⟨_, _, dt_Dp 60 hd.1 ra, dt_Dp 60 hd.2 rb, dt_ok hd.1, dt_ok hd.2, dt_eqv 60 _ _ hd.1 hd.2⟩
    · cases e
theorem flat_rep {a : M} {x : V} (f : flatM a = true) (ra : Rep K ρ H a x) : flatV x = true := by
  cases ra <;> simp_all [flatM, flatV]
theorem flats_rep : ∀ {a : List M} {x : List V}, a.all flatM = true → Reps K ρ H a x → x.all flatV = true
  | _, _, _, .nil => rfl
  | _, _, f, .cons q t => by
    simp only [List.all_cons, Bool.and_eq_true] at f ⊢
    exact ⟨flat_rep f.1 q, flats_rep f.2 t⟩
theorem eqV_flat {a b : M} {x y : V} (fa : flatM a = true) (fb : flatM b = true) (ra : Rep K ρ H a x) (rb : Rep K ρ H b y) : L2.eqV y x = decide (a = b) := by
  cases ra <;> simp [flatM] at fa <;> cases rb <;> simp [flatM] at fb <;> simp [L2.eqV, eq_comm, Bool.beq_eq_decide_eq, mkS_inj]
theorem inV_flat {a : M} {x : V} (fa : flatM a = true) (ra : Rep K ρ H a x) : ∀ {bs : List M} {ys : List V}, bs.all flatM = true → Reps K ρ H bs ys → L2.inV x ys = decide (a ∈ bs)
  | _, _, _, .nil => by simp [L2.inV]
  | _, _, f, .cons q t => by
    simp only [List.all_cons, Bool.and_eq_true] at f
    have ih := inV_flat fa ra f.2 t
    unfold L2.inV at ih ⊢
    rw [List.any_cons, ih, eqV_flat fa f.1 ra q]
    simp [List.mem_cons]
theorem in_cases {a b : M} {x y : V} {k : Bool} (r : HR K A.ca ρ h H) (ra : Rep K ρ H a x) (rb : Rep K ρ H b y) (e : inV h a b = some k) :
    ∃ p ys, y = .ref p ∧ (SqL K H p ys ∨ SqT K H p ys) ∧ flatV x = true ∧ ys.all flatV = true ∧ L2.inV x ys = k := by
  unfold inV at e
  split at e
  · cases rb with | tup s q =>
    split at e
    · rename_i hd
      rw [Bool.and_eq_true] at hd
      cases e
      exact ⟨_, _, rfl, .inr s, flat_rep hd.1 ra, flats_rep hd.2 q, inV_flat hd.1 ra hd.2 q⟩
    · cases e
  · cases rb with | ref eb =>
    split at e
    · rename_i zs hz
      split at e
      · rename_i hd
        rw [Bool.and_eq_true] at hd
        cases e
        obtain ⟨us, e1, q1⟩ := r.lst (getL_lst hz) eb
        exact ⟨_, _, rfl, .inl (.of e1), flat_rep hd.1 ra, flats_rep hd.2 q1, inV_flat hd.1 ra hd.2 q1⟩
      · cases e
    · cases e
  · cases e
theorem non_iff {a : M} {x : V} (ra : Rep K ρ H a x) : decide (x = V.non) = decide (a = M.non) := by
  cases ra <;> simp
theorem op_cmp (hu : X.A.units + 64 < cLine) (op : CmpOp) : OpR X (compareOp op) (rC A X.K op) := by
  intro pins s σ H x y v u Q I rx ry ⟨ρ, h, a, b, Qm, r, ra, rb, m, q⟩
  unfold cmpR at m
  split at m
  · obtain ⟨k, e, m⟩ := m
    have qq := q k h m ρ H .refl r
    rcases eq_cases r ra rb e with ⟨z, rfl⟩ | ⟨d, d', h1, h2, h3, h4, rfl⟩
    · exact op_eq pins s σ H _ _ v u Q I rx ry ⟨z, qq⟩
    · exact op_eqD hu pins s σ H _ _ v u Q I rx ry ⟨d, d', h1, h2, h3, h4, qq⟩
  · obtain ⟨k, e, m⟩ := m
    have qq := q _ h m ρ H .refl r
    rcases eq_cases r ra rb e with ⟨z, rfl⟩ | ⟨d, d', h1, h2, h3, h4, rfl⟩
    · exact op_ne pins s σ H _ _ v u Q I rx ry ⟨z, qq⟩
    · exact op_neD hu pins s σ H _ _ v u Q I rx ry ⟨d, d', h1, h2, h3, h4, qq⟩
  · cases ra; cases rb
    exact op_lt pins s σ H _ _ v u Q I rx ry ⟨_, _, rfl, rfl, q _ h m ρ H .refl r⟩
  · cases ra; cases rb
    exact op_le pins s σ H _ _ v u Q I rx ry ⟨_, _, rfl, rfl, q _ h m ρ H .refl r⟩
  · cases ra; cases rb
    exact op_gt pins s σ H _ _ v u Q I rx ry ⟨_, _, rfl, rfl, q _ h m ρ H .refl r⟩
  · cases ra; cases rb
    exact op_ge pins s σ H _ _ v u Q I rx ry ⟨_, _, rfl, rfl, q _ h m ρ H .refl r⟩
  · cases rb
    exact op_isN pins s σ H _ _ v u Q I rx ry ⟨rfl, by rw [non_iff ra]; exact q _ h m ρ H .refl r⟩
  · cases rb
    exact op_notN pins s σ H _ _ v u Q I rx ry ⟨rfl, by rw [non_iff ra]; exact q _ h m ρ H .refl r⟩
  · obtain ⟨k, e, m⟩ := m
    obtain ⟨p, ys, rfl, h1, h2, h3, rfl⟩ := in_cases r ra rb e
    exact op_in_seq pins s σ H _ _ v u Q I rx ry ⟨p, ys, rfl, h1, h2, h3, q _ h m ρ H .refl r⟩
  · obtain ⟨k, e, m⟩ := m
    obtain ⟨p, ys, rfl, h1, h2, h3, rfl⟩ := in_cases r ra rb e
    exact op_notIn_seq pins s σ H _ _ v u Q I rx ry ⟨p, ys, rfl, h1, h2, h3, q _ h m ρ H .refl r⟩
  · exact m.elim
theorem truV_rep {a : M} {x : V} {k : Bool} (r : HR K A.ca ρ h H) (ra : Rep K ρ H a x) (e : truV h a = some k) : TruV K x H k := by
  unfold truV at e
  split at e
  · cases ra; cases e; rfl
  · cases ra; cases e; rfl
  · cases ra; cases e; simp [TruV, bne, Bool.beq_eq_decide_eq]
  · cases ra
    split at e
    · rename_i hz
      cases e
      refine ⟨by rw [mkS_length]; exact hz, ?_⟩
      rw [mkS_length]
      rename_i x
      cases x <;> simp [bne, Bool.beq_eq_decide_eq]
      omega
    · cases e
  · cases ra with | tup s q =>
    cases e
    refine .inr (.inl ⟨_, s, ?_⟩)
    cases q <;> simp
  · cases e
  · cases ra with | ref ea =>
    split at e
    · rename_i xs hx
      cases e
      obtain ⟨us, e1, q1⟩ := r.lst hx ea
      refine .inl ⟨_, .of e1, ?_⟩
      cases q1 <;> simp
    · cases e
/-! items, slices -/
def rX (A : Ads) (K : PySem.W.Frag) : R2 := fun x y H Q => ∃ ρ h a b Qm, HR K A.ca ρ h H ∧ Rep K ρ H a x ∧ Rep K ρ H b y ∧ idxR a b h Qm ∧ QOK A K ρ H Qm Q
theorem ix_all : IxR X (rX A X.K) := by
  intro va sl pins s σ H x y v u Q I rx ry ⟨ρ, h, a, b, Qm, r, ra, rb, m, q⟩
  unfold idxR at m
  split at m
  · cases ra with | tup sa qa =>
    cases rb
    obtain ⟨v', e, m⟩ := m
    obtain ⟨w, e2, qw⟩ := atI_rep qa e
    exact ix_tup va sl pins s σ H _ _ v u Q I rx ry ⟨_, _, _, _, rfl, rfl, sa, e2, q.here r m qw⟩
  · cases ra with | fz sa qa =>
    cases rb
    obtain ⟨v', e, m⟩ := m
    obtain ⟨w, e2, qw⟩ := atI_rep qa e
    exact ix_list va sl pins s σ H _ _ v u Q I rx ry ⟨_, _, _, _, rfl, rfl, sa.sq, e2, q.here r m qw⟩
  · cases ra; cases rb
    obtain ⟨hz, c, e, m⟩ := m
    refine ix_str va sl pins s σ H _ _ v u Q I rx ry ⟨_, _, c, rfl, rfl, by rw [mkS_length]; exact hz, ?_, q.here r m (.str [c])⟩
    show atI (TL.tl (mkS _)) _ = _
    rw [tl_mkS]; exact e
  · cases ra with | ref ea =>
    cases rb
    obtain ⟨xs, v', hx, e, m⟩ := m
    obtain ⟨us, e1, q1⟩ := r.lst (getL_lst hx) ea
    obtain ⟨w, e2, qw⟩ := atI_rep q1 e
    exact ix_list va sl pins s σ H _ _ v u Q I rx ry ⟨_, _, _, _, rfl, rfl, .of e1, e2, q.here r m qw⟩
  · exact m.elim
def rS (A : Ads) (K : PySem.W.Frag) : V → Option Int → Option Int → Hp → VK → Prop := fun x lo hi H Q => ∃ ρ h a Qm, HR K A.ca ρ h H ∧ Rep K ρ H a x ∧ slcR a lo hi h Qm ∧ QOK A K ρ H Qm Q
end
end Wg
open PySem PySem.Spec PyProof.Rows
set_option linter.all false
set_option Elab.async false
namespace Wg
open L2
section
variable {A : Ads} {K : PySem.W.Frag} {ρ ρ' ρ1 : List Addr} {h h' h1 : MH} {H H' H1 : Hp} {Qm : QE} {Q : VK} {X : Cx}
theorem cut_whole {α : Type} {xs : List α} {n : Nat} {lo hi : Option Int} (e : xs.length = n) (z : HT.sIx n 0 lo = 0 ∧ HT.sIx n n hi = n) : cutL xs lo hi = xs := by
  unfold cutL
  rw [e, z.1, z.2, List.drop_zero, Nat.sub_zero, ← e, List.take_length]
theorem cutS_mk (z : List Nat) (lo hi : Option Int) : cutS (mkS z) lo hi = mkS (cutL z lo hi) := by
  unfold cutS cutL
  rw [mkS_length]
  rfl
theorem sl_all : SlR X (rS A X.K) := by
  intro pins s σ H x v vl vu lo hi sl Q I rx hs pl pu ⟨ρ, h, a, Qm, r, ra, m, q⟩
  unfold slcR at m
  split at m
  · cases ra with | tup sa qa =>
    refine sl_tupA pins s σ H _ v vl vu lo hi sl Q I rx hs pl pu ⟨_, _, rfl, sa, fun z => ?_, fun z p hp => q.newT r m (cut_rep qa lo hi) hp⟩
    rw [cut_whole qa.length z] at m
    exact q.here r m (.tup sa qa)
  · cases ra
    refine sl_str pins s σ H _ v vl vu lo hi sl Q I rx hs pl pu ⟨_, rfl, by rw [mkS_length]; exact m.1, ?_⟩
    rw [cutS_mk]
    exact q.here r m.2 (.str _)
  · cases ra with | ref ea =>
    obtain ⟨xs, hx, m⟩ := m
    obtain ⟨us, e1, q1⟩ := r.lst (getL_lst hx) ea
    exact sl_list pins s σ H _ v vl vu lo hi sl Q I rx hs pl pu ⟨_, _, rfl, .of e1, fun p hp => q.newL r m (cut_rep q1 lo hi) hp⟩
  · exact m.elim
/-! built-in functions -/
def rP (A : Ads) (K : PySem.W.Frag) (p : Pm) : List V → Hp → VK → Prop := fun vs H Q => ∃ ρ h as Qm, HR K A.ca ρ h H ∧ Reps K ρ H as vs ∧ pmR p as h Qm ∧ QOK A K ρ H Qm Q
theorem bls_rep : ∀ {xs : List M} {ys : List V} {bs : List Bool}, Reps K ρ H xs ys → bls xs = some bs → ys = bs.map V.bl
  | _, _, _, .nil, e => by simp [bls] at e; subst e; rfl
  | _, _, bs, .cons q t, e => by
    cases q <;> simp [bls] at e
    obtain ⟨b, e1, rfl⟩ := e
    simp [bls_rep t e1]
theorem ints_rep : ∀ {xs : List M} {ys : List V} {bs : List Int}, Reps K ρ H xs ys → intsM xs = some bs → ys = bs.map V.int
  | _, _, _, .nil, e => by simp [intsM] at e; subst e; rfl
  | _, _, bs, .cons q t, e => by
    cases q <;> simp [intsM] at e
    obtain ⟨b, e1, rfl⟩ := e
    simp [ints_rep t e1]
theorem strs_rep : ∀ {xs : List M} {ys : List V} {bs : List (List Nat)}, Reps K ρ H xs ys → strsM xs = some bs → ys = (bs.map mkS).map V.str
  | _, _, _, .nil, e => by simp [strsM] at e; subst e; rfl
  | _, _, bs, .cons q t, e => by
    cases q <;> simp [strsM] at e
    obtain ⟨b, e1, rfl⟩ := e
    have := strs_rep t e1
    simp [this]
theorem pmok_len : CallR X (.builtin "len") (rP A X.K .len) := by
  intro pins s σ H vs us Q I rs ⟨ρ, h, as, Qm, r, ra, m, q⟩
  unfold pmR pm_len at m
  simp only at m
  split at m
  · cases ra with | cons q0 t =>
    cases t
    cases q0 with | tup sa qa =>
    exact call_len pins s σ H _ us Q I rs ⟨_, _, rfl, .inr ⟨_, sa, rfl⟩, by rw [← qa.length]; exact q.here r m (.int _)⟩
  · cases ra with | cons q0 t =>
    cases t
    cases q0 with | fz sa qa =>
    exact call_len pins s σ H _ us Q I rs ⟨_, _, rfl, .inl ⟨_, sa.sq, rfl⟩, by rw [← qa.length]; exact q.here r m (.int _)⟩
  · cases ra with | cons q0 t =>
    cases t
    cases q0
    exact call_len pins s σ H _ us Q I rs ⟨_, _, rfl, ⟨by rw [mkS_length]; exact m.1, rfl⟩, by rw [mkS_length]; exact q.here r m.2 (.int _)⟩
  · cases ra with | cons q0 t =>
    cases t
    cases q0 with | ref ea =>
    obtain ⟨xs, hx, m⟩ := m
    obtain ⟨us', e1, q1⟩ := r.lst (getL_lst hx) ea
    exact call_len pins s σ H _ us Q I rs ⟨_, _, rfl, .inl ⟨_, .of e1, rfl⟩, by rw [← q1.length]; exact q.here r m (.int _)⟩
  · exact m.elim
theorem pmok_tuple : CallR X (.type "tuple") (rP A X.K .tuple) := by
  intro pins s σ H vs us Q I rs ⟨ρ, h, as, Qm, r, ra, m, q⟩
  unfold pmR pm_tuple at m
  simp only at m
  split at m
  · cases ra with | cons q0 t =>
    cases t
    cases q0 with | tup sa qa =>
    exact call_tuple_of pins s σ H _ us Q I rs ⟨_, _, rfl, .inr ⟨sa, q.here r m (.tup sa qa)⟩⟩
  · cases ra with | cons q0 t =>
    cases t
    cases q0 with | ref ea =>
    obtain ⟨xs, hx, m⟩ := m
    obtain ⟨us', e1, q1⟩ := r.lst (getL_lst hx) ea
    exact call_tuple_of pins s σ H _ us Q I rs ⟨_, _, rfl, .inl ⟨.of e1, fun p hp => q.newT r m q1 hp⟩⟩
  · exact m.elim
theorem pmok_list : CallR X (.type "list") (rP A X.K .list) := by
  intro pins s σ H vs us Q I rs ⟨ρ, h, as, Qm, r, ra, m, q⟩
  unfold pmR pm_list at m
  simp only at m
  split at m
  · cases ra with | cons q0 t =>
    cases t
    cases q0 with | tup sa qa =>
    exact call_list_of pins s σ H _ us Q I rs ⟨_, _, rfl, .inr sa, fun p hp => q.newL r m qa hp⟩
  · cases ra with | cons q0 t =>
    cases t
    cases q0 with | ref ea =>
    obtain ⟨xs, hx, m⟩ := m
    obtain ⟨us', e1, q1⟩ := r.lst (getL_lst hx) ea
    exact call_list_of pins s σ H _ us Q I rs ⟨_, _, rfl, .inl (.of e1), fun p hp => q.newL r m q1 hp⟩
  · exact m.elim
theorem pmok_str : CallR X (.type "str") (rP A X.K .str) := by
  intro pins s σ H vs us Q I rs ⟨ρ, h, as, Qm, r, ra, m, q⟩
  unfold pmR pm_str at m
  simp only at m
  split at m
  · cases ra with | cons q0 t =>
    cases t
    cases q0
    exact SkE.call_str_str pins s σ H _ us Q I rs ⟨_, rfl, q.here r m (.str _)⟩
  · cases ra with | cons q0 t =>
    cases t
    cases q0
    have e : ∀ i : Int, mkS (intL i) = (toString i : Str) := fun i => mkS_tl _
    exact call_str_int pins s σ H _ us Q I rs ⟨_, rfl, m.1, by rw [← e]; exact q.here r m.2 (.str _)⟩
  · exact m.elim
theorem pmok_int : CallR X (.type "int") (rP A X.K .int) := by
  intro pins s σ H vs us Q I rs ⟨ρ, h, as, Qm, r, ra, m, q⟩
  unfold pmR pm_int at m
  simp only at m
  split at m
  · cases ra with | cons q0 t =>
    cases t
    cases q0
    exact call_int1 pins s σ H _ us Q I rs (.inl ⟨_, rfl, q.here r m (.int _)⟩)
  · cases ra with | cons q0 t =>
    cases t
    cases q0
    exact call_int1 pins s σ H _ us Q I rs (.inr ⟨_, rfl, q.here r m (.int _)⟩)
  · exact m.elim
theorem pmok_min2 (hc : X.calm = true) : CallR X (.builtin "min") (rP A X.K .min2) := by
  intro pins s σ H vs us Q I rs ⟨ρ, h, as, Qm, r, ra, m, q⟩
  unfold pmR pm_min2 at m
  simp only at m
  split at m
  · cases ra with | cons q0 t =>
    cases t with | cons q1 t =>
    cases t
    cases q0; cases q1
    exact call_min2 hc pins s σ H _ us Q I rs ⟨_, _, rfl, q.here r m (.int _)⟩
  · exact m.elim
theorem pmok_max2 (hc : X.calm = true) : CallR X (.builtin "max") (rP A X.K .max2) := by
  intro pins s σ H vs us Q I rs ⟨ρ, h, as, Qm, r, ra, m, q⟩
  unfold pmR pm_max2 at m
  simp only at m
  split at m
  · cases ra with | cons q0 t =>
    cases t with | cons q1 t =>
    cases t
    cases q0; cases q1
    exact call_max2 hc pins s σ H _ us Q I rs ⟨_, _, rfl, q.here r m (.int _)⟩
  · exact m.elim
theorem pmok_abs : CallR X (.builtin "abs") (rP A X.K .abs) := by
  intro pins s σ H vs us Q I rs ⟨ρ, h, as, Qm, r, ra, m, q⟩
  unfold pmR pm_abs at m
  simp only at m
  split at m
  · cases ra with | cons q0 t =>
    cases t
    cases q0
    exact call_abs pins s σ H _ us Q I rs ⟨_, rfl, q.here r m (.int _)⟩
  · exact m.elim
theorem pmok_all (hc : X.calm = true) : CallR X (.builtin "all") (rP A X.K .all) := by
  intro pins s σ H vs us Q I rs ⟨ρ, h, as, Qm, r, ra, m, q⟩
  unfold pmR pm_all at m
  simp only at m
  split at m
  · cases ra with | cons q0 t =>
    cases t
    cases q0 with | ref ea =>
    obtain ⟨xs, bs, hx, hb, m⟩ := m
    obtain ⟨us', e1, q1⟩ := r.lst (getL_lst hx) ea
    rw [bls_rep q1 hb] at e1
    exact cr_all hc pins s σ H _ us Q I rs ⟨_, _, rfl, .of e1, q.here r m (.bl _)⟩
  · exact m.elim
theorem pmok_any (hc : X.calm = true) : CallR X (.builtin "any") (rP A X.K .any) := by
  intro pins s σ H vs us Q I rs ⟨ρ, h, as, Qm, r, ra, m, q⟩
  unfold pmR pm_any at m
  simp only at m
  split at m
  · cases ra with | cons q0 t =>
    cases t
    cases q0 with | ref ea =>
    obtain ⟨xs, bs, hx, hb, m⟩ := m
    obtain ⟨us', e1, q1⟩ := r.lst (getL_lst hx) ea
    rw [bls_rep q1 hb] at e1
    exact cr_any hc pins s σ H _ us Q I rs ⟨_, _, rfl, .of e1, q.here r m (.bl _)⟩
  · exact m.elim
theorem pmok_sum (hc : X.calm = true) : CallR X (.builtin "sum") (rP A X.K .sum) := by
  intro pins s σ H vs us Q I rs ⟨ρ, h, as, Qm, r, ra, m, q⟩
  unfold pmR pm_sum at m
  simp only at m
  split at m
  · cases ra with | cons q0 t =>
    cases t
    cases q0 with | ref ea =>
    obtain ⟨xs, bs, hx, hb, m⟩ := m
    obtain ⟨us', e1, q1⟩ := r.lst (getL_lst hx) ea
    rw [ints_rep q1 hb] at e1
    exact cr_sum hc pins s σ H _ us Q I rs ⟨_, _, rfl, .of e1, q.here r m (.int _)⟩
  · exact m.elim
/-! methods -/
def rM (A : Ads) (K : PySem.W.Frag) (p : Mt) : V → List V → Hp → VK → Prop := fun x vs H Q => ∃ ρ h a as Qm, HR K A.ca ρ h H ∧ Rep K ρ H a x ∧ Reps K ρ H as vs ∧ mtR p a as h Qm ∧ QOK A K ρ H Qm Q
theorem map_mkS_len : ∀ ys : List (List Nat), ((ys.map mkS).map (·.length)) = ys.map (·.length)
  | [] => rfl
  | y :: ys => by simp only [List.map_cons, mkS_length, map_mkS_len ys]
theorem map_tl_mkS : ∀ ys : List (List Nat), (ys.map mkS).map TL.tl = ys
  | [] => rfl
  | y :: ys => by simp only [List.map_cons, tl_mkS, map_tl_mkS ys]
theorem join_mkS (a : List Nat) (ys : List (List Nat)) : Txt.join (mkS a) (ys.map mkS) = mkS (TL.joinL a ys) := by
  apply TL.ext_tl
  rw [TL.join_eq, TL.tl_join, tl_mkS, tl_mkS, map_tl_mkS]
theorem mtok_joinM : MtR X "str.join" (rM A X.K .join) := by
  intro pins s σ H x vs v us Q I rx rs ⟨ρ, h, a, as, Qm, r, ra, ras, m, q⟩
  unfold mtR mt_join at m
  simp only at m
  split at m
  · cases ra
    cases ras with | cons q0 t =>
    cases t
    cases q0 with | ref ea =>
    obtain ⟨xs, ys, hx, hy, hz, m⟩ := m
    obtain ⟨us', e1, q1⟩ := r.lst (getL_lst hx) ea
    rw [strs_rep q1 hy] at e1
    refine L2.mt_join pins s σ H _ _ v us Q I rx rs ⟨_, _, ys.map mkS, rfl, rfl, .inl (.of e1), by rw [map_mkS_len, List.length_map, mkS_length]; exact hz, ?_⟩
    rw [join_mkS]
    exact q.here r m (.str _)
  · exact m.elim
theorem mtok_appendM : MtR X "list.append" (rM A X.K .append) := by
  intro pins s σ H x vs v us Q I rx rs ⟨ρ, h, a, as, Qm, r, ra, ras, m, q⟩
  unfold mtR mt_append at m
  simp only at m
  split at m
  · cases ra with | ref eo =>
    cases ras with | cons q0 t =>
    cases t
    obtain ⟨xs, hx, hz, m⟩ := m
    obtain ⟨us', e1, q1⟩ := r.lst hx eo
    exact L2.mt_append pins s σ H _ _ v us Q I rx rs ⟨_, _, _, rfl, rfl, e1, by rw [← q1.length]; exact hz, q.putL r hx eo m .non (q1.append (.cons q0 .nil))⟩
  · exact m.elim
theorem mtok_extendM : MtR X "list.extend" (rM A X.K .extend) := by
  intro pins s σ H x vs v us Q I rx rs ⟨ρ, h, a, as, Qm, r, ra, ras, m, q⟩
  unfold mtR mt_extend at m
  simp only at m
  split at m
  · cases ra with | ref eo =>
    cases ras with | cons q0 t =>
    cases t
    cases q0 with | ref eb =>
    obtain ⟨xs, zs, hx, hb, hz, m⟩ := m
    obtain ⟨us', e1, q1⟩ := r.lst hx eo
    obtain ⟨ws, e2, q2⟩ := r.lst hb eb
    exact L2.mt_extend pins s σ H _ _ v us Q I rx rs ⟨_, _, _, _, rfl, rfl, e1, e2, by rw [← q1.length, ← q2.length]; exact hz, q.putL r hx eo m .non (q1.append q2)⟩
  · exact m.elim
theorem mtok_popM : MtR X "list.pop" (rM A X.K .pop) := by
  intro pins s σ H x vs v us Q I rx rs ⟨ρ, h, a, as, Qm, r, ra, ras, m, q⟩
  unfold mtR mt_pop at m
  simp only at m
  split at m
  · cases ra with | ref eo =>
    cases ras
    obtain ⟨xs, y, hx, m⟩ := m
    obtain ⟨us', e1, q1⟩ := r.lst hx eo
    obtain ⟨zs, w, rfl, q2, q3⟩ := q1.snoc
    exact L2.mt_pop pins s σ H _ _ v us Q I rx rs ⟨_, _, w, rfl, rfl, e1, by simp, by rw [List.dropLast_concat]; exact q.putL r hx eo m q3 q2⟩
  · exact m.elim
end
end Wg
open PySem PySem.Spec PyProof.Rows
set_option linter.all false
set_option Elab.async false
namespace Wg
open L2
/-! ### the judgements' readings, and the rules over them -/
section
variable (A : Ads) (K : PySem.W.Frag)
def LOK (n : Nat) (ρ : List Addr) (H : Hp) (Qm : List M → MH → Prop) (Q : List V → Hp → Prop) : Prop := ∀ v h', Qm v h' → v.length = n → ∀ ρ' H' v', Ext ρ H ρ' H' → HR K A.ca ρ' h' H' → Reps K ρ' H' v v' → Q v' H'
def OOK (ρ : List Addr) (H : Hp) (Qm : Option Int → MH → Prop) (Q : Option Int → Hp → Prop) : Prop := ∀ v h', Qm v h' → ∀ ρ' H', Ext ρ H ρ' H' → HR K A.ca ρ' h' H' → Q v H'
structure ItOK (J : It) (xs : List M) (chk : MH → Prop) (ρ0 : List Addr) (H0 : Hp) : Prop where
  go : ∀ i ρ h H, HR K A.ca ρ h H → Ext ρ0 H0 ρ H → chk h → i < xs.length → J.go i H
  stop : ∀ i ρ h H, HR K A.ca ρ h H → Ext ρ0 H0 ρ H → chk h → xs.length ≤ i → J.stop i H
  yld : ∀ i ρ h H x H', HR K A.ca ρ h H → Ext ρ0 H0 ρ H → chk h → i < xs.length → J.yld i H x H' → HR K A.ca ρ h H' ∧ Ext ρ H ρ H' ∧ ∃ m, xs[i]? = some m ∧ Rep K ρ H' m x
def IOK (ρ : List Addr) (H : Hp) (Km : KI) (R : It → Hp → Prop) : Prop := ∀ xs chk h', Km xs chk h' → ∀ ρ' H' J, Ext ρ H ρ' H' → HR K A.ca ρ' h' H' → xs.length ≤ sizeLine → ItOK A K J xs chk ρ' H' → R J H'
structure EOK (ρ : List Addr) (H : Hp) (Dm : Ed) (D : Ends) : Prop where
  nx : ∀ env h', Dm.nx env h' → ∀ ρ' H' σ', Ext ρ H ρ' H' → HR K A.ca ρ' h' H' → ER K ρ' H' env σ' → D.nx σ' H'
  rt : QOK A K ρ H Dm.rt D.rt
  bk : ∀ env h', Dm.bk env h' → ∀ ρ' H' σ', Ext ρ H ρ' H' → HR K A.ca ρ' h' H' → ER K ρ' H' env σ' → D.bk σ' H'
  ct : ∀ env h', Dm.ct env h' → ∀ ρ' H' σ', Ext ρ H ρ' H' → HR K A.ca ρ' h' H' → ER K ρ' H' env σ' → D.ct σ' H'
/-- what a statement raises: the slots as they are then -/
def SXK (ρ : List Addr) (H : Hp) (X : XW) (W : WX) : Prop :=
  ∀ x env h', X x env h' → ∀ ρ' H' σ' c d, Ext ρ H ρ' H' → HR K A.ca ρ' h' H' → ER K ρ' H' env σ' → XR A K ρ' H' x c d → W c d σ' H'
def tE (W : WX) (d : WE) : TE := fun σ H Q => ∃ ρ env h Qm Xm, HR K A.ca ρ h H ∧ ER K ρ H env σ ∧ d env h Qm Xm ∧ QOK A K ρ H Qm Q ∧ XOK A K ρ H σ Xm W
def tT (W : WX) (d : WT) : TT := fun σ H Q => ∃ ρ env h Qm Xm, HR K A.ca ρ h H ∧ ER K ρ H env σ ∧ d env h Qm Xm ∧ BOK A K ρ H Qm Q ∧ XOK A K ρ H σ Xm W
def tAs (n : Nat) (W : WX) (d : Env → MH → (List M → MH → Prop) → (Exn → MH → Prop) → Prop) : TA := fun σ H Q => ∃ ρ env h Qm Xm, HR K A.ca ρ h H ∧ ER K ρ H env σ ∧ d env h Qm Xm ∧ LOK A K n ρ H Qm Q ∧ XOK A K ρ H σ Xm W
def tOp (W : WX) (d : Env → MH → (Option Int → MH → Prop) → (Exn → MH → Prop) → Prop) : TO := fun σ H Q => ∃ ρ env h Qm Xm, HR K A.ca ρ h H ∧ ER K ρ H env σ ∧ d env h Qm Xm ∧ OOK A K ρ H Qm Q ∧ XOK A K ρ H σ Xm W
def tIt (W : WX) (d : Env → MH → KI → (Exn → MH → Prop) → Prop) : TI := fun σ H R => ∃ ρ env h Km Xm, HR K A.ca ρ h H ∧ ER K ρ H env σ ∧ d env h Km Xm ∧ IOK A K ρ H Km R ∧ XOK A K ρ H σ Xm W
def tSt (W : WX) (d : WS) : TS := fun D σ H => ∃ ρ env h Dm X, HR K A.ca ρ h H ∧ ER K ρ H env σ ∧ d env h Dm X ∧ EOK A K ρ H Dm D ∧ SXK A K ρ H X W
/-- a def's promise -/
def spM (np : Nat) (φ : FS) : Sp := fun vs H Q E => vs.length = np ∧ ∃ ρ h ms Qm Xm, HR K A.ca ρ h H ∧ Reps K ρ H ms vs ∧ φ ms h Qm Xm ∧ QOK A K ρ H Qm Q ∧
  ∀ x h', Xm x h' → ∀ ρ' H' c d, Ext ρ H ρ' H' → HR K A.ca ρ' h' H' → XR A K ρ' H' x c d → E c d H'
end
section
variable {A : Ads} {K : PySem.W.Frag} {X : Cx} {W : WX}
theorem PE.weak {e : Expr} {t t' : TE} (p : PE X e t) (h : ∀ σ H Q, t' σ H Q → t σ H Q) : PE X e t' := ⟨fun pins s σ H Q I hw => p.run pins s σ H Q I (h _ _ _ hw)⟩
theorem PT.weak {e : Expr} {t t' : TT} (p : PT X e t) (h : ∀ σ H Q, t' σ H Q → t σ H Q) : PT X e t' := ⟨fun pins s σ H Q I hw => p.run pins s σ H Q I (h _ _ _ hw)⟩
theorem PW.weak {e : Expr} {t t' : TT} (p : PW X e t) (h : ∀ σ H Q, t' σ H Q → t σ H Q) : PW X e t' := ⟨fun wh pins s σ H Q I hw => p.run wh pins s σ H Q I (h _ _ _ hw)⟩
theorem PA.weak {e : List Expr} {t t' : TA} (p : PA X e t) (h : ∀ σ H Q, t' σ H Q → t σ H Q) : PA X e t' := ⟨fun pos pins s σ H Q I hw => p.run pos pins s σ H Q I (h _ _ _ hw)⟩
theorem PO.weak {e : Option Expr} {t t' : TO} (p : PO X e t) (h : ∀ σ H Q, t' σ H Q → t σ H Q) : PO X e t' := ⟨fun pins s σ H Q I hw => p.run pins s σ H Q I (h _ _ _ hw)⟩
theorem PTs.weak {e : List Expr} {t t' : TT} (p : PTs X e t) (h : ∀ σ H Q, t' σ H Q → t σ H Q) : PTs X e t' := ⟨fun pins s σ H Q I hw => p.run pins s σ H Q I (h _ _ _ hw)⟩
theorem PI.weak {tg e : Expr} {t t' : TI} (p : PI X tg e t) (h : ∀ σ H R, t' σ H R → t σ H R) : PI X tg e t' := ⟨fun pins s σ H Q I hw => p.run pins s σ H Q I (h _ _ _ hw)⟩
theorem PI.or {tg e : Expr} {t u : TI} (p : PI X tg e t) (q : PI X tg e u) : PI X tg e (fun σ H R => t σ H R ∨ u σ H R) := ⟨fun pins s σ H Q I hw => hw.elim (p.run pins s σ H Q I) (q.run pins s σ H Q I)⟩
theorem PE.or {e : Expr} {t u : TE} (p : PE X e t) (q : PE X e u) : PE X e (fun σ H R => t σ H R ∨ u σ H R) := ⟨fun pins s σ H Q I hw => hw.elim (p.run pins s σ H Q I) (q.run pins s σ H Q I)⟩
theorem PS.weak {e : Stmt} {t t' : TS} (p : PS X e t) (h : ∀ D σ H, t' D σ H → t D σ H) : PS X e t' := ⟨fun pins s σ H D I hw => p.run pins s σ H D I (h _ _ _ hw)⟩
theorem PSs.weak {e : List Stmt} {t t' : TS} (p : PSs X e t) (h : ∀ D σ H, t' D σ H → t D σ H) : PSs X e t' := ⟨fun pins s σ H D I hw => p.run pins s σ H D I (h _ _ _ hw)⟩
variable {a b c e : Expr} {da db dc : WE} {dt' du : WT} {pos : Pos} {env : Env}
/-- the step behind an expression: go on from its end -/
theorem q_then {σ : List (Option V)} {H : Hp} {ρ : List Addr} {h : MH} {env : Env} {Xm : Exn → MH → Prop} {R : M → MH → Prop} {S : VK} (r : HR K A.ca ρ h H) (e : ER K ρ H env σ) (x : XOK A K ρ H σ Xm W)
    (k : ∀ v h1 ρ1 H1 v1, R v h1 → Ext ρ H ρ1 H1 → HR K A.ca ρ1 h1 H1 → ER K ρ1 H1 env σ → XOK A K ρ1 H1 σ Xm W → Rep K ρ1 H1 v v1 → S v1 H1) : QOK A K ρ H R S :=
  fun v h1 d ρ1 H1 v1 x1 r1 p1 => k v h1 ρ1 H1 v1 d x1 r1 (e.mono r x1) (x.mono r1 x1) p1
theorem e_var {i : Nat} {x : Str} (hN : X.N[i]? = some x) (hv : Vis X.env.scope x) (hd : (x == ("__debug__" : Str)) = false) (hcd : (x == ("__classdict__" : Str)) = false) :
    PE X (.Name x pos) (tE A X.K W (fun env h Q _ => ∃ v, env[i]? = some (some v) ∧ Q v h)) :=
  PE.weak (pe_var hN hv hd hcd) fun σ H Q ⟨ρ, env, h, Qm, Xm, r, e, ⟨v, ev, d⟩, q, _⟩ => by
    obtain ⟨u, e1, e2⟩ := e.get ev
    exact ⟨u, e1, q.here r d e2⟩
theorem e_cst {m : M} {v : V} (p : PE X e (tC v)) (q : ∀ ρ H, Rep X.K ρ H m v) : PE X e (tE A X.K W (fun env h Q _ => Q m h)) :=
  PE.weak p fun σ H Q ⟨ρ, env, h, Qm, Xm, r, e, d, qk, _⟩ => qk.here r d (q ρ H)
theorem e_bin {op : Operator} (ha : PE X a (tE A X.K W (da))) (hb : PE X b (tE A X.K W (db))) : PE X (.BinOp a op b pos) (tE A X.K W (fun env h Q Xm => da env h (fun x h1 => db env h1 (fun y h2 => binR op x y h2 Q) Xm) Xm)) := by
  refine PE.weak (pe_op (op_bin (A := A) op) ha hb) fun σ H Q ⟨ρ, env, h, Qm, Xm, r, e, d, q, x⟩ => ?_
  refine ⟨ρ, env, h, _, Xm, r, e, d, q_then r e x fun v h1 ρ1 H1 v1 d1 x1 r1 e1 X1 p1 => ?_, x⟩
  refine ⟨ρ1, env, h1, _, Xm, r1, e1, d1, q_then r1 e1 X1 fun u h2 ρ2 H2 u2 d2 x2 r2 e2 X2 p2 => ?_, X1⟩
  exact ⟨ρ2, h2, v, u, Qm, r2, p1.mono r1 x2, p2, d2, (q.mono r1 x1).mono r2 x2⟩
theorem e_neg (ha : PE X a (tE A X.K W (da))) : PE X (.UnaryOp .USub a pos) (tE A X.K W (fun env h Q Xm => da env h (fun x h1 => ∃ i, x = .int i ∧ Q (.int (-i)) h1) Xm)) := by
  refine PE.weak (pe_un un_neg ha) fun σ H Q ⟨ρ, env, h, Qm, Xm, r, e, d, q, x⟩ => ?_
  refine ⟨ρ, env, h, _, Xm, r, e, d, q_then r e x fun v h1 ρ1 H1 v1 d1 x1 r1 e1 X1 p1 => ?_, x⟩
  obtain ⟨i, rfl, d1⟩ := d1
  cases p1
  exact ⟨i, rfl, (q.mono r1 x1).here r1 d1 (.int _)⟩
theorem e_cmp (hu : X.A.units + 64 < cLine) {op : CmpOp} (ha : PE X a (tE A X.K W (da))) (hb : PE X b (tE A X.K W (db))) (hm : behindInMarks op b = false) :
    PE X (.Compare a [op] [b] pos) (tE A X.K W (fun env h Q Xm => da env h (fun x h1 => db env h1 (fun y h2 => cmpR op x y h2 (fun k h3 => Q (.bl k) h3)) Xm) Xm)) := by
  refine PE.weak (pe_cmpR (op_cmp (A := A) hu op) ha hb hm) fun σ H Q ⟨ρ, env, h, Qm, Xm, r, e, d, q, x⟩ => ?_
  refine ⟨ρ, env, h, _, Xm, r, e, d, q_then r e x fun v h1 ρ1 H1 v1 d1 x1 r1 e1 X1 p1 => ?_, x⟩
  refine ⟨ρ1, env, h1, _, Xm, r1, e1, d1, q_then r1 e1 X1 fun u h2 ρ2 H2 u2 d2 x2 r2 e2 X2 p2 => ?_, X1⟩
  exact ⟨ρ2, h2, v, u, _, r2, p1.mono r1 x2, p2, d2, fun k h3 d3 ρ3 H3 x3 r3 => (((q.mono r1 x1).mono r2 x2).mono r3 x3).here r3 d3 (.bl k)⟩
theorem t_cmp (hu : X.A.units + 64 < cLine) {op : CmpOp} (ha : PE X a (tE A X.K W (da))) (hb : PE X b (tE A X.K W (db))) (hm : behindInMarks op b = false) :
    PT X (.Compare a [op] [b] pos) (tT A X.K W fun env h Q Xm => da env h (fun x h1 => db env h1 (fun y h2 => cmpR op x y h2 Q) Xm) Xm) := by
  refine PT.weak (pt_cmpR (op_cmp (A := A) hu op) ha hb hm) fun σ H Q ⟨ρ, env, h, Qm, Xm, r, e, d, q, x⟩ => ?_
  refine ⟨ρ, env, h, _, Xm, r, e, d, q_then r e x fun v h1 ρ1 H1 v1 d1 x1 r1 e1 X1 p1 => ?_, x⟩
  refine ⟨ρ1, env, h1, _, Xm, r1, e1, d1, q_then r1 e1 X1 fun u h2 ρ2 H2 u2 d2 x2 r2 e2 X2 p2 => ?_, X1⟩
  exact ⟨ρ2, h2, v, u, _, r2, p1.mono r1 x2, p2, d2, fun k h3 d3 ρ3 H3 x3 r3 => ⟨k, rfl, q k h3 d3 ρ3 H3 ((x1.trans r1 x2).trans r2 x3) r3⟩⟩
theorem e_chn (hu : X.A.units + 64 < cLine) {op op' : CmpOp} (ha : PE X a (tE A X.K W (da))) (hb : PE X b (tE A X.K W (db))) (hc : PE X c (tE A X.K W (dc))) (hm : lastMarks [op, op'] [b, c] = false) :
    PE X (.Compare a [op, op'] [b, c] pos) (tE A X.K W (fun env h Q X => da env h (fun x h1 => db env h1 (fun y h2 => cmpR op x y h2 (fun k h3 => if k = true then dc env h3 (fun z h4 => cmpR op' y z h4 (fun k' h5 => Q (.bl k') h5)) X else Q (.bl false) h3)) X) X)) := by
  refine PE.weak (pe_chain (op_cmp (A := A) hu op) (op_cmp (A := A) hu op') ha hb hc hm) fun σ H Q ⟨ρ, env, h, Qm, Xm, r, e, d, q, x⟩ => ?_
  refine ⟨ρ, env, h, _, Xm, r, e, d, q_then r e x fun v h1 ρ1 H1 v1 d1 x1 r1 e1 X1 p1 => ?_, x⟩
  refine ⟨ρ1, env, h1, _, Xm, r1, e1, d1, q_then r1 e1 X1 fun u h2 ρ2 H2 u2 d2 x2 r2 e2 X2 p2 => ?_, X1⟩
  refine ⟨ρ2, h2, v, u, _, r2, p1.mono r1 x2, p2, d2, fun k h3 d3 ρ3 H3 x3 r3 => ⟨k, rfl, ?_⟩⟩
  have q3 := ((q.mono r1 x1).mono r2 x2).mono r3 x3
  cases k with
  | false =>
    rw [if_neg (by simp)] at d3 ⊢
    exact q3.here r3 d3 (.bl _)
  | true =>
    rw [if_pos rfl] at d3 ⊢
    have e3 := e2.mono r2 x3
    refine ⟨ρ3, env, h3, _, Xm, r3, e3, d3, q_then r3 e3 (X2.mono r3 x3) fun w h4 ρ4 H4 w4 d4 x4 r4 e4 X4 p4 => ?_, X2.mono r3 x3⟩
    exact ⟨ρ4, h4, u, w, _, r4, (p2.mono r2 x3).mono r3 x4, p4, d4, fun k h5 d5 ρ5 H5 x5 r5 => ((q3.mono r4 x4).mono r5 x5).here r5 d5 (.bl k)⟩
theorem t_chn (hu : X.A.units + 64 < cLine) {op op' : CmpOp} (ha : PE X a (tE A X.K W (da))) (hb : PE X b (tE A X.K W (db))) (hc : PE X c (tE A X.K W (dc))) (hm : lastMarks [op, op'] [b, c] = false) :
    PT X (.Compare a [op, op'] [b, c] pos) (tT A X.K W fun env h Q X => da env h (fun x h1 => db env h1 (fun y h2 => cmpR op x y h2 (fun k h3 => if k = true then dc env h3 (fun z h4 => cmpR op' y z h4 Q) X else Q false h3)) X) X) := by
  refine PT.weak (pt_chain (op_cmp (A := A) hu op) (op_cmp (A := A) hu op') ha hb hc hm) fun σ H Q ⟨ρ, env, h, Qm, Xm, r, e, d, q, x⟩ => ?_
  refine ⟨ρ, env, h, _, Xm, r, e, d, q_then r e x fun v h1 ρ1 H1 v1 d1 x1 r1 e1 X1 p1 => ?_, x⟩
  refine ⟨ρ1, env, h1, _, Xm, r1, e1, d1, q_then r1 e1 X1 fun u h2 ρ2 H2 u2 d2 x2 r2 e2 X2 p2 => ?_, X1⟩
  refine ⟨ρ2, h2, v, u, _, r2, p1.mono r1 x2, p2, d2, fun k h3 d3 ρ3 H3 x3 r3 => ⟨k, rfl, ?_⟩⟩
  cases k with
  | false =>
    rw [if_neg (by simp)] at d3 ⊢
    exact ⟨false, rfl, q false h3 d3 ρ3 H3 ((x1.trans r1 x2).trans r2 x3) r3⟩
  | true =>
    rw [if_pos rfl] at d3 ⊢
    have e3 := e2.mono r2 x3
    refine ⟨ρ3, env, h3, _, Xm, r3, e3, d3, q_then r3 e3 (X2.mono r3 x3) fun w h4 ρ4 H4 w4 d4 x4 r4 e4 X4 p4 => ?_, X2.mono r3 x3⟩
    exact ⟨ρ4, h4, u, w, _, r4, (p2.mono r2 x3).mono r3 x4, p4, d4, fun k h5 d5 ρ5 H5 x5 r5 => ⟨k, rfl, q k h5 d5 ρ5 H5 ((((x1.trans r1 x2).trans r2 x3).trans r3 x4).trans r4 x5) r5⟩⟩
/-- a value's truth as a test -/
theorem t_val (he : ∀ whole, isTrue e X.env whole = (do let v ← whole; standAt e.pos; holding [v] (truthy v))) (ha : PE X e (tE A X.K W (da))) :
    PT X e (tT A X.K W fun env h Q Xm => da env h (fun v h1 => ∃ k, truV h1 v = some k ∧ Q k h1) Xm) := by
  refine PT.weak (pt_truth ha he) fun σ H Q ⟨ρ, env, h, Qm, Xm, r, e, d, q, x⟩ => ?_
  refine ⟨ρ, env, h, _, Xm, r, e, d, q_then r e x fun v h1 ρ1 H1 v1 d1 x1 r1 e1 X1 p1 => ?_, x⟩
  obtain ⟨k, hk, d1⟩ := d1
  exact ⟨k, truV_rep r1 p1 hk, q k h1 d1 ρ1 H1 x1 r1⟩
theorem e_not (ha : PT X a (tT A X.K W dt')) : PT X (.UnaryOp .Not a pos) (tT A X.K W fun env h Q Xm => dt' env h (fun k h1 => Q (!k) h1) Xm) :=
  PT.weak (pt_not ha) fun σ H Q ⟨ρ, env, h, Qm, Xm, r, e, d, q, x⟩ => ⟨ρ, env, h, _, Xm, r, e, d, fun k h1 d1 ρ1 H1 x1 r1 => q _ h1 d1 ρ1 H1 x1 r1, x⟩
theorem e_notV (ha : PE X a (tE A X.K W da)) : PE X (.UnaryOp .Not a pos) (tE A X.K W fun env h Q Xm => da env h (fun v h1 => ∃ k, truV h1 v = some k ∧ Q (.bl (!k)) h1) Xm) := by
  refine PE.weak (pe_notT ha) fun σ H Q ⟨ρ, env, h, Qm, Xm, r, e, d, q, x⟩ => ?_
  refine ⟨ρ, env, h, _, Xm, r, e, d, q_then r e x fun v h1 ρ1 H1 v1 d1 x1 r1 e1 X1 p1 => ?_, x⟩
  obtain ⟨k, hk, d1⟩ := d1
  exact ⟨k, truV_rep r1 p1 hk, (q.mono r1 x1).here r1 d1 (.bl _)⟩
theorem e_ifx {e0 : Expr} (hc : PT X e0 (tT A X.K W dt')) (ha : PE X a (tE A X.K W da)) (hb : PE X b (tE A X.K W db)) :
    PE X (.IfExp e0 a b pos) (tE A X.K W fun env h Q Xm => dt' env h (fun k h1 => if k = true then da env h1 Q Xm else db env h1 Q Xm) Xm) := by
  refine PE.weak (pe_ifExp hc ha hb) fun σ H Q ⟨ρ, env, h, Qm, Xm, r, e, d, q, x⟩ => ?_
  refine ⟨ρ, env, h, _, Xm, r, e, d, fun k h1 d1 ρ1 H1 x1 r1 => ?_, x⟩
  cases k with
  | true => exact ⟨ρ1, env, h1, _, Xm, r1, e.mono r x1, d1, q.mono r1 x1, x.mono r1 x1⟩
  | false => exact ⟨ρ1, env, h1, _, Xm, r1, e.mono r x1, d1, q.mono r1 x1, x.mono r1 x1⟩
theorem e_idx (hs : PlainIx b) (ha : PE X a (tE A X.K W da)) (hb : PE X b (tE A X.K W db)) : PE X (.Subscript a b pos) (tE A X.K W fun env h Q Xm => da env h (fun x h1 => db env h1 (fun y h2 => idxR x y h2 Q) Xm) Xm) := by
  refine PE.weak (pe_ix (ix_all (A := A)) ha hb hs) fun σ H Q ⟨ρ, env, h, Qm, Xm, r, e, d, q, x⟩ => ?_
  refine ⟨ρ, env, h, _, Xm, r, e, d, q_then r e x fun v h1 ρ1 H1 v1 d1 x1 r1 e1 X1 p1 => ?_, x⟩
  refine ⟨ρ1, env, h1, _, Xm, r1, e1, d1, q_then r1 e1 X1 fun u h2 ρ2 H2 u2 d2 x2 r2 e2 X2 p2 => ?_, X1⟩
  exact ⟨ρ2, h2, v, u, Qm, r2, p1.mono r1 x2, p2, d2, (q.mono r1 x1).mono r2 x2⟩
variable {lo hi : Option Expr} {dl dh : Env → MH → (Option Int → MH → Prop) → (Exn → MH → Prop) → Prop} {p2 : Pos}
theorem o_no : PO X none (tOp A X.K W fun env h Q _ => Q none h) := PO.weak po_none fun σ H Q ⟨ρ, env, h, Qm, Xm, r, e, d, q, x⟩ => q none h d ρ H .refl r
theorem o_so (ha : PE X a (tE A X.K W da)) : PO X (some a) (tOp A X.K W fun env h Q Xm => da env h (fun v h1 => ∃ i, v = .int i ∧ Q (some i) h1) Xm) := by
  refine PO.weak (po_some ha) fun σ H Q ⟨ρ, env, h, Qm, Xm, r, e, d, q, x⟩ => ?_
  refine ⟨ρ, env, h, _, Xm, r, e, d, q_then r e x fun v h1 ρ1 H1 v1 d1 x1 r1 e1 X1 p1 => ?_, x⟩
  obtain ⟨i, rfl, d1⟩ := d1
  cases p1
  exact ⟨i, rfl, q _ h1 d1 ρ1 H1 x1 r1⟩
theorem e_slc (ha : PE X a (tE A X.K W da)) (hl : PO X lo (tOp A X.K W dl)) (hu : PO X hi (tOp A X.K W dh)) :
    PE X (.Subscript a (.Slice lo hi none p2) pos) (tE A X.K W fun env h Q Xm => da env h (fun x h1 => dl env h1 (fun l h2 => dh env h2 (fun u h3 => slcR x l u h3 Q) Xm) Xm) Xm) := by
  refine PE.weak (pe_slice (sl_all (A := A)) ha hl hu) fun σ H Q ⟨ρ, env, h, Qm, Xm, r, e, d, q, x⟩ => ?_
  refine ⟨ρ, env, h, _, Xm, r, e, d, q_then r e x fun v h1 ρ1 H1 v1 d1 x1 r1 e1 X1 p1 => ?_, x⟩
  refine ⟨ρ1, env, h1, _, Xm, r1, e1, d1, fun l h2 d2 ρ2 H2 x2 r2 => ?_, X1⟩
  refine ⟨ρ2, env, h2, _, Xm, r2, e1.mono r1 x2, d2, fun u h3 d3 ρ3 H3 x3 r3 => ?_, X1.mono r2 x2⟩
  exact ⟨ρ3, h3, v, Qm, r3, (p1.mono r1 x2).mono r2 x3, d3, ((q.mono r1 x1).mono r2 x2).mono r3 x3⟩
/-! arguments -/
variable {n : Nat} {es : List Expr} {ds : Env → MH → (List M → MH → Prop) → (Exn → MH → Prop) → Prop}
theorem a_nil : PA X [] (tAs A X.K 0 W fun env h Q _ => Q [] h) := PA.weak pa_nil fun σ H Q ⟨ρ, env, h, Qm, Xm, r, e, d, q, x⟩ => q [] h d rfl ρ H [] .refl r .nil
theorem a_cons (hs : starEach (a :: es) X.env = (false, eval a X.env) :: starEach es X.env) (ha : PE X a (tE A X.K W da)) (hr : PA X es (tAs A X.K n W ds)) :
    PA X (a :: es) (tAs A X.K (n + 1) W fun env h Q Xm => da env h (fun v h1 => ds env h1 (fun vs h2 => Q (v :: vs) h2) Xm) Xm) := by
  refine PA.weak (pa_cons ha hr hs) fun σ H Q ⟨ρ, env, h, Qm, Xm, r, e, d, q, x⟩ => ?_
  refine ⟨ρ, env, h, _, Xm, r, e, d, q_then r e x fun v h1 ρ1 H1 v1 d1 x1 r1 e1 X1 p1 => ?_, x⟩
  refine ⟨ρ1, env, h1, _, Xm, r1, e1, d1, fun vs h2 d2 l2 ρ2 H2 v2 x2 r2 p2 => ?_, X1⟩
  exact q _ h2 d2 (by simp [l2]) ρ2 H2 _ (x1.trans r1 x2) r2 (.cons (p1.mono r1 x2) p2)
theorem e_tup {k : Nat} (hs : n ≤ sizeLine) (ha : PA X es (tAs A X.K n W ds)) : PE X (.Tuple es k pos) (tE A X.K W fun env h Q Xm => ds env h (fun vs h1 => Q (.tup vs) h1) Xm) := by
  refine PE.weak (pe_tup ha) fun σ H Q ⟨ρ, env, h, Qm, Xm, r, e, d, q, x⟩ => ?_
  refine ⟨ρ, env, h, _, Xm, r, e, d, fun vs h1 d1 l1 ρ1 H1 v1 x1 r1 p1 => ?_, x⟩
  exact ⟨by rw [← p1.length, l1]; exact hs, fun p hp => (q.mono r1 x1).newT r1 d1 p1 hp⟩
theorem e_lst (hs : n ≤ sizeLine) (ha : PA X es (tAs A X.K n W ds)) : PE X (.List es pos) (tE A X.K W fun env h Q Xm => ds env h (fun vs h1 => Q (.ref h1.length) (h1 ++ [.lst vs])) Xm) := by
  refine PE.weak (pe_lst ha) fun σ H Q ⟨ρ, env, h, Qm, Xm, r, e, d, q, x⟩ => ?_
  refine ⟨ρ, env, h, _, Xm, r, e, d, fun vs h1 d1 l1 ρ1 H1 v1 x1 r1 p1 => ?_, x⟩
  exact ⟨by rw [← p1.length, l1]; exact hs, fun p hp => (q.mono r1 x1).newL r1 d1 p1 hp⟩
/-! calls -/
variable {f x : Str} {p : Pos}
theorem e_prm {T : Bool} {id : String} {pm : Pm} (hc : CallR X (if T then .type id else .builtin id) (rP A X.K pm)) (hg : Gl X f) (hm : X.mg f = none) (hv : bootBuiltins f = some (if T then .type id else .builtin id)) (ha : PA X (e :: es) (tAs A X.K n W ds))
    (hn : f ≠ "__name__") (hdb : (f == ("__debug__" : Str)) = false) (he : starEach (e :: es) X.env = (false, eval e X.env) :: starEach es X.env) (hpl : (backTo pos (starEach es X.env)).any (·.1) = false) :
    PE X (.Call (.Name f p) (e :: es) [] pos) (tE A X.K W fun env h Q Xm => ds env h (fun vs h1 => pmR pm vs h1 Q) Xm) := by
  have fin : ∀ σ H Q, tE A X.K W (fun env h Q Xm => ds env h (fun vs h1 => pmR pm vs h1 Q) Xm) σ H Q → tCB (rP A X.K pm) (tAs A X.K n W ds) σ H Q := fun σ H Q ⟨ρ, env, h, Qm, Xm, r, e, d, q, x⟩ =>
    ⟨ρ, env, h, _, Xm, r, e, d, fun vs h1 d1 _ ρ1 H1 v1 x1 r1 p1 => ⟨ρ1, h1, vs, Qm, r1, p1, d1, q.mono r1 x1⟩, x⟩
  cases T with
  | true => exact PE.weak (pe_callTy hc hg hm hv ha hn hdb he hpl) fin
  | false => exact PE.weak (pe_callB hc hg hm hv ha hn hdb he hpl) fin
/-- a def of the text -/
structure FnAt (A : Ads) (X : Cx) (k : Nat) (f : Addr) (np : Nat) (φ : FS) : Prop where
  kp : PySem.W.keepIn X.K (.ref f) = true
  ok : ∃ fd ps, Binds X.K fd ps [] ∧ FnOk X.prog X.w X.K X.mg X.base (L2.CX X.prog X.w) k f fd ps (spM A X.K np φ)
theorem passW (tk : Takes X W) (σ : L2.St) : PassesAt (L2.CX X.prog X.w) X σ (fun c d H => W c d σ H) := passAt tk σ
theorem e_call {np k : Nat} {fa : Addr} {φ : FS} (F : FnAt A X k fa np φ) (hr : Room k X.A) (hg : Gl X f) (hm : X.mg f = some (.ref fa)) (tk : Takes X W) (hl : n = np)
    (ha : PA X (e :: es) (tAs A X.K n W ds)) (hdb : (f == ("__debug__" : Str)) = false) (he : starEach (e :: es) X.env = (false, eval e X.env) :: starEach es X.env) (hpl : (backTo pos (starEach es X.env)).any (·.1) = false) :
    PE X (.Call (.Name f p) (e :: es) [] pos) (tE A X.K W fun env h Q Xm => ds env h (fun vs h1 => φ vs h1 Q Xm) Xm) := by
  obtain ⟨fd, ps, hb, ok⟩ := F.ok
  refine PE.weak (pe_callSD (dvs := []) ok hr hg hm F.kp hb .nil (E := fun σ c d H => W c d σ H) (passW tk) ha hdb he hpl) fun σ H Q ⟨ρ, env, h, Qm, Xm, r, e, d, q, x⟩ => ?_
  refine ⟨ρ, env, h, _, Xm, r, e, d, fun vs h1 d1 l1 ρ1 H1 v1 x1 r1 p1 => ?_, x⟩
  show spM A X.K np φ (v1 ++ []) H1 Q _
  rw [List.append_nil]
  exact ⟨by rw [← p1.length, l1]; exact hl, ρ1, h1, vs, Qm, Xm, r1, p1, d1, q.mono r1 x1, x.mono r1 x1⟩
end
end Wg
open PySem PySem.Spec PyProof.Rows
set_option linter.all false
set_option Elab.async false
namespace Wg
open L2
/-! ### what is walked -/
section
variable {A : Ads} {K : PySem.W.Frag} {ρ : List Addr} {h : MH} {H : Hp} {a : Addr} {xs : List M} {ys : List V}
theorem it_list {k : Nat} (r : HR K A.ca ρ h H) (hx : getL h k = some xs) (ea : ρ[k]? = some a) : ItOK A K (Itl K a) xs (fun h' => getL h' k = some xs) ρ H where
  go := fun i ρ1 h1 H1 r1 x1 c hi => by
    obtain ⟨us, e1, q1⟩ := r1.lst (getL_lst c) (x1.ix ea)
    obtain ⟨y, e2, _⟩ := q1.get (List.getElem?_eq_getElem hi)
    exact ⟨us, y, .of e1, e2⟩
  stop := fun i ρ1 h1 H1 r1 x1 c hi => by
    obtain ⟨us, e1, q1⟩ := r1.lst (getL_lst c) (x1.ix ea)
    exact ⟨us, .of e1, by rw [← q1.length]; exact hi⟩
  yld := fun i ρ1 h1 H1 x H' r1 x1 c hi y => by
    obtain ⟨rfl, y⟩ := y
    obtain ⟨us, e1, q1⟩ := r1.lst (getL_lst c) (x1.ix ea)
    obtain ⟨z, e2, q2⟩ := q1.get (List.getElem?_eq_getElem hi)
    have := y us (.of e1)
    rw [e2] at this; cases this
    exact ⟨r1, .refl, _, List.getElem?_eq_getElem hi, q2⟩
theorem it_tup (r : HR K A.ca ρ h H) (s : SqT K H a ys) (q : Reps K ρ H xs ys) : ItOK A K (Itt K a) xs (fun _ => True) ρ H where
  go := fun i ρ1 h1 H1 r1 x1 c hi => by
    obtain ⟨y, e2, _⟩ := q.get (List.getElem?_eq_getElem hi)
    exact ⟨ys, y, x1.sqT r s, e2⟩
  stop := fun i ρ1 h1 H1 r1 x1 c hi => ⟨ys, x1.sqT r s, by rw [← q.length]; exact hi⟩
  yld := fun i ρ1 h1 H1 x H' r1 x1 c hi y => by
    obtain ⟨rfl, y⟩ := y
    obtain ⟨z, e2, q2⟩ := (q.mono r x1).get (List.getElem?_eq_getElem hi)
    have := y ys (x1.sqT r s)
    rw [e2] at this; cases this
    exact ⟨r1, .refl, _, List.getElem?_eq_getElem hi, q2⟩
theorem SqF.ext {ρ1 : List Addr} {H1 : Hp} (r : HR K A.ca ρ h H) (x1 : Ext ρ H ρ1 H1) (s : SqF K H a ys) : SqL K H1 a ys := (x1.sqF r s).sq
theorem it_fz (r : HR K A.ca ρ h H) (s : SqF K H a ys) (q : Reps K ρ H xs ys) : ItOK A K (Itl K a) xs (fun _ => True) ρ H where
  go := fun i ρ1 h1 H1 r1 x1 c hi => by
    obtain ⟨y, e2, _⟩ := q.get (List.getElem?_eq_getElem hi)
    exact ⟨ys, y, s.ext r x1, e2⟩
  stop := fun i ρ1 h1 H1 r1 x1 c hi => ⟨ys, s.ext r x1, by rw [← q.length]; exact hi⟩
  yld := fun i ρ1 h1 H1 x H' r1 x1 c hi y => by
    obtain ⟨rfl, y⟩ := y
    obtain ⟨z, e2, q2⟩ := (q.mono r x1).get (List.getElem?_eq_getElem hi)
    have := y ys (s.ext r x1)
    rw [e2] at this; cases this
    exact ⟨r1, .refl, _, List.getElem?_eq_getElem hi, q2⟩
theorem it_str {z : List Nat} : ItOK A K (Its (mkS z)) (z.map fun c => .str [c]) (fun _ => True) ρ H where
  go := fun i ρ1 h1 H1 r1 x1 c hi => by
    show i < (mkS z).cps.size
    simpa [mkS] using hi
  stop := fun i ρ1 h1 H1 r1 x1 c hi => by
    show (mkS z).cps.size ≤ i
    simpa [mkS] using hi
  yld := fun i ρ1 h1 H1 x H' r1 x1 c hi y => by
    obtain ⟨rfl, c, hc, rfl⟩ := y
    refine ⟨r1, .refl, .str [c], ?_, .str [c]⟩
    have : z[i]? = some c := by simpa [mkS] using hc
    rw [List.getElem?_map, this]; rfl
theorem it_rng {lo hi : Int} {n : Nat} (hn : n = (hi - lo).toNat) : ItOK A K (Itr lo n) (rngL lo hi) (fun _ => True) ρ H where
  go := fun i ρ1 h1 H1 r1 x1 c hl => by
    show i < n
    simpa [rngL, hn] using hl
  stop := fun i ρ1 h1 H1 r1 x1 c hl => by
    show n ≤ i
    simpa [rngL, hn] using hl
  yld := fun i ρ1 h1 H1 x H' r1 x1 c hl y => by
    obtain ⟨rfl, rfl⟩ := y
    refine ⟨r1, .refl, .int (lo + (i : Nat)), ?_, .int _⟩
    have : i < (hi - lo).toNat := by simpa [rngL] using hl
    simp only [rngL, List.getElem?_map, List.getElem?_range this]
    rfl
theorem rngL_length (a b : Int) : (rngL a b).length = (b - a).toNat := by simp [rngL]
end
section
variable {A : Ads} {X : Cx} {W : WX} {a b l tg : Expr} {da db : WE} {es : List Expr} {ds : Env → MH → (List M → MH → Prop) → (Exn → MH → Prop) → Prop}
/-- over a value -/
theorem i_on (hl : PE X l (tE A X.K W da)) : PI X tg l (tIt A X.K W fun env h K Xm => da env h (fun v h1 => onR v h1 K) Xm) := by
  refine ⟨fun pins s σ H R I ⟨ρ, env, h, Km, Xm, r, e, d, q, x⟩ => ?_⟩
  refine thn (hl.run pins s σ H (fun v' H1 => ∃ v h1 ρ1, onR v h1 Km ∧ Ext ρ H ρ1 H1 ∧ HR X.K A.ca ρ1 h1 H1 ∧ Rep X.K ρ1 H1 v v') I
    ⟨ρ, env, h, _, Xm, r, e, d, fun v h1 d1 ρ1 H1 v1 x1 r1 p1 => ⟨v, h1, ρ1, d1, x1, r1, p1⟩, x⟩) fun v s1 ⟨x', H1, I1, rv, v, h1, ρ1, d1, x1, r1, p1⟩ => ?_
  unfold onR at d1
  split at d1
  · cases p1 with | tup sa qa =>
    cases rv
    obtain ⟨its, rv, p, hz⟩ := I1.tuple sa
    refine wpAny_pyIter_tuple (show s1.heap.IsTuple _ its.toArray from p) ?_
    refine ⟨s1.heap.objs.size, [s1.heap.objs.size], _, _, H1, rfl, I1.kept (t' := s1.toks) fun b o e => Heap.get?_push_of_some _ e, turn_tuple _ _, ⟨_, Heap.get?_push_size _ rfl, rfl, rfl⟩, fun b hb => ?_,
      q _ _ h1 d1 ρ1 H1 _ x1 r1 (by rw [qa.length]; exact hz) (it_tup r1 sa qa)⟩
    have e : b = s1.heap.objs.size := by simpa using hb
    subst e
    exact I1.fpOk (Nat.le_refl _) (I1.hok.fresh (Nat.le_refl _))
  · cases p1 with | fz sa qa =>
    cases rv
    obtain ⟨its, rv, p, hz⟩ := I1.list sa.sq
    refine wpAny_pyIter_list p.isList ?_
    refine ⟨s1.heap.objs.size, [s1.heap.objs.size], _, _, H1, rfl, I1.kept (t' := s1.toks) fun b o e => Heap.get?_push_of_some _ e, turn_list _ _, ⟨_, Heap.get?_push_size _ rfl, rfl, rfl⟩, fun b hb => ?_,
      q _ _ h1 d1 ρ1 H1 _ x1 r1 (by rw [qa.length]; exact hz) (it_fz r1 sa qa)⟩
    have e : b = s1.heap.objs.size := by simpa using hb
    subst e
    exact I1.fpOk (Nat.le_refl _) (I1.hok.fresh (Nat.le_refl _))
  · cases p1
    obtain ⟨hz, d1⟩ := d1
    obtain ⟨t, rfl⟩ := rv
    have qq := q _ _ h1 d1 ρ1 H1 _ x1 r1 (by simpa using hz) it_str
    cases ha : (mkS _).cps.all (· < 128)
    · exact wpAny_pyIter_wide ha (pi_one (tk := s1.toks) I1 _ (turn_str _ _ t "str_iterator" (.inr rfl)) ⟨_, Heap.get?_push_size _ rfl, rfl, rfl⟩ qq)
    · exact wpAny_pyIter_ascii ha (pi_one (tk := s1.toks) I1 _ (turn_str _ _ t "str_ascii_iterator" (.inl rfl)) ⟨_, Heap.get?_push_size _ rfl, rfl, rfl⟩ qq)
  · cases p1 with | ref ea =>
    cases rv
    obtain ⟨xs, hx, d1⟩ := d1
    obtain ⟨us, e1, q1⟩ := r1.lst (getL_lst hx) ea
    obtain ⟨its, rv, p, hz⟩ := I1.list (SqL.of e1)
    refine wpAny_pyIter_list p.isList ?_
    refine ⟨s1.heap.objs.size, [s1.heap.objs.size], _, _, H1, rfl, I1.kept (t' := s1.toks) fun b o e => Heap.get?_push_of_some _ e, turn_list _ _, ⟨_, Heap.get?_push_size _ rfl, rfl, rfl⟩, fun b hb => ?_,
      q _ _ h1 d1 ρ1 H1 _ x1 r1 (by rw [q1.length]; exact hz) (it_list r1 hx ea)⟩
    have e : b = s1.heap.objs.size := by simpa using hb
    subst e
    exact I1.fpOk (Nat.le_refl _) (I1.hok.fresh (Nat.le_refl _))
  · exact d1.elim
theorem i_rng1 {p pos : Pos} (hg : Gl X "range") (hm : X.mg "range" = none) (hs : starEach [a] X.env = [(false, eval a X.env)]) (ha : PA X [a] (tAs A X.K 1 W ds)) :
    PI X tg (.Call (.Name "range" p) [a] [] pos) (tIt A X.K W fun env h K Xm => ds env h (fun vs h1 => rngR vs h1 K) Xm) := by
  refine PI.weak (pi_range1 hg hm ha hs) fun σ H R ⟨ρ, env, h, Km, Xm, r, e, d, q, x⟩ => ?_
  refine ⟨ρ, env, h, _, Xm, r, e, d, fun vs h1 d1 d0 ρ1 H1 v1 x1 r1 p1 => ?_, x⟩
  replace d1 : rngR vs h1 Km := d1
  unfold rngR at d1
  split at d1
  · cases p1 with | cons q0 t =>
    cases t
    cases q0
    obtain ⟨⟨k1, k2, k3, k4, k5⟩, d1⟩ := d1
    rename_i b
    exact ⟨b, rfl, k3, k4, q _ _ h1 d1 ρ1 H1 _ x1 r1 (by rw [rngL_length]; exact k5) (it_rng (by simp))⟩
  · simp at d0
  · exact d1.elim
theorem i_rng2 {p pos : Pos} (hg : Gl X "range") (hm : X.mg "range" = none) (hs : starEach [a, b] X.env = [(false, eval a X.env), (false, eval b X.env)]) (hs2 : starEach [b] X.env = [(false, eval b X.env)])
    (ha : PA X [a, b] (tAs A X.K 2 W ds)) :
    PI X tg (.Call (.Name "range" p) [a, b] [] pos) (tIt A X.K W fun env h K Xm => ds env h (fun vs h1 => rngR vs h1 K) Xm) := by
  refine PI.weak (pi_range2 hg hm ha hs hs2) fun σ H R ⟨ρ, env, h, Km, Xm, r, e, d, q, x⟩ => ?_
  refine ⟨ρ, env, h, _, Xm, r, e, d, fun vs h1 d1 d0 ρ1 H1 v1 x1 r1 p1 => ?_, x⟩
  replace d1 : rngR vs h1 Km := d1
  unfold rngR at d1
  split at d1
  · simp at d0
  · cases p1 with | cons q0 t =>
    cases t with | cons q1 t =>
    cases t
    cases q0; cases q1
    obtain ⟨⟨k1, k2, k3, k4, k5⟩, d1⟩ := d1
    rename_i b c
    exact ⟨b, c, rfl, ⟨k1, k2, k3, k4⟩, q _ _ h1 d1 ρ1 H1 _ x1 r1 (by rw [rngL_length]; exact k5) (it_rng rfl)⟩
  · exact d1.elim
end
end Wg
open PySem PySem.Spec PyProof.Rows
set_option linter.all false
set_option Elab.async false
namespace Wg
open L2
/-! ### methods, isinstance, comprehensions -/
def mtT : Mt → String
  | .join => "str"
  | _ => "list"
def mtId : Mt → String
  | .join => "str.join"
  | .append => "list.append"
  | .extend => "list.extend"
  | .pop => "list.pop"
def mtNm : Mt → Str
  | .join => "join"
  | .append => "append"
  | .extend => "extend"
  | .pop => "pop"
section
variable {n : Nat} {A : Ads} {X : Cx} {W : WX} {a b l tg o e : Expr} {da db dob : WE} {es : List Expr} {ds : Env → MH → (List M → MH → Prop) → (Exn → MH → Prop) → Prop} {apos cpos pos : Pos} {nm : Str} {T id : String} {mt : Mt}
theorem mtTy_ok {ρ : List Addr} {h : MH} {H : Hp} {x : M} {v : V} (r : HR X.K A.ca ρ h H) (p : Rep X.K ρ H x v) (m : mtTy mt x h = true) : tyV X.K (mtT mt) v H := by
  have lst : ∀ k, x = .ref k → (getL h k).isSome = true → tyV X.K "list" v H := fun k e m' => by
    subst e
    cases p with | ref ea =>
    obtain ⟨xs, hx⟩ := Option.isSome_iff_exists.mp m'
    obtain ⟨us, e1, q1⟩ := r.lst (getL_lst hx) ea
    exact .inl ⟨rfl, us, .of e1⟩
  cases mt <;> cases x <;> simp only [mtTy, Bool.false_eq_true] at m
  · cases p; rfl
  · exact lst _ rfl m
  · exact lst _ rfl m
  · exact lst _ rfl m
theorem mt_all : MtR X (mtId mt) (rM A X.K mt) := by
  cases mt
  · exact mtok_joinM
  · exact mtok_appendM
  · exact mtok_extendM
  · exact mtok_popM
theorem mt_slot : PlainAttrs (mtT mt) ∧ Slot (mtT mt) (mtNm mt) (mtId mt) ∧ typeOf (.builtin (mtId mt)) = pure (.type "method_descriptor") := by
  cases mt
  · exact ⟨F.plainAttrs_str, F.slot_str_join, F.type_str_join⟩
  · exact ⟨F.plainAttrs_list, F.slot_list_append, F.type_list_append⟩
  · exact ⟨F.plainAttrs_list, F.slot_list_extend, F.type_list_extend⟩
  · exact ⟨F.plainAttrs_list, F.slot_list_pop, F.type_list_pop⟩
theorem e_mth0 (ho : PE X o (tE A X.K W dob)) (hbase : attributeBase o (mtNm mt) X.env (eval o X.env) = eval o X.env) (hline : (apos.endLine == cpos.line) = true) :
    PE X (.Call (.Attribute o (mtNm mt) apos) [] [] cpos) (tE A X.K W fun env h Q Xm => dob env h (fun x h1 => mtTy mt x h1 = true ∧ mtR mt x [] h1 Q) Xm) := by
  obtain ⟨s1, s2, s3⟩ := mt_slot (mt := mt)
  refine PE.weak (pe_bm0 s1 s2 s3 (mt_all (A := A)) ho hbase hline) fun σ H Q ⟨ρ, env, h, Qm, Xm, r, e, d, q, x⟩ => ?_
  refine ⟨ρ, env, h, _, Xm, r, e, d, q_then r e x fun v h1 ρ1 H1 v1 d1 x1 r1 e1 X1 p1 => ?_, x⟩
  exact ⟨mtTy_ok r1 p1 d1.1, ρ1, h1, v, [], Qm, r1, p1, .nil, d1.2, q.mono r1 x1⟩
theorem e_mth (ho : PE X o (tE A X.K W dob)) (ha : PA X (e :: es) (tAs A X.K n W ds)) (hbase : attributeBase o (mtNm mt) X.env (eval o X.env) = eval o X.env) (hline : (apos.endLine == cpos.line) = true)
    (hfew : ((backTo cpos (starEach (e :: es) X.env)).all (fun x => !x.1) && (backToKw cpos (keywordEach [] X.env)).all (fun x => x.1.isSome)
      && decide ((e :: es).length + ([] : List Keyword).length + (if ([] : List Keyword).isEmpty then 0 else 1) < 30)) = true)
    (hs : starEach (e :: es) X.env = (false, eval e X.env) :: starEach es X.env) (hplain : (backTo cpos (starEach es X.env)).any (·.1) = false) :
    PE X (.Call (.Attribute o (mtNm mt) apos) (e :: es) [] cpos) (tE A X.K W fun env h Q Xm => dob env h (fun x h1 => mtTy mt x h1 = true ∧ ds env h1 (fun vs h2 => mtR mt x vs h2 Q) Xm) Xm) := by
  obtain ⟨s1, s2, s3⟩ := mt_slot (mt := mt)
  refine PE.weak (pe_bm s1 s2 s3 (mt_all (A := A)) ho ha hbase hfew hline hs hplain) fun σ H Q ⟨ρ, env, h, Qm, Xm, r, e, d, q, x⟩ => ?_
  refine ⟨ρ, env, h, _, Xm, r, e, d, q_then r e x fun v h1 ρ1 H1 v1 d1 x1 r1 e1 X1 p1 => ?_, x⟩
  refine ⟨mtTy_ok r1 p1 d1.1, ρ1, env, h1, _, Xm, r1, e1, d1.2, fun vs h2 d2 _ ρ2 H2 v2 x2 r2 p2 => ?_, X1⟩
  exact ⟨ρ2, h2, v, vs, Qm, r2, p1.mono r1 x2, p2, d2, (q.mono r1 x1).mono r2 x2⟩
/-! isinstance -/
def tyNm : Ty → String
  | .tuple => "tuple" | .str => "str" | .int => "int" | .bool => "bool" | .list => "list"
theorem kit_all (t : Ty) : kitB "NoneType" (tyNm t) = some false ∧ kitB "bool" (tyNm t) = some (t == .bool || t == .int) ∧ kitB "int" (tyNm t) = some (t == .int) ∧ kitB "str" (tyNm t) = some (t == .str) ∧
    kitB "tuple" (tyNm t) = some (t == .tuple) ∧ kitB "list" (tyNm t) = some (t == .list) := by
  cases t <;> decide +kernel
theorem isi_ok {K : PySem.W.Frag} {ρ : List Addr} {h : MH} {H : Hp} {x : M} {v : V} {t : Ty} {k : Bool} (r : HR K A.ca ρ h H) (p : Rep K ρ H x v) (m : isiV t h x = some k) : ∃ u, TyX K H v u ∧ PySem.W.kitOne K u (.type (tyNm t)) = some k := by
  obtain ⟨k1, k2, k3, k4, k5, k6⟩ := kit_all t
  cases p with
  | non => cases m; exact ⟨_, .base .non, kit_ty k1⟩
  | bl b => cases m; exact ⟨_, .base (.bl b), kit_ty k2⟩
  | int b => cases m; exact ⟨_, .base (.int b), kit_ty k3⟩
  | str b => cases m; exact ⟨_, .base (.str _), kit_ty k4⟩
  | tup s q =>
    cases m
    rcases s with (s | ⟨o, s⟩) | ⟨o, its, n, s1, s2, _⟩
    · exact ⟨_, .base (.tup s), kit_ty k5⟩
    · exact ⟨_, .fTuple s, kit_ty k5⟩
    · exact ⟨_, .kTuple s1 s2, kit_ty k5⟩
  | fz s q => cases m
  | ref ea =>
    simp only [isiV] at m
    split at m
    · rename_i hs
      cases m
      obtain ⟨xs, hx⟩ := Option.isSome_iff_exists.mp hs
      obtain ⟨us, e1, q1⟩ := r.lst (getL_lst hx) ea
      exact ⟨_, .base (.lst e1), kit_ty k6⟩
    · cases m
theorem e_isi {p p2 : Pos} {t : Ty} (hg : Gl X "isinstance") (hm : X.mg "isinstance" = none) (hg2 : Gl X (tyNm t)) (hm2 : X.mg (tyNm t) = none) (ha : PE X a (tE A X.K W da)) (hs : ∀ es, starEach (a :: es) X.env = (false, eval a X.env) :: starEach es X.env) :
    PE X (.Call (.Name "isinstance" p) [a, .Name (tyNm t) p2] [] pos) (tE A X.K W fun env h Q Xm => da env h (fun v h1 => ∃ b, isiV t h1 v = some b ∧ Q (.bl b) h1) Xm) := by
  have hb : bootBuiltins (tyNm t) = some (.type (tyNm t)) := by cases t <;> decide +kernel
  have hi : bootBuiltins "isinstance" = some (.builtin "isinstance") := by decide +kernel
  have hc : PE X (.Name (tyNm t) p2) (tC (.ty (tyNm t))) := pe_bltn hg2 hm2 hb rfl (by cases t <;> decide) (by cases t <;> decide)
  refine PE.weak (pe_callB call_isi hg hm hi (pa_cons ha (pa_cons hc pa_nil rfl) (hs _)) (by decide) (by decide) (hs _) rfl) fun σ H Q ⟨ρ, env, h, Qm, Xm, r, e, d, q, x⟩ => ?_
  refine ⟨ρ, env, h, _, Xm, r, e, d, q_then r e x fun v h1 ρ1 H1 v1 d1 x1 r1 e1 X1 p1 => ?_, x⟩
  obtain ⟨b, hb, d1⟩ := d1
  obtain ⟨u, h1, h2⟩ := isi_ok r1 p1 hb
  exact ⟨v1, _, u, _, b, rfl, .ty _, h1, h2, (q.mono r1 x1).here r1 d1 (.bl b)⟩
end
end Wg
open PySem PySem.Spec PyProof.Rows
set_option linter.all false
set_option Elab.async false
namespace Wg
open L2
/-! ### targets -/
def gAll : List Nat → TGs
  | [] => gNil
  | i :: is => gCons (gName i) (gAll is)
def gB (K : PySem.W.Frag) : Tg → TG
  | .nm i => gName i
  | .tp is => gTup K is.length (gAll is)
def Tg.ix : Tg → List Nat
  | .nm i => [i]
  | .tp is => is
theorem wipe_set {σ : List (Option V)} {i : Nat} {x : Option V} : ∀ {vs : List Nat}, i ∈ vs → wipe (σ.set i x) vs = wipe σ vs
  | [], h => by simp at h
  | v :: vs, h => by
    unfold L2.wipe
    by_cases e : i ∈ vs
    · rw [wipe_set e]
    · have ev : i = v := by rcases List.mem_cons.mp h with h | h; exact h; exact absurd h e
      subst ev
      have : ∀ (vs : List Nat) (σ : List (Option V)), i ∉ vs → wipe (σ.set i x) vs = (wipe σ vs).set i x := by
        intro vs
        induction vs with
        | nil => intro σ _; rfl
        | cons w ws ih =>
          intro σ hn
          simp only [List.mem_cons, not_or] at hn
          unfold L2.wipe
          rw [ih σ hn.2, List.set_comm _ _ (Ne.symm hn.1).symm]
      rw [this vs σ e, List.set_set]
theorem wipe_wipe {σ : List (Option V)} {us : List Nat} : ∀ {vs : List Nat}, (∀ i ∈ vs, i ∈ us) → wipe (wipe σ vs) us = wipe σ us
  | [], _ => rfl
  | v :: vs, h => by
    show wipe ((wipe σ vs).set v none) us = _
    rw [wipe_set (h v (by simp)), wipe_wipe fun i hi => h i (by simp [hi])]
section
variable {A : Ads} {K : PySem.W.Frag} {ρ ρ1 : List Addr} {h : MH} {H H1 : Hp}
theorem gAll_ok {us : List Nat} {Q : List (Option V) → Hp → Prop} : ∀ {is : List Nat} {ms : List M} {vs : List V} {env : Env} {σ : List (Option V)}, ms.length = is.length → Reps K ρ H ms vs → ER K ρ H env σ → (∀ i ∈ is, i ∈ us) →
    (∀ σ', ER K ρ H (setAll is ms env) σ' → wipe σ' us = wipe σ us → Q σ' H) → gAll is vs σ H Q
  | [], _, _, env, σ, hl, q, e, hu, k => by
    cases q with
    | nil => exact ⟨rfl, k σ e rfl⟩
    | cons _ _ => simp at hl
  | i :: is, _, _, env, σ, hl, q, e, hu, k => by
    cases q with
    | nil => simp at hl
    | cons q0 t =>
      refine ⟨_, _, rfl, gAll_ok (env := env.set i (some _)) (by simpa using hl) t (e.set q0) (fun j hj => hu j (by simp [hj])) fun σ' e' w' => k σ' (by simpa [setAll] using e') ?_⟩
      rw [w', wipe_set (hu i (by simp))]
theorem gB_ok {us : List Nat} {t : Tg} {m : M} {v : V} {env env' : Env} {σ : List (Option V)} {Q : List (Option V) → Hp → Prop} (b : bindT t m env = some env') (q : Rep K ρ H m v) (e : ER K ρ H env σ) (hu : ∀ i ∈ t.ix, i ∈ us)
    (k : ∀ σ', ER K ρ H env' σ' → wipe σ' us = wipe σ us → Q σ' H) : gB K t v σ H Q := by
  cases t with
  | nm i =>
    simp only [bindT, Option.some.injEq] at b
    subst b
    exact k _ (e.set q) (wipe_set (hu i (by simp [Tg.ix])))
  | tp is =>
    cases q with
    | tup s qs =>
      simp only [bindT] at b
      split at b
      · rename_i hl
        cases b
        exact ⟨_, _, rfl, s, by rw [← qs.length]; exact hl, gAll_ok hl qs e hu k⟩
      · cases b
    | _ => simp [bindT] at b
/-! an object aside -/
theorem sqT_side {D a : Addr} {o u : HO} {ys : List V} (hD : H D = some o) (no : ∀ zs, o ≠ .tup zs) (no2 : ∀ x y, o ≠ .frz x y) (s : SqT K H a ys) : SqT K (upd H D u) a ys := by
  rcases s with (s | ⟨x, s⟩) | s
  · exact .inl (.inl (by rw [upd_ne (ne_of s hD (Ne.symm (no ys)))]; exact s))
  · exact .inl (.inr ⟨x, by rw [upd_ne (ne_of s hD (Ne.symm (no2 _ _)))]; exact s⟩)
  · exact .inr s
theorem sqF_side {D a : Addr} {o u : HO} {ys : List V} (hD : H D = some o) (no2 : ∀ x y, o ≠ .frz x y) (s : SqF K H a ys) : SqF K (upd H D u) a ys := by
  rcases s with ⟨x, s⟩ | s
  · exact .inl ⟨x, by rw [upd_ne (ne_of s hD (Ne.symm (no2 _ _)))]; exact s⟩
  · exact .inr s
mutual
theorem Rep.side {D : Addr} {u : HO} {zs : List V} (hD : H D = some (.lst zs)) : ∀ {m : M} {v : V}, Rep K ρ H m v → Rep K ρ (upd H D u) m v
  | _, _, .non => .non
  | _, _, .bl b => .bl b
  | _, _, .int i => .int i
  | _, _, .str s => .str s
  | _, _, .tup s q => .tup (sqT_side hD (fun _ z => by cases z) (fun _ _ z => by cases z) s) (Reps.side hD q)
  | _, _, .ref e => .ref e
  | _, _, .fz s q => .fz (sqF_side hD (fun _ _ z => by cases z) s) (Reps.side hD q)
theorem Reps.side {D : Addr} {u : HO} {zs : List V} (hD : H D = some (.lst zs)) : ∀ {m : List M} {v : List V}, Reps K ρ H m v → Reps K ρ (upd H D u) m v
  | _, _, .nil => .nil
  | _, _, .cons q t => .cons (Rep.side hD q) (Reps.side hD t)
end
theorem FR.side {D : Addr} {u : HO} {zs : List V} (hD : H D = some (.lst zs)) : ∀ {m : List (Str × M)} {v : List (Str × V)}, FR K ρ H m v → FR K ρ (upd H D u) m v
  | [], [], _ => trivial
  | (_, _) :: _, (_, _) :: _, ⟨e, q, t⟩ => ⟨e, q.side hD, FR.side hD t⟩
theorem HR.side {D : Addr} {u : HO} {zs : List V} (r : HR K A.ca ρ h H) (hD : H D = some (.lst zs)) (nD : D ∉ ρ) : HR K A.ca ρ h (upd H D u) := by
  refine ⟨r.len, r.nd, fun k o a hk ha => ?_⟩
  have q := r.ob k o a hk ha
  have ne : a ≠ D := fun z => nD (z ▸ List.mem_of_getElem? ha)
  cases o with
  | lst xs => obtain ⟨ys, e, t⟩ := q; exact ⟨ys, by rw [upd_ne ne]; exact e, t.side hD⟩
  | dct _ => exact q.elim
  | ins c fs => obtain ⟨dx, gs, e, t⟩ := q; exact ⟨dx, gs, by rw [upd_ne ne]; exact e, FR.side hD t⟩
theorem Ext.side {D : Addr} {u : HO} (x : Ext ρ H ρ1 H1) (hD : H D = none) : Ext ρ H ρ1 (upd H1 D u) := ⟨x.app, fun a o e n => by rw [upd_ne (ne_of_none e hD)]; exact x.keep a o e n⟩
theorem HR.fresh0 (r : HR K A.ca ρ h H) {D : Addr} (hD : H D = none) {u : HO} : HR K A.ca ρ h (upd H D u) ∧ Ext ρ H ρ (upd H D u) := by
  have x : Ext ρ H ρ (upd H D u) := ⟨⟨[], by simp, by simp⟩, fun a o e n => by rw [upd_ne (ne_of_none e hD)]; exact e⟩
  refine ⟨⟨r.len, r.nd, fun k o a hk ha => ?_⟩, x⟩
  have q := r.ob k o a hk ha
  have ne : a ≠ D := fun z => r.fresh hD (z ▸ List.mem_of_getElem? ha)
  cases o with
  | lst xs => obtain ⟨ys, e, t⟩ := q; exact ⟨ys, by rw [upd_ne ne]; exact e, t.mono r x⟩
  | dct _ => exact q.elim
  | ins c fs => obtain ⟨dx, gs, e, t⟩ := q; exact ⟨dx, gs, by rw [upd_ne ne]; exact e, FR.mono r x t⟩
mutual
theorem Rep.more {t : List Addr} : ∀ {m : M} {v : V}, Rep K ρ H m v → Rep K (ρ ++ t) H m v
  | _, _, .non => .non
  | _, _, .bl b => .bl b
  | _, _, .int i => .int i
  | _, _, .str s => .str s
  | _, _, .tup s q => .tup s (Reps.more q)
  | _, _, .ref e => .ref (by rw [List.getElem?_append_left (List.getElem?_eq_some_iff.mp e).1]; exact e)
  | _, _, .fz s q => .fz s (Reps.more q)
theorem Reps.more {t : List Addr} : ∀ {m : List M} {v : List V}, Reps K ρ H m v → Reps K (ρ ++ t) H m v
  | _, _, .nil => .nil
  | _, _, .cons q t => .cons (Rep.more q) (Reps.more t)
end
theorem FR.more {t : List Addr} : ∀ {m : List (Str × M)} {v : List (Str × V)}, FR K ρ H m v → FR K (ρ ++ t) H m v
  | [], [], _ => trivial
  | (_, _) :: _, (_, _) :: _, ⟨e, q, t⟩ => ⟨e, q.more, FR.more t⟩
theorem HR.adopt {D : Addr} {xs : List M} {ys : List V} (r : HR K A.ca ρ h H) (hD : H D = some (.lst ys)) (nD : D ∉ ρ) (q : Reps K ρ H xs ys) : HR K A.ca (ρ ++ [D]) (h ++ [.lst xs]) H := by
  refine ⟨by simp [r.len], ?_, fun k o a hk ha => ?_⟩
  · rw [List.nodup_append]
    exact ⟨r.nd, by simp, fun a ha b hb => by simp at hb; subst hb; rintro rfl; exact nD ha⟩
  · by_cases hl : k < ρ.length
    · rw [List.getElem?_append_left hl] at ha
      rw [List.getElem?_append_left (by rw [← r.len]; exact hl)] at hk
      have z := r.ob k o a hk ha
      cases o with
      | lst xs => obtain ⟨ys, e, t⟩ := z; exact ⟨ys, e, t.more⟩
      | dct _ => exact z.elim
      | ins c fs => obtain ⟨dx, gs, e, t⟩ := z; exact ⟨dx, gs, e, FR.more t⟩
    · have e1 : k = ρ.length := by
        have := (List.getElem?_eq_some_iff.mp ha).1
        simp at this; omega
      subst e1
      rw [List.getElem?_append_right (Nat.le_refl _)] at ha
      rw [r.len, List.getElem?_append_right (Nat.le_refl _)] at hk
      simp at ha hk
      subst ha; subst hk
      exact ⟨ys, hD, q.more⟩
theorem Ext.adopt {D : Addr} (x : Ext ρ H ρ1 H1) (hD : H D = none) : Ext ρ H (ρ1 ++ [D]) H1 := by
  obtain ⟨⟨t, rfl, ht⟩, k⟩ := x
  exact ⟨⟨t ++ [D], by simp, fun a m => by
    rcases List.mem_append.mp m with m | m
    · exact ht a m
    · simp at m; subst m; exact hD⟩, k⟩
theorem Ext.fresh0 (x : Ext ρ H ρ1 H1) (r1 : HR K A.ca ρ1 h H1) {D : Addr} (hD : H1 D = none) : H D = none := by
  cases q : H D with
  | none => rfl
  | some o =>
    by_cases m : D ∈ ρ
    · obtain ⟨⟨t, rfl, ht⟩, k⟩ := x
      exact absurd (List.mem_append_left t m) (r1.fresh hD)
    · rw [x.keep D o q m] at hD; cases hD
end
/-! the comprehension -/
section
variable {A : Ads} {K : PySem.W.Frag} {X : Cx} {W : WX}
theorem comp_ok {σ : List (Option V)} {H : Hp} {Q : VK} {di : Env → MH → KI → (Exn → MH → Prop) → Prop} {dc : WT} {de : WE} {t : Tg} {vs : List Nat} (ht : ∀ i ∈ t.ix, i ∈ vs)
    (hq : tE A K W (fun env h Q X => di env h (fun xs chk h1 =>
      compL chk (fun x => bindT t x (wipeE env vs)) dc de (fun _ _ => False) xs [] h1 (fun acc h2 => Q (.ref h2.length) (h2 ++ [.lst acc]))) X) σ H Q) :
    tLc (tIt A K W di) (gB K t) (tT A K (fun _ _ _ _ => False) dc) (tE A K (fun _ _ _ _ => False) de) vs σ H Q := by
  obtain ⟨ρ, env, h, Qm, Xm, r, e, d, q, x⟩ := hq
  refine ⟨ρ, env, h, _, Xm, r, e, d, fun xs chk h1 d1 ρ1 H1 J x1 r1 hz it => ?_, x⟩
  intro D hD
  have hD0 : H D = none := x1.fresh0 r1 hD
  have dn : D ∉ ρ1 := r1.fresh hD
  let CL := compL chk (fun x => bindT t x (wipeE env vs)) dc de (fun _ _ => False)
  let R0 : List M → MH → Prop := fun acc h2 => Qm (.ref h2.length) (h2 ++ [.lst acc])
  refine ⟨fun i m H' => ∃ ρ' h' acc ys, HR K A.ca ρ' h' H' ∧ Ext ρ1 H1 ρ' H' ∧ H' D = some (.lst ys) ∧ D ∉ ρ' ∧ Reps K ρ' H' acc ys ∧ CL (xs.drop i) acc h' R0 ∧ i ≤ xs.length ∧ acc.length ≤ i ∧ m = xs.length - i, ⟨xs.length, ?_⟩, ?_⟩
  · obtain ⟨r2, x2⟩ := r1.fresh0 hD (u := .lst [])
    exact ⟨ρ1, h1, [], [], r2, x2, upd_same, dn, .nil, by simpa [CL] using d1, Nat.zero_le _, Nat.le_refl _, by simp⟩
  · rintro i m H2 ⟨ρ2, h2, acc, ys, r2, x2, hD2, dn2, qa, cl, hi, ha, rfl⟩
    have x02 : Ext ρ H ρ2 H2 := x1.trans r1 x2
    by_cases hl : i < xs.length
    · right
      rw [List.drop_eq_getElem_cons hl] at cl
      obtain ⟨ck, env', hb, cl⟩ := cl
      refine ⟨it.go i ρ2 h2 H2 r2 x2 ck hl, fun H' => ∃ ρ' h' acc ys, HR K A.ca ρ' h' H' ∧ Ext ρ1 H1 ρ' H' ∧ H' D = some (.lst ys) ∧ D ∉ ρ' ∧ Reps K ρ' H' acc ys ∧ CL (xs.drop (i + 1)) acc h' R0 ∧ acc.length ≤ i + 1, ?_, ?_⟩
      · rintro H' ⟨ρ', h', acc', ys', a1, a2, a3, a4, a5, a6, a7⟩
        exact ⟨xs.length - (i + 1), by omega, ρ', h', acc', ys', a1, a2, a3, a4, a5, a6, hl, a7, rfl⟩
      · intro y H3 yl
        obtain ⟨r3, x3, m, hm, qm⟩ := it.yld i ρ2 h2 H2 y H3 r2 x2 ck hl yl
        have hm' : xs[i] = m := by rw [List.getElem?_eq_getElem hl] at hm; exact Option.some.inj hm
        rw [hm'] at hb
        have x13 := x2.trans r2 x3
        have hD3 : H3 D = some (.lst ys) := x3.keep D _ hD2 dn2
        have e3 : ER K ρ2 H3 (wipeE env vs) (wipe σ vs) := (e.mono r (x1.trans r1 x13)).wiped vs
        refine gB_ok (us := vs) hb qm e3 ht fun σ4 e4 w4 => ⟨by rw [w4, wipe_wipe fun i hi => hi], ?_⟩
        refine ⟨ρ2, env', h2, _, _, r3, e4, cl, fun b h5 d5 ρ5 H5 x5 r5 => ?_, fun _ _ z => z.elim⟩
        have x15 := x13.trans r3 x5
        have qa3 := qa.mono r2 x3
        have hD5 : H5 D = some (.lst ys) := x5.keep D _ hD3 dn2
        have dn5 : ∀ {ρ' : List Addr} {H'' : Hp}, Ext ρ2 H3 ρ' H'' → D ∉ ρ' := fun {ρ' H''} x' hm => by
          obtain ⟨⟨t, rfl, ht⟩, _⟩ := x'
          rcases List.mem_append.mp hm with z | z
          · exact dn2 z
          · rw [ht D z] at hD3; cases hD3
        cases b with
        | false =>
          dsimp only at d5 ⊢
          rw [if_neg (by simp)] at d5 ⊢
          exact ⟨ρ5, h5, acc, ys, r5, x15, hD5, dn5 x5, qa3.mono r3 x5, d5, by omega⟩
        | true =>
          dsimp only at d5 ⊢
          rw [if_pos rfl] at d5 ⊢
          refine ⟨ρ5, env', h5, _, _, r5, e4.mono r3 x5, d5, fun z h6 d6 ρ6 H6 z' x6 r6 qz => ?_, fun _ _ z => z.elim⟩
          have x36 := x5.trans r5 x6
          have hD6 : H6 D = some (.lst ys) := x36.keep D _ hD3 dn2
          have qa6 := qa3.mono r3 x36
          refine ⟨ys, hD6, by rw [← qa.length]; omega, ρ6, h6, acc ++ [z], ys ++ [z'], r6.side hD6 (dn5 x36), (x15.trans r5 x6).side hD, upd_same, dn5 x36, (qa6.append (.cons qz .nil)).side hD6, d6, by simp; omega⟩
    · left
      have hi' : xs.length ≤ i := Nat.le_of_not_lt hl
      rw [List.drop_eq_nil_of_le hi'] at cl
      obtain ⟨ck, cl⟩ := cl
      refine ⟨it.stop i ρ2 h2 H2 r2 x2 ck hi', ?_⟩
      refine q _ _ cl (ρ2 ++ [D]) H2 (.ref D) (x02.adopt hD0) (r2.adopt hD2 dn2 qa) (.ref ?_)
      rw [← r2.len, List.getElem?_append_right (Nat.le_refl _)]; simp
end
end Wg
open PySem PySem.Spec PyProof.Rows
set_option linter.all false
set_option Elab.async false
namespace Wg
open L2
/-! ### statements -/
def notComp : Expr → Bool
  | .ListComp .. => false
  | .SetComp .. => false
  | .DictComp .. => false
  | _ => true
def notTup : Expr → Bool
  | .Tuple .. => false
  | _ => true
def plainE : Expr → Bool
  | .Starred .. => false
  | .Slice .. => false
  | .Set .. => false
  | _ => true
theorem plain_star {e : Expr} (h : plainE e = true) (es : List Expr) (env : PySem.Env) : starEach (e :: es) env = (false, eval e env) :: starEach es env := by
  cases e <;> first | rfl | simp [plainE] at h
theorem plain_ix {e : Expr} (h : plainE e = true) : PlainIx e := by
  intro o i
  cases e <;> first | rfl | simp [plainE] at h
theorem plain_fold {e : Expr} (h : plainE e = true) (env : PySem.Env) (x : Value) : foldedSetIterable e env x = pure x := by
  cases e <;> first | rfl | simp [plainE] at h
theorem notComp_swaps {e : Expr} (h : notComp e = true) (t : Option Expr) (l : Nat) (env : PySem.Env) : swapsWith e t l env = pure false := by
  cases e <;> first | rfl | simp [notComp] at h
theorem notComp_sole {e : Expr} (h : notComp e = true) (t : Expr) (l : Nat) (env : PySem.Env) : swapsWithSole [t] e l env = pure false := by
  unfold swapsWithSole
  exact notComp_swaps h _ _ _
theorem notTup_stores {e : Expr} (h : notTup e = true) (ts : List Expr) (env : PySem.Env) : swappedStores ts e env = pure none := by
  unfold swappedStores
  split
  · rename_i heq
    split at heq
    · simp [notTup] at h
    · simp [notTup] at h
    · cases heq
  · rfl
theorem plain_any {pos : Pos} {env : PySem.Env} : ∀ {es : List Expr}, es.all plainE = true → (backTo pos (starEach es env)).any (·.1) = false
  | [], _ => rfl
  | e :: es, h => by
    simp only [List.all_cons, Bool.and_eq_true] at h
    rw [plain_star h.1]
    have := plain_any (pos := pos) (env := env) h.2
    simpa [backTo] using this
theorem plain_all {pos : Pos} {env : PySem.Env} : ∀ {es : List Expr}, es.all plainE = true → (backTo pos (starEach es env)).all (fun x => !x.1) = true
  | [], _ => rfl
  | e :: es, h => by
    simp only [List.all_cons, Bool.and_eq_true] at h
    rw [plain_star h.1]
    have := plain_all (pos := pos) (env := env) h.2
    simpa [backTo] using this
theorem plain_few {pos : Pos} {env : PySem.Env} {es : List Expr} (h : es.all plainE = true) (hl : es.length < 29) :
    ((backTo pos (starEach es env)).all (fun x => !x.1) && (backToKw pos (keywordEach [] env)).all (fun x => x.1.isSome) && decide (es.length + ([] : List Keyword).length + (if ([] : List Keyword).isEmpty then 0 else 1) < 30)) = true := by
  rw [plain_all h]
  simp [backToKw, keywordEach]
  omega
def noSup : Expr → Bool
  | .Call _ [] _ _ => false
  | _ => true
theorem noSup_base {o : Expr} (h : noSup o = true) (nm : Str) (env : PySem.Env) (w : Sem Value) : attributeBase o nm env w = w := by
  unfold attributeBase
  split
  · simp [noSup] at h
  · rfl
theorem swap2 {env : PySem.Env} {x y : Str} {a b : Expr} {px py pt pt2 : Pos} {kt k2 : Nat} (hk : env.scope.kind = .function) (hx : env.scope.names.lookup x = some .local) (hy : env.scope.names.lookup y = some .local) (hl : (py.line == px.line) = true)
    (hne : (x == y) = false) (hp : [a, b].all plainE = true) (hf : [a, b].all (foldedForSure 8) = false) (hc : [a, b].all (constantsAlone 8) = false) :
    swappedStores [.Tuple [.Name x px, .Name y py] kt pt] (.Tuple [a, b] k2 pt2) env = pure (some [x, y]) := by
  have hs : ([a, b].any fun | .Starred .. => true | _ => false) = false := by
    simp only [List.all_cons, List.all_nil, Bool.and_true, Bool.and_eq_true] at hp
    cases a <;> cases b <;> simp_all [plainE]
  have hb : env.blockKind = .function := by unfold Env.blockKind; rw [hk]; rfl
  have kx : env.kindOf x = some .local := hx
  have ky : env.kindOf y = some .local := hy
  have hyx : (y == x) = false := by
    have : ¬ y = x := fun z => by simp [z] at hne
    exact beq_eq_false_iff_ne.mpr this
  unfold swappedStores
  have hf' : (List.all [a, b] (foldedForSure 8)) = false := hf
  simp only [hs, hf', hc, hb, Expr.pos, kx, ky, hl, List.filterMap_cons, List.filterMap_nil, List.head?_cons, Option.map_some, Option.getD_some, beq_self_eq_true, Bool.and_self, if_true, List.length_cons, List.length_nil, List.eraseDups_cons, List.filter_cons, List.filter_nil, hyx, Bool.not_false, List.eraseDups_nil]
  split
  · rename_i z; exact absurd z (by decide)
  · split
    · rename_i z; exact absurd (hs.symm.trans z) (by simp)
    · rfl
section
variable {A : Ads} {X : Cx} {W : WX} {tg e : Expr} {de : WE} {pos : Pos} {t : Tg}
theorem s_asg (he : PE X e (tE A X.K W de)) (hg : PG X tg (gB X.K t)) (hs : swapsWithSole [tg] e pos.line X.env = pure false) (hw : swappedStores [tg] e X.env = pure none)
    (h1 : (assignEach [tg] X.env).map (·.2) = [assign tg X.env]) :
    PS X (.Assign [tg] e pos) (tSt A X.K W fun env h D Xs => de env h (fun v h1 => ∃ env', bindT t v env = some env' ∧ D.nx env' h1) (fun x h => Xs x env h)) := by
  refine PS.weak (ps_asg he hg hs hw h1) fun D σ H ⟨ρ, env, h, Dm, Xs, r, e, d, q, x⟩ => ?_
  refine ⟨ρ, env, h, _, _, r, e, d, fun v h1 d1 ρ1 H1 v1 x1 r1 p1 => ?_, fun x0 h' z ρ' H' c d x1 r1 xr => x x0 env h' z ρ' H' σ c d x1 r1 (e.mono r x1) xr⟩
  obtain ⟨env', hb, d1⟩ := d1
  exact gB_ok (us := t.ix) hb p1 (e.mono r x1) (fun i hi => hi) fun σ' e' _ => q.nx env' h1 d1 ρ1 H1 σ' x1 r1 e'
theorem s_comp {i : Nat} {y : Str} {py vpos spos : Pos} {elt iter : Expr} {ifs : List Expr} {scope : Scope} {own : List (Str × Nat)} {vs : List Nat} {di : Env → MH → KI → (Exn → MH → Prop) → Prop} {dc : WT} {tgc : Expr}
    (hc : X.calm = true) (hN : X.N.Nodup) (hy : X.N[i]? = some y) (hyl : X.env.scope.names.lookup y = some .local) (hown : own.map (·.2) = vs) (ht0 : ∀ i ∈ t.ix, i ∈ vs)
    (hsw : swapsWith (.ListComp elt [⟨tgc, iter, ifs, 0⟩] scope vpos) (some (.Name y py)) spos.line X.env = pure true) (hi : PI X tgc iter (tIt A X.K W di)) (ok : BlkOk X.N X.env.scope scope own)
    (hg : ∀ (s : Shared) (H : Hp) (C : Addr) (cl : List (Str × Addr)) (fp : List Addr), PG (X.blk s H scope (compEnvC scope cl C X.env) fp) tgc (gB X.K t))
    (ht : ∀ (s : Shared) (H : Hp) (C : Addr) (cl : List (Str × Addr)) (fp : List Addr), PTs (X.blk s H scope (compEnvC scope cl C X.env) fp) ifs (tT A X.K (fun _ _ _ _ => False) dc))
    (he : ∀ (s : Shared) (H : Hp) (C : Addr) (cl : List (Str × Addr)) (fp : List Addr), PE (X.blk s H scope (compEnvC scope cl C X.env) fp) elt (tE A X.K (fun _ _ _ _ => False) de)) (hs : ∀ x, foldedSetIterable iter X.env x = pure x) :
    PS X (.Assign [.Name y py] (.ListComp elt [⟨tgc, iter, ifs, 0⟩] scope vpos) spos) (tSt A X.K W fun env h D Xs => di env h (fun xs chk h1 =>
      compL chk (fun x => bindT t x (wipeE env vs)) dc de (fun _ _ => False) xs [] h1 (fun acc h2 => ∃ env', bindT (.nm i) (.ref h2.length) env = some env' ∧ D.nx env' (h2 ++ [.lst acc]))) (fun x h => Xs x env h)) := by
  subst hown
  refine PS.weak (ps_setLc hc hN hy hyl hsw hi ok hg ht he hs) fun D σ H ⟨ρ, env, h, Dm, Xs, r, e, d, q, x⟩ => ?_
  refine comp_ok (W := W) (dc := dc) (de := de) (di := di) ht0 ⟨ρ, env, h, fun v h1 => ∃ env', bindT (.nm i) v env = some env' ∧ Dm.nx env' h1, _, r, e, d, fun v h1 d1 ρ1 H1 v1 x1 r1 p1 => ?_, fun x0 h' z ρ' H' c d x1 r1 xr => x x0 env h' z ρ' H' σ c d x1 r1 (e.mono r x1) xr⟩
  obtain ⟨env', hb, d1⟩ := d1
  exact gB_ok (t := .nm i) (us := [i]) hb p1 (e.mono r x1) (fun i hi => hi) fun σ' e' _ => q.nx env' h1 d1 ρ1 H1 σ' x1 r1 e'
variable {a b c o k : Expr} {da db dk dov : WE} {dt' : WT} {ss rest : List Stmt} {st : Stmt} {ws wr : WS}
theorem s_par2 {i j : Nat} {x y : Str} {px py pt pt2 : Pos} {kt k2 : Nat} {ds : Env → MH → (List M → MH → Prop) → (Exn → MH → Prop) → Prop} (hc : X.calm = true) (hN : X.N.Nodup) (hi : X.N[i]? = some x) (hj : X.N[j]? = some y) (hij : i ≠ j)
    (hx : X.env.scope.names.lookup x = some .local) (hy : X.env.scope.names.lookup y = some .local) (ha : PA X [a, b] (tAs A X.K 2 W ds))
    (hw : swappedStores [.Tuple [.Name x px, .Name y py] kt pt] (.Tuple [a, b] k2 pt2) X.env = pure (some [x, y])) :
    PS X (.Assign [.Tuple [.Name x px, .Name y py] kt pt] (.Tuple [a, b] k2 pt2) pos) (tSt A X.K W fun env h D Xs => ds env h (fun vs h1 => D.nx (setAll [i, j] vs env) h1) (fun x h => Xs x env h)) := by
  refine PS.weak (ps_par hc hN hi hj hij hx hy ha hw rfl) fun D σ H ⟨ρ, env, h, Dm, Xs, r, e, d, q, x⟩ => ?_
  refine ⟨ρ, env, h, _, _, r, e, d, fun vs h1 d1 hl ρ1 H1 v1 x1 r1 p1 => ?_, fun x0 h' z ρ' H' c d x1 r1 xr => x x0 env h' z ρ' H' σ c d x1 r1 (e.mono r x1) xr⟩
  cases p1 with
  | nil => simp at hl
  | cons q1 p1 => cases p1 with
    | nil => simp at hl
    | cons q2 p1 => cases p1 with
      | cons _ _ => simp at hl
      | nil => exact ⟨_, _, rfl, q.nx _ h1 d1 ρ1 H1 _ x1 r1 (((e.mono r x1).set q1).set q2)⟩
theorem sub_assign {o k : Expr} {tpos : Pos} (hk : plainE k = true) (env : PySem.Env) (v : Value) : assign (.Subscript o k tpos) env v = (do
      let ov ← holding [v] (eval o env)
      let iv ← holding [v, ov] (eval k env)
      standAt tpos
      holding [v, ov, iv] (setItem ov iv v)
      release [v, ov, iv] []) := by
  cases k <;> first | rfl | simp [plainE] at hk
theorem s_sub {tpos : Pos} (hpk : plainE k = true) (ho : PE X o (tE A X.K W dov)) (hk : PE X k (tE A X.K W dk)) (he : PE X e (tE A X.K W de)) (hs : swapsWithSole [.Subscript o k tpos] e pos.line X.env = pure false) (hw : swappedStores [.Subscript o k tpos] e X.env = pure none) :
    PS X (.Assign [.Subscript o k tpos] e pos) (tSt A X.K W fun env h D Xs => de env h (fun v h1 => dov env h1 (fun a h2 => dk env h2 (fun k h3 => ∃ l xs j n, a = .ref l ∧ k = .int j ∧ h3[l]? = some (.lst xs) ∧ ixN xs.length j = some n ∧ D.nx env (h3.set l (.lst (xs.set n v))))
      (fun x h => Xs x env h)) (fun x h => Xs x env h)) (fun x h => Xs x env h)) := by
  refine PS.weak (ps_asg he (pg_sub ho hk set_list (sub_assign hpk _)) hs hw rfl) fun D σ H ⟨ρ, env, h, Dm, Xs, r, e, d, q, x⟩ => ?_
  have xk : XOK A X.K ρ H σ (fun x h => Xs x env h) W := fun x0 h' z ρ' H' c d x1 r1 xr => x x0 env h' z ρ' H' σ c d x1 r1 (e.mono r x1) xr
  refine ⟨ρ, env, h, _, _, r, e, d, q_then r e xk fun v h1 ρ1 H1 v1 d1 x1 r1 e1 X1 p1 => ?_, xk⟩
  refine ⟨ρ1, env, h1, _, _, r1, e1, d1, q_then r1 e1 X1 fun a h2 ρ2 H2 a2 d2 x2 r2 e2 X2 p2 => ?_, X1⟩
  refine ⟨ρ2, env, h2, _, _, r2, e2, d2, q_then r2 e2 X2 fun k h3 ρ3 H3 k3 d3 x3 r3 e3 X3 p3 => ?_, X2⟩
  obtain ⟨l, xs, j, n, rfl, rfl, hl, hn, d3⟩ := d3
  cases p3
  cases p2.mono r2 x3 with | ref ea =>
  obtain ⟨us, e1', q1⟩ := r3.lst hl ea
  obtain ⟨r4, x4⟩ := r3.put (o' := .lst (xs.set n v)) (u := .lst (us.set n v1)) hl ea fun H' x4 z => ⟨_, z, ((q1.mono r3 x4).set ((((p1.mono r1 x2).mono r2 x3).mono r3 x4)) n)⟩
  exact ⟨_, us, _, n, rfl, rfl, e1', by rw [← q1.length]; exact hn, q.nx env _ d3 ρ3 _ σ (((x1.trans r1 x2).trans r2 x3).trans r3 x4) r4 (e3.mono r3 x4)⟩
theorem s_aug {i : Nat} {x : Str} {op : Operator} {pos' : Pos} (hN : X.N.Nodup) (hi : X.N[i]? = some x) (hx : Loc X.env.scope x) (hf : X.fn x = true) (he : PE X e (tE A X.K W de)) (hop : op = .Add) :
    PS X (.AugAssign (.Name x pos') op e pos) (tSt A X.K W fun env h D Xs => ∃ x, env[i]? = some (some x) ∧ de env h (fun y h1 => ∃ a b, x = .int a ∧ y = .int b ∧ op = .Add ∧ D.nx (env.set i (some (.int (a + b)))) h1) (fun x h => Xs x env h)) := by
  subst hop
  refine PS.weak (ps_aug hN hi hx he ip_add (.inl hf)) fun D σ H ⟨ρ, env, h, Dm, Xs, r, e, ⟨x', ex, d⟩, q, x⟩ => ?_
  obtain ⟨u, e1, e2⟩ := e.get ex
  refine ⟨u, e1, ρ, env, h, _, _, r, e, d, fun v h1 d1 ρ1 H1 v1 x1 r1 p1 => ?_, fun x0 h' z ρ' H' c d x1 r1 xr => x x0 env h' z ρ' H' σ c d x1 r1 (e.mono r x1) xr⟩
  obtain ⟨a, b, rfl, rfl, _, d1⟩ := d1
  cases e2; cases p1
  exact ⟨_, _, rfl, rfl, q.nx _ h1 d1 ρ1 H1 _ x1 r1 ((e.mono r x1).set (.int _))⟩
theorem s_exp (hs : swapsWith e none pos.line X.env = pure false) (he : PE X e (tE A X.K W de)) : PS X (.Expr e pos) (tSt A X.K W fun env h D Xs => de env h (fun _ h1 => D.nx env h1) (fun x h => Xs x env h)) := by
  refine PS.weak (ps_expr he hs) fun D σ H ⟨ρ, env, h, Dm, Xs, r, e, d, q, x⟩ => ?_
  exact ⟨ρ, env, h, _, _, r, e, d, fun v h1 d1 ρ1 H1 v1 x1 r1 p1 => q.nx env h1 d1 ρ1 H1 σ x1 r1 (e.mono r x1), fun x0 h' z ρ' H' c d x1 r1 xr => x x0 env h' z ρ' H' σ c d x1 r1 (e.mono r x1) xr⟩
theorem s_ret (he : PE X e (tE A X.K W de)) : PS X (.Return (some e) pos) (tSt A X.K W fun env h D Xs => de env h D.rt (fun x h => Xs x env h)) := by
  refine PS.weak (ps_ret he) fun D σ H ⟨ρ, env, h, Dm, Xs, r, e, d, q, x⟩ => ?_
  exact ⟨ρ, env, h, _, _, r, e, d, q.rt, fun x0 h' z ρ' H' c d x1 r1 xr => x x0 env h' z ρ' H' σ c d x1 r1 (e.mono r x1) xr⟩
theorem s_retN : PS X (.Return none pos) (tSt A X.K W fun env h D Xs => D.rt .non h) :=
  PS.weak ps_retN fun D σ H ⟨ρ, env, h, Dm, Xs, r, e, d, q, x⟩ => q.rt _ h d ρ H _ .refl r .non
theorem EOK.mono {ρ ρ1 : List Addr} {K : PySem.W.Frag} {h1 : MH} {H H1 : Hp} {Dm : Ed} {D : Ends} (r1 : HR K A.ca ρ1 h1 H1) (x : Ext ρ H ρ1 H1) (q : EOK A K ρ H Dm D) : EOK A K ρ1 H1 Dm D :=
  ⟨fun env h' d ρ' H' σ' x' r' e' => q.nx env h' d ρ' H' σ' (x.trans r1 x') r' e', q.rt.mono r1 x, fun env h' d ρ' H' σ' x' r' e' => q.bk env h' d ρ' H' σ' (x.trans r1 x') r' e', fun env h' d ρ' H' σ' x' r' e' => q.ct env h' d ρ' H' σ' (x.trans r1 x') r' e'⟩
theorem SXK.mono {ρ ρ1 : List Addr} {K : PySem.W.Frag} {h1 : MH} {H H1 : Hp} {Xs : XW} (r1 : HR K A.ca ρ1 h1 H1) (x : Ext ρ H ρ1 H1) (q : SXK A K ρ H Xs W) : SXK A K ρ1 H1 Xs W :=
  fun y env h' d ρ' H' σ' c dd x' r' e' xr => q y env h' d ρ' H' σ' c dd (x.trans r1 x') r' e' xr
theorem s_ife (hc : PT X c (tT A X.K W dt')) {sa sb : List Stmt} {wa wb : WS} (ha : PSs X sa (tSt A X.K W wa)) (hb : PSs X sb (tSt A X.K W wb)) :
    PS X (.If c sa sb pos) (tSt A X.K W fun env h D Xs => dt' env h (fun k h1 => if k = true then wa env h1 D Xs else wb env h1 D Xs) (fun x h => Xs x env h)) := by
  refine PS.weak (ps_if hc ha hb) fun D σ H ⟨ρ, env, h, Dm, Xs, r, e, d, q, x⟩ => ?_
  refine ⟨ρ, env, h, _, _, r, e, d, fun k h1 d1 ρ1 H1 x1 r1 => ?_, fun x0 h' z ρ' H' c d x1 r1 xr => x x0 env h' z ρ' H' σ c d x1 r1 (e.mono r x1) xr⟩
  cases k with
  | true => exact ⟨ρ1, env, h1, Dm, Xs, r1, e.mono r x1, d1, q.mono r1 x1, x.mono r1 x1⟩
  | false => exact ⟨ρ1, env, h1, Dm, Xs, r1, e.mono r x1, d1, q.mono r1 x1, x.mono r1 x1⟩
theorem s_nil : PSs X [] (tSt A X.K W fun env h D _ => D.nx env h) := PSs.weak pss_nil fun D σ H ⟨ρ, env, h, Dm, Xs, r, e, d, q, x⟩ => q.nx env h d ρ H σ .refl r e
theorem s_cons (h1 : PS X st (tSt A X.K W ws)) (h2 : PSs X rest (tSt A X.K W wr)) : PSs X (st :: rest) (tSt A X.K W fun env h D Xs => ws env h { D with nx := fun env' h' => wr env' h' D Xs } Xs) := by
  refine PSs.weak (pss_cons h1 h2) fun D σ H ⟨ρ, env, h, Dm, Xs, r, e, d, q, x⟩ => ?_
  refine ⟨ρ, env, h, _, Xs, r, e, d, ⟨fun env' h' d1 ρ1 H1 σ1 x1 r1 e1 => ?_, q.rt, q.bk, q.ct⟩, x⟩
  exact ⟨ρ1, env', h', Dm, Xs, r1, e1, d1, q.mono r1 x1, x.mono r1 x1⟩
theorem s_pas : PS X (.Pass pos) (tSt A X.K W fun env h D _ => D.nx env h) := PS.weak ps_pass fun D σ H ⟨ρ, env, h, Dm, Xs, r, e, d, q, x⟩ => q.nx env h d ρ H σ .refl r e
theorem s_brk : PS X (.Break pos) (tSt A X.K W fun env h D _ => D.bk env h) := PS.weak ps_break fun D σ H ⟨ρ, env, h, Dm, Xs, r, e, d, q, x⟩ => q.bk env h d ρ H σ .refl r e
theorem s_cnt : PS X (.Continue pos) (tSt A X.K W fun env h D _ => D.ct env h) := PS.weak ps_continue fun D σ H ⟨ρ, env, h, Dm, Xs, r, e, d, q, x⟩ => q.ct env h d ρ H σ .refl r e
theorem s_for {iter : Expr} {body : List Stmt} {di : Env → MH → KI → (Exn → MH → Prop) → Prop} {wb : WS} (hp : PassesOwn (model X.prog X.w) X.A X.env X.xe) (hc : X.calm = true) (hi : PI X tg iter (tIt A X.K W di)) (hg : PG X tg (gB X.K t)) (hb : PSs X body (tSt A X.K W wb))
    (hs : ∀ x, foldedSetIterable iter X.env x = pure x) : PS X (.For tg iter body [] pos) (tSt A X.K W fun env h D Xs => di env h (fun xs chk h1 => forL chk t wb Xs D xs env h1) (fun x h => Xs x env h)) := by
  refine PS.weak (ps_for hp hc hi hg hb hs) fun D σ H ⟨ρ, env, h, Dm, Xs, r, e, d, q, x⟩ => ?_
  refine ⟨ρ, env, h, _, _, r, e, d, fun xs chk h1 d1 ρ1 H1 J x1 r1 hz it => ?_, fun x0 h' z ρ' H' c d x1 r1 xr => x x0 env h' z ρ' H' σ c d x1 r1 (e.mono r x1) xr⟩
  refine ⟨fun i m σ' H' => ∃ ρ' env' h', HR X.K A.ca ρ' h' H' ∧ Ext ρ1 H1 ρ' H' ∧ ER X.K ρ' H' env' σ' ∧ forL chk t wb Xs Dm (xs.drop i) env' h' ∧ i ≤ xs.length ∧ m = xs.length - i,
    ⟨xs.length, ρ1, env, h1, r1, .refl, e.mono r x1, by simpa using d1, Nat.zero_le _, by simp⟩, ?_⟩
  rintro i m σ2 H2 ⟨ρ2, env2, h2, r2, x2, e2, fl, hi, rfl⟩
  have x02 : Ext ρ H ρ2 H2 := x1.trans r1 x2
  by_cases hl : i < xs.length
  · right
    rw [List.drop_eq_getElem_cons hl] at fl
    obtain ⟨ck, env', hb, fl⟩ := fl
    refine ⟨it.go i ρ2 h2 H2 r2 x2 ck hl, fun σ' H' => ∃ ρ' env' h', HR X.K A.ca ρ' h' H' ∧ Ext ρ1 H1 ρ' H' ∧ ER X.K ρ' H' env' σ' ∧ forL chk t wb Xs Dm (xs.drop (i + 1)) env' h', ?_, ?_⟩
    · rintro σ' H' ⟨ρ', env', h', a1, a2, a3, a4⟩
      exact ⟨xs.length - (i + 1), by omega, ρ', env', h', a1, a2, a3, a4, hl, rfl⟩
    · intro y H3 yl
      obtain ⟨r3, x3, m, hm, qm⟩ := it.yld i ρ2 h2 H2 y H3 r2 x2 ck hl yl
      have hm' : xs[i] = m := by rw [List.getElem?_eq_getElem hl] at hm; exact Option.some.inj hm
      rw [hm'] at hb
      have x13 := x2.trans r2 x3
      have x03 := x1.trans r1 x13
      refine gB_ok (us := t.ix) hb qm (e2.mono r2 x3) (fun i hi => hi) fun σ4 e4 _ => ?_
      have go : ∀ (env5 : Env) (h5 : MH), forL chk t wb Xs Dm (xs.drop (i + 1)) env5 h5 → ∀ ρ' H' σ', Ext ρ2 H3 ρ' H' → HR X.K A.ca ρ' h5 H' → ER X.K ρ' H' env5 σ' → ∃ ρ' env' h', HR X.K A.ca ρ' h' H' ∧ Ext ρ1 H1 ρ' H' ∧ ER X.K ρ' H' env' σ' ∧ forL chk t wb Xs Dm (xs.drop (i + 1)) env' h' :=
        fun env5 h5 d5 ρ' H' σ' x' r' e' => ⟨ρ', env5, h5, r', x13.trans r3 x', e', d5⟩
      exact ⟨ρ2, env', h2, _, Xs, r3, e4, fl, ⟨go, q.rt.mono r3 x03, fun env' h' d ρ' H' σ' x' r' e' => q.nx env' h' d ρ' H' σ' (x03.trans r3 x') r' e', go⟩, x.mono r3 x03⟩
  · left
    have hi' : xs.length ≤ i := Nat.le_of_not_lt hl
    rw [List.drop_eq_nil_of_le hi'] at fl
    obtain ⟨ck, fl⟩ := fl
    exact ⟨it.stop i ρ2 h2 H2 r2 x2 ck hi', q.nx env2 h2 fl ρ2 H2 σ2 x02 r2 e2⟩
theorem s_whl {body : List Stmt} {wb : WS} (hp : PassesOwn (model X.prog X.w) X.A X.env X.xe) (hc : PT X c (tT A X.K W dt')) (hb : PSs X body (tSt A X.K W wb)) :
    PS X (.While c body [] pos) (tSt A X.K W fun env h D Xs => ∃ W : Nat → Env → MH → Prop, (∃ m, W m env h) ∧ ∀ m env h, W m env h →
      dt' env h (fun k h1 => if k = true then wb env h1 { nx := fun e h => ∃ m', m' < m ∧ W m' e h, rt := D.rt, bk := D.nx, ct := fun e h => ∃ m', m' < m ∧ W m' e h } Xs else D.nx env h1) (fun x h => Xs x env h)) := by
  refine PS.weak (ps_while hp hc hb) fun D σ H ⟨ρ, env, h, Dm, Xs, r, e, ⟨Wm, ⟨m0, w0⟩, turn⟩, q, x⟩ => ?_
  refine ⟨fun m σ' H' => ∃ ρ' env' h', HR X.K A.ca ρ' h' H' ∧ Ext ρ H ρ' H' ∧ ER X.K ρ' H' env' σ' ∧ Wm m env' h', ⟨m0, ρ, env, h, r, .refl, e, w0⟩, ?_⟩
  rintro m σ1 H1 ⟨ρ1, env1, h1, r1, x1, e1, w1⟩
  refine ⟨ρ1, env1, h1, _, _, r1, e1, turn m env1 h1 w1, fun k h2 d2 ρ2 H2 x2 r2 => ?_, fun x0 h' z ρ' H' c d x2 r2 xr => x x0 env1 h' z ρ' H' σ1 c d (x1.trans r1 x2) r2 (e1.mono r1 x2) xr⟩
  have x02 := x1.trans r1 x2
  cases k with
  | false =>
    dsimp only at d2 ⊢
    rw [if_neg (by simp)] at d2 ⊢
    exact q.nx env1 h2 d2 ρ2 H2 σ1 x02 r2 (e1.mono r1 x2)
  | true =>
    dsimp only at d2 ⊢
    rw [if_pos rfl] at d2 ⊢
    refine ⟨fun σ' H' => ∃ m', m' < m ∧ ∃ ρ' env' h', HR X.K A.ca ρ' h' H' ∧ Ext ρ H ρ' H' ∧ ER X.K ρ' H' env' σ' ∧ Wm m' env' h', fun σ' H' z => z, ?_⟩
    have go : ∀ (env5 : Env) (h5 : MH), (∃ m', m' < m ∧ Wm m' env5 h5) → ∀ ρ' H' σ', Ext ρ2 H2 ρ' H' → HR X.K A.ca ρ' h5 H' → ER X.K ρ' H' env5 σ' → ∃ m', m' < m ∧ ∃ ρ' env' h', HR X.K A.ca ρ' h' H' ∧ Ext ρ H ρ' H' ∧ ER X.K ρ' H' env' σ' ∧ Wm m' env' h' :=
      fun env5 h5 ⟨m', hm, w5⟩ ρ' H' σ' x' r' e' => ⟨m', hm, ρ', env5, h5, r', x02.trans r2 x', e', w5⟩
    exact ⟨ρ2, env1, h2, _, Xs, r2, e1.mono r1 x2, d2, ⟨go, q.rt.mono r2 x02, fun env' h' d ρ' H' σ' x' r' e' => q.nx env' h' d ρ' H' σ' (x02.trans r2 x') r' e', go⟩, x.mono r2 x02⟩
end
end Wg
open PySem PySem.Spec PyProof.Rows
set_option linter.all false
set_option Elab.async false
namespace Wg
open L2
/-! ### the look that the small syntax is the text's -/
structure FD where
  name : Str
  ps : List Str
  N : List Str
  body : MSs
def FD.np (d : FD) : Nat := d.ps.length
structure MG where
  fns : List FD
  cons : List (Str × M)
def visB (sc : Scope) (x : Str) : Bool := match sc.names.lookup x with | some .local => true | some .cell => true | some .free => true | _ => false
def locB (sc : Scope) (x : Str) : Bool := match sc.names.lookup x with | some .local => true | some .cell => true | _ => false
def lclB (sc : Scope) (x : Str) : Bool := match sc.names.lookup x with | some .local => true | _ => false
def glB (sc : Scope) (x : Str) : Bool := match sc.names.lookup x with | some .globalImplicit => true | _ => false
def okN (x : Str) : Bool := !(x == ("__debug__" : Str)) && !(x == ("__classdict__" : Str)) && !(x == ("__name__" : Str))
theorem visB_ok {sc : Scope} {x : Str} (h : visB sc x = true) : Vis sc x := by
  unfold visB at h; unfold Vis
  split at h <;> simp_all
theorem locB_ok {sc : Scope} {x : Str} (h : locB sc x = true) : L2.Loc sc x := by
  unfold locB at h; unfold L2.Loc
  split at h <;> simp_all
theorem lclB_ok {sc : Scope} {x : Str} (h : lclB sc x = true) : sc.names.lookup x = some .local := by
  unfold lclB at h
  split at h <;> simp_all
theorem glB_ok {X : Cx} {x : Str} (h : glB X.env.scope x = true) : Gl X x := by
  unfold glB at h
  show X.env.scope.names.lookup x = _
  split at h <;> simp_all
theorem okN_ok {x : Str} (h : okN x = true) : (x == ("__debug__" : Str)) = false ∧ (x == ("__classdict__" : Str)) = false ∧ x ≠ ("__name__" : Str) := by
  simp only [okN, Bool.and_eq_true, Bool.not_eq_true'] at h
  exact ⟨h.1.1, h.1.2, by simpa using h.2⟩
def pmT : Pm → Bool
  | .tuple => true | .list => true | .str => true | .int => true | _ => false
def pmId : Pm → String
  | .len => "len" | .tuple => "tuple" | .list => "list" | .str => "str" | .int => "int" | .min2 => "min" | .max2 => "max" | .abs => "abs" | .all => "all" | .any => "any" | .sum => "sum"
def pmNm (p : Pm) : Str := Str.ofString (pmId p)
theorem pm_boot (p : Pm) : bootBuiltins (pmNm p) = some (if pmT p then .type (pmId p) else .builtin (pmId p)) := by
  cases p <;> decide +kernel
theorem pm_nm (p : Pm) : okN (pmNm p) = true := by cases p <;> decide +kernel
theorem pm_callR {A : Ads} {X : Cx} (hc : X.calm = true) (p : Pm) : CallR X (if pmT p then .type (pmId p) else .builtin (pmId p)) (rP A X.K p) := by
  cases p
  · exact pmok_len
  · exact pmok_tuple
  · exact pmok_list
  · exact pmok_str
  · exact pmok_int
  · exact pmok_min2 hc
  · exact pmok_max2 hc
  · exact pmok_abs
  · exact pmok_all hc
  · exact pmok_any hc
  · exact pmok_sum hc
def bltNames : List Str := ["len", "tuple", "list", "str", "int", "bool", "min", "max", "abs", "all", "any", "sum", "isinstance", "range", "enumerate", "zip", "dict", "set", "sorted", "reversed"]
def MEs.len : MEs → Nat
  | .nil => 0
  | .cons _ es => es.len + 1
def ownOf (N : List Str) (vs : List Nat) : List (Str × Nat) := vs.map fun i => (N.getD i Str.empty, i)
def mtT1 (sc : Scope) (N : List Str) (loc : Bool) (i : Nat) : Expr → Bool
  | .Name x _ => decide (N[i]? = some x) && (if loc then locB sc x else lclB sc x)
  | _ => false
def mtTs (sc : Scope) (N : List Str) (loc : Bool) : List Nat → List Expr → Bool
  | [], [] => true
  | i :: is, e :: es => mtT1 sc N loc i e && mtTs sc N loc is es
  | _, _ => false
def mtTb (sc : Scope) (N : List Str) (loc : Bool) : Tg → Expr → Bool
  | .nm i, e => mtT1 sc N loc i e
  | .tp is, .Tuple ts _ _ => mtTs sc N loc is ts
  | _, _ => false
def isTup : Expr → Bool
  | .Tuple .. => true
  | _ => false
section
variable (G : MG) (N : List Str)
mutual
def mtE (sc : Scope) : ME → Expr → Bool
  | .var i, .Name x _ => decide (N[i]? = some x) && visB sc x && okN x
  | .cst (.int i), .Constant (.int j) _ _ => i == j
  | .cst (.bl i), .Constant (.bool j) _ _ => i == j
  | .cst .non, .Constant .none _ _ => true
  | .cst (.str l), .Constant (.str s) _ _ => decide (s = mkS l)
  | .glb k, .Name x _ => glB sc x && okN x && (match G.cons[k]? with | some (y, _) => decide (y = x) | none => false)
  | .tup es, .Tuple es' _ _ => mtEs sc es es' && decide (es'.length ≤ 1000)
  | .lst es, .List es' _ => mtEs sc es es' && decide (es'.length ≤ 1000)
  | .bin op a b, .BinOp a' op' b' _ => decide (op = op') && mtE sc a a' && mtE sc b b'
  | .neg a, .UnaryOp .USub a' _ => mtE sc a a'
  | .cmp op a b, .Compare a' [op'] [b'] _ => decide (op = op') && !behindInMarks op b' && mtE sc a a' && mtE sc b b'
  | .chn o1 o2 a b c, .Compare a' [o1', o2'] [b', c'] _ => decide (o1 = o1') && decide (o2 = o2') && !lastMarks [o1, o2] [b', c'] && mtE sc a a' && mtE sc b b' && mtE sc c c'
  | .not a, .UnaryOp .Not a' _ => mtE sc a a'
  | .and es, .BoolOp .And es' _ => mtEs sc es es'
  | .or es, .BoolOp .Or es' _ => mtEs sc es es'
  | .ifx c a b, .IfExp c' a' b' _ => mtE sc c c' && mtE sc a a' && mtE sc b b'
  | .idx a b, .Subscript a' b' _ => mtE sc a a' && mtE sc b b' && plainE b'
  | .slc a lo hi, .Subscript a' (.Slice lo' hi' none _) _ => mtE sc a a' && mtO sc lo lo' && mtO sc hi hi'
  | .call f es, .Call (.Name x _) (e' :: es') [] _ => glB sc x && okN x && (match G.fns[f]? with | some d => decide (d.name = x) && decide (d.np = (e' :: es').length) | none => false) && mtEs sc es (e' :: es')
  | .prm p es, .Call (.Name x _) (e' :: es') [] _ => glB sc x && decide (x = pmNm p) && mtEs sc es (e' :: es')
  | .mth m o es, .Call (.Attribute o' nm apos) es' [] cpos => decide (nm = mtNm m) && (apos.endLine == cpos.line) && noSup o' && decide (es'.length < 29) && mtE sc o o' && mtEs sc es es'
  | .isi t a, .Call (.Name x _) [a', .Name y _] [] _ => decide (x = "isinstance") && decide (y = tyNm t) && glB sc x && glB sc y && plainE a' && mtE sc a a'
  | .comp vs t it c e, .ListComp e' [⟨tg, iter, ifs, z⟩] scope _ => decide (z = 0) && blkC N sc scope (ownOf N vs) && t.ix.all (fun i => decide (i ∈ vs)) && mtTb scope N true t tg && mtI sc it iter tg && mtC (relS scope sc) c ifs && mtE (relS scope sc) e e'
  | _, _ => false
termination_by structural x => x
def mtEs (sc : Scope) : MEs → List Expr → Bool
  | .nil, [] => true
  | .cons e es, e' :: es' => plainE e' && mtE sc e e' && mtEs sc es es'
  | _, _ => false
termination_by structural x => x
def mtO (sc : Scope) : MEo → Option Expr → Bool
  | .no, none => true
  | .so e, some e' => mtE sc e e'
  | _, _ => false
termination_by structural x => x
def mtC (sc : Scope) : MEo → List Expr → Bool
  | .no, [] => true
  | .so e, [e'] => mtE sc e e'
  | _, _ => false
termination_by structural x => x
def mtI (sc : Scope) : MI → Expr → Expr → Bool
  | .on e, e', _ => plainE e' && mtE sc e e'
  | .rng es, .Call (.Name x _) es' [] _, _ => decide (x = "range") && glB sc x && (es'.length == 1 || es'.length == 2) && mtEs sc es es'
  | _, _, _ => false
termination_by structural x => x
end
end
end Wg
open PySem PySem.Spec PyProof.Rows
set_option linter.all false
set_option Elab.async false
namespace Wg
open L2
/-! ### the small syntax is sound: expressions -/
structure Gd (A : Ads) (G : MG) (gl : Nat → M) (Φ : Nat → FS) (N : List Str) (k : Nat) (X : Cx) (W : WX) : Prop where
  calm : X.calm = true
  room : Room k X.A
  nN : X.N = N
  nd : X.N.Nodup
  tk : Takes X W
  po : PassesOwn (model X.prog X.w) X.A X.env X.xe
  kind : X.env.scope.kind = .function
  bl : ∀ x ∈ bltNames, X.mg x = none
  gc : ∀ i x m, G.cons[i]? = some (x, m) → gl i = m ∧ ∃ v u, X.mg x = some u ∧ RelV v u ∧ ∀ ρ H, Rep X.K ρ H m v
  fn : ∀ f d, G.fns[f]? = some d → X.mg d.name = some (.ref (A.fa f)) ∧ ∃ j, j ≤ k ∧ FnAt A X j (A.fa f) d.np (Φ f)
section
variable {A : Ads} {G : MG} {gl : Nat → M} {Φ : Nat → FS} {N : List Str} {k : Nat}
theorem Gd.blk {X : Cx} {W : WX} (g : Gd A G gl Φ N k X W) {scope : Scope} (hk : scope.kind = .function) (s : Shared) (H : Hp) (C : Addr) (cl : List (Str × Addr)) (fp : List Addr) :
    Gd A G gl Φ N k (X.blk s H scope (compEnvC scope cl C X.env) fp) (fun _ _ _ _ => False) :=
  ⟨g.calm, g.room, g.nN, g.nd, takes0, PassesOwn.never, hk, g.bl, g.gc, fun f d h => by
    obtain ⟨h1, j, h2, h3, h4⟩ := g.fn f d h
    exact ⟨h1, j, h2, h3, h4⟩⟩
theorem mtEs_len {sc : Scope} : ∀ {es : MEs} {es' : List Expr}, mtEs G N sc es es' = true → es.len = es'.length ∧ es'.all plainE = true
  | .nil, [], _ => ⟨rfl, rfl⟩
  | .nil, _ :: _, h => by simp [mtEs] at h
  | .cons _ _, [], h => by simp [mtEs] at h
  | .cons e es, e' :: es', h => by
    simp only [mtEs, Bool.and_eq_true] at h
    obtain ⟨h1, h2⟩ := mtEs_len h.2
    exact ⟨by simp [MEs.len, h1], by simp [h.1.1, h2]⟩
theorem pg1_ok {X : Cx} (hN : X.N.Nodup) {sc : Scope} {loc : Bool} {i : Nat} {tg : Expr} (h : mtT1 sc X.N loc i tg = true)
    (hl : ∀ x, (if loc then locB sc x else lclB sc x) = true → L2.Loc X.env.scope x ∧ (X.fn x = true ∨ X.env.scope.names.lookup x = some .local)) : PG X tg (gName i) ∧ (∀ ts, assignEach (tg :: ts) X.env = (false, assign tg X.env) :: assignEach ts X.env) := by
  unfold mtT1 at h
  split at h
  · rw [Bool.and_eq_true, decide_eq_true_eq] at h
    obtain ⟨h1, h2⟩ := hl _ h.2
    exact ⟨pg_name hN h.1 h1 h2, fun _ => rfl⟩
  · cases h
theorem pgs_ok {X : Cx} (hN : X.N.Nodup) {sc : Scope} {loc : Bool} (hl : ∀ x, (if loc then locB sc x else lclB sc x) = true → L2.Loc X.env.scope x ∧ (X.fn x = true ∨ X.env.scope.names.lookup x = some .local)) :
    ∀ {is : List Nat} {ts : List Expr}, mtTs sc X.N loc is ts = true → PGs X ts (gAll is) ∧ (assignEach ts X.env).length = is.length ∧ (assignEach ts X.env).findIdx? (·.1) = none
  | [], [], _ => ⟨pgs_nil, rfl, rfl⟩
  | [], _ :: _, h => by simp [mtTs] at h
  | _ :: _, [], h => by simp [mtTs] at h
  | i :: is, t :: ts, h => by
    simp only [mtTs, Bool.and_eq_true] at h
    obtain ⟨h1, h2⟩ := pg1_ok hN h.1 hl
    obtain ⟨i1, i2, i3⟩ := pgs_ok hN hl h.2
    refine ⟨pgs_cons h1 i1 (by rw [h2]; rfl), by rw [h2]; simp [i2], ?_⟩
    rw [h2, List.findIdx?_cons, i3]; rfl
theorem pgT_ok {X : Cx} (hc : X.calm = true) (hN : X.N.Nodup) (nN : X.N = N) {sc : Scope} {loc : Bool} {t : Tg} {tg : Expr} (h : mtTb sc N loc t tg = true)
    (hl : ∀ x, (if loc then locB sc x else lclB sc x) = true → L2.Loc X.env.scope x ∧ (X.fn x = true ∨ X.env.scope.names.lookup x = some .local)) : PG X tg (gB X.K t) ∧ (assignEach [tg] X.env).map (·.2) = [assign tg X.env] := by
  subst nN
  unfold mtTb at h
  split at h
  · obtain ⟨h1, h2⟩ := pg1_ok hN h hl
    exact ⟨h1, by rw [h2]; rfl⟩
  · obtain ⟨h1, h2, h3⟩ := pgs_ok hN hl h
    exact ⟨pg_tup hc h1 h2 h3, rfl⟩
  · cases h
theorem blk_loc {X : Cx} {scope : Scope} {x : Str} (s : Shared) (H : Hp) (C : Addr) (cl : List (Str × Addr)) (fp : List Addr) (h : locB scope x = true) :
    L2.Loc (X.blk s H scope (compEnvC scope cl C X.env) fp).env.scope x ∧ ((X.blk s H scope (compEnvC scope cl C X.env) fp).fn x = true ∨ (X.blk s H scope (compEnvC scope cl C X.env) fp).env.scope.names.lookup x = some .local) := by
  have e : (X.blk s H scope (compEnvC scope cl C X.env) fp).env.scope = relS scope X.env.scope := rfl
  rw [e]
  unfold locB at h
  split at h
  · rename_i q
    have z := lookup_relS_keep (sc := X.env.scope) (by simp : NameKind.local ≠ .free) q
    exact ⟨.inl z, .inr z⟩
  · rename_i q
    have z := lookup_relS_keep (sc := X.env.scope) (by simp : NameKind.cell ≠ .free) q
    refine ⟨.inr z, .inl ?_⟩
    show (scope.names.lookup x == some .cell) = true
    rw [q]; rfl
  · cases h
theorem own_ix (vs : List Nat) : (ownOf N vs).map (·.2) = vs := by
  unfold ownOf
  rw [List.map_map]
  induction vs with
  | nil => rfl
  | cons v vs ih => simp only [List.map_cons, ih]; rfl
theorem blk_kind {sc scope : Scope} {own : List (Str × Nat)} (h : blkC N sc scope own = true) : scope.kind = .function := (blkOk_by h).kind
theorem plain_mt {sc : Scope} {m : ME} {e : Expr} (h : mtE G N sc m e = true) : plainE e = true := by
  unfold mtE at h
  split at h <;> first | rfl | cases h
theorem true_of {e : Expr} {sc : Scope} {m : ME} (h : mtE G N sc m e = true) (hm : (∃ i, m = .var i) ∨ (∃ f es, m = .call f es) ∨ (∃ p es, m = .prm p es) ∨ (∃ c, m = .cst c) ∨ (∃ t a, m = .isi t a) ∨ ∃ a b, m = .idx a b) (env : PySem.Env) :
    ∀ whole, isTrue e env whole = (do let v ← whole; standAt e.pos; holding [v] (truthy v)) := by
  intro whole
  rcases hm with ⟨i, rfl⟩ | ⟨f, es, rfl⟩ | ⟨p, es, rfl⟩ | ⟨c, rfl⟩ | ⟨t, a, rfl⟩ | ⟨a, b, rfl⟩ <;> unfold mtE at h <;> split at h <;> first | rfl | contradiction | cases h
theorem okMI_fold {sc : Scope} {i : MI} {e tg : Expr} (h : mtI G N sc i e tg = true) (env : PySem.Env) : ∀ x, foldedSetIterable e env x = pure x := by
  unfold mtI at h
  split at h
  · rw [Bool.and_eq_true] at h
    exact plain_fold h.1 env
  · intro x; rfl
  · cases h
/-! and, or -/
section
variable {X : Cx} {W : WX} {a b e : Expr} {rest : List Expr} {da : WE} {db : WE} {dt' du : WT} {pos : Pos}
theorem e_one {op} (ha : PE X a (tE A X.K W da)) : PE X (.BoolOp op [a] pos) (tE A X.K W da) := pe_one ha
theorem e_and (ha : PE X a (tE A X.K W da)) (hb : PE X (.BoolOp .And (b :: rest) pos) (tE A X.K W db)) : PE X (.BoolOp .And (a :: b :: rest) pos) (tE A X.K W fun env h Q Xm => da env h (fun v h1 => ∃ k, truV h1 v = some k ∧ if k = true then db env h1 Q Xm else Q v h1) Xm) := by
  refine PE.weak (pe_andT ha hb) fun σ H Q ⟨ρ, env, h, Qm, Xm, r, e, d, q, x⟩ => ?_
  refine ⟨ρ, env, h, _, Xm, r, e, d, q_then r e x fun v h1 ρ1 H1 v1 d1 x1 r1 e1 X1 p1 => ?_, x⟩
  obtain ⟨k, hk, d1⟩ := d1
  refine ⟨k, truV_rep r1 p1 hk, ?_⟩
  cases k with
  | true => exact ⟨ρ1, env, h1, _, Xm, r1, e1, d1, q.mono r1 x1, X1⟩
  | false => exact (q.mono r1 x1).here r1 d1 p1
theorem e_or (ha : PE X a (tE A X.K W da)) (hb : PE X (.BoolOp .Or (b :: rest) pos) (tE A X.K W db)) : PE X (.BoolOp .Or (a :: b :: rest) pos) (tE A X.K W fun env h Q Xm => da env h (fun v h1 => ∃ k, truV h1 v = some k ∧ if k = true then Q v h1 else db env h1 Q Xm) Xm) := by
  refine PE.weak (pe_orT ha hb) fun σ H Q ⟨ρ, env, h, Qm, Xm, r, e, d, q, x⟩ => ?_
  refine ⟨ρ, env, h, _, Xm, r, e, d, q_then r e x fun v h1 ρ1 H1 v1 d1 x1 r1 e1 X1 p1 => ?_, x⟩
  obtain ⟨k, hk, d1⟩ := d1
  refine ⟨k, truV_rep r1 p1 hk, ?_⟩
  cases k with
  | false => exact ⟨ρ1, env, h1, _, Xm, r1, e1, d1, q.mono r1 x1, X1⟩
  | true => exact (q.mono r1 x1).here r1 d1 p1
theorem t_and1 (ha : PT X a (tT A X.K W dt')) : PW X (.BoolOp .And [a] pos) (tT A X.K W fun env h Q Xm => dt' env h (fun k h1 => if k = true then Q true h1 else Q false h1) Xm) := by
  refine PW.weak (pw_and1 ha) fun σ H Q ⟨ρ, env, h, Qm, Xm, r, e, d, q, x⟩ => ⟨ρ, env, h, _, Xm, r, e, d, fun k h1 d1 ρ1 H1 x1 r1 => ?_, x⟩
  cases k with
  | true => exact q true h1 d1 ρ1 H1 x1 r1
  | false => exact q false h1 d1 ρ1 H1 x1 r1
theorem t_or1 (ha : PT X a (tT A X.K W dt')) : PW X (.BoolOp .Or [a] pos) (tT A X.K W fun env h Q Xm => dt' env h (fun k h1 => if k = true then Q true h1 else Q false h1) Xm) := by
  refine PW.weak (pw_or1 ha) fun σ H Q ⟨ρ, env, h, Qm, Xm, r, e, d, q, x⟩ => ⟨ρ, env, h, _, Xm, r, e, d, fun k h1 d1 ρ1 H1 x1 r1 => ?_, x⟩
  cases k with
  | true => exact q true h1 d1 ρ1 H1 x1 r1
  | false => exact q false h1 d1 ρ1 H1 x1 r1
theorem t_and (ha : PT X a (tT A X.K W dt')) (hb : PW X (.BoolOp .And (b :: rest) pos) (tT A X.K W du)) : PW X (.BoolOp .And (a :: b :: rest) pos) (tT A X.K W fun env h Q Xm => dt' env h (fun k h1 => if k = true then du env h1 Q Xm else Q false h1) Xm) := by
  refine PW.weak (pw_and ha hb) fun σ H Q ⟨ρ, env, h, Qm, Xm, r, e, d, q, x⟩ => ⟨ρ, env, h, _, Xm, r, e, d, fun k h1 d1 ρ1 H1 x1 r1 => ?_, x⟩
  cases k with
  | true => exact ⟨ρ1, env, h1, _, Xm, r1, e.mono r x1, d1, fun k h2 d2 ρ2 H2 x2 r2 => q k h2 d2 ρ2 H2 (x1.trans r1 x2) r2, x.mono r1 x1⟩
  | false => exact q false h1 d1 ρ1 H1 x1 r1
theorem t_or (ha : PT X a (tT A X.K W dt')) (hb : PW X (.BoolOp .Or (b :: rest) pos) (tT A X.K W du)) : PW X (.BoolOp .Or (a :: b :: rest) pos) (tT A X.K W fun env h Q Xm => dt' env h (fun k h1 => if k = true then Q true h1 else du env h1 Q Xm) Xm) := by
  refine PW.weak (pw_or ha hb) fun σ H Q ⟨ρ, env, h, Qm, Xm, r, e, d, q, x⟩ => ⟨ρ, env, h, _, Xm, r, e, d, fun k h1 d1 ρ1 H1 x1 r1 => ?_, x⟩
  cases k with
  | false => exact ⟨ρ1, env, h1, _, Xm, r1, e.mono r x1, d1, fun k h2 d2 ρ2 H2 x2 r2 => q k h2 d2 ρ2 H2 (x1.trans r1 x2) r2, x.mono r1 x1⟩
  | true => exact q true h1 d1 ρ1 H1 x1 r1
theorem t_no : PT X e (tT A X.K W fun _ _ _ _ => False) := ⟨fun pins s σ H Q I ⟨_, _, _, _, _, _, _, d, _⟩ => d.elim⟩
theorem e_no : PE X e (tE A X.K W fun _ _ _ _ => False) := ⟨fun pins s σ H Q I ⟨_, _, _, _, _, _, _, d, _⟩ => d.elim⟩
end
theorem t_isi {X : Cx} {W : WX} {a : Expr} {da : WE} {p p2 pos : Pos} {t : Ty} (he : ∀ whole, isTrue (.Call (.Name "isinstance" p) [a, .Name (tyNm t) p2] [] pos) X.env whole = (do let v ← whole; standAt pos; holding [v] (truthy v)))
    (hg : Gl X "isinstance") (hm : X.mg "isinstance" = none) (hg2 : Gl X (tyNm t)) (hm2 : X.mg (tyNm t) = none) (ha : PE X a (tE A X.K W da)) (hs : ∀ es, starEach (a :: es) X.env = (false, eval a X.env) :: starEach es X.env) :
    PT X (.Call (.Name "isinstance" p) [a, .Name (tyNm t) p2] [] pos) (tT A X.K W fun env h Q Xm => da env h (fun v h1 => ∃ b, isiV t h1 v = some b ∧ Q b h1) Xm) := by
  refine PT.weak (t_val he (e_isi hg hm hg2 hm2 ha hs)) fun σ H Q ⟨ρ, env, h, Qm, Xm, r, e, d, q, x⟩ => ?_
  refine ⟨ρ, env, h, Qm, Xm, r, e, ?_, q, x⟩
  have z : (fun (v : M) (h1 : MH) => ∃ b, isiV t h1 v = some b ∧ ∃ k, truV h1 (.bl b) = some k ∧ Qm k h1) = fun v h1 => ∃ b, isiV t h1 v = some b ∧ Qm b h1 := by
    funext v h1
    simp [truV]
  show da env h (fun (v : M) (h1 : MH) => ∃ b, isiV t h1 v = some b ∧ ∃ k, truV h1 (.bl b) = some k ∧ Qm k h1) Xm
  rw [z]; exact d
theorem both {P Q : Prop} (p : P) (q : P → Q) : P ∧ Q := ⟨p, q p⟩
theorem Gd.hu {X : Cx} {W : WX} (g : Gd A G gl Φ N k X W) : X.A.units + 64 < cLine := g.room.units
mutual
theorem okM : ∀ (m : ME) (X : Cx) (W : WX), Gd A G gl Φ N k X W → ∀ e, mtE G N X.env.scope m e = true → PE X e (tE A X.K W (wE gl Φ m)) ∧ PT X e (tT A X.K W (wT gl Φ m))
  | .var i, X, W, g, e, h => by
    have h0 := h
    unfold mtE at h; split at h <;> first | contradiction | skip
    simp only [Bool.and_eq_true, decide_eq_true_eq] at h
    cases ‹ME.var _ = ME.var _›
    have hv := okN_ok h.2
    refine both (e_var (by rw [g.nN]; exact h.1.1) (visB_ok h.1.2) hv.1 hv.2.1) fun p => ?_
    refine PT.weak (t_val (true_of h0 (.inl ⟨_, rfl⟩) _) p) fun σ H Q ⟨ρ, env, h, Qm, Xm, r, e, ⟨v, hv, d⟩, q, x⟩ => ⟨ρ, env, h, Qm, Xm, r, e, ⟨v, hv, d⟩, q, x⟩
  | .cst m, X, W, g, e, h => by
    have h0 := h
    have p : PE X e (tE A X.K W (wE gl Φ (.cst m))) := by
      unfold mtE at h; split at h <;> first | contradiction | skip
      · cases ‹ME.cst _ = ME.cst _›
        obtain rfl := eq_of_beq h
        exact e_cst pe_int fun _ _ => .int _
      · cases ‹ME.cst _ = ME.cst _›
        obtain rfl := eq_of_beq h
        exact e_cst pe_bl fun _ _ => .bl _
      · cases ‹ME.cst _ = ME.cst _›
        exact e_cst pe_non fun _ _ => .non
      · cases ‹ME.cst _ = ME.cst _›
        rw [decide_eq_true_eq] at h
        subst h
        exact e_cst pe_str fun _ _ => .str _
    exact ⟨p, PT.weak (t_val (true_of h0 (.inr (.inr (.inr (.inl ⟨_, rfl⟩)))) _) p) fun σ H Q z => z⟩
  | .glb i, X, W, g, e, h => by
    refine ⟨?_, t_no⟩
    unfold mtE at h; split at h <;> first | contradiction | skip
    cases ‹ME.glb _ = ME.glb _›
    simp only [Bool.and_eq_true] at h
    obtain ⟨⟨h1, h2⟩, h3⟩ := h
    split at h3
    · rename_i y m hq
      rw [decide_eq_true_eq] at h3
      subst h3
      obtain ⟨e1, v, u, e2, e3, e4⟩ := g.gc _ _ _ hq
      refine PE.weak (e_cst (A := A) (W := W) (m := m) (pe_glob (glB_ok h1) e2 e3 (okN_ok h2).1) e4) fun σ H Q ⟨ρ, env, h, Qm, Xm, r, e, d, q, x⟩ => ⟨ρ, env, h, Qm, Xm, r, e, ?_, q, x⟩
      show Qm m h
      rw [← e1]; exact d
    · cases h3
  | .tup es, X, W, g, e, h => by
    refine ⟨?_, t_no⟩
    unfold mtE at h; split at h <;> first | contradiction | skip
    cases ‹ME.tup _ = ME.tup _›
    simp only [Bool.and_eq_true, decide_eq_true_eq] at h
    exact e_tup (Nat.le_trans h.2 (by decide)) (okMs es X W g _ h.1).1
  | .lst es, X, W, g, e, h => by
    refine ⟨?_, t_no⟩
    unfold mtE at h; split at h <;> first | contradiction | skip
    cases ‹ME.lst _ = ME.lst _›
    simp only [Bool.and_eq_true, decide_eq_true_eq] at h
    exact e_lst (Nat.le_trans h.2 (by decide)) (okMs es X W g _ h.1).1
  | .bin op a b, X, W, g, e, h => by
    refine ⟨?_, t_no⟩
    unfold mtE at h; split at h <;> first | contradiction | skip
    cases ‹ME.bin _ _ _ = ME.bin _ _ _›
    simp only [Bool.and_eq_true, decide_eq_true_eq] at h
    obtain ⟨⟨rfl, h1⟩, h2⟩ := h
    exact e_bin (okM a X W g _ h1).1 (okM b X W g _ h2).1
  | .neg a, X, W, g, e, h => by
    refine ⟨?_, t_no⟩
    unfold mtE at h; split at h <;> first | contradiction | skip
    cases ‹ME.neg _ = ME.neg _›
    exact e_neg (okM a X W g _ h).1
  | .cmp op a b, X, W, g, e, h => by
    unfold mtE at h; split at h <;> first | contradiction | skip
    cases ‹ME.cmp _ _ _ = ME.cmp _ _ _›
    simp only [Bool.and_eq_true, decide_eq_true_eq, Bool.not_eq_true'] at h
    obtain ⟨⟨⟨rfl, h0⟩, h1⟩, h2⟩ := h
    exact ⟨e_cmp g.hu (okM a X W g _ h1).1 (okM b X W g _ h2).1 h0, t_cmp g.hu (okM a X W g _ h1).1 (okM b X W g _ h2).1 h0⟩
  | .chn o1 o2 a b c, X, W, g, e, h => by
    unfold mtE at h; split at h <;> first | contradiction | skip
    cases ‹ME.chn _ _ _ _ _ = ME.chn _ _ _ _ _›
    simp only [Bool.and_eq_true, decide_eq_true_eq, Bool.not_eq_true'] at h
    obtain ⟨⟨⟨⟨⟨rfl, rfl⟩, h0⟩, h1⟩, h2⟩, h3⟩ := h
    exact ⟨e_chn g.hu (okM a X W g _ h1).1 (okM b X W g _ h2).1 (okM c X W g _ h3).1 h0, t_chn g.hu (okM a X W g _ h1).1 (okM b X W g _ h2).1 (okM c X W g _ h3).1 h0⟩
  | .not a, X, W, g, e, h => by
    unfold mtE at h; split at h <;> first | contradiction | skip
    cases ‹ME.not _ = ME.not _›
    exact ⟨e_notV (okM a X W g _ h).1, e_not (okM a X W g _ h).2⟩
  | .and es, X, W, g, e, h => by
    unfold mtE at h; split at h <;> first | contradiction | skip
    cases ‹ME.and _ = ME.and _›
    have z := (okMs es X W g _ h).2 ‹Pos›
    exact ⟨z.1, z.2.2.1.pt⟩
  | .or es, X, W, g, e, h => by
    unfold mtE at h; split at h <;> first | contradiction | skip
    cases ‹ME.or _ = ME.or _›
    have z := (okMs es X W g _ h).2 ‹Pos›
    exact ⟨z.2.1, z.2.2.2.pt⟩
  | .ifx c a b, X, W, g, e, h => by
    refine ⟨?_, t_no⟩
    unfold mtE at h; split at h <;> first | contradiction | skip
    cases ‹ME.ifx _ _ _ = ME.ifx _ _ _›
    simp only [Bool.and_eq_true] at h
    exact e_ifx (okM c X W g _ h.1.1).2 (okM a X W g _ h.1.2).1 (okM b X W g _ h.2).1
  | .idx a b, X, W, g, e, h => by
    have h0 := h
    unfold mtE at h; split at h <;> first | contradiction | skip
    cases ‹ME.idx _ _ = ME.idx _ _›
    simp only [Bool.and_eq_true] at h
    exact both (e_idx (plain_ix h.2) (okM a X W g _ h.1.1).1 (okM b X W g _ h.1.2).1) fun p => PT.weak (t_val (true_of h0 (.inr (.inr (.inr (.inr (.inr ⟨_, _, rfl⟩))))) _) p) fun σ H Q z => z
  | .slc a lo hi, X, W, g, e, h => by
    refine ⟨?_, t_no⟩
    unfold mtE at h; split at h <;> first | contradiction | skip
    cases ‹ME.slc _ _ _ = ME.slc _ _ _›
    simp only [Bool.and_eq_true] at h
    exact e_slc (okM a X W g _ h.1.1).1 ((okMo lo X W g).1 _ h.1.2) ((okMo hi X W g).1 _ h.2)
  | .call f es, X, W, g, e, h => by
    have h0 := h
    unfold mtE at h; split at h <;> first | contradiction | skip
    cases ‹ME.call _ _ = ME.call _ _›
    simp only [Bool.and_eq_true] at h
    obtain ⟨⟨⟨h1, h2⟩, h3⟩, h4⟩ := h
    split at h3
    · rename_i d hd
      simp only [Bool.and_eq_true, decide_eq_true_eq] at h3
      obtain ⟨rfl, h5⟩ := h3
      obtain ⟨e1, j, e2, F⟩ := g.fn _ _ hd
      obtain ⟨l1, l2⟩ := mtEs_len h4
      have pl := l2
      rw [List.all_cons, Bool.and_eq_true] at pl
      exact both (e_call F (g.room.mono e2) (glB_ok h1) e1 g.tk h5.symm (okMs es X W g _ h4).1 (okN_ok h2).1 (plain_star pl.1 _ _) (plain_any pl.2)) fun p => PT.weak (t_val (true_of h0 (.inr (.inl ⟨_, _, rfl⟩)) _) p) fun σ H Q z => z
    · cases h3
  | .prm pm es, X, W, g, e, h => by
    have h0 := h
    unfold mtE at h; split at h <;> first | contradiction | skip
    cases ‹ME.prm _ _ = ME.prm _ _›
    simp only [Bool.and_eq_true, decide_eq_true_eq] at h
    obtain ⟨⟨h1, rfl⟩, h4⟩ := h
    obtain ⟨l1, l2⟩ := mtEs_len h4
    have pl := l2
    rw [List.all_cons, Bool.and_eq_true] at pl
    have on := okN_ok (pm_nm pm)
    refine both (e_prm (T := pmT pm) (id := pmId pm) (pm_callR g.calm pm) (glB_ok h1) (g.bl _ (by cases pm <;> decide)) (pm_boot pm) (okMs es X W g _ h4).1 on.2.2 on.1 (plain_star pl.1 _ _) (plain_any pl.2)) fun p => PT.weak (t_val (true_of h0 (.inr (.inr (.inl ⟨_, _, rfl⟩))) _) p) fun σ H Q z => z
  | .mth m o es, X, W, g, e, h => by
    refine ⟨?_, t_no⟩
    unfold mtE at h; split at h <;> first | contradiction | skip
    cases ‹ME.mth _ _ _ = ME.mth _ _ _›
    simp only [Bool.and_eq_true, decide_eq_true_eq] at h
    obtain ⟨⟨⟨⟨⟨rfl, h1⟩, h2⟩, h3⟩, h4⟩, h5⟩ := h
    obtain ⟨l1, l2⟩ := mtEs_len h5
    have po := (okM o X W g _ h4).1
    have pa := (okMs es X W g _ h5).1
    rename_i es'' _
    cases es'' with
    | nil =>
      cases es with
      | nil => exact e_mth0 po (noSup_base h2 _ _ _) h1
      | cons _ _ => simp [mtEs] at h5
    | cons e' es' =>
      have pl := l2
      rw [List.all_cons, Bool.and_eq_true] at pl
      exact e_mth po pa (noSup_base h2 _ _ _) h1 (plain_few l2 h3) (plain_star pl.1 _ _) (plain_any pl.2)
  | .isi t a, X, W, g, e, h => by
    have h0 := h
    unfold mtE at h; split at h <;> first | contradiction | skip
    cases ‹ME.isi _ _ = ME.isi _ _›
    simp only [Bool.and_eq_true, decide_eq_true_eq] at h
    obtain ⟨⟨⟨⟨⟨rfl, rfl⟩, h1⟩, h2⟩, h3⟩, h4⟩ := h
    refine both (e_isi (glB_ok h1) (g.bl _ (by decide)) (glB_ok h2) (g.bl _ (by cases t <;> decide)) (okM a X W g _ h4).1 fun es => plain_star h3 es _) fun p => ?_
    exact t_isi (true_of h0 (.inr (.inr (.inr (.inr (.inl ⟨_, _, rfl⟩))))) _) (glB_ok h1) (g.bl _ (by decide)) (glB_ok h2) (g.bl _ (by cases t <;> decide)) (okM a X W g _ h4).1 fun es => plain_star h3 es _
  | .comp vs t it c e0, X, W, g, e, h => by
    refine ⟨?_, t_no⟩
    unfold mtE at h; split at h <;> first | contradiction | skip
    cases ‹ME.comp _ _ _ _ _ = ME.comp _ _ _ _ _›
    simp only [Bool.and_eq_true, decide_eq_true_eq] at h
    obtain ⟨⟨⟨⟨⟨⟨rfl, h1⟩, h2⟩, h3⟩, h4⟩, h5⟩, h6⟩ := h
    have ok := blkOk_by h1
    rw [← g.nN] at ok
    have gk := fun s H C cl fp => g.blk ok.kind s H C cl fp
    refine PE.weak (pe_lc (g := gB X.K t) (tt := tT A X.K (fun _ _ _ _ => False) (wC gl Φ c)) (te := tE A X.K (fun _ _ _ _ => False) (wE gl Φ e0)) g.calm g.nd (okMI it X W g _ _ h4) ok
      (fun s H C cl fp => (pgT_ok (X := X.blk s H _ (compEnvC _ cl C X.env) fp) (gk s H C cl fp).calm (gk s H C cl fp).nd (gk s H C cl fp).nN h3 fun x hx => blk_loc s H C cl fp (by simpa using hx)).1) (fun s H C cl fp => (okMo c _ _ (gk s H C cl fp)).2 _ h5)
      (fun s H C cl fp => (okM e0 _ _ (gk s H C cl fp) _ h6).1) (okMI_fold h4 _)) fun σ H Q z => ?_
    rw [own_ix]
    exact comp_ok (W := W) (fun i hi => by simpa using List.all_eq_true.mp h2 i hi) z
theorem okMs : ∀ (es : MEs) (X : Cx) (W : WX), Gd A G gl Φ N k X W → ∀ es', mtEs G N X.env.scope es es' = true → PA X es' (tAs A X.K es'.length W (wEs gl Φ es)) ∧
    ∀ pos, PE X (.BoolOp .And es' pos) (tE A X.K W (wAnd gl Φ es)) ∧ PE X (.BoolOp .Or es' pos) (tE A X.K W (wOr gl Φ es)) ∧ PW X (.BoolOp .And es' pos) (tT A X.K W (wAndT gl Φ es)) ∧ PW X (.BoolOp .Or es' pos) (tT A X.K W (wOrT gl Φ es))
  | .nil, X, W, g, es', h => by
    cases es' with
    | cons _ _ => simp [mtEs] at h
    | nil =>
      refine ⟨a_nil, fun pos => ⟨e_no, e_no, ?_, ?_⟩⟩
      · exact ⟨fun wh pins s σ H Q I ⟨ρ, env, h, Qm, Xm, r, e, d, q, x⟩ => isTrue_and_nil ⟨H, I, q true h d ρ H .refl r⟩⟩
      · exact ⟨fun wh pins s σ H Q I ⟨ρ, env, h, Qm, Xm, r, e, d, q, x⟩ => isTrue_or_nil ⟨H, I, q false h d ρ H .refl r⟩⟩
  | .cons e es, X, W, g, es', h => by
    cases es' with
    | nil => simp [mtEs] at h
    | cons e' es' =>
      simp only [mtEs, Bool.and_eq_true] at h
      have pe := okM e X W g _ h.1.2
      have ps := okMs es X W g _ h.2
      refine ⟨a_cons (plain_star h.1.1 _ _) pe.1 ps.1, fun pos => ?_⟩
      obtain ⟨p1, p2, p3, p4⟩ := ps.2 pos
      cases es with
      | nil =>
        cases es' with
        | cons _ _ => simp [mtEs] at h
        | nil => exact ⟨e_one pe.1, e_one pe.1, t_and1 pe.2, t_or1 pe.2⟩
      | cons e2 es =>
        cases es' with
        | nil => simp [mtEs] at h
        | cons e2' es' => exact ⟨e_and pe.1 p1, e_or pe.1 p2, t_and pe.2 p3, t_or pe.2 p4⟩
theorem okMo : ∀ (o : MEo) (X : Cx) (W : WX), Gd A G gl Φ N k X W → (∀ o', mtO G N X.env.scope o o' = true → PO X o' (tOp A X.K W (wO gl Φ o))) ∧ ∀ cs, mtC G N X.env.scope o cs = true → PTs X cs (tT A X.K W (wC gl Φ o))
  | .no, X, W, g => by
    refine ⟨fun o' h => ?_, fun cs h => ?_⟩
    · cases o' with
      | none => exact o_no
      | some _ => simp [mtO] at h
    · cases cs with
      | nil => exact PTs.weak pts_nil fun σ H Q ⟨ρ, env, h, Qm, Xm, r, e, d, q, x⟩ => q true h d ρ H .refl r
      | cons _ _ => simp [mtC] at h
  | .so e, X, W, g => by
    refine ⟨fun o' h => ?_, fun cs h => ?_⟩
    · cases o' with
      | none => simp [mtO] at h
      | some e' => exact o_so (okM e X W g _ (by simpa [mtO] using h)).1
    · match cs, h with
      | [], h => simp [mtC] at h
      | [c], h => exact pts_one (okM e X W g _ (by simpa [mtC] using h)).2
      | _ :: _ :: _, h => simp [mtC] at h
theorem okMI : ∀ (i : MI) (X : Cx) (W : WX), Gd A G gl Φ N k X W → ∀ e tg, mtI G N X.env.scope i e tg = true → PI X tg e (tIt A X.K W (wI gl Φ i))
  | .on e, X, W, g, e', tg, h => by
    simp only [mtI, Bool.and_eq_true] at h
    exact i_on (okM e X W g _ h.2).1
  | .rng es, X, W, g, e', tg, h => by
    unfold mtI at h; split at h <;> first | contradiction | skip
    cases ‹MI.rng _ = MI.rng _›
    simp only [Bool.and_eq_true, decide_eq_true_eq, Bool.or_eq_true] at h
    obtain ⟨⟨⟨rfl, h1⟩, h2⟩, h3⟩ := h
    obtain ⟨l1, l2⟩ := mtEs_len h3
    have pa := (okMs es X W g _ h3).1
    rename_i es' _
    match es', h2, l2, pa with
    | [], h2, _, _ => simp at h2
    | [a], _, l2, pa =>
      simp only [List.all_cons, List.all_nil, Bool.and_true] at l2
      exact i_rng1 (glB_ok h1) (g.bl _ (by decide)) (plain_star l2 _ _) pa
    | [a, b], _, l2, pa =>
      simp only [List.all_cons, List.all_nil, Bool.and_true, Bool.and_eq_true] at l2
      exact i_rng2 (glB_ok h1) (g.bl _ (by decide)) (by rw [plain_star l2.1, plain_star l2.2]; rfl) (plain_star l2.2 _ _) pa
    | _ :: _ :: _ :: _, h2, _, _ => simp at h2
  | .enm e, X, W, g, e', tg, h => by simp [mtI] at h
  | .zip a b, X, W, g, e', tg, h => by simp [mtI] at h
end
end
end Wg
open PySem PySem.Spec PyProof.Rows
set_option linter.all false
set_option Elab.async false
namespace Wg
open L2
/-! ### statements, defs -/
def isNm : Expr → Bool
  | .Name .. => true
  | _ => false
theorem name_stores {e tg : Expr} (h : isNm tg = true) (env : PySem.Env) : swappedStores [tg] e env = pure none := by
  cases tg <;> first | (simp [isNm] at h; done) | skip
  unfold swappedStores
  split
  · rename_i heq
    split at heq
    · rename_i z; cases z
    · rename_i z; cases z
    · cases heq
  · rfl
theorem sub_stores {e o k : Expr} {p : Pos} (env : PySem.Env) : swappedStores [.Subscript o k p] e env = pure none := by
  unfold swappedStores
  split
  · rename_i heq
    split at heq
    · rename_i z; cases z
    · rename_i z; cases z
    · cases heq
  · rfl
def swC (sc scope : Scope) (y : Str) (py pos : Pos) : Bool :=
  lclB sc y && (py.line == pos.line) && !(scope.names.any fun (n, k) => n == y && (k == .local || k == .cell))
theorem sw_ok {elt : Expr} {gs : List Comprehension} {scope : Scope} {pos py : Pos} {y : Str} {l : Nat} {env : PySem.Env} (hk : env.scope.kind = .function) :
    swapsWith (.ListComp elt gs scope pos) (some (.Name y py)) l env = pure (swC env.scope scope y py pos) := by
  have hb : env.blockKind = .function := by unfold Env.blockKind; rw [hk]; rfl
  have ky : (env.kindOf y == some .local) = lclB env.scope y := by
    show (env.scope.names.lookup y == some .local) = _
    unfold lclB
    cases env.scope.names.lookup y with
    | none => rfl
    | some k => cases k <;> rfl
  unfold swapsWith swC
  simp only [hb, ky, Expr.pos]
  rfl
section
variable (G : MG) (N : List Str)
mutual
def mtS (sc : Scope) : MS → Stmt → Bool
  | .asg t e, .Assign [tg] e' _ => mtTb sc N true t tg && mtE G N sc e e' && ((notComp e' && (notTup e' || isNm tg)) || isNm tg)
  | .par [i, j] es, .Assign [.Tuple [.Name x px, .Name y py] _ _] (.Tuple [a, b] _ _) _ =>
    decide (N[i]? = some x) && decide (N[j]? = some y) && decide (i ≠ j) && lclB sc x && lclB sc y && (py.line == px.line) && !(x == y) && [a, b].all plainE && !([a, b].all (foldedForSure 8)) && !([a, b].all (constantsAlone 8)) && mtEs G N sc es [a, b]
  | .sub o i e, .Assign [.Subscript o' i' _] e' _ => plainE i' && notComp e' && mtE G N sc o o' && mtE G N sc i i' && mtE G N sc e e'
  | .aug i op e, .AugAssign (.Name x _) op' e' _ => decide (N[i]? = some x) && locB sc x && decide (op = op') && decide (op = .Add) && mtE G N sc e e'
  | .exp e, .Expr e' _ => notComp e' && mtE G N sc e e'
  | .ret e, .Return (some e') _ => mtE G N sc e e'
  | .retN, .Return none _ => true
  | .ife c a b, .If c' a' b' _ => mtE G N sc c c' && mtSs sc a a' && mtSs sc b b'
  | .for t it b, .For tg iter b' [] _ => mtTb sc N true t tg && mtI G N sc it iter tg && mtSs sc b b'
  | .whl c b, .While c' b' [] _ => mtE G N sc c c' && mtSs sc b b'
  | .pas, .Pass _ => true
  | .brk, .Break _ => true
  | .cnt, .Continue _ => true
  | _, _ => false
termination_by structural x => x
def mtSs (sc : Scope) : MSs → List Stmt → Bool
  | .nil, [] => true
  | .cons s ss, s' :: ss' => mtS sc s s' && mtSs sc ss ss'
  | _, _ => false
termination_by structural x => x
end
end
section
variable {A : Ads} {G : MG} {gl : Nat → M} {Φ : Nat → FS} {N : List Str} {k : Nat} {X : Cx} {W : WX}
theorem loc_def (hf : ∀ x, X.fn x = true) {x : Str} (h : (if true then locB X.env.scope x else lclB X.env.scope x) = true) : L2.Loc X.env.scope x ∧ (X.fn x = true ∨ X.env.scope.names.lookup x = some .local) :=
  ⟨locB_ok (by simpa using h), .inl (hf x)⟩
theorem asg_comp (g : Gd A G gl Φ N k X W) (hf : ∀ x, X.fn x = true) {i : Nat} {m : ME} {y : Str} {py pos : Pos} {e' : Expr} (hc : notComp e' = false) (h1 : mtTb X.env.scope N true (.nm i) (.Name y py) = true) (h2 : mtE G N X.env.scope m e' = true) :
    PS X (.Assign [.Name y py] e' pos) (tSt A X.K W (wS gl Φ (.asg (.nm i) m))) := by
  cases e' <;> first | (simp [notComp] at hc; done) | skip
  · rename_i elt gs scope vpos
    cases hs : swC X.env.scope scope y py vpos with
    | false =>
      exact s_asg (okM m X W g _ h2).1 (pgT_ok g.calm g.nd g.nN h1 fun x hx => loc_def hf hx).1 (by unfold swapsWithSole; dsimp only; rw [sw_ok g.kind, hs]) (name_stores rfl _) rfl
    | true =>
      have hsw := sw_ok (elt := elt) (gs := gs) (scope := scope) (pos := vpos) (py := py) (y := y) (l := pos.line) (env := X.env) g.kind
      rw [hs] at hsw
      unfold mtE at h2; split at h2 <;> first | contradiction | skip
      rename_i heq
      cases heq
      simp only [Bool.and_eq_true, decide_eq_true_eq] at h2
      obtain ⟨⟨⟨⟨⟨⟨rfl, q1⟩, q2⟩, q3⟩, q4⟩, q5⟩, q6⟩ := h2
      have ok := blkOk_by q1
      rw [← g.nN] at ok
      have gk := fun s H C cl fp => g.blk ok.kind s H C cl fp
      have hy : X.N[i]? = some y := by
        simp only [mtTb, mtT1, Bool.and_eq_true, decide_eq_true_eq] at h1
        rw [g.nN]; exact h1.1
      have hl : X.env.scope.names.lookup y = some .local := lclB_ok (by
        simp only [swC, Bool.and_eq_true] at hs
        exact hs.1.1)
      exact s_comp g.calm g.nd hy hl (own_ix _) (fun i hi => by simpa using List.all_eq_true.mp q2 i hi) hsw (okMI _ X W g _ _ q4) ok
        (fun s H C cl fp => (pgT_ok (X := X.blk s H _ (compEnvC _ cl C X.env) fp) (gk s H C cl fp).calm (gk s H C cl fp).nd (gk s H C cl fp).nN q3 fun x hx => blk_loc s H C cl fp (by simpa using hx)).1)
        (fun s H C cl fp => (okMo _ _ _ (gk s H C cl fp)).2 _ q5) (fun s H C cl fp => (okM _ _ _ (gk s H C cl fp) _ q6).1) (okMI_fold q4 _)
  · simp [mtE] at h2
  · simp [mtE] at h2
mutual
theorem okS : ∀ (m : MS) (X : Cx) (W : WX), Gd A G gl Φ N k X W → (∀ x, X.fn x = true) → ∀ st, mtS G N X.env.scope m st = true → PS X st (tSt A X.K W (wS gl Φ m))
  | .asg t e, X, W, g, hf, st, h => by
    unfold mtS at h; split at h <;> first | contradiction | skip
    cases ‹MS.asg _ _ = MS.asg _ _›
    simp only [Bool.and_eq_true] at h
    obtain ⟨⟨h1, h2⟩, h3⟩ := h
    rename_i tg e' pos
    obtain ⟨pg, pa⟩ := pgT_ok g.calm g.nd g.nN h1 fun x hx => loc_def hf hx
    cases hc : notComp e' with
    | true =>
      refine s_asg (okM e X W g _ h2).1 pg (notComp_sole hc _ _ _) ?_ pa
      cases ht : notTup e' with
      | true => exact notTup_stores ht _ _
      | false =>
        have : isNm tg = true := by simpa [hc, ht] using h3
        exact name_stores this _
    | false =>
      have hn : isNm tg = true := by simpa [hc] using h3
      cases tg <;> first | (simp [isNm] at hn; done) | skip
      cases t with
      | tp _ => simp [mtTb] at h1
      | nm i => exact asg_comp g hf hc h1 h2
  | .par is es, X, W, g, hf, st, h => by
    unfold mtS at h; split at h <;> first | contradiction | skip
    cases ‹MS.par _ _ = MS.par _ _›
    simp only [Bool.and_eq_true, decide_eq_true_eq, Bool.not_eq_true'] at h
    obtain ⟨⟨⟨⟨⟨⟨⟨⟨⟨⟨h1, h2⟩, h3⟩, h4⟩, h5⟩, h6⟩, h7⟩, h8⟩, h9⟩, h10⟩, h11⟩ := h
    rw [← g.nN] at h1 h2
    exact s_par2 g.calm g.nd h1 h2 h3 (lclB_ok h4) (lclB_ok h5) (okMs es X W g _ h11).1 (swap2 g.kind (lclB_ok h4) (lclB_ok h5) h6 h7 h8 h9 h10)
  | .sub o i e, X, W, g, hf, st, h => by
    unfold mtS at h; split at h <;> first | contradiction | skip
    cases ‹MS.sub _ _ _ = MS.sub _ _ _›
    simp only [Bool.and_eq_true] at h
    obtain ⟨⟨⟨⟨h1, h2⟩, h3⟩, h4⟩, h5⟩ := h
    exact s_sub h1 (okM o X W g _ h3).1 (okM i X W g _ h4).1 (okM e X W g _ h5).1 (notComp_sole h2 _ _ _) (sub_stores _)
  | .aug i op e, X, W, g, hf, st, h => by
    unfold mtS at h; split at h <;> first | contradiction | skip
    cases ‹MS.aug _ _ _ = MS.aug _ _ _›
    simp only [Bool.and_eq_true, decide_eq_true_eq] at h
    obtain ⟨⟨⟨⟨h1, h2⟩, rfl⟩, h4⟩, h5⟩ := h
    rw [← g.nN] at h1
    exact s_aug g.nd h1 (locB_ok h2) (hf _) (okM e X W g _ h5).1 h4
  | .exp e, X, W, g, hf, st, h => by
    unfold mtS at h; split at h <;> first | contradiction | skip
    cases ‹MS.exp _ = MS.exp _›
    simp only [Bool.and_eq_true] at h
    exact s_exp (notComp_swaps h.1 _ _ _) (okM e X W g _ h.2).1
  | .ret e, X, W, g, hf, st, h => by
    unfold mtS at h; split at h <;> first | contradiction | skip
    cases ‹MS.ret _ = MS.ret _›
    exact s_ret (okM e X W g _ h).1
  | .retN, X, W, g, hf, st, h => by
    unfold mtS at h; split at h <;> first | contradiction | skip
    exact s_retN
  | .ife c a b, X, W, g, hf, st, h => by
    unfold mtS at h; split at h <;> first | contradiction | skip
    cases ‹MS.ife _ _ _ = MS.ife _ _ _›
    simp only [Bool.and_eq_true] at h
    exact s_ife (okM c X W g _ h.1.1).2 (okSs a X W g hf _ h.1.2) (okSs b X W g hf _ h.2)
  | .for t it b, X, W, g, hf, st, h => by
    unfold mtS at h; split at h <;> first | contradiction | skip
    cases ‹MS.for _ _ _ = MS.for _ _ _›
    simp only [Bool.and_eq_true] at h
    exact s_for g.po g.calm (okMI it X W g _ _ h.1.2) (pgT_ok g.calm g.nd g.nN h.1.1 fun x hx => loc_def hf hx).1 (okSs b X W g hf _ h.2) (okMI_fold h.1.2 _)
  | .whl c b, X, W, g, hf, st, h => by
    unfold mtS at h; split at h <;> first | contradiction | skip
    cases ‹MS.whl _ _ = MS.whl _ _›
    simp only [Bool.and_eq_true] at h
    exact s_whl g.po (okM c X W g _ h.1).2 (okSs b X W g hf _ h.2)
  | .pas, X, W, g, hf, st, h => by
    unfold mtS at h; split at h <;> first | contradiction | skip
    exact s_pas
  | .brk, X, W, g, hf, st, h => by
    unfold mtS at h; split at h <;> first | contradiction | skip
    exact s_brk
  | .cnt, X, W, g, hf, st, h => by
    unfold mtS at h; split at h <;> first | contradiction | skip
    exact s_cnt
theorem okSs : ∀ (m : MSs) (X : Cx) (W : WX), Gd A G gl Φ N k X W → (∀ x, X.fn x = true) → ∀ st, mtSs G N X.env.scope m st = true → PSs X st (tSt A X.K W (wSs gl Φ m))
  | .nil, X, W, g, hf, st, h => by
    cases st with
    | nil => exact s_nil
    | cons _ _ => simp [mtSs] at h
  | .cons s ss, X, W, g, hf, st, h => by
    cases st with
    | nil => simp [mtSs] at h
    | cons s' ss' =>
      simp only [mtSs, Bool.and_eq_true] at h
      have z := s_cons (okS s X W g hf _ h.1) (okSs ss X W g hf _ h.2)
      exact z
end
end
/-! the defs of the text, all together -/
def startE (N : List Str) (ms : List M) : Env := ms.map some ++ List.replicate (N.length - ms.length) none
/-- a def's body, from its arguments -/
def wF (gl : Nat → M) (Φ : Nat → FS) (d : FD) : FS := fun ms h Q X => wSs gl Φ d.body (startE d.N ms) h { nx := fun _ h' => Q .non h', rt := Q } (fun x _ h' => X x h')
/-- the def as the text has it -/
structure FnTx (G : MG) (K : PySem.W.Frag) (fa : Addr) (d : FD) (fd : FuncData) : Prop where
  ex : ∃ (qual : Str) (st : Stmt), FunD K d.name qual (defArgs st) (defBody st) (defScope st) [] [] fa fd ∧ FnScope d.N d.ps (defScope st) ∧ mtSs G d.N (defScope st) d.body (defBody st) = true
  bd : ∀ (s : Shared) (us : List Value), us.length = d.ps.length → BindsTo s fd ⟨us, []⟩ (d.ps.zip us)
  kp : PySem.W.keepIn K (.ref fa) = true
theorem FnTx.binds {G : MG} {K : PySem.W.Frag} {fa : Addr} {d : FD} {fd : FuncData} (F : FnTx G K fa d fd) : Binds K fd d.ps [] := fun s us _ hl => by
  rw [List.append_nil] at hl ⊢
  exact F.bd s us hl
structure FnText (A : Ads) (G : MG) (K : PySem.W.Frag) (mg : Str → Option Value) (f : Nat) (d : FD) : Prop where
  gm : mg d.name = some (.ref (A.fa f))
  ex : ∃ fd, FnTx G K (A.fa f) d fd
structure Facts (A : Ads) (G : MG) (gl : Nat → M) (K : PySem.W.Frag) (mg : Str → Option Value) : Prop where
  bl : ∀ x ∈ bltNames, mg x = none
  gc : ∀ i x m, G.cons[i]? = some (x, m) → gl i = m ∧ ∃ v u, mg x = some u ∧ RelV v u ∧ ∀ ρ H, Rep K ρ H m v
  fn : ∀ f d, G.fns[f]? = some d → FnText A G K mg f d
section
variable {A : Ads} {G : MG} {gl : Nat → M} {K : PySem.W.Frag} {mg : Str → Option Value} {P : Program} {w : World} {base : Heap}
theorem start_rep {ρ : List Addr} {H : Hp} {N : List Str} {ms : List M} {vs : List V} (q : Reps K ρ H ms vs) (hl : vs.length ≤ N.length) : ER K ρ H (startE N ms) (start N vs) := by
  have hlen := q.length
  refine ⟨by simp [startE, L2.start, hlen], fun i m h => ?_⟩
  unfold startE at h
  by_cases hi : i < ms.length
  · rw [List.getElem?_append_left (by simpa using hi), List.getElem?_map] at h
    rw [List.getElem?_eq_getElem hi] at h
    simp only [Option.map_some, Option.some.injEq] at h
    obtain ⟨y, h1, h2⟩ := q.get (List.getElem?_eq_getElem hi)
    refine ⟨y, ?_, h ▸ h2⟩
    unfold L2.start
    rw [List.getElem?_append_left (by simp; omega), List.getElem?_map, h1]
    rfl
  · rw [List.getElem?_append_right (by simpa using hi)] at h
    have := List.mem_of_getElem? h
    simp at this
theorem fn_ok (Fc : Facts A G gl K mg) {Φ : Nat → FS} {n f : Nat} {d : FD} {φ : FS} (hd : G.fns[f]? = some d) (calls : ∀ f d, G.fns[f]? = some d → ∀ fd, FnTx G K (A.fa f) d fd → FnOk P w K mg base (L2.CX P w) n (A.fa f) fd d.ps (spM A K d.np (Φ f)))
    (hφ : ∀ ms h Q X, ms.length = d.np → φ ms h Q X → wF gl Φ d ms h Q X) {fd : FuncData} (T : FnTx G K (A.fa f) d fd) : FnOk P w K mg base (L2.CX P w) (n + 1) (A.fa f) fd d.ps (spM A K d.np φ) := by
  obtain ⟨qual, st, F, S, mt⟩ := T.ex
  refine F.ok S (fun vs H Q E h => h.1) fun cdv A' outer s H vs Q E hr h => ?_
  obtain ⟨hl, ρ, h, ms, Qm, Xm, r, q, p, qk, xk⟩ := h
  have g : Gd A G gl Φ d.N n (cxOf (L2.CX P w) P w K mg base d.N qual (defScope st) (A.fa f) cdv A' outer s H E) (fun c d _ H => E c d H) :=
    ⟨rfl, hr, rfl, S.nd, takes_of rfl rfl rfl rfl, passes_of rfl, S.kind, Fc.bl, Fc.gc, fun f d hd => ⟨(Fc.fn f d hd).gm, let ⟨fd', T'⟩ := (Fc.fn f d hd).ex; ⟨n, Nat.le_refl _, T'.kp, fd', d.ps, T'.binds, calls f d hd fd' T'⟩⟩⟩
  refine ⟨_, okSs d.body _ _ g (fun _ => rfl) _ mt, ρ, startE d.N ms, h, { nx := fun _ h' => Qm .non h', rt := Qm }, fun x _ h' => Xm x h', r, start_rep q ?_, hφ ms h Qm Xm (by rw [q.length]; exact hl) p, ⟨?_, qk, fun _ _ z => z.elim, fun _ _ z => z.elim⟩, ?_⟩
  · rw [hl, FD.np, ← S.pre, List.length_take]
    exact Nat.min_le_right _ _
  · intro env h' d1 ρ' H' σ' x' r' e'
    exact qk .non h' d1 ρ' H' .non x' r' .non
  · intro x env h' d1 ρ' H' σ' c dd x' r' e' xr
    exact xk x h' d1 ρ' H' c dd x' r' xr
/-- all defs keep their promises, level by level -/
theorem all_ok (Fc : Facts A G gl K mg) (Φ : Nat → Nat → FS) (h0 : ∀ f ms h Q X, Φ 0 f ms h Q X → False)
    (hs : ∀ n f d, G.fns[f]? = some d → ∀ ms h Q X, ms.length = d.np → Φ (n + 1) f ms h Q X → wF gl (Φ n) d ms h Q X) :
    ∀ n f d, G.fns[f]? = some d → ∀ fd, FnTx G K (A.fa f) d fd → FnOk P w K mg base (L2.CX P w) n (A.fa f) fd d.ps (spM A K d.np (Φ n f))
  | 0, f, d, hd, fd, T => by
    refine ⟨fun vs H Q E h => ?_, fun A' outer s H args us vs Q E _ _ _ _ h => ?_⟩
    · obtain ⟨_, _, _, _, _, _, _, _, p, _⟩ := h
      exact (h0 _ _ _ _ _ p).elim
    · obtain ⟨_, _, _, _, _, _, _, _, p, _⟩ := h
      exact (h0 _ _ _ _ _ p).elim
  | n + 1, f, d, hd, fd, T => fn_ok Fc hd (fun f' d' hd' fd' T' => all_ok Fc Φ h0 hs n f' d' hd' fd' T') (hs n f d hd) T
end
end Wg
open PySem PySem.Spec PyProof.Rows
set_option linter.all false
set_option Elab.async false
namespace Wg
open L2
/-! ### what the text's defs do, by levels; the law's end -/
def Sem (G : MG) (gl : Nat → M) : Nat → Nat → FS
  | 0, _ => fun _ _ _ _ => False
  | n + 1, f => fun ms h Q X => ∃ d, G.fns[f]? = some d ∧ wF gl (Sem G gl n) d ms h Q X
theorem sem_ok {A : Ads} {G : MG} {gl : Nat → M} {K : PySem.W.Frag} {mg : Str → Option Value} {P : Program} {w : World} {base : Heap} (Fc : Facts A G gl K mg) (n f : Nat) (d : FD) (hd : G.fns[f]? = some d) (fd : FuncData) (T : FnTx G K (A.fa f) d fd) :
    FnOk P w K mg base (L2.CX P w) n (A.fa f) fd d.ps (spM A K d.np (Sem G gl n f)) :=
  all_ok Fc (Sem G gl) (fun _ _ _ _ _ h => h) (fun n f d hd ms h Q X _ ⟨d', hd', z⟩ => by rw [hd] at hd'; cases hd'; exact z) n f d hd fd T
theorem toCX0 {P : Program} {w : World} {K : PySem.W.Frag} {mg : Str → Option Value} {base : Heap} {k : Nat} {f : Addr} {fd : FuncData} {ps : List Str} {sp : Sp} (F : FnOk P w K mg base (L2.CX P w) k f fd ps sp) :
    FnOk P w K mg base CX0 k f fd ps (fun vs H Q _ => sp vs H Q E0) := by
  refine ⟨fun vs H Q E h => F.len _ _ _ _ h, fun A outer s H args us vs Q E hr e0 b r h => codeAny_mono (F.run A outer s H args us vs Q E0 hr e0 b r h) fun r s' z => ?_⟩
  cases r with
  | ok fl => cases fl <;> exact z
  | error e =>
    obtain ⟨_, _, _, _, _, _, _, _, _, _, _, _, z⟩ := z
    exact z.elim
theorem ints_rep' {K : PySem.W.Frag} {ρ : List Addr} {H : Hp} : ∀ ns : List Int, Reps K ρ H (ns.map M.int) (ns.map V.int)
  | [] => .nil
  | n :: ns => .cons (.int n) (ints_rep' ns)
theorem law_sp {A : Ads} {K : PySem.W.Frag} {φ : FS} {H : Hp} {a : Addr} {ns : List Int} (hO : Only H) (hS : SqL K H a (ns.map V.int)) (h : φ [.fz (ns.map M.int)] [] (fun v _ => v = .bl true) (fun _ _ => False)) :
    spM A K 1 φ [.ref a] H (fun v _ => v = .bl true) E0 := by
  refine ⟨rfl, [], [], _, _, _, ⟨rfl, List.nodup_nil, fun k o a h => by simp at h⟩, .cons (.fz ?_ (ints_rep' ns)) .nil, h, fun v h' e ρ' H' v' _ _ r => ?_, fun _ _ z => z.elim⟩
  · rcases hS with (z | ⟨o, z⟩) | z
    · rcases hO a with q | ⟨_, _, q⟩ <;> rw [z] at q <;> cases q
    · exact .inl ⟨o, z⟩
    · exact .inr z
  · subst e; cases r; rfl
/-- the law's promise, for walk_ofE -/
theorem law_fn {A : Ads} {G : MG} {gl : Nat → M} {K : PySem.W.Frag} {mg : Str → Option Value} {P : Program} {w : World} {h : Heap} {f : Nat} {d : FD} {fa : Addr} {x : Str} (n : Nat) (KX : K.In h) (Fc : Facts A G gl K mg) (hd : G.fns[f]? = some d) (hfa : mg d.name = some (.ref fa)) (hx : d.ps = [x])
    (law : ∀ ns : List Int, ns.length ≤ 63 → Sem G gl n f [.fz (ns.map M.int)] [] (fun v _ => v = .bl true) (fun _ _ => False)) :
    ∃ (K : PySem.W.Frag) (fd : FuncData) (sp : Sp), K.In h ∧ (∀ (s : Shared) (u : Value), BindsTo s fd ⟨[u], []⟩ [(x, u)]) ∧
      (∀ (H : Hp) (a : Addr) (ns : List Int), ns.length ≤ 63 → Only H → SqL K H a (ns.map V.int) → sp [.ref a] H (fun v _ => v = .bl true) fun _ _ _ => False) ∧
      ∀ base : Heap, K.In base → base.Ns mainGlobals mg → FnOk P w K mg base CX0 n fa fd [x] sp := by
  have e := (Fc.fn f d hd).gm.symm.trans hfa
  cases e
  obtain ⟨fd, T⟩ := (Fc.fn f d hd).ex
  refine ⟨K, fd, fun vs H Q _ => spM A K d.np (Sem G gl n f) vs H Q E0, KX, fun s u => ?_, fun H a ns hl hO hS => ?_, fun base _ _ => ?_⟩
  · have z := T.bd s [u] (by rw [hx]; rfl)
    rw [hx] at z; exact z
  · have z := law_sp (A := A) hO hS (law ns hl)
    have e : d.np = 1 := by rw [FD.np, hx]; rfl
    rw [e]; exact z
  · have z := toCX0 (sem_ok (P := P) (w := w) (base := base) Fc n f d hd fd T)
    rw [hx] at z; exact z
end Wg
open PySem PySem.Spec PyProof.Rows
set_option linter.all false
set_option Elab.async false
namespace Wg
open L2
/-! ### the readings, value by value -/
section
variable {h : MH} {Q : QE} {B : Bool → MH → Prop} {i j : Int} {a b k l : Nat} {x y : M} {xs ys : List M} {s t : List Nat} {p q : Bool} {K : KI}
theorem w_add : binR .Add (.int i) (.int j) h Q = Q (.int (i + j)) h := rfl
theorem w_adds : binR .Add (.str s) (.str t) h Q = (s.length + t.length ≤ sizeLine ∧ Q (.str (s ++ t)) h) := rfl
theorem w_addt : binR .Add (.tup xs) (.tup ys) h Q = (xs.length + ys.length ≤ sizeLine ∧ Q (.tup (xs ++ ys)) h) := rfl
theorem w_addl : binR .Add (.ref a) (.ref b) h Q = ∃ xs ys, h[a]? = some (.lst xs) ∧ h[b]? = some (.lst ys) ∧ xs.length + ys.length ≤ sizeLine ∧ Q (.ref h.length) (h ++ [.lst (xs ++ ys)]) := rfl
theorem w_sub : binR .Sub (.int i) (.int j) h Q = Q (.int (i - j)) h := rfl
theorem w_mul : binR .Mult (.int i) (.int j) h Q = (mulOk i j ∧ Q (.int (i * j)) h) := rfl
theorem w_mull : binR .Mult (.ref a) (.int i) h Q = ∃ xs, h[a]? = some (.lst xs) ∧ -(2 ^ 63) ≤ i ∧ i < 2 ^ 63 ∧ xs.length * i.toNat ≤ sizeLine ∧ Q (.ref h.length) (h ++ [.lst (List.replicate i.toNat xs).flatten]) := rfl
theorem w_div : binR .FloorDiv (.int i) (.int j) h Q = ((0 < j ∧ j.natAbs.log2 < 9000) ∧ Q (.int (i / j)) h) := rfl
theorem w_mod : binR .Mod (.int i) (.int j) h Q = (0 < j ∧ Q (.int (i % j)) h) := rfl
theorem w_pow : binR .Pow (.int i) (.int j) h Q = (CPow i j ∧ Q (.int (i ^ j.toNat)) h) := rfl
theorem w_shl : binR .LShift (.int i) (.int j) h Q = (CPow i j ∧ Q (.int (i * 2 ^ j.toNat)) h) := rfl
theorem w_eq : cmpR .Eq x y h B = ∃ b, eqV h x y = some b ∧ B b h := by cases x <;> cases y <;> rfl
theorem w_ne : cmpR .NotEq x y h B = ∃ b, eqV h x y = some b ∧ B (!b) h := by cases x <;> cases y <;> rfl
theorem w_in : cmpR .In x y h B = ∃ b, inV h x y = some b ∧ B b h := by cases x <;> cases y <;> rfl
theorem w_nin : cmpR .NotIn x y h B = ∃ b, inV h x y = some b ∧ B (!b) h := by cases x <;> cases y <;> rfl
theorem w_lt : cmpR .Lt (.int i) (.int j) h B = B (decide (i < j)) h := rfl
theorem w_le : cmpR .LtE (.int i) (.int j) h B = B (decide (i ≤ j)) h := rfl
theorem w_gt : cmpR .Gt (.int i) (.int j) h B = B (decide (j < i)) h := rfl
theorem w_ge : cmpR .GtE (.int i) (.int j) h B = B (decide (j ≤ i)) h := rfl
theorem w_is : cmpR .Is x .non h B = B (decide (x = .non)) h := by cases x <;> rfl
theorem w_isn : cmpR .IsNot x .non h B = B (!decide (x = .non)) h := by cases x <;> rfl
theorem w_eqi : eqV h (.int i) (.int j) = some (decide (i = j)) := by simp [eqV, M.dt]
theorem w_eqs : eqV h (.str s) (.str t) = some (decide (s = t)) := rfl
theorem w_eqb : eqV h (.bl p) (.bl q) = some (decide (p = q)) := rfl
theorem w_tn : truV h .non = some false := rfl
theorem w_tb : truV h (.bl p) = some p := rfl
theorem w_ti : truV h (.int i) = some (decide (i ≠ 0)) := rfl
theorem w_tt : truV h (.tup xs) = some (decide (xs ≠ [])) := rfl
theorem w_it : idxR (.tup xs) (.int i) h Q = ∃ v, atI xs i = some v ∧ Q v h := rfl
theorem w_if : idxR (.fz xs) (.int i) h Q = ∃ v, atI xs i = some v ∧ Q v h := rfl
theorem w_is' : idxR (.str s) (.int i) h Q = (s.length ≤ sizeLine ∧ ∃ c, atI s i = some c ∧ Q (.str [c]) h) := rfl
theorem w_il : idxR (.ref a) (.int i) h Q = ∃ xs v, getL h a = some xs ∧ atI xs i = some v ∧ Q v h := rfl
theorem w_st {lo hi : Option Int} : slcR (.tup xs) lo hi h Q = Q (.tup (cutL xs lo hi)) h := rfl
theorem w_ss {lo hi : Option Int} : slcR (.str s) lo hi h Q = (s.length ≤ sizeLine ∧ Q (.str (cutL s lo hi)) h) := rfl
theorem w_sl {lo hi : Option Int} : slcR (.ref a) lo hi h Q = ∃ xs, getL h a = some xs ∧ Q (.ref h.length) (h ++ [.lst (cutL xs lo hi)]) := rfl
theorem w_lent : pmR .len [.tup xs] h Q = Q (.int xs.length) h := rfl
theorem w_lenf : pmR .len [.fz xs] h Q = Q (.int xs.length) h := rfl
theorem w_lens : pmR .len [.str s] h Q = (s.length ≤ sizeLine ∧ Q (.int s.length) h) := rfl
theorem w_lenl : pmR .len [.ref a] h Q = ∃ xs, getL h a = some xs ∧ Q (.int xs.length) h := rfl
theorem w_tupt : pmR .tuple [.tup xs] h Q = Q (.tup xs) h := rfl
theorem w_tupl : pmR .tuple [.ref a] h Q = ∃ xs, getL h a = some xs ∧ Q (.tup xs) h := rfl
theorem w_lstt : pmR .list [.tup xs] h Q = Q (.ref h.length) (h ++ [.lst xs]) := rfl
theorem w_lstl : pmR .list [.ref a] h Q = ∃ xs, getL h a = some xs ∧ Q (.ref h.length) (h ++ [.lst xs]) := rfl
theorem w_stri : pmR .str [.int i] h Q = (i.natAbs.log2 < 1920 ∧ Q (.str (intL i)) h) := rfl
theorem w_strs : pmR .str [.str s] h Q = Q (.str s) h := rfl
theorem w_inti : pmR .int [.int i] h Q = Q (.int i) h := rfl
theorem w_intb : pmR .int [.bl p] h Q = Q (.int (if p then 1 else 0)) h := rfl
theorem w_min2 : pmR .min2 [.int i, .int j] h Q = Q (.int (if j < i then j else i)) h := rfl
theorem w_max2 : pmR .max2 [.int i, .int j] h Q = Q (.int (if j > i then j else i)) h := rfl
theorem w_abs : pmR .abs [.int i] h Q = Q (.int (if i < 0 then -i else i)) h := rfl
theorem w_all : pmR .all [.ref a] h Q = ∃ xs bs, getL h a = some xs ∧ bls xs = some bs ∧ Q (.bl (bs.all id)) h := rfl
theorem w_any : pmR .any [.ref a] h Q = ∃ xs bs, getL h a = some xs ∧ bls xs = some bs ∧ Q (.bl (bs.any id)) h := rfl
theorem w_sum : pmR .sum [.ref a] h Q = ∃ xs ns, getL h a = some xs ∧ intsM xs = some ns ∧ Q (.int ns.sum) h := rfl
theorem w_join : mtR .join (.str s) [.ref a] h Q = ∃ xs ys, getL h a = some xs ∧ strsM xs = some ys ∧ (ys.map (·.length)).sum + ys.length * s.length ≤ 16777216 ∧ Q (.str (TL.joinL s ys)) h := rfl
theorem w_app : mtR .append (.ref l) [y] h Q = ∃ xs, h[l]? = some (.lst xs) ∧ xs.length < sizeLine ∧ Q .non (h.set l (.lst (xs ++ [y]))) := rfl
theorem w_ext : mtR .extend (.ref l) [.ref b] h Q = ∃ xs zs, h[l]? = some (.lst xs) ∧ h[b]? = some (.lst zs) ∧ xs.length + zs.length ≤ sizeLine ∧ Q .non (h.set l (.lst (xs ++ zs))) := rfl
theorem w_pop : mtR .pop (.ref l) [] h Q = ∃ xs y, h[l]? = some (.lst (xs ++ [y])) ∧ Q y (h.set l (.lst xs)) := rfl
theorem w_tyj : mtTy .join (.str s) h = true := rfl
theorem w_tya : mtTy .append (.ref k) h = (getL h k).isSome := rfl
theorem w_tye : mtTy .extend (.ref k) h = (getL h k).isSome := rfl
theorem w_typ : mtTy .pop (.ref k) h = (getL h k).isSome := rfl
theorem w_isin {t : Ty} : isiV t h .non = some false := rfl
theorem w_isib {t : Ty} : isiV t h (.bl p) = some (t == .bool || t == .int) := rfl
theorem w_isii {t : Ty} : isiV t h (.int i) = some (t == .int) := rfl
theorem w_isis {t : Ty} : isiV t h (.str s) = some (t == .str) := rfl
theorem w_isit {t : Ty} : isiV t h (.tup xs) = some (t == .tuple) := rfl
theorem w_ont : onR (.tup xs) h K = K xs (fun _ => True) h := rfl
theorem w_onf : onR (.fz xs) h K = K xs (fun _ => True) h := rfl
theorem w_ons : onR (.str s) h K = (s.length ≤ sizeLine ∧ K (s.map fun c => .str [c]) (fun _ => True) h) := rfl
theorem w_onl : onR (.ref a) h K = ∃ xs, getL h a = some xs ∧ K xs (fun h' => getL h' a = some xs) h := rfl
theorem w_rng1 : rngR [.int j] h K = (rngOk 0 j ∧ K (rngL 0 j) (fun _ => True) h) := rfl
theorem w_rng2 : rngR [.int i, .int j] h K = (rngOk i j ∧ K (rngL i j) (fun _ => True) h) := rfl
theorem w_nm {env : Env} : bindT (.nm k) x env = some (env.set k (some x)) := rfl
theorem w_tp {env : Env} {is : List Nat} : bindT (.tp is) (.tup xs) env = if xs.length = is.length then some (setAll is xs env) else none := rfl
theorem w_seq (h1 : h[a]? = some (.lst xs)) : getL h a = some xs := getL_of h1
end
end Wg
namespace Wg
open L2
section
variable {α : Type} {x y z u v w : α} {xs : List α}
theorem at_0 : atI (x :: xs) 0 = some x := atI_nat (j := 0) rfl
theorem at_1 : atI (x :: y :: xs) 1 = some y := atI_nat (j := 1) rfl
theorem at_2 : atI (x :: y :: z :: xs) 2 = some z := atI_nat (j := 2) rfl
theorem at_3 : atI (x :: y :: z :: u :: xs) 3 = some u := atI_nat (j := 3) rfl
theorem at_4 : atI (x :: y :: z :: u :: v :: xs) 4 = some v := atI_nat (j := 4) rfl
theorem at_nat {n : Nat} {i : Int} (h : i = n) (e : xs[n]? = some x) : atI xs i = some x := by subst h; exact atI_nat e
theorem ix_nat {n j : Nat} {i : Int} (h : i = j) (l : j < n) : ixN n i = some j := by subst h; unfold ixN; rw [if_pos (by omega), if_pos (by omega)]; simp
theorem ix_0 {n : Nat} : ixN (n + 1) 0 = some 0 := ix_nat rfl (by omega)
theorem ix_1 {n : Nat} : ixN (n + 2) 1 = some 1 := ix_nat rfl (by omega)
theorem ix_2 {n : Nat} : ixN (n + 3) 2 = some 2 := ix_nat rfl (by omega)
end
theorem set_self {h : MH} {k : Nat} {o p : MO} (e : h[k]? = some o) : (h.set k p)[k]? = some p := List.getElem?_set_self (List.getElem?_eq_some_iff.mp e).1
theorem getL_set {h : MH} {k : Nat} {o : MO} {xs : List M} (e : h[k]? = some o) : getL (h.set k (.lst xs)) k = some xs := getL_of (set_self e)
theorem log2_small {j : Int} (h0 : 0 < j) (h1 : j < 2 ^ 60) : j.natAbs.log2 < 9000 := by
  have : j.natAbs < 2 ^ 60 := by omega
  have := (Nat.log2_lt (by omega)).mpr this
  omega
theorem mul_small {i j : Int} (h0 : -(2 ^ 64) < i) (h1 : i < 2 ^ 64) : mulOk i j := .inl (.inl ⟨h0, h1⟩)
theorem mul_small' {i j : Int} (h0 : -(2 ^ 64) < j) (h1 : j < 2 ^ 64) : mulOk i j := .inl (.inr ⟨h0, h1⟩)
theorem get_new {h : MH} {o : MO} : (h ++ [o])[h.length]? = some o := by simp
theorem getL_new {h : MH} {xs : List M} : getL (h ++ [.lst xs]) h.length = some xs := getL_of get_new
end Wg
open PySem PySem.Spec PyProof.Rows
set_option linter.all false
set_option Elab.async false
set_option maxRecDepth 100000
namespace Wg
open L2
/-! ### the law's own draws -/
/-- all objects but the one at k stand as they stood -/
def Keep (k : Nat) (h h' : MH) : Prop := h.length ≤ h'.length ∧ ∀ j o, j ≠ k → h[j]? = some o → h'[j]? = some o
/-- a hand of draws at k, that has drawn at most u times -/
def HandAt (h : MH) (k : Nat) (u : Int) : Prop := ∃ a b c : Int, h[k]? = some (.lst [.int a, .int b, .int c]) ∧ 0 ≤ a ∧ 0 ≤ b ∧ b < 2 ^ 63 ∧ 0 ≤ c ∧ c ≤ u
theorem Keep.refl (k : Nat) (h : MH) : Keep k h h := ⟨Nat.le_refl _, fun _ _ _ e => e⟩
theorem Keep.trans {k : Nat} {h h1 h2 : MH} (a : Keep k h h1) (b : Keep k h1 h2) : Keep k h h2 := ⟨Nat.le_trans a.1 b.1, fun j o n e => b.2 j o n (a.2 j o n e)⟩
theorem Keep.set {k : Nat} {h : MH} {o : MO} : Keep k h (h.set k o) := ⟨by simp, fun j o n e => by rw [List.getElem?_set_ne (Ne.symm n)]; exact e⟩
theorem Keep.app {k : Nat} {h t : MH} : Keep k h (h ++ t) := ⟨by simp, fun j o n e => by rw [List.getElem?_append_left (List.getElem?_eq_some_iff.mp e).1]; exact e⟩
theorem HandAt.app {h t : MH} {k : Nat} {u : Int} (a : HandAt h k u) : HandAt (h ++ t) k u := by
  obtain ⟨x, y, z, e, r⟩ := a
  exact ⟨x, y, z, by rw [List.getElem?_append_left (List.getElem?_eq_some_iff.mp e).1]; exact e, r⟩
theorem HandAt.mono {h : MH} {k : Nat} {u v : Int} (a : HandAt h k u) (l : u ≤ v) : HandAt h k v := by
  obtain ⟨x, y, z, e, r1, r2, r3, r4, r5⟩ := a
  exact ⟨x, y, z, e, r1, r2, r3, r4, by omega⟩
section
variable {G : MG} {gl : Nat → M} {d : FD} {f : Nat}
def takeB : MSs := (.cons (.ife (.cmp .Gt (.idx (.var 0) (.cst (.int 0))) (.cst (.int 0))) (.cons (.asg (.nm 2) (.bin .Mod (.idx (.var 0) (.cst (.int 0))) (.var 1))) (
    .cons (.sub (.var 0) (.cst (.int 0)) (.bin .FloorDiv (.idx (.var 0) (.cst (.int 0))) (.var 1))) (
    .cons (.ret (.var 2)) .nil))) .nil) (
  .cons (.sub (.var 0) (.cst (.int 2)) (.bin .Add (.idx (.var 0) (.cst (.int 2))) (.cst (.int 1)))) (
  .cons (.asg (.nm 3) (.idx (.var 0) (.cst (.int 2)))) (
  .cons (.asg (.nm 4) (.bin .Mod (.bin .Mult (.idx (.var 0) (.cst (.int 1))) (.bin .Add (.bin .Add (.cst (.int 48271)) (.bin .Mult (.bin .Mult (.cst (.int 2)) (.var 3)) (.var 3))) (.bin .Mult (.cst (.int 65537)) (.var 3)))) (.cst (.int 2305843009213693921)))) (
  .cons (.asg (.nm 5) (.bin .Add (.bin .Add (.bin .Mod (.var 4) (.cst (.int 1000003))) (.bin .Mult (.var 3) (.cst (.int 99991)))) (.cst (.int 11)))) (
  .cons (.asg (.nm 4) (.bin .Mod (.bin .Mult (.var 4) (.var 5)) (.cst (.int 2305843009213693907)))) (
  .cons (.ret (.bin .Mod (.bin .Add (.bin .FloorDiv (.var 4) (.cst (.int 97))) (.bin .FloorDiv (.var 4) (.cst (.int 1000033)))) (.var 1))) .nil)))))))
theorem take_ok (hf : G.fns[f]? = some d) (hN : d.N.length = 6) (hB : d.body = takeB) {n k : Nat} {h : MH} {u many : Int} {Q : QE} {X : Exn → MH → Prop} (H : HandAt h k u) (hu : u ≤ 2 ^ 40) (h0 : 0 < many) (h1 : many < 2 ^ 60)
    (q : ∀ x h', 0 ≤ x → x < many → Keep k h h' → HandAt h' k (u + 1) → Q (.int x) h') : Sem G gl (n + 1) f [.ref k, .int many] h Q X := by
  obtain ⟨a, b, c, e, ha, hb, hb2, hc, hc2⟩ := H
  refine ⟨d, hf, ?_⟩
  have hl : k < h.length := (List.getElem?_eq_some_iff.mp e).1
  simp only [wF, hB, takeB, startE, hN]
  simp only [wSs, wS, wE, wEs, wAnd, wOr, wT, wAndT, wOrT, wO, wC, wI, setAll, w_add, w_adds, w_addt, w_addl, w_sub, w_mul, w_mull, w_div, w_mod, w_pow, w_shl, w_eq, w_ne, w_in, w_nin, w_lt, w_le, w_gt, w_ge, w_is, w_isn, w_eqi, w_eqs, w_eqb, w_tn, w_tb, w_ti, w_tt, w_it, w_if, w_is', w_il, w_st, w_ss, w_sl, w_lent, w_lenf, w_lens, w_lenl, w_tupt, w_tupl, w_lstt, w_lstl, w_stri, w_strs, w_inti, w_intb, w_min2, w_max2, w_abs, w_all, w_any, w_sum, w_join, w_app, w_ext, w_pop, w_tyj, w_tya, w_tye, w_typ, w_isin, w_isib, w_isii, w_isis, w_isit, w_ont, w_onf, w_ons, w_onl, w_rng1, w_rng2, w_nm, w_tp, Option.some.injEq, exists_eq_left', exists_eq_left, exists_eq, exists_eq', List.getElem?_cons_zero, List.getElem?_cons_succ, List.set_cons_zero, List.set_cons_succ, List.map_cons, List.map_nil, List.cons_append, List.nil_append, List.length_cons, List.length_nil, M.int.injEq, M.ref.injEq, M.str.injEq, M.bl.injEq, M.tup.injEq, List.replicate, Nat.reduceSub, Nat.reduceAdd, true_and, and_true, exists_and_left, exists_and_right, at_0, at_1, at_2, at_3, at_4, Nat.reduceLT, List.length_set, MO.lst.injEq, ix_0, ix_1, ix_2, beq_iff_eq, reduceCtorEq, if_true, if_false, ite_true, ite_false, getL_new, wipeE, Bool.false_eq_true, decide_true, decide_false, Bool.not_true, Bool.not_false, getL_of e]
  by_cases hp : 0 < a
  · simp only [wSs, wS, wE, wEs, wAnd, wOr, wT, wAndT, wOrT, wO, wC, wI, setAll, w_add, w_adds, w_addt, w_addl, w_sub, w_mul, w_mull, w_div, w_mod, w_pow, w_shl, w_eq, w_ne, w_in, w_nin, w_lt, w_le, w_gt, w_ge, w_is, w_isn, w_eqi, w_eqs, w_eqb, w_tn, w_tb, w_ti, w_tt, w_it, w_if, w_is', w_il, w_st, w_ss, w_sl, w_lent, w_lenf, w_lens, w_lenl, w_tupt, w_tupl, w_lstt, w_lstl, w_stri, w_strs, w_inti, w_intb, w_min2, w_max2, w_abs, w_all, w_any, w_sum, w_join, w_app, w_ext, w_pop, w_tyj, w_tya, w_tye, w_typ, w_isin, w_isib, w_isii, w_isis, w_isit, w_ont, w_onf, w_ons, w_onl, w_rng1, w_rng2, w_nm, w_tp, Option.some.injEq, exists_eq_left', exists_eq_left, exists_eq, exists_eq', List.getElem?_cons_zero, List.getElem?_cons_succ, List.set_cons_zero, List.set_cons_succ, List.map_cons, List.map_nil, List.cons_append, List.nil_append, List.length_cons, List.length_nil, M.int.injEq, M.ref.injEq, M.str.injEq, M.bl.injEq, M.tup.injEq, List.replicate, Nat.reduceSub, Nat.reduceAdd, true_and, and_true, exists_and_left, exists_and_right, at_0, at_1, at_2, at_3, at_4, Nat.reduceLT, List.length_set, MO.lst.injEq, ix_0, ix_1, ix_2, beq_iff_eq, reduceCtorEq, if_true, if_false, ite_true, ite_false, getL_new, wipeE, Bool.false_eq_true, decide_true, decide_false, Bool.not_true, Bool.not_false, hp, getL_of e, e, decide_true, if_true]
    refine ⟨h0, ⟨h0, log2_small h0 h1⟩, ?_⟩
    refine q _ _ (Int.emod_nonneg _ (by omega)) (Int.emod_lt_of_pos _ h0) .set ⟨a / many, b, c, set_self e, Int.ediv_nonneg ha (by omega), hb, hb2, hc, by omega⟩
  · simp only [wSs, wS, wE, wEs, wAnd, wOr, wT, wAndT, wOrT, wO, wC, wI, setAll, w_add, w_adds, w_addt, w_addl, w_sub, w_mul, w_mull, w_div, w_mod, w_pow, w_shl, w_eq, w_ne, w_in, w_nin, w_lt, w_le, w_gt, w_ge, w_is, w_isn, w_eqi, w_eqs, w_eqb, w_tn, w_tb, w_ti, w_tt, w_it, w_if, w_is', w_il, w_st, w_ss, w_sl, w_lent, w_lenf, w_lens, w_lenl, w_tupt, w_tupl, w_lstt, w_lstl, w_stri, w_strs, w_inti, w_intb, w_min2, w_max2, w_abs, w_all, w_any, w_sum, w_join, w_app, w_ext, w_pop, w_tyj, w_tya, w_tye, w_typ, w_isin, w_isib, w_isii, w_isis, w_isit, w_ont, w_onf, w_ons, w_onl, w_rng1, w_rng2, w_nm, w_tp, Option.some.injEq, exists_eq_left', exists_eq_left, exists_eq, exists_eq', List.getElem?_cons_zero, List.getElem?_cons_succ, List.set_cons_zero, List.set_cons_succ, List.map_cons, List.map_nil, List.cons_append, List.nil_append, List.length_cons, List.length_nil, M.int.injEq, M.ref.injEq, M.str.injEq, M.bl.injEq, M.tup.injEq, List.replicate, Nat.reduceSub, Nat.reduceAdd, true_and, and_true, exists_and_left, exists_and_right, at_0, at_1, at_2, at_3, at_4, Nat.reduceLT, List.length_set, MO.lst.injEq, ix_0, ix_1, ix_2, beq_iff_eq, reduceCtorEq, if_true, if_false, ite_true, ite_false, getL_new, wipeE, Bool.false_eq_true, decide_true, decide_false, Bool.not_true, Bool.not_false, hp, getL_of e, e, decide_false, if_false, Bool.false_eq_true, getL_set e]
    refine ⟨mul_small (by omega) (by omega), mul_small' (by omega) (by omega), mul_small (by omega) (by omega), mul_small (by omega) (by omega), by decide, by decide, mul_small (by omega) (by omega), ?_, by decide, ⟨by decide, by decide⟩, ⟨by decide, by decide⟩, h0, ?_⟩
    · have z := Int.emod_lt_of_pos (b * (48271 + 2 * (c + 1) * (c + 1) + 65537 * (c + 1))) (show (0 : Int) < 2305843009213693921 by decide)
      have z2 := Int.emod_nonneg (b * (48271 + 2 * (c + 1) * (c + 1) + 65537 * (c + 1))) (show (2305843009213693921 : Int) ≠ 0 by decide)
      exact mul_small (by omega) (by omega)
    · exact q _ _ (Int.emod_nonneg _ (by omega)) (Int.emod_lt_of_pos _ h0) .set ⟨a, b, c + 1, set_self e, ha, hb, hb2, by omega, by omega⟩
end
end Wg
open PySem PySem.Spec PyProof.Rows
set_option linter.all false
set_option Elab.async false
set_option maxRecDepth 100000
namespace Wg
open L2
/-! ### loops by invariants; heaps that grow -/
def Gro (h h' : MH) : Prop := ∃ t, h' = h ++ t
theorem Gro.refl (h : MH) : Gro h h := ⟨[], by simp⟩
theorem Gro.trans {a b c : MH} (x : Gro a b) (y : Gro b c) : Gro a c := by
  obtain ⟨t, rfl⟩ := x
  obtain ⟨u, rfl⟩ := y
  exact ⟨t ++ u, by simp⟩
theorem Gro.app (h t : MH) : Gro h (h ++ t) := ⟨t, rfl⟩
theorem Gro.get {h h' : MH} {k : Nat} {o : MO} (x : Gro h h') (e : h[k]? = some o) : h'[k]? = some o := by
  obtain ⟨t, rfl⟩ := x
  rw [List.getElem?_append_left (List.getElem?_eq_some_iff.mp e).1]; exact e
theorem Gro.getL {h h' : MH} {k : Nat} {xs : List M} (x : Gro h h') (e : getL h k = some xs) : getL h' k = some xs := getL_of (x.get (getL_lst e))
theorem Gro.keep {h h' : MH} (x : Gro h h') (k : Nat) : Keep k h h' := by obtain ⟨t, rfl⟩ := x; exact .app
theorem Gro.hand {h h' : MH} {k : Nat} {u : Int} (x : Gro h h') (a : HandAt h k u) : HandAt h' k u := by obtain ⟨t, rfl⟩ := x; exact a.app
theorem compL_inv {chk : MH → Prop} {bnd : M → Option Env} {cond : WT} {elt : WE} {X : Exn → MH → Prop} {R : List M → MH → Prop} (J : Nat → List M → MH → Prop) (xs0 : List M)
    (hc : ∀ i acc h, J i acc h → chk h) (fin : ∀ acc h, J xs0.length acc h → R acc h)
    (step : ∀ i x acc h (Q : List M → MH → Prop), xs0[i]? = some x → J i acc h → (∀ acc' h', J (i + 1) acc' h' → Q acc' h') →
      ∃ env, bnd x = some env ∧ cond env h (fun b h1 => if b = true then elt env h1 (fun y h2 => Q (acc ++ [y]) h2) X else Q acc h1) X) :
    ∀ (xs : List M) (i : Nat) (acc : List M) (h : MH), xs0.drop i = xs → i ≤ xs0.length → J i acc h → compL chk bnd cond elt X xs acc h R
  | [], i, acc, h, hd, hi, j => by
    have : i = xs0.length := by
      have := congrArg List.length hd
      simp at this; omega
    subst this
    exact ⟨hc _ _ _ j, fin _ _ j⟩
  | x :: xs, i, acc, h, hd, hi, j => by
    have hl : i < xs0.length := by
      have := congrArg List.length hd
      simp at this; omega
    rw [List.drop_eq_getElem_cons hl] at hd
    simp only [List.cons.injEq] at hd
    obtain ⟨env, e1, e2⟩ := step i x acc h (fun acc' h' => compL chk bnd cond elt X xs acc' h' R) (by rw [List.getElem?_eq_getElem hl, hd.1]) j
      fun acc' h' j' => compL_inv J xs0 hc fin step xs (i + 1) acc' h' hd.2 hl j'
    exact ⟨hc _ _ _ j, env, e1, e2⟩
theorem comp_inv {chk : MH → Prop} {bnd : M → Option Env} {cond : WT} {elt : WE} {X : Exn → MH → Prop} {R : List M → MH → Prop} (J : Nat → List M → MH → Prop) {xs : List M} {h : MH} (h0 : J 0 [] h)
    (hc : ∀ i acc h, J i acc h → chk h) (fin : ∀ acc h, J xs.length acc h → R acc h)
    (step : ∀ i x acc h (Q : List M → MH → Prop), xs[i]? = some x → J i acc h → (∀ acc' h', J (i + 1) acc' h' → Q acc' h') →
      ∃ env, bnd x = some env ∧ cond env h (fun b h1 => if b = true then elt env h1 (fun y h2 => Q (acc ++ [y]) h2) X else Q acc h1) X) : compL chk bnd cond elt X xs [] h R :=
  compL_inv J xs hc fin step xs 0 [] h (by simp) (Nat.zero_le _) h0
theorem forL_inv {chk : MH → Prop} {t : Tg} {body : Env → MH → Ed → XW → Prop} {X : XW} {D : Ed} (J : Nat → Env → MH → Prop) (xs0 : List M)
    (hc : ∀ i e h, J i e h → chk h) (fin : ∀ e h, J xs0.length e h → D.nx e h)
    (step : ∀ i x env h (N : Env → MH → Prop), xs0[i]? = some x → J i env h → (∀ e h', J (i + 1) e h' → N e h') → ∃ env', bindT t x env = some env' ∧ body env' h { nx := N, rt := D.rt, bk := D.nx, ct := N } X) :
    ∀ (xs : List M) (i : Nat) (env : Env) (h : MH), xs0.drop i = xs → i ≤ xs0.length → J i env h → forL chk t body X D xs env h
  | [], i, env, h, hd, hi, j => by
    have : i = xs0.length := by
      have := congrArg List.length hd
      simp at this; omega
    subst this
    exact ⟨hc _ _ _ j, fin _ _ j⟩
  | x :: xs, i, env, h, hd, hi, j => by
    have hl : i < xs0.length := by
      have := congrArg List.length hd
      simp at this; omega
    rw [List.drop_eq_getElem_cons hl] at hd
    simp only [List.cons.injEq] at hd
    obtain ⟨env', e1, e2⟩ := step i x env h (fun e' h' => forL chk t body X D xs e' h') (by rw [List.getElem?_eq_getElem hl, hd.1]) j
      fun e' h' j' => forL_inv J xs0 hc fin step xs (i + 1) e' h' hd.2 hl j'
    exact ⟨hc _ _ _ j, env', e1, e2⟩
theorem for_inv {chk : MH → Prop} {t : Tg} {body : Env → MH → Ed → XW → Prop} {X : XW} {D : Ed} (J : Nat → Env → MH → Prop) {xs : List M} {env : Env} {h : MH} (h0 : J 0 env h)
    (hc : ∀ i e h, J i e h → chk h) (fin : ∀ e h, J xs.length e h → D.nx e h)
    (step : ∀ i x env h (N : Env → MH → Prop), xs[i]? = some x → J i env h → (∀ e h', J (i + 1) e h' → N e h') → ∃ env', bindT t x env = some env' ∧ body env' h { nx := N, rt := D.rt, bk := D.nx, ct := N } X) :
    forL chk t body X D xs env h := forL_inv J xs hc fin step xs 0 env h (by simp) (Nat.zero_le _) h0
theorem rngL_get {a b : Int} {i : Nat} {x : M} (e : (rngL a b)[i]? = some x) : x = .int (a + i) ∧ i < (b - a).toNat := by
  unfold rngL at e
  rw [List.getElem?_map] at e
  cases q : (List.range (b - a).toNat)[i]? with
  | none => rw [q] at e; cases e
  | some j =>
    rw [q] at e
    have hl : i < (b - a).toNat := by
      have := (List.getElem?_eq_some_iff.mp q).1
      simpa using this
    rw [List.getElem?_range hl] at q
    cases q
    exact ⟨(Option.some.inj e).symm, hl⟩
/-! ### the draws -/
section
variable {G : MG} {gl : Nat → M} {d d' : FD} {f f' : Nat}
def pickB (t : Nat) : MSs := (.cons (.ret (.idx (.var 1) (.call t (.cons (.var 0) (.cons (.prm .len (.cons (.var 1) .nil)) .nil))))) .nil)
theorem pick_ok (hf : G.fns[f]? = some d) (hN : d.N.length = 6) (hB : d.body = takeB) (hf' : G.fns[f']? = some d') (hN' : d'.N.length = 2) (hB' : d'.body = pickB f) {n k l : Nat} {h : MH} {u : Int} {xs : List M} {Q : QE} {X : Exn → MH → Prop} (H : HandAt h k u) (hu : u ≤ 2 ^ 40)
    (hl : h[l]? = some (.lst xs)) (hlk : l ≠ k) (h0 : xs ≠ []) (h1 : xs.length < 2 ^ 60) (q : ∀ (i : Nat) x h', xs[i]? = some x → Keep k h h' → HandAt h' k (u + 1) → Q x h') : Sem G gl (n + 2) f' [.ref k, .ref l] h Q X := by
  refine ⟨d', hf', ?_⟩
  simp only [wF, hB', pickB, startE, hN']
  simp only [wSs, wS, wE, wEs, wAnd, wOr, wT, wAndT, wOrT, wO, wC, wI, setAll, w_add, w_adds, w_addt, w_addl, w_sub, w_mul, w_mull, w_div, w_mod, w_pow, w_shl, w_eq, w_ne, w_in, w_nin, w_lt, w_le, w_gt, w_ge, w_is, w_isn, w_eqi, w_eqs, w_eqb, w_tn, w_tb, w_ti, w_tt, w_it, w_if, w_is', w_il, w_st, w_ss, w_sl, w_lent, w_lenf, w_lens, w_lenl, w_tupt, w_tupl, w_lstt, w_lstl, w_stri, w_strs, w_inti, w_intb, w_min2, w_max2, w_abs, w_all, w_any, w_sum, w_join, w_app, w_ext, w_pop, w_tyj, w_tya, w_tye, w_typ, w_isin, w_isib, w_isii, w_isis, w_isit, w_ont, w_onf, w_ons, w_onl, w_rng1, w_rng2, w_nm, w_tp, Option.some.injEq, exists_eq_left', exists_eq_left, exists_eq, exists_eq', List.getElem?_cons_zero, List.getElem?_cons_succ, List.set_cons_zero, List.set_cons_succ, List.map_cons, List.map_nil, List.cons_append, List.nil_append, List.length_cons, List.length_nil, M.int.injEq, M.ref.injEq, M.str.injEq, M.bl.injEq, M.tup.injEq, List.replicate, Nat.reduceSub, Nat.reduceAdd, true_and, and_true, exists_and_left, exists_and_right, at_0, at_1, at_2, at_3, at_4, Nat.reduceLT, List.length_set, MO.lst.injEq, ix_0, ix_1, ix_2, beq_iff_eq, reduceCtorEq, if_true, if_false, ite_true, ite_false, getL_new, wipeE, Bool.false_eq_true, decide_true, decide_false, Bool.not_true, Bool.not_false, getL_of hl]
  have hp : 0 < xs.length := List.length_pos_iff.mpr h0
  refine take_ok hf hN hB H hu (by omega) (by omega) fun x h' x0 x1 K H' => ?_
  simp only [wSs, wS, wE, wEs, wAnd, wOr, wT, wAndT, wOrT, wO, wC, wI, setAll, w_add, w_adds, w_addt, w_addl, w_sub, w_mul, w_mull, w_div, w_mod, w_pow, w_shl, w_eq, w_ne, w_in, w_nin, w_lt, w_le, w_gt, w_ge, w_is, w_isn, w_eqi, w_eqs, w_eqb, w_tn, w_tb, w_ti, w_tt, w_it, w_if, w_is', w_il, w_st, w_ss, w_sl, w_lent, w_lenf, w_lens, w_lenl, w_tupt, w_tupl, w_lstt, w_lstl, w_stri, w_strs, w_inti, w_intb, w_min2, w_max2, w_abs, w_all, w_any, w_sum, w_join, w_app, w_ext, w_pop, w_tyj, w_tya, w_tye, w_typ, w_isin, w_isib, w_isii, w_isis, w_isit, w_ont, w_onf, w_ons, w_onl, w_rng1, w_rng2, w_nm, w_tp, Option.some.injEq, exists_eq_left', exists_eq_left, exists_eq, exists_eq', List.getElem?_cons_zero, List.getElem?_cons_succ, List.set_cons_zero, List.set_cons_succ, List.map_cons, List.map_nil, List.cons_append, List.nil_append, List.length_cons, List.length_nil, M.int.injEq, M.ref.injEq, M.str.injEq, M.bl.injEq, M.tup.injEq, List.replicate, Nat.reduceSub, Nat.reduceAdd, true_and, and_true, exists_and_left, exists_and_right, at_0, at_1, at_2, at_3, at_4, Nat.reduceLT, List.length_set, MO.lst.injEq, ix_0, ix_1, ix_2, beq_iff_eq, reduceCtorEq, if_true, if_false, ite_true, ite_false, getL_new, wipeE, Bool.false_eq_true, decide_true, decide_false, Bool.not_true, Bool.not_false]
  obtain ⟨j, rfl⟩ : ∃ j : Nat, x = j := ⟨x.toNat, by omega⟩
  have hj : j < xs.length := by omega
  exact ⟨xs, getL_of (K.2 _ _ hlk hl), xs[j], atI_nat (List.getElem?_eq_getElem hj), q j _ h' (List.getElem?_eq_getElem hj) K H'⟩
def handB : MSs := (.cons (.asg (.nm 2) (.cst (.int 0))) (
  .cons (.ife (.cmp .Lt (.var 1) (.prm .len (.cons (.var 0) .nil))) (.cons (.asg (.nm 2) (.idx (.var 0) (.var 1))) .nil) .nil) (
  .cons (.ret (.lst (.cons (.bin .Mult (.var 2) (.prm .int (.cons (.cmp .GtE (.var 2) (.bin .Pow (.cst (.int 10)) (.cst (.int 18)))) .nil))) (.cons (.bin .Add (.bin .Add (.bin .Mod (.var 2) (.cst (.int 2305843009213693951))) (.bin .Mult (.cst (.int 7919)) (.var 1))) (.cst (.int 3))) (.cons (.cst (.int 0)) .nil))))) .nil)))
theorem hand_ok (hf : G.fns[f]? = some d) (hN : d.N.length = 3) (hB : d.body = handB) {n : Nat} {h : MH} {ns : List Int} {i : Int} {Q : QE} {X : Exn → MH → Prop} (h0 : 0 ≤ i) (h1 : i < 2 ^ 40)
    (q : ∀ o, HandAt (h ++ [o]) h.length 0 → Q (.ref h.length) (h ++ [o])) : Sem G gl (n + 1) f [.fz (ns.map M.int), .int i] h Q X := by
  refine ⟨d, hf, ?_⟩
  simp only [wF, hB, handB, startE, hN]
  simp only [wSs, wS, wE, wEs, wAnd, wOr, wT, wAndT, wOrT, wO, wC, wI, setAll, w_add, w_adds, w_addt, w_addl, w_sub, w_mul, w_mull, w_div, w_mod, w_pow, w_shl, w_eq, w_ne, w_in, w_nin, w_lt, w_le, w_gt, w_ge, w_is, w_isn, w_eqi, w_eqs, w_eqb, w_tn, w_tb, w_ti, w_tt, w_it, w_if, w_is', w_il, w_st, w_ss, w_sl, w_lent, w_lenf, w_lens, w_lenl, w_tupt, w_tupl, w_lstt, w_lstl, w_stri, w_strs, w_inti, w_intb, w_min2, w_max2, w_abs, w_all, w_any, w_sum, w_join, w_app, w_ext, w_pop, w_tyj, w_tya, w_tye, w_typ, w_isin, w_isib, w_isii, w_isis, w_isit, w_ont, w_onf, w_ons, w_onl, w_rng1, w_rng2, w_nm, w_tp, Option.some.injEq, exists_eq_left', exists_eq_left, exists_eq, exists_eq', List.getElem?_cons_zero, List.getElem?_cons_succ, List.set_cons_zero, List.set_cons_succ, List.map_cons, List.map_nil, List.cons_append, List.nil_append, List.length_cons, List.length_nil, M.int.injEq, M.ref.injEq, M.str.injEq, M.bl.injEq, M.tup.injEq, List.replicate, Nat.reduceSub, Nat.reduceAdd, true_and, and_true, exists_and_left, exists_and_right, at_0, at_1, at_2, at_3, at_4, Nat.reduceLT, List.length_set, MO.lst.injEq, ix_0, ix_1, ix_2, beq_iff_eq, reduceCtorEq, if_true, if_false, ite_true, ite_false, getL_new, wipeE, Bool.false_eq_true, decide_true, decide_false, Bool.not_true, Bool.not_false, List.length_map]
  have fin : ∀ c : Int, mulOk c (if decide ((10 : Int) ^ (18 : Int).toNat ≤ c) = true then 1 else 0) ∧ 0 < (2305843009213693951 : Int) ∧ mulOk 7919 i ∧ Q (.ref h.length) (h ++ [.lst [.int (c * if decide ((10 : Int) ^ (18 : Int).toNat ≤ c) = true then 1 else 0), .int (c % 2305843009213693951 + 7919 * i + 3), .int 0]]) := fun c => by
    have hm := Int.emod_lt_of_pos c (show (0 : Int) < 2305843009213693951 by decide)
    have hm0 := Int.emod_nonneg c (show (2305843009213693951 : Int) ≠ 0 by decide)
    refine ⟨mul_small' ?_ ?_, by decide, mul_small (by decide) (by decide), q _ ⟨_, _, _, get_new, ?_, by omega, by omega, by omega, by omega⟩⟩
    · split <;> decide
    · split <;> decide
    · split
      · rename_i z
        have : (10 : Int) ^ (18 : Int).toNat ≤ c := by simpa using z
        have e : (10 : Int) ^ (18 : Int).toNat = 1000000000000000000 := by decide
        omega
      · simp
  have hp : CPow 10 18 := by unfold CPow; decide
  by_cases hl : i < (ns.length : Int)
  · simp only [wSs, wS, wE, wEs, wAnd, wOr, wT, wAndT, wOrT, wO, wC, wI, setAll, w_add, w_adds, w_addt, w_addl, w_sub, w_mul, w_mull, w_div, w_mod, w_pow, w_shl, w_eq, w_ne, w_in, w_nin, w_lt, w_le, w_gt, w_ge, w_is, w_isn, w_eqi, w_eqs, w_eqb, w_tn, w_tb, w_ti, w_tt, w_it, w_if, w_is', w_il, w_st, w_ss, w_sl, w_lent, w_lenf, w_lens, w_lenl, w_tupt, w_tupl, w_lstt, w_lstl, w_stri, w_strs, w_inti, w_intb, w_min2, w_max2, w_abs, w_all, w_any, w_sum, w_join, w_app, w_ext, w_pop, w_tyj, w_tya, w_tye, w_typ, w_isin, w_isib, w_isii, w_isis, w_isit, w_ont, w_onf, w_ons, w_onl, w_rng1, w_rng2, w_nm, w_tp, Option.some.injEq, exists_eq_left', exists_eq_left, exists_eq, exists_eq', List.getElem?_cons_zero, List.getElem?_cons_succ, List.set_cons_zero, List.set_cons_succ, List.map_cons, List.map_nil, List.cons_append, List.nil_append, List.length_cons, List.length_nil, M.int.injEq, M.ref.injEq, M.str.injEq, M.bl.injEq, M.tup.injEq, List.replicate, Nat.reduceSub, Nat.reduceAdd, true_and, and_true, exists_and_left, exists_and_right, at_0, at_1, at_2, at_3, at_4, Nat.reduceLT, List.length_set, MO.lst.injEq, ix_0, ix_1, ix_2, beq_iff_eq, reduceCtorEq, if_true, if_false, ite_true, ite_false, getL_new, wipeE, Bool.false_eq_true, decide_true, decide_false, Bool.not_true, Bool.not_false, hl, decide_true, if_true]
    obtain ⟨j, rfl⟩ : ∃ j : Nat, i = j := ⟨i.toNat, by omega⟩
    have hj : j < ns.length := by omega
    refine ⟨.int ns[j], atI_nat (by rw [List.getElem?_map, List.getElem?_eq_getElem hj]; rfl), ?_⟩
    simp only [wSs, wS, wE, wEs, wAnd, wOr, wT, wAndT, wOrT, wO, wC, wI, setAll, w_add, w_adds, w_addt, w_addl, w_sub, w_mul, w_mull, w_div, w_mod, w_pow, w_shl, w_eq, w_ne, w_in, w_nin, w_lt, w_le, w_gt, w_ge, w_is, w_isn, w_eqi, w_eqs, w_eqb, w_tn, w_tb, w_ti, w_tt, w_it, w_if, w_is', w_il, w_st, w_ss, w_sl, w_lent, w_lenf, w_lens, w_lenl, w_tupt, w_tupl, w_lstt, w_lstl, w_stri, w_strs, w_inti, w_intb, w_min2, w_max2, w_abs, w_all, w_any, w_sum, w_join, w_app, w_ext, w_pop, w_tyj, w_tya, w_tye, w_typ, w_isin, w_isib, w_isii, w_isis, w_isit, w_ont, w_onf, w_ons, w_onl, w_rng1, w_rng2, w_nm, w_tp, Option.some.injEq, exists_eq_left', exists_eq_left, exists_eq, exists_eq', List.getElem?_cons_zero, List.getElem?_cons_succ, List.set_cons_zero, List.set_cons_succ, List.map_cons, List.map_nil, List.cons_append, List.nil_append, List.length_cons, List.length_nil, M.int.injEq, M.ref.injEq, M.str.injEq, M.bl.injEq, M.tup.injEq, List.replicate, Nat.reduceSub, Nat.reduceAdd, true_and, and_true, exists_and_left, exists_and_right, at_0, at_1, at_2, at_3, at_4, Nat.reduceLT, List.length_set, MO.lst.injEq, ix_0, ix_1, ix_2, beq_iff_eq, reduceCtorEq, if_true, if_false, ite_true, ite_false, getL_new, wipeE, Bool.false_eq_true, decide_true, decide_false, Bool.not_true, Bool.not_false]
    exact ⟨hp, fin ns[j]⟩
  · simp only [wSs, wS, wE, wEs, wAnd, wOr, wT, wAndT, wOrT, wO, wC, wI, setAll, w_add, w_adds, w_addt, w_addl, w_sub, w_mul, w_mull, w_div, w_mod, w_pow, w_shl, w_eq, w_ne, w_in, w_nin, w_lt, w_le, w_gt, w_ge, w_is, w_isn, w_eqi, w_eqs, w_eqb, w_tn, w_tb, w_ti, w_tt, w_it, w_if, w_is', w_il, w_st, w_ss, w_sl, w_lent, w_lenf, w_lens, w_lenl, w_tupt, w_tupl, w_lstt, w_lstl, w_stri, w_strs, w_inti, w_intb, w_min2, w_max2, w_abs, w_all, w_any, w_sum, w_join, w_app, w_ext, w_pop, w_tyj, w_tya, w_tye, w_typ, w_isin, w_isib, w_isii, w_isis, w_isit, w_ont, w_onf, w_ons, w_onl, w_rng1, w_rng2, w_nm, w_tp, Option.some.injEq, exists_eq_left', exists_eq_left, exists_eq, exists_eq', List.getElem?_cons_zero, List.getElem?_cons_succ, List.set_cons_zero, List.set_cons_succ, List.map_cons, List.map_nil, List.cons_append, List.nil_append, List.length_cons, List.length_nil, M.int.injEq, M.ref.injEq, M.str.injEq, M.bl.injEq, M.tup.injEq, List.replicate, Nat.reduceSub, Nat.reduceAdd, true_and, and_true, exists_and_left, exists_and_right, at_0, at_1, at_2, at_3, at_4, Nat.reduceLT, List.length_set, MO.lst.injEq, ix_0, ix_1, ix_2, beq_iff_eq, reduceCtorEq, if_true, if_false, ite_true, ite_false, getL_new, wipeE, Bool.false_eq_true, decide_true, decide_false, Bool.not_true, Bool.not_false, hl, decide_false, if_false, Bool.false_eq_true]
    exact ⟨hp, fin 0⟩
end
end Wg
open PySem PySem.Spec PyProof.Rows
set_option linter.all false
set_option Elab.async false
set_option maxRecDepth 100000
namespace Wg
open L2
/-! ### numbers as texts, values as texts -/
open TL (numL joinL)
theorem intL_nat (n : Nat) : intL (n : Int) = numL n := TL.tl_num n
theorem intL_neg (m : Nat) : intL (Int.negSucc m) = 45 :: numL (m + 1) := by
  have e : (toString (Int.negSucc m) : String) = "-" ++ toString ((m + 1 : Nat) : Int) := rfl
  show TL.tl (Str.ofString (toString (Int.negSucc m))) = _
  rw [TL.tl_ofString, e, String.toList_append, List.map_append, ← TL.tl_num, TL.tl_ofString]
  rfl
theorem intL_len {i : Int} {k : Nat} (hk : 0 < k) (h : i.natAbs < 10 ^ k) : (intL i).length ≤ k + 1 := by
  cases i with
  | ofNat n => rw [show (Int.ofNat n) = (n : Int) from rfl, intL_nat]; have := TL.numL_len hk (n := n) (by simpa using h); omega
  | negSucc m => rw [intL_neg]; have := TL.numL_len hk (n := m + 1) (by simpa using h); simp; omega
theorem log2_ok {i : Int} (h : i.natAbs < 10 ^ 18) : i.natAbs.log2 < 1920 := by
  by_cases z : i.natAbs = 0
  · rw [z]; decide
  · have := (Nat.log2_lt z (k := 60)).mpr (Nat.lt_of_lt_of_le h (by decide))
    omega
theorem joinL_cons (S p : List Nat) : ∀ l : List (List Nat), joinL S (p :: l) = p ++ (l.map (S ++ ·)).flatten
  | [] => by simp [joinL]
  | q :: r => by
    rw [joinL, joinL_cons S q r]
    simp
theorem joinL_nil : ∀ l : List (List Nat), joinL [] l = l.flatten
  | [] => rfl
  | p :: l => by rw [joinL_cons]; simp
theorem strs_map {xs : List M} {f : M → List Nat} (g : List M) (h : xs = g.map fun x => .str (f x)) : strsM xs = some (g.map f) := by
  subst h
  induction g with
  | nil => rfl
  | cons x g ih => simp [strsM, ih]
theorem strs_str : ∀ l : List (List Nat), strsM (l.map M.str) = some l
  | [] => rfl
  | x :: l => by simp [strsM, strs_str l]
/-- a value: ints of at most twelve figures, tuples of at most eight, so deep -/
def Vd : Nat → M → Prop
  | _, .int i => i.natAbs < 10 ^ 12
  | n + 1, .tup xs => xs.length ≤ 8 ∧ ∀ x ∈ xs, Vd n x
  | _, _ => False
mutual
def vtxt : M → List Nat
  | .int i => intL i
  | .tup xs => 40 :: (joinL [32] (vtxts xs) ++ [41])
  | .str s => s
  | _ => []
def vtxts : List M → List (List Nat)
  | [] => []
  | x :: xs => vtxt x :: vtxts xs
end
theorem vtxts_map : ∀ xs : List M, vtxts xs = xs.map vtxt
  | [] => rfl
  | x :: xs => by rw [vtxts, vtxts_map xs]; rfl
theorem vtxt_tup (xs : List M) : vtxt (.tup xs) = 40 :: (joinL [32] (xs.map vtxt) ++ [41]) := by rw [vtxt, vtxts_map]
theorem joinL_len (S : List Nat) (B : Nat) : ∀ l : List (List Nat), (∀ x ∈ l, x.length ≤ B) → (joinL S l).length ≤ l.length * (B + S.length)
  | [], _ => by simp [joinL]
  | p :: l, h => by
    rw [joinL_cons]
    have h1 := h p (by simp)
    have : ∀ l : List (List Nat), (∀ x ∈ l, x.length ≤ B) → ((l.map (S ++ ·)).flatten).length ≤ l.length * (B + S.length) := by
      intro l
      induction l with
      | nil => intro _; simp
      | cons q r ih =>
        intro h
        have h2 := h q (by simp)
        have h3 := ih fun x hx => h x (by simp [hx])
        simp only [List.map_cons, List.flatten_cons, List.length_append, List.length_cons, Nat.succ_mul] at h3 ⊢
        omega
    have h2 := this l fun x hx => h x (by simp [hx])
    simp only [List.length_append, List.length_cons, Nat.succ_mul] at h2 ⊢
    omega
def vB : Nat → Nat
  | 0 => 14
  | n + 1 => 8 * (vB n + 1) + 2
theorem vB_mono : ∀ n, 14 ≤ vB n
  | 0 => Nat.le_refl _
  | n + 1 => by have := vB_mono n; simp only [vB]; omega
theorem vtxt_len : ∀ (n : Nat) (v : M), Vd n v → (vtxt v).length ≤ vB n
  | n, .int i, h => by
    have h : i.natAbs < 10 ^ 12 := by cases n <;> exact h
    have := intL_len (k := 12) (by decide) h
    have := vB_mono n
    simp only [vtxt]; omega
  | 0, .tup _, h => h.elim
  | n + 1, .tup xs, h => by
    rw [vtxt_tup]
    have := joinL_len [32] (vB n) (xs.map vtxt) (fun x hx => by
      obtain ⟨y, hy, rfl⟩ := List.mem_map.mp hx
      exact vtxt_len n y (h.2 y hy))
    have h1 := h.1
    simp only [List.length_map, List.length_cons, List.length_nil] at this
    have : xs.length * (vB n + (0 + 1)) ≤ 8 * (vB n + 1) := Nat.mul_le_mul h1 (Nat.le_refl _)
    simp only [List.length_cons, List.length_append, List.length_nil, vB]
    omega
  | n, .non, h => by cases n <;> exact h.elim
  | n, .bl _, h => by cases n <;> exact h.elim
  | n, .str _, h => by cases n <;> exact h.elim
  | n, .ref _, h => by cases n <;> exact h.elim
  | n, .fz _, h => by cases n <;> exact h.elim
theorem sum_len_le (B : Nat) : ∀ l : List (List Nat), (∀ x ∈ l, x.length ≤ B) → (l.map (·.length)).sum ≤ l.length * B
  | [], _ => by simp
  | p :: l, h => by
    have h1 := h p (by simp)
    have h2 := sum_len_le B l fun x hx => h x (by simp [hx])
    simp only [List.map_cons, List.sum_cons, List.length_cons, Nat.succ_mul]
    omega
theorem take_snoc {α : Type} {xs : List α} {i : Nat} {x : α} (h : xs[i]? = some x) : xs.take (i + 1) = xs.take i ++ [x] := by
  rw [List.take_add_one, h]; rfl
theorem mem_of_get {α : Type} {xs : List α} {i : Nat} {x : α} (h : xs[i]? = some x) : x ∈ xs := List.mem_of_getElem? h
theorem comp_pure {chk : MH → Prop} {bnd : M → Option Env} {elt : WE} {R : List M → MH → Prop} {xs : List M} {h : MH} (g : M → M) (hc : ∀ h', Gro h h' → chk h')
    (el : ∀ x ∈ xs, ∀ h1 (Q : QE), Gro h h1 → (∀ h2, Gro h1 h2 → Q (g x) h2) → ∃ env, bnd x = some env ∧ elt env h1 Q (fun _ _ => False)) (q : ∀ h', Gro h h' → R (xs.map g) h') :
    compL chk bnd (fun _ h Q _ => Q true h) elt (fun _ _ => False) xs [] h R := by
  refine comp_inv (fun i acc h1 => acc = (xs.take i).map g ∧ Gro h h1) ⟨by simp, .refl h⟩ (fun _ _ _ j => hc _ j.2) (fun acc h2 ⟨ha, g2⟩ => ?_) fun i x acc h1 R' hx ⟨ha, g1⟩ k => ?_
  · rw [List.take_length] at ha
    subst ha; exact q h2 g2
  · obtain ⟨env, e1, e2⟩ := el x (mem_of_get hx) h1 (fun y h2 => R' (acc ++ [y]) h2) g1 fun h2 g2 => k _ h2 ⟨by rw [take_snoc hx, List.map_append, ha]; rfl, g1.trans g2⟩
    exact ⟨env, e1, e2⟩
/-- words: texts and numbers -/
def wtxt : M → List Nat
  | .str s => s
  | .int i => intL i
  | _ => []
def WOk : M → Prop
  | .str _ => True
  | .int i => i.natAbs < 10 ^ 18
  | _ => False
theorem strs_mapS {α : Type} {xs : List α} (f : α → List Nat) : strsM (xs.map fun x => M.str (f x)) = some (xs.map f) := by
  induction xs with
  | nil => rfl
  | cons x g ih => simp [strsM, ih]
theorem sizeL : sizeLine = 16777216 := sizeLine_eq
theorem line_join {S : List Nat} {B n : Nat} {l : List (List Nat)} (h : ∀ x ∈ l, x.length ≤ B) (hn : l.length ≤ n) (hb : n * (B + S.length) ≤ 16777216) : (l.map (·.length)).sum + l.length * S.length ≤ 16777216 := by
  have h1 := sum_len_le B l h
  have h2 : l.length * (B + S.length) ≤ n * (B + S.length) := Nat.mul_le_mul hn (Nat.le_refl _)
  rw [Nat.mul_add] at h2
  omega
end Wg
open PySem PySem.Spec PyProof.Rows
set_option linter.all false
set_option Elab.async false
set_option maxRecDepth 100000
set_option maxHeartbeats 4000000
namespace Wg
open L2
open TL (numL joinL)
/-! ### what writes a case -/
section
variable {G : MG} {gl : Nat → M}
structure At (G : MG) (f : Nat) (len : Nat) (b : MSs) : Prop where
  ex : ∃ d, G.fns[f]? = some d ∧ d.N.length = len ∧ d.body = b
def valB (f : Nat) : MSs := (.cons (.ife (.isi .tuple (.var 0)) (.cons (.ret (.bin .Add (.bin .Add (.cst (.str [40])) (.mth .join (.cst (.str [32])) (.cons (.comp [1] (.nm 1) (.on (.var 0)) .no (.call f (.cons (.var 1) .nil))) .nil))) (.cst (.str [41])))) .nil) .nil) (
  .cons (.ret (.prm .str (.cons (.var 0) .nil))) .nil))
theorem value_ok {f : Nat} (F : At G f 2 (valB f)) : ∀ (n m : Nat) (v : M) (h : MH) (Q : QE) (X : Exn → MH → Prop), n ≤ 4 → Vd n v → (∀ h', Gro h h' → Q (.str (vtxt v)) h') → Sem G gl (m + n + 1) f [v] h Q X
  | n, m, .int i, h, Q, X, hn, hv, q => by
    have hi : i.natAbs < 10 ^ 12 := by cases n <;> exact hv
    obtain ⟨d, hd, hN, hB⟩ := F.ex
    refine ⟨d, hd, ?_⟩
    simp only [wF, hB, valB, startE, hN]
    simp only [wSs, wS, wE, wEs, wAnd, wOr, wT, wAndT, wOrT, wO, wC, wI, setAll, w_add, w_adds, w_addt, w_addl, w_sub, w_mul, w_mull, w_div, w_mod, w_pow, w_shl, w_eq, w_ne, w_in, w_nin, w_lt, w_le, w_gt, w_ge, w_is, w_isn, w_eqi, w_eqs, w_eqb, w_tn, w_tb, w_ti, w_tt, w_it, w_if, w_is', w_il, w_st, w_ss, w_sl, w_lent, w_lenf, w_lens, w_lenl, w_tupt, w_tupl, w_lstt, w_lstl, w_stri, w_strs, w_inti, w_intb, w_min2, w_max2, w_abs, w_all, w_any, w_sum, w_join, w_app, w_ext, w_pop, w_tyj, w_tya, w_tye, w_typ, w_isin, w_isib, w_isii, w_isis, w_isit, w_ont, w_onf, w_ons, w_onl, w_rng1, w_rng2, w_nm, w_tp, Option.some.injEq, exists_eq_left', exists_eq_left, exists_eq, exists_eq', List.getElem?_cons_zero, List.getElem?_cons_succ, List.set_cons_zero, List.set_cons_succ, List.map_cons, List.map_nil, List.cons_append, List.nil_append, List.length_cons, List.length_nil, M.int.injEq, M.ref.injEq, M.str.injEq, M.bl.injEq, M.tup.injEq, List.replicate, Nat.reduceSub, Nat.reduceAdd, true_and, and_true, exists_and_left, exists_and_right, at_0, at_1, at_2, at_3, at_4, Nat.reduceLT, List.length_set, MO.lst.injEq, ix_0, ix_1, ix_2, beq_iff_eq, reduceCtorEq, if_true, if_false, ite_true, ite_false, getL_new, wipeE, Bool.false_eq_true, decide_true, decide_false, Bool.not_true, Bool.not_false]
    exact ⟨log2_ok (Nat.lt_trans hi (by decide)), by simpa [vtxt] using q h (.refl h)⟩
  | 0, m, .tup _, h, Q, X, hn, hv, q => hv.elim
  | n + 1, m, .tup xs, h, Q, X, hn, hv, q => by
    obtain ⟨d, hd, hN, hB⟩ := F.ex
    refine ⟨d, hd, ?_⟩
    simp only [wF, hB, valB, startE, hN]
    simp only [wSs, wS, wE, wEs, wAnd, wOr, wT, wAndT, wOrT, wO, wC, wI, setAll, w_add, w_adds, w_addt, w_addl, w_sub, w_mul, w_mull, w_div, w_mod, w_pow, w_shl, w_eq, w_ne, w_in, w_nin, w_lt, w_le, w_gt, w_ge, w_is, w_isn, w_eqi, w_eqs, w_eqb, w_tn, w_tb, w_ti, w_tt, w_it, w_if, w_is', w_il, w_st, w_ss, w_sl, w_lent, w_lenf, w_lens, w_lenl, w_tupt, w_tupl, w_lstt, w_lstl, w_stri, w_strs, w_inti, w_intb, w_min2, w_max2, w_abs, w_all, w_any, w_sum, w_join, w_app, w_ext, w_pop, w_tyj, w_tya, w_tye, w_typ, w_isin, w_isib, w_isii, w_isis, w_isit, w_ont, w_onf, w_ons, w_onl, w_rng1, w_rng2, w_nm, w_tp, Option.some.injEq, exists_eq_left', exists_eq_left, exists_eq, exists_eq', List.getElem?_cons_zero, List.getElem?_cons_succ, List.set_cons_zero, List.set_cons_succ, List.map_cons, List.map_nil, List.cons_append, List.nil_append, List.length_cons, List.length_nil, M.int.injEq, M.ref.injEq, M.str.injEq, M.bl.injEq, M.tup.injEq, List.replicate, Nat.reduceSub, Nat.reduceAdd, true_and, and_true, exists_and_left, exists_and_right, at_0, at_1, at_2, at_3, at_4, Nat.reduceLT, List.length_set, MO.lst.injEq, ix_0, ix_1, ix_2, beq_iff_eq, reduceCtorEq, if_true, if_false, ite_true, ite_false, getL_new, wipeE, Bool.false_eq_true, decide_true, decide_false, Bool.not_true, Bool.not_false]
    refine comp_pure (fun x => .str (vtxt x)) (fun _ _ => trivial) (fun x hx h1 R g k => ?_) fun h2 g => ?_
    · exact ⟨_, rfl, _, rfl, value_ok F n m x h1 _ _ (by omega) (hv.2 x hx) k⟩
    · have hl : ∀ x ∈ xs.map vtxt, x.length ≤ vB 3 := fun x hx => by
        obtain ⟨y, hy, rfl⟩ := List.mem_map.mp hx
        have h1 := vtxt_len n y (hv.2 y hy)
        have h2 : vB n ≤ vB 3 := by
          match n, hn with
          | 0, _ => decide
          | 1, _ => decide
          | 2, _ => decide
          | 3, _ => decide
        omega
      have h1 := sum_len_le (vB 3) _ hl
      have h2 := joinL_len [32] (vB 3) _ hl
      have h3 : (xs.map vtxt).length ≤ 8 := by rw [List.length_map]; exact hv.1
      have h4 : (xs.map vtxt).length * vB 3 ≤ 8 * vB 3 := Nat.mul_le_mul h3 (Nat.le_refl _)
      have h5 : (xs.map vtxt).length * (vB 3 + [32].length) ≤ 8 * (vB 3 + 1) := Nat.mul_le_mul h3 (Nat.le_refl _)
      have h6 : vB 3 = 7898 := rfl
      rw [h6] at h1 h2 h4 h5
      have h7 := sizeL
      refine ⟨xs.map vtxt, strs_mapS vtxt, by omega, by omega, by omega, ?_⟩
      rw [← vtxt_tup]
      exact q _ (g.trans (.app _ _))
  | n, m, .non, h, Q, X, hn, hv, q => by cases n <;> exact hv.elim
  | n, m, .bl _, h, Q, X, hn, hv, q => by cases n <;> exact hv.elim
  | n, m, .str _, h, Q, X, hn, hv, q => by cases n <;> exact hv.elim
  | n, m, .ref _, h, Q, X, hn, hv, q => by cases n <;> exact hv.elim
  | n, m, .fz _, h, Q, X, hn, hv, q => by cases n <;> exact hv.elim
def wordsB : MSs := (.cons (.ret (.mth .join (.cst (.str [32])) (.cons (.comp [1] (.nm 1) (.on (.var 0)) .no (.prm .str (.cons (.var 1) .nil))) .nil))) .nil)
theorem words_ok {f : Nat} (F : At G f 2 wordsB) {ws : List M} (hw : ∀ w ∈ ws, WOk w) (hz : ((ws.map wtxt).map (·.length)).sum + ws.length ≤ 16777216) {n : Nat} {h : MH} {Q : QE} {X : Exn → MH → Prop} {v : M} (hv : v = .tup ws ∨ ∃ a, v = .ref a ∧ h[a]? = some (.lst ws))
    (q : ∀ h', Gro h h' → Q (.str (joinL [32] (ws.map wtxt))) h') : Sem G gl (n + 1) f [v] h Q X := by
  obtain ⟨d, hd, hN, hB⟩ := F.ex
  refine ⟨d, hd, ?_⟩
  simp only [wF, hB, wordsB, startE, hN]
  have fin : ∀ (chk : MH → Prop) (bnd : M → Option Env), (∀ h', Gro h h' → chk h') → (∀ x, ∃ y, bnd x = some [y, some x]) → compL chk bnd (fun env' h Q X => Q true h) (fun env' h Q X => ∃ v, env'[1]? = some (some v) ∧ pmR .str [v] h Q) (fun _ _ => False) ws [] h
      fun acc h2 => ∃ x, strsM acc = some x ∧ (List.map (fun x => x.length) x).sum + x.length * 1 ≤ 16777216 ∧ Q (.str (joinL [32] x)) (h2 ++ [.lst acc]) := by
    intro chk bnd hc hb
    refine comp_pure (fun x => .str (wtxt x)) hc (fun x hx h1 R g k => ?_) fun h' g => ?_
    · obtain ⟨y, e⟩ := hb x
      refine ⟨_, e, x, rfl, ?_⟩
      have hwx := hw x hx
      cases x with
      | str s => simp only [w_strs]; exact k h1 (.refl h1)
      | int i => simp only [w_stri]; exact ⟨log2_ok hwx, k h1 (.refl h1)⟩
      | _ => exact hwx.elim
    · exact ⟨ws.map wtxt, strs_mapS wtxt, by simpa using hz, q _ (g.trans (.app _ _))⟩
  rcases hv with rfl | ⟨a, rfl, ha⟩
  · simp only [wSs, wS, wE, wEs, wAnd, wOr, wT, wAndT, wOrT, wO, wC, wI, setAll, w_add, w_adds, w_addt, w_addl, w_sub, w_mul, w_mull, w_div, w_mod, w_pow, w_shl, w_eq, w_ne, w_in, w_nin, w_lt, w_le, w_gt, w_ge, w_is, w_isn, w_eqi, w_eqs, w_eqb, w_tn, w_tb, w_ti, w_tt, w_it, w_if, w_is', w_il, w_st, w_ss, w_sl, w_lent, w_lenf, w_lens, w_lenl, w_tupt, w_tupl, w_lstt, w_lstl, w_stri, w_strs, w_inti, w_intb, w_min2, w_max2, w_abs, w_all, w_any, w_sum, w_join, w_app, w_ext, w_pop, w_tyj, w_tya, w_tye, w_typ, w_isin, w_isib, w_isii, w_isis, w_isit, w_ont, w_onf, w_ons, w_onl, w_rng1, w_rng2, w_nm, w_tp, Option.some.injEq, exists_eq_left', exists_eq_left, exists_eq, exists_eq', List.getElem?_cons_zero, List.getElem?_cons_succ, List.set_cons_zero, List.set_cons_succ, List.map_cons, List.map_nil, List.cons_append, List.nil_append, List.length_cons, List.length_nil, M.int.injEq, M.ref.injEq, M.str.injEq, M.bl.injEq, M.tup.injEq, List.replicate, Nat.reduceSub, Nat.reduceAdd, true_and, and_true, exists_and_left, exists_and_right, at_0, at_1, at_2, at_3, at_4, Nat.reduceLT, List.length_set, MO.lst.injEq, ix_0, ix_1, ix_2, beq_iff_eq, reduceCtorEq, if_true, if_false, ite_true, ite_false, getL_new, wipeE, Bool.false_eq_true, decide_true, decide_false, Bool.not_true, Bool.not_false]
    exact fin _ _ (fun _ _ => trivial) fun x => ⟨_, rfl⟩
  · simp only [wSs, wS, wE, wEs, wAnd, wOr, wT, wAndT, wOrT, wO, wC, wI, setAll, w_add, w_adds, w_addt, w_addl, w_sub, w_mul, w_mull, w_div, w_mod, w_pow, w_shl, w_eq, w_ne, w_in, w_nin, w_lt, w_le, w_gt, w_ge, w_is, w_isn, w_eqi, w_eqs, w_eqb, w_tn, w_tb, w_ti, w_tt, w_it, w_if, w_is', w_il, w_st, w_ss, w_sl, w_lent, w_lenf, w_lens, w_lenl, w_tupt, w_tupl, w_lstt, w_lstl, w_stri, w_strs, w_inti, w_intb, w_min2, w_max2, w_abs, w_all, w_any, w_sum, w_join, w_app, w_ext, w_pop, w_tyj, w_tya, w_tye, w_typ, w_isin, w_isib, w_isii, w_isis, w_isit, w_ont, w_onf, w_ons, w_onl, w_rng1, w_rng2, w_nm, w_tp, Option.some.injEq, exists_eq_left', exists_eq_left, exists_eq, exists_eq', List.getElem?_cons_zero, List.getElem?_cons_succ, List.set_cons_zero, List.set_cons_succ, List.map_cons, List.map_nil, List.cons_append, List.nil_append, List.length_cons, List.length_nil, M.int.injEq, M.ref.injEq, M.str.injEq, M.bl.injEq, M.tup.injEq, List.replicate, Nat.reduceSub, Nat.reduceAdd, true_and, and_true, exists_and_left, exists_and_right, at_0, at_1, at_2, at_3, at_4, Nat.reduceLT, List.length_set, MO.lst.injEq, ix_0, ix_1, ix_2, beq_iff_eq, reduceCtorEq, if_true, if_false, ite_true, ite_false, getL_new, wipeE, Bool.false_eq_true, decide_true, decide_false, Bool.not_true, Bool.not_false, getL_of ha]
    exact fin _ _ (fun h' g => g.getL (getL_of ha)) fun x => ⟨_, rfl⟩
/-- a deed -/
inductive DD where
  | look | put (k : Int) (v : M)
def DD.m : DD → M
  | .look => .tup [.str [108, 111, 111, 107]]
  | .put k v => .tup [.str [112, 117, 116], .int k, v]
def DD.t : DD → List Nat
  | .look => [108, 111, 111, 107]
  | .put k v => [112, 117, 116, 32] ++ intL k ++ [32] ++ vtxt v
def DD.ok : DD → Prop
  | .look => True
  | .put k v => k.natAbs < 1000 ∧ Vd 3 v
theorem DD.len {d : DD} (h : d.ok) : d.t.length ≤ 8000 := by
  cases d with
  | look => decide
  | put k v =>
    have h1 := intL_len (k := 3) (by decide) h.1
    have h2 := vtxt_len 3 v h.2
    have h6 : vB 3 = 7898 := rfl
    simp only [DD.t, List.length_append, List.length_cons, List.length_nil]
    omega
def deedB (r : ME) (t : Nat) : MSs := (.cons (.ife (.cmp .Eq (.idx (.var 0) (.cst (.int 0))) (.cst (.str [108, 111, 111, 107]))) (.cons (.ret r) .nil) .nil) (
  .cons (.ret (.bin .Add (.bin .Add (.bin .Add (.cst (.str [112, 117, 116, 32])) (.prm .str (.cons (.idx (.var 0) (.cst (.int 1))) .nil))) (.cst (.str [32]))) (.call t (.cons (.idx (.var 0) (.cst (.int 2))) .nil)))) .nil))
theorem deed_ok {f t : Nat} {r : ME} (hr : r = .cst (.str [108, 111, 111, 107]) ∨ r = .idx (.var 0) (.cst (.int 0))) (F : At G f 1 (deedB r t)) (T : At G t 2 (valB t)) {n : Nat} {h : MH} {Q : QE} {X : Exn → MH → Prop} {d : DD} (hd : d.ok)
    (q : ∀ h', Gro h h' → Q (.str d.t) h') : Sem G gl (n + 5) f [d.m] h Q X := by
  obtain ⟨D, hD, hN, hB⟩ := F.ex
  refine ⟨D, hD, ?_⟩
  simp only [wF, hB, deedB, startE, hN]
  cases d with
  | look =>
    simp only [wSs, wS, wE, wEs, wAnd, wOr, wT, wAndT, wOrT, wO, wC, wI, setAll, w_add, w_adds, w_addt, w_addl, w_sub, w_mul, w_mull, w_div, w_mod, w_pow, w_shl, w_eq, w_ne, w_in, w_nin, w_lt, w_le, w_gt, w_ge, w_is, w_isn, w_eqi, w_eqs, w_eqb, w_tn, w_tb, w_ti, w_tt, w_it, w_if, w_is', w_il, w_st, w_ss, w_sl, w_lent, w_lenf, w_lens, w_lenl, w_tupt, w_tupl, w_lstt, w_lstl, w_stri, w_strs, w_inti, w_intb, w_min2, w_max2, w_abs, w_all, w_any, w_sum, w_join, w_app, w_ext, w_pop, w_tyj, w_tya, w_tye, w_typ, w_isin, w_isib, w_isii, w_isis, w_isit, w_ont, w_onf, w_ons, w_onl, w_rng1, w_rng2, w_nm, w_tp, Option.some.injEq, exists_eq_left', exists_eq_left, exists_eq, exists_eq', List.getElem?_cons_zero, List.getElem?_cons_succ, List.set_cons_zero, List.set_cons_succ, List.map_cons, List.map_nil, List.cons_append, List.nil_append, List.length_cons, List.length_nil, M.int.injEq, M.ref.injEq, M.str.injEq, M.bl.injEq, M.tup.injEq, List.replicate, Nat.reduceSub, Nat.reduceAdd, true_and, and_true, exists_and_left, exists_and_right, at_0, at_1, at_2, at_3, at_4, Nat.reduceLT, List.length_set, MO.lst.injEq, ix_0, ix_1, ix_2, beq_iff_eq, reduceCtorEq, if_true, if_false, ite_true, ite_false, getL_new, wipeE, Bool.false_eq_true, decide_true, decide_false, Bool.not_true, Bool.not_false, DD.m]
    rcases hr with rfl | rfl <;> simp only [wSs, wS, wE, wEs, wAnd, wOr, wT, wAndT, wOrT, wO, wC, wI, setAll, w_add, w_adds, w_addt, w_addl, w_sub, w_mul, w_mull, w_div, w_mod, w_pow, w_shl, w_eq, w_ne, w_in, w_nin, w_lt, w_le, w_gt, w_ge, w_is, w_isn, w_eqi, w_eqs, w_eqb, w_tn, w_tb, w_ti, w_tt, w_it, w_if, w_is', w_il, w_st, w_ss, w_sl, w_lent, w_lenf, w_lens, w_lenl, w_tupt, w_tupl, w_lstt, w_lstl, w_stri, w_strs, w_inti, w_intb, w_min2, w_max2, w_abs, w_all, w_any, w_sum, w_join, w_app, w_ext, w_pop, w_tyj, w_tya, w_tye, w_typ, w_isin, w_isib, w_isii, w_isis, w_isit, w_ont, w_onf, w_ons, w_onl, w_rng1, w_rng2, w_nm, w_tp, Option.some.injEq, exists_eq_left', exists_eq_left, exists_eq, exists_eq', List.getElem?_cons_zero, List.getElem?_cons_succ, List.set_cons_zero, List.set_cons_succ, List.map_cons, List.map_nil, List.cons_append, List.nil_append, List.length_cons, List.length_nil, M.int.injEq, M.ref.injEq, M.str.injEq, M.bl.injEq, M.tup.injEq, List.replicate, Nat.reduceSub, Nat.reduceAdd, true_and, and_true, exists_and_left, exists_and_right, at_0, at_1, at_2, at_3, at_4, Nat.reduceLT, List.length_set, MO.lst.injEq, ix_0, ix_1, ix_2, beq_iff_eq, reduceCtorEq, if_true, if_false, ite_true, ite_false, getL_new, wipeE, Bool.false_eq_true, decide_true, decide_false, Bool.not_true, Bool.not_false] <;> exact q h (.refl h)
  | put k v =>
    have h0 : ([112, 117, 116] : List Nat) ≠ [108, 111, 111, 107] := by decide
    have h1 := intL_len (k := 3) (by decide) hd.1
    have h2 := vtxt_len 3 v hd.2
    have h6 : vB 3 = 7898 := rfl
    have h7 := sizeL
    simp only [wSs, wS, wE, wEs, wAnd, wOr, wT, wAndT, wOrT, wO, wC, wI, setAll, w_add, w_adds, w_addt, w_addl, w_sub, w_mul, w_mull, w_div, w_mod, w_pow, w_shl, w_eq, w_ne, w_in, w_nin, w_lt, w_le, w_gt, w_ge, w_is, w_isn, w_eqi, w_eqs, w_eqb, w_tn, w_tb, w_ti, w_tt, w_it, w_if, w_is', w_il, w_st, w_ss, w_sl, w_lent, w_lenf, w_lens, w_lenl, w_tupt, w_tupl, w_lstt, w_lstl, w_stri, w_strs, w_inti, w_intb, w_min2, w_max2, w_abs, w_all, w_any, w_sum, w_join, w_app, w_ext, w_pop, w_tyj, w_tya, w_tye, w_typ, w_isin, w_isib, w_isii, w_isis, w_isit, w_ont, w_onf, w_ons, w_onl, w_rng1, w_rng2, w_nm, w_tp, Option.some.injEq, exists_eq_left', exists_eq_left, exists_eq, exists_eq', List.getElem?_cons_zero, List.getElem?_cons_succ, List.set_cons_zero, List.set_cons_succ, List.map_cons, List.map_nil, List.cons_append, List.nil_append, List.length_cons, List.length_nil, M.int.injEq, M.ref.injEq, M.str.injEq, M.bl.injEq, M.tup.injEq, List.replicate, Nat.reduceSub, Nat.reduceAdd, true_and, and_true, exists_and_left, exists_and_right, at_0, at_1, at_2, at_3, at_4, Nat.reduceLT, List.length_set, MO.lst.injEq, ix_0, ix_1, ix_2, beq_iff_eq, reduceCtorEq, if_true, if_false, ite_true, ite_false, getL_new, wipeE, Bool.false_eq_true, decide_true, decide_false, Bool.not_true, Bool.not_false, DD.m, h0]
    refine ⟨log2_ok (Nat.lt_trans hd.1 (by decide)), by omega, by omega, ?_⟩
    refine value_ok T 3 n v h _ _ (by decide) hd.2 fun h' g => ?_
    simp only [wSs, wS, wE, wEs, wAnd, wOr, wT, wAndT, wOrT, wO, wC, wI, setAll, w_add, w_adds, w_addt, w_addl, w_sub, w_mul, w_mull, w_div, w_mod, w_pow, w_shl, w_eq, w_ne, w_in, w_nin, w_lt, w_le, w_gt, w_ge, w_is, w_isn, w_eqi, w_eqs, w_eqb, w_tn, w_tb, w_ti, w_tt, w_it, w_if, w_is', w_il, w_st, w_ss, w_sl, w_lent, w_lenf, w_lens, w_lenl, w_tupt, w_tupl, w_lstt, w_lstl, w_stri, w_strs, w_inti, w_intb, w_min2, w_max2, w_abs, w_all, w_any, w_sum, w_join, w_app, w_ext, w_pop, w_tyj, w_tya, w_tye, w_typ, w_isin, w_isib, w_isii, w_isis, w_isit, w_ont, w_onf, w_ons, w_onl, w_rng1, w_rng2, w_nm, w_tp, Option.some.injEq, exists_eq_left', exists_eq_left, exists_eq, exists_eq', List.getElem?_cons_zero, List.getElem?_cons_succ, List.set_cons_zero, List.set_cons_succ, List.map_cons, List.map_nil, List.cons_append, List.nil_append, List.length_cons, List.length_nil, M.int.injEq, M.ref.injEq, M.str.injEq, M.bl.injEq, M.tup.injEq, List.replicate, Nat.reduceSub, Nat.reduceAdd, true_and, and_true, exists_and_left, exists_and_right, at_0, at_1, at_2, at_3, at_4, Nat.reduceLT, List.length_set, MO.lst.injEq, ix_0, ix_1, ix_2, beq_iff_eq, reduceCtorEq, if_true, if_false, ite_true, ite_false, getL_new, wipeE, Bool.false_eq_true, decide_true, decide_false, Bool.not_true, Bool.not_false]
    exact ⟨by simp only [List.length_append, List.length_cons, List.length_nil]; omega, q h' g⟩
end
end Wg
open PySem PySem.Spec PyProof.Rows
set_option linter.all false
set_option Elab.async false
set_option maxRecDepth 100000
set_option maxHeartbeats 0
namespace Wg
open L2
/-! ### the small program (printed by gen.py from the linked text) -/
def top (i : Nat) : Stmt := PySem.Challenge.pw_wholeglance_k80_cases_written.main.body.getD i (.Pass ⟨0, 0, 0, 0⟩)
abbrev k_value_text : Nat := 0
def p_value_text : FD where
  name := "value_text"
  ps := ["value"]
  N := ["value", "part"]
  body := (.cons (.ife (.isi .tuple (.var 0)) (.cons (.ret (.bin .Add (.bin .Add (.cst (.str [40])) (.mth .join (.cst (.str [32])) (.cons (.comp [1] (.nm 1) (.on (.var 0)) .no (.call 0 (.cons (.var 1) .nil))) .nil))) (.cst (.str [41])))) .nil) .nil) (
  .cons (.ret (.prm .str (.cons (.var 0) .nil))) .nil))
abbrev k_deed_text : Nat := 1
def p_deed_text : FD where
  name := "deed_text"
  ps := ["deed"]
  N := ["deed"]
  body := (.cons (.ife (.cmp .Eq (.idx (.var 0) (.cst (.int 0))) (.cst (.str [108, 111, 111, 107]))) (.cons (.ret (.cst (.str [108, 111, 111, 107]))) .nil) .nil) (
  .cons (.ret (.bin .Add (.bin .Add (.bin .Add (.cst (.str [112, 117, 116, 32])) (.prm .str (.cons (.idx (.var 0) (.cst (.int 1))) .nil))) (.cst (.str [32]))) (.call 0 (.cons (.idx (.var 0) (.cst (.int 2))) .nil)))) .nil))
abbrev k_item_text : Nat := 2
def p_item_text : FD where
  name := "item_text"
  ps := ["item"]
  N := ["item"]
  body := (.cons (.ife (.cmp .Is (.var 0) (.cst .non)) (.cons (.ret (.cst (.str [63]))) .nil) .nil) (
  .cons (.ret (.prm .str (.cons (.var 0) .nil))) .nil))
abbrev k_words_text : Nat := 3
def p_words_text : FD where
  name := "words_text"
  ps := ["words"]
  N := ["words", "word"]
  body := (.cons (.ret (.mth .join (.cst (.str [32])) (.cons (.comp [1] (.nm 1) (.on (.var 0)) .no (.prm .str (.cons (.var 1) .nil))) .nil))) .nil)
abbrev k_job_text : Nat := 4
def p_job_text : FD where
  name := "job_text"
  ps := ["job"]
  N := ["job", "deed", "item"]
  body := (.cons (.ife (.cmp .Eq (.idx (.var 0) (.cst (.int 0))) (.cst (.str [100, 101, 101, 100, 115]))) (.cons (.ret (.call 3 (.cons (.bin .Add (.lst (.cons (.cst (.str [104, 97, 110, 100, 32, 100, 101, 101, 100, 115])) .nil)) (.bin .Mult (.lst (.cons (.mth .join (.cst (.str [44, 32])) (.cons (.comp [1] (.nm 1) (.on (.idx (.var 0) (.cst (.int 1)))) .no (.call 1 (.cons (.var 1) .nil))) .nil)) .nil)) (.prm .min2 (.cons (.cst (.int 1)) (.cons (.prm .len (.cons (.idx (.var 0) (.cst (.int 1))) .nil)) .nil))))) .nil))) .nil) .nil) (
  .cons (.ife (.cmp .Eq (.idx (.var 0) (.cst (.int 0))) (.cst (.str [115, 117, 109, 115]))) (.cons (.ret (.call 3 (.cons (.bin .Add (.lst (.cons (.cst (.str [104, 97, 110, 100, 32, 115, 117, 109, 115])) .nil)) (.comp [2] (.nm 2) (.on (.idx (.var 0) (.cst (.int 1)))) .no (.call 2 (.cons (.var 2) .nil)))) .nil))) .nil) .nil) (
  .cons (.ret (.call 3 (.cons (.bin .Add (.tup (.cons (.cst (.str [104, 97, 110, 100])) .nil)) (.var 0)) .nil))) .nil)))
abbrev k_show_case : Nat := 5
def p_show_case : FD where
  name := "show_case"
  ps := ["manner", "jobs", "weaving"]
  N := ["manner", "jobs", "weaving", "rows", "job"]
  body := (.cons (.asg (.nm 3) (.lst (.cons (.call 3 (.cons (.bin .Add (.tup (.cons (.cst (.str [109, 97, 110, 110, 101, 114])) .nil)) (.var 0)) .nil)) .nil))) (
  .cons (.exp (.mth .extend (.var 3) (.cons (.comp [4] (.nm 4) (.on (.var 1)) .no (.call 4 (.cons (.var 4) .nil))) .nil))) (
  .cons (.exp (.mth .append (.var 3) (.cons (.call 3 (.cons (.bin .Add (.tup (.cons (.cst (.str [119, 101, 97, 118, 101])) .nil)) (.var 2)) .nil)) .nil))) (
  .cons (.ret (.mth .join (.cst (.str [10])) (.cons (.var 3) .nil))) .nil))))
abbrev k_law_hand : Nat := 6
def p_law_hand : FD where
  name := "_law_hand"
  ps := ["_law_script", "_law_k"]
  N := ["_law_script", "_law_k", "_law_cell"]
  body := (.cons (.asg (.nm 2) (.cst (.int 0))) (
  .cons (.ife (.cmp .Lt (.var 1) (.prm .len (.cons (.var 0) .nil))) (.cons (.asg (.nm 2) (.idx (.var 0) (.var 1))) .nil) .nil) (
  .cons (.ret (.lst (.cons (.bin .Mult (.var 2) (.prm .int (.cons (.cmp .GtE (.var 2) (.bin .Pow (.cst (.int 10)) (.cst (.int 18)))) .nil))) (.cons (.bin .Add (.bin .Add (.bin .Mod (.var 2) (.cst (.int 2305843009213693951))) (.bin .Mult (.cst (.int 7919)) (.var 1))) (.cst (.int 3))) (.cons (.cst (.int 0)) .nil))))) .nil)))
abbrev k_law_take : Nat := 7
def p_law_take : FD where
  name := "_law_take"
  ps := ["_law_hand_here", "_law_many"]
  N := ["_law_hand_here", "_law_many", "_law_digit", "_law_turn", "_law_mixed", "_law_other"]
  body := (.cons (.ife (.cmp .Gt (.idx (.var 0) (.cst (.int 0))) (.cst (.int 0))) (.cons (.asg (.nm 2) (.bin .Mod (.idx (.var 0) (.cst (.int 0))) (.var 1))) (
    .cons (.sub (.var 0) (.cst (.int 0)) (.bin .FloorDiv (.idx (.var 0) (.cst (.int 0))) (.var 1))) (
    .cons (.ret (.var 2)) .nil))) .nil) (
  .cons (.sub (.var 0) (.cst (.int 2)) (.bin .Add (.idx (.var 0) (.cst (.int 2))) (.cst (.int 1)))) (
  .cons (.asg (.nm 3) (.idx (.var 0) (.cst (.int 2)))) (
  .cons (.asg (.nm 4) (.bin .Mod (.bin .Mult (.idx (.var 0) (.cst (.int 1))) (.bin .Add (.bin .Add (.cst (.int 48271)) (.bin .Mult (.bin .Mult (.cst (.int 2)) (.var 3)) (.var 3))) (.bin .Mult (.cst (.int 65537)) (.var 3)))) (.cst (.int 2305843009213693921)))) (
  .cons (.asg (.nm 5) (.bin .Add (.bin .Add (.bin .Mod (.var 4) (.cst (.int 1000003))) (.bin .Mult (.var 3) (.cst (.int 99991)))) (.cst (.int 11)))) (
  .cons (.asg (.nm 4) (.bin .Mod (.bin .Mult (.var 4) (.var 5)) (.cst (.int 2305843009213693907)))) (
  .cons (.ret (.bin .Mod (.bin .Add (.bin .FloorDiv (.var 4) (.cst (.int 97))) (.bin .FloorDiv (.var 4) (.cst (.int 1000033)))) (.var 1))) .nil)))))))
abbrev k_law_pick : Nat := 8
def p_law_pick : FD where
  name := "_law_pick"
  ps := ["_law_hand_here", "_law_some"]
  N := ["_law_hand_here", "_law_some"]
  body := (.cons (.ret (.idx (.var 1) (.call 7 (.cons (.var 0) (.cons (.prm .len (.cons (.var 1) .nil)) .nil))))) .nil)
abbrev k_law_manner : Nat := 9
def p_law_manner : FD where
  name := "_law_manner"
  ps := ["_law_hand_here", "_law_hands"]
  N := ["_law_hand_here", "_law_hands", "_law_way", "_law_turn", "_law_moves", "_law_bits"]
  body := (.cons (.asg (.nm 2) (.call 7 (.cons (.var 0) (.cons (.cst (.int 6)) .nil)))) (
  .cons (.asg (.nm 3) (.call 8 (.cons (.var 0) (.cons (.lst (.cons (.cst (.int 0)) (.cons (.cst (.int 0)) (.cons (.cst (.int 0)) (.cons (.cst (.int 2)) (.cons (.cst (.int 3)) (.cons (.cst (.int 9)) .nil))))))) .nil)))) (
  .cons (.asg (.nm 4) (.call 8 (.cons (.var 0) (.cons (.lst (.cons (.cst (.int 1)) (.cons (.cst (.int 2)) (.cons (.cst (.int 2)) (.cons (.cst (.int 3)) (.cons (.cst (.int 3)) (.cons (.cst (.int 4)) .nil))))))) .nil)))) (
  .cons (.asg (.nm 5) (.tup (.cons (.call 8 (.cons (.var 0) (.cons (.lst (.cons (.cst (.int 0)) (.cons (.cst (.int 1)) (.cons (.cst (.int 1)) (.cons (.cst (.int 1)) .nil))))) .nil))) (.cons (.call 8 (.cons (.var 0) (.cons (.lst (.cons (.cst (.int 0)) (.cons (.cst (.int 1)) (.cons (.cst (.int 1)) (.cons (.cst (.int 1)) .nil))))) .nil))) .nil)))) (
  .cons (.ife (.cmp .Lt (.var 2) (.cst (.int 2))) (.cons (.ret (.idx (.lst (.cons (.tup (.cons (.cst (.str [111, 110, 99, 101])) (.cons (.var 1) .nil))) (.cons (.tup (.cons (.cst (.str [116, 119, 105, 99, 101])) (.cons (.var 1) (.cons (.var 3) .nil)))) .nil))) (.var 2))) .nil) .nil) (
  .cons (.ife (.cmp .Eq (.var 2) (.cst (.int 2))) (.cons (.ret (.tup (.cons (.cst (.str [104, 97, 110, 100, 101, 100])) (.cons (.var 1) (.cons (.var 3) (.cons (.var 4) .nil)))))) .nil) .nil) (
  .cons (.ife (.cmp .Eq (.var 2) (.cst (.int 3))) (.cons (.ret (.bin .Add (.bin .Add (.tup (.cons (.cst (.str [115, 105, 103, 110, 115])) (.cons (.var 1) .nil))) (.var 5)) (.tup (.cons (.var 4) .nil)))) .nil) .nil) (
  .cons (.ret (.bin .Add (.bin .Add (.tup (.cons (.cst (.str [115, 104, 97, 114, 101, 100])) (.cons (.var 1) (.cons (.bin .Add (.cst (.int 1)) (.call 7 (.cons (.var 0) (.cons (.cst (.int 4)) .nil)))) .nil)))) (.var 5)) (.tup (.cons (.var 4) .nil)))) .nil))))))))
abbrev k_law_value : Nat := 10
def p_law_value : FD where
  name := "_law_value"
  ps := ["_law_hand_here"]
  N := ["_law_hand_here", "_law_way"]
  body := (.cons (.asg (.nm 1) (.call 7 (.cons (.var 0) (.cons (.cst (.int 8)) .nil)))) (
  .cons (.ife (.cmp .Eq (.var 1) (.cst (.int 0))) (.cons (.ret (.tup (.cons (.call 7 (.cons (.var 0) (.cons (.cst (.int 5)) .nil))) (.cons (.tup (.cons (.bin .Sub (.call 7 (.cons (.var 0) (.cons (.cst (.int 3)) .nil))) (.cst (.int 1))) (.cons (.tup .nil) .nil))) .nil)))) .nil) .nil) (
  .cons (.ife (.cmp .Eq (.var 1) (.cst (.int 1))) (.cons (.ret (.call 8 (.cons (.var 0) (.cons (.lst (.cons (.neg (.cst (.int 1))) (.cons (.bin .Sub (.bin .Pow (.cst (.int 10)) (.cst (.int 12))) (.cst (.int 1))) (.cons (.bin .Sub (.cst (.int 1)) (.bin .Pow (.cst (.int 10)) (.cst (.int 12)))) (.cons (.tup .nil) (.cons (.tup (.cons (.cst (.int 0)) .nil)) .nil)))))) .nil)))) .nil) .nil) (
  .cons (.ret (.call 7 (.cons (.var 0) (.cons (.cst (.int 7)) .nil)))) .nil))))
abbrev k_law_deeds : Nat := 11
def p_law_deeds : FD where
  name := "_law_deeds"
  ps := ["_law_hand_here", "_law_manner_here", "_law_own", "_law_many"]
  N := ["_law_hand_here", "_law_manner_here", "_law_own", "_law_many", "_law_row", "_law_k"]
  body := (.cons (.asg (.nm 4) (.lst .nil)) (
  .cons (.for (.nm 5) (.rng (.cons (.var 3) .nil)) (.cons (.ife (.cmp .Lt (.call 7 (.cons (.var 0) (.cons (.cst (.int 5)) .nil))) (.cst (.int 3))) (.cons (.asg (.nm 5) (.var 2)) (
      .cons (.ife (.cmp .Eq (.idx (.var 1) (.cst (.int 0))) (.cst (.str [115, 104, 97, 114, 101, 100]))) (.cons (.asg (.nm 5) (.call 7 (.cons (.var 0) (.cons (.idx (.var 1) (.cst (.int 2))) .nil)))) .nil) .nil) (
      .cons (.exp (.mth .append (.var 4) (.cons (.tup (.cons (.cst (.str [112, 117, 116])) (.cons (.var 5) (.cons (.call 10 (.cons (.var 0) .nil)) .nil)))) .nil))) .nil))) (.cons (.exp (.mth .append (.var 4) (.cons (.tup (.cons (.cst (.str [108, 111, 111, 107])) .nil)) .nil))) .nil)) .nil)) (
  .cons (.ret (.tup (.cons (.cst (.str [100, 101, 101, 100, 115])) (.cons (.prm .tuple (.cons (.var 4) .nil)) .nil)))) .nil)))
abbrev k_law_jobs : Nat := 12
def p_law_jobs : FD where
  name := "_law_jobs"
  ps := ["_law_hand_here", "_law_manner_here", "_law_most"]
  N := ["_law_hand_here", "_law_manner_here", "_law_most", "_law_jobs_here", "_law_own", "_law_many"]
  body := (.cons (.asg (.nm 3) (.lst .nil)) (
  .cons (.for (.nm 4) (.rng (.cons (.idx (.var 1) (.cst (.int 1))) .nil)) (.cons (.asg (.nm 5) (.call 7 (.cons (.var 0) (.cons (.bin .Add (.var 2) (.cst (.int 1))) .nil)))) (
    .cons (.ife (.cmp .Eq (.call 7 (.cons (.var 0) (.cons (.cst (.int 8)) .nil))) (.cst (.int 0))) (.cons (.asg (.nm 5) (.cst (.int 12))) .nil) .nil) (
    .cons (.exp (.mth .append (.var 3) (.cons (.call 11 (.cons (.var 0) (.cons (.var 1) (.cons (.var 4) (.cons (.var 5) .nil))))) .nil))) .nil)))) (
  .cons (.ret (.prm .tuple (.cons (.var 3) .nil))) .nil)))
abbrev k_law_built : Nat := 13
def p_law_built : FD where
  name := "_law_built"
  ps := ["_law_hand_here", "_law_hands"]
  N := ["_law_hand_here", "_law_hands", "_law_way", "_law_wait", "_law_rounds", "_law_jobs_here", "_law_own", "_law_number", "_law_items", "_law_k"]
  body := (.cons (.asg (.nm 2) (.call 7 (.cons (.var 0) (.cons (.cst (.int 4)) .nil)))) (
  .cons (.par [3, 4] (.cons (.bin .Add (.cst (.int 1)) (.call 7 (.cons (.var 0) (.cons (.var 1) .nil)))) (.cons (.bin .Add (.cst (.int 1)) (.call 7 (.cons (.var 0) (.cons (.cst (.int 6)) .nil)))) .nil))) (
  .cons (.asg (.nm 5) (.lst .nil)) (
  .cons (.for (.nm 6) (.rng (.cons (.var 1) .nil)) (.cons (.asg (.nm 7) (.bin .Sub (.call 7 (.cons (.var 0) (.cons (.cst (.int 41)) .nil))) (.cst (.int 20)))) (
    .cons (.asg (.nm 8) (.comp [9] (.nm 9) (.rng (.cons (.call 7 (.cons (.var 0) (.cons (.cst (.int 9)) .nil))) .nil)) .no (.call 8 (.cons (.var 0) (.cons (.lst (.cons (.cst .non) (.cons (.cst .non) (.cons (.cst (.int 1)) (.cons (.cst (.int 5)) (.cons (.neg (.cst (.int 3))) (.cons (.cst (.int 0)) .nil))))))) .nil))))) (
    .cons (.exp (.mth .append (.var 5) (.cons (.idx (.lst (.cons (.tup (.cons (.cst (.str [115, 117, 109, 115])) (.cons (.prm .tuple (.cons (.var 8) .nil)) .nil))) (.cons (.tup (.cons (.cst (.str [110, 97, 109, 101])) (.cons (.bin .Sub (.bin .Add (.bin .Mult (.cst (.int 8)) (.var 6)) (.bin .FloorDiv (.var 7) (.cst (.int 6)))) (.cst (.int 50))) .nil))) (.cons (.tup (.cons (.cst (.str [108, 101, 97, 115, 116])) (.cons (.var 7) (.cons (.var 3) .nil)))) (.cons (.tup (.cons (.cst (.str [99, 108, 111, 115, 101, 114])) (.cons (.var 7) (.cons (.var 4) .nil)))) .nil))))) (.var 2)) .nil))) .nil)))) (
  .cons (.ret (.prm .tuple (.cons (.var 5) .nil))) .nil)))))
abbrev k_law_case : Nat := 14
def p_law_case : FD where
  name := "_law_case"
  ps := ["_law_hand_here"]
  N := ["_law_hand_here", "_law_hands", "_law_manner_here", "_law_jobs_here", "_law_many", "_law_k"]
  body := (.cons (.asg (.nm 1) (.bin .Add (.cst (.int 1)) (.call 7 (.cons (.var 0) (.cons (.cst (.int 5)) .nil))))) (
  .cons (.asg (.nm 2) (.call 9 (.cons (.var 0) (.cons (.var 1) .nil)))) (
  .cons (.ife (.or (.cons (.cmp .Eq (.idx (.var 2) (.cst (.int 0))) (.cst (.str [115, 104, 97, 114, 101, 100]))) (.cons (.cmp .Eq (.call 7 (.cons (.var 0) (.cons (.cst (.int 2)) .nil))) (.cst (.int 0))) .nil))) (.cons (.asg (.nm 3) (.call 12 (.cons (.var 0) (.cons (.var 2) (.cons (.cst (.int 4)) .nil))))) .nil) (.cons (.asg (.nm 3) (.call 13 (.cons (.var 0) (.cons (.var 1) .nil)))) .nil)) (
  .cons (.asg (.nm 4) (.idx (.lst (.cons (.call 7 (.cons (.var 0) (.cons (.cst (.int 4)) .nil))) (.cons (.call 7 (.cons (.var 0) (.cons (.cst (.int 12)) .nil))) (.cons (.cst (.int 60)) (.cons (.cst (.int 300)) .nil))))) (.prm .min2 (.cons (.cst (.int 3)) (.cons (.bin .FloorDiv (.call 7 (.cons (.var 0) (.cons (.cst (.int 9)) .nil))) (.cst (.int 2))) .nil))))) (
  .cons (.ret (.tup (.cons (.var 2) (.cons (.var 3) (.cons (.prm .tuple (.cons (.comp [5] (.nm 5) (.rng (.cons (.var 4) .nil)) .no (.call 7 (.cons (.var 0) (.cons (.var 1) .nil)))) .nil)) .nil))))) .nil)))))
abbrev k_law_value_text : Nat := 15
def p_law_value_text : FD where
  name := "_law_value_text"
  ps := ["_law_value_here"]
  N := ["_law_value_here", "_law_part"]
  body := (.cons (.ife (.isi .tuple (.var 0)) (.cons (.ret (.bin .Add (.bin .Add (.cst (.str [40])) (.mth .join (.cst (.str [32])) (.cons (.comp [1] (.nm 1) (.on (.var 0)) .no (.call 15 (.cons (.var 1) .nil))) .nil))) (.cst (.str [41])))) .nil) .nil) (
  .cons (.ret (.prm .str (.cons (.var 0) .nil))) .nil))
abbrev k_law_deed_text : Nat := 16
def p_law_deed_text : FD where
  name := "_law_deed_text"
  ps := ["_law_deed"]
  N := ["_law_deed"]
  body := (.cons (.ife (.cmp .Eq (.idx (.var 0) (.cst (.int 0))) (.cst (.str [108, 111, 111, 107]))) (.cons (.ret (.idx (.var 0) (.cst (.int 0)))) .nil) .nil) (
  .cons (.ret (.bin .Add (.bin .Add (.bin .Add (.cst (.str [112, 117, 116, 32])) (.prm .str (.cons (.idx (.var 0) (.cst (.int 1))) .nil))) (.cst (.str [32]))) (.call 15 (.cons (.idx (.var 0) (.cst (.int 2))) .nil)))) .nil))
abbrev k_law_rows : Nat := 17
def p_law_rows : FD where
  name := "_law_rows"
  ps := ["_law_case_here"]
  N := ["_law_case_here", "_law_manner_here", "_law_jobs_here", "_law_weaving", "_law_rows_here", "_law_job", "_law_row", "_law_number", "_law_deed", "_law_item", "_law_own"]
  body := (.cons (.asg (.tp [1, 2, 3]) (.var 0)) (
  .cons (.asg (.nm 4) (.lst (.cons (.mth .join (.cst (.str [32])) (.cons (.bin .Add (.lst (.cons (.cst (.str [109, 97, 110, 110, 101, 114])) (.cons (.idx (.var 1) (.cst (.int 0))) .nil))) (.comp [7] (.nm 7) (.on (.slc (.var 1) (.so (.cst (.int 1))) .no)) .no (.prm .str (.cons (.var 7) .nil)))) .nil)) .nil))) (
  .cons (.for (.nm 5) (.on (.var 2)) (.cons (.asg (.nm 6) (.bin .Add (.cst (.str [104, 97, 110, 100, 32])) (.idx (.var 5) (.cst (.int 0))))) (
    .cons (.ife (.and (.cons (.cmp .Eq (.idx (.var 5) (.cst (.int 0))) (.cst (.str [100, 101, 101, 100, 115]))) (.cons (.cmp .NotEq (.idx (.var 5) (.cst (.int 1))) (.tup .nil)) .nil))) (.cons (.asg (.nm 6) (.bin .Add (.bin .Add (.var 6) (.cst (.str [32]))) (.mth .join (.cst (.str [44, 32])) (.cons (.comp [8] (.nm 8) (.on (.idx (.var 5) (.cst (.int 1)))) .no (.call 16 (.cons (.var 8) .nil))) .nil)))) .nil) (.cons (.ife (.cmp .Eq (.idx (.var 5) (.cst (.int 0))) (.cst (.str [115, 117, 109, 115]))) (.cons (.asg (.nm 6) (.bin .Add (.var 6) (.mth .join (.cst (.str [])) (.cons (.comp [9] (.nm 9) (.on (.idx (.var 5) (.cst (.int 1)))) .no (.ifx (.cmp .Is (.var 9) (.cst .non)) (.cst (.str [32, 63])) (.bin .Add (.cst (.str [32])) (.prm .str (.cons (.var 9) .nil))))) .nil)))) .nil) (.cons (.ife (.cmp .NotEq (.idx (.var 5) (.cst (.int 0))) (.cst (.str [100, 101, 101, 100, 115]))) (.cons (.asg (.nm 6) (.bin .Add (.var 6) (.mth .join (.cst (.str [])) (.cons (.comp [7] (.nm 7) (.on (.slc (.var 5) (.so (.cst (.int 1))) .no)) .no (.bin .Add (.cst (.str [32])) (.prm .str (.cons (.var 7) .nil)))) .nil)))) .nil) .nil) .nil)) .nil)) (
    .cons (.exp (.mth .append (.var 4) (.cons (.var 6) .nil))) .nil)))) (
  .cons (.ret (.bin .Add (.var 4) (.lst (.cons (.bin .Add (.cst (.str [119, 101, 97, 118, 101])) (.mth .join (.cst (.str [])) (.cons (.comp [10] (.nm 10) (.on (.var 3)) .no (.bin .Add (.cst (.str [32])) (.prm .str (.cons (.var 10) .nil)))) .nil))) .nil)))) .nil))))
abbrev k_law : Nat := 18
def p_law : FD where
  name := "law"
  ps := ["_law_script"]
  N := ["_law_script", "_law_k", "_law_case_here", "_law_due", "_law_turn", "_law_found"]
  body := (.cons (.for (.nm 1) (.rng (.cons (.prm .max2 (.cons (.cst (.int 1)) (.cons (.prm .min2 (.cons (.prm .len (.cons (.var 0) .nil)) (.cons (.cst (.int 12)) .nil))) .nil))) .nil)) (.cons (.asg (.nm 2) (.call 14 (.cons (.call 6 (.cons (.var 0) (.cons (.var 1) .nil))) .nil))) (
    .cons (.asg (.nm 3) (.mth .join (.cst (.str [10])) (.cons (.call 17 (.cons (.var 2) .nil)) .nil))) (
    .cons (.for (.nm 4) (.rng (.cons (.cst (.int 2)) .nil)) (.cons (.asg (.nm 5) (.call 5 (.cons (.idx (.var 2) (.cst (.int 0))) (.cons (.idx (.var 2) (.cst (.int 1))) (.cons (.idx (.var 2) (.cst (.int 2))) .nil))))) (
      .cons (.ife (.or (.cons (.not (.isi .str (.var 5))) (.cons (.cmp .NotEq (.var 5) (.var 3)) .nil))) (.cons (.ret (.cst (.bl false))) .nil) .nil) .nil))) .nil)))) (
  .cons (.ret (.cst (.bl true))) .nil))
def prog : MG := { fns := [p_value_text, p_deed_text, p_item_text, p_words_text, p_job_text, p_show_case, p_law_hand, p_law_take, p_law_pick, p_law_manner, p_law_value, p_law_deeds, p_law_jobs, p_law_built, p_law_case, p_law_value_text, p_law_deed_text, p_law_rows, p_law], cons := [] }
theorem sc_p_value_text : FnScope p_value_text.N p_value_text.ps (defScope (top 1)) := ⟨rfl, rfl, rfl, by decide +kernel, rfl, by decide +kernel, by decide +kernel⟩
theorem mt_p_value_text : mtSs prog p_value_text.N (defScope (top 1)) p_value_text.body (defBody (top 1)) = true := by decide +kernel
theorem sc_p_deed_text : FnScope p_deed_text.N p_deed_text.ps (defScope (top 2)) := ⟨rfl, rfl, rfl, by decide +kernel, rfl, by decide +kernel, by decide +kernel⟩
theorem mt_p_deed_text : mtSs prog p_deed_text.N (defScope (top 2)) p_deed_text.body (defBody (top 2)) = true := by decide +kernel
theorem sc_p_item_text : FnScope p_item_text.N p_item_text.ps (defScope (top 3)) := ⟨rfl, rfl, rfl, by decide +kernel, rfl, by decide +kernel, by decide +kernel⟩
theorem mt_p_item_text : mtSs prog p_item_text.N (defScope (top 3)) p_item_text.body (defBody (top 3)) = true := by decide +kernel
theorem sc_p_words_text : FnScope p_words_text.N p_words_text.ps (defScope (top 4)) := ⟨rfl, rfl, rfl, by decide +kernel, rfl, by decide +kernel, by decide +kernel⟩
theorem mt_p_words_text : mtSs prog p_words_text.N (defScope (top 4)) p_words_text.body (defBody (top 4)) = true := by decide +kernel
theorem sc_p_job_text : FnScope p_job_text.N p_job_text.ps (defScope (top 5)) := ⟨rfl, rfl, rfl, by decide +kernel, rfl, by decide +kernel, by decide +kernel⟩
theorem mt_p_job_text : mtSs prog p_job_text.N (defScope (top 5)) p_job_text.body (defBody (top 5)) = true := by decide +kernel
theorem sc_p_show_case : FnScope p_show_case.N p_show_case.ps (defScope (top 6)) := ⟨rfl, rfl, rfl, by decide +kernel, rfl, by decide +kernel, by decide +kernel⟩
theorem mt_p_show_case : mtSs prog p_show_case.N (defScope (top 6)) p_show_case.body (defBody (top 6)) = true := by decide +kernel
theorem sc_p_law_hand : FnScope p_law_hand.N p_law_hand.ps (defScope (top 8)) := ⟨rfl, rfl, rfl, by decide +kernel, rfl, by decide +kernel, by decide +kernel⟩
theorem mt_p_law_hand : mtSs prog p_law_hand.N (defScope (top 8)) p_law_hand.body (defBody (top 8)) = true := by decide +kernel
theorem sc_p_law_take : FnScope p_law_take.N p_law_take.ps (defScope (top 9)) := ⟨rfl, rfl, rfl, by decide +kernel, rfl, by decide +kernel, by decide +kernel⟩
theorem mt_p_law_take : mtSs prog p_law_take.N (defScope (top 9)) p_law_take.body (defBody (top 9)) = true := by decide +kernel
theorem sc_p_law_pick : FnScope p_law_pick.N p_law_pick.ps (defScope (top 10)) := ⟨rfl, rfl, rfl, by decide +kernel, rfl, by decide +kernel, by decide +kernel⟩
theorem mt_p_law_pick : mtSs prog p_law_pick.N (defScope (top 10)) p_law_pick.body (defBody (top 10)) = true := by decide +kernel
theorem sc_p_law_manner : FnScope p_law_manner.N p_law_manner.ps (defScope (top 11)) := ⟨rfl, rfl, rfl, by decide +kernel, rfl, by decide +kernel, by decide +kernel⟩
theorem mt_p_law_manner : mtSs prog p_law_manner.N (defScope (top 11)) p_law_manner.body (defBody (top 11)) = true := by decide +kernel
theorem sc_p_law_value : FnScope p_law_value.N p_law_value.ps (defScope (top 12)) := ⟨rfl, rfl, rfl, by decide +kernel, rfl, by decide +kernel, by decide +kernel⟩
theorem mt_p_law_value : mtSs prog p_law_value.N (defScope (top 12)) p_law_value.body (defBody (top 12)) = true := by decide +kernel
theorem sc_p_law_deeds : FnScope p_law_deeds.N p_law_deeds.ps (defScope (top 13)) := ⟨rfl, rfl, rfl, by decide +kernel, rfl, by decide +kernel, by decide +kernel⟩
theorem mt_p_law_deeds : mtSs prog p_law_deeds.N (defScope (top 13)) p_law_deeds.body (defBody (top 13)) = true := by decide +kernel
theorem sc_p_law_jobs : FnScope p_law_jobs.N p_law_jobs.ps (defScope (top 14)) := ⟨rfl, rfl, rfl, by decide +kernel, rfl, by decide +kernel, by decide +kernel⟩
theorem mt_p_law_jobs : mtSs prog p_law_jobs.N (defScope (top 14)) p_law_jobs.body (defBody (top 14)) = true := by decide +kernel
theorem sc_p_law_built : FnScope p_law_built.N p_law_built.ps (defScope (top 15)) := ⟨rfl, rfl, rfl, by decide +kernel, rfl, by decide +kernel, by decide +kernel⟩
theorem mt_p_law_built : mtSs prog p_law_built.N (defScope (top 15)) p_law_built.body (defBody (top 15)) = true := by decide +kernel
theorem sc_p_law_case : FnScope p_law_case.N p_law_case.ps (defScope (top 16)) := ⟨rfl, rfl, rfl, by decide +kernel, rfl, by decide +kernel, by decide +kernel⟩
theorem mt_p_law_case : mtSs prog p_law_case.N (defScope (top 16)) p_law_case.body (defBody (top 16)) = true := by decide +kernel
theorem sc_p_law_value_text : FnScope p_law_value_text.N p_law_value_text.ps (defScope (top 17)) := ⟨rfl, rfl, rfl, by decide +kernel, rfl, by decide +kernel, by decide +kernel⟩
theorem mt_p_law_value_text : mtSs prog p_law_value_text.N (defScope (top 17)) p_law_value_text.body (defBody (top 17)) = true := by decide +kernel
theorem sc_p_law_deed_text : FnScope p_law_deed_text.N p_law_deed_text.ps (defScope (top 18)) := ⟨rfl, rfl, rfl, by decide +kernel, rfl, by decide +kernel, by decide +kernel⟩
theorem mt_p_law_deed_text : mtSs prog p_law_deed_text.N (defScope (top 18)) p_law_deed_text.body (defBody (top 18)) = true := by decide +kernel
theorem sc_p_law_rows : FnScope p_law_rows.N p_law_rows.ps (defScope (top 19)) := ⟨rfl, rfl, rfl, by decide +kernel, rfl, by decide +kernel, by decide +kernel⟩
theorem mt_p_law_rows : mtSs prog p_law_rows.N (defScope (top 19)) p_law_rows.body (defBody (top 19)) = true := by decide +kernel
theorem sc_p_law : FnScope p_law.N p_law.ps (defScope (top 20)) := ⟨rfl, rfl, rfl, by decide +kernel, rfl, by decide +kernel, by decide +kernel⟩
theorem mt_p_law : mtSs prog p_law.N (defScope (top 20)) p_law.body (defBody (top 20)) = true := by decide +kernel
/-! ### the head -/
def h_p_value_text : He.DefD := ⟨("value_text", none), "value_text", "value_text", defArgs (top 1), defBody (top 1), defScope (top 1), [], []⟩
def h_p_deed_text : He.DefD := ⟨("deed_text", none), "deed_text", "deed_text", defArgs (top 2), defBody (top 2), defScope (top 2), [], []⟩
def h_p_item_text : He.DefD := ⟨("item_text", none), "item_text", "item_text", defArgs (top 3), defBody (top 3), defScope (top 3), [], []⟩
def h_p_words_text : He.DefD := ⟨("words_text", none), "words_text", "words_text", defArgs (top 4), defBody (top 4), defScope (top 4), [], []⟩
def h_p_job_text : He.DefD := ⟨("job_text", none), "job_text", "job_text", defArgs (top 5), defBody (top 5), defScope (top 5), [], []⟩
def h_p_show_case : He.DefD := ⟨("show_case", none), "show_case", "show_case", defArgs (top 6), defBody (top 6), defScope (top 6), [], []⟩
def h_p_law_hand : He.DefD := ⟨("_law_hand", none), "_law_hand", "_law_hand", defArgs (top 8), defBody (top 8), defScope (top 8), [], []⟩
def h_p_law_take : He.DefD := ⟨("_law_take", none), "_law_take", "_law_take", defArgs (top 9), defBody (top 9), defScope (top 9), [], []⟩
def h_p_law_pick : He.DefD := ⟨("_law_pick", none), "_law_pick", "_law_pick", defArgs (top 10), defBody (top 10), defScope (top 10), [], []⟩
def h_p_law_manner : He.DefD := ⟨("_law_manner", none), "_law_manner", "_law_manner", defArgs (top 11), defBody (top 11), defScope (top 11), [], []⟩
def h_p_law_value : He.DefD := ⟨("_law_value", none), "_law_value", "_law_value", defArgs (top 12), defBody (top 12), defScope (top 12), [], []⟩
def h_p_law_deeds : He.DefD := ⟨("_law_deeds", none), "_law_deeds", "_law_deeds", defArgs (top 13), defBody (top 13), defScope (top 13), [], []⟩
def h_p_law_jobs : He.DefD := ⟨("_law_jobs", none), "_law_jobs", "_law_jobs", defArgs (top 14), defBody (top 14), defScope (top 14), [], []⟩
def h_p_law_built : He.DefD := ⟨("_law_built", none), "_law_built", "_law_built", defArgs (top 15), defBody (top 15), defScope (top 15), [], []⟩
def h_p_law_case : He.DefD := ⟨("_law_case", none), "_law_case", "_law_case", defArgs (top 16), defBody (top 16), defScope (top 16), [], []⟩
def h_p_law_value_text : He.DefD := ⟨("_law_value_text", none), "_law_value_text", "_law_value_text", defArgs (top 17), defBody (top 17), defScope (top 17), [], []⟩
def h_p_law_deed_text : He.DefD := ⟨("_law_deed_text", none), "_law_deed_text", "_law_deed_text", defArgs (top 18), defBody (top 18), defScope (top 18), [], []⟩
def h_p_law_rows : He.DefD := ⟨("_law_rows", none), "_law_rows", "_law_rows", defArgs (top 19), defBody (top 19), defScope (top 19), [], []⟩
def h_p_law : He.DefD := ⟨("law", none), "law", "law", defArgs (top 20), defBody (top 20), defScope (top 20), [], []⟩
def hfn : List He.DefD := [h_p_value_text, h_p_deed_text, h_p_item_text, h_p_words_text, h_p_job_text, h_p_show_case, h_p_law_hand, h_p_law_take, h_p_law_pick, h_p_law_manner, h_p_law_value, h_p_law_deeds, h_p_law_jobs, h_p_law_built, h_p_law_case, h_p_law_value_text, h_p_law_deed_text, h_p_law_rows, h_p_law]
def hfa : List He.Fa := [.glo "value_text", .glo "deed_text", .glo "item_text", .glo "words_text", .glo "job_text", .glo "show_case", .glo "_law_hand", .glo "_law_take", .glo "_law_pick", .glo "_law_manner", .glo "_law_value", .glo "_law_deeds", .glo "_law_jobs", .glo "_law_built", .glo "_law_case", .glo "_law_value_text", .glo "_law_deed_text", .glo "_law_rows", .glo "law"] ++ [.free "len", .free "tuple", .free "list", .free "str", .free "int", .free "bool", .free "min", .free "max", .free "abs", .free "all", .free "any", .free "sum", .free "isinstance", .free "range", .free "enumerate", .free "zip", .free "dict", .free "set", .free "sorted", .free "reversed"]
abbrev R : PySem.W.OpenRow := PySem.W.OpenLaw.row PySem.Challenge.rw_wholeglance_k80_cases_written
abbrev hk : PySem.W.Hook := He.hookD 4 hfa hfn
def ob (s : PySem.W.SharedT) : He.AlD := He.obsDG 4 hfa hfn (HandSHeadRun.getT s)
theorem ob_eq (s : PySem.W.SharedT) : ob s = hk.obs s.abs := He.obsDG_eq (HandSHeadRun.getT_eq s)
def names : List Str := ["value_text", "deed_text", "item_text", "words_text", "job_text", "show_case", "_law_hand", "_law_take", "_law_pick", "_law_manner", "_law_value", "_law_deeds", "_law_jobs", "_law_built", "_law_case", "_law_value_text", "_law_deed_text", "_law_rows"]
theorem run (w : World) : HandSHeadRun.RunEq R (PySem.W.view R.prog [20]) hk ob 4000 names w := by
  intro os
  kernel_rfl
def ads (K : PySem.W.Frag) : Ads where
  fa := fun f => match prog.fns[f]? with
    | some d => He.fAd K (d.name, none)
    | none => 0
  ca := fun _ => 0
  xa := fun _ => 0
theorem ft_p_value_text {K : PySem.W.Frag} {h : Heap} {mg : Str → Option Value} (X : K.In h) (G : h.Ns mainGlobals mg) (c : He.SaysD hfa hfn K) : FnText (ads K) prog K mg 0 p_value_text := by
  obtain ⟨fd, F⟩ := c.def_ 0 (d := h_p_value_text) rfl
  refine ⟨He.glo_ok X G (c.fact 0 (f := .glo "value_text") rfl), fd, ⟨"value_text", top 1, F, sc_p_value_text, mt_p_value_text⟩, fun s us hl => FunD.bindsA F (fun _ _ _ _ _ _ us hl => match us, hl with | [_], _ => rfl) s us hl, F.kp⟩
theorem ft_p_deed_text {K : PySem.W.Frag} {h : Heap} {mg : Str → Option Value} (X : K.In h) (G : h.Ns mainGlobals mg) (c : He.SaysD hfa hfn K) : FnText (ads K) prog K mg 1 p_deed_text := by
  obtain ⟨fd, F⟩ := c.def_ 1 (d := h_p_deed_text) rfl
  refine ⟨He.glo_ok X G (c.fact 1 (f := .glo "deed_text") rfl), fd, ⟨"deed_text", top 2, F, sc_p_deed_text, mt_p_deed_text⟩, fun s us hl => FunD.bindsA F (fun _ _ _ _ _ _ us hl => match us, hl with | [_], _ => rfl) s us hl, F.kp⟩
theorem ft_p_item_text {K : PySem.W.Frag} {h : Heap} {mg : Str → Option Value} (X : K.In h) (G : h.Ns mainGlobals mg) (c : He.SaysD hfa hfn K) : FnText (ads K) prog K mg 2 p_item_text := by
  obtain ⟨fd, F⟩ := c.def_ 2 (d := h_p_item_text) rfl
  refine ⟨He.glo_ok X G (c.fact 2 (f := .glo "item_text") rfl), fd, ⟨"item_text", top 3, F, sc_p_item_text, mt_p_item_text⟩, fun s us hl => FunD.bindsA F (fun _ _ _ _ _ _ us hl => match us, hl with | [_], _ => rfl) s us hl, F.kp⟩
theorem ft_p_words_text {K : PySem.W.Frag} {h : Heap} {mg : Str → Option Value} (X : K.In h) (G : h.Ns mainGlobals mg) (c : He.SaysD hfa hfn K) : FnText (ads K) prog K mg 3 p_words_text := by
  obtain ⟨fd, F⟩ := c.def_ 3 (d := h_p_words_text) rfl
  refine ⟨He.glo_ok X G (c.fact 3 (f := .glo "words_text") rfl), fd, ⟨"words_text", top 4, F, sc_p_words_text, mt_p_words_text⟩, fun s us hl => FunD.bindsA F (fun _ _ _ _ _ _ us hl => match us, hl with | [_], _ => rfl) s us hl, F.kp⟩
theorem ft_p_job_text {K : PySem.W.Frag} {h : Heap} {mg : Str → Option Value} (X : K.In h) (G : h.Ns mainGlobals mg) (c : He.SaysD hfa hfn K) : FnText (ads K) prog K mg 4 p_job_text := by
  obtain ⟨fd, F⟩ := c.def_ 4 (d := h_p_job_text) rfl
  refine ⟨He.glo_ok X G (c.fact 4 (f := .glo "job_text") rfl), fd, ⟨"job_text", top 5, F, sc_p_job_text, mt_p_job_text⟩, fun s us hl => FunD.bindsA F (fun _ _ _ _ _ _ us hl => match us, hl with | [_], _ => rfl) s us hl, F.kp⟩
theorem ft_p_show_case {K : PySem.W.Frag} {h : Heap} {mg : Str → Option Value} (X : K.In h) (G : h.Ns mainGlobals mg) (c : He.SaysD hfa hfn K) : FnText (ads K) prog K mg 5 p_show_case := by
  obtain ⟨fd, F⟩ := c.def_ 5 (d := h_p_show_case) rfl
  refine ⟨He.glo_ok X G (c.fact 5 (f := .glo "show_case") rfl), fd, ⟨"show_case", top 6, F, sc_p_show_case, mt_p_show_case⟩, fun s us hl => FunD.bindsA F (fun _ _ _ _ _ _ us hl => match us, hl with | [_, _, _], _ => rfl) s us hl, F.kp⟩
theorem ft_p_law_hand {K : PySem.W.Frag} {h : Heap} {mg : Str → Option Value} (X : K.In h) (G : h.Ns mainGlobals mg) (c : He.SaysD hfa hfn K) : FnText (ads K) prog K mg 6 p_law_hand := by
  obtain ⟨fd, F⟩ := c.def_ 6 (d := h_p_law_hand) rfl
  refine ⟨He.glo_ok X G (c.fact 6 (f := .glo "_law_hand") rfl), fd, ⟨"_law_hand", top 8, F, sc_p_law_hand, mt_p_law_hand⟩, fun s us hl => FunD.bindsA F (fun _ _ _ _ _ _ us hl => match us, hl with | [_, _], _ => rfl) s us hl, F.kp⟩
theorem ft_p_law_take {K : PySem.W.Frag} {h : Heap} {mg : Str → Option Value} (X : K.In h) (G : h.Ns mainGlobals mg) (c : He.SaysD hfa hfn K) : FnText (ads K) prog K mg 7 p_law_take := by
  obtain ⟨fd, F⟩ := c.def_ 7 (d := h_p_law_take) rfl
  refine ⟨He.glo_ok X G (c.fact 7 (f := .glo "_law_take") rfl), fd, ⟨"_law_take", top 9, F, sc_p_law_take, mt_p_law_take⟩, fun s us hl => FunD.bindsA F (fun _ _ _ _ _ _ us hl => match us, hl with | [_, _], _ => rfl) s us hl, F.kp⟩
theorem ft_p_law_pick {K : PySem.W.Frag} {h : Heap} {mg : Str → Option Value} (X : K.In h) (G : h.Ns mainGlobals mg) (c : He.SaysD hfa hfn K) : FnText (ads K) prog K mg 8 p_law_pick := by
  obtain ⟨fd, F⟩ := c.def_ 8 (d := h_p_law_pick) rfl
  refine ⟨He.glo_ok X G (c.fact 8 (f := .glo "_law_pick") rfl), fd, ⟨"_law_pick", top 10, F, sc_p_law_pick, mt_p_law_pick⟩, fun s us hl => FunD.bindsA F (fun _ _ _ _ _ _ us hl => match us, hl with | [_, _], _ => rfl) s us hl, F.kp⟩
theorem ft_p_law_manner {K : PySem.W.Frag} {h : Heap} {mg : Str → Option Value} (X : K.In h) (G : h.Ns mainGlobals mg) (c : He.SaysD hfa hfn K) : FnText (ads K) prog K mg 9 p_law_manner := by
  obtain ⟨fd, F⟩ := c.def_ 9 (d := h_p_law_manner) rfl
  refine ⟨He.glo_ok X G (c.fact 9 (f := .glo "_law_manner") rfl), fd, ⟨"_law_manner", top 11, F, sc_p_law_manner, mt_p_law_manner⟩, fun s us hl => FunD.bindsA F (fun _ _ _ _ _ _ us hl => match us, hl with | [_, _], _ => rfl) s us hl, F.kp⟩
theorem ft_p_law_value {K : PySem.W.Frag} {h : Heap} {mg : Str → Option Value} (X : K.In h) (G : h.Ns mainGlobals mg) (c : He.SaysD hfa hfn K) : FnText (ads K) prog K mg 10 p_law_value := by
  obtain ⟨fd, F⟩ := c.def_ 10 (d := h_p_law_value) rfl
  refine ⟨He.glo_ok X G (c.fact 10 (f := .glo "_law_value") rfl), fd, ⟨"_law_value", top 12, F, sc_p_law_value, mt_p_law_value⟩, fun s us hl => FunD.bindsA F (fun _ _ _ _ _ _ us hl => match us, hl with | [_], _ => rfl) s us hl, F.kp⟩
theorem ft_p_law_deeds {K : PySem.W.Frag} {h : Heap} {mg : Str → Option Value} (X : K.In h) (G : h.Ns mainGlobals mg) (c : He.SaysD hfa hfn K) : FnText (ads K) prog K mg 11 p_law_deeds := by
  obtain ⟨fd, F⟩ := c.def_ 11 (d := h_p_law_deeds) rfl
  refine ⟨He.glo_ok X G (c.fact 11 (f := .glo "_law_deeds") rfl), fd, ⟨"_law_deeds", top 13, F, sc_p_law_deeds, mt_p_law_deeds⟩, fun s us hl => FunD.bindsA F (fun _ _ _ _ _ _ us hl => match us, hl with | [_, _, _, _], _ => rfl) s us hl, F.kp⟩
theorem ft_p_law_jobs {K : PySem.W.Frag} {h : Heap} {mg : Str → Option Value} (X : K.In h) (G : h.Ns mainGlobals mg) (c : He.SaysD hfa hfn K) : FnText (ads K) prog K mg 12 p_law_jobs := by
  obtain ⟨fd, F⟩ := c.def_ 12 (d := h_p_law_jobs) rfl
  refine ⟨He.glo_ok X G (c.fact 12 (f := .glo "_law_jobs") rfl), fd, ⟨"_law_jobs", top 14, F, sc_p_law_jobs, mt_p_law_jobs⟩, fun s us hl => FunD.bindsA F (fun _ _ _ _ _ _ us hl => match us, hl with | [_, _, _], _ => rfl) s us hl, F.kp⟩
theorem ft_p_law_built {K : PySem.W.Frag} {h : Heap} {mg : Str → Option Value} (X : K.In h) (G : h.Ns mainGlobals mg) (c : He.SaysD hfa hfn K) : FnText (ads K) prog K mg 13 p_law_built := by
  obtain ⟨fd, F⟩ := c.def_ 13 (d := h_p_law_built) rfl
  refine ⟨He.glo_ok X G (c.fact 13 (f := .glo "_law_built") rfl), fd, ⟨"_law_built", top 15, F, sc_p_law_built, mt_p_law_built⟩, fun s us hl => FunD.bindsA F (fun _ _ _ _ _ _ us hl => match us, hl with | [_, _], _ => rfl) s us hl, F.kp⟩
theorem ft_p_law_case {K : PySem.W.Frag} {h : Heap} {mg : Str → Option Value} (X : K.In h) (G : h.Ns mainGlobals mg) (c : He.SaysD hfa hfn K) : FnText (ads K) prog K mg 14 p_law_case := by
  obtain ⟨fd, F⟩ := c.def_ 14 (d := h_p_law_case) rfl
  refine ⟨He.glo_ok X G (c.fact 14 (f := .glo "_law_case") rfl), fd, ⟨"_law_case", top 16, F, sc_p_law_case, mt_p_law_case⟩, fun s us hl => FunD.bindsA F (fun _ _ _ _ _ _ us hl => match us, hl with | [_], _ => rfl) s us hl, F.kp⟩
theorem ft_p_law_value_text {K : PySem.W.Frag} {h : Heap} {mg : Str → Option Value} (X : K.In h) (G : h.Ns mainGlobals mg) (c : He.SaysD hfa hfn K) : FnText (ads K) prog K mg 15 p_law_value_text := by
  obtain ⟨fd, F⟩ := c.def_ 15 (d := h_p_law_value_text) rfl
  refine ⟨He.glo_ok X G (c.fact 15 (f := .glo "_law_value_text") rfl), fd, ⟨"_law_value_text", top 17, F, sc_p_law_value_text, mt_p_law_value_text⟩, fun s us hl => FunD.bindsA F (fun _ _ _ _ _ _ us hl => match us, hl with | [_], _ => rfl) s us hl, F.kp⟩
theorem ft_p_law_deed_text {K : PySem.W.Frag} {h : Heap} {mg : Str → Option Value} (X : K.In h) (G : h.Ns mainGlobals mg) (c : He.SaysD hfa hfn K) : FnText (ads K) prog K mg 16 p_law_deed_text := by
  obtain ⟨fd, F⟩ := c.def_ 16 (d := h_p_law_deed_text) rfl
  refine ⟨He.glo_ok X G (c.fact 16 (f := .glo "_law_deed_text") rfl), fd, ⟨"_law_deed_text", top 18, F, sc_p_law_deed_text, mt_p_law_deed_text⟩, fun s us hl => FunD.bindsA F (fun _ _ _ _ _ _ us hl => match us, hl with | [_], _ => rfl) s us hl, F.kp⟩
theorem ft_p_law_rows {K : PySem.W.Frag} {h : Heap} {mg : Str → Option Value} (X : K.In h) (G : h.Ns mainGlobals mg) (c : He.SaysD hfa hfn K) : FnText (ads K) prog K mg 17 p_law_rows := by
  obtain ⟨fd, F⟩ := c.def_ 17 (d := h_p_law_rows) rfl
  refine ⟨He.glo_ok X G (c.fact 17 (f := .glo "_law_rows") rfl), fd, ⟨"_law_rows", top 19, F, sc_p_law_rows, mt_p_law_rows⟩, fun s us hl => FunD.bindsA F (fun _ _ _ _ _ _ us hl => match us, hl with | [_], _ => rfl) s us hl, F.kp⟩
theorem ft_p_law {K : PySem.W.Frag} {h : Heap} {mg : Str → Option Value} (X : K.In h) (G : h.Ns mainGlobals mg) (c : He.SaysD hfa hfn K) : FnText (ads K) prog K mg 18 p_law := by
  obtain ⟨fd, F⟩ := c.def_ 18 (d := h_p_law) rfl
  refine ⟨He.glo_ok X G (c.fact 18 (f := .glo "law") rfl), fd, ⟨"law", top 20, F, sc_p_law, mt_p_law⟩, fun s us hl => FunD.bindsA F (fun _ _ _ _ _ _ us hl => match us, hl with | [_], _ => rfl) s us hl, F.kp⟩
theorem facts {K : PySem.W.Frag} {h : Heap} {mg : Str → Option Value} (X : K.In h) (G : h.Ns mainGlobals mg) (c : He.SaysD hfa hfn K) : Facts (ads K) prog (fun _ => .non) K mg where
  bl := fun x hx => by
    simp only [bltNames, List.mem_cons, List.not_mem_nil, or_false] at hx
    rcases hx with rfl | rfl | rfl | rfl | rfl | rfl | rfl | rfl | rfl | rfl | rfl | rfl | rfl | rfl | rfl | rfl | rfl | rfl | rfl | rfl
    · exact He.free_ok X G (c.fact 19 (f := .free "len") rfl)
    · exact He.free_ok X G (c.fact 20 (f := .free "tuple") rfl)
    · exact He.free_ok X G (c.fact 21 (f := .free "list") rfl)
    · exact He.free_ok X G (c.fact 22 (f := .free "str") rfl)
    · exact He.free_ok X G (c.fact 23 (f := .free "int") rfl)
    · exact He.free_ok X G (c.fact 24 (f := .free "bool") rfl)
    · exact He.free_ok X G (c.fact 25 (f := .free "min") rfl)
    · exact He.free_ok X G (c.fact 26 (f := .free "max") rfl)
    · exact He.free_ok X G (c.fact 27 (f := .free "abs") rfl)
    · exact He.free_ok X G (c.fact 28 (f := .free "all") rfl)
    · exact He.free_ok X G (c.fact 29 (f := .free "any") rfl)
    · exact He.free_ok X G (c.fact 30 (f := .free "sum") rfl)
    · exact He.free_ok X G (c.fact 31 (f := .free "isinstance") rfl)
    · exact He.free_ok X G (c.fact 32 (f := .free "range") rfl)
    · exact He.free_ok X G (c.fact 33 (f := .free "enumerate") rfl)
    · exact He.free_ok X G (c.fact 34 (f := .free "zip") rfl)
    · exact He.free_ok X G (c.fact 35 (f := .free "dict") rfl)
    · exact He.free_ok X G (c.fact 36 (f := .free "set") rfl)
    · exact He.free_ok X G (c.fact 37 (f := .free "sorted") rfl)
    · exact He.free_ok X G (c.fact 38 (f := .free "reversed") rfl)
  gc := fun i x m h => by simp [prog] at h
  fn := fun f d hd => by
    match f, hd with
    | 0, hd => cases (show d = p_value_text from (Option.some.inj hd).symm); exact ft_p_value_text X G c
    | 1, hd => cases (show d = p_deed_text from (Option.some.inj hd).symm); exact ft_p_deed_text X G c
    | 2, hd => cases (show d = p_item_text from (Option.some.inj hd).symm); exact ft_p_item_text X G c
    | 3, hd => cases (show d = p_words_text from (Option.some.inj hd).symm); exact ft_p_words_text X G c
    | 4, hd => cases (show d = p_job_text from (Option.some.inj hd).symm); exact ft_p_job_text X G c
    | 5, hd => cases (show d = p_show_case from (Option.some.inj hd).symm); exact ft_p_show_case X G c
    | 6, hd => cases (show d = p_law_hand from (Option.some.inj hd).symm); exact ft_p_law_hand X G c
    | 7, hd => cases (show d = p_law_take from (Option.some.inj hd).symm); exact ft_p_law_take X G c
    | 8, hd => cases (show d = p_law_pick from (Option.some.inj hd).symm); exact ft_p_law_pick X G c
    | 9, hd => cases (show d = p_law_manner from (Option.some.inj hd).symm); exact ft_p_law_manner X G c
    | 10, hd => cases (show d = p_law_value from (Option.some.inj hd).symm); exact ft_p_law_value X G c
    | 11, hd => cases (show d = p_law_deeds from (Option.some.inj hd).symm); exact ft_p_law_deeds X G c
    | 12, hd => cases (show d = p_law_jobs from (Option.some.inj hd).symm); exact ft_p_law_jobs X G c
    | 13, hd => cases (show d = p_law_built from (Option.some.inj hd).symm); exact ft_p_law_built X G c
    | 14, hd => cases (show d = p_law_case from (Option.some.inj hd).symm); exact ft_p_law_case X G c
    | 15, hd => cases (show d = p_law_value_text from (Option.some.inj hd).symm); exact ft_p_law_value_text X G c
    | 16, hd => cases (show d = p_law_deed_text from (Option.some.inj hd).symm); exact ft_p_law_deed_text X G c
    | 17, hd => cases (show d = p_law_rows from (Option.some.inj hd).symm); exact ft_p_law_rows X G c
    | 18, hd => cases (show d = p_law from (Option.some.inj hd).symm); exact ft_p_law X G c
    | n + 19, hd => simp [prog] at hd
end Wg
open PySem PySem.Spec PyProof.Rows
set_option linter.all false
set_option Elab.async false
set_option maxRecDepth 100000
set_option maxHeartbeats 4000000
namespace Wg
open L2
open TL (numL joinL)
abbrev S (n : Nat) (f : Nat) : FS := Sem prog (fun _ => .non) n f
def IOk (x : M) : Prop := x = .non ∨ ∃ i : Int, x = .int i ∧ i.natAbs < 10 ^ 12
def itx : M → List Nat
  | .int i => intL i
  | _ => [63]
theorem item_ok {n : Nat} {h : MH} {Q : QE} {X : Exn → MH → Prop} {x : M} (hx : IOk x) (q : ∀ h', Gro h h' → Q (.str (itx x)) h') : S (n + 1) k_item_text [x] h Q X := by
  refine ⟨p_item_text, rfl, ?_⟩
  simp only [wF, p_item_text, startE]
  rcases hx with rfl | ⟨i, rfl, hi⟩
  · simp only [wSs, wS, wE, wEs, wAnd, wOr, wT, wAndT, wOrT, wO, wC, wI, setAll, w_add, w_adds, w_addt, w_addl, w_sub, w_mul, w_mull, w_div, w_mod, w_pow, w_shl, w_eq, w_ne, w_in, w_nin, w_lt, w_le, w_gt, w_ge, w_is, w_isn, w_eqi, w_eqs, w_eqb, w_tn, w_tb, w_ti, w_tt, w_it, w_if, w_is', w_il, w_st, w_ss, w_sl, w_lent, w_lenf, w_lens, w_lenl, w_tupt, w_tupl, w_lstt, w_lstl, w_stri, w_strs, w_inti, w_intb, w_min2, w_max2, w_abs, w_all, w_any, w_sum, w_join, w_app, w_ext, w_pop, w_tyj, w_tya, w_tye, w_typ, w_isin, w_isib, w_isii, w_isis, w_isit, w_ont, w_onf, w_ons, w_onl, w_rng1, w_rng2, w_nm, w_tp, Option.some.injEq, exists_eq_left', exists_eq_left, exists_eq, exists_eq', List.getElem?_cons_zero, List.getElem?_cons_succ, List.set_cons_zero, List.set_cons_succ, List.map_cons, List.map_nil, List.cons_append, List.nil_append, List.length_cons, List.length_nil, M.int.injEq, M.ref.injEq, M.str.injEq, M.bl.injEq, M.tup.injEq, List.replicate, Nat.reduceSub, Nat.reduceAdd, true_and, and_true, exists_and_left, exists_and_right, at_0, at_1, at_2, at_3, at_4, Nat.reduceLT, List.length_set, MO.lst.injEq, ix_0, ix_1, ix_2, beq_iff_eq, reduceCtorEq, if_true, if_false, ite_true, ite_false, getL_new, wipeE, Bool.false_eq_true, decide_true, decide_false, Bool.not_true, Bool.not_false]
    exact q h (.refl h)
  · simp only [wSs, wS, wE, wEs, wAnd, wOr, wT, wAndT, wOrT, wO, wC, wI, setAll, w_add, w_adds, w_addt, w_addl, w_sub, w_mul, w_mull, w_div, w_mod, w_pow, w_shl, w_eq, w_ne, w_in, w_nin, w_lt, w_le, w_gt, w_ge, w_is, w_isn, w_eqi, w_eqs, w_eqb, w_tn, w_tb, w_ti, w_tt, w_it, w_if, w_is', w_il, w_st, w_ss, w_sl, w_lent, w_lenf, w_lens, w_lenl, w_tupt, w_tupl, w_lstt, w_lstl, w_stri, w_strs, w_inti, w_intb, w_min2, w_max2, w_abs, w_all, w_any, w_sum, w_join, w_app, w_ext, w_pop, w_tyj, w_tya, w_tye, w_typ, w_isin, w_isib, w_isii, w_isis, w_isit, w_ont, w_onf, w_ons, w_onl, w_rng1, w_rng2, w_nm, w_tp, Option.some.injEq, exists_eq_left', exists_eq_left, exists_eq, exists_eq', List.getElem?_cons_zero, List.getElem?_cons_succ, List.set_cons_zero, List.set_cons_succ, List.map_cons, List.map_nil, List.cons_append, List.nil_append, List.length_cons, List.length_nil, M.int.injEq, M.ref.injEq, M.str.injEq, M.bl.injEq, M.tup.injEq, List.replicate, Nat.reduceSub, Nat.reduceAdd, true_and, and_true, exists_and_left, exists_and_right, at_0, at_1, at_2, at_3, at_4, Nat.reduceLT, List.length_set, MO.lst.injEq, ix_0, ix_1, ix_2, beq_iff_eq, reduceCtorEq, if_true, if_false, ite_true, ite_false, getL_new, wipeE, Bool.false_eq_true, decide_true, decide_false, Bool.not_true, Bool.not_false]
    exact ⟨log2_ok (Nat.lt_trans hi (by decide)), q h (.refl h)⟩
theorem itx_len {x : M} (hx : IOk x) : (itx x).length ≤ 13 := by
  rcases hx with rfl | ⟨i, rfl, hi⟩
  · decide
  · exact intL_len (k := 12) (by decide) hi
inductive JB where
  | deeds (ds : List DD) | sums (xs : List M) | nums (w : List Nat) (is : List Int)
def JB.m : JB → M
  | .deeds ds => .tup [.str [100, 101, 101, 100, 115], .tup (ds.map DD.m)]
  | .sums xs => .tup [.str [115, 117, 109, 115], .tup xs]
  | .nums w is => .tup (.str w :: is.map M.int)
def JB.ok : JB → Prop
  | .deeds ds => ds.length ≤ 12 ∧ ∀ d ∈ ds, d.ok
  | .sums xs => xs.length ≤ 8 ∧ ∀ x ∈ xs, IOk x
  | .nums w is => w ≠ [100, 101, 101, 100, 115] ∧ w ≠ [115, 117, 109, 115] ∧ w.length ≤ 6 ∧ is.length ≤ 2 ∧ ∀ i ∈ is, i.natAbs < 10 ^ 12
def JB.t : JB → List Nat
  | .deeds [] => [104, 97, 110, 100, 32, 100, 101, 101, 100, 115]
  | .deeds ds => [104, 97, 110, 100, 32, 100, 101, 101, 100, 115] ++ [32] ++ joinL [44, 32] (ds.map DD.t)
  | .sums xs => joinL [32] ([104, 97, 110, 100, 32, 115, 117, 109, 115] :: xs.map itx)
  | .nums w is => joinL [32] ([104, 97, 110, 100] :: w :: is.map intL)
theorem words_at : At prog k_words_text 2 wordsB := ⟨p_words_text, rfl, rfl, rfl⟩
theorem val_at : At prog k_value_text 2 (valB k_value_text) := ⟨p_value_text, rfl, rfl, rfl⟩
theorem deed_at : At prog k_deed_text 1 (deedB (.cst (.str [108, 111, 111, 107])) k_value_text) := ⟨p_deed_text, rfl, rfl, rfl⟩
theorem val_at' : At prog k_law_value_text 2 (valB k_law_value_text) := ⟨p_law_value_text, rfl, rfl, rfl⟩
theorem deed_at' : At prog k_law_deed_text 1 (deedB (.idx (.var 0) (.cst (.int 0))) k_law_value_text) := ⟨p_law_deed_text, rfl, rfl, rfl⟩
theorem comp_map {α : Type} {chk : MH → Prop} {bnd : M → Option Env} {elt : WE} {R : List M → MH → Prop} {ys : List α} {h : MH} (m g : α → M) (hc : ∀ h', Gro h h' → chk h')
    (el : ∀ x ∈ ys, ∀ h1 (Q : QE), Gro h h1 → (∀ h2, Gro h1 h2 → Q (g x) h2) → ∃ env, bnd (m x) = some env ∧ elt env h1 Q (fun _ _ => False)) (q : ∀ h', Gro h h' → R (ys.map g) h') :
    compL chk bnd (fun _ h Q _ => Q true h) elt (fun _ _ => False) (ys.map m) [] h R := by
  refine comp_inv (fun i acc h1 => acc = (ys.take i).map g ∧ Gro h h1) ⟨by simp, .refl h⟩ (fun _ _ _ j => hc _ j.2) (fun acc h2 ⟨ha, g2⟩ => ?_) fun i x acc h1 R' hx ⟨ha, g1⟩ k => ?_
  · rw [List.length_map, List.take_length] at ha
    subst ha; exact q h2 g2
  · rw [List.getElem?_map] at hx
    cases hy : ys[i]? with
    | none => rw [hy] at hx; cases hx
    | some y =>
      rw [hy] at hx
      cases hx
      obtain ⟨env, e1, e2⟩ := el y (mem_of_get hy) h1 (fun y h2 => R' (acc ++ [y]) h2) g1 fun h2 g2 => k _ h2 ⟨by rw [take_snoc hy, List.map_append, ha]; rfl, g1.trans g2⟩
      exact ⟨env, e1, e2⟩
theorem Gro.at {h h' : MH} {o : MO} (g : Gro (h ++ [o]) h') : h'[h.length]? = some o := g.get get_new
theorem Gro.skip {h h' : MH} {o : MO} (g : Gro (h ++ [o]) h') : Gro h h' := .trans (.app _ _) g
theorem Gro.add {h h' : MH} (g : Gro h h') (t : MH) : Gro h (h' ++ t) := g.trans (.app _ _)
theorem deeds_len {ds : List DD} (hj : ∀ d ∈ ds, d.ok) : ∀ x ∈ ds.map DD.t, x.length ≤ 8000 := fun x hx => by
  obtain ⟨d, hd, rfl⟩ := List.mem_map.mp hx
  exact DD.len (hj d hd)
theorem items_len {xs : List M} (hj : ∀ x ∈ xs, IOk x) : ∀ x ∈ xs.map itx, x.length ≤ 13 := fun x hx => by
  obtain ⟨d, hd, rfl⟩ := List.mem_map.mp hx
  exact itx_len (hj d hd)
theorem nums_len {is : List Int} (hj : ∀ i ∈ is, i.natAbs < 10 ^ 12) : ∀ x ∈ is.map intL, x.length ≤ 13 := fun x hx => by
  obtain ⟨d, hd, rfl⟩ := List.mem_map.mp hx
  exact intL_len (k := 12) (by decide) (hj d hd)
theorem map_wI (is : List Int) : (is.map M.int).map wtxt = is.map intL := by rw [List.map_map]; rfl
theorem map_wS (is : List M) : (is.map fun x => M.str (itx x)).map wtxt = is.map itx := by rw [List.map_map]; rfl
theorem job_ok {n : Nat} {h : MH} {Q : QE} {X : Exn → MH → Prop} {j : JB} (hj : j.ok) (q : ∀ h', Gro h h' → Q (.str j.t) h') : S (n + 6) k_job_text [j.m] h Q X := by
  refine ⟨p_job_text, rfl, ?_⟩
  simp only [wF, p_job_text, startE]
  have e1 : (([115, 117, 109, 115] : List Nat) = [100, 101, 101, 100, 115]) = False := by simp
  have hsz := sizeL
  cases j with
  | deeds ds =>
    simp only [wSs, wS, wE, wEs, wAnd, wOr, wT, wAndT, wOrT, wO, wC, wI, setAll, w_add, w_adds, w_addt, w_addl, w_sub, w_mul, w_mull, w_div, w_mod, w_pow, w_shl, w_eq, w_ne, w_in, w_nin, w_lt, w_le, w_gt, w_ge, w_is, w_isn, w_eqi, w_eqs, w_eqb, w_tn, w_tb, w_ti, w_tt, w_it, w_if, w_is', w_il, w_st, w_ss, w_sl, w_lent, w_lenf, w_lens, w_lenl, w_tupt, w_tupl, w_lstt, w_lstl, w_stri, w_strs, w_inti, w_intb, w_min2, w_max2, w_abs, w_all, w_any, w_sum, w_join, w_app, w_ext, w_pop, w_tyj, w_tya, w_tye, w_typ, w_isin, w_isib, w_isii, w_isis, w_isit, w_ont, w_onf, w_ons, w_onl, w_rng1, w_rng2, w_nm, w_tp, Option.some.injEq, exists_eq_left', exists_eq_left, exists_eq, exists_eq', List.getElem?_cons_zero, List.getElem?_cons_succ, List.set_cons_zero, List.set_cons_succ, List.map_cons, List.map_nil, List.cons_append, List.nil_append, List.length_cons, List.length_nil, M.int.injEq, M.ref.injEq, M.str.injEq, M.bl.injEq, M.tup.injEq, List.replicate, Nat.reduceSub, Nat.reduceAdd, true_and, and_true, exists_and_left, exists_and_right, at_0, at_1, at_2, at_3, at_4, Nat.reduceLT, List.length_set, MO.lst.injEq, ix_0, ix_1, ix_2, beq_iff_eq, reduceCtorEq, if_true, if_false, ite_true, ite_false, getL_new, wipeE, Bool.false_eq_true, decide_true, decide_false, Bool.not_true, Bool.not_false, JB.m]
    refine comp_map (ys := ds) DD.m (fun d => .str d.t) (fun _ _ => trivial) (fun d hd h1 R g k => ?_) fun h2 g => ?_
    · exact ⟨_, rfl, _, rfl, deed_ok (.inl rfl) deed_at val_at (hj.2 d hd) k⟩
    · have hl := deeds_len hj.2
      have hn : (ds.map DD.t).length ≤ 12 := by rw [List.length_map]; exact hj.1
      have hs := line_join (S := [44, 32]) hl hn (by decide)
      have ht := joinL_len [44, 32] _ _ hl
      refine ⟨ds.map DD.t, strs_mapS DD.t, hs, _, get_new, ?_⟩
      cases ds with
      | nil =>
        simp only [List.map_nil, List.length_nil]
        refine ⟨by decide, by decide, by decide, _, ((g.add _).add _).add _ |>.at, _, get_new, by simp [hsz], ?_⟩
        refine words_ok words_at (ws := [.str [104, 97, 110, 100, 32, 100, 101, 101, 100, 115]]) (by intro w hw; simp at hw; subst hw; trivial) (by decide) (.inr ⟨_, rfl, get_new⟩) fun h' g' => ?_
        exact q h' (((((g.add _).add _).add _).add _).trans g').skip
      | cons d ds =>
        have e : (if (((List.map DD.m (d :: ds)).length : Nat) : Int) < 1 then (((List.map DD.m (d :: ds)).length : Nat) : Int) else 1) = 1 := by
          rw [if_neg]; simp only [List.map_cons, List.length_cons]; omega
        rw [e]
        refine ⟨by decide, by decide, by simp [hsz], _, ((g.add _).add _).add _ |>.at, _, get_new, by simp [hsz], ?_⟩
        have hb : (joinL [44, 32] (List.map DD.t (d :: ds))).length ≤ 12 * 8002 := Nat.le_trans ht (Nat.mul_le_mul hn (Nat.le_refl _))
        refine words_ok words_at (ws := [.str [104, 97, 110, 100, 32, 100, 101, 101, 100, 115], .str (joinL [44, 32] (List.map DD.t (d :: ds)))]) (by intro w hw; simp at hw; rcases hw with rfl | rfl <;> trivial) ?_ (.inr ⟨_, rfl, get_new⟩) fun h' g' => ?_
        · simp only [List.map_cons, List.map_nil, wtxt, List.sum_cons, List.sum_nil, List.length_cons, List.length_nil] at hb ⊢
          omega
        · exact q h' (((((g.add _).add _).add _).add _).trans g').skip
  | sums xs =>
    simp only [wSs, wS, wE, wEs, wAnd, wOr, wT, wAndT, wOrT, wO, wC, wI, setAll, w_add, w_adds, w_addt, w_addl, w_sub, w_mul, w_mull, w_div, w_mod, w_pow, w_shl, w_eq, w_ne, w_in, w_nin, w_lt, w_le, w_gt, w_ge, w_is, w_isn, w_eqi, w_eqs, w_eqb, w_tn, w_tb, w_ti, w_tt, w_it, w_if, w_is', w_il, w_st, w_ss, w_sl, w_lent, w_lenf, w_lens, w_lenl, w_tupt, w_tupl, w_lstt, w_lstl, w_stri, w_strs, w_inti, w_intb, w_min2, w_max2, w_abs, w_all, w_any, w_sum, w_join, w_app, w_ext, w_pop, w_tyj, w_tya, w_tye, w_typ, w_isin, w_isib, w_isii, w_isis, w_isit, w_ont, w_onf, w_ons, w_onl, w_rng1, w_rng2, w_nm, w_tp, Option.some.injEq, exists_eq_left', exists_eq_left, exists_eq, exists_eq', List.getElem?_cons_zero, List.getElem?_cons_succ, List.set_cons_zero, List.set_cons_succ, List.map_cons, List.map_nil, List.cons_append, List.nil_append, List.length_cons, List.length_nil, M.int.injEq, M.ref.injEq, M.str.injEq, M.bl.injEq, M.tup.injEq, List.replicate, Nat.reduceSub, Nat.reduceAdd, true_and, and_true, exists_and_left, exists_and_right, at_0, at_1, at_2, at_3, at_4, Nat.reduceLT, List.length_set, MO.lst.injEq, ix_0, ix_1, ix_2, beq_iff_eq, reduceCtorEq, if_true, if_false, ite_true, ite_false, getL_new, wipeE, Bool.false_eq_true, decide_true, decide_false, Bool.not_true, Bool.not_false, JB.m, e1]
    refine comp_pure (xs := xs) (fun x => .str (itx x)) (fun _ _ => trivial) (fun x hx h1 R g k => ?_) fun h2 g => ?_
    · exact ⟨_, rfl, _, rfl, item_ok (hj.2 x hx) k⟩
    · have hl := items_len hj.2
      have hn : (xs.map itx).length ≤ 8 := by rw [List.length_map]; exact hj.1
      have hs := sum_len_le _ _ hl
      have hs' : (xs.map itx).length * 13 ≤ 8 * 13 := Nat.mul_le_mul hn (Nat.le_refl _)
      have hn' := hj.1
      refine ⟨_, (g.add _).at, _, get_new, by simp only [List.length_map, List.length_cons, List.length_nil]; omega, ?_⟩
      refine words_ok words_at (ws := .str [104, 97, 110, 100, 32, 115, 117, 109, 115] :: xs.map fun x => .str (itx x)) ?_ ?_ (.inr ⟨_, rfl, get_new⟩) fun h' g' => ?_
      · intro w hw
        rcases List.mem_cons.mp hw with rfl | hw
        · trivial
        · obtain ⟨y, _, rfl⟩ := List.mem_map.mp hw
          trivial
      · rw [List.map_cons, map_wS]
        simp only [List.map_cons, List.sum_cons, List.length_cons, wtxt, List.length_map, List.length_nil] at hs hs' hn ⊢
        omega
      · rw [List.map_cons, map_wS]
        exact q h' (((g.add _).add _).trans g').skip
  | nums w is =>
    have e2 : (w = [100, 101, 101, 100, 115]) = False := by simpa using hj.1
    have e3 : (w = [115, 117, 109, 115]) = False := by simpa using hj.2.1
    simp only [wSs, wS, wE, wEs, wAnd, wOr, wT, wAndT, wOrT, wO, wC, wI, setAll, w_add, w_adds, w_addt, w_addl, w_sub, w_mul, w_mull, w_div, w_mod, w_pow, w_shl, w_eq, w_ne, w_in, w_nin, w_lt, w_le, w_gt, w_ge, w_is, w_isn, w_eqi, w_eqs, w_eqb, w_tn, w_tb, w_ti, w_tt, w_it, w_if, w_is', w_il, w_st, w_ss, w_sl, w_lent, w_lenf, w_lens, w_lenl, w_tupt, w_tupl, w_lstt, w_lstl, w_stri, w_strs, w_inti, w_intb, w_min2, w_max2, w_abs, w_all, w_any, w_sum, w_join, w_app, w_ext, w_pop, w_tyj, w_tya, w_tye, w_typ, w_isin, w_isib, w_isii, w_isis, w_isit, w_ont, w_onf, w_ons, w_onl, w_rng1, w_rng2, w_nm, w_tp, Option.some.injEq, exists_eq_left', exists_eq_left, exists_eq, exists_eq', List.getElem?_cons_zero, List.getElem?_cons_succ, List.set_cons_zero, List.set_cons_succ, List.map_cons, List.map_nil, List.cons_append, List.nil_append, List.length_cons, List.length_nil, M.int.injEq, M.ref.injEq, M.str.injEq, M.bl.injEq, M.tup.injEq, List.replicate, Nat.reduceSub, Nat.reduceAdd, true_and, and_true, exists_and_left, exists_and_right, at_0, at_1, at_2, at_3, at_4, Nat.reduceLT, List.length_set, MO.lst.injEq, ix_0, ix_1, ix_2, beq_iff_eq, reduceCtorEq, if_true, if_false, ite_true, ite_false, getL_new, wipeE, Bool.false_eq_true, decide_true, decide_false, Bool.not_true, Bool.not_false, JB.m, e2, e3]
    obtain ⟨_, _, hw6, hi2, hi⟩ := hj
    have hl := nums_len hi
    have hn : (is.map intL).length ≤ 2 := by rw [List.length_map]; exact hi2
    have hs := sum_len_le _ _ hl
    have hs' : (is.map intL).length * 13 ≤ 2 * 13 := Nat.mul_le_mul hn (Nat.le_refl _)
    refine ⟨by simp only [List.length_map, List.length_cons, List.length_nil]; omega, ?_⟩
    refine words_ok words_at (ws := .str [104, 97, 110, 100] :: .str w :: is.map M.int) ?_ ?_ (.inl rfl) fun h' g' => ?_
    · intro w hw
      rcases List.mem_cons.mp hw with rfl | hw
      · trivial
      rcases List.mem_cons.mp hw with rfl | hw
      · trivial
      · obtain ⟨y, hy, rfl⟩ := List.mem_map.mp hw
        exact Nat.lt_trans (hi y hy) (by decide)
    · simp only [List.map_cons, map_wI]
      simp only [List.map_cons, List.sum_cons, List.length_cons, wtxt, List.length_map, List.length_nil] at hs hs' hn ⊢
      omega
    · simp only [List.map_cons, map_wI]
      exact q h' g'
theorem JB.len {j : JB} (hj : j.ok) : j.t.length ≤ 100000 := by
  cases j with
  | deeds ds =>
    have ht := joinL_len [44, 32] _ _ (deeds_len hj.2)
    have hb : (joinL [44, 32] (List.map DD.t ds)).length ≤ 12 * 8002 := Nat.le_trans ht (Nat.mul_le_mul (by rw [List.length_map]; exact hj.1) (Nat.le_refl _))
    cases ds with
    | nil => simp [JB.t]
    | cons d ds =>
      simp only [JB.t, List.length_append, List.length_cons, List.length_nil]
      omega
  | sums xs =>
    have ht := joinL_len [32] 13 (.cons [104, 97, 110, 100, 32, 115, 117, 109, 115] (xs.map itx)) fun x hx => by
      rcases List.mem_cons.mp hx with rfl | hx
      · simp
      · exact items_len hj.2 x hx
    have hb := Nat.le_trans ht (Nat.mul_le_mul (show (List.cons [104, 97, 110, 100, 32, 115, 117, 109, 115] (xs.map itx)).length ≤ 9 by simpa using hj.1) (Nat.le_refl _))
    simp only [JB.t]
    exact Nat.le_trans hb (by decide)
  | nums w is =>
    obtain ⟨_, _, hw6, hi2, hi⟩ := hj
    have ht := joinL_len [32] 13 ([104, 97, 110, 100] :: w :: is.map intL) fun x hx => by
      rcases List.mem_cons.mp hx with rfl | hx
      · simp
      rcases List.mem_cons.mp hx with rfl | hx
      · omega
      · exact nums_len hi x hx
    have hb := Nat.le_trans ht (Nat.mul_le_mul (show ([104, 97, 110, 100] :: w :: is.map intL).length ≤ 4 by simpa using hi2) (Nat.le_refl _))
    simp only [JB.t]
    exact Nat.le_trans hb (by decide)
structure CS where
  w : List Nat
  is : List Int
  js : List JB
  ws : List Int
structure CS.ok (c : CS) : Prop where
  w : c.w.length ≤ 6
  i1 : c.is.length ≤ 5
  i2 : ∀ i ∈ c.is, i.natAbs < 10 ^ 12
  j1 : c.js.length ≤ 5
  j2 : ∀ j ∈ c.js, j.ok
  w1 : c.ws.length ≤ 300
  w2 : ∀ i ∈ c.ws, i.natAbs < 10 ^ 12
def CS.m1 (c : CS) : M := .tup (.str c.w :: c.is.map M.int)
def CS.m2 (c : CS) : M := .tup (c.js.map JB.m)
def CS.m3 (c : CS) : M := .tup (c.ws.map M.int)
def CS.t1 (c : CS) : List Nat := joinL [32] ([109, 97, 110, 110, 101, 114] :: c.w :: c.is.map intL)
def CS.t3 (c : CS) : List Nat := joinL [32] ([119, 101, 97, 118, 101] :: c.ws.map intL)
def CS.rows (c : CS) : List (List Nat) := c.t1 :: (c.js.map JB.t ++ [c.t3])
theorem t1_len {c : CS} (ok : c.ok) : c.t1.length ≤ 100 := by
  have ht := joinL_len [32] 13 ([109, 97, 110, 110, 101, 114] :: c.w :: c.is.map intL) fun x hx => by
    have := ok.w
    rcases List.mem_cons.mp hx with rfl | hx
    · simp
    rcases List.mem_cons.mp hx with rfl | hx
    · omega
    · exact nums_len ok.i2 x hx
  have hb := Nat.le_trans ht (Nat.mul_le_mul (show ([109, 97, 110, 110, 101, 114] :: c.w :: c.is.map intL).length ≤ 7 by simpa using ok.i1) (Nat.le_refl _))
  exact Nat.le_trans hb (by decide)
theorem t3_len {c : CS} (ok : c.ok) : c.t3.length ≤ 5000 := by
  have ht := joinL_len [32] 13 ([119, 101, 97, 118, 101] :: c.ws.map intL) fun x hx => by
    rcases List.mem_cons.mp hx with rfl | hx
    · simp
    · exact nums_len ok.w2 x hx
  have hb := Nat.le_trans ht (Nat.mul_le_mul (show ([119, 101, 97, 118, 101] :: c.ws.map intL).length ≤ 301 by simpa using ok.w1) (Nat.le_refl _))
  exact Nat.le_trans hb (by decide)
theorem rows_len {c : CS} (ok : c.ok) : (∀ x ∈ c.rows, x.length ≤ 100000) ∧ c.rows.length ≤ 7 := by
  have h1 := t1_len ok
  have h3 := t3_len ok
  have hj := ok.j1
  refine ⟨fun x hx => ?_, by simp only [CS.rows, List.length_cons, List.length_append, List.length_map, List.length_nil]; omega⟩
  rcases List.mem_cons.mp hx with rfl | hx
  · omega
  rcases List.mem_append.mp hx with hx | hx
  · obtain ⟨j, hj, rfl⟩ := List.mem_map.mp hx
    exact JB.len (ok.j2 j hj)
  · simp only [List.mem_singleton] at hx
    subst hx; omega
theorem Gro.set {h h' : MH} {k : Nat} {o : MO} (g : Gro h h') (l : h.length ≤ k) : Gro h (h'.set k o) := by
  obtain ⟨t, rfl⟩ := g
  exact ⟨t.set (k - h.length) o, List.set_append_right (s := h) k o l⟩
theorem show_ok {n : Nat} {h : MH} {Q : QE} {X : Exn → MH → Prop} {c : CS} (ok : c.ok) (q : ∀ h', Gro h h' → Q (.str (joinL [10] c.rows)) h') : S (n + 7) k_show_case [c.m1, c.m2, c.m3] h Q X := by
  refine ⟨p_show_case, rfl, ?_⟩
  have hsz := sizeL
  simp only [wF, p_show_case, startE]
  simp only [wSs, wS, wE, wEs, wAnd, wOr, wT, wAndT, wOrT, wO, wC, wI, setAll, w_add, w_adds, w_addt, w_addl, w_sub, w_mul, w_mull, w_div, w_mod, w_pow, w_shl, w_eq, w_ne, w_in, w_nin, w_lt, w_le, w_gt, w_ge, w_is, w_isn, w_eqi, w_eqs, w_eqb, w_tn, w_tb, w_ti, w_tt, w_it, w_if, w_is', w_il, w_st, w_ss, w_sl, w_lent, w_lenf, w_lens, w_lenl, w_tupt, w_tupl, w_lstt, w_lstl, w_stri, w_strs, w_inti, w_intb, w_min2, w_max2, w_abs, w_all, w_any, w_sum, w_join, w_app, w_ext, w_pop, w_tyj, w_tya, w_tye, w_typ, w_isin, w_isib, w_isii, w_isis, w_isit, w_ont, w_onf, w_ons, w_onl, w_rng1, w_rng2, w_nm, w_tp, Option.some.injEq, exists_eq_left', exists_eq_left, exists_eq, exists_eq', List.getElem?_cons_zero, List.getElem?_cons_succ, List.set_cons_zero, List.set_cons_succ, List.map_cons, List.map_nil, List.cons_append, List.nil_append, List.length_cons, List.length_nil, M.int.injEq, M.ref.injEq, M.str.injEq, M.bl.injEq, M.tup.injEq, List.replicate, Nat.reduceSub, Nat.reduceAdd, true_and, and_true, exists_and_left, exists_and_right, at_0, at_1, at_2, at_3, at_4, Nat.reduceLT, List.length_set, MO.lst.injEq, ix_0, ix_1, ix_2, beq_iff_eq, reduceCtorEq, if_true, if_false, ite_true, ite_false, getL_new, wipeE, Bool.false_eq_true, decide_true, decide_false, Bool.not_true, Bool.not_false, CS.m1, CS.m2, CS.m3]
  have hi1 := ok.i1
  have hw := ok.w
  have l1 := nums_len ok.i2
  have s1 := sum_len_le _ _ l1
  have s1' : (c.is.map intL).length * 13 ≤ 5 * 13 := Nat.mul_le_mul (by rw [List.length_map]; exact hi1) (Nat.le_refl _)
  have l3 := nums_len ok.w2
  have s3 := sum_len_le _ _ l3
  have s3' : (c.ws.map intL).length * 13 ≤ 300 * 13 := Nat.mul_le_mul (by rw [List.length_map]; exact ok.w1) (Nat.le_refl _)
  have hw1 := ok.w1
  have hj1 := ok.j1
  refine ⟨by simp only [List.length_map, List.length_cons, List.length_nil]; omega, ?_⟩
  refine words_ok words_at (ws := .str [109, 97, 110, 110, 101, 114] :: .str c.w :: c.is.map M.int) ?_ ?_ (.inl rfl) fun h1 g1 => ?_
  · intro w hw
    rcases List.mem_cons.mp hw with rfl | hw
    · trivial
    rcases List.mem_cons.mp hw with rfl | hw
    · trivial
    · obtain ⟨y, hy, rfl⟩ := List.mem_map.mp hw
      exact Nat.lt_trans (ok.i2 y hy) (by decide)
  · simp only [List.map_cons, map_wI]
    simp only [List.map_cons, List.sum_cons, List.length_cons, wtxt, List.length_map, List.length_nil] at s1 s1' ⊢
    omega
  have e1 : joinL [32] (List.map wtxt (M.str [109, 97, 110, 110, 101, 114] :: M.str c.w :: List.map M.int c.is)) = c.t1 := by
    simp only [List.map_cons, map_wI, wtxt]; rfl
  have e3 : joinL [32] (List.map wtxt (M.str [119, 101, 97, 118, 101] :: List.map M.int c.ws)) = c.t3 := by
    simp only [List.map_cons, map_wI, wtxt]; rfl
  rw [e1]
  refine ⟨rfl, ?_⟩
  refine comp_map (ys := c.js) JB.m (fun d => .str d.t) (fun _ _ => trivial) (fun d hd h1 R g k => ?_) fun h2 g2 => ?_
  · exact ⟨_, rfl, _, rfl, job_ok (ok.j2 d hd) k⟩
  have g3 := (g2.add [.lst (c.js.map fun d => .str d.t)]).at
  refine ⟨_, g3, _, get_new, by simp only [List.length_map, List.length_cons, List.length_nil]; omega, by rw [getL_set g3]; rfl, by rw [List.length_map]; omega, ?_⟩
  refine words_ok words_at (ws := .str [119, 101, 97, 118, 101] :: c.ws.map M.int) ?_ ?_ (.inl rfl) fun h4 g4 => ?_
  · intro w hw
    rcases List.mem_cons.mp hw with rfl | hw
    · trivial
    · obtain ⟨y, hy, rfl⟩ := List.mem_map.mp hw
      exact Nat.lt_trans (ok.w2 y hy) (by decide)
  · simp only [List.map_cons, map_wI]
    simp only [List.map_cons, List.sum_cons, List.length_cons, wtxt, List.length_map, List.length_nil] at s3 s3' ⊢
    omega
  have g5 := g4.get (set_self g3)
  rw [e3]
  obtain ⟨r1, r2⟩ := rows_len ok
  have er : strsM (([M.str c.t1] ++ c.js.map fun d => M.str d.t) ++ [M.str c.t3]) = some c.rows := by
    have : (([M.str c.t1] ++ c.js.map fun d => M.str d.t) ++ [M.str c.t3]) = c.rows.map M.str := by
      simp only [CS.rows, List.map_cons, List.map_append, List.map_map, List.map_nil]
      rfl
    rw [this, strs_str]
  refine ⟨_, g5, by simp only [List.length_map, List.length_cons, List.length_nil, List.length_append]; omega, _, getL_set g5, c.rows, er, line_join (S := [10]) r1 r2 (by decide), ?_⟩
  refine q _ ((((g1.add _).trans (g2.add _)).set ?_ |>.trans g4).set ?_)
  · obtain ⟨t, rfl⟩ := g1; simp
  · obtain ⟨t, rfl⟩ := g1; simp
end Wg
open PySem PySem.Spec PyProof.Rows
set_option linter.all false
set_option Elab.async false
set_option maxRecDepth 100000
set_option maxHeartbeats 4000000
namespace Wg
open L2
open TL (numL joinL)
theorem cut_1 {α : Type} {x : α} {xs : List α} : cutL (x :: xs) (some 1) none = xs := by
  unfold cutL
  have e : HT.sIx (x :: xs).length 0 (some 1) = 1 := by
    rw [show (some (1 : Int)) = some ((1 : Nat) : Int) from rfl, HT.sIx_nat]
    simp only [List.length_cons]; omega
  rw [e, HT.sIx_none]
  simp
theorem Vd.dt : ∀ (n m : Nat) (v : M), n ≤ m → Vd n v → M.dt m v = true
  | n, m, .int i, hn, hv => by cases m <;> rfl
  | 0, m, .tup _, hn, hv => hv.elim
  | n + 1, m + 1, .tup xs, hn, hv => by
    show xs.all (M.dt m) = true
    rw [List.all_eq_true]
    exact fun x hx => Vd.dt n m x (by omega) (hv.2 x hx)
  | n + 1, 0, .tup xs, hn, hv => by omega
  | n, m, .non, hn, hv => by cases n <;> exact hv.elim
  | n, m, .bl _, hn, hv => by cases n <;> exact hv.elim
  | n, m, .str _, hn, hv => by cases n <;> exact hv.elim
  | n, m, .ref _, hn, hv => by cases n <;> exact hv.elim
  | n, m, .fz _, hn, hv => by cases n <;> exact hv.elim
theorem DD.dt {d : DD} (h : d.ok) : M.dt 59 d.m = true := by
  cases d with
  | look => decide +kernel
  | put k v =>
    show (M.dt 58 (.str [112, 117, 116]) && (M.dt 58 (.int k) && (M.dt 58 v && true))) = true
    rw [Vd.dt 3 58 v (by decide) h.2]
    rw [show M.dt 58 (.str [112, 117, 116]) = true by decide +kernel]
    rfl
theorem deeds_eq {h : MH} {ds : List DD} (hd : ∀ d ∈ ds, d.ok) : eqV h (.tup (ds.map DD.m)) (.tup []) = some (decide (ds.map DD.m = [])) := by
  have e : M.dt 60 (.tup (ds.map DD.m)) = true := by
    show (ds.map DD.m).all (M.dt 59) = true
    rw [List.all_eq_true]
    intro x hx
    obtain ⟨d, hd', rfl⟩ := List.mem_map.mp hx
    exact DD.dt (hd d hd')
  have e2 : M.dt 60 (.tup []) = true := rfl
  show (if M.dt 60 (.tup (ds.map DD.m)) && M.dt 60 (.tup []) then some (decide (M.tup (ds.map DD.m) = M.tup [])) else none) = _
  rw [e, e2]
  simp
theorem flat_cons (p : List Nat) (l : List (List Nat)) : joinL [32] (p :: l) = p ++ joinL [] (l.map (32 :: ·)) := by
  rw [joinL_cons, joinL_nil]; rfl
theorem rows_ok {n : Nat} {h : MH} {Q : QE} {X : Exn → MH → Prop} {c : CS} (ok : c.ok) (q : ∀ a h', Gro h h' → h'[a]? = some (.lst (c.rows.map M.str)) → Q (.ref a) h') : S (n + 7) k_law_rows [.tup [c.m1, c.m2, c.m3]] h Q X := by
  refine ⟨p_law_rows, rfl, ?_⟩
  have hsz := sizeL
  simp only [wF, p_law_rows, startE]
  simp only [wSs, wS, wE, wEs, wAnd, wOr, wT, wAndT, wOrT, wO, wC, wI, setAll, w_add, w_adds, w_addt, w_addl, w_sub, w_mul, w_mull, w_div, w_mod, w_pow, w_shl, w_eq, w_ne, w_in, w_nin, w_lt, w_le, w_gt, w_ge, w_is, w_isn, w_eqi, w_eqs, w_eqb, w_tn, w_tb, w_ti, w_tt, w_it, w_if, w_is', w_il, w_st, w_ss, w_sl, w_lent, w_lenf, w_lens, w_lenl, w_tupt, w_tupl, w_lstt, w_lstl, w_stri, w_strs, w_inti, w_intb, w_min2, w_max2, w_abs, w_all, w_any, w_sum, w_join, w_app, w_ext, w_pop, w_tyj, w_tya, w_tye, w_typ, w_isin, w_isib, w_isii, w_isis, w_isit, w_ont, w_onf, w_ons, w_onl, w_rng1, w_rng2, w_nm, w_tp, Option.some.injEq, exists_eq_left', exists_eq_left, exists_eq, exists_eq', List.getElem?_cons_zero, List.getElem?_cons_succ, List.set_cons_zero, List.set_cons_succ, List.map_cons, List.map_nil, List.cons_append, List.nil_append, List.length_cons, List.length_nil, M.int.injEq, M.ref.injEq, M.str.injEq, M.bl.injEq, M.tup.injEq, List.replicate, Nat.reduceSub, Nat.reduceAdd, true_and, and_true, exists_and_left, exists_and_right, at_0, at_1, at_2, at_3, at_4, Nat.reduceLT, List.length_set, MO.lst.injEq, ix_0, ix_1, ix_2, beq_iff_eq, reduceCtorEq, if_true, if_false, ite_true, ite_false, getL_new, wipeE, Bool.false_eq_true, decide_true, decide_false, Bool.not_true, Bool.not_false, CS.m1, CS.m2, CS.m3, cut_1]
  have hi1 := ok.i1
  have hw := ok.w
  have l1 := nums_len ok.i2
  have l3 := nums_len ok.w2
  have hw1 := ok.w1
  have hj1 := ok.j1
  refine comp_map (ys := c.is) M.int (fun i => .str (intL i)) (fun _ _ => trivial) (fun d hd h1 R g k => ?_) fun h2 g2 => ?_
  · exact ⟨_, rfl, _, rfl, log2_ok (Nat.lt_trans (ok.i2 d hd) (by decide)), k h1 (.refl h1)⟩
  refine ⟨_, (g2.add _).at, _, get_new, by simp only [List.length_map, List.length_cons, List.length_nil]; omega, [109, 97, 110, 110, 101, 114] :: c.w :: c.is.map intL, ?_, ?_, ?_⟩
  · show strsM (([109, 97, 110, 110, 101, 114] :: c.w :: []).map M.str ++ c.is.map fun i => M.str (intL i)) = _
    have : (([109, 97, 110, 110, 101, 114] :: c.w :: []).map M.str ++ c.is.map fun i => M.str (intL i)) = ([109, 97, 110, 110, 101, 114] :: c.w :: c.is.map intL).map M.str := by
      simp only [List.map_cons, List.map_nil, List.cons_append, List.nil_append, List.map_map]; rfl
    rw [this, strs_str]
  · refine line_join (S := [32]) (B := 13) (n := 7) (fun x hx => ?_) (by simp only [List.length_map, List.length_cons]; omega) (by decide)
    rcases List.mem_cons.mp hx with rfl | hx
    · simp
    rcases List.mem_cons.mp hx with rfl | hx
    · omega
    · exact l1 x hx
  generalize hH : h2 ++ [MO.lst (c.is.map fun i => M.str (intL i))] ++ [MO.lst ([M.str [109, 97, 110, 110, 101, 114], M.str c.w] ++ c.is.map fun i => M.str (intL i))] = H
  have gH : Gro h H := by subst hH; exact ((g2.skip.add _).add _)
  change forL _ _ _ _ _ _ _ (H ++ [MO.lst [M.str c.t1]])
  generalize hr : H.length = r
  have hrl : h.length ≤ r := by obtain ⟨t, rfl⟩ := gH; simp at hr; omega
  refine for_inv (fun i e h' => ∃ a5 a6, e = [some (M.tup [M.tup (M.str c.w :: List.map M.int c.is), M.tup (List.map JB.m c.js), M.tup (List.map M.int c.ws)]), some (M.tup (M.str c.w :: List.map M.int c.is)), some (M.tup (List.map JB.m c.js)), some (M.tup (List.map M.int c.ws)), some (M.ref r), a5, a6, none, none, none, none] ∧ Gro h h' ∧ h'[r]? = some (.lst ((c.t1 :: (c.js.take i).map JB.t).map M.str)))
    ⟨none, none, rfl, gH.add _, by subst hr; exact get_new⟩ (fun _ _ _ _ => trivial) (fun e h' ⟨a5, a6, he, g', hr'⟩ => ?_) fun i x e h' N hx ⟨a5, a6, he, g', hr'⟩ k => ?_
  · subst he
    simp only [wSs, wS, wE, wEs, wAnd, wOr, wT, wAndT, wOrT, wO, wC, wI, setAll, w_add, w_adds, w_addt, w_addl, w_sub, w_mul, w_mull, w_div, w_mod, w_pow, w_shl, w_eq, w_ne, w_in, w_nin, w_lt, w_le, w_gt, w_ge, w_is, w_isn, w_eqi, w_eqs, w_eqb, w_tn, w_tb, w_ti, w_tt, w_it, w_if, w_is', w_il, w_st, w_ss, w_sl, w_lent, w_lenf, w_lens, w_lenl, w_tupt, w_tupl, w_lstt, w_lstl, w_stri, w_strs, w_inti, w_intb, w_min2, w_max2, w_abs, w_all, w_any, w_sum, w_join, w_app, w_ext, w_pop, w_tyj, w_tya, w_tye, w_typ, w_isin, w_isib, w_isii, w_isis, w_isit, w_ont, w_onf, w_ons, w_onl, w_rng1, w_rng2, w_nm, w_tp, Option.some.injEq, exists_eq_left', exists_eq_left, exists_eq, exists_eq', List.getElem?_cons_zero, List.getElem?_cons_succ, List.set_cons_zero, List.set_cons_succ, List.map_cons, List.map_nil, List.cons_append, List.nil_append, List.length_cons, List.length_nil, M.int.injEq, M.ref.injEq, M.str.injEq, M.bl.injEq, M.tup.injEq, List.replicate, Nat.reduceSub, Nat.reduceAdd, true_and, and_true, exists_and_left, exists_and_right, at_0, at_1, at_2, at_3, at_4, Nat.reduceLT, List.length_set, MO.lst.injEq, ix_0, ix_1, ix_2, beq_iff_eq, reduceCtorEq, if_true, if_false, ite_true, ite_false, getL_new, wipeE, Bool.false_eq_true, decide_true, decide_false, Bool.not_true, Bool.not_false]
    refine comp_map (ys := c.ws) M.int (fun i => .str (32 :: intL i)) (fun _ _ => trivial) (fun d hd h1 R g k => ?_) fun h3 g3 => ?_
    · have := l3 _ (List.mem_map_of_mem hd)
      exact ⟨_, rfl, _, rfl, log2_ok (Nat.lt_trans (ok.w2 d hd) (by decide)), by simp only [List.length_cons, List.length_nil]; omega, k h1 (.refl h1)⟩
    have l4 : ∀ x ∈ (c.ws.map fun i => 32 :: intL i), x.length ≤ 14 := fun x hx => by
      obtain ⟨i, hi, rfl⟩ := List.mem_map.mp hx
      have := l3 _ (List.mem_map_of_mem hi)
      simp only [List.length_cons]; omega
    have e3 : (119 :: 101 :: 97 :: 118 :: 101 :: joinL [] (c.ws.map fun i => 32 :: intL i)) = c.t3 := by
      rw [CS.t3, flat_cons, List.map_map]; rfl
    have h5 := t3_len ok
    rw [← e3] at h5
    simp only [List.length_cons] at h5
    refine ⟨_, strs_mapS _, by have := line_join (S := []) l4 (by rw [List.length_map]; exact hw1) (by decide); exact this, by omega, ?_⟩
    rw [e3]
    refine ⟨_, ((g3.add _).add _).get hr', _, get_new, ?_, ?_⟩
    · simp only [List.length_map, List.length_cons, List.length_nil, List.length_take]; omega
    · refine q _ _ (((g'.trans g3).add _).add _ |>.add _) ?_
      rw [get_new]
      simp only [CS.rows, List.map_cons, List.map_append, List.map_nil, List.cons_append]
      rw [List.length_map, List.take_length]
  · subst he
    rw [List.getElem?_map] at hx
    cases hy : c.js[i]? with
    | none => rw [hy] at hx; cases hx
    | some j =>
      rw [hy] at hx
      cases hx
      have hjo := ok.j2 j (mem_of_get hy)
      have fin : ∀ (a5 a6 : Option M) (h1 : MH), Gro h' h1 → N [some (M.tup [M.tup (M.str c.w :: List.map M.int c.is), M.tup (List.map JB.m c.js), M.tup (List.map M.int c.ws)]), some (M.tup (M.str c.w :: List.map M.int c.is)), some (M.tup (List.map JB.m c.js)), some (M.tup (List.map M.int c.ws)), some (M.ref r), a5, a6, none, none, none, none] (h1.set r (.lst ((c.t1 :: (c.js.take i).map JB.t).map M.str ++ [.str j.t]))) := fun a5 a6 h1 g1 => by
        refine k _ _ ⟨a5, a6, rfl, (g'.trans g1).set hrl, ?_⟩
        rw [set_self (g1.get hr')]
        rw [take_snoc hy]
        simp only [List.map_cons, List.map_append, List.map_nil, List.cons_append]
      have hlen : ((c.t1 :: (c.js.take i).map JB.t).map M.str).length < sizeLine := by
        simp only [List.length_map, List.length_cons, List.length_nil, List.length_take]; omega
      have e0 : (([100, 101, 101, 100, 115] : List Nat) = [115, 117, 109, 115]) = False := by simp
      have e1 : (([115, 117, 109, 115] : List Nat) = [100, 101, 101, 100, 115]) = False := by simp
      have isr : ∀ h1, Gro h' h1 → (getL h1 r).isSome = true := fun h1 g1 => by rw [getL_of (g1.get hr')]; rfl
      refine ⟨_, rfl, ?_⟩
      cases j with
      | deeds ds =>
        simp only [JB.m, wSs, wS, wE, wEs, wAnd, wOr, wT, wAndT, wOrT, wO, wC, wI, setAll, w_add, w_adds, w_addt, w_addl, w_sub, w_mul, w_mull, w_div, w_mod, w_pow, w_shl, w_eq, w_ne, w_in, w_nin, w_lt, w_le, w_gt, w_ge, w_is, w_isn, w_eqi, w_eqs, w_eqb, w_tn, w_tb, w_ti, w_tt, w_it, w_if, w_is', w_il, w_st, w_ss, w_sl, w_lent, w_lenf, w_lens, w_lenl, w_tupt, w_tupl, w_lstt, w_lstl, w_stri, w_strs, w_inti, w_intb, w_min2, w_max2, w_abs, w_all, w_any, w_sum, w_join, w_app, w_ext, w_pop, w_tyj, w_tya, w_tye, w_typ, w_isin, w_isib, w_isii, w_isis, w_isit, w_ont, w_onf, w_ons, w_onl, w_rng1, w_rng2, w_nm, w_tp, Option.some.injEq, exists_eq_left', exists_eq_left, exists_eq, exists_eq', List.getElem?_cons_zero, List.getElem?_cons_succ, List.set_cons_zero, List.set_cons_succ, List.map_cons, List.map_nil, List.cons_append, List.nil_append, List.length_cons, List.length_nil, M.int.injEq, M.ref.injEq, M.str.injEq, M.bl.injEq, M.tup.injEq, List.replicate, Nat.reduceSub, Nat.reduceAdd, true_and, and_true, exists_and_left, exists_and_right, at_0, at_1, at_2, at_3, at_4, Nat.reduceLT, List.length_set, MO.lst.injEq, ix_0, ix_1, ix_2, beq_iff_eq, reduceCtorEq, if_true, if_false, ite_true, ite_false, getL_new, wipeE, Bool.false_eq_true, decide_true, decide_false, Bool.not_true, Bool.not_false, deeds_eq hjo.2]
        cases ds with
        | nil =>
          simp only [wSs, wS, wE, wEs, wAnd, wOr, wT, wAndT, wOrT, wO, wC, wI, setAll, w_add, w_adds, w_addt, w_addl, w_sub, w_mul, w_mull, w_div, w_mod, w_pow, w_shl, w_eq, w_ne, w_in, w_nin, w_lt, w_le, w_gt, w_ge, w_is, w_isn, w_eqi, w_eqs, w_eqb, w_tn, w_tb, w_ti, w_tt, w_it, w_if, w_is', w_il, w_st, w_ss, w_sl, w_lent, w_lenf, w_lens, w_lenl, w_tupt, w_tupl, w_lstt, w_lstl, w_stri, w_strs, w_inti, w_intb, w_min2, w_max2, w_abs, w_all, w_any, w_sum, w_join, w_app, w_ext, w_pop, w_tyj, w_tya, w_tye, w_typ, w_isin, w_isib, w_isii, w_isis, w_isit, w_ont, w_onf, w_ons, w_onl, w_rng1, w_rng2, w_nm, w_tp, Option.some.injEq, exists_eq_left', exists_eq_left, exists_eq, exists_eq', List.getElem?_cons_zero, List.getElem?_cons_succ, List.set_cons_zero, List.set_cons_succ, List.map_cons, List.map_nil, List.cons_append, List.nil_append, List.length_cons, List.length_nil, M.int.injEq, M.ref.injEq, M.str.injEq, M.bl.injEq, M.tup.injEq, List.replicate, Nat.reduceSub, Nat.reduceAdd, true_and, and_true, exists_and_left, exists_and_right, at_0, at_1, at_2, at_3, at_4, Nat.reduceLT, List.length_set, MO.lst.injEq, ix_0, ix_1, ix_2, beq_iff_eq, reduceCtorEq, if_true, if_false, ite_true, ite_false, getL_new, wipeE, Bool.false_eq_true, decide_true, decide_false, Bool.not_true, Bool.not_false, List.map_nil, e0]
          exact ⟨by omega, isr h' (.refl h'), _, hr', hlen, fin _ _ h' (.refl h')⟩
        | cons d ds =>
          simp only [wSs, wS, wE, wEs, wAnd, wOr, wT, wAndT, wOrT, wO, wC, wI, setAll, w_add, w_adds, w_addt, w_addl, w_sub, w_mul, w_mull, w_div, w_mod, w_pow, w_shl, w_eq, w_ne, w_in, w_nin, w_lt, w_le, w_gt, w_ge, w_is, w_isn, w_eqi, w_eqs, w_eqb, w_tn, w_tb, w_ti, w_tt, w_it, w_if, w_is', w_il, w_st, w_ss, w_sl, w_lent, w_lenf, w_lens, w_lenl, w_tupt, w_tupl, w_lstt, w_lstl, w_stri, w_strs, w_inti, w_intb, w_min2, w_max2, w_abs, w_all, w_any, w_sum, w_join, w_app, w_ext, w_pop, w_tyj, w_tya, w_tye, w_typ, w_isin, w_isib, w_isii, w_isis, w_isit, w_ont, w_onf, w_ons, w_onl, w_rng1, w_rng2, w_nm, w_tp, Option.some.injEq, exists_eq_left', exists_eq_left, exists_eq, exists_eq', List.getElem?_cons_zero, List.getElem?_cons_succ, List.set_cons_zero, List.set_cons_succ, List.map_cons, List.map_nil, List.cons_append, List.nil_append, List.length_cons, List.length_nil, M.int.injEq, M.ref.injEq, M.str.injEq, M.bl.injEq, M.tup.injEq, List.replicate, Nat.reduceSub, Nat.reduceAdd, true_and, and_true, exists_and_left, exists_and_right, at_0, at_1, at_2, at_3, at_4, Nat.reduceLT, List.length_set, MO.lst.injEq, ix_0, ix_1, ix_2, beq_iff_eq, reduceCtorEq, if_true, if_false, ite_true, ite_false, getL_new, wipeE, Bool.false_eq_true, decide_true, decide_false, Bool.not_true, Bool.not_false, List.map_cons, List.cons_ne_nil]
          rw [← List.map_cons]
          refine ⟨by omega, by omega, ?_⟩
          refine comp_map (ys := d :: ds) DD.m (fun d => .str d.t) (fun _ _ => trivial) (fun d hd h1 R g k => ?_) fun h2 g => ?_
          · exact ⟨_, rfl, _, rfl, deed_ok (.inr rfl) deed_at' val_at' (hjo.2 d hd) k⟩
          · have hl := deeds_len hjo.2
            have hn : ((d :: ds).map DD.t).length ≤ 12 := by rw [List.length_map]; exact hjo.1
            have hs := line_join (S := [44, 32]) hl hn (by decide)
            have hb : (joinL [44, 32] (List.map DD.t (d :: ds))).length ≤ 12 * 8002 := Nat.le_trans (joinL_len [44, 32] _ _ hl) (Nat.mul_le_mul hn (Nat.le_refl _))
            exact ⟨_, strs_mapS DD.t, hs, by omega, isr _ (g.add _), _, (g.add _).get hr', hlen, fin _ _ _ (g.add _)⟩
      | sums xs =>
        simp only [JB.m, wSs, wS, wE, wEs, wAnd, wOr, wT, wAndT, wOrT, wO, wC, wI, setAll, w_add, w_adds, w_addt, w_addl, w_sub, w_mul, w_mull, w_div, w_mod, w_pow, w_shl, w_eq, w_ne, w_in, w_nin, w_lt, w_le, w_gt, w_ge, w_is, w_isn, w_eqi, w_eqs, w_eqb, w_tn, w_tb, w_ti, w_tt, w_it, w_if, w_is', w_il, w_st, w_ss, w_sl, w_lent, w_lenf, w_lens, w_lenl, w_tupt, w_tupl, w_lstt, w_lstl, w_stri, w_strs, w_inti, w_intb, w_min2, w_max2, w_abs, w_all, w_any, w_sum, w_join, w_app, w_ext, w_pop, w_tyj, w_tya, w_tye, w_typ, w_isin, w_isib, w_isii, w_isis, w_isit, w_ont, w_onf, w_ons, w_onl, w_rng1, w_rng2, w_nm, w_tp, Option.some.injEq, exists_eq_left', exists_eq_left, exists_eq, exists_eq', List.getElem?_cons_zero, List.getElem?_cons_succ, List.set_cons_zero, List.set_cons_succ, List.map_cons, List.map_nil, List.cons_append, List.nil_append, List.length_cons, List.length_nil, M.int.injEq, M.ref.injEq, M.str.injEq, M.bl.injEq, M.tup.injEq, List.replicate, Nat.reduceSub, Nat.reduceAdd, true_and, and_true, exists_and_left, exists_and_right, at_0, at_1, at_2, at_3, at_4, Nat.reduceLT, List.length_set, MO.lst.injEq, ix_0, ix_1, ix_2, beq_iff_eq, reduceCtorEq, if_true, if_false, ite_true, ite_false, getL_new, wipeE, Bool.false_eq_true, decide_true, decide_false, Bool.not_true, Bool.not_false, e1]
        refine ⟨by omega, ?_⟩
        refine comp_pure (xs := xs) (fun x => .str (32 :: itx x)) (fun _ _ => trivial) (fun x hx h1 R g k => ?_) fun h2 g => ?_
        · refine ⟨_, rfl, x, rfl, ?_⟩
          rcases hjo.2 x hx with rfl | ⟨i, rfl, hi⟩
          · simp only [wSs, wS, wE, wEs, wAnd, wOr, wT, wAndT, wOrT, wO, wC, wI, setAll, w_add, w_adds, w_addt, w_addl, w_sub, w_mul, w_mull, w_div, w_mod, w_pow, w_shl, w_eq, w_ne, w_in, w_nin, w_lt, w_le, w_gt, w_ge, w_is, w_isn, w_eqi, w_eqs, w_eqb, w_tn, w_tb, w_ti, w_tt, w_it, w_if, w_is', w_il, w_st, w_ss, w_sl, w_lent, w_lenf, w_lens, w_lenl, w_tupt, w_tupl, w_lstt, w_lstl, w_stri, w_strs, w_inti, w_intb, w_min2, w_max2, w_abs, w_all, w_any, w_sum, w_join, w_app, w_ext, w_pop, w_tyj, w_tya, w_tye, w_typ, w_isin, w_isib, w_isii, w_isis, w_isit, w_ont, w_onf, w_ons, w_onl, w_rng1, w_rng2, w_nm, w_tp, Option.some.injEq, exists_eq_left', exists_eq_left, exists_eq, exists_eq', List.getElem?_cons_zero, List.getElem?_cons_succ, List.set_cons_zero, List.set_cons_succ, List.map_cons, List.map_nil, List.cons_append, List.nil_append, List.length_cons, List.length_nil, M.int.injEq, M.ref.injEq, M.str.injEq, M.bl.injEq, M.tup.injEq, List.replicate, Nat.reduceSub, Nat.reduceAdd, true_and, and_true, exists_and_left, exists_and_right, at_0, at_1, at_2, at_3, at_4, Nat.reduceLT, List.length_set, MO.lst.injEq, ix_0, ix_1, ix_2, beq_iff_eq, reduceCtorEq, if_true, if_false, ite_true, ite_false, getL_new, wipeE, Bool.false_eq_true, decide_true, decide_false, Bool.not_true, Bool.not_false]
            exact k h1 (.refl h1)
          · simp only [wSs, wS, wE, wEs, wAnd, wOr, wT, wAndT, wOrT, wO, wC, wI, setAll, w_add, w_adds, w_addt, w_addl, w_sub, w_mul, w_mull, w_div, w_mod, w_pow, w_shl, w_eq, w_ne, w_in, w_nin, w_lt, w_le, w_gt, w_ge, w_is, w_isn, w_eqi, w_eqs, w_eqb, w_tn, w_tb, w_ti, w_tt, w_it, w_if, w_is', w_il, w_st, w_ss, w_sl, w_lent, w_lenf, w_lens, w_lenl, w_tupt, w_tupl, w_lstt, w_lstl, w_stri, w_strs, w_inti, w_intb, w_min2, w_max2, w_abs, w_all, w_any, w_sum, w_join, w_app, w_ext, w_pop, w_tyj, w_tya, w_tye, w_typ, w_isin, w_isib, w_isii, w_isis, w_isit, w_ont, w_onf, w_ons, w_onl, w_rng1, w_rng2, w_nm, w_tp, Option.some.injEq, exists_eq_left', exists_eq_left, exists_eq, exists_eq', List.getElem?_cons_zero, List.getElem?_cons_succ, List.set_cons_zero, List.set_cons_succ, List.map_cons, List.map_nil, List.cons_append, List.nil_append, List.length_cons, List.length_nil, M.int.injEq, M.ref.injEq, M.str.injEq, M.bl.injEq, M.tup.injEq, List.replicate, Nat.reduceSub, Nat.reduceAdd, true_and, and_true, exists_and_left, exists_and_right, at_0, at_1, at_2, at_3, at_4, Nat.reduceLT, List.length_set, MO.lst.injEq, ix_0, ix_1, ix_2, beq_iff_eq, reduceCtorEq, if_true, if_false, ite_true, ite_false, getL_new, wipeE, Bool.false_eq_true, decide_true, decide_false, Bool.not_true, Bool.not_false]
            have := intL_len (k := 12) (by decide) hi
            exact ⟨log2_ok (Nat.lt_trans hi (by decide)), by omega, k h1 (.refl h1)⟩
        · have l4 : ∀ x ∈ (xs.map fun i => 32 :: itx i), x.length ≤ 14 := fun x hx => by
            obtain ⟨i, hi, rfl⟩ := List.mem_map.mp hx
            have := itx_len (hjo.2 i hi)
            simp only [List.length_cons]; omega
          have e3 : (104 :: 97 :: 110 :: 100 :: 32 :: 115 :: 117 :: 109 :: 115 :: joinL [] (xs.map fun i => 32 :: itx i)) = (JB.sums xs).t := by
            rw [JB.t, flat_cons, List.map_map]; rfl
          have h5 := JB.len hjo
          rw [← e3] at h5
          simp only [List.length_cons] at h5
          refine ⟨_, strs_mapS _, by have := line_join (S := []) l4 (by rw [List.length_map]; exact hjo.1) (by decide); exact this, by omega, isr _ (g.add _), _, (g.add _).get hr', hlen, ?_⟩
          rw [e3]
          exact fin _ _ _ (g.add _)
      | nums w is =>
        have e2 : (w = [100, 101, 101, 100, 115]) = False := by simpa using hjo.1
        have e3 : (w = [115, 117, 109, 115]) = False := by simpa using hjo.2.1
        simp only [JB.m, wSs, wS, wE, wEs, wAnd, wOr, wT, wAndT, wOrT, wO, wC, wI, setAll, w_add, w_adds, w_addt, w_addl, w_sub, w_mul, w_mull, w_div, w_mod, w_pow, w_shl, w_eq, w_ne, w_in, w_nin, w_lt, w_le, w_gt, w_ge, w_is, w_isn, w_eqi, w_eqs, w_eqb, w_tn, w_tb, w_ti, w_tt, w_it, w_if, w_is', w_il, w_st, w_ss, w_sl, w_lent, w_lenf, w_lens, w_lenl, w_tupt, w_tupl, w_lstt, w_lstl, w_stri, w_strs, w_inti, w_intb, w_min2, w_max2, w_abs, w_all, w_any, w_sum, w_join, w_app, w_ext, w_pop, w_tyj, w_tya, w_tye, w_typ, w_isin, w_isib, w_isii, w_isis, w_isit, w_ont, w_onf, w_ons, w_onl, w_rng1, w_rng2, w_nm, w_tp, Option.some.injEq, exists_eq_left', exists_eq_left, exists_eq, exists_eq', List.getElem?_cons_zero, List.getElem?_cons_succ, List.set_cons_zero, List.set_cons_succ, List.map_cons, List.map_nil, List.cons_append, List.nil_append, List.length_cons, List.length_nil, M.int.injEq, M.ref.injEq, M.str.injEq, M.bl.injEq, M.tup.injEq, List.replicate, Nat.reduceSub, Nat.reduceAdd, true_and, and_true, exists_and_left, exists_and_right, at_0, at_1, at_2, at_3, at_4, Nat.reduceLT, List.length_set, MO.lst.injEq, ix_0, ix_1, ix_2, beq_iff_eq, reduceCtorEq, if_true, if_false, ite_true, ite_false, getL_new, wipeE, Bool.false_eq_true, decide_true, decide_false, Bool.not_true, Bool.not_false, e2, e3, cut_1]
        obtain ⟨_, _, hw6, hi2, hi⟩ := hjo
        refine ⟨by omega, ?_⟩
        refine comp_map (ys := is) M.int (fun i => .str (32 :: intL i)) (fun _ _ => trivial) (fun d hd h1 R g k => ?_) fun h3 g3 => ?_
        · have := nums_len hi _ (List.mem_map_of_mem hd)
          exact ⟨_, rfl, _, rfl, log2_ok (Nat.lt_trans (hi d hd) (by decide)), by simp only [List.length_cons, List.length_nil]; omega, k h1 (.refl h1)⟩
        have l4 : ∀ x ∈ (is.map fun i => 32 :: intL i), x.length ≤ 14 := fun x hx => by
          obtain ⟨i, hi', rfl⟩ := List.mem_map.mp hx
          have := nums_len hi _ (List.mem_map_of_mem hi')
          simp only [List.length_cons]; omega
        have e3 : ((104 :: 97 :: 110 :: 100 :: 32 :: w) ++ joinL [] (is.map fun i => 32 :: intL i)) = (JB.nums w is).t := by
          rw [JB.t, flat_cons, joinL_nil, joinL_nil, List.map_cons, List.map_map]
          rfl
        have h5 := JB.len (j := .nums w is) ⟨by assumption, by assumption, hw6, hi2, hi⟩
        rw [← e3] at h5
        simp only [List.length_append, List.length_cons] at h5
        refine ⟨_, strs_mapS _, by have := line_join (S := []) l4 (by rw [List.length_map]; exact hi2) (by decide); exact this, by omega, isr _ (g3.add _), _, (g3.add _).get hr', hlen, ?_⟩
        have e4 := fin
        rw [← e3] at e4
        exact e4 _ _ _ (g3.add _)
end Wg
open PySem PySem.Spec PyProof.Rows
set_option linter.all false
set_option Elab.async false
set_option maxRecDepth 100000
set_option maxHeartbeats 4000000
namespace Wg
open L2
/-! ### the law's own cases -/
structure GK (k : Nat) (h0 h : MH) (u : Int) : Prop where
  keep : Keep k h0 h
  hand : HandAt h k u
theorem GK.app {k : Nat} {h0 h t : MH} {u : Int} (g : GK k h0 h u) : GK k h0 (h ++ t) u := ⟨g.1.trans .app, g.2.app⟩
theorem GK.lt {k : Nat} {h0 h : MH} {u : Int} (g : GK k h0 h u) : k < h.length := by
  obtain ⟨a, b, c, e, _⟩ := g.2
  exact (List.getElem?_eq_some_iff.mp e).1
theorem GK.self {k : Nat} {h0 h : MH} {u : Int} (g : GK k h0 h u) : GK k h h u := ⟨.refl k h, g.2⟩
theorem GK.trans {k : Nat} {h0 h h' : MH} {u v : Int} (g : GK k h0 h u) (g' : GK k h h' v) : GK k h0 h' v := ⟨g.1.trans g'.1, g'.2⟩
theorem GK.mono {k : Nat} {h0 h : MH} {u v : Int} (g : GK k h0 h u) (l : u ≤ v) : GK k h0 h v := ⟨g.1, g.2.mono l⟩
theorem GK.setN {k l : Nat} {h0 h : MH} {u : Int} {o : MO} (g : GK k h0 h u) (hl : l ≠ k) (h1 : h0.length ≤ l) : GK k h0 (h.set l o) u := by
  refine ⟨⟨by rw [List.length_set]; exact g.1.1, fun j p hj e => ?_⟩, ?_⟩
  · have : j < h0.length := (List.getElem?_eq_some_iff.mp e).1
    rw [List.getElem?_set_ne (by omega)]; exact g.1.2 j p hj e
  · obtain ⟨a, b, c, e, r⟩ := g.2
    exact ⟨a, b, c, by rw [List.getElem?_set_ne hl]; exact e, r⟩
section
variable {n k : Nat} {h0 h : MH} {u : Int} {Q : QE} {X : Exn → MH → Prop}
theorem tk {many : Int} (g : GK k h0 h u) (hu : u ≤ 2 ^ 40) (m0 : 0 < many) (m1 : many < 2 ^ 60) (q : ∀ x h', 0 ≤ x → x < many → GK k h0 h' (u + 1) → Q (.int x) h') : S (n + 1) k_law_take [.ref k, .int many] h Q X :=
  take_ok (d := p_law_take) rfl rfl rfl g.2 hu m0 m1 fun x h' a b K H => q x h' a b ⟨g.1.trans K, H⟩
theorem pk {l : Nat} {xs : List M} (g : GK k h0 h u) (hu : u ≤ 2 ^ 40) (hl : h[l]? = some (.lst xs)) (lk : l ≠ k) (x0 : xs ≠ []) (x1 : xs.length < 2 ^ 60) (q : ∀ x h', x ∈ xs → GK k h0 h' (u + 1) → Q x h') : S (n + 2) k_law_pick [.ref k, .ref l] h Q X :=
  pick_ok (d := p_law_take) rfl rfl rfl (d' := p_law_pick) rfl rfl rfl g.2 hu hl lk x0 x1 fun i x h' a K H => q x h' (mem_of_get a) ⟨g.1.trans K, H⟩
theorem pki {ns : List Int} (g : GK k h0 h u) (hu : u ≤ 2 ^ 40) (x0 : ns ≠ []) (x1 : ns.length < 2 ^ 60) (q : ∀ x ∈ ns, ∀ h', GK k h0 h' (u + 1) → Q (.int x) h') : S (n + 2) k_law_pick [.ref k, .ref h.length] (h ++ [.lst (ns.map M.int)]) Q X :=
  pk g.app hu get_new (by have := g.lt; omega) (by simpa using x0) (by simpa using x1) fun x h' hx g' => by
    obtain ⟨i, hi, rfl⟩ := List.mem_map.mp hx
    exact q i hi h' g'
structure Man (w : List Nat) (is : List Int) (hands : Int) : Prop where
  wl : w.length ≤ 6
  i1 : is.length ≤ 5
  i2 : ∀ i ∈ is, i.natAbs < 10 ^ 12
  hd : ∃ tl, is = hands :: tl
  sh : w = [115, 104, 97, 114, 101, 100] → ∃ p tl, is = hands :: p :: tl ∧ 1 ≤ p ∧ p ≤ 4
theorem manner_ok {hands : Int} (g : GK k h0 h u) (hu : u ≤ 2 ^ 39) (n0 : 0 < hands) (n1 : hands ≤ 5)
    (q : ∀ w is h', Man w is hands → GK k h0 h' (u + 6) → Q (.tup (.str w :: is.map M.int)) h') : S (n + 3) k_law_manner [.ref k, .int hands] h Q X := by
  refine ⟨p_law_manner, rfl, ?_⟩
  simp only [wF, p_law_manner, startE]
  try simp only [wSs, wS, wE, wEs, wAnd, wOr, wT, wAndT, wOrT, wO, wC, wI, setAll, w_add, w_adds, w_addt, w_addl, w_sub, w_mul, w_mull, w_div, w_mod, w_pow, w_shl, w_eq, w_ne, w_in, w_nin, w_lt, w_le, w_gt, w_ge, w_is, w_isn, w_eqi, w_eqs, w_eqb, w_tn, w_tb, w_ti, w_tt, w_it, w_if, w_is', w_il, w_st, w_ss, w_sl, w_lent, w_lenf, w_lens, w_lenl, w_tupt, w_tupl, w_lstt, w_lstl, w_stri, w_strs, w_inti, w_intb, w_min2, w_max2, w_abs, w_all, w_any, w_sum, w_join, w_app, w_ext, w_pop, w_tyj, w_tya, w_tye, w_typ, w_isin, w_isib, w_isii, w_isis, w_isit, w_ont, w_onf, w_ons, w_onl, w_rng1, w_rng2, w_nm, w_tp, Option.some.injEq, exists_eq_left', exists_eq_left, exists_eq, exists_eq', List.getElem?_cons_zero, List.getElem?_cons_succ, List.set_cons_zero, List.set_cons_succ, List.map_cons, List.map_nil, List.cons_append, List.nil_append, List.length_cons, List.length_nil, M.int.injEq, M.ref.injEq, M.str.injEq, M.bl.injEq, M.tup.injEq, List.replicate, Nat.reduceSub, Nat.reduceAdd, true_and, and_true, exists_and_left, exists_and_right, at_0, at_1, at_2, at_3, at_4, Nat.reduceLT, List.length_set, MO.lst.injEq, ix_0, ix_1, ix_2, beq_iff_eq, reduceCtorEq, if_true, if_false, ite_true, ite_false, getL_new, wipeE, Bool.false_eq_true, decide_true, decide_false, Bool.not_true, Bool.not_false]
  refine tk g (by omega) (by decide) (by decide) fun way h1 w0 w1 g1 => ?_
  try simp only [wSs, wS, wE, wEs, wAnd, wOr, wT, wAndT, wOrT, wO, wC, wI, setAll, w_add, w_adds, w_addt, w_addl, w_sub, w_mul, w_mull, w_div, w_mod, w_pow, w_shl, w_eq, w_ne, w_in, w_nin, w_lt, w_le, w_gt, w_ge, w_is, w_isn, w_eqi, w_eqs, w_eqb, w_tn, w_tb, w_ti, w_tt, w_it, w_if, w_is', w_il, w_st, w_ss, w_sl, w_lent, w_lenf, w_lens, w_lenl, w_tupt, w_tupl, w_lstt, w_lstl, w_stri, w_strs, w_inti, w_intb, w_min2, w_max2, w_abs, w_all, w_any, w_sum, w_join, w_app, w_ext, w_pop, w_tyj, w_tya, w_tye, w_typ, w_isin, w_isib, w_isii, w_isis, w_isit, w_ont, w_onf, w_ons, w_onl, w_rng1, w_rng2, w_nm, w_tp, Option.some.injEq, exists_eq_left', exists_eq_left, exists_eq, exists_eq', List.getElem?_cons_zero, List.getElem?_cons_succ, List.set_cons_zero, List.set_cons_succ, List.map_cons, List.map_nil, List.cons_append, List.nil_append, List.length_cons, List.length_nil, M.int.injEq, M.ref.injEq, M.str.injEq, M.bl.injEq, M.tup.injEq, List.replicate, Nat.reduceSub, Nat.reduceAdd, true_and, and_true, exists_and_left, exists_and_right, at_0, at_1, at_2, at_3, at_4, Nat.reduceLT, List.length_set, MO.lst.injEq, ix_0, ix_1, ix_2, beq_iff_eq, reduceCtorEq, if_true, if_false, ite_true, ite_false, getL_new, wipeE, Bool.false_eq_true, decide_true, decide_false, Bool.not_true, Bool.not_false]
  refine pki (ns := [0, 0, 0, 2, 3, 9]) g1 (by omega) (by decide) (by decide) fun t ht h2 g2 => ?_
  try simp only [wSs, wS, wE, wEs, wAnd, wOr, wT, wAndT, wOrT, wO, wC, wI, setAll, w_add, w_adds, w_addt, w_addl, w_sub, w_mul, w_mull, w_div, w_mod, w_pow, w_shl, w_eq, w_ne, w_in, w_nin, w_lt, w_le, w_gt, w_ge, w_is, w_isn, w_eqi, w_eqs, w_eqb, w_tn, w_tb, w_ti, w_tt, w_it, w_if, w_is', w_il, w_st, w_ss, w_sl, w_lent, w_lenf, w_lens, w_lenl, w_tupt, w_tupl, w_lstt, w_lstl, w_stri, w_strs, w_inti, w_intb, w_min2, w_max2, w_abs, w_all, w_any, w_sum, w_join, w_app, w_ext, w_pop, w_tyj, w_tya, w_tye, w_typ, w_isin, w_isib, w_isii, w_isis, w_isit, w_ont, w_onf, w_ons, w_onl, w_rng1, w_rng2, w_nm, w_tp, Option.some.injEq, exists_eq_left', exists_eq_left, exists_eq, exists_eq', List.getElem?_cons_zero, List.getElem?_cons_succ, List.set_cons_zero, List.set_cons_succ, List.map_cons, List.map_nil, List.cons_append, List.nil_append, List.length_cons, List.length_nil, M.int.injEq, M.ref.injEq, M.str.injEq, M.bl.injEq, M.tup.injEq, List.replicate, Nat.reduceSub, Nat.reduceAdd, true_and, and_true, exists_and_left, exists_and_right, at_0, at_1, at_2, at_3, at_4, Nat.reduceLT, List.length_set, MO.lst.injEq, ix_0, ix_1, ix_2, beq_iff_eq, reduceCtorEq, if_true, if_false, ite_true, ite_false, getL_new, wipeE, Bool.false_eq_true, decide_true, decide_false, Bool.not_true, Bool.not_false]
  refine pki (ns := [1, 2, 2, 3, 3, 4]) g2 (by omega) (by decide) (by decide) fun m hm h3 g3 => ?_
  try simp only [wSs, wS, wE, wEs, wAnd, wOr, wT, wAndT, wOrT, wO, wC, wI, setAll, w_add, w_adds, w_addt, w_addl, w_sub, w_mul, w_mull, w_div, w_mod, w_pow, w_shl, w_eq, w_ne, w_in, w_nin, w_lt, w_le, w_gt, w_ge, w_is, w_isn, w_eqi, w_eqs, w_eqb, w_tn, w_tb, w_ti, w_tt, w_it, w_if, w_is', w_il, w_st, w_ss, w_sl, w_lent, w_lenf, w_lens, w_lenl, w_tupt, w_tupl, w_lstt, w_lstl, w_stri, w_strs, w_inti, w_intb, w_min2, w_max2, w_abs, w_all, w_any, w_sum, w_join, w_app, w_ext, w_pop, w_tyj, w_tya, w_tye, w_typ, w_isin, w_isib, w_isii, w_isis, w_isit, w_ont, w_onf, w_ons, w_onl, w_rng1, w_rng2, w_nm, w_tp, Option.some.injEq, exists_eq_left', exists_eq_left, exists_eq, exists_eq', List.getElem?_cons_zero, List.getElem?_cons_succ, List.set_cons_zero, List.set_cons_succ, List.map_cons, List.map_nil, List.cons_append, List.nil_append, List.length_cons, List.length_nil, M.int.injEq, M.ref.injEq, M.str.injEq, M.bl.injEq, M.tup.injEq, List.replicate, Nat.reduceSub, Nat.reduceAdd, true_and, and_true, exists_and_left, exists_and_right, at_0, at_1, at_2, at_3, at_4, Nat.reduceLT, List.length_set, MO.lst.injEq, ix_0, ix_1, ix_2, beq_iff_eq, reduceCtorEq, if_true, if_false, ite_true, ite_false, getL_new, wipeE, Bool.false_eq_true, decide_true, decide_false, Bool.not_true, Bool.not_false]
  refine pki (ns := [0, 1, 1, 1]) g3 (by omega) (by decide) (by decide) fun b hb h4 g4 => ?_
  try simp only [wSs, wS, wE, wEs, wAnd, wOr, wT, wAndT, wOrT, wO, wC, wI, setAll, w_add, w_adds, w_addt, w_addl, w_sub, w_mul, w_mull, w_div, w_mod, w_pow, w_shl, w_eq, w_ne, w_in, w_nin, w_lt, w_le, w_gt, w_ge, w_is, w_isn, w_eqi, w_eqs, w_eqb, w_tn, w_tb, w_ti, w_tt, w_it, w_if, w_is', w_il, w_st, w_ss, w_sl, w_lent, w_lenf, w_lens, w_lenl, w_tupt, w_tupl, w_lstt, w_lstl, w_stri, w_strs, w_inti, w_intb, w_min2, w_max2, w_abs, w_all, w_any, w_sum, w_join, w_app, w_ext, w_pop, w_tyj, w_tya, w_tye, w_typ, w_isin, w_isib, w_isii, w_isis, w_isit, w_ont, w_onf, w_ons, w_onl, w_rng1, w_rng2, w_nm, w_tp, Option.some.injEq, exists_eq_left', exists_eq_left, exists_eq, exists_eq', List.getElem?_cons_zero, List.getElem?_cons_succ, List.set_cons_zero, List.set_cons_succ, List.map_cons, List.map_nil, List.cons_append, List.nil_append, List.length_cons, List.length_nil, M.int.injEq, M.ref.injEq, M.str.injEq, M.bl.injEq, M.tup.injEq, List.replicate, Nat.reduceSub, Nat.reduceAdd, true_and, and_true, exists_and_left, exists_and_right, at_0, at_1, at_2, at_3, at_4, Nat.reduceLT, List.length_set, MO.lst.injEq, ix_0, ix_1, ix_2, beq_iff_eq, reduceCtorEq, if_true, if_false, ite_true, ite_false, getL_new, wipeE, Bool.false_eq_true, decide_true, decide_false, Bool.not_true, Bool.not_false]
  refine pki (ns := [0, 1, 1, 1]) g4 (by omega) (by decide) (by decide) fun c hc h5 g5 => ?_
  have ht : 0 ≤ t ∧ t ≤ 9 := by simp at ht; omega
  have hm : 0 ≤ m ∧ m ≤ 9 := by simp at hm; omega
  have hb : 0 ≤ b ∧ b ≤ 9 := by simp at hb; omega
  have hc : 0 ≤ c ∧ c ≤ 9 := by simp at hc; omega
  have hsz := sizeL
  rcases (by omega : way = 0 ∨ way = 1 ∨ way = 2 ∨ way = 3 ∨ (4 ≤ way)) with rfl | rfl | rfl | rfl | hw
  · simp only [wSs, wS, wE, wEs, wAnd, wOr, wT, wAndT, wOrT, wO, wC, wI, setAll, w_add, w_adds, w_addt, w_addl, w_sub, w_mul, w_mull, w_div, w_mod, w_pow, w_shl, w_eq, w_ne, w_in, w_nin, w_lt, w_le, w_gt, w_ge, w_is, w_isn, w_eqi, w_eqs, w_eqb, w_tn, w_tb, w_ti, w_tt, w_it, w_if, w_is', w_il, w_st, w_ss, w_sl, w_lent, w_lenf, w_lens, w_lenl, w_tupt, w_tupl, w_lstt, w_lstl, w_stri, w_strs, w_inti, w_intb, w_min2, w_max2, w_abs, w_all, w_any, w_sum, w_join, w_app, w_ext, w_pop, w_tyj, w_tya, w_tye, w_typ, w_isin, w_isib, w_isii, w_isis, w_isit, w_ont, w_onf, w_ons, w_onl, w_rng1, w_rng2, w_nm, w_tp, Option.some.injEq, exists_eq_left', exists_eq_left, exists_eq, exists_eq', List.getElem?_cons_zero, List.getElem?_cons_succ, List.set_cons_zero, List.set_cons_succ, List.map_cons, List.map_nil, List.cons_append, List.nil_append, List.length_cons, List.length_nil, M.int.injEq, M.ref.injEq, M.str.injEq, M.bl.injEq, M.tup.injEq, List.replicate, Nat.reduceSub, Nat.reduceAdd, true_and, and_true, exists_and_left, exists_and_right, at_0, at_1, at_2, at_3, at_4, Nat.reduceLT, List.length_set, MO.lst.injEq, ix_0, ix_1, ix_2, beq_iff_eq, reduceCtorEq, if_true, if_false, ite_true, ite_false, getL_new, wipeE, Bool.false_eq_true, decide_true, decide_false, Bool.not_true, Bool.not_false, Int.reduceLT]
    exact q [111, 110, 99, 101] [hands] _ ⟨by decide, by simp, by simp; omega, ⟨_, rfl⟩, fun e => absurd e (by decide)⟩ (g5.mono (by omega)).app
  · simp only [wSs, wS, wE, wEs, wAnd, wOr, wT, wAndT, wOrT, wO, wC, wI, setAll, w_add, w_adds, w_addt, w_addl, w_sub, w_mul, w_mull, w_div, w_mod, w_pow, w_shl, w_eq, w_ne, w_in, w_nin, w_lt, w_le, w_gt, w_ge, w_is, w_isn, w_eqi, w_eqs, w_eqb, w_tn, w_tb, w_ti, w_tt, w_it, w_if, w_is', w_il, w_st, w_ss, w_sl, w_lent, w_lenf, w_lens, w_lenl, w_tupt, w_tupl, w_lstt, w_lstl, w_stri, w_strs, w_inti, w_intb, w_min2, w_max2, w_abs, w_all, w_any, w_sum, w_join, w_app, w_ext, w_pop, w_tyj, w_tya, w_tye, w_typ, w_isin, w_isib, w_isii, w_isis, w_isit, w_ont, w_onf, w_ons, w_onl, w_rng1, w_rng2, w_nm, w_tp, Option.some.injEq, exists_eq_left', exists_eq_left, exists_eq, exists_eq', List.getElem?_cons_zero, List.getElem?_cons_succ, List.set_cons_zero, List.set_cons_succ, List.map_cons, List.map_nil, List.cons_append, List.nil_append, List.length_cons, List.length_nil, M.int.injEq, M.ref.injEq, M.str.injEq, M.bl.injEq, M.tup.injEq, List.replicate, Nat.reduceSub, Nat.reduceAdd, true_and, and_true, exists_and_left, exists_and_right, at_0, at_1, at_2, at_3, at_4, Nat.reduceLT, List.length_set, MO.lst.injEq, ix_0, ix_1, ix_2, beq_iff_eq, reduceCtorEq, if_true, if_false, ite_true, ite_false, getL_new, wipeE, Bool.false_eq_true, decide_true, decide_false, Bool.not_true, Bool.not_false, Int.reduceLT]
    exact q [116, 119, 105, 99, 101] [hands, t] _ ⟨by decide, by simp, by simp; omega, ⟨_, rfl⟩, fun e => absurd e (by decide)⟩ (g5.mono (by omega)).app
  · simp only [wSs, wS, wE, wEs, wAnd, wOr, wT, wAndT, wOrT, wO, wC, wI, setAll, w_add, w_adds, w_addt, w_addl, w_sub, w_mul, w_mull, w_div, w_mod, w_pow, w_shl, w_eq, w_ne, w_in, w_nin, w_lt, w_le, w_gt, w_ge, w_is, w_isn, w_eqi, w_eqs, w_eqb, w_tn, w_tb, w_ti, w_tt, w_it, w_if, w_is', w_il, w_st, w_ss, w_sl, w_lent, w_lenf, w_lens, w_lenl, w_tupt, w_tupl, w_lstt, w_lstl, w_stri, w_strs, w_inti, w_intb, w_min2, w_max2, w_abs, w_all, w_any, w_sum, w_join, w_app, w_ext, w_pop, w_tyj, w_tya, w_tye, w_typ, w_isin, w_isib, w_isii, w_isis, w_isit, w_ont, w_onf, w_ons, w_onl, w_rng1, w_rng2, w_nm, w_tp, Option.some.injEq, exists_eq_left', exists_eq_left, exists_eq, exists_eq', List.getElem?_cons_zero, List.getElem?_cons_succ, List.set_cons_zero, List.set_cons_succ, List.map_cons, List.map_nil, List.cons_append, List.nil_append, List.length_cons, List.length_nil, M.int.injEq, M.ref.injEq, M.str.injEq, M.bl.injEq, M.tup.injEq, List.replicate, Nat.reduceSub, Nat.reduceAdd, true_and, and_true, exists_and_left, exists_and_right, at_0, at_1, at_2, at_3, at_4, Nat.reduceLT, List.length_set, MO.lst.injEq, ix_0, ix_1, ix_2, beq_iff_eq, reduceCtorEq, if_true, if_false, ite_true, ite_false, getL_new, wipeE, Bool.false_eq_true, decide_true, decide_false, Bool.not_true, Bool.not_false, Int.reduceLT, Int.reduceEq]
    exact q [104, 97, 110, 100, 101, 100] [hands, t, m] _ ⟨by decide, by simp, by simp; omega, ⟨_, rfl⟩, fun e => absurd e (by decide)⟩ (g5.mono (by omega))
  · simp only [wSs, wS, wE, wEs, wAnd, wOr, wT, wAndT, wOrT, wO, wC, wI, setAll, w_add, w_adds, w_addt, w_addl, w_sub, w_mul, w_mull, w_div, w_mod, w_pow, w_shl, w_eq, w_ne, w_in, w_nin, w_lt, w_le, w_gt, w_ge, w_is, w_isn, w_eqi, w_eqs, w_eqb, w_tn, w_tb, w_ti, w_tt, w_it, w_if, w_is', w_il, w_st, w_ss, w_sl, w_lent, w_lenf, w_lens, w_lenl, w_tupt, w_tupl, w_lstt, w_lstl, w_stri, w_strs, w_inti, w_intb, w_min2, w_max2, w_abs, w_all, w_any, w_sum, w_join, w_app, w_ext, w_pop, w_tyj, w_tya, w_tye, w_typ, w_isin, w_isib, w_isii, w_isis, w_isit, w_ont, w_onf, w_ons, w_onl, w_rng1, w_rng2, w_nm, w_tp, Option.some.injEq, exists_eq_left', exists_eq_left, exists_eq, exists_eq', List.getElem?_cons_zero, List.getElem?_cons_succ, List.set_cons_zero, List.set_cons_succ, List.map_cons, List.map_nil, List.cons_append, List.nil_append, List.length_cons, List.length_nil, M.int.injEq, M.ref.injEq, M.str.injEq, M.bl.injEq, M.tup.injEq, List.replicate, Nat.reduceSub, Nat.reduceAdd, true_and, and_true, exists_and_left, exists_and_right, at_0, at_1, at_2, at_3, at_4, Nat.reduceLT, List.length_set, MO.lst.injEq, ix_0, ix_1, ix_2, beq_iff_eq, reduceCtorEq, if_true, if_false, ite_true, ite_false, getL_new, wipeE, Bool.false_eq_true, decide_true, decide_false, Bool.not_true, Bool.not_false, Int.reduceLT, Int.reduceEq]
    exact ⟨by omega, by omega, q [115, 105, 103, 110, 115] [hands, b, c, m] _ ⟨by decide, by simp, by simp; omega, ⟨_, rfl⟩, fun e => absurd e (by decide)⟩ (g5.mono (by omega))⟩
  · have l1 : (way < 2) = False := by simp; omega
    have l2 : (way = 2) = False := by simp; omega
    have l3 : (way = 3) = False := by simp; omega
    simp only [wSs, wS, wE, wEs, wAnd, wOr, wT, wAndT, wOrT, wO, wC, wI, setAll, w_add, w_adds, w_addt, w_addl, w_sub, w_mul, w_mull, w_div, w_mod, w_pow, w_shl, w_eq, w_ne, w_in, w_nin, w_lt, w_le, w_gt, w_ge, w_is, w_isn, w_eqi, w_eqs, w_eqb, w_tn, w_tb, w_ti, w_tt, w_it, w_if, w_is', w_il, w_st, w_ss, w_sl, w_lent, w_lenf, w_lens, w_lenl, w_tupt, w_tupl, w_lstt, w_lstl, w_stri, w_strs, w_inti, w_intb, w_min2, w_max2, w_abs, w_all, w_any, w_sum, w_join, w_app, w_ext, w_pop, w_tyj, w_tya, w_tye, w_typ, w_isin, w_isib, w_isii, w_isis, w_isit, w_ont, w_onf, w_ons, w_onl, w_rng1, w_rng2, w_nm, w_tp, Option.some.injEq, exists_eq_left', exists_eq_left, exists_eq, exists_eq', List.getElem?_cons_zero, List.getElem?_cons_succ, List.set_cons_zero, List.set_cons_succ, List.map_cons, List.map_nil, List.cons_append, List.nil_append, List.length_cons, List.length_nil, M.int.injEq, M.ref.injEq, M.str.injEq, M.bl.injEq, M.tup.injEq, List.replicate, Nat.reduceSub, Nat.reduceAdd, true_and, and_true, exists_and_left, exists_and_right, at_0, at_1, at_2, at_3, at_4, Nat.reduceLT, List.length_set, MO.lst.injEq, ix_0, ix_1, ix_2, beq_iff_eq, reduceCtorEq, if_true, if_false, ite_true, ite_false, getL_new, wipeE, Bool.false_eq_true, decide_true, decide_false, Bool.not_true, Bool.not_false, l1, l2, l3]
    refine tk g5 (by omega) (by decide) (by decide) fun p h6 p0 p1 g6 => ?_
    try simp only [wSs, wS, wE, wEs, wAnd, wOr, wT, wAndT, wOrT, wO, wC, wI, setAll, w_add, w_adds, w_addt, w_addl, w_sub, w_mul, w_mull, w_div, w_mod, w_pow, w_shl, w_eq, w_ne, w_in, w_nin, w_lt, w_le, w_gt, w_ge, w_is, w_isn, w_eqi, w_eqs, w_eqb, w_tn, w_tb, w_ti, w_tt, w_it, w_if, w_is', w_il, w_st, w_ss, w_sl, w_lent, w_lenf, w_lens, w_lenl, w_tupt, w_tupl, w_lstt, w_lstl, w_stri, w_strs, w_inti, w_intb, w_min2, w_max2, w_abs, w_all, w_any, w_sum, w_join, w_app, w_ext, w_pop, w_tyj, w_tya, w_tye, w_typ, w_isin, w_isib, w_isii, w_isis, w_isit, w_ont, w_onf, w_ons, w_onl, w_rng1, w_rng2, w_nm, w_tp, Option.some.injEq, exists_eq_left', exists_eq_left, exists_eq, exists_eq', List.getElem?_cons_zero, List.getElem?_cons_succ, List.set_cons_zero, List.set_cons_succ, List.map_cons, List.map_nil, List.cons_append, List.nil_append, List.length_cons, List.length_nil, M.int.injEq, M.ref.injEq, M.str.injEq, M.bl.injEq, M.tup.injEq, List.replicate, Nat.reduceSub, Nat.reduceAdd, true_and, and_true, exists_and_left, exists_and_right, at_0, at_1, at_2, at_3, at_4, Nat.reduceLT, List.length_set, MO.lst.injEq, ix_0, ix_1, ix_2, beq_iff_eq, reduceCtorEq, if_true, if_false, ite_true, ite_false, getL_new, wipeE, Bool.false_eq_true, decide_true, decide_false, Bool.not_true, Bool.not_false]
    exact ⟨by omega, by omega, q [115, 104, 97, 114, 101, 100] [hands, 1 + p, b, c, m] _ ⟨by decide, by simp, by simp; omega, ⟨_, rfl⟩, fun e => ⟨_, _, rfl, by omega, by omega⟩⟩ (g6.mono (by omega))⟩
theorem value_gen (g : GK k h0 h u) (hu : u ≤ 2 ^ 39) (q : ∀ v h', Vd 3 v → GK k h0 h' (u + 3) → Q v h') : S (n + 3) k_law_value [.ref k] h Q X := by
  refine ⟨p_law_value, rfl, ?_⟩
  simp only [wF, p_law_value, startE]
  try simp only [wSs, wS, wE, wEs, wAnd, wOr, wT, wAndT, wOrT, wO, wC, wI, setAll, w_add, w_adds, w_addt, w_addl, w_sub, w_mul, w_mull, w_div, w_mod, w_pow, w_shl, w_eq, w_ne, w_in, w_nin, w_lt, w_le, w_gt, w_ge, w_is, w_isn, w_eqi, w_eqs, w_eqb, w_tn, w_tb, w_ti, w_tt, w_it, w_if, w_is', w_il, w_st, w_ss, w_sl, w_lent, w_lenf, w_lens, w_lenl, w_tupt, w_tupl, w_lstt, w_lstl, w_stri, w_strs, w_inti, w_intb, w_min2, w_max2, w_abs, w_all, w_any, w_sum, w_join, w_app, w_ext, w_pop, w_tyj, w_tya, w_tye, w_typ, w_isin, w_isib, w_isii, w_isis, w_isit, w_ont, w_onf, w_ons, w_onl, w_rng1, w_rng2, w_nm, w_tp, Option.some.injEq, exists_eq_left', exists_eq_left, exists_eq, exists_eq', List.getElem?_cons_zero, List.getElem?_cons_succ, List.set_cons_zero, List.set_cons_succ, List.map_cons, List.map_nil, List.cons_append, List.nil_append, List.length_cons, List.length_nil, M.int.injEq, M.ref.injEq, M.str.injEq, M.bl.injEq, M.tup.injEq, List.replicate, Nat.reduceSub, Nat.reduceAdd, true_and, and_true, exists_and_left, exists_and_right, at_0, at_1, at_2, at_3, at_4, Nat.reduceLT, List.length_set, MO.lst.injEq, ix_0, ix_1, ix_2, beq_iff_eq, reduceCtorEq, if_true, if_false, ite_true, ite_false, getL_new, wipeE, Bool.false_eq_true, decide_true, decide_false, Bool.not_true, Bool.not_false]
  refine tk g (by omega) (by decide) (by decide) fun way h1 w0 w1 g1 => ?_
  try simp only [wSs, wS, wE, wEs, wAnd, wOr, wT, wAndT, wOrT, wO, wC, wI, setAll, w_add, w_adds, w_addt, w_addl, w_sub, w_mul, w_mull, w_div, w_mod, w_pow, w_shl, w_eq, w_ne, w_in, w_nin, w_lt, w_le, w_gt, w_ge, w_is, w_isn, w_eqi, w_eqs, w_eqb, w_tn, w_tb, w_ti, w_tt, w_it, w_if, w_is', w_il, w_st, w_ss, w_sl, w_lent, w_lenf, w_lens, w_lenl, w_tupt, w_tupl, w_lstt, w_lstl, w_stri, w_strs, w_inti, w_intb, w_min2, w_max2, w_abs, w_all, w_any, w_sum, w_join, w_app, w_ext, w_pop, w_tyj, w_tya, w_tye, w_typ, w_isin, w_isib, w_isii, w_isis, w_isit, w_ont, w_onf, w_ons, w_onl, w_rng1, w_rng2, w_nm, w_tp, Option.some.injEq, exists_eq_left', exists_eq_left, exists_eq, exists_eq', List.getElem?_cons_zero, List.getElem?_cons_succ, List.set_cons_zero, List.set_cons_succ, List.map_cons, List.map_nil, List.cons_append, List.nil_append, List.length_cons, List.length_nil, M.int.injEq, M.ref.injEq, M.str.injEq, M.bl.injEq, M.tup.injEq, List.replicate, Nat.reduceSub, Nat.reduceAdd, true_and, and_true, exists_and_left, exists_and_right, at_0, at_1, at_2, at_3, at_4, Nat.reduceLT, List.length_set, MO.lst.injEq, ix_0, ix_1, ix_2, beq_iff_eq, reduceCtorEq, if_true, if_false, ite_true, ite_false, getL_new, wipeE, Bool.false_eq_true, decide_true, decide_false, Bool.not_true, Bool.not_false]
  rcases (by omega : way = 0 ∨ way = 1 ∨ 2 ≤ way) with rfl | rfl | hw
  · simp only [wSs, wS, wE, wEs, wAnd, wOr, wT, wAndT, wOrT, wO, wC, wI, setAll, w_add, w_adds, w_addt, w_addl, w_sub, w_mul, w_mull, w_div, w_mod, w_pow, w_shl, w_eq, w_ne, w_in, w_nin, w_lt, w_le, w_gt, w_ge, w_is, w_isn, w_eqi, w_eqs, w_eqb, w_tn, w_tb, w_ti, w_tt, w_it, w_if, w_is', w_il, w_st, w_ss, w_sl, w_lent, w_lenf, w_lens, w_lenl, w_tupt, w_tupl, w_lstt, w_lstl, w_stri, w_strs, w_inti, w_intb, w_min2, w_max2, w_abs, w_all, w_any, w_sum, w_join, w_app, w_ext, w_pop, w_tyj, w_tya, w_tye, w_typ, w_isin, w_isib, w_isii, w_isis, w_isit, w_ont, w_onf, w_ons, w_onl, w_rng1, w_rng2, w_nm, w_tp, Option.some.injEq, exists_eq_left', exists_eq_left, exists_eq, exists_eq', List.getElem?_cons_zero, List.getElem?_cons_succ, List.set_cons_zero, List.set_cons_succ, List.map_cons, List.map_nil, List.cons_append, List.nil_append, List.length_cons, List.length_nil, M.int.injEq, M.ref.injEq, M.str.injEq, M.bl.injEq, M.tup.injEq, List.replicate, Nat.reduceSub, Nat.reduceAdd, true_and, and_true, exists_and_left, exists_and_right, at_0, at_1, at_2, at_3, at_4, Nat.reduceLT, List.length_set, MO.lst.injEq, ix_0, ix_1, ix_2, beq_iff_eq, reduceCtorEq, if_true, if_false, ite_true, ite_false, getL_new, wipeE, Bool.false_eq_true, decide_true, decide_false, Bool.not_true, Bool.not_false]
    refine tk g1 (by omega) (by decide) (by decide) fun a h2 a0 a1 g2 => ?_
    try simp only [wSs, wS, wE, wEs, wAnd, wOr, wT, wAndT, wOrT, wO, wC, wI, setAll, w_add, w_adds, w_addt, w_addl, w_sub, w_mul, w_mull, w_div, w_mod, w_pow, w_shl, w_eq, w_ne, w_in, w_nin, w_lt, w_le, w_gt, w_ge, w_is, w_isn, w_eqi, w_eqs, w_eqb, w_tn, w_tb, w_ti, w_tt, w_it, w_if, w_is', w_il, w_st, w_ss, w_sl, w_lent, w_lenf, w_lens, w_lenl, w_tupt, w_tupl, w_lstt, w_lstl, w_stri, w_strs, w_inti, w_intb, w_min2, w_max2, w_abs, w_all, w_any, w_sum, w_join, w_app, w_ext, w_pop, w_tyj, w_tya, w_tye, w_typ, w_isin, w_isib, w_isii, w_isis, w_isit, w_ont, w_onf, w_ons, w_onl, w_rng1, w_rng2, w_nm, w_tp, Option.some.injEq, exists_eq_left', exists_eq_left, exists_eq, exists_eq', List.getElem?_cons_zero, List.getElem?_cons_succ, List.set_cons_zero, List.set_cons_succ, List.map_cons, List.map_nil, List.cons_append, List.nil_append, List.length_cons, List.length_nil, M.int.injEq, M.ref.injEq, M.str.injEq, M.bl.injEq, M.tup.injEq, List.replicate, Nat.reduceSub, Nat.reduceAdd, true_and, and_true, exists_and_left, exists_and_right, at_0, at_1, at_2, at_3, at_4, Nat.reduceLT, List.length_set, MO.lst.injEq, ix_0, ix_1, ix_2, beq_iff_eq, reduceCtorEq, if_true, if_false, ite_true, ite_false, getL_new, wipeE, Bool.false_eq_true, decide_true, decide_false, Bool.not_true, Bool.not_false]
    refine tk g2 (by omega) (by decide) (by decide) fun b h3 b0 b1 g3 => ?_
    try simp only [wSs, wS, wE, wEs, wAnd, wOr, wT, wAndT, wOrT, wO, wC, wI, setAll, w_add, w_adds, w_addt, w_addl, w_sub, w_mul, w_mull, w_div, w_mod, w_pow, w_shl, w_eq, w_ne, w_in, w_nin, w_lt, w_le, w_gt, w_ge, w_is, w_isn, w_eqi, w_eqs, w_eqb, w_tn, w_tb, w_ti, w_tt, w_it, w_if, w_is', w_il, w_st, w_ss, w_sl, w_lent, w_lenf, w_lens, w_lenl, w_tupt, w_tupl, w_lstt, w_lstl, w_stri, w_strs, w_inti, w_intb, w_min2, w_max2, w_abs, w_all, w_any, w_sum, w_join, w_app, w_ext, w_pop, w_tyj, w_tya, w_tye, w_typ, w_isin, w_isib, w_isii, w_isis, w_isit, w_ont, w_onf, w_ons, w_onl, w_rng1, w_rng2, w_nm, w_tp, Option.some.injEq, exists_eq_left', exists_eq_left, exists_eq, exists_eq', List.getElem?_cons_zero, List.getElem?_cons_succ, List.set_cons_zero, List.set_cons_succ, List.map_cons, List.map_nil, List.cons_append, List.nil_append, List.length_cons, List.length_nil, M.int.injEq, M.ref.injEq, M.str.injEq, M.bl.injEq, M.tup.injEq, List.replicate, Nat.reduceSub, Nat.reduceAdd, true_and, and_true, exists_and_left, exists_and_right, at_0, at_1, at_2, at_3, at_4, Nat.reduceLT, List.length_set, MO.lst.injEq, ix_0, ix_1, ix_2, beq_iff_eq, reduceCtorEq, if_true, if_false, ite_true, ite_false, getL_new, wipeE, Bool.false_eq_true, decide_true, decide_false, Bool.not_true, Bool.not_false]
    refine q _ _ ⟨by simp, fun x hx => ?_⟩ (g3.mono (by omega))
    rcases List.mem_cons.mp hx with rfl | hx
    · show a.natAbs < 10 ^ 12
      omega
    rcases List.mem_singleton.mp hx with rfl
    refine ⟨by simp, fun x hx => ?_⟩
    rcases List.mem_cons.mp hx with rfl | hx
    · show (b - 1).natAbs < 10 ^ 12
      omega
    rcases List.mem_singleton.mp hx with rfl
    exact ⟨by simp, fun x hx => by cases hx⟩
  · simp only [wSs, wS, wE, wEs, wAnd, wOr, wT, wAndT, wOrT, wO, wC, wI, setAll, w_add, w_adds, w_addt, w_addl, w_sub, w_mul, w_mull, w_div, w_mod, w_pow, w_shl, w_eq, w_ne, w_in, w_nin, w_lt, w_le, w_gt, w_ge, w_is, w_isn, w_eqi, w_eqs, w_eqb, w_tn, w_tb, w_ti, w_tt, w_it, w_if, w_is', w_il, w_st, w_ss, w_sl, w_lent, w_lenf, w_lens, w_lenl, w_tupt, w_tupl, w_lstt, w_lstl, w_stri, w_strs, w_inti, w_intb, w_min2, w_max2, w_abs, w_all, w_any, w_sum, w_join, w_app, w_ext, w_pop, w_tyj, w_tya, w_tye, w_typ, w_isin, w_isib, w_isii, w_isis, w_isit, w_ont, w_onf, w_ons, w_onl, w_rng1, w_rng2, w_nm, w_tp, Option.some.injEq, exists_eq_left', exists_eq_left, exists_eq, exists_eq', List.getElem?_cons_zero, List.getElem?_cons_succ, List.set_cons_zero, List.set_cons_succ, List.map_cons, List.map_nil, List.cons_append, List.nil_append, List.length_cons, List.length_nil, M.int.injEq, M.ref.injEq, M.str.injEq, M.bl.injEq, M.tup.injEq, List.replicate, Nat.reduceSub, Nat.reduceAdd, true_and, and_true, exists_and_left, exists_and_right, at_0, at_1, at_2, at_3, at_4, Nat.reduceLT, List.length_set, MO.lst.injEq, ix_0, ix_1, ix_2, beq_iff_eq, reduceCtorEq, if_true, if_false, ite_true, ite_false, getL_new, wipeE, Bool.false_eq_true, decide_true, decide_false, Bool.not_true, Bool.not_false, Int.reduceEq]
    have hp : CPow 10 12 := by unfold CPow; decide
    refine ⟨hp, hp, ?_⟩
    refine pk g1.app (by omega) get_new (by have := g1.lt; omega) (by simp) (by simp) fun x h2 hx g2 => ?_
    refine q _ _ ?_ (g2.mono (by omega))
    simp only [List.mem_cons, List.not_mem_nil, or_false] at hx
    rcases hx with rfl | rfl | rfl | rfl | rfl
    · show (-1 : Int).natAbs < 10 ^ 12
      decide
    · show (10 ^ Int.toNat 12 - 1 : Int).natAbs < 10 ^ 12
      decide
    · show (1 - 10 ^ Int.toNat 12 : Int).natAbs < 10 ^ 12
      decide
    · exact ⟨by simp, fun x hx => by cases hx⟩
    · refine ⟨by simp, fun x hx => ?_⟩
      rcases List.mem_singleton.mp hx with rfl
      show (0 : Int).natAbs < 10 ^ 12
      decide
  · have l0 : (way = 0) = False := by simp; omega
    have l1 : (way = 1) = False := by simp; omega
    simp only [wSs, wS, wE, wEs, wAnd, wOr, wT, wAndT, wOrT, wO, wC, wI, setAll, w_add, w_adds, w_addt, w_addl, w_sub, w_mul, w_mull, w_div, w_mod, w_pow, w_shl, w_eq, w_ne, w_in, w_nin, w_lt, w_le, w_gt, w_ge, w_is, w_isn, w_eqi, w_eqs, w_eqb, w_tn, w_tb, w_ti, w_tt, w_it, w_if, w_is', w_il, w_st, w_ss, w_sl, w_lent, w_lenf, w_lens, w_lenl, w_tupt, w_tupl, w_lstt, w_lstl, w_stri, w_strs, w_inti, w_intb, w_min2, w_max2, w_abs, w_all, w_any, w_sum, w_join, w_app, w_ext, w_pop, w_tyj, w_tya, w_tye, w_typ, w_isin, w_isib, w_isii, w_isis, w_isit, w_ont, w_onf, w_ons, w_onl, w_rng1, w_rng2, w_nm, w_tp, Option.some.injEq, exists_eq_left', exists_eq_left, exists_eq, exists_eq', List.getElem?_cons_zero, List.getElem?_cons_succ, List.set_cons_zero, List.set_cons_succ, List.map_cons, List.map_nil, List.cons_append, List.nil_append, List.length_cons, List.length_nil, M.int.injEq, M.ref.injEq, M.str.injEq, M.bl.injEq, M.tup.injEq, List.replicate, Nat.reduceSub, Nat.reduceAdd, true_and, and_true, exists_and_left, exists_and_right, at_0, at_1, at_2, at_3, at_4, Nat.reduceLT, List.length_set, MO.lst.injEq, ix_0, ix_1, ix_2, beq_iff_eq, reduceCtorEq, if_true, if_false, ite_true, ite_false, getL_new, wipeE, Bool.false_eq_true, decide_true, decide_false, Bool.not_true, Bool.not_false, l0, l1]
    refine tk g1 (by omega) (by decide) (by decide) fun a h2 a0 a1 g2 => ?_
    refine q _ _ ?_ (g2.mono (by omega))
    show a.natAbs < 10 ^ 12
    omega
theorem rng_small {b : Int} (b0 : 0 ≤ b) (b1 : b ≤ 1000) : rngOk 0 b := by
  have := sizeL
  exact ⟨by decide, by decide, by omega, by omega, by omega⟩
theorem rng_len {b : Int} : (rngL 0 b).length = b.toNat := by unfold rngL; simp
theorem deeds_gen {w : List Nat} {is : List Int} {hands own many : Int} (M0 : Man w is hands) (g : GK k h0 h u) (hu : u ≤ 2 ^ 38) (o0 : 0 ≤ own) (o1 : own < 10) (m0 : 0 ≤ many) (m1 : many ≤ 12)
    (q : ∀ ds h', (JB.deeds ds).ok → GK k h0 h' (u + 72) → Q (JB.deeds ds).m h') : S (n + 4) k_law_deeds [.ref k, .tup (.str w :: is.map M.int), .int own, .int many] h Q X := by
  refine ⟨p_law_deeds, rfl, ?_⟩
  have hsz := sizeL
  simp only [wF, p_law_deeds, startE]
  try simp only [wSs, wS, wE, wEs, wAnd, wOr, wT, wAndT, wOrT, wO, wC, wI, setAll, w_add, w_adds, w_addt, w_addl, w_sub, w_mul, w_mull, w_div, w_mod, w_pow, w_shl, w_eq, w_ne, w_in, w_nin, w_lt, w_le, w_gt, w_ge, w_is, w_isn, w_eqi, w_eqs, w_eqb, w_tn, w_tb, w_ti, w_tt, w_it, w_if, w_is', w_il, w_st, w_ss, w_sl, w_lent, w_lenf, w_lens, w_lenl, w_tupt, w_tupl, w_lstt, w_lstl, w_stri, w_strs, w_inti, w_intb, w_min2, w_max2, w_abs, w_all, w_any, w_sum, w_join, w_app, w_ext, w_pop, w_tyj, w_tya, w_tye, w_typ, w_isin, w_isib, w_isii, w_isis, w_isit, w_ont, w_onf, w_ons, w_onl, w_rng1, w_rng2, w_nm, w_tp, Option.some.injEq, exists_eq_left', exists_eq_left, exists_eq, exists_eq', List.getElem?_cons_zero, List.getElem?_cons_succ, List.set_cons_zero, List.set_cons_succ, List.map_cons, List.map_nil, List.cons_append, List.nil_append, List.length_cons, List.length_nil, M.int.injEq, M.ref.injEq, M.str.injEq, M.bl.injEq, M.tup.injEq, List.replicate, Nat.reduceSub, Nat.reduceAdd, true_and, and_true, exists_and_left, exists_and_right, at_0, at_1, at_2, at_3, at_4, Nat.reduceLT, List.length_set, MO.lst.injEq, ix_0, ix_1, ix_2, beq_iff_eq, reduceCtorEq, if_true, if_false, ite_true, ite_false, getL_new, wipeE, Bool.false_eq_true, decide_true, decide_false, Bool.not_true, Bool.not_false]
  refine ⟨rng_small m0 (by omega), ?_⟩
  generalize hr : h.length = r
  have hrk : r ≠ k := by have := g.lt; omega
  have hr0 : h0.length ≤ r := by have := g.1.1; omega
  refine for_inv (fun i e h' => ∃ ds a5, e = [some (M.ref k), some (.tup (.str w :: is.map M.int)), some (.int own), some (.int many), some (M.ref r), a5] ∧ ds.length ≤ i ∧ (∀ d ∈ ds, d.ok) ∧ h'[r]? = some (.lst (ds.map DD.m)) ∧ GK k h0 h' (u + 6 * i))
    ⟨[], none, rfl, Nat.le_refl _, (fun _ hx => nomatch hx), by subst hr; exact get_new, by simpa using g.app⟩ (fun _ _ _ _ => trivial) ?_ ?_
  · rintro e h' ⟨ds, a5, rfl, hl, hd, hr', g'⟩
    rw [rng_len] at hl g'
    simp only [wSs, wS, wE, wEs, wAnd, wOr, wT, wAndT, wOrT, wO, wC, wI, setAll, w_add, w_adds, w_addt, w_addl, w_sub, w_mul, w_mull, w_div, w_mod, w_pow, w_shl, w_eq, w_ne, w_in, w_nin, w_lt, w_le, w_gt, w_ge, w_is, w_isn, w_eqi, w_eqs, w_eqb, w_tn, w_tb, w_ti, w_tt, w_it, w_if, w_is', w_il, w_st, w_ss, w_sl, w_lent, w_lenf, w_lens, w_lenl, w_tupt, w_tupl, w_lstt, w_lstl, w_stri, w_strs, w_inti, w_intb, w_min2, w_max2, w_abs, w_all, w_any, w_sum, w_join, w_app, w_ext, w_pop, w_tyj, w_tya, w_tye, w_typ, w_isin, w_isib, w_isii, w_isis, w_isit, w_ont, w_onf, w_ons, w_onl, w_rng1, w_rng2, w_nm, w_tp, Option.some.injEq, exists_eq_left', exists_eq_left, exists_eq, exists_eq', List.getElem?_cons_zero, List.getElem?_cons_succ, List.set_cons_zero, List.set_cons_succ, List.map_cons, List.map_nil, List.cons_append, List.nil_append, List.length_cons, List.length_nil, M.int.injEq, M.ref.injEq, M.str.injEq, M.bl.injEq, M.tup.injEq, List.replicate, Nat.reduceSub, Nat.reduceAdd, true_and, and_true, exists_and_left, exists_and_right, at_0, at_1, at_2, at_3, at_4, Nat.reduceLT, List.length_set, MO.lst.injEq, ix_0, ix_1, ix_2, beq_iff_eq, reduceCtorEq, if_true, if_false, ite_true, ite_false, getL_new, wipeE, Bool.false_eq_true, decide_true, decide_false, Bool.not_true, Bool.not_false, getL_of hr']
    exact q ds h' ⟨by omega, hd⟩ (g'.mono (by omega))
  · rintro i x e h' N hx ⟨ds, a5, rfl, hl, hd, hr', g'⟩ kk
    obtain ⟨rfl, hi⟩ := rngL_get hx
    refine ⟨_, rfl, ?_⟩
    try simp only [wSs, wS, wE, wEs, wAnd, wOr, wT, wAndT, wOrT, wO, wC, wI, setAll, w_add, w_adds, w_addt, w_addl, w_sub, w_mul, w_mull, w_div, w_mod, w_pow, w_shl, w_eq, w_ne, w_in, w_nin, w_lt, w_le, w_gt, w_ge, w_is, w_isn, w_eqi, w_eqs, w_eqb, w_tn, w_tb, w_ti, w_tt, w_it, w_if, w_is', w_il, w_st, w_ss, w_sl, w_lent, w_lenf, w_lens, w_lenl, w_tupt, w_tupl, w_lstt, w_lstl, w_stri, w_strs, w_inti, w_intb, w_min2, w_max2, w_abs, w_all, w_any, w_sum, w_join, w_app, w_ext, w_pop, w_tyj, w_tya, w_tye, w_typ, w_isin, w_isib, w_isii, w_isis, w_isit, w_ont, w_onf, w_ons, w_onl, w_rng1, w_rng2, w_nm, w_tp, Option.some.injEq, exists_eq_left', exists_eq_left, exists_eq, exists_eq', List.getElem?_cons_zero, List.getElem?_cons_succ, List.set_cons_zero, List.set_cons_succ, List.map_cons, List.map_nil, List.cons_append, List.nil_append, List.length_cons, List.length_nil, M.int.injEq, M.ref.injEq, M.str.injEq, M.bl.injEq, M.tup.injEq, List.replicate, Nat.reduceSub, Nat.reduceAdd, true_and, and_true, exists_and_left, exists_and_right, at_0, at_1, at_2, at_3, at_4, Nat.reduceLT, List.length_set, MO.lst.injEq, ix_0, ix_1, ix_2, beq_iff_eq, reduceCtorEq, if_true, if_false, ite_true, ite_false, getL_new, wipeE, Bool.false_eq_true, decide_true, decide_false, Bool.not_true, Bool.not_false]
    have fin : ∀ (d : DD) (a5 : Option M) (h2 : MH) (v : Int), d.ok → GK k h' h2 v → v ≤ u + 6 * i + 6 → N [some (M.ref k), some (.tup (.str w :: is.map M.int)), some (.int own), some (.int many), some (M.ref r), a5] (h2.set r (.lst (ds.map DD.m ++ [d.m]))) := fun d a5 h2 v hdo g2 hv => by
      refine kk _ _ ⟨ds ++ [d], a5, rfl, by simpa using hl, fun x hx => ?_, ?_, ?_⟩
      · rcases List.mem_append.mp hx with hx | hx
        · exact hd x hx
        · rcases List.mem_singleton.mp hx with rfl
          exact hdo
      · rw [set_self (g2.1.2 r _ hrk hr'), List.map_append]; rfl
      · exact ((g'.trans g2).setN hrk hr0).mono (by push_cast; omega)
    have isr : ∀ h1 v, GK k h' h1 v → (getL h1 r).isSome = true := fun h1 v g1 => by rw [getL_of (g1.1.2 r _ hrk hr')]; rfl
    have hlen : (ds.map DD.m).length < sizeLine := by rw [List.length_map]; omega
    refine tk g'.self (by omega) (by decide) (by decide) fun d h1 d0 d1 g1 => ?_
    try simp only [wSs, wS, wE, wEs, wAnd, wOr, wT, wAndT, wOrT, wO, wC, wI, setAll, w_add, w_adds, w_addt, w_addl, w_sub, w_mul, w_mull, w_div, w_mod, w_pow, w_shl, w_eq, w_ne, w_in, w_nin, w_lt, w_le, w_gt, w_ge, w_is, w_isn, w_eqi, w_eqs, w_eqb, w_tn, w_tb, w_ti, w_tt, w_it, w_if, w_is', w_il, w_st, w_ss, w_sl, w_lent, w_lenf, w_lens, w_lenl, w_tupt, w_tupl, w_lstt, w_lstl, w_stri, w_strs, w_inti, w_intb, w_min2, w_max2, w_abs, w_all, w_any, w_sum, w_join, w_app, w_ext, w_pop, w_tyj, w_tya, w_tye, w_typ, w_isin, w_isib, w_isii, w_isis, w_isit, w_ont, w_onf, w_ons, w_onl, w_rng1, w_rng2, w_nm, w_tp, Option.some.injEq, exists_eq_left', exists_eq_left, exists_eq, exists_eq', List.getElem?_cons_zero, List.getElem?_cons_succ, List.set_cons_zero, List.set_cons_succ, List.map_cons, List.map_nil, List.cons_append, List.nil_append, List.length_cons, List.length_nil, M.int.injEq, M.ref.injEq, M.str.injEq, M.bl.injEq, M.tup.injEq, List.replicate, Nat.reduceSub, Nat.reduceAdd, true_and, and_true, exists_and_left, exists_and_right, at_0, at_1, at_2, at_3, at_4, Nat.reduceLT, List.length_set, MO.lst.injEq, ix_0, ix_1, ix_2, beq_iff_eq, reduceCtorEq, if_true, if_false, ite_true, ite_false, getL_new, wipeE, Bool.false_eq_true, decide_true, decide_false, Bool.not_true, Bool.not_false]
    by_cases hd3 : d < 3
    · simp only [wSs, wS, wE, wEs, wAnd, wOr, wT, wAndT, wOrT, wO, wC, wI, setAll, w_add, w_adds, w_addt, w_addl, w_sub, w_mul, w_mull, w_div, w_mod, w_pow, w_shl, w_eq, w_ne, w_in, w_nin, w_lt, w_le, w_gt, w_ge, w_is, w_isn, w_eqi, w_eqs, w_eqb, w_tn, w_tb, w_ti, w_tt, w_it, w_if, w_is', w_il, w_st, w_ss, w_sl, w_lent, w_lenf, w_lens, w_lenl, w_tupt, w_tupl, w_lstt, w_lstl, w_stri, w_strs, w_inti, w_intb, w_min2, w_max2, w_abs, w_all, w_any, w_sum, w_join, w_app, w_ext, w_pop, w_tyj, w_tya, w_tye, w_typ, w_isin, w_isib, w_isii, w_isis, w_isit, w_ont, w_onf, w_ons, w_onl, w_rng1, w_rng2, w_nm, w_tp, Option.some.injEq, exists_eq_left', exists_eq_left, exists_eq, exists_eq', List.getElem?_cons_zero, List.getElem?_cons_succ, List.set_cons_zero, List.set_cons_succ, List.map_cons, List.map_nil, List.cons_append, List.nil_append, List.length_cons, List.length_nil, M.int.injEq, M.ref.injEq, M.str.injEq, M.bl.injEq, M.tup.injEq, List.replicate, Nat.reduceSub, Nat.reduceAdd, true_and, and_true, exists_and_left, exists_and_right, at_0, at_1, at_2, at_3, at_4, Nat.reduceLT, List.length_set, MO.lst.injEq, ix_0, ix_1, ix_2, beq_iff_eq, reduceCtorEq, if_true, if_false, ite_true, ite_false, getL_new, wipeE, Bool.false_eq_true, decide_true, decide_false, Bool.not_true, Bool.not_false, hd3]
      by_cases hs : w = [115, 104, 97, 114, 101, 100]
      · simp only [wSs, wS, wE, wEs, wAnd, wOr, wT, wAndT, wOrT, wO, wC, wI, setAll, w_add, w_adds, w_addt, w_addl, w_sub, w_mul, w_mull, w_div, w_mod, w_pow, w_shl, w_eq, w_ne, w_in, w_nin, w_lt, w_le, w_gt, w_ge, w_is, w_isn, w_eqi, w_eqs, w_eqb, w_tn, w_tb, w_ti, w_tt, w_it, w_if, w_is', w_il, w_st, w_ss, w_sl, w_lent, w_lenf, w_lens, w_lenl, w_tupt, w_tupl, w_lstt, w_lstl, w_stri, w_strs, w_inti, w_intb, w_min2, w_max2, w_abs, w_all, w_any, w_sum, w_join, w_app, w_ext, w_pop, w_tyj, w_tya, w_tye, w_typ, w_isin, w_isib, w_isii, w_isis, w_isit, w_ont, w_onf, w_ons, w_onl, w_rng1, w_rng2, w_nm, w_tp, Option.some.injEq, exists_eq_left', exists_eq_left, exists_eq, exists_eq', List.getElem?_cons_zero, List.getElem?_cons_succ, List.set_cons_zero, List.set_cons_succ, List.map_cons, List.map_nil, List.cons_append, List.nil_append, List.length_cons, List.length_nil, M.int.injEq, M.ref.injEq, M.str.injEq, M.bl.injEq, M.tup.injEq, List.replicate, Nat.reduceSub, Nat.reduceAdd, true_and, and_true, exists_and_left, exists_and_right, at_0, at_1, at_2, at_3, at_4, Nat.reduceLT, List.length_set, MO.lst.injEq, ix_0, ix_1, ix_2, beq_iff_eq, reduceCtorEq, if_true, if_false, ite_true, ite_false, getL_new, wipeE, Bool.false_eq_true, decide_true, decide_false, Bool.not_true, Bool.not_false, hs]
        obtain ⟨p, tl, rfl, p1, p4⟩ := M0.sh hs
        simp only [wSs, wS, wE, wEs, wAnd, wOr, wT, wAndT, wOrT, wO, wC, wI, setAll, w_add, w_adds, w_addt, w_addl, w_sub, w_mul, w_mull, w_div, w_mod, w_pow, w_shl, w_eq, w_ne, w_in, w_nin, w_lt, w_le, w_gt, w_ge, w_is, w_isn, w_eqi, w_eqs, w_eqb, w_tn, w_tb, w_ti, w_tt, w_it, w_if, w_is', w_il, w_st, w_ss, w_sl, w_lent, w_lenf, w_lens, w_lenl, w_tupt, w_tupl, w_lstt, w_lstl, w_stri, w_strs, w_inti, w_intb, w_min2, w_max2, w_abs, w_all, w_any, w_sum, w_join, w_app, w_ext, w_pop, w_tyj, w_tya, w_tye, w_typ, w_isin, w_isib, w_isii, w_isis, w_isit, w_ont, w_onf, w_ons, w_onl, w_rng1, w_rng2, w_nm, w_tp, Option.some.injEq, exists_eq_left', exists_eq_left, exists_eq, exists_eq', List.getElem?_cons_zero, List.getElem?_cons_succ, List.set_cons_zero, List.set_cons_succ, List.map_cons, List.map_nil, List.cons_append, List.nil_append, List.length_cons, List.length_nil, M.int.injEq, M.ref.injEq, M.str.injEq, M.bl.injEq, M.tup.injEq, List.replicate, Nat.reduceSub, Nat.reduceAdd, true_and, and_true, exists_and_left, exists_and_right, at_0, at_1, at_2, at_3, at_4, Nat.reduceLT, List.length_set, MO.lst.injEq, ix_0, ix_1, ix_2, beq_iff_eq, reduceCtorEq, if_true, if_false, ite_true, ite_false, getL_new, wipeE, Bool.false_eq_true, decide_true, decide_false, Bool.not_true, Bool.not_false]
        refine tk g1 (by omega) (by omega) (by omega) fun a h2 a0 a1 g2 => ?_
        try simp only [wSs, wS, wE, wEs, wAnd, wOr, wT, wAndT, wOrT, wO, wC, wI, setAll, w_add, w_adds, w_addt, w_addl, w_sub, w_mul, w_mull, w_div, w_mod, w_pow, w_shl, w_eq, w_ne, w_in, w_nin, w_lt, w_le, w_gt, w_ge, w_is, w_isn, w_eqi, w_eqs, w_eqb, w_tn, w_tb, w_ti, w_tt, w_it, w_if, w_is', w_il, w_st, w_ss, w_sl, w_lent, w_lenf, w_lens, w_lenl, w_tupt, w_tupl, w_lstt, w_lstl, w_stri, w_strs, w_inti, w_intb, w_min2, w_max2, w_abs, w_all, w_any, w_sum, w_join, w_app, w_ext, w_pop, w_tyj, w_tya, w_tye, w_typ, w_isin, w_isib, w_isii, w_isis, w_isit, w_ont, w_onf, w_ons, w_onl, w_rng1, w_rng2, w_nm, w_tp, Option.some.injEq, exists_eq_left', exists_eq_left, exists_eq, exists_eq', List.getElem?_cons_zero, List.getElem?_cons_succ, List.set_cons_zero, List.set_cons_succ, List.map_cons, List.map_nil, List.cons_append, List.nil_append, List.length_cons, List.length_nil, M.int.injEq, M.ref.injEq, M.str.injEq, M.bl.injEq, M.tup.injEq, List.replicate, Nat.reduceSub, Nat.reduceAdd, true_and, and_true, exists_and_left, exists_and_right, at_0, at_1, at_2, at_3, at_4, Nat.reduceLT, List.length_set, MO.lst.injEq, ix_0, ix_1, ix_2, beq_iff_eq, reduceCtorEq, if_true, if_false, ite_true, ite_false, getL_new, wipeE, Bool.false_eq_true, decide_true, decide_false, Bool.not_true, Bool.not_false]
        refine ⟨isr _ _ g2, ?_⟩
        refine value_gen g2 (by omega) fun v h3 hv g3 => ?_
        subst hs
        exact ⟨_, g3.1.2 r _ hrk hr', hlen, fin (.put a v) _ h3 _ ⟨by omega, hv⟩ g3 (by omega)⟩
      · simp only [wSs, wS, wE, wEs, wAnd, wOr, wT, wAndT, wOrT, wO, wC, wI, setAll, w_add, w_adds, w_addt, w_addl, w_sub, w_mul, w_mull, w_div, w_mod, w_pow, w_shl, w_eq, w_ne, w_in, w_nin, w_lt, w_le, w_gt, w_ge, w_is, w_isn, w_eqi, w_eqs, w_eqb, w_tn, w_tb, w_ti, w_tt, w_it, w_if, w_is', w_il, w_st, w_ss, w_sl, w_lent, w_lenf, w_lens, w_lenl, w_tupt, w_tupl, w_lstt, w_lstl, w_stri, w_strs, w_inti, w_intb, w_min2, w_max2, w_abs, w_all, w_any, w_sum, w_join, w_app, w_ext, w_pop, w_tyj, w_tya, w_tye, w_typ, w_isin, w_isib, w_isii, w_isis, w_isit, w_ont, w_onf, w_ons, w_onl, w_rng1, w_rng2, w_nm, w_tp, Option.some.injEq, exists_eq_left', exists_eq_left, exists_eq, exists_eq', List.getElem?_cons_zero, List.getElem?_cons_succ, List.set_cons_zero, List.set_cons_succ, List.map_cons, List.map_nil, List.cons_append, List.nil_append, List.length_cons, List.length_nil, M.int.injEq, M.ref.injEq, M.str.injEq, M.bl.injEq, M.tup.injEq, List.replicate, Nat.reduceSub, Nat.reduceAdd, true_and, and_true, exists_and_left, exists_and_right, at_0, at_1, at_2, at_3, at_4, Nat.reduceLT, List.length_set, MO.lst.injEq, ix_0, ix_1, ix_2, beq_iff_eq, reduceCtorEq, if_true, if_false, ite_true, ite_false, getL_new, wipeE, Bool.false_eq_true, decide_true, decide_false, Bool.not_true, Bool.not_false, hs]
        refine ⟨isr _ _ g1, ?_⟩
        refine value_gen g1 (by omega) fun v h3 hv g3 => ?_
        exact ⟨_, g3.1.2 r _ hrk hr', hlen, fin (.put own v) _ h3 _ ⟨by omega, hv⟩ g3 (by omega)⟩
    · simp only [wSs, wS, wE, wEs, wAnd, wOr, wT, wAndT, wOrT, wO, wC, wI, setAll, w_add, w_adds, w_addt, w_addl, w_sub, w_mul, w_mull, w_div, w_mod, w_pow, w_shl, w_eq, w_ne, w_in, w_nin, w_lt, w_le, w_gt, w_ge, w_is, w_isn, w_eqi, w_eqs, w_eqb, w_tn, w_tb, w_ti, w_tt, w_it, w_if, w_is', w_il, w_st, w_ss, w_sl, w_lent, w_lenf, w_lens, w_lenl, w_tupt, w_tupl, w_lstt, w_lstl, w_stri, w_strs, w_inti, w_intb, w_min2, w_max2, w_abs, w_all, w_any, w_sum, w_join, w_app, w_ext, w_pop, w_tyj, w_tya, w_tye, w_typ, w_isin, w_isib, w_isii, w_isis, w_isit, w_ont, w_onf, w_ons, w_onl, w_rng1, w_rng2, w_nm, w_tp, Option.some.injEq, exists_eq_left', exists_eq_left, exists_eq, exists_eq', List.getElem?_cons_zero, List.getElem?_cons_succ, List.set_cons_zero, List.set_cons_succ, List.map_cons, List.map_nil, List.cons_append, List.nil_append, List.length_cons, List.length_nil, M.int.injEq, M.ref.injEq, M.str.injEq, M.bl.injEq, M.tup.injEq, List.replicate, Nat.reduceSub, Nat.reduceAdd, true_and, and_true, exists_and_left, exists_and_right, at_0, at_1, at_2, at_3, at_4, Nat.reduceLT, List.length_set, MO.lst.injEq, ix_0, ix_1, ix_2, beq_iff_eq, reduceCtorEq, if_true, if_false, ite_true, ite_false, getL_new, wipeE, Bool.false_eq_true, decide_true, decide_false, Bool.not_true, Bool.not_false, hd3]
      exact ⟨isr _ _ g1, _, g1.1.2 r _ hrk hr', hlen, fin .look _ h1 _ trivial g1 (by omega)⟩
theorem jobs_gen {w : List Nat} {is : List Int} {hands : Int} (M0 : Man w is hands) (g : GK k h0 h u) (hu : u ≤ 2 ^ 37) (n0 : 0 < hands) (n1 : hands ≤ 5)
    (q : ∀ (js : List JB) h', js.length ≤ 5 → (∀ j ∈ js, JB.ok j) → GK k h0 h' (u + 500) → Q (.tup (js.map JB.m)) h') : S (n + 5) k_law_jobs [.ref k, .tup (.str w :: is.map M.int), .int 4] h Q X := by
  refine ⟨p_law_jobs, rfl, ?_⟩
  have hsz := sizeL
  simp only [wF, p_law_jobs, startE]
  obtain ⟨tl, hT⟩ := M0.hd
  have hT' : atI (M.str w :: is.map M.int) 1 = some (.int hands) := by rw [hT]; exact at_1
  simp only [wSs, wS, wE, wEs, wAnd, wOr, wT, wAndT, wOrT, wO, wC, wI, setAll, w_add, w_adds, w_addt, w_addl, w_sub, w_mul, w_mull, w_div, w_mod, w_pow, w_shl, w_eq, w_ne, w_in, w_nin, w_lt, w_le, w_gt, w_ge, w_is, w_isn, w_eqi, w_eqs, w_eqb, w_tn, w_tb, w_ti, w_tt, w_it, w_if, w_is', w_il, w_st, w_ss, w_sl, w_lent, w_lenf, w_lens, w_lenl, w_tupt, w_tupl, w_lstt, w_lstl, w_stri, w_strs, w_inti, w_intb, w_min2, w_max2, w_abs, w_all, w_any, w_sum, w_join, w_app, w_ext, w_pop, w_tyj, w_tya, w_tye, w_typ, w_isin, w_isib, w_isii, w_isis, w_isit, w_ont, w_onf, w_ons, w_onl, w_rng1, w_rng2, w_nm, w_tp, Option.some.injEq, exists_eq_left', exists_eq_left, exists_eq, exists_eq', List.getElem?_cons_zero, List.getElem?_cons_succ, List.set_cons_zero, List.set_cons_succ, List.map_cons, List.map_nil, List.cons_append, List.nil_append, List.length_cons, List.length_nil, M.int.injEq, M.ref.injEq, M.str.injEq, M.bl.injEq, M.tup.injEq, List.replicate, Nat.reduceSub, Nat.reduceAdd, true_and, and_true, exists_and_left, exists_and_right, at_0, at_1, at_2, at_3, at_4, Nat.reduceLT, List.length_set, MO.lst.injEq, ix_0, ix_1, ix_2, beq_iff_eq, reduceCtorEq, if_true, if_false, ite_true, ite_false, getL_new, wipeE, Bool.false_eq_true, decide_true, decide_false, Bool.not_true, Bool.not_false, hT']
  refine ⟨rng_small (by omega) (by omega), ?_⟩
  generalize hr : h.length = r
  have hrk : r ≠ k := by have := g.lt; omega
  have hr0 : h0.length ≤ r := by have := g.1.1; omega
  refine for_inv (fun i e h' => ∃ js a4 a5, e = [some (M.ref k), some (.tup (.str w :: is.map M.int)), some (.int 4), some (M.ref r), a4, a5] ∧ js.length ≤ i ∧ (∀ j ∈ js, JB.ok j) ∧ h'[r]? = some (.lst (js.map JB.m)) ∧ GK k h0 h' (u + 100 * i))
    ⟨[], none, none, rfl, Nat.le_refl _, (fun _ hx => nomatch hx), by subst hr; exact get_new, by simpa using g.app⟩ (fun _ _ _ _ => trivial) ?_ ?_
  · rintro e h' ⟨ds, a4, a5, rfl, hl, hd, hr', g'⟩
    rw [rng_len] at hl g'
    simp only [wSs, wS, wE, wEs, wAnd, wOr, wT, wAndT, wOrT, wO, wC, wI, setAll, w_add, w_adds, w_addt, w_addl, w_sub, w_mul, w_mull, w_div, w_mod, w_pow, w_shl, w_eq, w_ne, w_in, w_nin, w_lt, w_le, w_gt, w_ge, w_is, w_isn, w_eqi, w_eqs, w_eqb, w_tn, w_tb, w_ti, w_tt, w_it, w_if, w_is', w_il, w_st, w_ss, w_sl, w_lent, w_lenf, w_lens, w_lenl, w_tupt, w_tupl, w_lstt, w_lstl, w_stri, w_strs, w_inti, w_intb, w_min2, w_max2, w_abs, w_all, w_any, w_sum, w_join, w_app, w_ext, w_pop, w_tyj, w_tya, w_tye, w_typ, w_isin, w_isib, w_isii, w_isis, w_isit, w_ont, w_onf, w_ons, w_onl, w_rng1, w_rng2, w_nm, w_tp, Option.some.injEq, exists_eq_left', exists_eq_left, exists_eq, exists_eq', List.getElem?_cons_zero, List.getElem?_cons_succ, List.set_cons_zero, List.set_cons_succ, List.map_cons, List.map_nil, List.cons_append, List.nil_append, List.length_cons, List.length_nil, M.int.injEq, M.ref.injEq, M.str.injEq, M.bl.injEq, M.tup.injEq, List.replicate, Nat.reduceSub, Nat.reduceAdd, true_and, and_true, exists_and_left, exists_and_right, at_0, at_1, at_2, at_3, at_4, Nat.reduceLT, List.length_set, MO.lst.injEq, ix_0, ix_1, ix_2, beq_iff_eq, reduceCtorEq, if_true, if_false, ite_true, ite_false, getL_new, wipeE, Bool.false_eq_true, decide_true, decide_false, Bool.not_true, Bool.not_false, getL_of hr']
    exact q ds h' (by omega) hd (g'.mono (by omega))
  · rintro i x e h' N hx ⟨ds, a4, a5, rfl, hl, hd, hr', g'⟩ kk
    obtain ⟨rfl, hi⟩ := rngL_get hx
    refine ⟨_, rfl, ?_⟩
    try simp only [wSs, wS, wE, wEs, wAnd, wOr, wT, wAndT, wOrT, wO, wC, wI, setAll, w_add, w_adds, w_addt, w_addl, w_sub, w_mul, w_mull, w_div, w_mod, w_pow, w_shl, w_eq, w_ne, w_in, w_nin, w_lt, w_le, w_gt, w_ge, w_is, w_isn, w_eqi, w_eqs, w_eqb, w_tn, w_tb, w_ti, w_tt, w_it, w_if, w_is', w_il, w_st, w_ss, w_sl, w_lent, w_lenf, w_lens, w_lenl, w_tupt, w_tupl, w_lstt, w_lstl, w_stri, w_strs, w_inti, w_intb, w_min2, w_max2, w_abs, w_all, w_any, w_sum, w_join, w_app, w_ext, w_pop, w_tyj, w_tya, w_tye, w_typ, w_isin, w_isib, w_isii, w_isis, w_isit, w_ont, w_onf, w_ons, w_onl, w_rng1, w_rng2, w_nm, w_tp, Option.some.injEq, exists_eq_left', exists_eq_left, exists_eq, exists_eq', List.getElem?_cons_zero, List.getElem?_cons_succ, List.set_cons_zero, List.set_cons_succ, List.map_cons, List.map_nil, List.cons_append, List.nil_append, List.length_cons, List.length_nil, M.int.injEq, M.ref.injEq, M.str.injEq, M.bl.injEq, M.tup.injEq, List.replicate, Nat.reduceSub, Nat.reduceAdd, true_and, and_true, exists_and_left, exists_and_right, at_0, at_1, at_2, at_3, at_4, Nat.reduceLT, List.length_set, MO.lst.injEq, ix_0, ix_1, ix_2, beq_iff_eq, reduceCtorEq, if_true, if_false, ite_true, ite_false, getL_new, wipeE, Bool.false_eq_true, decide_true, decide_false, Bool.not_true, Bool.not_false]
    have fin : ∀ (d : JB) (a4 a5 : Option M) (h2 : MH) (v : Int), d.ok → GK k h' h2 v → v ≤ u + 100 * i + 100 → N [some (M.ref k), some (.tup (.str w :: is.map M.int)), some (.int 4), some (M.ref r), a4, a5] (h2.set r (.lst (ds.map JB.m ++ [d.m]))) := fun d a4 a5 h2 v hdo g2 hv => by
      refine kk _ _ ⟨ds ++ [d], a4, a5, rfl, by simpa using hl, fun x hx => ?_, ?_, ?_⟩
      · rcases List.mem_append.mp hx with hx | hx
        · exact hd x hx
        · rcases List.mem_singleton.mp hx with rfl
          exact hdo
      · rw [set_self (g2.1.2 r _ hrk hr'), List.map_append]; rfl
      · exact ((g'.trans g2).setN hrk hr0).mono (by push_cast; omega)
    have isr : ∀ h1 v, GK k h' h1 v → (getL h1 r).isSome = true := fun h1 v g1 => by rw [getL_of (g1.1.2 r _ hrk hr')]; rfl
    have hlen : (ds.map JB.m).length < sizeLine := by rw [List.length_map]; omega
    refine tk g'.self (by omega) (by decide) (by decide) fun d h1 d0 d1 g1 => ?_
    try simp only [wSs, wS, wE, wEs, wAnd, wOr, wT, wAndT, wOrT, wO, wC, wI, setAll, w_add, w_adds, w_addt, w_addl, w_sub, w_mul, w_mull, w_div, w_mod, w_pow, w_shl, w_eq, w_ne, w_in, w_nin, w_lt, w_le, w_gt, w_ge, w_is, w_isn, w_eqi, w_eqs, w_eqb, w_tn, w_tb, w_ti, w_tt, w_it, w_if, w_is', w_il, w_st, w_ss, w_sl, w_lent, w_lenf, w_lens, w_lenl, w_tupt, w_tupl, w_lstt, w_lstl, w_stri, w_strs, w_inti, w_intb, w_min2, w_max2, w_abs, w_all, w_any, w_sum, w_join, w_app, w_ext, w_pop, w_tyj, w_tya, w_tye, w_typ, w_isin, w_isib, w_isii, w_isis, w_isit, w_ont, w_onf, w_ons, w_onl, w_rng1, w_rng2, w_nm, w_tp, Option.some.injEq, exists_eq_left', exists_eq_left, exists_eq, exists_eq', List.getElem?_cons_zero, List.getElem?_cons_succ, List.set_cons_zero, List.set_cons_succ, List.map_cons, List.map_nil, List.cons_append, List.nil_append, List.length_cons, List.length_nil, M.int.injEq, M.ref.injEq, M.str.injEq, M.bl.injEq, M.tup.injEq, List.replicate, Nat.reduceSub, Nat.reduceAdd, true_and, and_true, exists_and_left, exists_and_right, at_0, at_1, at_2, at_3, at_4, Nat.reduceLT, List.length_set, MO.lst.injEq, ix_0, ix_1, ix_2, beq_iff_eq, reduceCtorEq, if_true, if_false, ite_true, ite_false, getL_new, wipeE, Bool.false_eq_true, decide_true, decide_false, Bool.not_true, Bool.not_false]
    refine tk g1 (by omega) (by decide) (by decide) fun z h2 z0 z1 g2 => ?_
    by_cases hz : z = 0
    · simp only [wSs, wS, wE, wEs, wAnd, wOr, wT, wAndT, wOrT, wO, wC, wI, setAll, w_add, w_adds, w_addt, w_addl, w_sub, w_mul, w_mull, w_div, w_mod, w_pow, w_shl, w_eq, w_ne, w_in, w_nin, w_lt, w_le, w_gt, w_ge, w_is, w_isn, w_eqi, w_eqs, w_eqb, w_tn, w_tb, w_ti, w_tt, w_it, w_if, w_is', w_il, w_st, w_ss, w_sl, w_lent, w_lenf, w_lens, w_lenl, w_tupt, w_tupl, w_lstt, w_lstl, w_stri, w_strs, w_inti, w_intb, w_min2, w_max2, w_abs, w_all, w_any, w_sum, w_join, w_app, w_ext, w_pop, w_tyj, w_tya, w_tye, w_typ, w_isin, w_isib, w_isii, w_isis, w_isit, w_ont, w_onf, w_ons, w_onl, w_rng1, w_rng2, w_nm, w_tp, Option.some.injEq, exists_eq_left', exists_eq_left, exists_eq, exists_eq', List.getElem?_cons_zero, List.getElem?_cons_succ, List.set_cons_zero, List.set_cons_succ, List.map_cons, List.map_nil, List.cons_append, List.nil_append, List.length_cons, List.length_nil, M.int.injEq, M.ref.injEq, M.str.injEq, M.bl.injEq, M.tup.injEq, List.replicate, Nat.reduceSub, Nat.reduceAdd, true_and, and_true, exists_and_left, exists_and_right, at_0, at_1, at_2, at_3, at_4, Nat.reduceLT, List.length_set, MO.lst.injEq, ix_0, ix_1, ix_2, beq_iff_eq, reduceCtorEq, if_true, if_false, ite_true, ite_false, getL_new, wipeE, Bool.false_eq_true, decide_true, decide_false, Bool.not_true, Bool.not_false, hz]
      refine ⟨isr _ _ g2, ?_⟩
      refine deeds_gen M0 g2 (by omega) (by omega) (by omega) (by omega) (by omega) fun dd h3 hok g3 => ?_
      exact ⟨_, g3.1.2 r _ hrk hr', hlen, fin _ _ _ h3 _ hok g3 (by omega)⟩
    · simp only [wSs, wS, wE, wEs, wAnd, wOr, wT, wAndT, wOrT, wO, wC, wI, setAll, w_add, w_adds, w_addt, w_addl, w_sub, w_mul, w_mull, w_div, w_mod, w_pow, w_shl, w_eq, w_ne, w_in, w_nin, w_lt, w_le, w_gt, w_ge, w_is, w_isn, w_eqi, w_eqs, w_eqb, w_tn, w_tb, w_ti, w_tt, w_it, w_if, w_is', w_il, w_st, w_ss, w_sl, w_lent, w_lenf, w_lens, w_lenl, w_tupt, w_tupl, w_lstt, w_lstl, w_stri, w_strs, w_inti, w_intb, w_min2, w_max2, w_abs, w_all, w_any, w_sum, w_join, w_app, w_ext, w_pop, w_tyj, w_tya, w_tye, w_typ, w_isin, w_isib, w_isii, w_isis, w_isit, w_ont, w_onf, w_ons, w_onl, w_rng1, w_rng2, w_nm, w_tp, Option.some.injEq, exists_eq_left', exists_eq_left, exists_eq, exists_eq', List.getElem?_cons_zero, List.getElem?_cons_succ, List.set_cons_zero, List.set_cons_succ, List.map_cons, List.map_nil, List.cons_append, List.nil_append, List.length_cons, List.length_nil, M.int.injEq, M.ref.injEq, M.str.injEq, M.bl.injEq, M.tup.injEq, List.replicate, Nat.reduceSub, Nat.reduceAdd, true_and, and_true, exists_and_left, exists_and_right, at_0, at_1, at_2, at_3, at_4, Nat.reduceLT, List.length_set, MO.lst.injEq, ix_0, ix_1, ix_2, beq_iff_eq, reduceCtorEq, if_true, if_false, ite_true, ite_false, getL_new, wipeE, Bool.false_eq_true, decide_true, decide_false, Bool.not_true, Bool.not_false, hz]
      refine ⟨isr _ _ g2, ?_⟩
      refine deeds_gen M0 g2 (by omega) (by omega) (by omega) (by omega) (by omega) fun dd h3 hok g3 => ?_
      exact ⟨_, g3.1.2 r _ hrk hr', hlen, fin _ _ _ h3 _ hok g3 (by omega)⟩
end
end Wg
open PySem PySem.Spec PyProof.Rows
set_option linter.all false
set_option Elab.async false
set_option maxRecDepth 100000
set_option maxHeartbeats 4000000
namespace Wg
open L2
section
variable {n k : Nat} {h0 h : MH} {u : Int} {Q : QE} {X : Exn → MH → Prop}
theorem built_gen {hands : Int} (g : GK k h0 h u) (hu : u ≤ 2 ^ 37) (n0 : 0 < hands) (n1 : hands ≤ 5)
    (q : ∀ (js : List JB) h', js.length ≤ 5 → (∀ j ∈ js, JB.ok j) → GK k h0 h' (u + 503) → Q (.tup (js.map JB.m)) h') : S (n + 3) k_law_built [.ref k, .int hands] h Q X := by
  refine ⟨p_law_built, rfl, ?_⟩
  have hsz := sizeL
  simp only [wF, p_law_built, startE]
  try simp only [wSs, wS, wE, wEs, wAnd, wOr, wT, wAndT, wOrT, wO, wC, wI, setAll, w_add, w_adds, w_addt, w_addl, w_sub, w_mul, w_mull, w_div, w_mod, w_pow, w_shl, w_eq, w_ne, w_in, w_nin, w_lt, w_le, w_gt, w_ge, w_is, w_isn, w_eqi, w_eqs, w_eqb, w_tn, w_tb, w_ti, w_tt, w_it, w_if, w_is', w_il, w_st, w_ss, w_sl, w_lent, w_lenf, w_lens, w_lenl, w_tupt, w_tupl, w_lstt, w_lstl, w_stri, w_strs, w_inti, w_intb, w_min2, w_max2, w_abs, w_all, w_any, w_sum, w_join, w_app, w_ext, w_pop, w_tyj, w_tya, w_tye, w_typ, w_isin, w_isib, w_isii, w_isis, w_isit, w_ont, w_onf, w_ons, w_onl, w_rng1, w_rng2, w_nm, w_tp, Option.some.injEq, exists_eq_left', exists_eq_left, exists_eq, exists_eq', List.getElem?_cons_zero, List.getElem?_cons_succ, List.set_cons_zero, List.set_cons_succ, List.map_cons, List.map_nil, List.cons_append, List.nil_append, List.length_cons, List.length_nil, M.int.injEq, M.ref.injEq, M.str.injEq, M.bl.injEq, M.tup.injEq, List.replicate, Nat.reduceSub, Nat.reduceAdd, true_and, and_true, exists_and_left, exists_and_right, at_0, at_1, at_2, at_3, at_4, Nat.reduceLT, List.length_set, MO.lst.injEq, ix_0, ix_1, ix_2, beq_iff_eq, reduceCtorEq, if_true, if_false, ite_true, ite_false, getL_new, wipeE, Bool.false_eq_true, decide_true, decide_false, Bool.not_true, Bool.not_false]
  refine tk g (by omega) (by decide) (by decide) fun way h1 w0 w1 g1 => ?_
  try simp only [wSs, wS, wE, wEs, wAnd, wOr, wT, wAndT, wOrT, wO, wC, wI, setAll, w_add, w_adds, w_addt, w_addl, w_sub, w_mul, w_mull, w_div, w_mod, w_pow, w_shl, w_eq, w_ne, w_in, w_nin, w_lt, w_le, w_gt, w_ge, w_is, w_isn, w_eqi, w_eqs, w_eqb, w_tn, w_tb, w_ti, w_tt, w_it, w_if, w_is', w_il, w_st, w_ss, w_sl, w_lent, w_lenf, w_lens, w_lenl, w_tupt, w_tupl, w_lstt, w_lstl, w_stri, w_strs, w_inti, w_intb, w_min2, w_max2, w_abs, w_all, w_any, w_sum, w_join, w_app, w_ext, w_pop, w_tyj, w_tya, w_tye, w_typ, w_isin, w_isib, w_isii, w_isis, w_isit, w_ont, w_onf, w_ons, w_onl, w_rng1, w_rng2, w_nm, w_tp, Option.some.injEq, exists_eq_left', exists_eq_left, exists_eq, exists_eq', List.getElem?_cons_zero, List.getElem?_cons_succ, List.set_cons_zero, List.set_cons_succ, List.map_cons, List.map_nil, List.cons_append, List.nil_append, List.length_cons, List.length_nil, M.int.injEq, M.ref.injEq, M.str.injEq, M.bl.injEq, M.tup.injEq, List.replicate, Nat.reduceSub, Nat.reduceAdd, true_and, and_true, exists_and_left, exists_and_right, at_0, at_1, at_2, at_3, at_4, Nat.reduceLT, List.length_set, MO.lst.injEq, ix_0, ix_1, ix_2, beq_iff_eq, reduceCtorEq, if_true, if_false, ite_true, ite_false, getL_new, wipeE, Bool.false_eq_true, decide_true, decide_false, Bool.not_true, Bool.not_false]
  refine tk g1 (by omega) (by omega) (by omega) fun wait h2 wt0 wt1 g2 => ?_
  try simp only [wSs, wS, wE, wEs, wAnd, wOr, wT, wAndT, wOrT, wO, wC, wI, setAll, w_add, w_adds, w_addt, w_addl, w_sub, w_mul, w_mull, w_div, w_mod, w_pow, w_shl, w_eq, w_ne, w_in, w_nin, w_lt, w_le, w_gt, w_ge, w_is, w_isn, w_eqi, w_eqs, w_eqb, w_tn, w_tb, w_ti, w_tt, w_it, w_if, w_is', w_il, w_st, w_ss, w_sl, w_lent, w_lenf, w_lens, w_lenl, w_tupt, w_tupl, w_lstt, w_lstl, w_stri, w_strs, w_inti, w_intb, w_min2, w_max2, w_abs, w_all, w_any, w_sum, w_join, w_app, w_ext, w_pop, w_tyj, w_tya, w_tye, w_typ, w_isin, w_isib, w_isii, w_isis, w_isit, w_ont, w_onf, w_ons, w_onl, w_rng1, w_rng2, w_nm, w_tp, Option.some.injEq, exists_eq_left', exists_eq_left, exists_eq, exists_eq', List.getElem?_cons_zero, List.getElem?_cons_succ, List.set_cons_zero, List.set_cons_succ, List.map_cons, List.map_nil, List.cons_append, List.nil_append, List.length_cons, List.length_nil, M.int.injEq, M.ref.injEq, M.str.injEq, M.bl.injEq, M.tup.injEq, List.replicate, Nat.reduceSub, Nat.reduceAdd, true_and, and_true, exists_and_left, exists_and_right, at_0, at_1, at_2, at_3, at_4, Nat.reduceLT, List.length_set, MO.lst.injEq, ix_0, ix_1, ix_2, beq_iff_eq, reduceCtorEq, if_true, if_false, ite_true, ite_false, getL_new, wipeE, Bool.false_eq_true, decide_true, decide_false, Bool.not_true, Bool.not_false]
  refine tk g2 (by omega) (by omega) (by omega) fun rds h3 r0 r1 g3 => ?_
  try simp only [wSs, wS, wE, wEs, wAnd, wOr, wT, wAndT, wOrT, wO, wC, wI, setAll, w_add, w_adds, w_addt, w_addl, w_sub, w_mul, w_mull, w_div, w_mod, w_pow, w_shl, w_eq, w_ne, w_in, w_nin, w_lt, w_le, w_gt, w_ge, w_is, w_isn, w_eqi, w_eqs, w_eqb, w_tn, w_tb, w_ti, w_tt, w_it, w_if, w_is', w_il, w_st, w_ss, w_sl, w_lent, w_lenf, w_lens, w_lenl, w_tupt, w_tupl, w_lstt, w_lstl, w_stri, w_strs, w_inti, w_intb, w_min2, w_max2, w_abs, w_all, w_any, w_sum, w_join, w_app, w_ext, w_pop, w_tyj, w_tya, w_tye, w_typ, w_isin, w_isib, w_isii, w_isis, w_isit, w_ont, w_onf, w_ons, w_onl, w_rng1, w_rng2, w_nm, w_tp, Option.some.injEq, exists_eq_left', exists_eq_left, exists_eq, exists_eq', List.getElem?_cons_zero, List.getElem?_cons_succ, List.set_cons_zero, List.set_cons_succ, List.map_cons, List.map_nil, List.cons_append, List.nil_append, List.length_cons, List.length_nil, M.int.injEq, M.ref.injEq, M.str.injEq, M.bl.injEq, M.tup.injEq, List.replicate, Nat.reduceSub, Nat.reduceAdd, true_and, and_true, exists_and_left, exists_and_right, at_0, at_1, at_2, at_3, at_4, Nat.reduceLT, List.length_set, MO.lst.injEq, ix_0, ix_1, ix_2, beq_iff_eq, reduceCtorEq, if_true, if_false, ite_true, ite_false, getL_new, wipeE, Bool.false_eq_true, decide_true, decide_false, Bool.not_true, Bool.not_false]
  refine ⟨rng_small (by omega) (by omega), ?_⟩
  generalize hr : h3.length = r
  have hrk : r ≠ k := by have := g3.lt; omega
  have hr0 : h0.length ≤ r := by have := g3.1.1; omega
  refine for_inv (fun i e h' => ∃ js a6 a7 a8 a9, e = [some (M.ref k), some (.int hands), some (.int way), some (.int (1 + wait)), some (.int (1 + rds)), some (M.ref r), a6, a7, a8, a9] ∧ js.length ≤ i ∧ (∀ j ∈ js, JB.ok j) ∧ h'[r]? = some (.lst (js.map JB.m)) ∧ GK k h0 h' (u + 3 + 100 * i))
    ⟨[], none, none, none, none, rfl, Nat.le_refl _, (fun _ hx => nomatch hx), by subst hr; exact get_new, by simpa using (g3.mono (by omega)).app⟩ (fun _ _ _ _ => trivial) ?_ ?_
  · rintro e h' ⟨ds, a6, a7, a8, a9, rfl, hl, hd, hr', g'⟩
    rw [rng_len] at hl g'
    simp only [wSs, wS, wE, wEs, wAnd, wOr, wT, wAndT, wOrT, wO, wC, wI, setAll, w_add, w_adds, w_addt, w_addl, w_sub, w_mul, w_mull, w_div, w_mod, w_pow, w_shl, w_eq, w_ne, w_in, w_nin, w_lt, w_le, w_gt, w_ge, w_is, w_isn, w_eqi, w_eqs, w_eqb, w_tn, w_tb, w_ti, w_tt, w_it, w_if, w_is', w_il, w_st, w_ss, w_sl, w_lent, w_lenf, w_lens, w_lenl, w_tupt, w_tupl, w_lstt, w_lstl, w_stri, w_strs, w_inti, w_intb, w_min2, w_max2, w_abs, w_all, w_any, w_sum, w_join, w_app, w_ext, w_pop, w_tyj, w_tya, w_tye, w_typ, w_isin, w_isib, w_isii, w_isis, w_isit, w_ont, w_onf, w_ons, w_onl, w_rng1, w_rng2, w_nm, w_tp, Option.some.injEq, exists_eq_left', exists_eq_left, exists_eq, exists_eq', List.getElem?_cons_zero, List.getElem?_cons_succ, List.set_cons_zero, List.set_cons_succ, List.map_cons, List.map_nil, List.cons_append, List.nil_append, List.length_cons, List.length_nil, M.int.injEq, M.ref.injEq, M.str.injEq, M.bl.injEq, M.tup.injEq, List.replicate, Nat.reduceSub, Nat.reduceAdd, true_and, and_true, exists_and_left, exists_and_right, at_0, at_1, at_2, at_3, at_4, Nat.reduceLT, List.length_set, MO.lst.injEq, ix_0, ix_1, ix_2, beq_iff_eq, reduceCtorEq, if_true, if_false, ite_true, ite_false, getL_new, wipeE, Bool.false_eq_true, decide_true, decide_false, Bool.not_true, Bool.not_false, getL_of hr']
    exact q ds h' (by omega) hd (g'.mono (by omega))
  · rintro i x e h' N hx ⟨ds, a6, a7, a8, a9, rfl, hl, hd, hr', g'⟩ kk
    obtain ⟨rfl, hi⟩ := rngL_get hx
    refine ⟨_, rfl, ?_⟩
    try simp only [wSs, wS, wE, wEs, wAnd, wOr, wT, wAndT, wOrT, wO, wC, wI, setAll, w_add, w_adds, w_addt, w_addl, w_sub, w_mul, w_mull, w_div, w_mod, w_pow, w_shl, w_eq, w_ne, w_in, w_nin, w_lt, w_le, w_gt, w_ge, w_is, w_isn, w_eqi, w_eqs, w_eqb, w_tn, w_tb, w_ti, w_tt, w_it, w_if, w_is', w_il, w_st, w_ss, w_sl, w_lent, w_lenf, w_lens, w_lenl, w_tupt, w_tupl, w_lstt, w_lstl, w_stri, w_strs, w_inti, w_intb, w_min2, w_max2, w_abs, w_all, w_any, w_sum, w_join, w_app, w_ext, w_pop, w_tyj, w_tya, w_tye, w_typ, w_isin, w_isib, w_isii, w_isis, w_isit, w_ont, w_onf, w_ons, w_onl, w_rng1, w_rng2, w_nm, w_tp, Option.some.injEq, exists_eq_left', exists_eq_left, exists_eq, exists_eq', List.getElem?_cons_zero, List.getElem?_cons_succ, List.set_cons_zero, List.set_cons_succ, List.map_cons, List.map_nil, List.cons_append, List.nil_append, List.length_cons, List.length_nil, M.int.injEq, M.ref.injEq, M.str.injEq, M.bl.injEq, M.tup.injEq, List.replicate, Nat.reduceSub, Nat.reduceAdd, true_and, and_true, exists_and_left, exists_and_right, at_0, at_1, at_2, at_3, at_4, Nat.reduceLT, List.length_set, MO.lst.injEq, ix_0, ix_1, ix_2, beq_iff_eq, reduceCtorEq, if_true, if_false, ite_true, ite_false, getL_new, wipeE, Bool.false_eq_true, decide_true, decide_false, Bool.not_true, Bool.not_false]
    refine tk g'.self (by omega) (by decide) (by decide) fun z h4 z0 z1 g4 => ?_
    try simp only [wSs, wS, wE, wEs, wAnd, wOr, wT, wAndT, wOrT, wO, wC, wI, setAll, w_add, w_adds, w_addt, w_addl, w_sub, w_mul, w_mull, w_div, w_mod, w_pow, w_shl, w_eq, w_ne, w_in, w_nin, w_lt, w_le, w_gt, w_ge, w_is, w_isn, w_eqi, w_eqs, w_eqb, w_tn, w_tb, w_ti, w_tt, w_it, w_if, w_is', w_il, w_st, w_ss, w_sl, w_lent, w_lenf, w_lens, w_lenl, w_tupt, w_tupl, w_lstt, w_lstl, w_stri, w_strs, w_inti, w_intb, w_min2, w_max2, w_abs, w_all, w_any, w_sum, w_join, w_app, w_ext, w_pop, w_tyj, w_tya, w_tye, w_typ, w_isin, w_isib, w_isii, w_isis, w_isit, w_ont, w_onf, w_ons, w_onl, w_rng1, w_rng2, w_nm, w_tp, Option.some.injEq, exists_eq_left', exists_eq_left, exists_eq, exists_eq', List.getElem?_cons_zero, List.getElem?_cons_succ, List.set_cons_zero, List.set_cons_succ, List.map_cons, List.map_nil, List.cons_append, List.nil_append, List.length_cons, List.length_nil, M.int.injEq, M.ref.injEq, M.str.injEq, M.bl.injEq, M.tup.injEq, List.replicate, Nat.reduceSub, Nat.reduceAdd, true_and, and_true, exists_and_left, exists_and_right, at_0, at_1, at_2, at_3, at_4, Nat.reduceLT, List.length_set, MO.lst.injEq, ix_0, ix_1, ix_2, beq_iff_eq, reduceCtorEq, if_true, if_false, ite_true, ite_false, getL_new, wipeE, Bool.false_eq_true, decide_true, decide_false, Bool.not_true, Bool.not_false]
    refine tk g4 (by omega) (by decide) (by decide) fun l h5 l0 l1 g5 => ?_
    try simp only [wSs, wS, wE, wEs, wAnd, wOr, wT, wAndT, wOrT, wO, wC, wI, setAll, w_add, w_adds, w_addt, w_addl, w_sub, w_mul, w_mull, w_div, w_mod, w_pow, w_shl, w_eq, w_ne, w_in, w_nin, w_lt, w_le, w_gt, w_ge, w_is, w_isn, w_eqi, w_eqs, w_eqb, w_tn, w_tb, w_ti, w_tt, w_it, w_if, w_is', w_il, w_st, w_ss, w_sl, w_lent, w_lenf, w_lens, w_lenl, w_tupt, w_tupl, w_lstt, w_lstl, w_stri, w_strs, w_inti, w_intb, w_min2, w_max2, w_abs, w_all, w_any, w_sum, w_join, w_app, w_ext, w_pop, w_tyj, w_tya, w_tye, w_typ, w_isin, w_isib, w_isii, w_isis, w_isit, w_ont, w_onf, w_ons, w_onl, w_rng1, w_rng2, w_nm, w_tp, Option.some.injEq, exists_eq_left', exists_eq_left, exists_eq, exists_eq', List.getElem?_cons_zero, List.getElem?_cons_succ, List.set_cons_zero, List.set_cons_succ, List.map_cons, List.map_nil, List.cons_append, List.nil_append, List.length_cons, List.length_nil, M.int.injEq, M.ref.injEq, M.str.injEq, M.bl.injEq, M.tup.injEq, List.replicate, Nat.reduceSub, Nat.reduceAdd, true_and, and_true, exists_and_left, exists_and_right, at_0, at_1, at_2, at_3, at_4, Nat.reduceLT, List.length_set, MO.lst.injEq, ix_0, ix_1, ix_2, beq_iff_eq, reduceCtorEq, if_true, if_false, ite_true, ite_false, getL_new, wipeE, Bool.false_eq_true, decide_true, decide_false, Bool.not_true, Bool.not_false]
    refine ⟨rng_small (by omega) (by omega), ?_⟩
    have fin : ∀ (d : JB) (a6 a7 a8 a9 : Option M) (h2 : MH) (v : Int), d.ok → GK k h' h2 v → v ≤ u + 3 + 100 * i + 100 → N [some (M.ref k), some (.int hands), some (.int way), some (.int (1 + wait)), some (.int (1 + rds)), some (M.ref r), a6, a7, a8, a9] (h2.set r (.lst (ds.map JB.m ++ [d.m]))) := fun d a6 a7 a8 a9 h2 v hdo g2 hv => by
      refine kk _ _ ⟨ds ++ [d], a6, a7, a8, a9, rfl, by simpa using hl, fun x hx => ?_, ?_, ?_⟩
      · rcases List.mem_append.mp hx with hx | hx
        · exact hd x hx
        · rcases List.mem_singleton.mp hx with rfl
          exact hdo
      · rw [set_self (g2.1.2 r _ hrk hr'), List.map_append]; rfl
      · exact ((g'.trans g2).setN hrk hr0).mono (by push_cast; omega)
    refine comp_inv (fun t acc h2 => (∀ x ∈ acc, IOk x) ∧ acc.length ≤ t ∧ GK k h' h2 (u + 3 + 100 * i + 2 + t)) ⟨(fun _ hx => nomatch hx), Nat.le_refl _, g5.mono (by omega)⟩ (fun _ _ _ _ => trivial) ?_ ?_
    · rintro acc h6 ⟨ia, la, g6⟩
      rw [rng_len] at la g6
      have gr := g6.1.2 r _ hrk hr'
      have gg : ∀ o p, GK k h' (h6 ++ [o] ++ [p]) (u + 3 + 100 * i + 2 + (l.toNat : Nat)) := fun o p => g6.app.app
      refine ⟨by rw [getL_of ((g6.app).1.2 r _ hrk hr')]; rfl, mul_small (by omega) (by omega), ⟨by decide, by decide⟩, ?_⟩
      have hlen : (ds.map JB.m).length < sizeLine := by rw [List.length_map]; omega
      rcases (by omega : way = 0 ∨ way = 1 ∨ way = 2 ∨ way = 3) with rfl | rfl | rfl | rfl
      · exact ⟨_, at_0, _, (gg _ _).1.2 r _ hrk hr', hlen, fin (.sums acc) _ _ _ _ _ _ ⟨by omega, ia⟩ (gg _ _) (by omega)⟩
      · exact ⟨_, at_1, _, (gg _ _).1.2 r _ hrk hr', hlen, fin (.nums [110, 97, 109, 101] [8 * (0 + (i : Int)) + (z - 20) / 6 - 50]) _ _ _ _ _ _ ⟨by decide, by decide, by decide, by simp, by simp; omega⟩ (gg _ _) (by omega)⟩
      · exact ⟨_, at_2, _, (gg _ _).1.2 r _ hrk hr', hlen, fin (.nums [108, 101, 97, 115, 116] [z - 20, 1 + wait]) _ _ _ _ _ _ ⟨by decide, by decide, by decide, by simp, by simp; omega⟩ (gg _ _) (by omega)⟩
      · exact ⟨_, at_3, _, (gg _ _).1.2 r _ hrk hr', hlen, fin (.nums [99, 108, 111, 115, 101, 114] [z - 20, 1 + rds]) _ _ _ _ _ _ ⟨by decide, by decide, by decide, by simp, by simp; omega⟩ (gg _ _) (by omega)⟩
    · rintro t x acc h2 Q' hx ⟨ia, la, g6⟩ kk
      refine ⟨_, rfl, ?_⟩
      try simp only [wSs, wS, wE, wEs, wAnd, wOr, wT, wAndT, wOrT, wO, wC, wI, setAll, w_add, w_adds, w_addt, w_addl, w_sub, w_mul, w_mull, w_div, w_mod, w_pow, w_shl, w_eq, w_ne, w_in, w_nin, w_lt, w_le, w_gt, w_ge, w_is, w_isn, w_eqi, w_eqs, w_eqb, w_tn, w_tb, w_ti, w_tt, w_it, w_if, w_is', w_il, w_st, w_ss, w_sl, w_lent, w_lenf, w_lens, w_lenl, w_tupt, w_tupl, w_lstt, w_lstl, w_stri, w_strs, w_inti, w_intb, w_min2, w_max2, w_abs, w_all, w_any, w_sum, w_join, w_app, w_ext, w_pop, w_tyj, w_tya, w_tye, w_typ, w_isin, w_isib, w_isii, w_isis, w_isit, w_ont, w_onf, w_ons, w_onl, w_rng1, w_rng2, w_nm, w_tp, Option.some.injEq, exists_eq_left', exists_eq_left, exists_eq, exists_eq', List.getElem?_cons_zero, List.getElem?_cons_succ, List.set_cons_zero, List.set_cons_succ, List.map_cons, List.map_nil, List.cons_append, List.nil_append, List.length_cons, List.length_nil, M.int.injEq, M.ref.injEq, M.str.injEq, M.bl.injEq, M.tup.injEq, List.replicate, Nat.reduceSub, Nat.reduceAdd, true_and, and_true, exists_and_left, exists_and_right, at_0, at_1, at_2, at_3, at_4, Nat.reduceLT, List.length_set, MO.lst.injEq, ix_0, ix_1, ix_2, beq_iff_eq, reduceCtorEq, if_true, if_false, ite_true, ite_false, getL_new, wipeE, Bool.false_eq_true, decide_true, decide_false, Bool.not_true, Bool.not_false]
      obtain ⟨rfl, ht⟩ := rngL_get hx
      refine pk g6.app (by omega) get_new (by have := g6.lt; omega) (by simp) (by simp) fun x h3 hx g7 => ?_
      refine kk _ _ ⟨fun y hy => ?_, by simpa using la, g7.mono (by push_cast; omega)⟩
      rcases List.mem_append.mp hy with hy | hy
      · exact ia y hy
      · rcases List.mem_singleton.mp hy with rfl
        simp only [List.mem_cons, List.not_mem_nil, or_false] at hx
        rcases hx with rfl | rfl | rfl | rfl | rfl | rfl
        · exact .inl rfl
        · exact .inl rfl
        · exact .inr ⟨_, rfl, by decide⟩
        · exact .inr ⟨_, rfl, by decide⟩
        · exact .inr ⟨_, rfl, by decide⟩
        · exact .inr ⟨_, rfl, by decide⟩
theorem case_gen (g : GK k h0 h u) (hu : u ≤ 2 ^ 36) (q : ∀ (c : CS) h', c.ok → Q (.tup [c.m1, c.m2, c.m3]) h') : S (n + 6) k_law_case [.ref k] h Q X := by
  refine ⟨p_law_case, rfl, ?_⟩
  have hsz := sizeL
  simp only [wF, p_law_case, startE]
  try simp only [wSs, wS, wE, wEs, wAnd, wOr, wT, wAndT, wOrT, wO, wC, wI, setAll, w_add, w_adds, w_addt, w_addl, w_sub, w_mul, w_mull, w_div, w_mod, w_pow, w_shl, w_eq, w_ne, w_in, w_nin, w_lt, w_le, w_gt, w_ge, w_is, w_isn, w_eqi, w_eqs, w_eqb, w_tn, w_tb, w_ti, w_tt, w_it, w_if, w_is', w_il, w_st, w_ss, w_sl, w_lent, w_lenf, w_lens, w_lenl, w_tupt, w_tupl, w_lstt, w_lstl, w_stri, w_strs, w_inti, w_intb, w_min2, w_max2, w_abs, w_all, w_any, w_sum, w_join, w_app, w_ext, w_pop, w_tyj, w_tya, w_tye, w_typ, w_isin, w_isib, w_isii, w_isis, w_isit, w_ont, w_onf, w_ons, w_onl, w_rng1, w_rng2, w_nm, w_tp, Option.some.injEq, exists_eq_left', exists_eq_left, exists_eq, exists_eq', List.getElem?_cons_zero, List.getElem?_cons_succ, List.set_cons_zero, List.set_cons_succ, List.map_cons, List.map_nil, List.cons_append, List.nil_append, List.length_cons, List.length_nil, M.int.injEq, M.ref.injEq, M.str.injEq, M.bl.injEq, M.tup.injEq, List.replicate, Nat.reduceSub, Nat.reduceAdd, true_and, and_true, exists_and_left, exists_and_right, at_0, at_1, at_2, at_3, at_4, Nat.reduceLT, List.length_set, MO.lst.injEq, ix_0, ix_1, ix_2, beq_iff_eq, reduceCtorEq, if_true, if_false, ite_true, ite_false, getL_new, wipeE, Bool.false_eq_true, decide_true, decide_false, Bool.not_true, Bool.not_false]
  refine tk g (by omega) (by decide) (by decide) fun hn h1 n0 n1 g1 => ?_
  try simp only [wSs, wS, wE, wEs, wAnd, wOr, wT, wAndT, wOrT, wO, wC, wI, setAll, w_add, w_adds, w_addt, w_addl, w_sub, w_mul, w_mull, w_div, w_mod, w_pow, w_shl, w_eq, w_ne, w_in, w_nin, w_lt, w_le, w_gt, w_ge, w_is, w_isn, w_eqi, w_eqs, w_eqb, w_tn, w_tb, w_ti, w_tt, w_it, w_if, w_is', w_il, w_st, w_ss, w_sl, w_lent, w_lenf, w_lens, w_lenl, w_tupt, w_tupl, w_lstt, w_lstl, w_stri, w_strs, w_inti, w_intb, w_min2, w_max2, w_abs, w_all, w_any, w_sum, w_join, w_app, w_ext, w_pop, w_tyj, w_tya, w_tye, w_typ, w_isin, w_isib, w_isii, w_isis, w_isit, w_ont, w_onf, w_ons, w_onl, w_rng1, w_rng2, w_nm, w_tp, Option.some.injEq, exists_eq_left', exists_eq_left, exists_eq, exists_eq', List.getElem?_cons_zero, List.getElem?_cons_succ, List.set_cons_zero, List.set_cons_succ, List.map_cons, List.map_nil, List.cons_append, List.nil_append, List.length_cons, List.length_nil, M.int.injEq, M.ref.injEq, M.str.injEq, M.bl.injEq, M.tup.injEq, List.replicate, Nat.reduceSub, Nat.reduceAdd, true_and, and_true, exists_and_left, exists_and_right, at_0, at_1, at_2, at_3, at_4, Nat.reduceLT, List.length_set, MO.lst.injEq, ix_0, ix_1, ix_2, beq_iff_eq, reduceCtorEq, if_true, if_false, ite_true, ite_false, getL_new, wipeE, Bool.false_eq_true, decide_true, decide_false, Bool.not_true, Bool.not_false]
  refine manner_ok g1 (by omega) (by omega) (by omega) fun w is h2 M0 g2 => ?_
  try simp only [wSs, wS, wE, wEs, wAnd, wOr, wT, wAndT, wOrT, wO, wC, wI, setAll, w_add, w_adds, w_addt, w_addl, w_sub, w_mul, w_mull, w_div, w_mod, w_pow, w_shl, w_eq, w_ne, w_in, w_nin, w_lt, w_le, w_gt, w_ge, w_is, w_isn, w_eqi, w_eqs, w_eqb, w_tn, w_tb, w_ti, w_tt, w_it, w_if, w_is', w_il, w_st, w_ss, w_sl, w_lent, w_lenf, w_lens, w_lenl, w_tupt, w_tupl, w_lstt, w_lstl, w_stri, w_strs, w_inti, w_intb, w_min2, w_max2, w_abs, w_all, w_any, w_sum, w_join, w_app, w_ext, w_pop, w_tyj, w_tya, w_tye, w_typ, w_isin, w_isib, w_isii, w_isis, w_isit, w_ont, w_onf, w_ons, w_onl, w_rng1, w_rng2, w_nm, w_tp, Option.some.injEq, exists_eq_left', exists_eq_left, exists_eq, exists_eq', List.getElem?_cons_zero, List.getElem?_cons_succ, List.set_cons_zero, List.set_cons_succ, List.map_cons, List.map_nil, List.cons_append, List.nil_append, List.length_cons, List.length_nil, M.int.injEq, M.ref.injEq, M.str.injEq, M.bl.injEq, M.tup.injEq, List.replicate, Nat.reduceSub, Nat.reduceAdd, true_and, and_true, exists_and_left, exists_and_right, at_0, at_1, at_2, at_3, at_4, Nat.reduceLT, List.length_set, MO.lst.injEq, ix_0, ix_1, ix_2, beq_iff_eq, reduceCtorEq, if_true, if_false, ite_true, ite_false, getL_new, wipeE, Bool.false_eq_true, decide_true, decide_false, Bool.not_true, Bool.not_false]
  have tail : ∀ (js : List JB) (h3 : MH) (v : Int), js.length ≤ 5 → (∀ j ∈ js, JB.ok j) → GK k h0 h3 v → v ≤ 2 ^ 38 → S (n + 5) 7 [M.ref k, M.int 4] h3
    (fun v h1 =>
      S (n + 5) 7 [M.ref k, M.int 12] h1
        (fun v_1 h1 =>
          S (n + 5) 7 [M.ref k, M.int 9] (h1 ++ [MO.lst [v, v_1, M.int 60, M.int 300]])
            (fun x h1_1 =>
              binR Operator.FloorDiv x (M.int 2) h1_1 fun v h1_2 =>
                pmR Pm.min2 [M.int 3, v] h1_2 fun y h2 =>
                  idxR (M.ref (List.length h1)) y h2 fun v h1 =>
                    rngR [v] h1 fun xs chk h1 =>
                      compL chk
                        (fun x =>
                          some
                            [some (M.ref k), some (M.int (1 + hn)),
                              some (M.tup (M.str w :: List.map M.int is)),
                              some (M.tup (List.map JB.m js)), some v, some x])
                        (fun env' h Q X => Q true h)
                        (fun env' h Q X =>
                          ∃ v,
                            env'[0]? = some (some v) ∧
                              ∃ v_2, env'[1]? = some (some v_2) ∧ S (n + 5) 7 [v, v_2] h Q X)
                        (fun x x_1 => False) xs [] h1 fun acc h2 =>
                        Q
                          (M.tup
                            [M.tup (M.str w :: List.map M.int is), M.tup (List.map JB.m js),
                              M.tup acc])
                          (h2 ++ [MO.lst acc]))
            fun x h => X x h)
        fun x h => X x h)
    fun x h => X x h := fun js h3 v jl jo g3 hv => by
    refine tk g3 (by omega) (by decide) (by decide) fun a h4 a0 a1 g4 => ?_
    refine tk g4 (by omega) (by decide) (by decide) fun b h5 b0 b1 g5 => ?_
    refine tk (g5.app (t := [MO.lst [M.int a, M.int b, M.int 60, M.int 300]])).self (by omega) (by decide) (by decide) fun c h6 c0 c1 g6 => ?_
    have hrk : h5.length ≠ k := by have := g5.lt; omega
    have gl := g6.1.2 h5.length _ hrk get_new
    have fin : ∀ many : Int, 0 ≤ many → many ≤ 300 → rngR [M.int many] h6 fun xs chk h1 =>
                      compL chk
                        (fun x =>
                          some
                            [some (M.ref k), some (M.int (1 + hn)),
                              some (M.tup (M.str w :: List.map M.int is)),
                              some (M.tup (List.map JB.m js)), some (M.int many), some x])
                        (fun env' h Q X => Q true h)
                        (fun env' h Q X =>
                          ∃ v,
                            env'[0]? = some (some v) ∧
                              ∃ v_2, env'[1]? = some (some v_2) ∧ S (n + 5) 7 [v, v_2] h Q X)
                        (fun x x_1 => False) xs [] h1 fun acc h2 =>
                        Q
                          (M.tup
                            [M.tup (M.str w :: List.map M.int is), M.tup (List.map JB.m js),
                              M.tup acc])
                          (h2 ++ [MO.lst acc]) := fun many b0 b1 => by
      refine ⟨rng_small b0 (by omega), ?_⟩
      refine comp_inv (fun t acc h2 => (∃ ws : List Int, acc = ws.map M.int ∧ ws.length ≤ t ∧ ∀ i ∈ ws, i.natAbs < 10 ^ 12) ∧ GK k (h5 ++ [MO.lst [M.int a, M.int b, M.int 60, M.int 300]]) h2 (v + 3 + t)) ⟨⟨[], rfl, Nat.le_refl _, fun _ hx => nomatch hx⟩, g6.mono (by omega)⟩ (fun _ _ _ _ => trivial) ?_ ?_
      · rintro acc h7 ⟨⟨ws, rfl, lw, iw⟩, g7⟩
        rw [rng_len] at lw
        exact q ⟨w, is, js, ws⟩ _ ⟨M0.wl, M0.i1, M0.i2, jl, jo, by show ws.length ≤ 300; omega, iw⟩
      · rintro t x acc h7 Q' hx ⟨⟨ws, rfl, lw, iw⟩, g7⟩ kk
        obtain ⟨rfl, ht⟩ := rngL_get hx
        refine ⟨_, rfl, _, rfl, _, rfl, ?_⟩
        refine tk g7 (by omega) (by omega) (by omega) fun x h8 x0 x1 g8 => ?_
        refine kk _ _ ⟨⟨ws ++ [x], by rw [List.map_append]; rfl, by simpa using lw, fun i hi => ?_⟩, g8.mono (by push_cast; omega)⟩
        rcases List.mem_append.mp hi with hi | hi
        · exact iw i hi
        · rcases List.mem_singleton.mp hi with rfl
          omega
    refine ⟨⟨by decide, by decide⟩, ?_⟩
    rcases (by omega : c / 2 = 0 ∨ c / 2 = 1 ∨ c / 2 = 2 ∨ c / 2 = 3 ∨ c / 2 = 4) with e | e | e | e | e
    · rw [e]
      exact ⟨_, _, getL_of gl, at_0, fin a (by omega) (by omega)⟩
    · rw [e]
      exact ⟨_, _, getL_of gl, at_1, fin b (by omega) (by omega)⟩
    · rw [e]
      exact ⟨_, _, getL_of gl, at_2, fin 60 (by omega) (by omega)⟩
    · rw [e]
      exact ⟨_, _, getL_of gl, at_3, fin 300 (by omega) (by omega)⟩
    · rw [e]
      exact ⟨_, _, getL_of gl, at_3, fin 300 (by omega) (by omega)⟩
  by_cases hs : w = [115, 104, 97, 114, 101, 100]
  · subst hs
    try simp only [wSs, wS, wE, wEs, wAnd, wOr, wT, wAndT, wOrT, wO, wC, wI, setAll, w_add, w_adds, w_addt, w_addl, w_sub, w_mul, w_mull, w_div, w_mod, w_pow, w_shl, w_eq, w_ne, w_in, w_nin, w_lt, w_le, w_gt, w_ge, w_is, w_isn, w_eqi, w_eqs, w_eqb, w_tn, w_tb, w_ti, w_tt, w_it, w_if, w_is', w_il, w_st, w_ss, w_sl, w_lent, w_lenf, w_lens, w_lenl, w_tupt, w_tupl, w_lstt, w_lstl, w_stri, w_strs, w_inti, w_intb, w_min2, w_max2, w_abs, w_all, w_any, w_sum, w_join, w_app, w_ext, w_pop, w_tyj, w_tya, w_tye, w_typ, w_isin, w_isib, w_isii, w_isis, w_isit, w_ont, w_onf, w_ons, w_onl, w_rng1, w_rng2, w_nm, w_tp, Option.some.injEq, exists_eq_left', exists_eq_left, exists_eq, exists_eq', List.getElem?_cons_zero, List.getElem?_cons_succ, List.set_cons_zero, List.set_cons_succ, List.map_cons, List.map_nil, List.cons_append, List.nil_append, List.length_cons, List.length_nil, M.int.injEq, M.ref.injEq, M.str.injEq, M.bl.injEq, M.tup.injEq, List.replicate, Nat.reduceSub, Nat.reduceAdd, true_and, and_true, exists_and_left, exists_and_right, at_0, at_1, at_2, at_3, at_4, Nat.reduceLT, List.length_set, MO.lst.injEq, ix_0, ix_1, ix_2, beq_iff_eq, reduceCtorEq, if_true, if_false, ite_true, ite_false, getL_new, wipeE, Bool.false_eq_true, decide_true, decide_false, Bool.not_true, Bool.not_false]
    refine jobs_gen M0 g2 (by omega) (by omega) (by omega) fun js h3 jl jo g3 => ?_
    try simp only [wSs, wS, wE, wEs, wAnd, wOr, wT, wAndT, wOrT, wO, wC, wI, setAll, w_add, w_adds, w_addt, w_addl, w_sub, w_mul, w_mull, w_div, w_mod, w_pow, w_shl, w_eq, w_ne, w_in, w_nin, w_lt, w_le, w_gt, w_ge, w_is, w_isn, w_eqi, w_eqs, w_eqb, w_tn, w_tb, w_ti, w_tt, w_it, w_if, w_is', w_il, w_st, w_ss, w_sl, w_lent, w_lenf, w_lens, w_lenl, w_tupt, w_tupl, w_lstt, w_lstl, w_stri, w_strs, w_inti, w_intb, w_min2, w_max2, w_abs, w_all, w_any, w_sum, w_join, w_app, w_ext, w_pop, w_tyj, w_tya, w_tye, w_typ, w_isin, w_isib, w_isii, w_isis, w_isit, w_ont, w_onf, w_ons, w_onl, w_rng1, w_rng2, w_nm, w_tp, Option.some.injEq, exists_eq_left', exists_eq_left, exists_eq, exists_eq', List.getElem?_cons_zero, List.getElem?_cons_succ, List.set_cons_zero, List.set_cons_succ, List.map_cons, List.map_nil, List.cons_append, List.nil_append, List.length_cons, List.length_nil, M.int.injEq, M.ref.injEq, M.str.injEq, M.bl.injEq, M.tup.injEq, List.replicate, Nat.reduceSub, Nat.reduceAdd, true_and, and_true, exists_and_left, exists_and_right, at_0, at_1, at_2, at_3, at_4, Nat.reduceLT, List.length_set, MO.lst.injEq, ix_0, ix_1, ix_2, beq_iff_eq, reduceCtorEq, if_true, if_false, ite_true, ite_false, getL_new, wipeE, Bool.false_eq_true, decide_true, decide_false, Bool.not_true, Bool.not_false]
    exact tail js h3 _ jl jo g3 (by omega)
  · simp only [wSs, wS, wE, wEs, wAnd, wOr, wT, wAndT, wOrT, wO, wC, wI, setAll, w_add, w_adds, w_addt, w_addl, w_sub, w_mul, w_mull, w_div, w_mod, w_pow, w_shl, w_eq, w_ne, w_in, w_nin, w_lt, w_le, w_gt, w_ge, w_is, w_isn, w_eqi, w_eqs, w_eqb, w_tn, w_tb, w_ti, w_tt, w_it, w_if, w_is', w_il, w_st, w_ss, w_sl, w_lent, w_lenf, w_lens, w_lenl, w_tupt, w_tupl, w_lstt, w_lstl, w_stri, w_strs, w_inti, w_intb, w_min2, w_max2, w_abs, w_all, w_any, w_sum, w_join, w_app, w_ext, w_pop, w_tyj, w_tya, w_tye, w_typ, w_isin, w_isib, w_isii, w_isis, w_isit, w_ont, w_onf, w_ons, w_onl, w_rng1, w_rng2, w_nm, w_tp, Option.some.injEq, exists_eq_left', exists_eq_left, exists_eq, exists_eq', List.getElem?_cons_zero, List.getElem?_cons_succ, List.set_cons_zero, List.set_cons_succ, List.map_cons, List.map_nil, List.cons_append, List.nil_append, List.length_cons, List.length_nil, M.int.injEq, M.ref.injEq, M.str.injEq, M.bl.injEq, M.tup.injEq, List.replicate, Nat.reduceSub, Nat.reduceAdd, true_and, and_true, exists_and_left, exists_and_right, at_0, at_1, at_2, at_3, at_4, Nat.reduceLT, List.length_set, MO.lst.injEq, ix_0, ix_1, ix_2, beq_iff_eq, reduceCtorEq, if_true, if_false, ite_true, ite_false, getL_new, wipeE, Bool.false_eq_true, decide_true, decide_false, Bool.not_true, Bool.not_false, hs]
    refine tk g2 (by omega) (by decide) (by decide) fun z h3 z0 z1 g3 => ?_
    by_cases hz : z = 0
    · simp only [wSs, wS, wE, wEs, wAnd, wOr, wT, wAndT, wOrT, wO, wC, wI, setAll, w_add, w_adds, w_addt, w_addl, w_sub, w_mul, w_mull, w_div, w_mod, w_pow, w_shl, w_eq, w_ne, w_in, w_nin, w_lt, w_le, w_gt, w_ge, w_is, w_isn, w_eqi, w_eqs, w_eqb, w_tn, w_tb, w_ti, w_tt, w_it, w_if, w_is', w_il, w_st, w_ss, w_sl, w_lent, w_lenf, w_lens, w_lenl, w_tupt, w_tupl, w_lstt, w_lstl, w_stri, w_strs, w_inti, w_intb, w_min2, w_max2, w_abs, w_all, w_any, w_sum, w_join, w_app, w_ext, w_pop, w_tyj, w_tya, w_tye, w_typ, w_isin, w_isib, w_isii, w_isis, w_isit, w_ont, w_onf, w_ons, w_onl, w_rng1, w_rng2, w_nm, w_tp, Option.some.injEq, exists_eq_left', exists_eq_left, exists_eq, exists_eq', List.getElem?_cons_zero, List.getElem?_cons_succ, List.set_cons_zero, List.set_cons_succ, List.map_cons, List.map_nil, List.cons_append, List.nil_append, List.length_cons, List.length_nil, M.int.injEq, M.ref.injEq, M.str.injEq, M.bl.injEq, M.tup.injEq, List.replicate, Nat.reduceSub, Nat.reduceAdd, true_and, and_true, exists_and_left, exists_and_right, at_0, at_1, at_2, at_3, at_4, Nat.reduceLT, List.length_set, MO.lst.injEq, ix_0, ix_1, ix_2, beq_iff_eq, reduceCtorEq, if_true, if_false, ite_true, ite_false, getL_new, wipeE, Bool.false_eq_true, decide_true, decide_false, Bool.not_true, Bool.not_false, hz]
      refine jobs_gen M0 g3 (by omega) (by omega) (by omega) fun js h3 jl jo g3 => ?_
      try simp only [wSs, wS, wE, wEs, wAnd, wOr, wT, wAndT, wOrT, wO, wC, wI, setAll, w_add, w_adds, w_addt, w_addl, w_sub, w_mul, w_mull, w_div, w_mod, w_pow, w_shl, w_eq, w_ne, w_in, w_nin, w_lt, w_le, w_gt, w_ge, w_is, w_isn, w_eqi, w_eqs, w_eqb, w_tn, w_tb, w_ti, w_tt, w_it, w_if, w_is', w_il, w_st, w_ss, w_sl, w_lent, w_lenf, w_lens, w_lenl, w_tupt, w_tupl, w_lstt, w_lstl, w_stri, w_strs, w_inti, w_intb, w_min2, w_max2, w_abs, w_all, w_any, w_sum, w_join, w_app, w_ext, w_pop, w_tyj, w_tya, w_tye, w_typ, w_isin, w_isib, w_isii, w_isis, w_isit, w_ont, w_onf, w_ons, w_onl, w_rng1, w_rng2, w_nm, w_tp, Option.some.injEq, exists_eq_left', exists_eq_left, exists_eq, exists_eq', List.getElem?_cons_zero, List.getElem?_cons_succ, List.set_cons_zero, List.set_cons_succ, List.map_cons, List.map_nil, List.cons_append, List.nil_append, List.length_cons, List.length_nil, M.int.injEq, M.ref.injEq, M.str.injEq, M.bl.injEq, M.tup.injEq, List.replicate, Nat.reduceSub, Nat.reduceAdd, true_and, and_true, exists_and_left, exists_and_right, at_0, at_1, at_2, at_3, at_4, Nat.reduceLT, List.length_set, MO.lst.injEq, ix_0, ix_1, ix_2, beq_iff_eq, reduceCtorEq, if_true, if_false, ite_true, ite_false, getL_new, wipeE, Bool.false_eq_true, decide_true, decide_false, Bool.not_true, Bool.not_false]
      exact tail js h3 _ jl jo g3 (by omega)
    · simp only [wSs, wS, wE, wEs, wAnd, wOr, wT, wAndT, wOrT, wO, wC, wI, setAll, w_add, w_adds, w_addt, w_addl, w_sub, w_mul, w_mull, w_div, w_mod, w_pow, w_shl, w_eq, w_ne, w_in, w_nin, w_lt, w_le, w_gt, w_ge, w_is, w_isn, w_eqi, w_eqs, w_eqb, w_tn, w_tb, w_ti, w_tt, w_it, w_if, w_is', w_il, w_st, w_ss, w_sl, w_lent, w_lenf, w_lens, w_lenl, w_tupt, w_tupl, w_lstt, w_lstl, w_stri, w_strs, w_inti, w_intb, w_min2, w_max2, w_abs, w_all, w_any, w_sum, w_join, w_app, w_ext, w_pop, w_tyj, w_tya, w_tye, w_typ, w_isin, w_isib, w_isii, w_isis, w_isit, w_ont, w_onf, w_ons, w_onl, w_rng1, w_rng2, w_nm, w_tp, Option.some.injEq, exists_eq_left', exists_eq_left, exists_eq, exists_eq', List.getElem?_cons_zero, List.getElem?_cons_succ, List.set_cons_zero, List.set_cons_succ, List.map_cons, List.map_nil, List.cons_append, List.nil_append, List.length_cons, List.length_nil, M.int.injEq, M.ref.injEq, M.str.injEq, M.bl.injEq, M.tup.injEq, List.replicate, Nat.reduceSub, Nat.reduceAdd, true_and, and_true, exists_and_left, exists_and_right, at_0, at_1, at_2, at_3, at_4, Nat.reduceLT, List.length_set, MO.lst.injEq, ix_0, ix_1, ix_2, beq_iff_eq, reduceCtorEq, if_true, if_false, ite_true, ite_false, getL_new, wipeE, Bool.false_eq_true, decide_true, decide_false, Bool.not_true, Bool.not_false, hz]
      refine built_gen g3 (by omega) (by omega) (by omega) fun js h3 jl jo g3 => ?_
      try simp only [wSs, wS, wE, wEs, wAnd, wOr, wT, wAndT, wOrT, wO, wC, wI, setAll, w_add, w_adds, w_addt, w_addl, w_sub, w_mul, w_mull, w_div, w_mod, w_pow, w_shl, w_eq, w_ne, w_in, w_nin, w_lt, w_le, w_gt, w_ge, w_is, w_isn, w_eqi, w_eqs, w_eqb, w_tn, w_tb, w_ti, w_tt, w_it, w_if, w_is', w_il, w_st, w_ss, w_sl, w_lent, w_lenf, w_lens, w_lenl, w_tupt, w_tupl, w_lstt, w_lstl, w_stri, w_strs, w_inti, w_intb, w_min2, w_max2, w_abs, w_all, w_any, w_sum, w_join, w_app, w_ext, w_pop, w_tyj, w_tya, w_tye, w_typ, w_isin, w_isib, w_isii, w_isis, w_isit, w_ont, w_onf, w_ons, w_onl, w_rng1, w_rng2, w_nm, w_tp, Option.some.injEq, exists_eq_left', exists_eq_left, exists_eq, exists_eq', List.getElem?_cons_zero, List.getElem?_cons_succ, List.set_cons_zero, List.set_cons_succ, List.map_cons, List.map_nil, List.cons_append, List.nil_append, List.length_cons, List.length_nil, M.int.injEq, M.ref.injEq, M.str.injEq, M.bl.injEq, M.tup.injEq, List.replicate, Nat.reduceSub, Nat.reduceAdd, true_and, and_true, exists_and_left, exists_and_right, at_0, at_1, at_2, at_3, at_4, Nat.reduceLT, List.length_set, MO.lst.injEq, ix_0, ix_1, ix_2, beq_iff_eq, reduceCtorEq, if_true, if_false, ite_true, ite_false, getL_new, wipeE, Bool.false_eq_true, decide_true, decide_false, Bool.not_true, Bool.not_false]
      exact tail js h3 _ jl jo g3 (by omega)
end
theorem law_ok (ns : List Int) (h : ns.length ≤ 63) : Sem prog (fun _ => .non) 40 k_law [.fz (ns.map M.int)] [] (fun v _ => v = .bl true) (fun _ _ => False) := by
  refine ⟨p_law, rfl, ?_⟩
  have hsz := sizeL
  simp only [wF, p_law, startE]
  try simp only [wSs, wS, wE, wEs, wAnd, wOr, wT, wAndT, wOrT, wO, wC, wI, setAll, w_add, w_adds, w_addt, w_addl, w_sub, w_mul, w_mull, w_div, w_mod, w_pow, w_shl, w_eq, w_ne, w_in, w_nin, w_lt, w_le, w_gt, w_ge, w_is, w_isn, w_eqi, w_eqs, w_eqb, w_tn, w_tb, w_ti, w_tt, w_it, w_if, w_is', w_il, w_st, w_ss, w_sl, w_lent, w_lenf, w_lens, w_lenl, w_tupt, w_tupl, w_lstt, w_lstl, w_stri, w_strs, w_inti, w_intb, w_min2, w_max2, w_abs, w_all, w_any, w_sum, w_join, w_app, w_ext, w_pop, w_tyj, w_tya, w_tye, w_typ, w_isin, w_isib, w_isii, w_isis, w_isit, w_ont, w_onf, w_ons, w_onl, w_rng1, w_rng2, w_nm, w_tp, Option.some.injEq, exists_eq_left', exists_eq_left, exists_eq, exists_eq', List.getElem?_cons_zero, List.getElem?_cons_succ, List.set_cons_zero, List.set_cons_succ, List.map_cons, List.map_nil, List.cons_append, List.nil_append, List.length_cons, List.length_nil, M.int.injEq, M.ref.injEq, M.str.injEq, M.bl.injEq, M.tup.injEq, List.replicate, Nat.reduceSub, Nat.reduceAdd, true_and, and_true, exists_and_left, exists_and_right, at_0, at_1, at_2, at_3, at_4, Nat.reduceLT, List.length_set, MO.lst.injEq, ix_0, ix_1, ix_2, beq_iff_eq, reduceCtorEq, if_true, if_false, ite_true, ite_false, getL_new, wipeE, Bool.false_eq_true, decide_true, decide_false, Bool.not_true, Bool.not_false, List.length_map]
  have e1 : ∃ c : Int, (if (if 12 < (ns.length : Int) then 12 else (ns.length : Int)) > 1 then if 12 < (ns.length : Int) then 12 else (ns.length : Int) else 1) = c ∧ 0 ≤ c ∧ c ≤ 12 := ⟨_, rfl, by omega, by omega⟩
  obtain ⟨c, e1, c0, c1⟩ := e1
  rw [e1]
  refine ⟨rng_small c0 (by omega), ?_⟩
  refine for_inv (fun i e h' => ∃ a1 a2 a3 a4 a5, e = [some (M.fz (List.map M.int ns)), a1, a2, a3, a4, a5]) ⟨_, _, _, _, _, rfl⟩ (fun _ _ _ _ => trivial) (fun _ _ _ => trivial) ?_
  rintro i x e h' N hx ⟨a1, a2, a3, a4, a5, rfl⟩ kk
  obtain ⟨rfl, hi⟩ := rngL_get hx
  refine ⟨_, rfl, ?_⟩
  try simp only [wSs, wS, wE, wEs, wAnd, wOr, wT, wAndT, wOrT, wO, wC, wI, setAll, w_add, w_adds, w_addt, w_addl, w_sub, w_mul, w_mull, w_div, w_mod, w_pow, w_shl, w_eq, w_ne, w_in, w_nin, w_lt, w_le, w_gt, w_ge, w_is, w_isn, w_eqi, w_eqs, w_eqb, w_tn, w_tb, w_ti, w_tt, w_it, w_if, w_is', w_il, w_st, w_ss, w_sl, w_lent, w_lenf, w_lens, w_lenl, w_tupt, w_tupl, w_lstt, w_lstl, w_stri, w_strs, w_inti, w_intb, w_min2, w_max2, w_abs, w_all, w_any, w_sum, w_join, w_app, w_ext, w_pop, w_tyj, w_tya, w_tye, w_typ, w_isin, w_isib, w_isii, w_isis, w_isit, w_ont, w_onf, w_ons, w_onl, w_rng1, w_rng2, w_nm, w_tp, Option.some.injEq, exists_eq_left', exists_eq_left, exists_eq, exists_eq', List.getElem?_cons_zero, List.getElem?_cons_succ, List.set_cons_zero, List.set_cons_succ, List.map_cons, List.map_nil, List.cons_append, List.nil_append, List.length_cons, List.length_nil, M.int.injEq, M.ref.injEq, M.str.injEq, M.bl.injEq, M.tup.injEq, List.replicate, Nat.reduceSub, Nat.reduceAdd, true_and, and_true, exists_and_left, exists_and_right, at_0, at_1, at_2, at_3, at_4, Nat.reduceLT, List.length_set, MO.lst.injEq, ix_0, ix_1, ix_2, beq_iff_eq, reduceCtorEq, if_true, if_false, ite_true, ite_false, getL_new, wipeE, Bool.false_eq_true, decide_true, decide_false, Bool.not_true, Bool.not_false]
  refine hand_ok (d := p_law_hand) rfl rfl rfl (by omega) (by omega) fun o ho => ?_
  refine case_gen (k := h'.length) (h0 := h' ++ [o]) ⟨.refl _ _, ho⟩ (by decide) fun cs h2 ok => ?_
  try simp only [wSs, wS, wE, wEs, wAnd, wOr, wT, wAndT, wOrT, wO, wC, wI, setAll, w_add, w_adds, w_addt, w_addl, w_sub, w_mul, w_mull, w_div, w_mod, w_pow, w_shl, w_eq, w_ne, w_in, w_nin, w_lt, w_le, w_gt, w_ge, w_is, w_isn, w_eqi, w_eqs, w_eqb, w_tn, w_tb, w_ti, w_tt, w_it, w_if, w_is', w_il, w_st, w_ss, w_sl, w_lent, w_lenf, w_lens, w_lenl, w_tupt, w_tupl, w_lstt, w_lstl, w_stri, w_strs, w_inti, w_intb, w_min2, w_max2, w_abs, w_all, w_any, w_sum, w_join, w_app, w_ext, w_pop, w_tyj, w_tya, w_tye, w_typ, w_isin, w_isib, w_isii, w_isis, w_isit, w_ont, w_onf, w_ons, w_onl, w_rng1, w_rng2, w_nm, w_tp, Option.some.injEq, exists_eq_left', exists_eq_left, exists_eq, exists_eq', List.getElem?_cons_zero, List.getElem?_cons_succ, List.set_cons_zero, List.set_cons_succ, List.map_cons, List.map_nil, List.cons_append, List.nil_append, List.length_cons, List.length_nil, M.int.injEq, M.ref.injEq, M.str.injEq, M.bl.injEq, M.tup.injEq, List.replicate, Nat.reduceSub, Nat.reduceAdd, true_and, and_true, exists_and_left, exists_and_right, at_0, at_1, at_2, at_3, at_4, Nat.reduceLT, List.length_set, MO.lst.injEq, ix_0, ix_1, ix_2, beq_iff_eq, reduceCtorEq, if_true, if_false, ite_true, ite_false, getL_new, wipeE, Bool.false_eq_true, decide_true, decide_false, Bool.not_true, Bool.not_false]
  refine rows_ok ok fun a h3 g3 ha => ?_
  obtain ⟨r1, r2⟩ := rows_len ok
  try simp only [wSs, wS, wE, wEs, wAnd, wOr, wT, wAndT, wOrT, wO, wC, wI, setAll, w_add, w_adds, w_addt, w_addl, w_sub, w_mul, w_mull, w_div, w_mod, w_pow, w_shl, w_eq, w_ne, w_in, w_nin, w_lt, w_le, w_gt, w_ge, w_is, w_isn, w_eqi, w_eqs, w_eqb, w_tn, w_tb, w_ti, w_tt, w_it, w_if, w_is', w_il, w_st, w_ss, w_sl, w_lent, w_lenf, w_lens, w_lenl, w_tupt, w_tupl, w_lstt, w_lstl, w_stri, w_strs, w_inti, w_intb, w_min2, w_max2, w_abs, w_all, w_any, w_sum, w_join, w_app, w_ext, w_pop, w_tyj, w_tya, w_tye, w_typ, w_isin, w_isib, w_isii, w_isis, w_isit, w_ont, w_onf, w_ons, w_onl, w_rng1, w_rng2, w_nm, w_tp, Option.some.injEq, exists_eq_left', exists_eq_left, exists_eq, exists_eq', List.getElem?_cons_zero, List.getElem?_cons_succ, List.set_cons_zero, List.set_cons_succ, List.map_cons, List.map_nil, List.cons_append, List.nil_append, List.length_cons, List.length_nil, M.int.injEq, M.ref.injEq, M.str.injEq, M.bl.injEq, M.tup.injEq, List.replicate, Nat.reduceSub, Nat.reduceAdd, true_and, and_true, exists_and_left, exists_and_right, at_0, at_1, at_2, at_3, at_4, Nat.reduceLT, List.length_set, MO.lst.injEq, ix_0, ix_1, ix_2, beq_iff_eq, reduceCtorEq, if_true, if_false, ite_true, ite_false, getL_new, wipeE, Bool.false_eq_true, decide_true, decide_false, Bool.not_true, Bool.not_false]
  refine ⟨_, getL_of ha, cs.rows, strs_str _, line_join (S := [10]) r1 r2 (by decide), rng_small (by decide) (by decide), ?_⟩
  refine for_inv (fun i e h' => ∃ a1 a4 a5, e = [some (M.fz (List.map M.int ns)), a1, some (M.tup [cs.m1, cs.m2, cs.m3]), some (.str (TL.joinL [10] cs.rows)), a4, a5]) ⟨_, _, _, rfl⟩ (fun _ _ _ _ => trivial) (fun e h4 ⟨b1, b4, b5, he⟩ => ?_) ?_
  · subst he
    exact kk _ _ ⟨_, _, _, _, _, rfl⟩
  rintro i x e h4 N hx ⟨b1, b4, b5, rfl⟩ kk
  refine ⟨_, rfl, ?_⟩
  try simp only [wSs, wS, wE, wEs, wAnd, wOr, wT, wAndT, wOrT, wO, wC, wI, setAll, w_add, w_adds, w_addt, w_addl, w_sub, w_mul, w_mull, w_div, w_mod, w_pow, w_shl, w_eq, w_ne, w_in, w_nin, w_lt, w_le, w_gt, w_ge, w_is, w_isn, w_eqi, w_eqs, w_eqb, w_tn, w_tb, w_ti, w_tt, w_it, w_if, w_is', w_il, w_st, w_ss, w_sl, w_lent, w_lenf, w_lens, w_lenl, w_tupt, w_tupl, w_lstt, w_lstl, w_stri, w_strs, w_inti, w_intb, w_min2, w_max2, w_abs, w_all, w_any, w_sum, w_join, w_app, w_ext, w_pop, w_tyj, w_tya, w_tye, w_typ, w_isin, w_isib, w_isii, w_isis, w_isit, w_ont, w_onf, w_ons, w_onl, w_rng1, w_rng2, w_nm, w_tp, Option.some.injEq, exists_eq_left', exists_eq_left, exists_eq, exists_eq', List.getElem?_cons_zero, List.getElem?_cons_succ, List.set_cons_zero, List.set_cons_succ, List.map_cons, List.map_nil, List.cons_append, List.nil_append, List.length_cons, List.length_nil, M.int.injEq, M.ref.injEq, M.str.injEq, M.bl.injEq, M.tup.injEq, List.replicate, Nat.reduceSub, Nat.reduceAdd, true_and, and_true, exists_and_left, exists_and_right, at_0, at_1, at_2, at_3, at_4, Nat.reduceLT, List.length_set, MO.lst.injEq, ix_0, ix_1, ix_2, beq_iff_eq, reduceCtorEq, if_true, if_false, ite_true, ite_false, getL_new, wipeE, Bool.false_eq_true, decide_true, decide_false, Bool.not_true, Bool.not_false]
  refine show_ok ok fun h5 g5 => ?_
  simp only [wSs, wS, wE, wEs, wAnd, wOr, wT, wAndT, wOrT, wO, wC, wI, setAll, w_add, w_adds, w_addt, w_addl, w_sub, w_mul, w_mull, w_div, w_mod, w_pow, w_shl, w_eq, w_ne, w_in, w_nin, w_lt, w_le, w_gt, w_ge, w_is, w_isn, w_eqi, w_eqs, w_eqb, w_tn, w_tb, w_ti, w_tt, w_it, w_if, w_is', w_il, w_st, w_ss, w_sl, w_lent, w_lenf, w_lens, w_lenl, w_tupt, w_tupl, w_lstt, w_lstl, w_stri, w_strs, w_inti, w_intb, w_min2, w_max2, w_abs, w_all, w_any, w_sum, w_join, w_app, w_ext, w_pop, w_tyj, w_tya, w_tye, w_typ, w_isin, w_isib, w_isii, w_isis, w_isit, w_ont, w_onf, w_ons, w_onl, w_rng1, w_rng2, w_nm, w_tp, Option.some.injEq, exists_eq_left', exists_eq_left, exists_eq, exists_eq', List.getElem?_cons_zero, List.getElem?_cons_succ, List.set_cons_zero, List.set_cons_succ, List.map_cons, List.map_nil, List.cons_append, List.nil_append, List.length_cons, List.length_nil, M.int.injEq, M.ref.injEq, M.str.injEq, M.bl.injEq, M.tup.injEq, List.replicate, Nat.reduceSub, Nat.reduceAdd, true_and, and_true, exists_and_left, exists_and_right, at_0, at_1, at_2, at_3, at_4, Nat.reduceLT, List.length_set, MO.lst.injEq, ix_0, ix_1, ix_2, beq_iff_eq, reduceCtorEq, if_true, if_false, ite_true, ite_false, getL_new, wipeE, Bool.false_eq_true, decide_true, decide_false, Bool.not_true, Bool.not_false]
  rw [if_neg (by decide)]
  exact kk _ _ ⟨_, _, _, rfl⟩
end Wg
open PySem PySem.Spec PyProof.Rows
set_option linter.all false
set_option Elab.async false
set_option maxRecDepth 100000
set_option maxHeartbeats 0
open PySem PySem.W PySem.Calls PyProof.Rows
theorem PySem.Challenge.cw_wholeglance_k80_cases_written_holds : PySem.Challenge.rw_wholeglance_k80_cases_written.Holds := by
  w_on; o_law
  refine HandSHeadRun.head_any (r := OpenLaw.row PySem.Challenge.rw_wholeglance_k80_cases_written) (q := view (OpenLaw.row PySem.Challenge.rw_wholeglance_k80_cases_written).prog [20]) (H := Wg.hk) (ob := Wg.ob) (M := 4000) (loose := Wg.names) (d := HandSHeadRun.topDef (OpenLaw.row PySem.Challenge.rw_wholeglance_k80_cases_written).prog 20) (kwd := []) Wg.ob_eq
    (by kernel_rfl) (fun s => by kernel_rfl) Wg.run (by kernel_rfl) (by kernel_rfl) (by kernel_rfl) (by rfl) (by first | assumption | decide +kernel) (by decide +kernel) ⟨rfl, rfl, rfl, rfl, rfl, by decide +kernel⟩ ?hw ?hc
  case hw => w_witness2
  case hc =>
    refine L2.walk_ofE (l := PySem.Challenge.rw_wholeglance_k80_cases_written) (n := 63) (k := 40) (x := "_law_script") (CX := L2.CX0) rfl (by decide) (by kernel_rfl) ⟨rfl, by decide, by decide⟩ ?F (fun _ _ _ _ z => z)
    intro w mg fa h Y G hmg0
    obtain ⟨K, KX, c⟩ := Y
    have hmg : mg ("law" : PySem.Str) = some (.ref fa) := by
      have e : (HandSHeadRun.topDef (OpenLaw.row PySem.Challenge.rw_wholeglance_k80_cases_written).prog 20).name = ("law" : PySem.Str) := by kernel_rfl
      rw [← e]
      exact hmg0
    exact Wg.law_fn (d := Wg.p_law) (x := "_law_script") 40 KX (Wg.facts KX G c) rfl hmg rfl Wg.law_ok
