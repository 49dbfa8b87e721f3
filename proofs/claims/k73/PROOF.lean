import PyProof.Rows.All
import HandS.ForMost
import HandS.Wide
import HandS.TupAny
import HandS.Flow
import HandS.ForExc
import HandS.IsInst
import HandS.TupMul
import HandS.RaiseMore
import HandS.More
import HandS.NoneIn
import KE.KDictPairs
import HandS.CallSlots
import HandS.Zip
import HandS.Defaults
import HandS.Head0
import HandS.Head1
import HandS.Head2
import HandS.HeadEnd
import HandS.HeadHook1
import HandS.HeadHook2
import PySem.Challenge.RW_wholeglance_k73_steps_by_tables
open PySem PySem.Spec PyProof.Rows
set_option linter.all false
namespace Wg
open L2
/-- values: tuples are trees -/
inductive M where
  | non | bl (b : Bool) | int (i : Int) | str (x : List Nat) | tup (xs : List M) | ref (k : Nat) | fz (xs : List M) | tuq (xs : List M)
instance : Inhabited M := ⟨.non⟩
def mkS (l : List Nat) : Str := ⟨l.toArray⟩
theorem mkS_inj {a b : List Nat} : mkS a = mkS b ↔ a = b := by
  constructor
  · intro h
    have : a.toArray = b.toArray := by simpa [mkS] using h
    simpa using congrArg Array.toList this
  · rintro rfl; rfl
mutual
def M.eqb : M → M → Bool
  | .non, .non => true
  | .bl a, .bl b => a == b
  | .int a, .int b => a == b
  | .str a, .str b => a == b
  | .tup a, .tup b => M.eqbs a b
  | .ref a, .ref b => a == b
  | .fz a, .fz b => M.eqbs a b
  | .tuq a, .tuq b => M.eqbs a b
  | _, _ => false
def M.eqbs : List M → List M → Bool
  | [], [] => true
  | x :: xs, y :: ys => M.eqb x y && M.eqbs xs ys
  | _, _ => false
end
mutual
theorem M.eqb_iff : ∀ a b : M, M.eqb a b = true ↔ a = b
  | .non, b => by cases b <;> simp [M.eqb]
  | .bl _, b => by cases b <;> simp [M.eqb]
  | .int _, b => by cases b <;> simp [M.eqb]
  | .str _, b => by cases b <;> simp [M.eqb]
  | .tup xs, b => by
    cases b with
    | tup ys => simp [M.eqb, M.eqbs_iff xs ys]
    | _ => simp [M.eqb]
  | .ref _, b => by cases b <;> simp [M.eqb]
  | .fz xs, b => by
    cases b with
    | fz ys => simp [M.eqb, M.eqbs_iff xs ys]
    | _ => simp [M.eqb]
  | .tuq xs, b => by
    cases b with
    | tuq ys => simp [M.eqb, M.eqbs_iff xs ys]
    | _ => simp [M.eqb]
theorem M.eqbs_iff : ∀ a b : List M, M.eqbs a b = true ↔ a = b
  | [], b => by cases b <;> simp [M.eqbs]
  | x :: xs, b => by
    cases b with
    | nil => simp [M.eqbs]
    | cons y ys => simp [M.eqbs, M.eqb_iff x y, M.eqbs_iff xs ys]
end
instance : DecidableEq M := fun a b => decidable_of_iff (M.eqb a b = true) (M.eqb_iff a b)
end Wg
open PySem PySem.Spec PyProof.Rows
set_option linter.all false
namespace Wg
open L2
/-! ### data, the small heap, what is wanted -/
def M.dt : Nat → M → Bool
  | _, .non => true
  | _, .bl _ => false
  | _, .int _ => true
  | _, .str x => PyData.strOk (mkS x)
  | 0, .tup _ => false
  | n + 1, .tup xs => xs.all (M.dt n)
  | _, .ref _ => false
  | _, .fz _ => false
  | _, .tuq _ => false
inductive MO where
  | lst (xs : List M) | dct (kvs : List (M × M)) | ins (c : Nat) (fs : List (Str × M))
abbrev MH := List MO
abbrev Env := List (Option M)
structure Exn where
  cls : Nat
  fs : List (Str × M)
abbrev QE := M → MH → Prop
abbrev XW := Exn → Env → MH → Prop
abbrev FS := List M → MH → QE → (Exn → MH → Prop) → Prop
structure Ed where
  nx : Env → MH → Prop
  rt : QE
  bk : Env → MH → Prop := fun _ _ => False
  ct : Env → MH → Prop := fun _ _ => False
/-! ### what operators do -/
def mulOk (i j : Int) : Prop := CMul i j ∨ CMulW i j
def binR : Operator → M → M → MH → QE → Prop
  | .Add, .int i, .int j, h, Q => Q (.int (i + j)) h
  | .Add, .str a, .str b, h, Q => a.length + b.length ≤ sizeLine ∧ Q (.str (a ++ b)) h
  | .Add, .tup a, .tup b, h, Q => a.length + b.length ≤ sizeLine ∧ Q (.tup (a ++ b)) h
  | .Add, .ref a, .ref b, h, Q => ∃ xs ys, h[a]? = some (.lst xs) ∧ h[b]? = some (.lst ys) ∧ xs.length + ys.length ≤ sizeLine ∧ Q (.ref h.length) (h ++ [.lst (xs ++ ys)])
  | .Sub, .int i, .int j, h, Q => Q (.int (i - j)) h
  | .Mult, .int i, .int j, h, Q => mulOk i j ∧ Q (.int (i * j)) h
  | .Mult, .tup xs, .int k, h, Q => xs ≠ [] ∧ 1 ≤ k ∧ k ≤ 1000 ∧ xs.length ≤ 1000 ∧ Q (.tup (List.replicate k.toNat xs).flatten) h
  | .Mult, .ref a, .int k, h, Q => ∃ xs, h[a]? = some (.lst xs) ∧ -(2 ^ 63) ≤ k ∧ k < 2 ^ 63 ∧ xs.length * k.toNat ≤ sizeLine ∧ Q (.ref h.length) (h ++ [.lst (List.replicate k.toNat xs).flatten])
  | .FloorDiv, .int i, .int j, h, Q => (0 < j ∧ j.natAbs.log2 < 9000) ∧ Q (.int (i / j)) h
  | .Mod, .int i, .int j, h, Q => 0 < j ∧ Q (.int (i % j)) h
  | .Pow, .int i, .int j, h, Q => CPow i j ∧ Q (.int (i ^ j.toNat)) h
  | .LShift, .int i, .int j, h, Q => CPow i j ∧ Q (.int (i * 2 ^ j.toNat)) h
  | _, _, _, _, _ => False
def getL (h : MH) (k : Nat) : Option (List M) :=
  match h[k]? with
  | some (.lst xs) => some xs
  | _ => none
def getD (h : MH) (k : Nat) : Option (List (M × M)) :=
  match h[k]? with
  | some (.dct xs) => some xs
  | _ => none
def keyM : M → Option Key
  | .int i => some (.inl i)
  | .str x => some (.inr (mkS x))
  | _ => none
def dval (kvs : List (M × M)) (k : M) : Option M := (kvs.find? fun p => decide (p.1 = k)).map (·.2)
def dput (kvs : List (M × M)) (k v : M) : List (M × M) :=
  if (kvs.any fun p => decide (p.1 = k)) = true then kvs.map (fun p => if p.1 = k then (p.1, v) else p) else kvs ++ [(k, v)]
def dmerge (kvs more : List (M × M)) : List (M × M) := more.foldl (fun acc p => dput acc p.1 p.2) kvs
def flatM : M → Bool
  | .non => true
  | .int _ => true
  | .str _ => true
  | _ => false
def eqV (h : MH) : M → M → Option Bool
  | .ref a, .ref b => match h[a]?, h[b]? with
    | some (.lst xs), some (.lst ys) => if xs.all (M.dt 60) && ys.all (M.dt 60) then some (decide (xs = ys)) else none
    | _, _ => none
  | .bl a, .bl b => some (decide (a = b))
  | .str a, .str b => some (decide (a = b))
  | x, y => if M.dt 60 x && M.dt 60 y then some (decide (x = y)) else none
def inV (h : MH) (x : M) : M → Option Bool
  | .tup ys => if flatM x && ys.all flatM then some (decide (x ∈ ys)) else none
  | .ref a => match getL h a with
    | some ys => if flatM x && ys.all flatM then some (decide (x ∈ ys)) else none
    | none => match getD h a with
      | some kvs => if (keyM x).isSome then some (dval kvs x).isSome else none
      | none => none
  | _ => none
def cmpR : CmpOp → M → M → MH → (Bool → MH → Prop) → Prop
  | .Eq, x, y, h, Q => ∃ b, eqV h x y = some b ∧ Q b h
  | .NotEq, x, y, h, Q => ∃ b, eqV h x y = some b ∧ Q (!b) h
  | .Lt, .int i, .int j, h, Q => Q (decide (i < j)) h
  | .LtE, .int i, .int j, h, Q => Q (decide (i ≤ j)) h
  | .Gt, .int i, .int j, h, Q => Q (decide (j < i)) h
  | .GtE, .int i, .int j, h, Q => Q (decide (j ≤ i)) h
  | .Is, x, .non, h, Q => Q (decide (x = .non)) h
  | .IsNot, x, .non, h, Q => Q (!decide (x = .non)) h
  | .In, x, y, h, Q => ∃ b, inV h x y = some b ∧ Q b h
  | .NotIn, x, y, h, Q => ∃ b, inV h x y = some b ∧ Q (!b) h
  | _, _, _, _, _ => False
def truV (h : MH) : M → Option Bool
  | .non => some false
  | .bl b => some b
  | .int i => some (decide (i ≠ 0))
  | .str x => if x.length ≤ sizeLine then some (decide (x ≠ [])) else none
  | .tup xs => some (decide (xs ≠ []))
  | .fz _ => none
  | .tuq _ => none
  | .ref a => match h[a]? with
    | some (.lst xs) => some (decide (xs ≠ []))
    | _ => none
def idxR (x y : M) (h : MH) (Q : QE) : Prop :=
  match x, y with
  | .tup xs, .int i => ∃ v, atI xs i = some v ∧ Q v h
  | .fz xs, .int i => ∃ v, atI xs i = some v ∧ Q v h
  | .str z, .int i => z.length ≤ sizeLine ∧ ∃ c, atI z i = some c ∧ Q (.str [c]) h
  | .ref a, .int i => ∃ xs v, getL h a = some xs ∧ atI xs i = some v ∧ Q v h
  | _, _ => False
def cutL {α : Type} (xs : List α) (lo hi : Option Int) : List α := (xs.drop (HT.sIx xs.length 0 lo)).take (HT.sIx xs.length xs.length hi - HT.sIx xs.length 0 lo)
def slcR (x : M) (lo hi : Option Int) (h : MH) (Q : QE) : Prop :=
  match x with
  | .tup xs => Q (.tup (cutL xs lo hi)) h
  | .str z => z.length ≤ sizeLine ∧ Q (.str (cutL z lo hi)) h
  | .ref a => ∃ xs, getL h a = some xs ∧ Q (.ref h.length) (h ++ [.lst (cutL xs lo hi)])
  | _ => False
/-! ### built-in functions and methods -/
inductive Pm where
  | len | tuple | list | str | int | min2 | max2 | abs | all | any | sum | dict | dcopy | dkeys | dlen
  deriving DecidableEq
def bls : List M → Option (List Bool)
  | [] => some []
  | .bl b :: r => (bls r).map (b :: ·)
  | _ :: _ => none
def intsM : List M → Option (List Int)
  | [] => some []
  | .int b :: r => (intsM r).map (b :: ·)
  | _ :: _ => none
def strsM : List M → Option (List (List Nat))
  | [] => some []
  | .str b :: r => (strsM r).map (b :: ·)
  | _ :: _ => none
def intL (i : Int) : List Nat := TL.tl (toString i : Str)
def pm_len : List M → MH → QE → Prop
  | [.tup xs], h, Q => Q (.int xs.length) h
  | [.fz xs], h, Q => Q (.int xs.length) h
  | [.str x], h, Q => x.length ≤ sizeLine ∧ Q (.int x.length) h
  | [.ref a], h, Q => ∃ xs, getL h a = some xs ∧ Q (.int xs.length) h
  | _, _, _ => False
def pm_tuple : List M → MH → QE → Prop
  | [.tup xs], h, Q => Q (.tup xs) h
  | [.ref a], h, Q => ∃ xs, getL h a = some xs ∧ Q (.tup xs) h
  | _, _, _ => False
def pm_list : List M → MH → QE → Prop
  | [.tup xs], h, Q => Q (.ref h.length) (h ++ [.lst xs])
  | [.ref a], h, Q => ∃ xs, getL h a = some xs ∧ Q (.ref h.length) (h ++ [.lst xs])
  | _, _, _ => False
def pm_str : List M → MH → QE → Prop
  | [.str x], h, Q => Q (.str x) h
  | [.int i], h, Q => i.natAbs.log2 < 1920 ∧ Q (.str (intL i)) h
  | _, _, _ => False
def pm_int : List M → MH → QE → Prop
  | [.int i], h, Q => Q (.int i) h
  | [.bl b], h, Q => Q (.int (if b then 1 else 0)) h
  | _, _, _ => False
def pm_min2 : List M → MH → QE → Prop
  | [.int i, .int j], h, Q => Q (.int (if j < i then j else i)) h
  | _, _, _ => False
def pm_max2 : List M → MH → QE → Prop
  | [.int i, .int j], h, Q => Q (.int (if j > i then j else i)) h
  | _, _, _ => False
def pm_abs : List M → MH → QE → Prop
  | [.int i], h, Q => Q (.int (if i < 0 then -i else i)) h
  | _, _, _ => False
def pm_all : List M → MH → QE → Prop
  | [.ref a], h, Q => ∃ xs bs, getL h a = some xs ∧ bls xs = some bs ∧ Q (.bl (bs.all id)) h
  | _, _, _ => False
def pm_any : List M → MH → QE → Prop
  | [.ref a], h, Q => ∃ xs bs, getL h a = some xs ∧ bls xs = some bs ∧ Q (.bl (bs.any id)) h
  | _, _, _ => False
def pm_sum : List M → MH → QE → Prop
  | [.ref a], h, Q => ∃ xs ns, getL h a = some xs ∧ intsM xs = some ns ∧ Q (.int ns.sum) h
  | _, _, _ => False
def prsM : List M → Option (List (M × M))
  | [] => some []
  | .tup [k, v] :: r => if (keyM k).isSome then (prsM r).map ((k, v) :: ·) else none
  | _ :: _ => none
def pm_dict : List M → MH → QE → Prop
  | [.tup xs], h, Q => ∃ kvs, prsM xs = some kvs ∧ Q (.ref h.length) (h ++ [.dct (dmerge [] kvs)])
  | _, _, _ => False
def pm_dcopy : List M → MH → QE → Prop
  | [.ref a], h, Q => ∃ kvs, getD h a = some kvs ∧ Q (.ref h.length) (h ++ [.dct kvs])
  | _, _, _ => False
def pm_dkeys : List M → MH → QE → Prop
  | [.ref a], h, Q => ∃ kvs, getD h a = some kvs ∧ Q (.ref h.length) (h ++ [.lst (kvs.map (·.1))])
  | _, _, _ => False
def pm_dlen : List M → MH → QE → Prop
  | [.ref a], h, Q => ∃ kvs, getD h a = some kvs ∧ Q (.int kvs.length) h
  | _, _, _ => False
def pmR : Pm → List M → MH → QE → Prop
  | .len => pm_len
  | .tuple => pm_tuple
  | .list => pm_list
  | .str => pm_str
  | .int => pm_int
  | .min2 => pm_min2
  | .max2 => pm_max2
  | .abs => pm_abs
  | .all => pm_all
  | .any => pm_any
  | .sum => pm_sum
  | .dict => pm_dict
  | .dcopy => pm_dcopy
  | .dkeys => pm_dkeys
  | .dlen => pm_dlen
inductive Mt where
  | join | append | extend | pop | dget
  deriving DecidableEq
def mt_join : M → List M → MH → QE → Prop
  | .str a, [.ref p], h, Q => ∃ xs ys, getL h p = some xs ∧ strsM xs = some ys ∧ (ys.map (·.length)).sum + ys.length * a.length ≤ 16777216 ∧ Q (.str (TL.joinL a ys)) h
  | _, _, _, _ => False
def mt_append : M → List M → MH → QE → Prop
  | .ref l, [y], h, Q => ∃ xs, h[l]? = some (.lst xs) ∧ xs.length < sizeLine ∧ Q .non (h.set l (.lst (xs ++ [y])))
  | _, _, _, _ => False
def mt_extend : M → List M → MH → QE → Prop
  | .ref l, [.ref b], h, Q => ∃ xs zs, h[l]? = some (.lst xs) ∧ h[b]? = some (.lst zs) ∧ xs.length + zs.length ≤ sizeLine ∧ Q .non (h.set l (.lst (xs ++ zs)))
  | _, _, _, _ => False
def mt_pop : M → List M → MH → QE → Prop
  | .ref l, [], h, Q => ∃ xs y, h[l]? = some (.lst (xs ++ [y])) ∧ Q y (h.set l (.lst xs))
  | _, _, _, _ => False
def mt_dget : M → List M → MH → QE → Prop
  | .ref l, [k], h, Q => ∃ kvs, h[l]? = some (.dct kvs) ∧ (keyM k).isSome = true ∧ Q ((dval kvs k).getD .non) h
  | .ref l, [.non, d], h, Q => ∃ kvs, h[l]? = some (.dct kvs) ∧ Q d h
  | .ref l, [k, d], h, Q => ∃ kvs, h[l]? = some (.dct kvs) ∧ (keyM k).isSome = true ∧ Q ((dval kvs k).getD d) h
  | _, _, _, _ => False
def mtR : Mt → M → List M → MH → QE → Prop
  | .join => mt_join
  | .append => mt_append
  | .extend => mt_extend
  | .pop => mt_pop
  | .dget => mt_dget
def mtTy (m : Mt) (x : M) (h : MH) : Bool :=
  match m, x with
  | .join, .str _ => true
  | .append, .ref k => (getL h k).isSome
  | .extend, .ref k => (getL h k).isSome
  | .pop, .ref k => (getL h k).isSome
  | .dget, .ref k => (getD h k).isSome
  | _, _ => false
inductive Ty where
  | tuple | str | int | bool | list
  deriving DecidableEq
def isiV (t : Ty) (h : MH) : M → Option Bool
  | .non => some false
  | .bl _ => some (t == .bool || t == .int)
  | .int _ => some (t == .int)
  | .str _ => some (t == .str)
  | .tup _ => some (t == .tuple)
  | .fz _ => none
  | .tuq _ => none
  | .ref k => if (getL h k).isSome then some (t == .list) else none
/-! ### the small syntax -/
inductive Tg where
  | nm (i : Nat) | tp (is : List Nat)
mutual
inductive ME where
  | var (i : Nat)
  | cst (m : M)
  | glb (k : Nat)
  | tup (es : MEs)
  | lst (es : MEs)
  | bin (op : Operator) (a b : ME)
  | neg (a : ME)
  | cmp (op : CmpOp) (a b : ME)
  | chn (op op' : CmpOp) (a b c : ME)
  | not (a : ME)
  | and (es : MEs)
  | or (es : MEs)
  | ifx (c a b : ME)
  | idx (a b : ME)
  | dix (a b : ME)
  | dnew
  | slc (a : ME) (lo hi : MEo)
  | call (f : Nat) (es : MEs)
  | prm (p : Pm) (es : MEs)
  | mth (m : Mt) (o : ME) (es : MEs)
  | isi (t : Ty) (e : ME)
  | comp (vs : List Nat) (t : Tg) (it : MI) (c : MEo) (e : ME)
inductive MEs where
  | nil | cons (e : ME) (es : MEs)
inductive MEo where
  | no | so (e : ME)
inductive MI where
  | on (e : ME)
  | rng (es : MEs)
  | enm (e : ME)
  | zip (a b : ME)
end
mutual
inductive MS where
  | asg (t : Tg) (e : ME)
  | par (is : List Nat) (es : MEs)
  | sub (o i e : ME)
  | dsb (o i e : ME)
  | dd
  | aug (i : Nat) (op : Operator) (e : ME)
  | exp (e : ME)
  | ret (e : ME)
  | retN
  | ife (c : ME) (a b : MSs)
  | for (t : Tg) (it : MI) (b : MSs)
  | whl (c : ME) (b : MSs)
  | pas | brk | cnt
inductive MSs where
  | nil | cons (s : MS) (ss : MSs)
end
/-! ### what it does: for each piece of syntax, what must hold ahead so that it ends as wanted -/
@[simp] def setAll : List Nat → List M → Env → Env
  | i :: is, v :: vs, env => setAll is vs (env.set i (some v))
  | _, _, env => env
/-- binding a target to a value -/
def bindT : Tg → M → Env → Option Env
  | .nm i, v, env => some (env.set i (some v))
  | .tp is, .tup vs, env => if vs.length = is.length then some (setAll is vs env) else none
  | .tp is, .tuq vs, env => if vs.length = is.length then some (setAll is vs env) else none
  | _, _, _ => none
@[simp] def wipeE (env : Env) : List Nat → Env
  | [] => env
  | v :: vs => (wipeE env vs).set v none
abbrev WE := Env → MH → QE → (Exn → MH → Prop) → Prop
abbrev WT := Env → MH → (Bool → MH → Prop) → (Exn → MH → Prop) → Prop
@[simp] def compL (chk : MH → Prop) (bnd : M → Option Env) (cond : WT) (elt : WE) (X : Exn → MH → Prop) : List M → List M → MH → (List M → MH → Prop) → Prop
  | [], acc, h, R => chk h ∧ R acc h
  | x :: xs, acc, h, R => chk h ∧ ∃ env, bnd x = some env ∧ cond env h (fun b h1 => if b = true then elt env h1 (fun y h2 => compL chk bnd cond elt X xs (acc ++ [y]) h2 R) X else compL chk bnd cond elt X xs acc h1 R) X
@[simp] def forL (chk : MH → Prop) (t : Tg) (body : Env → MH → Ed → XW → Prop) (X : XW) (D : Ed) : List M → Env → MH → Prop
  | [], env, h => chk h ∧ D.nx env h
  | x :: xs, env, h => chk h ∧ ∃ env', bindT t x env = some env' ∧ body env' h { nx := forL chk t body X D xs, rt := D.rt, bk := D.nx, ct := forL chk t body X D xs } X
def rngOk (a b : Int) : Prop := -(2 ^ 62) ≤ a ∧ a < 2 ^ 62 ∧ -(2 ^ 62) ≤ b ∧ b < 2 ^ 62 ∧ (b - a).toNat ≤ sizeLine
def rngL (a b : Int) : List M := (List.range (b - a).toNat).map fun i => .int (a + (i : Nat))
abbrev KI := List M → (MH → Prop) → MH → Prop
def onR (x : M) (h : MH) (K : KI) : Prop :=
  match x with
  | .tup xs => K xs (fun _ => True) h
  | .fz xs => K xs (fun _ => True) h
  | .str z => z.length ≤ sizeLine ∧ K (z.map fun c => .str [c]) (fun _ => True) h
  | .ref a => ∃ xs, getL h a = some xs ∧ K xs (fun h' => getL h' a = some xs) h
  | _ => False
def rngR (vs : List M) (h : MH) (K : KI) : Prop :=
  match vs with
  | [.int b] => rngOk 0 b ∧ K (rngL 0 b) (fun _ => True) h
  | [.int a, .int b] => rngOk a b ∧ K (rngL a b) (fun _ => True) h
  | _ => False
def enmL (xs : List M) : List M := (xs.zipIdx 0).map fun p => .tuq [.int (p.2 : Nat), p.1]
def zipL (xs ys : List M) : List M := (xs.zip ys).map fun p => .tuq [p.1, p.2]
def zipR (v u : M) (h : MH) (K : KI) : Prop :=
  match v, u with
  | .tup xs, .tup ys => (zipL xs ys).length ≤ sizeLine ∧ K (zipL xs ys) (fun _ => True) h
  | .ref a, .ref b => ∃ xs ys, getL h a = some xs ∧ getL h b = some ys ∧ (zipL xs ys).length ≤ sizeLine ∧ K (zipL xs ys) (fun h' => getL h' a = some xs ∧ getL h' b = some ys) h
  | _, _ => False
section
variable (gl : Nat → M) (Φ : Nat → FS)
mutual
@[simp] def wE : ME → WE
  | .var i, env, h, Q, X => ∃ v, env[i]? = some (some v) ∧ Q v h
  | .cst m, env, h, Q, X => Q m h
  | .glb k, env, h, Q, X => Q (gl k) h
  | .tup es, env, h, Q, X => wEs es env h (fun vs h1 => Q (.tup vs) h1) X
  | .lst es, env, h, Q, X => wEs es env h (fun vs h1 => Q (.ref h1.length) (h1 ++ [.lst vs])) X
  | .bin op a b, env, h, Q, X => wE a env h (fun x h1 => wE b env h1 (fun y h2 => binR op x y h2 Q) X) X
  | .neg a, env, h, Q, X => wE a env h (fun x h1 => ∃ i, x = .int i ∧ Q (.int (-i)) h1) X
  | .cmp op a b, env, h, Q, X => wE a env h (fun x h1 => wE b env h1 (fun y h2 => cmpR op x y h2 (fun k h3 => Q (.bl k) h3)) X) X
  | .chn op op' a b c, env, h, Q, X => wE a env h (fun x h1 => wE b env h1 (fun y h2 => cmpR op x y h2 (fun k h3 => if k = true then wE c env h3 (fun z h4 => cmpR op' y z h4 (fun k' h5 => Q (.bl k') h5)) X else Q (.bl false) h3)) X) X
  | .not a, env, h, Q, X => wE a env h (fun v h1 => ∃ k, truV h1 v = some k ∧ Q (.bl (!k)) h1) X
  | .and es, env, h, Q, X => wAnd es env h Q X
  | .or es, env, h, Q, X => wOr es env h Q X
  | .ifx c a b, env, h, Q, X => wT c env h (fun k h1 => if k = true then wE a env h1 Q X else wE b env h1 Q X) X
  | .idx a b, env, h, Q, X => wE a env h (fun x h1 => wE b env h1 (fun y h2 => idxR x y h2 Q) X) X
  | .dix a b, env, h, Q, X => wE a env h (fun x h1 => wE b env h1 (fun y h2 => ∃ a kvs v, x = .ref a ∧ getD h2 a = some kvs ∧ (keyM y).isSome = true ∧ dval kvs y = some v ∧ Q v h2) X) X
  | .dnew, env, h, Q, X => Q (.ref h.length) (h ++ [.dct []])
  | .slc a lo hi, env, h, Q, X => wE a env h (fun x h1 => wO lo env h1 (fun l h2 => wO hi env h2 (fun u h3 => slcR x l u h3 Q) X) X) X
  | .call f es, env, h, Q, X => wEs es env h (fun vs h1 => Φ f vs h1 Q X) X
  | .prm p es, env, h, Q, X => wEs es env h (fun vs h1 => pmR p vs h1 Q) X
  | .mth m o es, env, h, Q, X => wE o env h (fun x h1 => mtTy m x h1 = true ∧ wEs es env h1 (fun vs h2 => mtR m x vs h2 Q) X) X
  | .isi t e, env, h, Q, X => wE e env h (fun v h1 => ∃ b, isiV t h1 v = some b ∧ Q (.bl b) h1) X
  | .comp vs t it c e, env, h, Q, X => wI it env h (fun xs chk h1 =>
      compL chk (fun x => bindT t x (wipeE env vs)) (fun env' h Q X => wC c env' h Q X) (fun env' h Q X => wE e env' h Q X) (fun _ _ => False) xs [] h1 (fun acc h2 => Q (.ref h2.length) (h2 ++ [.lst acc]))) X
termination_by structural x => x
@[simp] def wEs : MEs → Env → MH → (List M → MH → Prop) → (Exn → MH → Prop) → Prop
  | .nil, env, h, Q, X => Q [] h
  | .cons e es, env, h, Q, X => wE e env h (fun v h1 => wEs es env h1 (fun vs h2 => Q (v :: vs) h2) X) X
termination_by structural x => x
@[simp] def wAnd : MEs → WE
  | .nil, env, h, Q, X => False
  | .cons e .nil, env, h, Q, X => wE e env h Q X
  | .cons e (.cons e' es), env, h, Q, X => wE e env h (fun v h1 => ∃ k, truV h1 v = some k ∧ if k = true then wAnd (.cons e' es) env h1 Q X else Q v h1) X
termination_by structural x => x
@[simp] def wOr : MEs → WE
  | .nil, env, h, Q, X => False
  | .cons e .nil, env, h, Q, X => wE e env h Q X
  | .cons e (.cons e' es), env, h, Q, X => wE e env h (fun v h1 => ∃ k, truV h1 v = some k ∧ if k = true then Q v h1 else wOr (.cons e' es) env h1 Q X) X
termination_by structural x => x
@[simp] def wT : ME → WT
  | .not a, env, h, Q, X => wT a env h (fun k h1 => Q (!k) h1) X
  | .and es, env, h, Q, X => wAndT es env h Q X
  | .or es, env, h, Q, X => wOrT es env h Q X
  | .cmp op a b, env, h, Q, X => wE a env h (fun x h1 => wE b env h1 (fun y h2 => cmpR op x y h2 Q) X) X
  | .chn op op' a b c, env, h, Q, X => wE a env h (fun x h1 => wE b env h1 (fun y h2 => cmpR op x y h2 (fun k h3 => if k = true then wE c env h3 (fun z h4 => cmpR op' y z h4 Q) X else Q false h3)) X) X
  | .var i, env, h, Q, X => ∃ v, env[i]? = some (some v) ∧ ∃ k, truV h v = some k ∧ Q k h
  | .call f es, env, h, Q, X => wEs es env h (fun vs h1 => Φ f vs h1 (fun v h2 => ∃ k, truV h2 v = some k ∧ Q k h2) X) X
  | .prm p es, env, h, Q, X => wEs es env h (fun vs h1 => pmR p vs h1 (fun v h2 => ∃ k, truV h2 v = some k ∧ Q k h2)) X
  | .cst m, env, h, Q, X => ∃ k, truV h m = some k ∧ Q k h
  | .isi t e, env, h, Q, X => wE e env h (fun v h1 => ∃ b, isiV t h1 v = some b ∧ Q b h1) X
  | .idx a b, env, h, Q, X => wE a env h (fun x h1 => wE b env h1 (fun y h2 => idxR x y h2 (fun v h3 => ∃ k, truV h3 v = some k ∧ Q k h3)) X) X
  | _, env, h, Q, X => False
termination_by structural x => x
@[simp] def wAndT : MEs → WT
  | .nil, env, h, Q, X => Q true h
  | .cons e es, env, h, Q, X => wT e env h (fun k h1 => if k = true then wAndT es env h1 Q X else Q false h1) X
termination_by structural x => x
@[simp] def wOrT : MEs → WT
  | .nil, env, h, Q, X => Q false h
  | .cons e es, env, h, Q, X => wT e env h (fun k h1 => if k = true then Q true h1 else wOrT es env h1 Q X) X
termination_by structural x => x
@[simp] def wO : MEo → Env → MH → (Option Int → MH → Prop) → (Exn → MH → Prop) → Prop
  | .no, env, h, Q, X => Q none h
  | .so e, env, h, Q, X => wE e env h (fun v h1 => ∃ i, v = .int i ∧ Q (some i) h1) X
termination_by structural x => x
@[simp] def wC : MEo → WT
  | .no, env, h, Q, X => Q true h
  | .so e, env, h, Q, X => wT e env h Q X
termination_by structural x => x
@[simp] def wI : MI → Env → MH → KI → (Exn → MH → Prop) → Prop
  | .on e, env, h, K, X => wE e env h (fun v h1 => onR v h1 K) X
  | .rng es, env, h, K, X => wEs es env h (fun vs h1 => rngR vs h1 K) X
  | .enm e, env, h, K, X => wE e env h (fun v h1 => match v with
      | .tup xs => K (enmL xs) (fun _ => True) h1
      | .ref a => ∃ xs, getL h1 a = some xs ∧ K (enmL xs) (fun h' => getL h' a = some xs) h1
      | _ => False) X
  | .zip a b, env, h, K, X => wE a env h (fun v h1 => wE b env h1 (fun u h2 => zipR v u h2 K) X) X
termination_by structural x => x
end
abbrev WS := Env → MH → Ed → XW → Prop
mutual
@[simp] def wS : MS → WS
  | .asg t e, env, h, D, X => wE gl Φ e env h (fun v h1 => ∃ env', bindT t v env = some env' ∧ D.nx env' h1) (fun x h => X x env h)
  | .par is es, env, h, D, X => wEs gl Φ es env h (fun vs h1 => D.nx (setAll is vs env) h1) (fun x h => X x env h)
  | .sub o i e, env, h, D, X => wE gl Φ e env h (fun v h1 => wE gl Φ o env h1 (fun a h2 => wE gl Φ i env h2 (fun k h3 => ∃ l xs j n, a = .ref l ∧ k = .int j ∧ h3[l]? = some (.lst xs) ∧ ixN xs.length j = some n ∧ D.nx env (h3.set l (.lst (xs.set n v))))
      (fun x h => X x env h)) (fun x h => X x env h)) (fun x h => X x env h)
  | .dsb o i e, env, h, D, X => wE gl Φ e env h (fun v h1 => wE gl Φ o env h1 (fun a h2 => wE gl Φ i env h2 (fun k h3 => ∃ l kvs, a = .ref l ∧ (keyM k).isSome = true ∧ h3[l]? = some (.dct kvs) ∧ kvs.length < sizeLine ∧ D.nx env (h3.set l (.dct (dput kvs k v))))
      (fun x h => X x env h)) (fun x h => X x env h)) (fun x h => X x env h)
  | .dd, env, h, D, X => False
  | .aug i op e, env, h, D, X => ∃ x, env[i]? = some (some x) ∧ wE gl Φ e env h (fun y h1 => ∃ a b, x = .int a ∧ y = .int b ∧ op = .Add ∧ D.nx (env.set i (some (.int (a + b)))) h1) (fun x h => X x env h)
  | .exp e, env, h, D, X => wE gl Φ e env h (fun _ h1 => D.nx env h1) (fun x h => X x env h)
  | .ret e, env, h, D, X => wE gl Φ e env h D.rt (fun x h => X x env h)
  | .retN, env, h, D, X => D.rt .non h
  | .ife c a b, env, h, D, X => wT gl Φ c env h (fun k h1 => if k = true then wSs a env h1 D X else wSs b env h1 D X) (fun x h => X x env h)
  | .for t it b, env, h, D, X => wI gl Φ it env h (fun xs chk h1 => forL chk t (fun env h D X => wSs b env h D X) X D xs env h1) (fun x h => X x env h)
  | .whl c b, env, h, D, X => ∃ W : Nat → Env → MH → Prop, (∃ m, W m env h) ∧ ∀ m env h, W m env h →
      wT gl Φ c env h (fun k h1 => if k = true then wSs b env h1 { nx := fun e h => ∃ m', m' < m ∧ W m' e h, rt := D.rt, bk := D.nx, ct := fun e h => ∃ m', m' < m ∧ W m' e h } X else D.nx env h1) (fun x h => X x env h)
  | .pas, env, h, D, X => D.nx env h
  | .brk, env, h, D, X => D.bk env h
  | .cnt, env, h, D, X => D.ct env h
termination_by structural x => x
@[simp] def wSs : MSs → WS
  | .nil, env, h, D, X => D.nx env h
  | .cons s ss, env, h, D, X => wS s env h { D with nx := fun env' h' => wSs ss env' h' D X } X
termination_by structural x => x
end
end
end Wg
open PySem PySem.Spec PyProof.Rows
set_option linter.all false
namespace Wg
open L2
/-! ### how the small values stand in the heap -/
/-- a list that nobody changes -/
def SqF (K : PySem.W.Frag) (H : Hp) (a : Addr) (ys : List V) : Prop :=
  (∃ o, H a = some (.frz o (.lst ys))) ∨
    ∃ (o : Obj) (its : Array Value) (n : Nat), K.lookup a = some o ∧ o.cls = .type "list" ∧ o.dict = none ∧ o.data = .seq its n ∧ its.size ≤ sizeLine ∧ Vals ys its.toList
theorem SqF.sq {K : PySem.W.Frag} {H : Hp} {a : Addr} {ys : List V} (h : SqF K H a ys) : SqL K H a ys := by
  rcases h with ⟨o, h⟩ | h
  · exact .inl (.inr ⟨o, h⟩)
  · exact .inr h
/-- a plain tuple -/
def SqP (K : PySem.W.Frag) (H : Hp) (a : Addr) (ys : List V) : Prop :=
  (∃ o, H a = some (.frz o (.tup ys)) ∧ o.dict = none) ∨
    ∃ (o : Obj) (its : Array Value) (n : Nat), K.lookup a = some o ∧ o.cls = .type "tuple" ∧ o.dict = none ∧ o.data = .seq its n ∧ its.size ≤ sizeLine ∧ Vals ys its.toList
theorem SqP.sq {K : PySem.W.Frag} {H : Hp} {a : Addr} {ys : List V} (h : SqP K H a ys) : SqT K H a ys := by
  rcases h with ⟨o, h, _⟩ | ⟨o, its, n, h1, h2, _, h3⟩
  · exact .inl (.inr ⟨o, h⟩)
  · exact .inr ⟨o, its, n, h1, h2, h3⟩
mutual
inductive Rep (K : PySem.W.Frag) (ρ : List Addr) (H : Hp) : M → V → Prop
  | non : Rep K ρ H .non .non
  | bl (b : Bool) : Rep K ρ H (.bl b) (.bl b)
  | int (i : Int) : Rep K ρ H (.int i) (.int i)
  | str (x : List Nat) : Rep K ρ H (.str x) (.str (mkS x))
  | tup {a : Addr} {xs : List M} {ys : List V} : SqP K H a ys → Reps K ρ H xs ys → Rep K ρ H (.tup xs) (.ref a)
  | tuq {a : Addr} {xs : List M} {ys : List V} : SqT K H a ys → Reps K ρ H xs ys → Rep K ρ H (.tuq xs) (.ref a)
  | ref {a : Addr} {k : Nat} : ρ[k]? = some a → Rep K ρ H (.ref k) (.ref a)
  | fz {a : Addr} {xs : List M} {ys : List V} : SqF K H a ys → Reps K ρ H xs ys → Rep K ρ H (.fz xs) (.ref a)
inductive Reps (K : PySem.W.Frag) (ρ : List Addr) (H : Hp) : List M → List V → Prop
  | nil : Reps K ρ H [] []
  | cons {x : M} {y : V} {xs : List M} {ys : List V} : Rep K ρ H x y → Reps K ρ H xs ys → Reps K ρ H (x :: xs) (y :: ys)
end
def FR (K : PySem.W.Frag) (ρ : List Addr) (H : Hp) : List (Str × M) → List (Str × V) → Prop
  | [], [] => True
  | (f, x) :: xs, (g, y) :: ys => f = g ∧ Rep K ρ H x y ∧ FR K ρ H xs ys
  | _, _ => False
def DR (K : PySem.W.Frag) (ρ : List Addr) (H : Hp) : List (M × M) → List (Key × V) → Prop
  | [], [] => True
  | (k, x) :: xs, (j, y) :: ys => keyM k = some j ∧ Rep K ρ H x y ∧ DR K ρ H xs ys
  | _, _ => False
def OR (K : PySem.W.Frag) (ca : Nat → Addr) (ρ : List Addr) (H : Hp) : MO → Addr → Prop
  | .lst xs, a => ∃ ys, H a = some (.lst ys) ∧ Reps K ρ H xs ys
  | .dct kvs, a => ∃ ls, H a = some (.dK ls) ∧ DR K ρ H kvs ls
  | .ins c fs, a => ∃ dx gs, H a = some (.ins (ca c) dx gs) ∧ FR K ρ H fs gs
structure HR (K : PySem.W.Frag) (ca : Nat → Addr) (ρ : List Addr) (h : MH) (H : Hp) : Prop where
  len : ρ.length = h.length
  nd : ρ.Nodup
  ob : ∀ (k : Nat) (o : MO) (a : Addr), h[k]? = some o → ρ[k]? = some a → OR K ca ρ H o a
structure Ext (ρ : List Addr) (H : Hp) (ρ' : List Addr) (H' : Hp) : Prop where
  app : ∃ t, ρ' = ρ ++ t ∧ ∀ a ∈ t, H a = none
  keep : ∀ a o, H a = some o → a ∉ ρ → H' a = some o
def ER (K : PySem.W.Frag) (ρ : List Addr) (H : Hp) (env : Env) (σ : List (Option V)) : Prop :=
  env.length = σ.length ∧ ∀ (i : Nat) (m : M), env[i]? = some (some m) → ∃ v, σ[i]? = some (some v) ∧ Rep K ρ H m v
section
variable {K : PySem.W.Frag} {ca : Nat → Addr} {ρ ρ' ρ1 : List Addr} {h h' : MH} {H H' H1 : Hp} {a : Addr} {k : Nat}
theorem OR.there {o : MO} (r : OR K ca ρ H o a) : ∃ u, H a = some u ∧ ((∃ ys, u = .lst ys) ∨ (∃ C dx fs, u = .ins C dx fs) ∨ ∃ ls, u = .dK ls) := by
  cases o with
  | lst xs => obtain ⟨ys, e, _⟩ := r; exact ⟨_, e, .inl ⟨_, rfl⟩⟩
  | dct _ => obtain ⟨ys, e, _⟩ := r; exact ⟨_, e, .inr (.inr ⟨_, rfl⟩)⟩
  | ins c fs => obtain ⟨dx, gs, e, _⟩ := r; exact ⟨_, e, .inr (.inl ⟨_, _, _, rfl⟩)⟩
theorem HR.there (r : HR K ca ρ h H) (m : a ∈ ρ) : ∃ u, H a = some u ∧ ((∃ ys, u = .lst ys) ∨ (∃ C dx fs, u = .ins C dx fs) ∨ ∃ ls, u = .dK ls) := by
  obtain ⟨k, hk⟩ := List.getElem?_of_mem m
  have hl : k < h.length := by
    have := (List.getElem?_eq_some_iff.mp hk).1
    have := r.len
    omega
  exact (r.ob k h[k] a (List.getElem?_eq_getElem hl) hk).there
theorem HR.notT (r : HR K ca ρ h H) {ys : List V} (e : H a = some (.tup ys)) : a ∉ ρ := fun m => by
  obtain ⟨u, e', d⟩ := r.there m
  rw [e] at e'; cases e'
  rcases d with ⟨_, d⟩ | ⟨_, _, _, d⟩ | ⟨_, d⟩ <;> cases d
theorem HR.notF (r : HR K ca ρ h H) {o : Obj} {u : HO} (e : H a = some (.frz o u)) : a ∉ ρ := fun m => by
  obtain ⟨u, e', d⟩ := r.there m
  rw [e] at e'; cases e'
  rcases d with ⟨_, d⟩ | ⟨_, _, _, d⟩ | ⟨_, d⟩ <;> cases d
theorem HR.fresh (r : HR K ca ρ h H) (e : H a = none) : a ∉ ρ := fun m => by
  obtain ⟨u, e', _⟩ := r.there m
  rw [e] at e'; cases e'
theorem Ext.refl : Ext ρ H ρ H := ⟨⟨[], by simp, by simp⟩, fun _ _ e _ => e⟩
theorem Ext.trans (r1 : HR K ca ρ1 h H1) (x : Ext ρ H ρ1 H1) (y : Ext ρ1 H1 ρ' H') : Ext ρ H ρ' H' := by
  obtain ⟨⟨t, e, ht⟩, k⟩ := x
  obtain ⟨⟨u, e2, hu⟩, k2⟩ := y
  subst e; subst e2
  refine ⟨⟨t ++ u, by simp, fun a m => ?_⟩, fun a o q n => ?_⟩
  · rcases List.mem_append.mp m with m | m
    · exact ht a m
    · cases q : H a with
      | none => rfl
      | some o =>
        have n1 : a ∉ ρ ++ t := r1.fresh (hu a m)
        have := k a o q (fun z => n1 (List.mem_append_left _ z))
        rw [hu a m] at this; cases this
  · refine k2 a o (k a o q n) fun z => ?_
    rcases List.mem_append.mp z with z | z
    · exact n z
    · rw [ht a z] at q; cases q
theorem Ext.sqT (r : HR K ca ρ h H) (x : Ext ρ H ρ' H') {ys : List V} (s : SqT K H a ys) : SqT K H' a ys := by
  rcases s with (s | ⟨o, s⟩) | s
  · exact .inl (.inl (x.keep a _ s (r.notT s)))
  · exact .inl (.inr ⟨o, x.keep a _ s (r.notF s)⟩)
  · exact .inr s
theorem Ext.sqP (r : HR K ca ρ h H) (x : Ext ρ H ρ' H') {ys : List V} (s : SqP K H a ys) : SqP K H' a ys := by
  rcases s with ⟨o, s, d⟩ | s
  · exact .inl ⟨o, x.keep a _ s (r.notF s), d⟩
  · exact .inr s
theorem Ext.sqF (r : HR K ca ρ h H) (x : Ext ρ H ρ' H') {ys : List V} (s : SqF K H a ys) : SqF K H' a ys := by
  rcases s with ⟨o, s⟩ | s
  · exact .inl ⟨o, x.keep a _ s (r.notF s)⟩
  · exact .inr s
theorem Ext.ix (x : Ext ρ H ρ' H') (e : ρ[k]? = some a) : ρ'[k]? = some a := by
  obtain ⟨⟨t, rfl, _⟩, _⟩ := x
  rw [List.getElem?_append_left (List.getElem?_eq_some_iff.mp e).1]; exact e
mutual
theorem Rep.mono (r : HR K ca ρ h H) (x : Ext ρ H ρ' H') : ∀ {m : M} {v : V}, Rep K ρ H m v → Rep K ρ' H' m v
  | _, _, .non => .non
  | _, _, .bl b => .bl b
  | _, _, .int i => .int i
  | _, _, .str s => .str s
  | _, _, .tup s q => .tup (x.sqP r s) (Reps.mono r x q)
  | _, _, .tuq s q => .tuq (x.sqT r s) (Reps.mono r x q)
  | _, _, .ref e => .ref (x.ix e)
  | _, _, .fz s q => .fz (x.sqF r s) (Reps.mono r x q)
theorem Reps.mono (r : HR K ca ρ h H) (x : Ext ρ H ρ' H') : ∀ {m : List M} {v : List V}, Reps K ρ H m v → Reps K ρ' H' m v
  | _, _, .nil => .nil
  | _, _, .cons q t => .cons (Rep.mono r x q) (Reps.mono r x t)
end
theorem FR.mono (r : HR K ca ρ h H) (x : Ext ρ H ρ' H') : ∀ {m : List (Str × M)} {v : List (Str × V)}, FR K ρ H m v → FR K ρ' H' m v
  | [], [], _ => trivial
  | (_, _) :: _, (_, _) :: _, ⟨e, q, t⟩ => ⟨e, q.mono r x, FR.mono r x t⟩
theorem DR.mono (r : HR K ca ρ h H) (x : Ext ρ H ρ' H') : ∀ {m : List (M × M)} {v : List (Key × V)}, DR K ρ H m v → DR K ρ' H' m v
  | [], [], _ => trivial
  | (_, _) :: _, (_, _) :: _, ⟨e, q, t⟩ => ⟨e, q.mono r x, DR.mono r x t⟩
theorem ER.mono (r : HR K ca ρ h H) (x : Ext ρ H ρ' H') {env : Env} {σ : List (Option V)} (e : ER K ρ H env σ) : ER K ρ' H' env σ :=
  ⟨e.1, fun i m q => let ⟨v, e1, e2⟩ := e.2 i m q; ⟨v, e1, e2.mono r x⟩⟩
theorem Reps.length : ∀ {xs : List M} {ys : List V}, Reps K ρ H xs ys → xs.length = ys.length
  | _, _, .nil => rfl
  | _, _, .cons _ t => by simp [Reps.length t]
theorem Reps.get : ∀ {xs : List M} {ys : List V} {i : Nat} {x : M}, Reps K ρ H xs ys → xs[i]? = some x → ∃ y, ys[i]? = some y ∧ Rep K ρ H x y
  | _, _, _, _, .nil, e => by simp at e
  | _, _, 0, _, .cons r _, e => by simp at e; subst e; exact ⟨_, rfl, r⟩
  | _, _, i + 1, x, .cons _ t, e => by
    obtain ⟨y, h1, h2⟩ := Reps.get (i := i) (x := x) t (by simpa using e)
    exact ⟨y, by simpa using h1, h2⟩
theorem Reps.append : ∀ {xs xs' : List M} {ys ys' : List V}, Reps K ρ H xs ys → Reps K ρ H xs' ys' → Reps K ρ H (xs ++ xs') (ys ++ ys')
  | _, _, _, _, .nil, q => q
  | _, _, _, _, .cons r t, q => .cons r (Reps.append t q)
theorem Reps.take : ∀ {xs : List M} {ys : List V} (n : Nat), Reps K ρ H xs ys → Reps K ρ H (xs.take n) (ys.take n)
  | _, _, 0, _ => by simpa using Reps.nil
  | _, _, _ + 1, .nil => by simpa using Reps.nil
  | _, _, n + 1, .cons r t => by simpa using Reps.cons r (Reps.take n t)
theorem Reps.drop : ∀ {xs : List M} {ys : List V} (n : Nat), Reps K ρ H xs ys → Reps K ρ H (xs.drop n) (ys.drop n)
  | _, _, 0, q => by simpa using q
  | _, _, _ + 1, .nil => by simpa using Reps.nil
  | _, _, n + 1, .cons r t => by simpa using Reps.drop n t
theorem Reps.set {m : M} {v : V} (q : Rep K ρ H m v) : ∀ {xs : List M} {ys : List V} (n : Nat), Reps K ρ H xs ys → Reps K ρ H (xs.set n m) (ys.set n v)
  | _, _, _, .nil => .nil
  | _, _, 0, .cons _ t => .cons q t
  | _, _, n + 1, .cons r t => .cons r (Reps.set q n t)
theorem Reps.flat {xs : List M} {ys : List V} (q : Reps K ρ H xs ys) : ∀ n, Reps K ρ H (List.replicate n xs).flatten (List.replicate n ys).flatten
  | 0 => by simpa using Reps.nil
  | n + 1 => by simpa [List.replicate_succ] using q.append (q.flat n)
theorem Reps.snoc {xs : List M} {y : M} : ∀ {ys : List V}, Reps K ρ H (xs ++ [y]) ys → ∃ zs v, ys = zs ++ [v] ∧ Reps K ρ H xs zs ∧ Rep K ρ H y v := by
  induction xs with
  | nil => intro ys q; cases q with | cons r t => cases t; exact ⟨[], _, rfl, .nil, r⟩
  | cons x xs ih =>
    intro ys q
    cases q with
    | cons r t =>
      obtain ⟨zs, v, rfl, a, b⟩ := ih t
      exact ⟨_ :: zs, v, rfl, .cons r a, b⟩
/-- a new object -/
theorem HR.new {p : Addr} {o : MO} {u : HO} (r : HR K ca ρ h H) (hp : H p = none) (no : ∀ ρ' H', Ext ρ H ρ' H' → H' p = some u → OR K ca ρ' H' o p) :
    HR K ca (ρ ++ [p]) (h ++ [o]) (upd H p u) ∧ Ext ρ H (ρ ++ [p]) (upd H p u) := by
  have hn : p ∉ ρ := r.fresh hp
  have x : Ext ρ H (ρ ++ [p]) (upd H p u) := ⟨⟨[p], rfl, fun a m => by simp at m; subst m; exact hp⟩, fun a o e n => by rw [upd_ne (ne_of_none e hp)]; exact e⟩
  refine ⟨⟨by simp [r.len], ?_, ?_⟩, x⟩
  · rw [List.nodup_append]
    exact ⟨r.nd, by simp, fun a ha b hb => by simp at hb; subst hb; rintro rfl; exact hn ha⟩
  · intro k o' a hk ha
    by_cases hl : k < ρ.length
    · rw [List.getElem?_append_left hl] at ha
      rw [List.getElem?_append_left (by rw [← r.len]; exact hl)] at hk
      have q := r.ob k o' a hk ha
      have ne : a ≠ p := fun z => hn (z ▸ List.mem_of_getElem? ha)
      cases o' with
      | lst xs => obtain ⟨ys, e, t⟩ := q; exact ⟨ys, by rw [upd_ne ne]; exact e, t.mono r x⟩
      | dct kvs => obtain ⟨ys, e, t⟩ := q; exact ⟨ys, by rw [upd_ne ne]; exact e, DR.mono r x t⟩
      | ins c fs => obtain ⟨dx, gs, e, t⟩ := q; exact ⟨dx, gs, by rw [upd_ne ne]; exact e, FR.mono r x t⟩
    · have e1 : k = ρ.length := by
        have := (List.getElem?_eq_some_iff.mp ha).1
        simp at this; omega
      subst e1
      rw [List.getElem?_append_right (Nat.le_refl _)] at ha
      rw [r.len, List.getElem?_append_right (Nat.le_refl _)] at hk
      simp at ha hk
      subst ha; subst hk
      exact no _ _ x upd_same
/-- an object changed -/
theorem HR.put {o o' : MO} {u : HO} (r : HR K ca ρ h H) (hk : h[k]? = some o) (ha : ρ[k]? = some a) (no : ∀ H', Ext ρ H ρ H' → H' a = some u → OR K ca ρ H' o' a) :
    HR K ca ρ (h.set k o') (upd H a u) ∧ Ext ρ H ρ (upd H a u) := by
  have hm : a ∈ ρ := List.mem_of_getElem? ha
  have x : Ext ρ H ρ (upd H a u) := ⟨⟨[], by simp, by simp⟩, fun b o e n => by rw [upd_ne (fun z : b = a => n (by rw [z]; exact hm))]; exact e⟩
  refine ⟨⟨by simp [r.len], r.nd, ?_⟩, x⟩
  intro j p b hj hb
  by_cases e : j = k
  · subst e
    rw [ha] at hb; cases hb
    have hl : j < h.length := (List.getElem?_eq_some_iff.mp hk).1
    rw [List.getElem?_set_self hl] at hj; cases hj
    exact no _ x upd_same
  · rw [List.getElem?_set_ne (Ne.symm e)] at hj
    have q := r.ob j p b hj hb
    have ne : b ≠ a := fun z => e (by
      subst z
      obtain ⟨h1, e1⟩ := List.getElem?_eq_some_iff.mp ha
      obtain ⟨h2, e2⟩ := List.getElem?_eq_some_iff.mp hb
      exact (List.getElem_inj r.nd).mp (e2.trans e1.symm))
    cases p with
    | lst xs => obtain ⟨ys, e, t⟩ := q; exact ⟨ys, by rw [upd_ne ne]; exact e, t.mono r x⟩
    | dct kvs => obtain ⟨ys, e, t⟩ := q; exact ⟨ys, by rw [upd_ne ne]; exact e, DR.mono r x t⟩
    | ins c fs => obtain ⟨dx, gs, e, t⟩ := q; exact ⟨dx, gs, by rw [upd_ne ne]; exact e, FR.mono r x t⟩
/-- a new tuple -/
theorem HR.more {p : Addr} {u : HO} (r : HR K ca ρ h H) (hp : H p = none) :
    HR K ca ρ h (upd H p u) ∧ Ext ρ H ρ (upd H p u) := by
  have hn : p ∉ ρ := r.fresh hp
  have x : Ext ρ H ρ (upd H p u) := ⟨⟨[], by simp, by simp⟩, fun a o e n => by rw [upd_ne (ne_of_none e hp)]; exact e⟩
  refine ⟨⟨r.len, r.nd, fun k o' a hk ha => ?_⟩, x⟩
  have q := r.ob k o' a hk ha
  have ne : a ≠ p := fun z => hn (z ▸ List.mem_of_getElem? ha)
  cases o' with
  | lst xs => obtain ⟨ys, e, t⟩ := q; exact ⟨ys, by rw [upd_ne ne]; exact e, t.mono r x⟩
  | dct kvs => obtain ⟨ys, e, t⟩ := q; exact ⟨ys, by rw [upd_ne ne]; exact e, DR.mono r x t⟩
  | ins c fs => obtain ⟨dx, gs, e, t⟩ := q; exact ⟨dx, gs, by rw [upd_ne ne]; exact e, FR.mono r x t⟩
theorem HR.lst {xs : List M} (r : HR K ca ρ h H) (hk : h[k]? = some (.lst xs)) (ha : ρ[k]? = some a) : ∃ ys, H a = some (.lst ys) ∧ Reps K ρ H xs ys := r.ob k _ a hk ha
theorem HR.dct {xs : List (M × M)} (r : HR K ca ρ h H) (hk : h[k]? = some (.dct xs)) (ha : ρ[k]? = some a) : ∃ ys, H a = some (.dK ys) ∧ DR K ρ H xs ys := r.ob k _ a hk ha
theorem getD_dct {xs : List (M × M)} (e : getD h k = some xs) : h[k]? = some (.dct xs) := by
  unfold getD at e
  cases q : h[k]? with
  | none => rw [q] at e; simp at e
  | some o => rw [q] at e; cases o <;> simp at e; subst e; rfl
theorem getD_of {xs : List (M × M)} (e : h[k]? = some (.dct xs)) : getD h k = some xs := by unfold getD; rw [e]
theorem keyM_inj {a b : M} {c : Key} (ha : keyM a = some c) (hb : keyM b = some c) : a = b := by
  cases a <;> simp [keyM] at ha <;> cases b <;> simp [keyM] at hb <;> subst ha <;> simp at hb
  · rw [hb]
  · rw [mkS_inj.mp hb]
theorem keyM_rep {a : M} {c : Key} (ha : keyM a = some c) : Rep K ρ H a (kV c) := by
  cases a <;> simp [keyM] at ha <;> subst ha
  · exact .int _
  · exact .str _
theorem keyM_kV {a : M} {c : Key} {y : V} (ha : keyM a = some c) (r : Rep K ρ H a y) : y = kV c := by
  cases a <;> simp [keyM] at ha <;> subst ha <;> cases r <;> rfl
theorem DR.length : ∀ {m : List (M × M)} {v : List (Key × V)}, DR K ρ H m v → m.length = v.length
  | [], [], _ => rfl
  | (_, _) :: _, (_, _) :: _, ⟨_, _, t⟩ => by simp [DR.length t]
theorem DR.keys : ∀ {m : List (M × M)} {v : List (Key × V)}, DR K ρ H m v → Reps K ρ H (m.map (·.1)) (v.map fun p => kV p.1)
  | [], [], _ => .nil
  | (_, _) :: _, (_, _) :: _, ⟨e, _, t⟩ => .cons (keyM_rep e) (DR.keys t)
theorem DR.val {k : M} {j : Key} (hk : keyM k = some j) : ∀ {m : List (M × M)} {v : List (Key × V)}, DR K ρ H m v → (∀ x, dval m k = some x → ∃ y, valV v j = some y ∧ Rep K ρ H x y) ∧ (dval m k = none → valV v j = none)
  | [], [], _ => ⟨fun x e => by simp [dval] at e, fun _ => rfl⟩
  | (a, x) :: m, (b, y) :: v, ⟨e, q, t⟩ => by
    obtain ⟨h1, h2⟩ := DR.val hk t
    by_cases z : a = k
    · subst z
      rw [hk] at e; cases e
      refine ⟨fun x' e' => ⟨y, valV_pos rfl, ?_⟩, fun e' => ?_⟩
      · simp [dval] at e'; subst e'; exact q
      · simp [dval] at e'
    · have nz : ¬ (b, y).1 = j := fun w => z (keyM_inj e (by rw [hk, ← w]))
      have e2 : dval ((a, x) :: m) k = dval m k := by simp [dval, z]
      rw [e2, valV_neg nz]
      exact ⟨h1, h2⟩
theorem DR.repl {k : M} {j : Key} {x : M} {y : V} (hk : keyM k = some j) (q : Rep K ρ H x y) : ∀ {m : List (M × M)} {v : List (Key × V)}, DR K ρ H m v →
    DR K ρ H (m.map fun p => if p.1 = k then (p.1, x) else p) (v.map fun p => if p.1 = j then (p.1, y) else p)
  | [], [], _ => trivial
  | (a, x') :: m, (b, y') :: v, ⟨e, q', t⟩ => by
    have ih := DR.repl hk q t
    by_cases z : a = k
    · subst z
      rw [hk] at e; cases e
      simpa [DR] using ⟨hk, q, ih⟩
    · have nz : ¬ b = j := fun w => z (keyM_inj e (by rw [hk, ← w]))
      simpa [DR, z, nz] using ⟨e, q', ih⟩
theorem DR.snoc {k : M} {j : Key} {x : M} {y : V} (hk : keyM k = some j) (q : Rep K ρ H x y) : ∀ {m : List (M × M)} {v : List (Key × V)}, DR K ρ H m v → DR K ρ H (m ++ [(k, x)]) (v ++ [(j, y)])
  | [], [], _ => ⟨hk, q, trivial⟩
  | (_, _) :: _, (_, _) :: _, ⟨e, q', t⟩ => ⟨e, q', DR.snoc hk q t⟩
theorem DR.any {k : M} {j : Key} (hk : keyM k = some j) : ∀ {m : List (M × M)} {v : List (Key × V)}, DR K ρ H m v → (m.any fun p => decide (p.1 = k)) = v.any fun p => decide (p.1 = j)
  | [], [], _ => rfl
  | (a, x') :: m, (b, y') :: v, ⟨e, q', t⟩ => by
    have ih := DR.any hk t
    have : (a = k) = (b = j) := propext ⟨fun z => by subst z; rw [hk] at e; exact (Option.some.inj e).symm, fun w => keyM_inj e (by rw [hk, ← w])⟩
    simp only [List.any_cons, ih, this]
theorem DR.put {k : M} {j : Key} {x : M} {y : V} (hk : keyM k = some j) (q : Rep K ρ H x y) {m : List (M × M)} {v : List (Key × V)} (t : DR K ρ H m v) : DR K ρ H (dput m k x) (putK v j y) := by
  unfold dput putK
  rw [t.any hk]
  split
  · exact t.repl hk q
  · exact t.snoc hk q
theorem DR.merge : ∀ {more : List (M × M)} {v : List (Key × V)} {m : List (M × M)} {w : List (Key × V)}, DR K ρ H more v → DR K ρ H m w → DR K ρ H (dmerge m more) (mergeK w v)
  | [], [], _, _, _, t => t
  | (a, x) :: more, (b, y) :: v, m, w, ⟨e, q, r⟩, t => DR.merge (more := more) (v := v) r (t.put e q)
theorem getL_lst {xs : List M} (e : getL h k = some xs) : h[k]? = some (.lst xs) := by
  unfold getL at e
  cases q : h[k]? with
  | none => rw [q] at e; simp at e
  | some o => rw [q] at e; cases o <;> simp at e; subst e; rfl
theorem getL_of {xs : List M} (e : h[k]? = some (.lst xs)) : getL h k = some xs := by unfold getL; rw [e]
theorem ER.get {env : Env} {σ : List (Option V)} {i : Nat} {m : M} (e : ER K ρ H env σ) (q : env[i]? = some (some m)) : ∃ v, σ[i]? = some (some v) ∧ Rep K ρ H m v := e.2 i m q
theorem ER.set {env : Env} {σ : List (Option V)} {i : Nat} {m : M} {v : V} (e : ER K ρ H env σ) (q : Rep K ρ H m v) : ER K ρ H (env.set i (some m)) (σ.set i (some v)) := by
  refine ⟨by simp [e.1], fun j x hx => ?_⟩
  by_cases hj : i = j
  · subst hj
    by_cases hl : i < env.length
    · rw [List.getElem?_set_self hl] at hx
      cases hx
      exact ⟨v, by rw [List.getElem?_set_self (by rw [← e.1]; exact hl)], q⟩
    · rw [List.getElem?_eq_none (by simp; omega)] at hx; cases hx
  · rw [List.getElem?_set_ne hj] at hx
    obtain ⟨w, e1, e2⟩ := e.2 j x hx
    exact ⟨w, by rw [List.getElem?_set_ne hj]; exact e1, e2⟩
theorem ER.wiped {env : Env} {σ : List (Option V)} (e : ER K ρ H env σ) : ∀ vs : List Nat, ER K ρ H (wipeE env vs) (wipe σ vs)
  | [] => e
  | i :: vs => by
    have ih := e.wiped vs
    refine ⟨by simp [wipeE, L2.wipe, ih.1], fun j x hx => ?_⟩
    unfold wipeE at hx
    unfold L2.wipe
    by_cases hj : i = j
    · subst hj
      by_cases hl : i < (wipeE env vs).length
      · rw [List.getElem?_set_self hl] at hx; cases hx
      · rw [List.getElem?_eq_none (by simp; omega)] at hx; cases hx
    · rw [List.getElem?_set_ne hj] at hx
      obtain ⟨w, e1, e2⟩ := ih.2 j x hx
      exact ⟨w, by rw [List.getElem?_set_ne hj]; exact e1, e2⟩
end
end Wg
open PySem PySem.Spec PyProof.Rows
set_option linter.all false
set_option Elab.async false
namespace Wg
open L2
/-! ### the operators' rules, over small values -/
structure Ads where
  fa : Nat → Addr
  ca : Nat → Addr
  xa : Nat → Addr
def XR (A : Ads) (K : PySem.W.Frag) (ρ : List Addr) (H : Hp) (x : Exn) (c : Value) (d : Option Addr) : Prop :=
  c = .ref (A.xa x.cls) ∧ (x.fs ≠ [] → ∃ a gs, d = some a ∧ H a = some (.xd gs) ∧ FR K ρ H x.fs gs)
section
variable (A : Ads) (K : PySem.W.Frag)
def QOK (ρ : List Addr) (H : Hp) (Qm : QE) (Q : VK) : Prop := ∀ v h', Qm v h' → ∀ ρ' H' v', Ext ρ H ρ' H' → HR K A.ca ρ' h' H' → Rep K ρ' H' v v' → Q v' H'
def BOK (ρ : List Addr) (H : Hp) (Qm : Bool → MH → Prop) (Q : Bool → Hp → Prop) : Prop := ∀ b h', Qm b h' → ∀ ρ' H', Ext ρ H ρ' H' → HR K A.ca ρ' h' H' → Q b H'
def XOK (ρ : List Addr) (H : Hp) (σ : List (Option V)) (Xm : Exn → MH → Prop) (W : WX) : Prop :=
  ∀ x h', Xm x h' → ∀ ρ' H' c d, Ext ρ H ρ' H' → HR K A.ca ρ' h' H' → XR A K ρ' H' x c d → W c d σ H'
def rB (op : Operator) : R2 := fun x y H Q => ∃ ρ h a b Qm, HR K A.ca ρ h H ∧ Rep K ρ H a x ∧ Rep K ρ H b y ∧ binR op a b h Qm ∧ QOK A K ρ H Qm Q
def rC (op : CmpOp) : R2 := fun x y H Q => ∃ ρ h a b Qm, HR K A.ca ρ h H ∧ Rep K ρ H a x ∧ Rep K ρ H b y ∧ cmpR op a b h Qm ∧ ∀ k h', Qm k h' → ∀ ρ' H', Ext ρ H ρ' H' → HR K A.ca ρ' h' H' → Q (.bl k) H'
end
section
variable {A : Ads} {K : PySem.W.Frag} {ρ ρ' ρ1 : List Addr} {h h' h1 : MH} {H H' H1 : Hp} {Qm : QE} {Q : VK}
theorem QOK.mono (r1 : HR K A.ca ρ1 h1 H1) (x : Ext ρ H ρ1 H1) (q : QOK A K ρ H Qm Q) : QOK A K ρ1 H1 Qm Q := fun v h' qm ρ' H' v' x' r' => q v h' qm ρ' H' v' (x.trans r1 x') r'
theorem XOK.mono {σ : List (Option V)} {Xm : Exn → MH → Prop} {W : WX} (r1 : HR K A.ca ρ1 h1 H1) (x : Ext ρ H ρ1 H1) (q : XOK A K ρ H σ Xm W) : XOK A K ρ1 H1 σ Xm W := fun v h' qm ρ' H' c d x' r' => q v h' qm ρ' H' c d (x.trans r1 x') r'
theorem QOK.here {v : M} {v' : V} (q : QOK A K ρ H Qm Q) (r : HR K A.ca ρ h H) (qm : Qm v h) (e : Rep K ρ H v v') : Q v' H := q v h qm ρ H v' .refl r e
theorem QOK.newT {xs : List M} {ys : List V} {p : Addr} {o : Obj} (q : QOK A K ρ H Qm Q) (r : HR K A.ca ρ h H) (qm : Qm (.tup xs) h) (e : Reps K ρ H xs ys) (hp : H p = none) (hd : o.dict = none) : Q (.ref p) (upd H p (.frz o (.tup ys))) := by
  obtain ⟨r', x⟩ := r.more (u := .frz o (.tup ys)) hp
  exact q _ h qm ρ _ _ x r' (.tup (.inl ⟨o, upd_same, hd⟩) (e.mono r x))
theorem QOK.newL {xs : List M} {ys : List V} {p : Addr} (q : QOK A K ρ H Qm Q) (r : HR K A.ca ρ h H) (qm : Qm (.ref h.length) (h ++ [.lst xs])) (e : Reps K ρ H xs ys) (hp : H p = none) : Q (.ref p) (upd H p (.lst ys)) := by
  obtain ⟨r', x⟩ := r.new (o := .lst xs) hp fun ρ' H' x e' => ⟨ys, e', e.mono r x⟩
  refine q _ _ qm _ _ _ x r' (.ref ?_)
  rw [← r.len, List.getElem?_append_right (Nat.le_refl _)]; simp
theorem QOK.putL {v : M} {v' : V} {xs xs' : List M} {ys' : List V} {k : Nat} {a : Addr} (q : QOK A K ρ H Qm Q) (r : HR K A.ca ρ h H) (hk : h[k]? = some (.lst xs)) (ha : ρ[k]? = some a)
    (qm : Qm v (h.set k (.lst xs'))) (e : Rep K ρ H v v') (e' : Reps K ρ H xs' ys') : Q v' (upd H a (.lst ys')) := by
  obtain ⟨r', x⟩ := r.put (o' := .lst xs') hk ha fun H' x z => ⟨ys', z, e'.mono r x⟩
  exact q v _ qm ρ _ v' x r' (e.mono r x)
theorem mkS_length (x : List Nat) : (mkS x).length = x.length := by simp [mkS, Str.length]
theorem mkS_append (x y : List Nat) : mkS x ++ mkS y = mkS (x ++ y) := by
  show (⟨_⟩ : Str) = ⟨_⟩
  simp [mkS]
theorem tl_mkS (x : List Nat) : TL.tl (mkS x) = x := TL.tl_mk x
theorem mkS_tl (x : Str) : mkS (TL.tl x) = x := TL.mk_tl x
theorem ixN_get {n : Nat} {i : Int} {j : Nat} (h : ixN n i = some j) : j < n := (ixN_seq h).2.1
theorem atI_rep {xs : List M} {ys : List V} {i : Int} {v : M} (q : Reps K ρ H xs ys) (e : atI xs i = some v) : ∃ u, atI ys i = some u ∧ Rep K ρ H v u := by
  unfold atI at e ⊢
  rw [← q.length]
  cases z : ixN xs.length i with
  | none => rw [z] at e; cases e
  | some j =>
    rw [z] at e
    exact q.get e
theorem cut_rep {xs : List M} {ys : List V} (q : Reps K ρ H xs ys) (lo hi : Option Int) : Reps K ρ H (cutL xs lo hi) (cutV ys lo hi) := by
  unfold cutL cutV
  rw [← q.length]
  exact (q.drop _).take _
variable {X : Cx}
theorem QOK.newD {xs : List (M × M)} {ys : List (Key × V)} {p : Addr} (q : QOK A K ρ H Qm Q) (r : HR K A.ca ρ h H) (qm : Qm (.ref h.length) (h ++ [.dct xs])) (e : DR K ρ H xs ys) (hp : H p = none) : Q (.ref p) (upd H p (.dK ys)) := by
  obtain ⟨r', x⟩ := r.new (o := .dct xs) hp fun ρ' H' x e' => ⟨ys, e', e.mono r x⟩
  refine q _ _ qm _ _ _ x r' (.ref ?_)
  rw [← r.len, List.getElem?_append_right (Nat.le_refl _)]; simp
/-- a tuple one time: itself -/
theorem tuple_mul1 (l : Addr) (items : Array Value) (n : Nat) (dd : Option Addr) (sl : Array (Option Value)) (u : Tok) :
    Meets (Builtin.«tuple.__mul__» ⟨[.ref l, .int 1 u], []⟩) (fun _ R s => s.heap.get? l = some { cls := .type "tuple", dict := dd, data := .seq items n, slots := sl } ∧ R (.ok (.ret (Value.ref l))) s) :=
  .of_wp fun prog w A R s h => by
    obtain ⟨hp, g, d, tk, os⟩ := s
    obtain ⟨hl, h⟩ := h
    have f1 := AutoSeq1.idx_int
    wp_walk using wpAny_loadPart' hl
    exact ⟨_, rfl, h⟩
/-- the object of a new tuple -/
def plT (its : List Value) : Obj := { cls := .type "tuple", data := .seq its.toArray }
/-- laying it -/
theorem laidP {pins : List (Addr × Obj)} {σ : L2.St} {s : Shared} {us : List Value} {ys : List V} (I : L2.Inv X pins σ H s) (rs : Vals ys us) (hz : ys.length ≤ sizeLine) {tk : Nat}
    (go : ∀ p o, H p = none → o.dict = none → Q (.ref p) (upd H p (.frz o (.tup ys)))) : EP X pins σ Q (.ref s.heap.objs.size) { s with heap := s.heap.push (plT us), toks := tk } := by
  refine ⟨.ref s.heap.objs.size, upd H s.heap.objs.size (.frz (plT us) (.tup ys)), ?_, rfl, go _ (plT us) (I.hok.fresh (Nat.le_refl _)) rfl⟩
  exact I.laid (t' := tk) (fun _ _ e => Heap.get?_push_of_some _ e) (Nat.le_refl _) ⟨Heap.get?_push_size _ rfl, hz, us, rs, _, Heap.get?_push_size _ rfl, rfl, _, rfl⟩
/-- t + u -/
theorem op_catP : OpR X (binaryOp .Add) (fun x y H Q => ∃ a b xs ys, x = .ref a ∧ y = .ref b ∧ SqT X.K H a xs ∧ SqT X.K H b ys ∧ xs.length + ys.length ≤ sizeLine ∧
    (xs = [] → Q (.ref b) H) ∧ (ys = [] → Q (.ref a) H) ∧ ∀ p o, H p = none → o.dict = none → Q (.ref p) (upd H p (.frz o (.tup (xs ++ ys))))) := by
  intro pins s σ H x y v u Q I rx ry ⟨a, b, xs, ys, e1, e2, sa, sb, hz, h0, h1, h2⟩
  by_cases hx : xs = []
  · exact op_catA pins s σ H x y v u Q I rx ry ⟨a, b, xs, ys, e1, e2, sa, sb, hz, h0, fun z => (z hx).elim, fun z => (z hx).elim⟩
  by_cases hy : ys = []
  · exact op_catA pins s σ H x y v u Q I rx ry ⟨a, b, xs, ys, e1, e2, sa, sb, hz, h0, fun _ _ => h1 hy, fun _ z => (z hy).elim⟩
  subst e1; subst e2
  cases rx; cases ry
  obtain ⟨ia, ra, pa, _⟩ := I.tuple sa
  obtain ⟨ib, rb, pb, _⟩ := I.tuple sb
  exact HT.cat_tup pa pb (fun z => (hx (ra.nil_iff.mp z)).elim) (fun z => (hy (rb.nil_iff.mp z)).elim) (fun _ => laidP I (ra.append rb) (by rw [List.length_append]; exact hz) h2) (by rw [← ra.length, ← rb.length]; exact hz)
/-- t[lo:hi] -/
theorem sl_tupP : SlR X (fun x lo hi H Q => ∃ a xs, x = .ref a ∧ SqT X.K H a xs ∧ (HT.sIx xs.length 0 lo = 0 ∧ HT.sIx xs.length xs.length hi = xs.length → Q (.ref a) H) ∧
    ∀ p o, H p = none → o.dict = none → Q (.ref p) (upd H p (.frz o (.tup (cutV xs lo hi))))) := by
  intro pins s σ H x v vl vu lo hi sl Q I rx hs pl pu ⟨a, xs, e1, sa, h1, h2⟩
  by_cases hw : HT.sIx xs.length 0 lo = 0 ∧ HT.sIx xs.length xs.length hi = xs.length
  · exact sl_tupA pins s σ H x v vl vu lo hi sl Q I rx hs pl pu ⟨a, xs, e1, sa, h1, fun z => (z hw).elim⟩
  subst e1
  cases rx
  obtain ⟨ia, ra, pa, hz⟩ := I.tuple sa
  have hl : ia.toArray.size = xs.length := by simp [← ra.length]
  refine ⟨"tuple", _, slot_tuple_getitem.lookup, pa.typeIs, HT.getItem_tuple_cut pa hs pl pu (by rw [hl]; exact hw) ?_ (by rw [hl]; exact hz)⟩
  rw [hl]
  exact laidP I ((ra.drop _).take _) (Nat.le_trans (cutV_length xs lo hi) hz) h2
/-- tuple(xs) of a list -/
theorem call_tupP : CallR X (.type "tuple") (fun xs H Q => ∃ p ys, xs = [.ref p] ∧ SqL X.K H p ys ∧ ∀ l o, H l = none → o.dict = none → Q (.ref l) (upd H l (.frz o (.tup ys)))) := by
  intro pins s σ H xs us Q I r ⟨p, ys, e1, hq, h2⟩
  subst e1
  obtain ⟨u, rfl, rx⟩ := vals1 r
  cases rx
  obtain ⟨its, ri, pl, hz⟩ := I.list hq
  have hl := ri.length
  exact call_tuple_list pl.isList (fun h' kp => laidP (I.kept (t' := s.toks) kp) ri hz h2) (by simp only [List.size_toArray]; omega)
/-- t * k -/
theorem op_repA : OpR X (binaryOp .Mult) (fun x y H Q => ∃ l k xs, x = .ref l ∧ y = .int k ∧ SqT X.K H l xs ∧ xs ≠ [] ∧ 1 ≤ k ∧ k ≤ 1000 ∧ xs.length ≤ 1000 ∧ (k = 1 → Q (.ref l) H) ∧ ∀ p o, H p = none → o.dict = none → Q (.ref p) (upd H p (.frz o (.tup (List.replicate k.toNat xs).flatten)))) := by
  intro pins s σ H x y v u Q I rx ry ⟨l, k, xs, e1, e2, hT, hne, h1, h2, hz, q1, q⟩
  subst e1; subst e2
  cases rx
  obtain ⟨t, rfl⟩ := ry
  obtain ⟨its, r, ⟨⟨cls, dd, data, sl⟩, ho, hc, n, hd⟩, hs⟩ := I.tuple hT
  simp only at hc hd
  subst hc hd
  by_cases hk : k = 1
  · subst hk
    refine wpAny_binaryOp_repeat_ref (T := "tuple") (U := "int") (by decide) ⟨_, ho, rfl⟩ (fun s' => typeIs_int s' 1 t) noFill_tuple_mul F.fills_int_mul F.slot_int_rmul repeat_tuple F.slot_int_index.lookup
      (call_meets F.slot_int_rmul (typeIs_int s 1 t) F.entry_int_rmul (F.args_int_rmul_2 _ _) (int_rmul_tuple 1 t l its.toArray n dd sl)
        ⟨ho, rfl, ⟨_, ho, rfl⟩, call_meets F.slot_tuple_mul ⟨_, ho, rfl⟩ F.entry_tuple_mul (F.args_tuple_mul_2 _ _) (tuple_mul1 l its.toArray n dd sl t) ⟨ho, ?_⟩⟩)
    exact ⟨.ref l, H, I, rfl, q1 rfl⟩
  · have hsz : its.toArray.size = xs.length := by rw [List.size_toArray]; exact r.length.symm
    have hlen : 0 < xs.length := List.length_pos_iff.mpr hne
    have hemp : its.toArray.isEmpty = false := by
      rw [Array.isEmpty_eq_false_iff, ← Array.size_pos_iff, hsz]; exact hlen
    have hmul : ((its.toArray.size : Nat) : Int) * k ≤ 1000000 := by
      rw [hsz]
      exact Int.le_trans (Int.mul_le_mul_of_nonneg_right (show ((xs.length : Nat) : Int) ≤ 1000 by omega) (by omega)) (by omega)
    have hflat : (List.replicate k.toNat its).flatten.length ≤ sizeLine := by
      rw [PyProof.Rows.lm_len_rep_flat, ← r.length, sizeLine_eq]
      exact Nat.le_trans (Nat.mul_le_mul (show k.toNat ≤ 1000 by omega) hz) (by decide)
    refine wpAny_binaryOp_repeat_ref (T := "tuple") (U := "int") (by decide) ⟨_, ho, rfl⟩ (fun s' => typeIs_int s' k t) noFill_tuple_mul F.fills_int_mul F.slot_int_rmul repeat_tuple F.slot_int_index.lookup
      (call_meets F.slot_int_rmul (typeIs_int s k t) F.entry_int_rmul (F.args_int_rmul_2 _ _) (int_rmul_tuple k t l its.toArray n dd sl)
        ⟨ho, rfl, ⟨_, ho, rfl⟩, call_meets F.slot_tuple_mul ⟨_, ho, rfl⟩ F.entry_tuple_mul (F.args_tuple_mul_2 _ _) (tuple_mulW l its.toArray n dd sl k t ?_ ?_ ?_ ?_ ?_ ?_) ⟨ho, ?_⟩⟩)
    · rw [decide_eq_false (by omega), decide_eq_false (by omega)]; rfl
    · rw [hemp, Bool.false_or]; exact beq_eq_false_iff_ne.mpr hk
    · rw [hemp, Bool.or_false]; exact decide_eq_false (by omega)
    · omega
    · unfold Builtin.Tuple.tupleTooMany
      rw [sizeLine_eq]
      exact decide_eq_false (by omega)
    · rw [size_rep, List.size_toArray]; exact hflat
    · rw [size_rep]
      exact laidP I (r.rep k.toNat) (by rw [PyProof.Rows.lm_len_rep_flat, sizeLine_eq]; exact Nat.le_trans (Nat.mul_le_mul (show k.toNat ≤ 1000 by omega) hz) (by decide)) q
theorem op_bin (op : Operator) : OpR X (binaryOp op) (rB A X.K op) := by
  intro pins s σ H x y v u Q I rx ry ⟨ρ, h, a, b, Qm, r, ra, rb, m, q⟩
  unfold binR at m
  split at m
  · cases ra; cases rb
    exact op_add pins s σ H _ _ v u Q I rx ry ⟨_, _, rfl, rfl, q.here r m (.int _)⟩
  · cases ra; cases rb
    exact op_add_str pins s σ H _ _ v u Q I rx ry ⟨_, _, rfl, rfl, by rw [mkS_length, mkS_length]; exact m.1, by rw [mkS_append]; exact q.here r m.2 (.str _)⟩
  · cases ra with | tup sa qa =>
    cases rb with | tup sb qb =>
    refine op_catP pins s σ H _ _ v u Q I rx ry ⟨_, _, _, _, rfl, rfl, sa.sq, sb.sq, by rw [← qa.length, ← qb.length]; exact m.1, fun z => ?_, fun z2 => ?_, fun p o hp hd => ?_⟩
    · subst z; cases qa
      exact q.here r m.2 (.tup sb qb)
    · subst z2; cases qb
      exact q.here r m.2 (.tup sa (by simpa using qa))
    · exact q.newT r m.2 (qa.append qb) hp hd
  · cases ra with | ref ea =>
    cases rb with | ref eb =>
    obtain ⟨xs, ys, hx, hy, hz, m⟩ := m
    obtain ⟨us, e1, q1⟩ := r.lst hx ea
    obtain ⟨ws, e2, q2⟩ := r.lst hy eb
    exact op_cat pins s σ H _ _ v u Q I rx ry ⟨_, _, _, _, rfl, rfl, e1, e2, by rw [← q1.length, ← q2.length]; exact hz, fun p hp => q.newL r m (q1.append q2) hp⟩
  · cases ra; cases rb
    exact op_sub pins s σ H _ _ v u Q I rx ry ⟨_, _, rfl, rfl, q.here r m (.int _)⟩
  · cases ra; cases rb
    obtain ⟨ok | ok, m⟩ := m
    · exact op_mul pins s σ H _ _ v u Q I rx ry ⟨_, _, rfl, rfl, ok, q.here r m (.int _)⟩
    · exact op_mulW pins s σ H _ _ v u Q I rx ry ⟨_, _, rfl, rfl, ok, q.here r m (.int _)⟩
  · cases ra with | tup sa qa =>
    cases rb
    obtain ⟨h0, h1, h2, hz, m⟩ := m
    refine op_repA pins s σ H _ _ v u Q I rx ry ⟨_, _, _, rfl, rfl, sa.sq, fun z => ?_, h1, h2, by rw [← qa.length]; exact hz, fun z => ?_, fun p o hp hd => q.newT r m (qa.flat _) hp hd⟩
    · subst z; cases qa; exact h0 rfl
    · subst z
      exact q.here r m (.tup sa (by simpa using qa))
  · cases ra with | ref ea =>
    cases rb
    obtain ⟨xs, hx, h1, h2, hz, m⟩ := m
    obtain ⟨us, e1, q1⟩ := r.lst hx ea
    exact op_rep pins s σ H _ _ v u Q I rx ry ⟨_, _, _, rfl, rfl, e1, h1, h2, by rw [← q1.length]; exact hz, fun p hp => q.newL r m (q1.flat _) hp⟩
  · cases ra; cases rb
    exact op_fdivW pins s σ H _ _ v u Q I rx ry ⟨_, _, rfl, rfl, m.1, q.here r m.2 (.int _)⟩
  · cases ra; cases rb
    exact op_mod pins s σ H _ _ v u Q I rx ry ⟨_, _, rfl, rfl, m.1, q.here r m.2 (.int _)⟩
  · cases ra; cases rb
    exact op_pow pins s σ H _ _ v u Q I rx ry ⟨_, _, rfl, rfl, m.1, q.here r m.2 (.int _)⟩
  · cases ra; cases rb
    exact op_shl pins s σ H _ _ v u Q I rx ry ⟨_, _, rfl, rfl, m.1, q.here r m.2 (.int _)⟩
  · exact m.elim
/-! equality -/
mutual
def M.toD : M → PyData
  | .non => .none
  | .bl b => .bool b
  | .int i => .int i
  | .str x => .str (mkS x)
  | .tup xs => .tuple (M.toDs xs)
  | .ref _ => .none
  | .fz _ => .none
  | .tuq _ => .none
def M.toDs : List M → List PyData
  | [] => []
  | x :: xs => M.toD x :: M.toDs xs
end
theorem toDs_length : ∀ xs : List M, (M.toDs xs).length = xs.length
  | [] => rfl
  | _ :: xs => by simp [M.toDs, toDs_length xs]
mutual
theorem dt_eqv : ∀ (n : Nat) (a b : M), M.dt n a = true → M.dt n b = true → PyData.eqv a.toD b.toD = decide (a = b)
  | n, .non, b, _, hb => by cases n <;> cases b <;> simp_all [M.dt, M.toD, PyData.eqv]
  | n, .bl _, b, ha, _ => by cases n <;> simp [M.dt] at ha
  | n, .int i, b, _, hb => by
    cases n <;> cases b <;> simp_all [M.dt, M.toD, PyData.eqv, Bool.beq_eq_decide_eq]
  | n, .str x, b, ha, hb => by
    have e : ∀ y : List Nat, (mkS x == mkS y) = decide (x = y) := fun y => by
      by_cases z : x = y
      · subst z; simp
      · rw [decide_eq_false z]; exact beq_eq_false_iff_ne.mpr fun w => z (mkS_inj.mp w)
    cases n <;> cases b <;> simp_all [M.dt, M.toD, PyData.eqv]
  | n, .ref _, b, ha, _ => by cases n <;> simp [M.dt] at ha
  | n, .fz _, b, ha, _ => by cases n <;> simp [M.dt] at ha
  | n, .tuq _, b, ha, _ => by cases n <;> simp [M.dt] at ha
  | 0, .tup _, b, ha, _ => by simp [M.dt] at ha
  | n + 1, .tup xs, b, ha, hb => by
    cases b with
    | tup ys =>
      simp only [M.dt] at ha hb
      simp only [M.toD, PyData.eqv]
      rw [dt_eqvs n xs ys ha hb]
      simp
    | non => simp [M.toD, PyData.eqv]
    | int _ => simp [M.toD, PyData.eqv]
    | str _ => simp [M.toD, PyData.eqv]
    | bl _ => simp [M.dt] at hb
    | ref _ => simp [M.dt] at hb
    | fz _ => simp [M.dt] at hb
    | tuq _ => simp [M.dt] at hb
theorem dt_eqvs : ∀ (n : Nat) (a b : List M), a.all (M.dt n) = true → b.all (M.dt n) = true → PyData.eqvAll (M.toDs a) (M.toDs b) = decide (a = b)
  | n, [], [], _, _ => by simp [M.toDs, PyData.eqvAll]
  | n, [], y :: ys, _, _ => by simp [M.toDs, PyData.eqvAll]
  | n, x :: xs, [], _, _ => by simp [M.toDs, PyData.eqvAll]
  | n, x :: xs, y :: ys, ha, hb => by
    simp only [List.all_cons, Bool.and_eq_true] at ha hb
    simp only [M.toDs, PyData.eqvAll, dt_eqv n x y ha.1 hb.1, dt_eqvs n xs ys ha.2 hb.2]
    by_cases e1 : x = y <;> by_cases e2 : xs = ys <;> simp [e1, e2]
end
mutual
theorem dt_shape : ∀ (n : Nat) (a : M), M.dt n a = true → PyData.canLay0 a.toD = true ∧ PyData.depth a.toD ≤ n + 1
  | n, .non, _ => by simp [M.toD, PyData.canLay0, PyData.depth]
  | n, .bl _, ha => by cases n <;> simp [M.dt] at ha
  | n, .int i, _ => by simp [M.toD, PyData.canLay0, PyData.depth]
  | n, .str x, ha => by
    have : PyData.strOk (mkS x) = true := by cases n <;> simpa [M.dt] using ha
    simp [M.toD, PyData.canLay0, PyData.depth, this]
  | n, .ref _, ha => by cases n <;> simp [M.dt] at ha
  | n, .fz _, ha => by cases n <;> simp [M.dt] at ha
  | n, .tuq _, ha => by cases n <;> simp [M.dt] at ha
  | 0, .tup _, ha => by simp [M.dt] at ha
  | n + 1, .tup xs, ha => by
    have := dt_shapes n xs (by simpa [M.dt] using ha)
    simp only [M.toD, PyData.canLay0, PyData.depth]
    exact ⟨this.1, by omega⟩
theorem dt_shapes : ∀ (n : Nat) (a : List M), a.all (M.dt n) = true → PyData.canLayAll0 (M.toDs a) = true ∧ PyData.depthAll (M.toDs a) ≤ n + 1
  | n, [], _ => by simp [M.toDs, PyData.canLayAll0, PyData.depthAll]
  | n, x :: xs, ha => by
    simp only [List.all_cons, Bool.and_eq_true] at ha
    have h1 := dt_shape n x ha.1
    have h2 := dt_shapes n xs ha.2
    simp only [M.toDs, PyData.canLayAll0, PyData.depthAll]
    refine ⟨by simp [h1.1, h2.1], by omega⟩
end
mutual
theorem dt_Dp : ∀ {a : M} {v : V} (n : Nat), M.dt n a = true → Rep K ρ H a v → Dp K H v a.toD
  | _, _, _, _, .non => .non
  | _, _, _, _, .bl b => .bl b
  | _, _, _, _, .int i => .int i
  | _, _, _, _, .str x => .str _
  | _, _, 0, ha, .tup s q => by simp [M.dt] at ha
  | _, _, n + 1, ha, .tup s q => .tup s.sq (dt_Dps n (by simpa [M.dt] using ha) q)
  | _, _, n, ha, .ref e => by cases n <;> simp [M.dt] at ha
  | _, _, n, ha, .fz e q => by cases n <;> simp [M.dt] at ha
  | _, _, n, ha, .tuq e q => by cases n <;> simp [M.dt] at ha
theorem dt_Dps : ∀ {a : List M} {v : List V} (n : Nat), a.all (M.dt n) = true → Reps K ρ H a v → DpAll K H v (M.toDs a)
  | _, _, _, _, .nil => .nil
  | _, _, n, ha, .cons q t => by
    simp only [List.all_cons, Bool.and_eq_true] at ha
    exact .cons (dt_Dp n ha.1 q) (dt_Dps n ha.2 t)
end
theorem dt_ok {a : M} (ha : M.dt 60 a = true) : SeqAt.shaped a.toD = true := by
  have := dt_shape 60 a ha
  unfold SeqAt.shaped
  rw [Bool.and_eq_true, decide_eq_true_eq]
  exact ⟨this.1, by omega⟩
theorem dts_ok {a : List M} (ha : a.all (M.dt 60) = true) : SeqAt.shaped (.list (M.toDs a)) = true := by
  have := dt_shapes 60 a ha
  unfold SeqAt.shaped
  rw [Bool.and_eq_true, decide_eq_true_eq]
  simp only [PyData.canLay0, PyData.depth]
  exact ⟨this.1, by omega⟩
/-- what the two stand for, and the answer -/
theorem eq_cases {a b : M} {x y : V} {k : Bool} (r : HR K A.ca ρ h H) (ra : Rep K ρ H a x) (rb : Rep K ρ H b y) (e : eqV h a b = some k) :
    (scal x y = true ∧ k = decide (x = y)) ∨ ∃ d d', Dp K H x d ∧ Dp K H y d' ∧ SeqAt.shaped d = true ∧ SeqAt.shaped d' = true ∧ PyData.eqv d d' = k := by
  unfold eqV at e
  split at e
  · cases ra with | ref ea =>
    cases rb with | ref eb =>
    split at e
    · rename_i xs ys hx hy
      split at e
      · rename_i hd
        rw [Bool.and_eq_true] at hd
        cases e
        obtain ⟨us, e1, q1⟩ := r.lst hx ea
        obtain ⟨ws, e2, q2⟩ := r.lst hy eb
        refine .inr ⟨.list (M.toDs xs), .list (M.toDs ys), .lst (.of e1) (dt_Dps 60 hd.1 q1), .lst (.of e2) (dt_Dps 60 hd.2 q2), dts_ok hd.1, dts_ok hd.2, ?_⟩
        rw [PyData.eqv]; exact dt_eqvs 60 _ _ hd.1 hd.2
      · cases e
    · cases e
  · cases ra; cases rb; cases e
    exact .inl ⟨rfl, by simp⟩
  · cases ra; cases rb; cases e
    exact .inl ⟨rfl, by simp [mkS_inj]⟩
  · split at e
    · rename_i hd
      rw [Bool.and_eq_true] at hd
      cases e
      exact .inr ⟨_, _, dt_Dp 60 hd.1 ra, dt_Dp 60 hd.2 rb, dt_ok hd.1, dt_ok hd.2, dt_eqv 60 _ _ hd.1 hd.2⟩
    · cases e
theorem flat_rep {a : M} {x : V} (f : flatM a = true) (ra : Rep K ρ H a x) : flatV x = true := by
  cases ra <;> simp_all [flatM, flatV]
theorem flats_rep : ∀ {a : List M} {x : List V}, a.all flatM = true → Reps K ρ H a x → x.all flatV = true
  | _, _, _, .nil => rfl
  | _, _, f, .cons q t => by
    simp only [List.all_cons, Bool.and_eq_true] at f ⊢
    exact ⟨flat_rep f.1 q, flats_rep f.2 t⟩
theorem eqV_flat {a b : M} {x y : V} (fa : flatM a = true) (fb : flatM b = true) (ra : Rep K ρ H a x) (rb : Rep K ρ H b y) : L2.eqV y x = decide (a = b) := by
  cases ra <;> simp [flatM] at fa <;> cases rb <;> simp [flatM] at fb <;> simp [L2.eqV, eq_comm, Bool.beq_eq_decide_eq, mkS_inj]
theorem inV_flat {a : M} {x : V} (fa : flatM a = true) (ra : Rep K ρ H a x) : ∀ {bs : List M} {ys : List V}, bs.all flatM = true → Reps K ρ H bs ys → L2.inV x ys = decide (a ∈ bs)
  | _, _, _, .nil => by simp [L2.inV]
  | _, _, f, .cons q t => by
    simp only [List.all_cons, Bool.and_eq_true] at f
    have ih := inV_flat fa ra f.2 t
    unfold L2.inV at ih ⊢
    rw [List.any_cons, ih, eqV_flat fa f.1 ra q]
    simp [List.mem_cons]
theorem in_cases {a b : M} {x y : V} {k : Bool} (r : HR K A.ca ρ h H) (ra : Rep K ρ H a x) (rb : Rep K ρ H b y) (e : inV h a b = some k) :
    (∃ p ys, y = .ref p ∧ (SqL K H p ys ∨ SqT K H p ys) ∧ flatV x = true ∧ ys.all flatV = true ∧ L2.inV x ys = k) ∨ ∃ p o, y = .ref p ∧ DGet H p x o ∧ o.isSome = k := by
  unfold inV at e
  split at e
  · cases rb with | tup s q =>
    split at e
    · rename_i hd
      rw [Bool.and_eq_true] at hd
      cases e
      exact .inl ⟨_, _, rfl, .inr s.sq, flat_rep hd.1 ra, flats_rep hd.2 q, inV_flat hd.1 ra hd.2 q⟩
    · cases e
  · cases rb with | ref eb =>
    split at e
    · rename_i zs hz
      split at e
      · rename_i hd
        rw [Bool.and_eq_true] at hd
        cases e
        obtain ⟨us, e1, q1⟩ := r.lst (getL_lst hz) eb
        exact .inl ⟨_, _, rfl, .inl (.of e1), flat_rep hd.1 ra, flats_rep hd.2 q1, inV_flat hd.1 ra hd.2 q1⟩
      · cases e
    · split at e
      · rename_i kvs hk
        split at e
        · rename_i hs
          cases e
          obtain ⟨j, hj⟩ := Option.isSome_iff_exists.mp hs
          obtain ⟨ls, e1, q1⟩ := r.dct (getD_dct hk) eb
          obtain rfl := keyM_kV hj ra
          obtain ⟨h1, h2⟩ := q1.val hj
          refine .inr ⟨_, _, rfl, .k e1, ?_⟩
          cases z : dval kvs a with
          | none => rw [h2 z]; rfl
          | some w =>
            obtain ⟨w', e2, _⟩ := h1 w z
            rw [e2]; rfl
        · cases e
      · cases e
  · cases e
theorem non_iff {a : M} {x : V} (ra : Rep K ρ H a x) : decide (x = V.non) = decide (a = M.non) := by
  cases ra <;> simp
theorem op_cmp (hu : X.A.units + 64 < cLine) (op : CmpOp) : OpR X (compareOp op) (rC A X.K op) := by
  intro pins s σ H x y v u Q I rx ry ⟨ρ, h, a, b, Qm, r, ra, rb, m, q⟩
  unfold cmpR at m
  split at m
  · obtain ⟨k, e, m⟩ := m
    have qq := q k h m ρ H .refl r
    rcases eq_cases r ra rb e with ⟨z, rfl⟩ | ⟨d, d', h1, h2, h3, h4, rfl⟩
    · exact op_eq pins s σ H _ _ v u Q I rx ry ⟨z, qq⟩
    · exact op_eqD hu pins s σ H _ _ v u Q I rx ry ⟨d, d', h1, h2, h3, h4, qq⟩
  · obtain ⟨k, e, m⟩ := m
    have qq := q _ h m ρ H .refl r
    rcases eq_cases r ra rb e with ⟨z, rfl⟩ | ⟨d, d', h1, h2, h3, h4, rfl⟩
    · exact op_ne pins s σ H _ _ v u Q I rx ry ⟨z, qq⟩
    · exact op_neD hu pins s σ H _ _ v u Q I rx ry ⟨d, d', h1, h2, h3, h4, qq⟩
  · cases ra; cases rb
    exact op_lt pins s σ H _ _ v u Q I rx ry ⟨_, _, rfl, rfl, q _ h m ρ H .refl r⟩
  · cases ra; cases rb
    exact op_le pins s σ H _ _ v u Q I rx ry ⟨_, _, rfl, rfl, q _ h m ρ H .refl r⟩
  · cases ra; cases rb
    exact op_gt pins s σ H _ _ v u Q I rx ry ⟨_, _, rfl, rfl, q _ h m ρ H .refl r⟩
  · cases ra; cases rb
    exact op_ge pins s σ H _ _ v u Q I rx ry ⟨_, _, rfl, rfl, q _ h m ρ H .refl r⟩
  · cases rb
    exact op_isN pins s σ H _ _ v u Q I rx ry ⟨rfl, by rw [non_iff ra]; exact q _ h m ρ H .refl r⟩
  · cases rb
    exact op_notN pins s σ H _ _ v u Q I rx ry ⟨rfl, by rw [non_iff ra]; exact q _ h m ρ H .refl r⟩
  · obtain ⟨k, e, m⟩ := m
    rcases in_cases r ra rb e with ⟨p, ys, rfl, h1, h2, h3, rfl⟩ | ⟨p, o, rfl, h1, rfl⟩
    · exact op_in_seq pins s σ H _ _ v u Q I rx ry ⟨p, ys, rfl, h1, h2, h3, q _ h m ρ H .refl r⟩
    · cases ry
      exact d_in (by omega) I h1 rx fun s' I' => ⟨.bl o.isSome, H, I', rfl, q _ h m ρ H .refl r⟩
  · obtain ⟨k, e, m⟩ := m
    rcases in_cases r ra rb e with ⟨p, ys, rfl, h1, h2, h3, rfl⟩ | ⟨p, o, rfl, h1, rfl⟩
    · exact op_notIn_seq pins s σ H _ _ v u Q I rx ry ⟨p, ys, rfl, h1, h2, h3, q _ h m ρ H .refl r⟩
    · cases ry
      exact d_notIn (by omega) I h1 rx fun s' I' => ⟨.bl (!o.isSome), H, I', rfl, q _ h m ρ H .refl r⟩
  · exact m.elim
theorem truV_rep {a : M} {x : V} {k : Bool} (r : HR K A.ca ρ h H) (ra : Rep K ρ H a x) (e : truV h a = some k) : TruV K x H k := by
  unfold truV at e
  split at e
  · cases ra; cases e; rfl
  · cases ra; cases e; rfl
  · cases ra; cases e; simp [TruV, bne, Bool.beq_eq_decide_eq]
  · cases ra
    split at e
    · rename_i hz
      cases e
      refine ⟨by rw [mkS_length]; exact hz, ?_⟩
      rw [mkS_length]
      rename_i x
      cases x <;> simp [bne, Bool.beq_eq_decide_eq]
      omega
    · cases e
  · cases ra with | tup s q =>
    cases e
    refine .inr (.inl ⟨_, s.sq, ?_⟩)
    cases q <;> simp
  · cases e
  · cases e
  · cases ra with | ref ea =>
    split at e
    · rename_i xs hx
      cases e
      obtain ⟨us, e1, q1⟩ := r.lst hx ea
      refine .inl ⟨_, .of e1, ?_⟩
      cases q1 <;> simp
    · cases e
/-! items, slices -/
def rX (A : Ads) (K : PySem.W.Frag) : R2 := fun x y H Q => ∃ ρ h a b Qm, HR K A.ca ρ h H ∧ Rep K ρ H a x ∧ Rep K ρ H b y ∧ idxR a b h Qm ∧ QOK A K ρ H Qm Q
theorem ix_all : IxR X (rX A X.K) := by
  intro va sl pins s σ H x y v u Q I rx ry ⟨ρ, h, a, b, Qm, r, ra, rb, m, q⟩
  unfold idxR at m
  split at m
  · cases ra with | tup sa qa =>
    cases rb
    obtain ⟨v', e, m⟩ := m
    obtain ⟨w, e2, qw⟩ := atI_rep qa e
    exact ix_tup va sl pins s σ H _ _ v u Q I rx ry ⟨_, _, _, _, rfl, rfl, sa.sq, e2, q.here r m qw⟩
  · cases ra with | fz sa qa =>
    cases rb
    obtain ⟨v', e, m⟩ := m
    obtain ⟨w, e2, qw⟩ := atI_rep qa e
    exact ix_list va sl pins s σ H _ _ v u Q I rx ry ⟨_, _, _, _, rfl, rfl, sa.sq, e2, q.here r m qw⟩
  · cases ra; cases rb
    obtain ⟨hz, c, e, m⟩ := m
    refine ix_str va sl pins s σ H _ _ v u Q I rx ry ⟨_, _, c, rfl, rfl, by rw [mkS_length]; exact hz, ?_, q.here r m (.str [c])⟩
    show atI (TL.tl (mkS _)) _ = _
    rw [tl_mkS]; exact e
  · cases ra with | ref ea =>
    cases rb
    obtain ⟨xs, v', hx, e, m⟩ := m
    obtain ⟨us, e1, q1⟩ := r.lst (getL_lst hx) ea
    obtain ⟨w, e2, qw⟩ := atI_rep q1 e
    exact ix_list va sl pins s σ H _ _ v u Q I rx ry ⟨_, _, _, _, rfl, rfl, .of e1, e2, q.here r m qw⟩
  · exact m.elim
def rS (A : Ads) (K : PySem.W.Frag) : V → Option Int → Option Int → Hp → VK → Prop := fun x lo hi H Q => ∃ ρ h a Qm, HR K A.ca ρ h H ∧ Rep K ρ H a x ∧ slcR a lo hi h Qm ∧ QOK A K ρ H Qm Q
end
end Wg
open PySem PySem.Spec PyProof.Rows
set_option linter.all false
set_option Elab.async false
namespace Wg
open L2
section
variable {A : Ads} {K : PySem.W.Frag} {ρ ρ' ρ1 : List Addr} {h h' h1 : MH} {H H' H1 : Hp} {Qm : QE} {Q : VK} {X : Cx}
theorem cut_whole {α : Type} {xs : List α} {n : Nat} {lo hi : Option Int} (e : xs.length = n) (z : HT.sIx n 0 lo = 0 ∧ HT.sIx n n hi = n) : cutL xs lo hi = xs := by
  unfold cutL
  rw [e, z.1, z.2, List.drop_zero, Nat.sub_zero, ← e, List.take_length]
theorem cutS_mk (z : List Nat) (lo hi : Option Int) : cutS (mkS z) lo hi = mkS (cutL z lo hi) := by
  unfold cutS cutL
  rw [mkS_length]
  rfl
theorem sl_all : SlR X (rS A X.K) := by
  intro pins s σ H x v vl vu lo hi sl Q I rx hs pl pu ⟨ρ, h, a, Qm, r, ra, m, q⟩
  unfold slcR at m
  split at m
  · cases ra with | tup sa qa =>
    refine sl_tupP pins s σ H _ v vl vu lo hi sl Q I rx hs pl pu ⟨_, _, rfl, sa.sq, fun z => ?_, fun p o hp hd => q.newT r m (cut_rep qa lo hi) hp hd⟩
    rw [cut_whole qa.length z] at m
    exact q.here r m (.tup sa qa)
  · cases ra
    refine sl_str pins s σ H _ v vl vu lo hi sl Q I rx hs pl pu ⟨_, rfl, by rw [mkS_length]; exact m.1, ?_⟩
    rw [cutS_mk]
    exact q.here r m.2 (.str _)
  · cases ra with | ref ea =>
    obtain ⟨xs, hx, m⟩ := m
    obtain ⟨us, e1, q1⟩ := r.lst (getL_lst hx) ea
    exact sl_list pins s σ H _ v vl vu lo hi sl Q I rx hs pl pu ⟨_, _, rfl, .of e1, fun p hp => q.newL r m (cut_rep q1 lo hi) hp⟩
  · exact m.elim
/-! built-in functions -/
def rP (A : Ads) (K : PySem.W.Frag) (p : Pm) : List V → Hp → VK → Prop := fun vs H Q => ∃ ρ h as Qm, HR K A.ca ρ h H ∧ Reps K ρ H as vs ∧ pmR p as h Qm ∧ QOK A K ρ H Qm Q
theorem bls_rep : ∀ {xs : List M} {ys : List V} {bs : List Bool}, Reps K ρ H xs ys → bls xs = some bs → ys = bs.map V.bl
  | _, _, _, .nil, e => by simp [bls] at e; subst e; rfl
  | _, _, bs, .cons q t, e => by
    cases q <;> simp [bls] at e
    obtain ⟨b, e1, rfl⟩ := e
    simp [bls_rep t e1]
theorem ints_rep : ∀ {xs : List M} {ys : List V} {bs : List Int}, Reps K ρ H xs ys → intsM xs = some bs → ys = bs.map V.int
  | _, _, _, .nil, e => by simp [intsM] at e; subst e; rfl
  | _, _, bs, .cons q t, e => by
    cases q <;> simp [intsM] at e
    obtain ⟨b, e1, rfl⟩ := e
    simp [ints_rep t e1]
theorem strs_rep : ∀ {xs : List M} {ys : List V} {bs : List (List Nat)}, Reps K ρ H xs ys → strsM xs = some bs → ys = (bs.map mkS).map V.str
  | _, _, _, .nil, e => by simp [strsM] at e; subst e; rfl
  | _, _, bs, .cons q t, e => by
    cases q <;> simp [strsM] at e
    obtain ⟨b, e1, rfl⟩ := e
    have := strs_rep t e1
    simp [this]
theorem pmok_len : CallR X (.builtin "len") (rP A X.K .len) := by
  intro pins s σ H vs us Q I rs ⟨ρ, h, as, Qm, r, ra, m, q⟩
  unfold pmR pm_len at m
  simp only at m
  split at m
  · cases ra with | cons q0 t =>
    cases t
    cases q0 with | tup sa qa =>
    exact call_len pins s σ H _ us Q I rs ⟨_, _, rfl, .inr ⟨_, sa.sq, rfl⟩, by rw [← qa.length]; exact q.here r m (.int _)⟩
  · cases ra with | cons q0 t =>
    cases t
    cases q0 with | fz sa qa =>
    exact call_len pins s σ H _ us Q I rs ⟨_, _, rfl, .inl ⟨_, sa.sq, rfl⟩, by rw [← qa.length]; exact q.here r m (.int _)⟩
  · cases ra with | cons q0 t =>
    cases t
    cases q0
    exact call_len pins s σ H _ us Q I rs ⟨_, _, rfl, ⟨by rw [mkS_length]; exact m.1, rfl⟩, by rw [mkS_length]; exact q.here r m.2 (.int _)⟩
  · cases ra with | cons q0 t =>
    cases t
    cases q0 with | ref ea =>
    obtain ⟨xs, hx, m⟩ := m
    obtain ⟨us', e1, q1⟩ := r.lst (getL_lst hx) ea
    exact call_len pins s σ H _ us Q I rs ⟨_, _, rfl, .inl ⟨_, .of e1, rfl⟩, by rw [← q1.length]; exact q.here r m (.int _)⟩
  · exact m.elim
theorem pmok_tuple : CallR X (.type "tuple") (rP A X.K .tuple) := by
  intro pins s σ H vs us Q I rs ⟨ρ, h, as, Qm, r, ra, m, q⟩
  unfold pmR pm_tuple at m
  simp only at m
  split at m
  · cases ra with | cons q0 t =>
    cases t
    cases q0 with | tup sa qa =>
    exact call_tuple_of pins s σ H _ us Q I rs ⟨_, _, rfl, .inr ⟨sa.sq, q.here r m (.tup sa qa)⟩⟩
  · cases ra with | cons q0 t =>
    cases t
    cases q0 with | ref ea =>
    obtain ⟨xs, hx, m⟩ := m
    obtain ⟨us', e1, q1⟩ := r.lst (getL_lst hx) ea
    exact call_tupP pins s σ H _ us Q I rs ⟨_, _, rfl, .of e1, fun p o hp hd => q.newT r m q1 hp hd⟩
  · exact m.elim
theorem pmok_list : CallR X (.type "list") (rP A X.K .list) := by
  intro pins s σ H vs us Q I rs ⟨ρ, h, as, Qm, r, ra, m, q⟩
  unfold pmR pm_list at m
  simp only at m
  split at m
  · cases ra with | cons q0 t =>
    cases t
    cases q0 with | tup sa qa =>
    exact call_list_of pins s σ H _ us Q I rs ⟨_, _, rfl, .inr sa.sq, fun p hp => q.newL r m qa hp⟩
  · cases ra with | cons q0 t =>
    cases t
    cases q0 with | ref ea =>
    obtain ⟨xs, hx, m⟩ := m
    obtain ⟨us', e1, q1⟩ := r.lst (getL_lst hx) ea
    exact call_list_of pins s σ H _ us Q I rs ⟨_, _, rfl, .inl (.of e1), fun p hp => q.newL r m q1 hp⟩
  · exact m.elim
theorem pmok_str : CallR X (.type "str") (rP A X.K .str) := by
  intro pins s σ H vs us Q I rs ⟨ρ, h, as, Qm, r, ra, m, q⟩
  unfold pmR pm_str at m
  simp only at m
  split at m
  · cases ra with | cons q0 t =>
    cases t
    cases q0
    exact SkE.call_str_str pins s σ H _ us Q I rs ⟨_, rfl, q.here r m (.str _)⟩
  · cases ra with | cons q0 t =>
    cases t
    cases q0
    have e : ∀ i : Int, mkS (intL i) = (toString i : Str) := fun i => mkS_tl _
    exact call_str_int pins s σ H _ us Q I rs ⟨_, rfl, m.1, by rw [← e]; exact q.here r m.2 (.str _)⟩
  · exact m.elim
theorem pmok_int : CallR X (.type "int") (rP A X.K .int) := by
  intro pins s σ H vs us Q I rs ⟨ρ, h, as, Qm, r, ra, m, q⟩
  unfold pmR pm_int at m
  simp only at m
  split at m
  · cases ra with | cons q0 t =>
    cases t
    cases q0
    exact call_int1 pins s σ H _ us Q I rs (.inl ⟨_, rfl, q.here r m (.int _)⟩)
  · cases ra with | cons q0 t =>
    cases t
    cases q0
    exact call_int1 pins s σ H _ us Q I rs (.inr ⟨_, rfl, q.here r m (.int _)⟩)
  · exact m.elim
theorem pmok_min2 (hc : X.calm = true) : CallR X (.builtin "min") (rP A X.K .min2) := by
  intro pins s σ H vs us Q I rs ⟨ρ, h, as, Qm, r, ra, m, q⟩
  unfold pmR pm_min2 at m
  simp only at m
  split at m
  · cases ra with | cons q0 t =>
    cases t with | cons q1 t =>
    cases t
    cases q0; cases q1
    exact call_min2 hc pins s σ H _ us Q I rs ⟨_, _, rfl, q.here r m (.int _)⟩
  · exact m.elim
theorem pmok_max2 (hc : X.calm = true) : CallR X (.builtin "max") (rP A X.K .max2) := by
  intro pins s σ H vs us Q I rs ⟨ρ, h, as, Qm, r, ra, m, q⟩
  unfold pmR pm_max2 at m
  simp only at m
  split at m
  · cases ra with | cons q0 t =>
    cases t with | cons q1 t =>
    cases t
    cases q0; cases q1
    exact call_max2 hc pins s σ H _ us Q I rs ⟨_, _, rfl, q.here r m (.int _)⟩
  · exact m.elim
theorem pmok_abs : CallR X (.builtin "abs") (rP A X.K .abs) := by
  intro pins s σ H vs us Q I rs ⟨ρ, h, as, Qm, r, ra, m, q⟩
  unfold pmR pm_abs at m
  simp only at m
  split at m
  · cases ra with | cons q0 t =>
    cases t
    cases q0
    exact call_abs pins s σ H _ us Q I rs ⟨_, rfl, q.here r m (.int _)⟩
  · exact m.elim
theorem pmok_all (hc : X.calm = true) : CallR X (.builtin "all") (rP A X.K .all) := by
  intro pins s σ H vs us Q I rs ⟨ρ, h, as, Qm, r, ra, m, q⟩
  unfold pmR pm_all at m
  simp only at m
  split at m
  · cases ra with | cons q0 t =>
    cases t
    cases q0 with | ref ea =>
    obtain ⟨xs, bs, hx, hb, m⟩ := m
    obtain ⟨us', e1, q1⟩ := r.lst (getL_lst hx) ea
    rw [bls_rep q1 hb] at e1
    exact cr_all hc pins s σ H _ us Q I rs ⟨_, _, rfl, .of e1, q.here r m (.bl _)⟩
  · exact m.elim
theorem pmok_any (hc : X.calm = true) : CallR X (.builtin "any") (rP A X.K .any) := by
  intro pins s σ H vs us Q I rs ⟨ρ, h, as, Qm, r, ra, m, q⟩
  unfold pmR pm_any at m
  simp only at m
  split at m
  · cases ra with | cons q0 t =>
    cases t
    cases q0 with | ref ea =>
    obtain ⟨xs, bs, hx, hb, m⟩ := m
    obtain ⟨us', e1, q1⟩ := r.lst (getL_lst hx) ea
    rw [bls_rep q1 hb] at e1
    exact cr_any hc pins s σ H _ us Q I rs ⟨_, _, rfl, .of e1, q.here r m (.bl _)⟩
  · exact m.elim
theorem pmok_sum (hc : X.calm = true) : CallR X (.builtin "sum") (rP A X.K .sum) := by
  intro pins s σ H vs us Q I rs ⟨ρ, h, as, Qm, r, ra, m, q⟩
  unfold pmR pm_sum at m
  simp only at m
  split at m
  · cases ra with | cons q0 t =>
    cases t
    cases q0 with | ref ea =>
    obtain ⟨xs, bs, hx, hb, m⟩ := m
    obtain ⟨us', e1, q1⟩ := r.lst (getL_lst hx) ea
    rw [ints_rep q1 hb] at e1
    exact cr_sum hc pins s σ H _ us Q I rs ⟨_, _, rfl, .of e1, q.here r m (.int _)⟩
  · exact m.elim
theorem pmok_dlen : CallR X (.builtin "len") (rP A X.K .dlen) := by
  intro pins s σ H vs us Q I rs ⟨ρ, h, as, Qm, r, ra, m, q⟩
  unfold pmR pm_dlen at m
  simp only at m
  split at m
  · cases ra with | cons q0 t =>
    cases t
    cases q0 with | ref ea =>
    obtain ⟨kvs, hx, m⟩ := m
    obtain ⟨ls, e1, q1⟩ := r.dct (getD_dct hx) ea
    obtain ⟨u, rfl, ru⟩ := vals1 rs
    cases ru
    exact d_len I (.inl e1) fun t s' I' => ⟨.int ls.length, H, I', ⟨t, rfl⟩, by rw [← q1.length]; exact q.here r m (.int _)⟩
  · exact m.elim
theorem pmok_dcopy : CallR X (.type "dict") (rP A X.K .dcopy) := by
  intro pins s σ H vs us Q I rs ⟨ρ, h, as, Qm, r, ra, m, q⟩
  unfold pmR pm_dcopy at m
  simp only at m
  split at m
  · cases ra with | cons q0 t =>
    cases t
    cases q0 with | ref ea =>
    obtain ⟨kvs, hx, m⟩ := m
    obtain ⟨ls, e1, q1⟩ := r.dct (getD_dct hx) ea
    exact call_dictD pins s σ H _ us Q I rs ⟨_, _, rfl, .inl e1, fun p hp => q.newD r m q1 hp⟩
  · exact m.elim
theorem pmok_dkeys (hc : X.calm = true) : CallR X (.type "list") (rP A X.K .dkeys) := by
  intro pins s σ H vs us Q I rs ⟨ρ, h, as, Qm, r, ra, m, q⟩
  unfold pmR pm_dkeys at m
  simp only at m
  split at m
  · cases ra with | cons q0 t =>
    cases t
    cases q0 with | ref ea =>
    obtain ⟨kvs, hx, m⟩ := m
    obtain ⟨ls, e1, q1⟩ := r.dct (getD_dct hx) ea
    exact call_listD hc pins s σ H _ us Q I rs ⟨_, _, rfl, .inl e1, fun p hp => q.newL r m q1.keys hp⟩
  · exact m.elim
/-- the pairs of a tuple of pairs -/
theorem prs_rep {pins : List (Addr × Obj)} {σ : L2.St} {s : Shared} (I : L2.Inv X pins σ H s) : ∀ {xs : List M} {ys : List V} {us : List Value} {kvs : List (M × M)}, Reps X.K ρ H xs ys → Vals ys us → prsM xs = some kvs →
    ∃ (ls : List (Key × V)) (vs : List (Key × Value)) (ps : List (Value × Value)) (ts : List Addr), DR X.K ρ H kvs ls ∧ KV ls vs ∧ ts.length = us.length ∧ ps.length = us.length ∧ vs.length = us.length ∧
      ∀ (j : Nat) (k v : Value), ps[j]? = some (k, v) → ∃ (t : Addr) (c : Key), us[j]? = some (.ref t) ∧ ts[j]? = some t ∧ PairAt s.heap t k v ∧ vs[j]? = some (c, v) ∧ (mixKind X.prog X.w).is c k = true
  | _, _, _, kvs, .nil, rv, e => by
    cases rv
    simp [prsM] at e
    subst e
    exact ⟨[], [], [], [], trivial, .nil, rfl, rfl, rfl, fun j k v z => by simp at z⟩
  | x :: xs, y :: ys, u :: us, kvs, .cons q t, .cons ru rv, e => by
    match x, q, e with
    | .tup [a, b], q, e =>
      simp only [prsM] at e
      split at e
      · rename_i hk
        obtain ⟨c, hc⟩ := Option.isSome_iff_exists.mp hk
        obtain ⟨kvs', e1, rfl⟩ := Option.map_eq_some_iff.mp e
        obtain ⟨ls, vs, ps, ts, h1, h2, h3, h4, h5, h6⟩ := prs_rep I t rv e1
        cases q with | @tup a1 xs1 ys1 sa qa =>
        cases qa with | cons qk qa =>
        cases qa with | cons qv qa =>
        cases qa
        obtain rfl := keyM_kV hc qk
        cases ru
        obtain ⟨its, ri, pl, _⟩ := I.tuple sa.sq
        obtain ⟨uk, uv, rfl, r1, r2⟩ := vals2 ri
        refine ⟨(c, _) :: ls, (c, uv) :: vs, (uk, uv) :: ps, a1 :: ts, ⟨hc, qv, h1⟩, .cons ⟨rfl, r2⟩ h2, by simp [h3], by simp [h4], by simp [h5], fun j k v z => ?_⟩
        cases j with
        | zero =>
          simp at z
          obtain ⟨rfl, rfl⟩ := z
          exact ⟨_, c, rfl, rfl, .inl pl, rfl, kV_is (P := X.prog) (w := X.w) r1⟩
        | succ j =>
          obtain ⟨t', c', z1, z2, z3, z4, z5⟩ := h6 j k v (by simpa using z)
          exact ⟨t', c', by simpa using z1, by simpa using z2, z3, by simpa using z4, z5⟩
      · cases e
theorem pmok_dict (hc : X.calm = true) : CallR X (.type "dict") (rP A X.K .dict) := by
  intro pins s σ H vs us Q I rs ⟨ρ, h, as, Qm, r, ra, m, q⟩
  unfold pmR pm_dict at m
  simp only at m
  split at m
  · cases ra with | cons q0 t =>
    cases t
    cases q0 with | @tup a0 xs0 ys0 sa qa =>
    obtain ⟨kvs, hk, m⟩ := m
    obtain ⟨u, rfl, ru⟩ := vals1 rs
    cases ru
    have pl : ∃ (its : List Value) (o : Obj) (n : Nat), Vals ys0 its ∧ s.heap.get? a0 = some o ∧ o.cls = .type "tuple" ∧ o.dict = none ∧ o.data = .seq its.toArray n ∧ its.length ≤ sizeLine := by
      rcases sa with ⟨o, e, d⟩ | ⟨o, its, n, h1, h2, h3, h4, h5, h6⟩
      · obtain ⟨e1, z, its, rv, o', e2, c2, n, d2⟩ := I.hok _ _ e
        rw [e1] at e2; cases e2
        exact ⟨its, o, n, rv, e1, c2, d, d2, by rw [← rv.length]; exact z⟩
      · exact ⟨its.toList, o, n, h6, I.kIn _ _ h1, h2, h3, by simpa using h4, by simpa using h5⟩
    obtain ⟨its, o, n, rv, e1, e2, e3, e4, e5⟩ := pl
    obtain ⟨ls, vs, ps, ts, g1, g2, g3, g4, g5, g6⟩ := prs_rep I qa rv hk
    refine PySem.call_dict_pairs (knd := mixKind X.prog X.w) (kvs := vs) (PairArg.tuple _ its.toArray (fun j => ts.getD j 0) ps) (I.ok.hd hc) ⟨⟨o, n, e1, e2, e3, e4⟩, by simp [g4], fun j k v z => ?_⟩ ⟨by rw [g5, g4], fun j k v z => ?_⟩ (by rw [g4]; exact e5) fun h' tk hd' hk' => ?_
    · obtain ⟨t', c', z1, z2, z3, z4, z5⟩ := g6 j k v z
      have : ts.getD j 0 = t' := by simp [z2]
      show its.toArray[j]? = some (Value.ref (ts.getD j 0)) ∧ PairAt s.heap (ts.getD j 0) k v
      rw [this]
      exact ⟨by simpa using z1, z3⟩
    · obtain ⟨t', c', z1, z2, z3, z4, z5⟩ := g6 j k v z
      exact ⟨c', z4, z5⟩
    · have hlen : (mergeK [] ls).length ≤ sizeLine := by
        refine Nat.le_trans (length_mergeK ls []) ?_
        rw [List.length_nil, Nat.zero_add, g2.length, g5]; exact e5
      have hm : (s.heap.objs.size == sysModules) = false := beq_eq_false_iff_ne.mpr (Nat.ne_of_gt I.big)
      refine ⟨.ref s.heap.objs.size, upd H s.heap.objs.size (.dK (mergeK [] ls)), I.laid (t' := tk) (fun b o e => hk' b o (by simp) e) (Nat.le_refl _) (show ObjOk X.prog X.w _ _ _ (.dK (mergeK [] ls)) from ⟨hlen, hm, _, KV.merge g2 .nil, hd'⟩), rfl, ?_⟩
      exact q.newD r m (DR.merge g1 (show DR X.K ρ H [] [] from trivial)) (I.hok.fresh (Nat.le_refl _))
  · exact m.elim
/-! methods -/
def rM (A : Ads) (K : PySem.W.Frag) (p : Mt) : V → List V → Hp → VK → Prop := fun x vs H Q => ∃ ρ h a as Qm, HR K A.ca ρ h H ∧ Rep K ρ H a x ∧ Reps K ρ H as vs ∧ mtR p a as h Qm ∧ QOK A K ρ H Qm Q
theorem map_mkS_len : ∀ ys : List (List Nat), ((ys.map mkS).map (·.length)) = ys.map (·.length)
  | [] => rfl
  | y :: ys => by simp only [List.map_cons, mkS_length, map_mkS_len ys]
theorem map_tl_mkS : ∀ ys : List (List Nat), (ys.map mkS).map TL.tl = ys
  | [] => rfl
  | y :: ys => by simp only [List.map_cons, tl_mkS, map_tl_mkS ys]
theorem join_mkS (a : List Nat) (ys : List (List Nat)) : Txt.join (mkS a) (ys.map mkS) = mkS (TL.joinL a ys) := by
  apply TL.ext_tl
  rw [TL.join_eq, TL.tl_join, tl_mkS, tl_mkS, map_tl_mkS]
theorem mtok_joinM : MtR X "str.join" (rM A X.K .join) := by
  intro pins s σ H x vs v us Q I rx rs ⟨ρ, h, a, as, Qm, r, ra, ras, m, q⟩
  unfold mtR mt_join at m
  simp only at m
  split at m
  · cases ra
    cases ras with | cons q0 t =>
    cases t
    cases q0 with | ref ea =>
    obtain ⟨xs, ys, hx, hy, hz, m⟩ := m
    obtain ⟨us', e1, q1⟩ := r.lst (getL_lst hx) ea
    rw [strs_rep q1 hy] at e1
    refine L2.mt_join pins s σ H _ _ v us Q I rx rs ⟨_, _, ys.map mkS, rfl, rfl, .inl (.of e1), by rw [map_mkS_len, List.length_map, mkS_length]; exact hz, ?_⟩
    rw [join_mkS]
    exact q.here r m (.str _)
  · exact m.elim
theorem mtok_appendM : MtR X "list.append" (rM A X.K .append) := by
  intro pins s σ H x vs v us Q I rx rs ⟨ρ, h, a, as, Qm, r, ra, ras, m, q⟩
  unfold mtR mt_append at m
  simp only at m
  split at m
  · cases ra with | ref eo =>
    cases ras with | cons q0 t =>
    cases t
    obtain ⟨xs, hx, hz, m⟩ := m
    obtain ⟨us', e1, q1⟩ := r.lst hx eo
    exact L2.mt_append pins s σ H _ _ v us Q I rx rs ⟨_, _, _, rfl, rfl, e1, by rw [← q1.length]; exact hz, q.putL r hx eo m .non (q1.append (.cons q0 .nil))⟩
  · exact m.elim
theorem mtok_extendM : MtR X "list.extend" (rM A X.K .extend) := by
  intro pins s σ H x vs v us Q I rx rs ⟨ρ, h, a, as, Qm, r, ra, ras, m, q⟩
  unfold mtR mt_extend at m
  simp only at m
  split at m
  · cases ra with | ref eo =>
    cases ras with | cons q0 t =>
    cases t
    cases q0 with | ref eb =>
    obtain ⟨xs, zs, hx, hb, hz, m⟩ := m
    obtain ⟨us', e1, q1⟩ := r.lst hx eo
    obtain ⟨ws, e2, q2⟩ := r.lst hb eb
    exact L2.mt_extend pins s σ H _ _ v us Q I rx rs ⟨_, _, _, _, rfl, rfl, e1, e2, by rw [← q1.length, ← q2.length]; exact hz, q.putL r hx eo m .non (q1.append q2)⟩
  · exact m.elim
theorem mtok_popM : MtR X "list.pop" (rM A X.K .pop) := by
  intro pins s σ H x vs v us Q I rx rs ⟨ρ, h, a, as, Qm, r, ra, ras, m, q⟩
  unfold mtR mt_pop at m
  simp only at m
  split at m
  · cases ra with | ref eo =>
    cases ras
    obtain ⟨xs, y, hx, m⟩ := m
    obtain ⟨us', e1, q1⟩ := r.lst hx eo
    obtain ⟨zs, w, rfl, q2, q3⟩ := q1.snoc
    exact L2.mt_pop pins s σ H _ _ v us Q I rx rs ⟨_, _, w, rfl, rfl, e1, by simp, by rw [List.dropLast_concat]; exact q.putL r hx eo m q3 q2⟩
  · exact m.elim
theorem mtok_dgetM (hu : X.A.units + 1 < cLine) : MtR X "dict.get" (rM A X.K .dget) := by
  intro pins s σ H x vs v us Q I rx rs ⟨ρ, h, a, as, Qm, r, ra, ras, m, q⟩
  unfold mtR mt_dget at m
  simp only at m
  split at m
  · cases ra with | ref eo =>
    cases ras with | cons q0 t =>
    cases t
    obtain ⟨kvs, hx, hk, m⟩ := m
    obtain ⟨c, hc⟩ := Option.isSome_iff_exists.mp hk
    obtain ⟨ls, e1, q1⟩ := r.dct hx eo
    obtain rfl := keyM_kV hc q0
    obtain ⟨h1, h2⟩ := q1.val hc
    obtain ⟨u, rfl, ru⟩ := vals1 rs
    cases rx
    refine d_get1 hu I (.k e1) ru fun w' s' I' rw' => ⟨_, H, I', rw', ?_⟩
    cases z : dval kvs _ with
    | none => rw [h2 z]; rw [z] at m; exact q.here r m .non
    | some w =>
      obtain ⟨y, e2, ry⟩ := h1 w z
      rw [e2]; rw [z] at m
      exact q.here r m ry
  · cases ra with | ref eo =>
    cases ras with | cons q0 t =>
    cases t with | cons qd t =>
    cases t
    obtain ⟨kvs, hx, m⟩ := m
    obtain ⟨ls, e1, q1⟩ := r.dct hx eo
    cases q0
    obtain ⟨u, w0, rfl, ru, rd⟩ := vals2 rs
    cases ru
    cases rx
    obtain ⟨_, hd, vs, _, dd⟩ := dk_rd I.hok (.inl e1)
    obtain ⟨f, hm, hf⟩ := none_map dd
    refine call_meetsIn PySem.F.slot_dict_get dd.typeIs PySem.F.entry_dict_get (PySem.F.args_dict_get_3 _ _ _) (meets_dict_get_default (noneKind X.prog X.w) _ (show (noneKind X.prog X.w).is none .none = true from rfl) hd w0) ⟨f, hm, ?_⟩
    rw [hf]
    exact ⟨_, H, I.tok _, rd, q.here r m qd⟩
  · cases ra with | ref eo =>
    cases ras with | cons q0 t =>
    cases t with | cons qd t =>
    cases t
    obtain ⟨kvs, hx, hk, m⟩ := m
    obtain ⟨c, hc⟩ := Option.isSome_iff_exists.mp hk
    obtain ⟨ls, e1, q1⟩ := r.dct hx eo
    obtain rfl := keyM_kV hc q0
    obtain ⟨h1, h2⟩ := q1.val hc
    obtain ⟨u, w0, rfl, ru, rd⟩ := vals2 rs
    cases rx
    refine d_get2 hu I (.k e1) ru rd fun w' s' I' rw' => ⟨_, H, I', rw', ?_⟩
    cases z : dval kvs _ with
    | none => rw [h2 z]; rw [z] at m; exact q.here r m qd
    | some w =>
      obtain ⟨y, e2, ry⟩ := h1 w z
      rw [e2]; rw [z] at m
      exact q.here r m ry
  · exact m.elim
end
end Wg
open PySem PySem.Spec PyProof.Rows
set_option linter.all false
set_option Elab.async false
namespace Wg
open L2
/-! ### the judgements' readings, and the rules over them -/
section
variable (A : Ads) (K : PySem.W.Frag)
def LOK (n : Nat) (ρ : List Addr) (H : Hp) (Qm : List M → MH → Prop) (Q : List V → Hp → Prop) : Prop := ∀ v h', Qm v h' → v.length = n → ∀ ρ' H' v', Ext ρ H ρ' H' → HR K A.ca ρ' h' H' → Reps K ρ' H' v v' → Q v' H'
def OOK (ρ : List Addr) (H : Hp) (Qm : Option Int → MH → Prop) (Q : Option Int → Hp → Prop) : Prop := ∀ v h', Qm v h' → ∀ ρ' H', Ext ρ H ρ' H' → HR K A.ca ρ' h' H' → Q v H'
structure ItOK (J : It) (xs : List M) (chk : MH → Prop) (ρ0 : List Addr) (H0 : Hp) : Prop where
  go : ∀ i ρ h H, HR K A.ca ρ h H → Ext ρ0 H0 ρ H → chk h → i < xs.length → J.go i H
  stop : ∀ i ρ h H, HR K A.ca ρ h H → Ext ρ0 H0 ρ H → chk h → xs.length ≤ i → J.stop i H
  yld : ∀ i ρ h H x H', HR K A.ca ρ h H → Ext ρ0 H0 ρ H → chk h → i < xs.length → J.yld i H x H' → HR K A.ca ρ h H' ∧ Ext ρ H ρ H' ∧ ∃ m, xs[i]? = some m ∧ Rep K ρ H' m x
def IOK (ρ : List Addr) (H : Hp) (Km : KI) (R : It → Hp → Prop) : Prop := ∀ xs chk h', Km xs chk h' → ∀ ρ' H' J, Ext ρ H ρ' H' → HR K A.ca ρ' h' H' → xs.length ≤ sizeLine → ItOK A K J xs chk ρ' H' → R J H'
structure EOK (ρ : List Addr) (H : Hp) (Dm : Ed) (D : Ends) : Prop where
  nx : ∀ env h', Dm.nx env h' → ∀ ρ' H' σ', Ext ρ H ρ' H' → HR K A.ca ρ' h' H' → ER K ρ' H' env σ' → D.nx σ' H'
  rt : QOK A K ρ H Dm.rt D.rt
  bk : ∀ env h', Dm.bk env h' → ∀ ρ' H' σ', Ext ρ H ρ' H' → HR K A.ca ρ' h' H' → ER K ρ' H' env σ' → D.bk σ' H'
  ct : ∀ env h', Dm.ct env h' → ∀ ρ' H' σ', Ext ρ H ρ' H' → HR K A.ca ρ' h' H' → ER K ρ' H' env σ' → D.ct σ' H'
/-- what a statement raises: the slots as they are then -/
def SXK (ρ : List Addr) (H : Hp) (X : XW) (W : WX) : Prop :=
  ∀ x env h', X x env h' → ∀ ρ' H' σ' c d, Ext ρ H ρ' H' → HR K A.ca ρ' h' H' → ER K ρ' H' env σ' → XR A K ρ' H' x c d → W c d σ' H'
def tE (W : WX) (d : WE) : TE := fun σ H Q => ∃ ρ env h Qm Xm, HR K A.ca ρ h H ∧ ER K ρ H env σ ∧ d env h Qm Xm ∧ QOK A K ρ H Qm Q ∧ XOK A K ρ H σ Xm W
def tT (W : WX) (d : WT) : TT := fun σ H Q => ∃ ρ env h Qm Xm, HR K A.ca ρ h H ∧ ER K ρ H env σ ∧ d env h Qm Xm ∧ BOK A K ρ H Qm Q ∧ XOK A K ρ H σ Xm W
def tAs (n : Nat) (W : WX) (d : Env → MH → (List M → MH → Prop) → (Exn → MH → Prop) → Prop) : TA := fun σ H Q => ∃ ρ env h Qm Xm, HR K A.ca ρ h H ∧ ER K ρ H env σ ∧ d env h Qm Xm ∧ LOK A K n ρ H Qm Q ∧ XOK A K ρ H σ Xm W
def tOp (W : WX) (d : Env → MH → (Option Int → MH → Prop) → (Exn → MH → Prop) → Prop) : TO := fun σ H Q => ∃ ρ env h Qm Xm, HR K A.ca ρ h H ∧ ER K ρ H env σ ∧ d env h Qm Xm ∧ OOK A K ρ H Qm Q ∧ XOK A K ρ H σ Xm W
def tIt (W : WX) (d : Env → MH → KI → (Exn → MH → Prop) → Prop) : TI := fun σ H R => ∃ ρ env h Km Xm, HR K A.ca ρ h H ∧ ER K ρ H env σ ∧ d env h Km Xm ∧ IOK A K ρ H Km R ∧ XOK A K ρ H σ Xm W
def tSt (W : WX) (d : WS) : TS := fun D σ H => ∃ ρ env h Dm X, HR K A.ca ρ h H ∧ ER K ρ H env σ ∧ d env h Dm X ∧ EOK A K ρ H Dm D ∧ SXK A K ρ H X W
/-- a def's promise -/
def spM (np : Nat) (φ : FS) : Sp := fun vs H Q E => vs.length = np ∧ ∃ ρ h ms Qm Xm, HR K A.ca ρ h H ∧ Reps K ρ H ms vs ∧ φ ms h Qm Xm ∧ QOK A K ρ H Qm Q ∧
  ∀ x h', Xm x h' → ∀ ρ' H' c d, Ext ρ H ρ' H' → HR K A.ca ρ' h' H' → XR A K ρ' H' x c d → E c d H'
end
section
variable {A : Ads} {K : PySem.W.Frag} {X : Cx} {W : WX}
theorem PE.weak {e : Expr} {t t' : TE} (p : PE X e t) (h : ∀ σ H Q, t' σ H Q → t σ H Q) : PE X e t' := ⟨fun pins s σ H Q I hw => p.run pins s σ H Q I (h _ _ _ hw)⟩
theorem PT.weak {e : Expr} {t t' : TT} (p : PT X e t) (h : ∀ σ H Q, t' σ H Q → t σ H Q) : PT X e t' := ⟨fun pins s σ H Q I hw => p.run pins s σ H Q I (h _ _ _ hw)⟩
theorem PW.weak {e : Expr} {t t' : TT} (p : PW X e t) (h : ∀ σ H Q, t' σ H Q → t σ H Q) : PW X e t' := ⟨fun wh pins s σ H Q I hw => p.run wh pins s σ H Q I (h _ _ _ hw)⟩
theorem PA.weak {e : List Expr} {t t' : TA} (p : PA X e t) (h : ∀ σ H Q, t' σ H Q → t σ H Q) : PA X e t' := ⟨fun pos pins s σ H Q I hw => p.run pos pins s σ H Q I (h _ _ _ hw)⟩
theorem PO.weak {e : Option Expr} {t t' : TO} (p : PO X e t) (h : ∀ σ H Q, t' σ H Q → t σ H Q) : PO X e t' := ⟨fun pins s σ H Q I hw => p.run pins s σ H Q I (h _ _ _ hw)⟩
theorem PTs.weak {e : List Expr} {t t' : TT} (p : PTs X e t) (h : ∀ σ H Q, t' σ H Q → t σ H Q) : PTs X e t' := ⟨fun pins s σ H Q I hw => p.run pins s σ H Q I (h _ _ _ hw)⟩
theorem PI.weak {tg e : Expr} {t t' : TI} (p : PI X tg e t) (h : ∀ σ H R, t' σ H R → t σ H R) : PI X tg e t' := ⟨fun pins s σ H Q I hw => p.run pins s σ H Q I (h _ _ _ hw)⟩
theorem PI.or {tg e : Expr} {t u : TI} (p : PI X tg e t) (q : PI X tg e u) : PI X tg e (fun σ H R => t σ H R ∨ u σ H R) := ⟨fun pins s σ H Q I hw => hw.elim (p.run pins s σ H Q I) (q.run pins s σ H Q I)⟩
theorem PE.or {e : Expr} {t u : TE} (p : PE X e t) (q : PE X e u) : PE X e (fun σ H R => t σ H R ∨ u σ H R) := ⟨fun pins s σ H Q I hw => hw.elim (p.run pins s σ H Q I) (q.run pins s σ H Q I)⟩
theorem PS.weak {e : Stmt} {t t' : TS} (p : PS X e t) (h : ∀ D σ H, t' D σ H → t D σ H) : PS X e t' := ⟨fun pins s σ H D I hw => p.run pins s σ H D I (h _ _ _ hw)⟩
theorem PSs.weak {e : List Stmt} {t t' : TS} (p : PSs X e t) (h : ∀ D σ H, t' D σ H → t D σ H) : PSs X e t' := ⟨fun pins s σ H D I hw => p.run pins s σ H D I (h _ _ _ hw)⟩
variable {a b c e : Expr} {da db dc : WE} {dt' du : WT} {pos : Pos} {env : Env}
/-- the step behind an expression: go on from its end -/
theorem q_then {σ : List (Option V)} {H : Hp} {ρ : List Addr} {h : MH} {env : Env} {Xm : Exn → MH → Prop} {R : M → MH → Prop} {S : VK} (r : HR K A.ca ρ h H) (e : ER K ρ H env σ) (x : XOK A K ρ H σ Xm W)
    (k : ∀ v h1 ρ1 H1 v1, R v h1 → Ext ρ H ρ1 H1 → HR K A.ca ρ1 h1 H1 → ER K ρ1 H1 env σ → XOK A K ρ1 H1 σ Xm W → Rep K ρ1 H1 v v1 → S v1 H1) : QOK A K ρ H R S :=
  fun v h1 d ρ1 H1 v1 x1 r1 p1 => k v h1 ρ1 H1 v1 d x1 r1 (e.mono r x1) (x.mono r1 x1) p1
theorem e_var {i : Nat} {x : Str} (hN : X.N[i]? = some x) (hv : Vis X.env.scope x) (hd : (x == ("__debug__" : Str)) = false) (hcd : (x == ("__classdict__" : Str)) = false) :
    PE X (.Name x pos) (tE A X.K W (fun env h Q _ => ∃ v, env[i]? = some (some v) ∧ Q v h)) :=
  PE.weak (pe_var hN hv hd hcd) fun σ H Q ⟨ρ, env, h, Qm, Xm, r, e, ⟨v, ev, d⟩, q, _⟩ => by
    obtain ⟨u, e1, e2⟩ := e.get ev
    exact ⟨u, e1, q.here r d e2⟩
theorem e_cst {m : M} {v : V} (p : PE X e (tC v)) (q : ∀ ρ H, Rep X.K ρ H m v) : PE X e (tE A X.K W (fun env h Q _ => Q m h)) :=
  PE.weak p fun σ H Q ⟨ρ, env, h, Qm, Xm, r, e, d, qk, _⟩ => qk.here r d (q ρ H)
theorem e_bin {op : Operator} (ha : PE X a (tE A X.K W (da))) (hb : PE X b (tE A X.K W (db))) : PE X (.BinOp a op b pos) (tE A X.K W (fun env h Q Xm => da env h (fun x h1 => db env h1 (fun y h2 => binR op x y h2 Q) Xm) Xm)) := by
  refine PE.weak (pe_op (op_bin (A := A) op) ha hb) fun σ H Q ⟨ρ, env, h, Qm, Xm, r, e, d, q, x⟩ => ?_
  refine ⟨ρ, env, h, _, Xm, r, e, d, q_then r e x fun v h1 ρ1 H1 v1 d1 x1 r1 e1 X1 p1 => ?_, x⟩
  refine ⟨ρ1, env, h1, _, Xm, r1, e1, d1, q_then r1 e1 X1 fun u h2 ρ2 H2 u2 d2 x2 r2 e2 X2 p2 => ?_, X1⟩
  exact ⟨ρ2, h2, v, u, Qm, r2, p1.mono r1 x2, p2, d2, (q.mono r1 x1).mono r2 x2⟩
theorem e_neg (ha : PE X a (tE A X.K W (da))) : PE X (.UnaryOp .USub a pos) (tE A X.K W (fun env h Q Xm => da env h (fun x h1 => ∃ i, x = .int i ∧ Q (.int (-i)) h1) Xm)) := by
  refine PE.weak (pe_un un_neg ha) fun σ H Q ⟨ρ, env, h, Qm, Xm, r, e, d, q, x⟩ => ?_
  refine ⟨ρ, env, h, _, Xm, r, e, d, q_then r e x fun v h1 ρ1 H1 v1 d1 x1 r1 e1 X1 p1 => ?_, x⟩
  obtain ⟨i, rfl, d1⟩ := d1
  cases p1
  exact ⟨i, rfl, (q.mono r1 x1).here r1 d1 (.int _)⟩
theorem e_cmp (hu : X.A.units + 64 < cLine) {op : CmpOp} (ha : PE X a (tE A X.K W (da))) (hb : PE X b (tE A X.K W (db))) (hm : behindInMarks op b = false) :
    PE X (.Compare a [op] [b] pos) (tE A X.K W (fun env h Q Xm => da env h (fun x h1 => db env h1 (fun y h2 => cmpR op x y h2 (fun k h3 => Q (.bl k) h3)) Xm) Xm)) := by
  refine PE.weak (pe_cmpR (op_cmp (A := A) hu op) ha hb hm) fun σ H Q ⟨ρ, env, h, Qm, Xm, r, e, d, q, x⟩ => ?_
  refine ⟨ρ, env, h, _, Xm, r, e, d, q_then r e x fun v h1 ρ1 H1 v1 d1 x1 r1 e1 X1 p1 => ?_, x⟩
  refine ⟨ρ1, env, h1, _, Xm, r1, e1, d1, q_then r1 e1 X1 fun u h2 ρ2 H2 u2 d2 x2 r2 e2 X2 p2 => ?_, X1⟩
  exact ⟨ρ2, h2, v, u, _, r2, p1.mono r1 x2, p2, d2, fun k h3 d3 ρ3 H3 x3 r3 => (((q.mono r1 x1).mono r2 x2).mono r3 x3).here r3 d3 (.bl k)⟩
theorem t_cmp (hu : X.A.units + 64 < cLine) {op : CmpOp} (ha : PE X a (tE A X.K W (da))) (hb : PE X b (tE A X.K W (db))) (hm : behindInMarks op b = false) :
    PT X (.Compare a [op] [b] pos) (tT A X.K W fun env h Q Xm => da env h (fun x h1 => db env h1 (fun y h2 => cmpR op x y h2 Q) Xm) Xm) := by
  refine PT.weak (pt_cmpR (op_cmp (A := A) hu op) ha hb hm) fun σ H Q ⟨ρ, env, h, Qm, Xm, r, e, d, q, x⟩ => ?_
  refine ⟨ρ, env, h, _, Xm, r, e, d, q_then r e x fun v h1 ρ1 H1 v1 d1 x1 r1 e1 X1 p1 => ?_, x⟩
  refine ⟨ρ1, env, h1, _, Xm, r1, e1, d1, q_then r1 e1 X1 fun u h2 ρ2 H2 u2 d2 x2 r2 e2 X2 p2 => ?_, X1⟩
  exact ⟨ρ2, h2, v, u, _, r2, p1.mono r1 x2, p2, d2, fun k h3 d3 ρ3 H3 x3 r3 => ⟨k, rfl, q k h3 d3 ρ3 H3 ((x1.trans r1 x2).trans r2 x3) r3⟩⟩
theorem e_chn (hu : X.A.units + 64 < cLine) {op op' : CmpOp} (ha : PE X a (tE A X.K W (da))) (hb : PE X b (tE A X.K W (db))) (hc : PE X c (tE A X.K W (dc))) (hm : lastMarks [op, op'] [b, c] = false) :
    PE X (.Compare a [op, op'] [b, c] pos) (tE A X.K W (fun env h Q X => da env h (fun x h1 => db env h1 (fun y h2 => cmpR op x y h2 (fun k h3 => if k = true then dc env h3 (fun z h4 => cmpR op' y z h4 (fun k' h5 => Q (.bl k') h5)) X else Q (.bl false) h3)) X) X)) := by
  refine PE.weak (pe_chain (op_cmp (A := A) hu op) (op_cmp (A := A) hu op') ha hb hc hm) fun σ H Q ⟨ρ, env, h, Qm, Xm, r, e, d, q, x⟩ => ?_
  refine ⟨ρ, env, h, _, Xm, r, e, d, q_then r e x fun v h1 ρ1 H1 v1 d1 x1 r1 e1 X1 p1 => ?_, x⟩
  refine ⟨ρ1, env, h1, _, Xm, r1, e1, d1, q_then r1 e1 X1 fun u h2 ρ2 H2 u2 d2 x2 r2 e2 X2 p2 => ?_, X1⟩
  refine ⟨ρ2, h2, v, u, _, r2, p1.mono r1 x2, p2, d2, fun k h3 d3 ρ3 H3 x3 r3 => ⟨k, rfl, ?_⟩⟩
  have q3 := ((q.mono r1 x1).mono r2 x2).mono r3 x3
  cases k with
  | false =>
    rw [if_neg (by simp)] at d3 ⊢
    exact q3.here r3 d3 (.bl _)
  | true =>
    rw [if_pos rfl] at d3 ⊢
    have e3 := e2.mono r2 x3
    refine ⟨ρ3, env, h3, _, Xm, r3, e3, d3, q_then r3 e3 (X2.mono r3 x3) fun w h4 ρ4 H4 w4 d4 x4 r4 e4 X4 p4 => ?_, X2.mono r3 x3⟩
    exact ⟨ρ4, h4, u, w, _, r4, (p2.mono r2 x3).mono r3 x4, p4, d4, fun k h5 d5 ρ5 H5 x5 r5 => ((q3.mono r4 x4).mono r5 x5).here r5 d5 (.bl k)⟩
theorem t_chn (hu : X.A.units + 64 < cLine) {op op' : CmpOp} (ha : PE X a (tE A X.K W (da))) (hb : PE X b (tE A X.K W (db))) (hc : PE X c (tE A X.K W (dc))) (hm : lastMarks [op, op'] [b, c] = false) :
    PT X (.Compare a [op, op'] [b, c] pos) (tT A X.K W fun env h Q X => da env h (fun x h1 => db env h1 (fun y h2 => cmpR op x y h2 (fun k h3 => if k = true then dc env h3 (fun z h4 => cmpR op' y z h4 Q) X else Q false h3)) X) X) := by
  refine PT.weak (pt_chain (op_cmp (A := A) hu op) (op_cmp (A := A) hu op') ha hb hc hm) fun σ H Q ⟨ρ, env, h, Qm, Xm, r, e, d, q, x⟩ => ?_
  refine ⟨ρ, env, h, _, Xm, r, e, d, q_then r e x fun v h1 ρ1 H1 v1 d1 x1 r1 e1 X1 p1 => ?_, x⟩
  refine ⟨ρ1, env, h1, _, Xm, r1, e1, d1, q_then r1 e1 X1 fun u h2 ρ2 H2 u2 d2 x2 r2 e2 X2 p2 => ?_, X1⟩
  refine ⟨ρ2, h2, v, u, _, r2, p1.mono r1 x2, p2, d2, fun k h3 d3 ρ3 H3 x3 r3 => ⟨k, rfl, ?_⟩⟩
  cases k with
  | false =>
    rw [if_neg (by simp)] at d3 ⊢
    exact ⟨false, rfl, q false h3 d3 ρ3 H3 ((x1.trans r1 x2).trans r2 x3) r3⟩
  | true =>
    rw [if_pos rfl] at d3 ⊢
    have e3 := e2.mono r2 x3
    refine ⟨ρ3, env, h3, _, Xm, r3, e3, d3, q_then r3 e3 (X2.mono r3 x3) fun w h4 ρ4 H4 w4 d4 x4 r4 e4 X4 p4 => ?_, X2.mono r3 x3⟩
    exact ⟨ρ4, h4, u, w, _, r4, (p2.mono r2 x3).mono r3 x4, p4, d4, fun k h5 d5 ρ5 H5 x5 r5 => ⟨k, rfl, q k h5 d5 ρ5 H5 ((((x1.trans r1 x2).trans r2 x3).trans r3 x4).trans r4 x5) r5⟩⟩
/-- a value's truth as a test -/
theorem t_val (he : ∀ whole, isTrue e X.env whole = (do let v ← whole; standAt e.pos; holding [v] (truthy v))) (ha : PE X e (tE A X.K W (da))) :
    PT X e (tT A X.K W fun env h Q Xm => da env h (fun v h1 => ∃ k, truV h1 v = some k ∧ Q k h1) Xm) := by
  refine PT.weak (pt_truth ha he) fun σ H Q ⟨ρ, env, h, Qm, Xm, r, e, d, q, x⟩ => ?_
  refine ⟨ρ, env, h, _, Xm, r, e, d, q_then r e x fun v h1 ρ1 H1 v1 d1 x1 r1 e1 X1 p1 => ?_, x⟩
  obtain ⟨k, hk, d1⟩ := d1
  exact ⟨k, truV_rep r1 p1 hk, q k h1 d1 ρ1 H1 x1 r1⟩
theorem e_not (ha : PT X a (tT A X.K W dt')) : PT X (.UnaryOp .Not a pos) (tT A X.K W fun env h Q Xm => dt' env h (fun k h1 => Q (!k) h1) Xm) :=
  PT.weak (pt_not ha) fun σ H Q ⟨ρ, env, h, Qm, Xm, r, e, d, q, x⟩ => ⟨ρ, env, h, _, Xm, r, e, d, fun k h1 d1 ρ1 H1 x1 r1 => q _ h1 d1 ρ1 H1 x1 r1, x⟩
theorem e_notV (ha : PE X a (tE A X.K W da)) : PE X (.UnaryOp .Not a pos) (tE A X.K W fun env h Q Xm => da env h (fun v h1 => ∃ k, truV h1 v = some k ∧ Q (.bl (!k)) h1) Xm) := by
  refine PE.weak (pe_notT ha) fun σ H Q ⟨ρ, env, h, Qm, Xm, r, e, d, q, x⟩ => ?_
  refine ⟨ρ, env, h, _, Xm, r, e, d, q_then r e x fun v h1 ρ1 H1 v1 d1 x1 r1 e1 X1 p1 => ?_, x⟩
  obtain ⟨k, hk, d1⟩ := d1
  exact ⟨k, truV_rep r1 p1 hk, (q.mono r1 x1).here r1 d1 (.bl _)⟩
theorem e_ifx {e0 : Expr} (hc : PT X e0 (tT A X.K W dt')) (ha : PE X a (tE A X.K W da)) (hb : PE X b (tE A X.K W db)) :
    PE X (.IfExp e0 a b pos) (tE A X.K W fun env h Q Xm => dt' env h (fun k h1 => if k = true then da env h1 Q Xm else db env h1 Q Xm) Xm) := by
  refine PE.weak (pe_ifExp hc ha hb) fun σ H Q ⟨ρ, env, h, Qm, Xm, r, e, d, q, x⟩ => ?_
  refine ⟨ρ, env, h, _, Xm, r, e, d, fun k h1 d1 ρ1 H1 x1 r1 => ?_, x⟩
  cases k with
  | true => exact ⟨ρ1, env, h1, _, Xm, r1, e.mono r x1, d1, q.mono r1 x1, x.mono r1 x1⟩
  | false => exact ⟨ρ1, env, h1, _, Xm, r1, e.mono r x1, d1, q.mono r1 x1, x.mono r1 x1⟩
theorem e_idx (hs : PlainIx b) (ha : PE X a (tE A X.K W da)) (hb : PE X b (tE A X.K W db)) : PE X (.Subscript a b pos) (tE A X.K W fun env h Q Xm => da env h (fun x h1 => db env h1 (fun y h2 => idxR x y h2 Q) Xm) Xm) := by
  refine PE.weak (pe_ix (ix_all (A := A)) ha hb hs) fun σ H Q ⟨ρ, env, h, Qm, Xm, r, e, d, q, x⟩ => ?_
  refine ⟨ρ, env, h, _, Xm, r, e, d, q_then r e x fun v h1 ρ1 H1 v1 d1 x1 r1 e1 X1 p1 => ?_, x⟩
  refine ⟨ρ1, env, h1, _, Xm, r1, e1, d1, q_then r1 e1 X1 fun u h2 ρ2 H2 u2 d2 x2 r2 e2 X2 p2 => ?_, X1⟩
  exact ⟨ρ2, h2, v, u, Qm, r2, p1.mono r1 x2, p2, d2, (q.mono r1 x1).mono r2 x2⟩
variable {lo hi : Option Expr} {dl dh : Env → MH → (Option Int → MH → Prop) → (Exn → MH → Prop) → Prop} {p2 : Pos}
theorem o_no : PO X none (tOp A X.K W fun env h Q _ => Q none h) := PO.weak po_none fun σ H Q ⟨ρ, env, h, Qm, Xm, r, e, d, q, x⟩ => q none h d ρ H .refl r
theorem o_so (ha : PE X a (tE A X.K W da)) : PO X (some a) (tOp A X.K W fun env h Q Xm => da env h (fun v h1 => ∃ i, v = .int i ∧ Q (some i) h1) Xm) := by
  refine PO.weak (po_some ha) fun σ H Q ⟨ρ, env, h, Qm, Xm, r, e, d, q, x⟩ => ?_
  refine ⟨ρ, env, h, _, Xm, r, e, d, q_then r e x fun v h1 ρ1 H1 v1 d1 x1 r1 e1 X1 p1 => ?_, x⟩
  obtain ⟨i, rfl, d1⟩ := d1
  cases p1
  exact ⟨i, rfl, q _ h1 d1 ρ1 H1 x1 r1⟩
theorem e_slc (ha : PE X a (tE A X.K W da)) (hl : PO X lo (tOp A X.K W dl)) (hu : PO X hi (tOp A X.K W dh)) :
    PE X (.Subscript a (.Slice lo hi none p2) pos) (tE A X.K W fun env h Q Xm => da env h (fun x h1 => dl env h1 (fun l h2 => dh env h2 (fun u h3 => slcR x l u h3 Q) Xm) Xm) Xm) := by
  refine PE.weak (pe_slice (sl_all (A := A)) ha hl hu) fun σ H Q ⟨ρ, env, h, Qm, Xm, r, e, d, q, x⟩ => ?_
  refine ⟨ρ, env, h, _, Xm, r, e, d, q_then r e x fun v h1 ρ1 H1 v1 d1 x1 r1 e1 X1 p1 => ?_, x⟩
  refine ⟨ρ1, env, h1, _, Xm, r1, e1, d1, fun l h2 d2 ρ2 H2 x2 r2 => ?_, X1⟩
  refine ⟨ρ2, env, h2, _, Xm, r2, e1.mono r1 x2, d2, fun u h3 d3 ρ3 H3 x3 r3 => ?_, X1.mono r2 x2⟩
  exact ⟨ρ3, h3, v, Qm, r3, (p1.mono r1 x2).mono r2 x3, d3, ((q.mono r1 x1).mono r2 x2).mono r3 x3⟩
/-! arguments -/
variable {n : Nat} {es : List Expr} {ds : Env → MH → (List M → MH → Prop) → (Exn → MH → Prop) → Prop}
theorem a_nil : PA X [] (tAs A X.K 0 W fun env h Q _ => Q [] h) := PA.weak pa_nil fun σ H Q ⟨ρ, env, h, Qm, Xm, r, e, d, q, x⟩ => q [] h d rfl ρ H [] .refl r .nil
theorem a_cons (hs : starEach (a :: es) X.env = (false, eval a X.env) :: starEach es X.env) (ha : PE X a (tE A X.K W da)) (hr : PA X es (tAs A X.K n W ds)) :
    PA X (a :: es) (tAs A X.K (n + 1) W fun env h Q Xm => da env h (fun v h1 => ds env h1 (fun vs h2 => Q (v :: vs) h2) Xm) Xm) := by
  refine PA.weak (pa_cons ha hr hs) fun σ H Q ⟨ρ, env, h, Qm, Xm, r, e, d, q, x⟩ => ?_
  refine ⟨ρ, env, h, _, Xm, r, e, d, q_then r e x fun v h1 ρ1 H1 v1 d1 x1 r1 e1 X1 p1 => ?_, x⟩
  refine ⟨ρ1, env, h1, _, Xm, r1, e1, d1, fun vs h2 d2 l2 ρ2 H2 v2 x2 r2 p2 => ?_, X1⟩
  exact q _ h2 d2 (by simp [l2]) ρ2 H2 _ (x1.trans r1 x2) r2 (.cons (p1.mono r1 x2) p2)
theorem e_tup {k : Nat} (hs : n ≤ sizeLine) (ha : PA X es (tAs A X.K n W ds)) : PE X (.Tuple es k pos) (tE A X.K W fun env h Q Xm => ds env h (fun vs h1 => Q (.tup vs) h1) Xm) := by
  refine ⟨fun pins s σ H Q I ⟨ρ, env, h, Qm, Xm, r, e, d, q, x⟩ => ?_⟩
  refine wpAny_Tuple_spliced (thn (ha.run pos pins s σ H (fun vs' H1 => vs'.length ≤ sizeLine ∧ ∀ p o, H1 p = none → o.dict = none → Q (.ref p) (upd H1 p (.frz o (.tup vs')))) I ⟨ρ, env, h, _, Xm, r, e, d, fun vs h1 d1 l1 ρ1 H1 v1 x1 r1 p1 =>
    ⟨by rw [← p1.length, l1]; exact hs, fun p o hp hd => (q.mono r1 x1).newT r1 d1 p1 hp hd⟩, x⟩) fun us s1 ⟨xs, H1, I1, rv, z, q1⟩ => ⟨by rw [← rv.length]; exact z, ?_⟩)
  exact laidP (tk := s1.toks) I1 rv z q1
theorem e_lst (hs : n ≤ sizeLine) (ha : PA X es (tAs A X.K n W ds)) : PE X (.List es pos) (tE A X.K W fun env h Q Xm => ds env h (fun vs h1 => Q (.ref h1.length) (h1 ++ [.lst vs])) Xm) := by
  refine PE.weak (pe_lst ha) fun σ H Q ⟨ρ, env, h, Qm, Xm, r, e, d, q, x⟩ => ?_
  refine ⟨ρ, env, h, _, Xm, r, e, d, fun vs h1 d1 l1 ρ1 H1 v1 x1 r1 p1 => ?_, x⟩
  exact ⟨by rw [← p1.length, l1]; exact hs, fun p hp => (q.mono r1 x1).newL r1 d1 p1 hp⟩
/-! calls -/
variable {f x : Str} {p : Pos}
theorem e_prm {T : Bool} {id : String} {pm : Pm} (hc : CallR X (if T then .type id else .builtin id) (rP A X.K pm)) (hg : Gl X f) (hm : X.mg f = none) (hv : bootBuiltins f = some (if T then .type id else .builtin id)) (ha : PA X (e :: es) (tAs A X.K n W ds))
    (hn : f ≠ "__name__") (hdb : (f == ("__debug__" : Str)) = false) (he : starEach (e :: es) X.env = (false, eval e X.env) :: starEach es X.env) (hpl : (backTo pos (starEach es X.env)).any (·.1) = false) :
    PE X (.Call (.Name f p) (e :: es) [] pos) (tE A X.K W fun env h Q Xm => ds env h (fun vs h1 => pmR pm vs h1 Q) Xm) := by
  have fin : ∀ σ H Q, tE A X.K W (fun env h Q Xm => ds env h (fun vs h1 => pmR pm vs h1 Q) Xm) σ H Q → tCB (rP A X.K pm) (tAs A X.K n W ds) σ H Q := fun σ H Q ⟨ρ, env, h, Qm, Xm, r, e, d, q, x⟩ =>
    ⟨ρ, env, h, _, Xm, r, e, d, fun vs h1 d1 _ ρ1 H1 v1 x1 r1 p1 => ⟨ρ1, h1, vs, Qm, r1, p1, d1, q.mono r1 x1⟩, x⟩
  cases T with
  | true => exact PE.weak (pe_callTy hc hg hm hv ha hn hdb he hpl) fin
  | false => exact PE.weak (pe_callB hc hg hm hv ha hn hdb he hpl) fin
/-- a def of the text -/
structure FnAt (A : Ads) (X : Cx) (k : Nat) (f : Addr) (np : Nat) (φ : FS) : Prop where
  kp : PySem.W.keepIn X.K (.ref f) = true
  ok : ∃ fd ps, Binds X.K fd ps [] ∧ FnOk X.prog X.w X.K X.mg X.base (L2.CX X.prog X.w) k f fd ps (spM A X.K np φ)
theorem passW (tk : Takes X W) (σ : L2.St) : PassesAt (L2.CX X.prog X.w) X σ (fun c d H => W c d σ H) := passAt tk σ
theorem e_call {np k : Nat} {fa : Addr} {φ : FS} (F : FnAt A X k fa np φ) (hr : Room k X.A) (hg : Gl X f) (hm : X.mg f = some (.ref fa)) (tk : Takes X W) (hl : n = np)
    (ha : PA X (e :: es) (tAs A X.K n W ds)) (hdb : (f == ("__debug__" : Str)) = false) (he : starEach (e :: es) X.env = (false, eval e X.env) :: starEach es X.env) (hpl : (backTo pos (starEach es X.env)).any (·.1) = false) :
    PE X (.Call (.Name f p) (e :: es) [] pos) (tE A X.K W fun env h Q Xm => ds env h (fun vs h1 => φ vs h1 Q Xm) Xm) := by
  obtain ⟨fd, ps, hb, ok⟩ := F.ok
  refine PE.weak (pe_callSD (dvs := []) ok hr hg hm F.kp hb .nil (E := fun σ c d H => W c d σ H) (passW tk) ha hdb he hpl) fun σ H Q ⟨ρ, env, h, Qm, Xm, r, e, d, q, x⟩ => ?_
  refine ⟨ρ, env, h, _, Xm, r, e, d, fun vs h1 d1 l1 ρ1 H1 v1 x1 r1 p1 => ?_, x⟩
  show spM A X.K np φ (v1 ++ []) H1 Q _
  rw [List.append_nil]
  exact ⟨by rw [← p1.length, l1]; exact hl, ρ1, h1, vs, Qm, Xm, r1, p1, d1, q.mono r1 x1, x.mono r1 x1⟩
end
end Wg
open PySem PySem.Spec PyProof.Rows
set_option linter.all false
set_option Elab.async false
namespace Wg
open L2
/-! ### what is walked -/
section
variable {A : Ads} {K : PySem.W.Frag} {ρ : List Addr} {h : MH} {H : Hp} {a : Addr} {xs : List M} {ys : List V}
theorem it_list {k : Nat} (r : HR K A.ca ρ h H) (hx : getL h k = some xs) (ea : ρ[k]? = some a) : ItOK A K (Itl K a) xs (fun h' => getL h' k = some xs) ρ H where
  go := fun i ρ1 h1 H1 r1 x1 c hi => by
    obtain ⟨us, e1, q1⟩ := r1.lst (getL_lst c) (x1.ix ea)
    obtain ⟨y, e2, _⟩ := q1.get (List.getElem?_eq_getElem hi)
    exact ⟨us, y, .of e1, e2⟩
  stop := fun i ρ1 h1 H1 r1 x1 c hi => by
    obtain ⟨us, e1, q1⟩ := r1.lst (getL_lst c) (x1.ix ea)
    exact ⟨us, .of e1, by rw [← q1.length]; exact hi⟩
  yld := fun i ρ1 h1 H1 x H' r1 x1 c hi y => by
    obtain ⟨rfl, y⟩ := y
    obtain ⟨us, e1, q1⟩ := r1.lst (getL_lst c) (x1.ix ea)
    obtain ⟨z, e2, q2⟩ := q1.get (List.getElem?_eq_getElem hi)
    have := y us (.of e1)
    rw [e2] at this; cases this
    exact ⟨r1, .refl, _, List.getElem?_eq_getElem hi, q2⟩
theorem it_tup (r : HR K A.ca ρ h H) (s : SqT K H a ys) (q : Reps K ρ H xs ys) : ItOK A K (Itt K a) xs (fun _ => True) ρ H where
  go := fun i ρ1 h1 H1 r1 x1 c hi => by
    obtain ⟨y, e2, _⟩ := q.get (List.getElem?_eq_getElem hi)
    exact ⟨ys, y, x1.sqT r s, e2⟩
  stop := fun i ρ1 h1 H1 r1 x1 c hi => ⟨ys, x1.sqT r s, by rw [← q.length]; exact hi⟩
  yld := fun i ρ1 h1 H1 x H' r1 x1 c hi y => by
    obtain ⟨rfl, y⟩ := y
    obtain ⟨z, e2, q2⟩ := (q.mono r x1).get (List.getElem?_eq_getElem hi)
    have := y ys (x1.sqT r s)
    rw [e2] at this; cases this
    exact ⟨r1, .refl, _, List.getElem?_eq_getElem hi, q2⟩
theorem SqF.ext {ρ1 : List Addr} {H1 : Hp} (r : HR K A.ca ρ h H) (x1 : Ext ρ H ρ1 H1) (s : SqF K H a ys) : SqL K H1 a ys := (x1.sqF r s).sq
theorem zip_get {xs ys : List M} {i : Nat} (h : i < (zipL xs ys).length) : ∃ x y, xs[i]? = some x ∧ ys[i]? = some y ∧ (zipL xs ys)[i]? = some (.tuq [x, y]) := by
  unfold zipL at h ⊢
  rw [List.length_map, List.length_zip] at h
  have h1 : i < xs.length := by omega
  have h2 : i < ys.length := by omega
  exact ⟨xs[i], ys[i], List.getElem?_eq_getElem h1, List.getElem?_eq_getElem h2, by rw [List.getElem?_map, List.getElem?_eq_getElem (by rw [List.length_zip]; omega), List.getElem_zip]; rfl⟩
theorem it_zipT {b : Addr} {xs' : List M} {ys' : List V} (r : HR K A.ca ρ h H) (s : SqT K H a ys) (q : Reps K ρ H xs ys) (s' : SqT K H b ys') (q' : Reps K ρ H xs' ys') : ItOK A K (RZ.ItzT K a b) (zipL xs xs') (fun _ => True) ρ H where
  go := fun i ρ1 h1 H1 r1 x1 c hi => by
    obtain ⟨x, y, e1, e2, _⟩ := zip_get hi
    obtain ⟨u, e3, _⟩ := q.get e1
    obtain ⟨w, e4, _⟩ := q'.get e2
    exact ⟨ys, ys', u, w, x1.sqT r s, x1.sqT r s', e3, e4⟩
  stop := fun i ρ1 h1 H1 r1 x1 c hi => by
    refine ⟨ys, ys', x1.sqT r s, x1.sqT r s', ?_⟩
    unfold zipL at hi
    rw [List.length_map, List.length_zip] at hi
    rw [← q.length, ← q'.length]
    omega
  yld := fun i ρ1 h1 H1 z H' r1 x1 c hi y => by
    obtain ⟨x, y', e1, e2, e5⟩ := zip_get hi
    obtain ⟨T, u, w, rfl, hT, rfl, k1, k2⟩ := y
    obtain ⟨u', e3, ru⟩ := (q.mono r x1).get e1
    obtain ⟨w', e4, rw'⟩ := (q'.mono r x1).get e2
    have z1 := k1 ys (x1.sqT r s)
    have z2 := k2 ys' (x1.sqT r s')
    rw [e3] at z1; cases z1
    rw [e4] at z2; cases z2
    obtain ⟨r2, x2⟩ := r1.more (u := .tup [u, w]) hT
    exact ⟨r2, x2, _, e5, .tuq (.of upd_same) (.cons (ru.mono r1 x2) (.cons (rw'.mono r1 x2) .nil))⟩
theorem it_zipL {k k' : Nat} {b : Addr} {xs' : List M} (r : HR K A.ca ρ h H) (hx : getL h k = some xs) (ea : ρ[k]? = some a) (hx' : getL h k' = some xs') (eb : ρ[k']? = some b) :
    ItOK A K (Itz K a b) (zipL xs xs') (fun h' => getL h' k = some xs ∧ getL h' k' = some xs') ρ H where
  go := fun i ρ1 h1 H1 r1 x1 c hi => by
    obtain ⟨x, y, e1, e2, _⟩ := zip_get hi
    obtain ⟨us, f1, q1⟩ := r1.lst (getL_lst c.1) (x1.ix ea)
    obtain ⟨ws, f2, q2⟩ := r1.lst (getL_lst c.2) (x1.ix eb)
    obtain ⟨u, e3, _⟩ := q1.get e1
    obtain ⟨w, e4, _⟩ := q2.get e2
    exact ⟨us, ws, u, w, .of f1, .of f2, e3, e4⟩
  stop := fun i ρ1 h1 H1 r1 x1 c hi => by
    obtain ⟨us, f1, q1⟩ := r1.lst (getL_lst c.1) (x1.ix ea)
    obtain ⟨ws, f2, q2⟩ := r1.lst (getL_lst c.2) (x1.ix eb)
    refine ⟨us, ws, .of f1, .of f2, ?_⟩
    unfold zipL at hi
    rw [List.length_map, List.length_zip] at hi
    rw [← q1.length, ← q2.length]
    omega
  yld := fun i ρ1 h1 H1 z H' r1 x1 c hi y => by
    obtain ⟨x, y', e1, e2, e5⟩ := zip_get hi
    obtain ⟨us, f1, q1⟩ := r1.lst (getL_lst c.1) (x1.ix ea)
    obtain ⟨ws, f2, q2⟩ := r1.lst (getL_lst c.2) (x1.ix eb)
    obtain ⟨T, u, w, rfl, hT, rfl, k1, k2⟩ := y
    obtain ⟨u', e3, ru⟩ := q1.get e1
    obtain ⟨w', e4, rw'⟩ := q2.get e2
    have z1 := k1 us (.of f1)
    have z2 := k2 ws (.of f2)
    rw [e3] at z1; cases z1
    rw [e4] at z2; cases z2
    obtain ⟨r2, x2⟩ := r1.more (u := .tup [u, w]) hT
    exact ⟨r2, x2, _, e5, .tuq (.of upd_same) (.cons (ru.mono r1 x2) (.cons (rw'.mono r1 x2) .nil))⟩
theorem it_fz (r : HR K A.ca ρ h H) (s : SqF K H a ys) (q : Reps K ρ H xs ys) : ItOK A K (Itl K a) xs (fun _ => True) ρ H where
  go := fun i ρ1 h1 H1 r1 x1 c hi => by
    obtain ⟨y, e2, _⟩ := q.get (List.getElem?_eq_getElem hi)
    exact ⟨ys, y, s.ext r x1, e2⟩
  stop := fun i ρ1 h1 H1 r1 x1 c hi => ⟨ys, s.ext r x1, by rw [← q.length]; exact hi⟩
  yld := fun i ρ1 h1 H1 x H' r1 x1 c hi y => by
    obtain ⟨rfl, y⟩ := y
    obtain ⟨z, e2, q2⟩ := (q.mono r x1).get (List.getElem?_eq_getElem hi)
    have := y ys (s.ext r x1)
    rw [e2] at this; cases this
    exact ⟨r1, .refl, _, List.getElem?_eq_getElem hi, q2⟩
theorem it_str {z : List Nat} : ItOK A K (Its (mkS z)) (z.map fun c => .str [c]) (fun _ => True) ρ H where
  go := fun i ρ1 h1 H1 r1 x1 c hi => by
    show i < (mkS z).cps.size
    simpa [mkS] using hi
  stop := fun i ρ1 h1 H1 r1 x1 c hi => by
    show (mkS z).cps.size ≤ i
    simpa [mkS] using hi
  yld := fun i ρ1 h1 H1 x H' r1 x1 c hi y => by
    obtain ⟨rfl, c, hc, rfl⟩ := y
    refine ⟨r1, .refl, .str [c], ?_, .str [c]⟩
    have : z[i]? = some c := by simpa [mkS] using hc
    rw [List.getElem?_map, this]; rfl
theorem it_rng {lo hi : Int} {n : Nat} (hn : n = (hi - lo).toNat) : ItOK A K (Itr lo n) (rngL lo hi) (fun _ => True) ρ H where
  go := fun i ρ1 h1 H1 r1 x1 c hl => by
    show i < n
    simpa [rngL, hn] using hl
  stop := fun i ρ1 h1 H1 r1 x1 c hl => by
    show n ≤ i
    simpa [rngL, hn] using hl
  yld := fun i ρ1 h1 H1 x H' r1 x1 c hl y => by
    obtain ⟨rfl, rfl⟩ := y
    refine ⟨r1, .refl, .int (lo + (i : Nat)), ?_, .int _⟩
    have : i < (hi - lo).toNat := by simpa [rngL] using hl
    simp only [rngL, List.getElem?_map, List.getElem?_range this]
    rfl
theorem rngL_length (a b : Int) : (rngL a b).length = (b - a).toNat := by simp [rngL]
end
section
variable {A : Ads} {X : Cx} {W : WX} {a b l tg : Expr} {da db : WE} {es : List Expr} {ds : Env → MH → (List M → MH → Prop) → (Exn → MH → Prop) → Prop}
/-- over a value -/
theorem i_on (hl : PE X l (tE A X.K W da)) : PI X tg l (tIt A X.K W fun env h K Xm => da env h (fun v h1 => onR v h1 K) Xm) := by
  refine ⟨fun pins s σ H R I ⟨ρ, env, h, Km, Xm, r, e, d, q, x⟩ => ?_⟩
  refine thn (hl.run pins s σ H (fun v' H1 => ∃ v h1 ρ1, onR v h1 Km ∧ Ext ρ H ρ1 H1 ∧ HR X.K A.ca ρ1 h1 H1 ∧ Rep X.K ρ1 H1 v v') I
    ⟨ρ, env, h, _, Xm, r, e, d, fun v h1 d1 ρ1 H1 v1 x1 r1 p1 => ⟨v, h1, ρ1, d1, x1, r1, p1⟩, x⟩) fun v s1 ⟨x', H1, I1, rv, v, h1, ρ1, d1, x1, r1, p1⟩ => ?_
  unfold onR at d1
  split at d1
  · cases p1 with | tup sa qa =>
    cases rv
    replace sa := sa.sq
    obtain ⟨its, rv, p, hz⟩ := I1.tuple sa
    refine wpAny_pyIter_tuple (show s1.heap.IsTuple _ its.toArray from p) ?_
    refine ⟨s1.heap.objs.size, [s1.heap.objs.size], _, _, H1, rfl, I1.kept (t' := s1.toks) fun b o e => Heap.get?_push_of_some _ e, turn_tuple _ _, ⟨_, Heap.get?_push_size _ rfl, rfl, rfl⟩, fun b hb => ?_,
      q _ _ h1 d1 ρ1 H1 _ x1 r1 (by rw [qa.length]; exact hz) (it_tup r1 sa qa)⟩
    have e : b = s1.heap.objs.size := by simpa using hb
    subst e
    exact I1.fpOk (Nat.le_refl _) (I1.hok.fresh (Nat.le_refl _))
  · cases p1 with | fz sa qa =>
    cases rv
    obtain ⟨its, rv, p, hz⟩ := I1.list sa.sq
    refine wpAny_pyIter_list p.isList ?_
    refine ⟨s1.heap.objs.size, [s1.heap.objs.size], _, _, H1, rfl, I1.kept (t' := s1.toks) fun b o e => Heap.get?_push_of_some _ e, turn_list _ _, ⟨_, Heap.get?_push_size _ rfl, rfl, rfl⟩, fun b hb => ?_,
      q _ _ h1 d1 ρ1 H1 _ x1 r1 (by rw [qa.length]; exact hz) (it_fz r1 sa qa)⟩
    have e : b = s1.heap.objs.size := by simpa using hb
    subst e
    exact I1.fpOk (Nat.le_refl _) (I1.hok.fresh (Nat.le_refl _))
  · cases p1
    obtain ⟨hz, d1⟩ := d1
    obtain ⟨t, rfl⟩ := rv
    have qq := q _ _ h1 d1 ρ1 H1 _ x1 r1 (by simpa using hz) it_str
    cases ha : (mkS _).cps.all (· < 128)
    · exact wpAny_pyIter_wide ha (pi_one (tk := s1.toks) I1 _ (turn_str _ _ t "str_iterator" (.inr rfl)) ⟨_, Heap.get?_push_size _ rfl, rfl, rfl⟩ qq)
    · exact wpAny_pyIter_ascii ha (pi_one (tk := s1.toks) I1 _ (turn_str _ _ t "str_ascii_iterator" (.inl rfl)) ⟨_, Heap.get?_push_size _ rfl, rfl, rfl⟩ qq)
  · cases p1 with | ref ea =>
    cases rv
    obtain ⟨xs, hx, d1⟩ := d1
    obtain ⟨us, e1, q1⟩ := r1.lst (getL_lst hx) ea
    obtain ⟨its, rv, p, hz⟩ := I1.list (SqL.of e1)
    refine wpAny_pyIter_list p.isList ?_
    refine ⟨s1.heap.objs.size, [s1.heap.objs.size], _, _, H1, rfl, I1.kept (t' := s1.toks) fun b o e => Heap.get?_push_of_some _ e, turn_list _ _, ⟨_, Heap.get?_push_size _ rfl, rfl, rfl⟩, fun b hb => ?_,
      q _ _ h1 d1 ρ1 H1 _ x1 r1 (by rw [q1.length]; exact hz) (it_list r1 hx ea)⟩
    have e : b = s1.heap.objs.size := by simpa using hb
    subst e
    exact I1.fpOk (Nat.le_refl _) (I1.hok.fresh (Nat.le_refl _))
  · exact d1.elim
theorem i_rng1 {p pos : Pos} (hg : Gl X "range") (hm : X.mg "range" = none) (hs : starEach [a] X.env = [(false, eval a X.env)]) (ha : PA X [a] (tAs A X.K 1 W ds)) :
    PI X tg (.Call (.Name "range" p) [a] [] pos) (tIt A X.K W fun env h K Xm => ds env h (fun vs h1 => rngR vs h1 K) Xm) := by
  refine PI.weak (pi_range1 hg hm ha hs) fun σ H R ⟨ρ, env, h, Km, Xm, r, e, d, q, x⟩ => ?_
  refine ⟨ρ, env, h, _, Xm, r, e, d, fun vs h1 d1 d0 ρ1 H1 v1 x1 r1 p1 => ?_, x⟩
  replace d1 : rngR vs h1 Km := d1
  unfold rngR at d1
  split at d1
  · cases p1 with | cons q0 t =>
    cases t
    cases q0
    obtain ⟨⟨k1, k2, k3, k4, k5⟩, d1⟩ := d1
    rename_i b
    exact ⟨b, rfl, k3, k4, q _ _ h1 d1 ρ1 H1 _ x1 r1 (by rw [rngL_length]; exact k5) (it_rng (by simp))⟩
  · simp at d0
  · exact d1.elim
theorem i_rng2 {p pos : Pos} (hg : Gl X "range") (hm : X.mg "range" = none) (hs : starEach [a, b] X.env = [(false, eval a X.env), (false, eval b X.env)]) (hs2 : starEach [b] X.env = [(false, eval b X.env)])
    (ha : PA X [a, b] (tAs A X.K 2 W ds)) :
    PI X tg (.Call (.Name "range" p) [a, b] [] pos) (tIt A X.K W fun env h K Xm => ds env h (fun vs h1 => rngR vs h1 K) Xm) := by
  refine PI.weak (pi_range2 hg hm ha hs hs2) fun σ H R ⟨ρ, env, h, Km, Xm, r, e, d, q, x⟩ => ?_
  refine ⟨ρ, env, h, _, Xm, r, e, d, fun vs h1 d1 d0 ρ1 H1 v1 x1 r1 p1 => ?_, x⟩
  replace d1 : rngR vs h1 Km := d1
  unfold rngR at d1
  split at d1
  · simp at d0
  · cases p1 with | cons q0 t =>
    cases t with | cons q1 t =>
    cases t
    cases q0; cases q1
    obtain ⟨⟨k1, k2, k3, k4, k5⟩, d1⟩ := d1
    rename_i b c
    exact ⟨b, c, rfl, ⟨k1, k2, k3, k4⟩, q _ _ h1 d1 ρ1 H1 _ x1 r1 (by rw [rngL_length]; exact k5) (it_rng rfl)⟩
  · exact d1.elim
theorem i_zip {p pos tpos : Pos} {elts : List Expr} {kk : Nat} (hg : Gl X "zip") (hm : X.mg "zip" = none) (hs : starEach [a, b] X.env = (false, eval a X.env) :: starEach [b] X.env) (hpl : (backTo pos (starEach [b] X.env)).any (·.1) = false)
    (hsb : starEach [b] X.env = (false, eval b X.env) :: starEach [] X.env) (ha : PE X a (tE A X.K W da)) (hb : PE X b (tE A X.K W db)) :
    PI X (.Tuple elts kk tpos) (.Call (.Name "zip" p) [a, b] [] pos) (tIt A X.K W fun env h K Xm => da env h (fun v h1 => db env h1 (fun u h2 => zipR v u h2 K) Xm) Xm) := by
  refine PI.weak (RZ.pi_zipA hg hm (pa_cons ha (pa_cons hb pa_nil hsb) hs) hs hpl) fun σ H R ⟨ρ, env, h, Km, Xm, r, e, d, q, x⟩ => ?_
  refine ⟨ρ, env, h, _, Xm, r, e, d, q_then r e x fun v h1 ρ1 H1 v1 d1 x1 r1 e1 X1 p1 => ?_, x⟩
  refine ⟨ρ1, env, h1, _, Xm, r1, e1, d1, q_then r1 e1 X1 fun u h2 ρ2 H2 u2 d2 x2 r2 e2 X2 p2 => ?_, X1⟩
  have p1' := p1.mono r1 x2
  have xx := x1.trans r1 x2
  unfold zipR at d2
  split at d2
  · cases p1' with | tup sa qa =>
    cases p2 with | tup sb qb =>
    exact ⟨_, _, _, _, rfl, .inr ⟨sa.sq, sb.sq, q _ _ h2 d2.2 ρ2 H2 _ xx r2 d2.1 (it_zipT r2 sa.sq qa sb.sq qb)⟩⟩
  · cases p1' with | ref ea =>
    cases p2 with | ref eb =>
    obtain ⟨xs, ys, hx, hy, hz, d2⟩ := d2
    obtain ⟨us, f1, q1⟩ := r2.lst (getL_lst hx) ea
    obtain ⟨ws, f2, q2⟩ := r2.lst (getL_lst hy) eb
    exact ⟨_, _, _, _, rfl, .inl ⟨.of f1, .of f2, q _ _ h2 d2 ρ2 H2 _ xx r2 hz (it_zipL r2 hx ea hy eb)⟩⟩
  · exact d2.elim
end
end Wg
open PySem PySem.Spec PyProof.Rows
set_option linter.all false
set_option Elab.async false
namespace Wg
open L2
/-! ### methods, isinstance, comprehensions -/
def mtT : Mt → String
  | .join => "str"
  | .dget => "dict"
  | _ => "list"
def mtId : Mt → String
  | .join => "str.join"
  | .append => "list.append"
  | .extend => "list.extend"
  | .pop => "list.pop"
  | .dget => "dict.get"
def mtNm : Mt → Str
  | .join => "join"
  | .append => "append"
  | .extend => "extend"
  | .pop => "pop"
  | .dget => "get"
section
variable {n : Nat} {A : Ads} {X : Cx} {W : WX} {a b l tg o e : Expr} {da db dob : WE} {es : List Expr} {ds : Env → MH → (List M → MH → Prop) → (Exn → MH → Prop) → Prop} {apos cpos pos : Pos} {nm : Str} {T id : String} {mt : Mt}
theorem mtTy_ok {ρ : List Addr} {h : MH} {H : Hp} {x : M} {v : V} (r : HR X.K A.ca ρ h H) (p : Rep X.K ρ H x v) (m : mtTy mt x h = true) : tyV X.K (mtT mt) v H := by
  have lst : ∀ k, x = .ref k → (getL h k).isSome = true → tyV X.K "list" v H := fun k e m' => by
    subst e
    cases p with | ref ea =>
    obtain ⟨xs, hx⟩ := Option.isSome_iff_exists.mp m'
    obtain ⟨us, e1, q1⟩ := r.lst (getL_lst hx) ea
    exact .inl ⟨rfl, us, .of e1⟩
  cases mt <;> cases x <;> simp only [mtTy, Bool.false_eq_true] at m
  · cases p; rfl
  · exact lst _ rfl m
  · exact lst _ rfl m
  · exact lst _ rfl m
  · cases p with | ref ea =>
    obtain ⟨xs, hx⟩ := Option.isSome_iff_exists.mp m
    obtain ⟨us, e1, q1⟩ := r.dct (getD_dct hx) ea
    exact .inr (.inr (.inl ⟨rfl, .inl ⟨us, e1⟩⟩))
theorem mt_all (hu : X.A.units + 1 < cLine) : MtR X (mtId mt) (rM A X.K mt) := by
  cases mt
  · exact mtok_joinM
  · exact mtok_appendM
  · exact mtok_extendM
  · exact mtok_popM
  · exact mtok_dgetM hu
theorem mt_slot : PlainAttrs (mtT mt) ∧ Slot (mtT mt) (mtNm mt) (mtId mt) ∧ typeOf (.builtin (mtId mt)) = pure (.type "method_descriptor") := by
  cases mt
  · exact ⟨F.plainAttrs_str, F.slot_str_join, F.type_str_join⟩
  · exact ⟨F.plainAttrs_list, F.slot_list_append, F.type_list_append⟩
  · exact ⟨F.plainAttrs_list, F.slot_list_extend, F.type_list_extend⟩
  · exact ⟨F.plainAttrs_list, F.slot_list_pop, F.type_list_pop⟩
  · exact ⟨F.plainAttrs_dict, F.slot_dict_get, F.type_dict_get⟩
theorem e_mth0 (hu : X.A.units + 1 < cLine) (ho : PE X o (tE A X.K W dob)) (hbase : attributeBase o (mtNm mt) X.env (eval o X.env) = eval o X.env) (hline : (apos.endLine == cpos.line) = true) :
    PE X (.Call (.Attribute o (mtNm mt) apos) [] [] cpos) (tE A X.K W fun env h Q Xm => dob env h (fun x h1 => mtTy mt x h1 = true ∧ mtR mt x [] h1 Q) Xm) := by
  obtain ⟨s1, s2, s3⟩ := mt_slot (mt := mt)
  refine PE.weak (pe_bm0 s1 s2 s3 (mt_all (A := A) hu) ho hbase hline) fun σ H Q ⟨ρ, env, h, Qm, Xm, r, e, d, q, x⟩ => ?_
  refine ⟨ρ, env, h, _, Xm, r, e, d, q_then r e x fun v h1 ρ1 H1 v1 d1 x1 r1 e1 X1 p1 => ?_, x⟩
  exact ⟨mtTy_ok r1 p1 d1.1, ρ1, h1, v, [], Qm, r1, p1, .nil, d1.2, q.mono r1 x1⟩
theorem e_mth (hu : X.A.units + 1 < cLine) (ho : PE X o (tE A X.K W dob)) (ha : PA X (e :: es) (tAs A X.K n W ds)) (hbase : attributeBase o (mtNm mt) X.env (eval o X.env) = eval o X.env) (hline : (apos.endLine == cpos.line) = true)
    (hfew : ((backTo cpos (starEach (e :: es) X.env)).all (fun x => !x.1) && (backToKw cpos (keywordEach [] X.env)).all (fun x => x.1.isSome)
      && decide ((e :: es).length + ([] : List Keyword).length + (if ([] : List Keyword).isEmpty then 0 else 1) < 30)) = true)
    (hs : starEach (e :: es) X.env = (false, eval e X.env) :: starEach es X.env) (hplain : (backTo cpos (starEach es X.env)).any (·.1) = false) :
    PE X (.Call (.Attribute o (mtNm mt) apos) (e :: es) [] cpos) (tE A X.K W fun env h Q Xm => dob env h (fun x h1 => mtTy mt x h1 = true ∧ ds env h1 (fun vs h2 => mtR mt x vs h2 Q) Xm) Xm) := by
  obtain ⟨s1, s2, s3⟩ := mt_slot (mt := mt)
  refine PE.weak (pe_bm s1 s2 s3 (mt_all (A := A) hu) ho ha hbase hfew hline hs hplain) fun σ H Q ⟨ρ, env, h, Qm, Xm, r, e, d, q, x⟩ => ?_
  refine ⟨ρ, env, h, _, Xm, r, e, d, q_then r e x fun v h1 ρ1 H1 v1 d1 x1 r1 e1 X1 p1 => ?_, x⟩
  refine ⟨mtTy_ok r1 p1 d1.1, ρ1, env, h1, _, Xm, r1, e1, d1.2, fun vs h2 d2 _ ρ2 H2 v2 x2 r2 p2 => ?_, X1⟩
  exact ⟨ρ2, h2, v, vs, Qm, r2, p1.mono r1 x2, p2, d2, (q.mono r1 x1).mono r2 x2⟩
/-! isinstance -/
def tyNm : Ty → String
  | .tuple => "tuple" | .str => "str" | .int => "int" | .bool => "bool" | .list => "list"
theorem kit_all (t : Ty) : kitB "NoneType" (tyNm t) = some false ∧ kitB "bool" (tyNm t) = some (t == .bool || t == .int) ∧ kitB "int" (tyNm t) = some (t == .int) ∧ kitB "str" (tyNm t) = some (t == .str) ∧
    kitB "tuple" (tyNm t) = some (t == .tuple) ∧ kitB "list" (tyNm t) = some (t == .list) := by
  cases t <;> decide +kernel
theorem isi_ok {K : PySem.W.Frag} {ρ : List Addr} {h : MH} {H : Hp} {x : M} {v : V} {t : Ty} {k : Bool} (r : HR K A.ca ρ h H) (p : Rep K ρ H x v) (m : isiV t h x = some k) : ∃ u, TyX K H v u ∧ PySem.W.kitOne K u (.type (tyNm t)) = some k := by
  obtain ⟨k1, k2, k3, k4, k5, k6⟩ := kit_all t
  cases p with
  | non => cases m; exact ⟨_, .base .non, kit_ty k1⟩
  | bl b => cases m; exact ⟨_, .base (.bl b), kit_ty k2⟩
  | int b => cases m; exact ⟨_, .base (.int b), kit_ty k3⟩
  | str b => cases m; exact ⟨_, .base (.str _), kit_ty k4⟩
  | tup s q =>
    cases m
    rcases s with ⟨o, s, _⟩ | ⟨o, its, n, s1, s2, _⟩
    · exact ⟨_, .fTuple s, kit_ty k5⟩
    · exact ⟨_, .kTuple s1 s2, kit_ty k5⟩
  | tuq s q => cases m
  | fz s q => cases m
  | ref ea =>
    simp only [isiV] at m
    split at m
    · rename_i hs
      cases m
      obtain ⟨xs, hx⟩ := Option.isSome_iff_exists.mp hs
      obtain ⟨us, e1, q1⟩ := r.lst (getL_lst hx) ea
      exact ⟨_, .base (.lst e1), kit_ty k6⟩
    · cases m
theorem e_isi {p p2 : Pos} {t : Ty} (hg : Gl X "isinstance") (hm : X.mg "isinstance" = none) (hg2 : Gl X (tyNm t)) (hm2 : X.mg (tyNm t) = none) (ha : PE X a (tE A X.K W da)) (hs : ∀ es, starEach (a :: es) X.env = (false, eval a X.env) :: starEach es X.env) :
    PE X (.Call (.Name "isinstance" p) [a, .Name (tyNm t) p2] [] pos) (tE A X.K W fun env h Q Xm => da env h (fun v h1 => ∃ b, isiV t h1 v = some b ∧ Q (.bl b) h1) Xm) := by
  have hb : bootBuiltins (tyNm t) = some (.type (tyNm t)) := by cases t <;> decide +kernel
  have hi : bootBuiltins "isinstance" = some (.builtin "isinstance") := by decide +kernel
  have hc : PE X (.Name (tyNm t) p2) (tC (.ty (tyNm t))) := pe_bltn hg2 hm2 hb rfl (by cases t <;> decide) (by cases t <;> decide)
  refine PE.weak (pe_callB call_isi hg hm hi (pa_cons ha (pa_cons hc pa_nil rfl) (hs _)) (by decide) (by decide) (hs _) rfl) fun σ H Q ⟨ρ, env, h, Qm, Xm, r, e, d, q, x⟩ => ?_
  refine ⟨ρ, env, h, _, Xm, r, e, d, q_then r e x fun v h1 ρ1 H1 v1 d1 x1 r1 e1 X1 p1 => ?_, x⟩
  obtain ⟨b, hb, d1⟩ := d1
  obtain ⟨u, h1, h2⟩ := isi_ok r1 p1 hb
  exact ⟨v1, _, u, _, b, rfl, .ty _, h1, h2, (q.mono r1 x1).here r1 d1 (.bl b)⟩
end
end Wg
open PySem PySem.Spec PyProof.Rows
set_option linter.all false
set_option Elab.async false
namespace Wg
open L2
/-! ### targets -/
def gAll : List Nat → TGs
  | [] => gNil
  | i :: is => gCons (gName i) (gAll is)
def gB (K : PySem.W.Frag) : Tg → TG
  | .nm i => gName i
  | .tp is => gTup K is.length (gAll is)
def Tg.ix : Tg → List Nat
  | .nm i => [i]
  | .tp is => is
theorem wipe_set {σ : List (Option V)} {i : Nat} {x : Option V} : ∀ {vs : List Nat}, i ∈ vs → wipe (σ.set i x) vs = wipe σ vs
  | [], h => by simp at h
  | v :: vs, h => by
    unfold L2.wipe
    by_cases e : i ∈ vs
    · rw [wipe_set e]
    · have ev : i = v := by rcases List.mem_cons.mp h with h | h; exact h; exact absurd h e
      subst ev
      have : ∀ (vs : List Nat) (σ : List (Option V)), i ∉ vs → wipe (σ.set i x) vs = (wipe σ vs).set i x := by
        intro vs
        induction vs with
        | nil => intro σ _; rfl
        | cons w ws ih =>
          intro σ hn
          simp only [List.mem_cons, not_or] at hn
          unfold L2.wipe
          rw [ih σ hn.2, List.set_comm _ _ (Ne.symm hn.1).symm]
      rw [this vs σ e, List.set_set]
theorem wipe_wipe {σ : List (Option V)} {us : List Nat} : ∀ {vs : List Nat}, (∀ i ∈ vs, i ∈ us) → wipe (wipe σ vs) us = wipe σ us
  | [], _ => rfl
  | v :: vs, h => by
    show wipe ((wipe σ vs).set v none) us = _
    rw [wipe_set (h v (by simp)), wipe_wipe fun i hi => h i (by simp [hi])]
section
variable {A : Ads} {K : PySem.W.Frag} {ρ ρ1 : List Addr} {h : MH} {H H1 : Hp}
theorem gAll_ok {us : List Nat} {Q : List (Option V) → Hp → Prop} : ∀ {is : List Nat} {ms : List M} {vs : List V} {env : Env} {σ : List (Option V)}, ms.length = is.length → Reps K ρ H ms vs → ER K ρ H env σ → (∀ i ∈ is, i ∈ us) →
    (∀ σ', ER K ρ H (setAll is ms env) σ' → wipe σ' us = wipe σ us → Q σ' H) → gAll is vs σ H Q
  | [], _, _, env, σ, hl, q, e, hu, k => by
    cases q with
    | nil => exact ⟨rfl, k σ e rfl⟩
    | cons _ _ => simp at hl
  | i :: is, _, _, env, σ, hl, q, e, hu, k => by
    cases q with
    | nil => simp at hl
    | cons q0 t =>
      refine ⟨_, _, rfl, gAll_ok (env := env.set i (some _)) (by simpa using hl) t (e.set q0) (fun j hj => hu j (by simp [hj])) fun σ' e' w' => k σ' (by simpa [setAll] using e') ?_⟩
      rw [w', wipe_set (hu i (by simp))]
theorem gB_ok {us : List Nat} {t : Tg} {m : M} {v : V} {env env' : Env} {σ : List (Option V)} {Q : List (Option V) → Hp → Prop} (b : bindT t m env = some env') (q : Rep K ρ H m v) (e : ER K ρ H env σ) (hu : ∀ i ∈ t.ix, i ∈ us)
    (k : ∀ σ', ER K ρ H env' σ' → wipe σ' us = wipe σ us → Q σ' H) : gB K t v σ H Q := by
  cases t with
  | nm i =>
    simp only [bindT, Option.some.injEq] at b
    subst b
    exact k _ (e.set q) (wipe_set (hu i (by simp [Tg.ix])))
  | tp is =>
    cases q with
    | tup s qs =>
      simp only [bindT] at b
      split at b
      · rename_i hl
        cases b
        exact ⟨_, _, rfl, s.sq, by rw [← qs.length]; exact hl, gAll_ok hl qs e hu k⟩
      · cases b
    | tuq s qs =>
      simp only [bindT] at b
      split at b
      · rename_i hl
        cases b
        exact ⟨_, _, rfl, s, by rw [← qs.length]; exact hl, gAll_ok hl qs e hu k⟩
      · cases b
    | _ => simp [bindT] at b
/-! an object aside -/
theorem sqT_side {D a : Addr} {o u : HO} {ys : List V} (hD : H D = some o) (no : ∀ zs, o ≠ .tup zs) (no2 : ∀ x y, o ≠ .frz x y) (s : SqT K H a ys) : SqT K (upd H D u) a ys := by
  rcases s with (s | ⟨x, s⟩) | s
  · exact .inl (.inl (by rw [upd_ne (ne_of s hD (Ne.symm (no ys)))]; exact s))
  · exact .inl (.inr ⟨x, by rw [upd_ne (ne_of s hD (Ne.symm (no2 _ _)))]; exact s⟩)
  · exact .inr s
theorem sqP_side {D a : Addr} {o u : HO} {ys : List V} (hD : H D = some o) (no2 : ∀ x y, o ≠ .frz x y) (s : SqP K H a ys) : SqP K (upd H D u) a ys := by
  rcases s with ⟨x, s, d⟩ | s
  · exact .inl ⟨x, by rw [upd_ne (ne_of s hD (Ne.symm (no2 _ _)))]; exact s, d⟩
  · exact .inr s
theorem sqF_side {D a : Addr} {o u : HO} {ys : List V} (hD : H D = some o) (no2 : ∀ x y, o ≠ .frz x y) (s : SqF K H a ys) : SqF K (upd H D u) a ys := by
  rcases s with ⟨x, s⟩ | s
  · exact .inl ⟨x, by rw [upd_ne (ne_of s hD (Ne.symm (no2 _ _)))]; exact s⟩
  · exact .inr s
mutual
theorem Rep.side {D : Addr} {u : HO} {zs : List V} (hD : H D = some (.lst zs)) : ∀ {m : M} {v : V}, Rep K ρ H m v → Rep K ρ (upd H D u) m v
  | _, _, .non => .non
  | _, _, .bl b => .bl b
  | _, _, .int i => .int i
  | _, _, .str s => .str s
  | _, _, .tup s q => .tup (sqP_side hD (fun _ _ z => by cases z) s) (Reps.side hD q)
  | _, _, .tuq s q => .tuq (sqT_side hD (fun _ z => by cases z) (fun _ _ z => by cases z) s) (Reps.side hD q)
  | _, _, .ref e => .ref e
  | _, _, .fz s q => .fz (sqF_side hD (fun _ _ z => by cases z) s) (Reps.side hD q)
theorem Reps.side {D : Addr} {u : HO} {zs : List V} (hD : H D = some (.lst zs)) : ∀ {m : List M} {v : List V}, Reps K ρ H m v → Reps K ρ (upd H D u) m v
  | _, _, .nil => .nil
  | _, _, .cons q t => .cons (Rep.side hD q) (Reps.side hD t)
end
theorem FR.side {D : Addr} {u : HO} {zs : List V} (hD : H D = some (.lst zs)) : ∀ {m : List (Str × M)} {v : List (Str × V)}, FR K ρ H m v → FR K ρ (upd H D u) m v
  | [], [], _ => trivial
  | (_, _) :: _, (_, _) :: _, ⟨e, q, t⟩ => ⟨e, q.side hD, FR.side hD t⟩
theorem DR.side {D : Addr} {u : HO} {zs : List V} (hD : H D = some (.lst zs)) : ∀ {m : List (M × M)} {v : List (Key × V)}, DR K ρ H m v → DR K ρ (upd H D u) m v
  | [], [], _ => trivial
  | (_, _) :: _, (_, _) :: _, ⟨e, q, t⟩ => ⟨e, q.side hD, DR.side hD t⟩
theorem HR.side {D : Addr} {u : HO} {zs : List V} (r : HR K A.ca ρ h H) (hD : H D = some (.lst zs)) (nD : D ∉ ρ) : HR K A.ca ρ h (upd H D u) := by
  refine ⟨r.len, r.nd, fun k o a hk ha => ?_⟩
  have q := r.ob k o a hk ha
  have ne : a ≠ D := fun z => nD (z ▸ List.mem_of_getElem? ha)
  cases o with
  | lst xs => obtain ⟨ys, e, t⟩ := q; exact ⟨ys, by rw [upd_ne ne]; exact e, t.side hD⟩
  | dct _ => obtain ⟨ys, e, t⟩ := q; exact ⟨ys, by rw [upd_ne ne]; exact e, DR.side hD t⟩
  | ins c fs => obtain ⟨dx, gs, e, t⟩ := q; exact ⟨dx, gs, by rw [upd_ne ne]; exact e, FR.side hD t⟩
theorem Ext.side {D : Addr} {u : HO} (x : Ext ρ H ρ1 H1) (hD : H D = none) : Ext ρ H ρ1 (upd H1 D u) := ⟨x.app, fun a o e n => by rw [upd_ne (ne_of_none e hD)]; exact x.keep a o e n⟩
theorem HR.fresh0 (r : HR K A.ca ρ h H) {D : Addr} (hD : H D = none) {u : HO} : HR K A.ca ρ h (upd H D u) ∧ Ext ρ H ρ (upd H D u) := by
  have x : Ext ρ H ρ (upd H D u) := ⟨⟨[], by simp, by simp⟩, fun a o e n => by rw [upd_ne (ne_of_none e hD)]; exact e⟩
  refine ⟨⟨r.len, r.nd, fun k o a hk ha => ?_⟩, x⟩
  have q := r.ob k o a hk ha
  have ne : a ≠ D := fun z => r.fresh hD (z ▸ List.mem_of_getElem? ha)
  cases o with
  | lst xs => obtain ⟨ys, e, t⟩ := q; exact ⟨ys, by rw [upd_ne ne]; exact e, t.mono r x⟩
  | dct _ => obtain ⟨ys, e, t⟩ := q; exact ⟨ys, by rw [upd_ne ne]; exact e, DR.mono r x t⟩
  | ins c fs => obtain ⟨dx, gs, e, t⟩ := q; exact ⟨dx, gs, by rw [upd_ne ne]; exact e, FR.mono r x t⟩
mutual
theorem Rep.more {t : List Addr} : ∀ {m : M} {v : V}, Rep K ρ H m v → Rep K (ρ ++ t) H m v
  | _, _, .non => .non
  | _, _, .bl b => .bl b
  | _, _, .int i => .int i
  | _, _, .str s => .str s
  | _, _, .tup s q => .tup s (Reps.more q)
  | _, _, .tuq s q => .tuq s (Reps.more q)
  | _, _, .ref e => .ref (by rw [List.getElem?_append_left (List.getElem?_eq_some_iff.mp e).1]; exact e)
  | _, _, .fz s q => .fz s (Reps.more q)
theorem Reps.more {t : List Addr} : ∀ {m : List M} {v : List V}, Reps K ρ H m v → Reps K (ρ ++ t) H m v
  | _, _, .nil => .nil
  | _, _, .cons q t => .cons (Rep.more q) (Reps.more t)
end
theorem FR.more {t : List Addr} : ∀ {m : List (Str × M)} {v : List (Str × V)}, FR K ρ H m v → FR K (ρ ++ t) H m v
  | [], [], _ => trivial
  | (_, _) :: _, (_, _) :: _, ⟨e, q, t⟩ => ⟨e, q.more, FR.more t⟩
theorem DR.more {t : List Addr} : ∀ {m : List (M × M)} {v : List (Key × V)}, DR K ρ H m v → DR K (ρ ++ t) H m v
  | [], [], _ => trivial
  | (_, _) :: _, (_, _) :: _, ⟨e, q, t⟩ => ⟨e, q.more, DR.more t⟩
theorem HR.adopt {D : Addr} {xs : List M} {ys : List V} (r : HR K A.ca ρ h H) (hD : H D = some (.lst ys)) (nD : D ∉ ρ) (q : Reps K ρ H xs ys) : HR K A.ca (ρ ++ [D]) (h ++ [.lst xs]) H := by
  refine ⟨by simp [r.len], ?_, fun k o a hk ha => ?_⟩
  · rw [List.nodup_append]
    exact ⟨r.nd, by simp, fun a ha b hb => by simp at hb; subst hb; rintro rfl; exact nD ha⟩
  · by_cases hl : k < ρ.length
    · rw [List.getElem?_append_left hl] at ha
      rw [List.getElem?_append_left (by rw [← r.len]; exact hl)] at hk
      have z := r.ob k o a hk ha
      cases o with
      | lst xs => obtain ⟨ys, e, t⟩ := z; exact ⟨ys, e, t.more⟩
      | dct _ => obtain ⟨ys, e, t⟩ := z; exact ⟨ys, e, DR.more t⟩
      | ins c fs => obtain ⟨dx, gs, e, t⟩ := z; exact ⟨dx, gs, e, FR.more t⟩
    · have e1 : k = ρ.length := by
        have := (List.getElem?_eq_some_iff.mp ha).1
        simp at this; omega
      subst e1
      rw [List.getElem?_append_right (Nat.le_refl _)] at ha
      rw [r.len, List.getElem?_append_right (Nat.le_refl _)] at hk
      simp at ha hk
      subst ha; subst hk
      exact ⟨ys, hD, q.more⟩
theorem Ext.adopt {D : Addr} (x : Ext ρ H ρ1 H1) (hD : H D = none) : Ext ρ H (ρ1 ++ [D]) H1 := by
  obtain ⟨⟨t, rfl, ht⟩, k⟩ := x
  exact ⟨⟨t ++ [D], by simp, fun a m => by
    rcases List.mem_append.mp m with m | m
    · exact ht a m
    · simp at m; subst m; exact hD⟩, k⟩
theorem Ext.fresh0 (x : Ext ρ H ρ1 H1) (r1 : HR K A.ca ρ1 h H1) {D : Addr} (hD : H1 D = none) : H D = none := by
  cases q : H D with
  | none => rfl
  | some o =>
    by_cases m : D ∈ ρ
    · obtain ⟨⟨t, rfl, ht⟩, k⟩ := x
      exact absurd (List.mem_append_left t m) (r1.fresh hD)
    · rw [x.keep D o q m] at hD; cases hD
end
/-! the comprehension -/
section
variable {A : Ads} {K : PySem.W.Frag} {X : Cx} {W : WX}
theorem comp_ok {σ : List (Option V)} {H : Hp} {Q : VK} {di : Env → MH → KI → (Exn → MH → Prop) → Prop} {dc : WT} {de : WE} {t : Tg} {vs : List Nat} (ht : ∀ i ∈ t.ix, i ∈ vs)
    (hq : tE A K W (fun env h Q X => di env h (fun xs chk h1 =>
      compL chk (fun x => bindT t x (wipeE env vs)) dc de (fun _ _ => False) xs [] h1 (fun acc h2 => Q (.ref h2.length) (h2 ++ [.lst acc]))) X) σ H Q) :
    tLc (tIt A K W di) (gB K t) (tT A K (fun _ _ _ _ => False) dc) (tE A K (fun _ _ _ _ => False) de) vs σ H Q := by
  obtain ⟨ρ, env, h, Qm, Xm, r, e, d, q, x⟩ := hq
  refine ⟨ρ, env, h, _, Xm, r, e, d, fun xs chk h1 d1 ρ1 H1 J x1 r1 hz it => ?_, x⟩
  intro D hD
  have hD0 : H D = none := x1.fresh0 r1 hD
  have dn : D ∉ ρ1 := r1.fresh hD
  let CL := compL chk (fun x => bindT t x (wipeE env vs)) dc de (fun _ _ => False)
  let R0 : List M → MH → Prop := fun acc h2 => Qm (.ref h2.length) (h2 ++ [.lst acc])
  refine ⟨fun i m H' => ∃ ρ' h' acc ys, HR K A.ca ρ' h' H' ∧ Ext ρ1 H1 ρ' H' ∧ H' D = some (.lst ys) ∧ D ∉ ρ' ∧ Reps K ρ' H' acc ys ∧ CL (xs.drop i) acc h' R0 ∧ i ≤ xs.length ∧ acc.length ≤ i ∧ m = xs.length - i, ⟨xs.length, ?_⟩, ?_⟩
  · obtain ⟨r2, x2⟩ := r1.fresh0 hD (u := .lst [])
    exact ⟨ρ1, h1, [], [], r2, x2, upd_same, dn, .nil, by simpa [CL] using d1, Nat.zero_le _, Nat.le_refl _, by simp⟩
  · rintro i m H2 ⟨ρ2, h2, acc, ys, r2, x2, hD2, dn2, qa, cl, hi, ha, rfl⟩
    have x02 : Ext ρ H ρ2 H2 := x1.trans r1 x2
    by_cases hl : i < xs.length
    · right
      rw [List.drop_eq_getElem_cons hl] at cl
      obtain ⟨ck, env', hb, cl⟩ := cl
      refine ⟨it.go i ρ2 h2 H2 r2 x2 ck hl, fun H' => ∃ ρ' h' acc ys, HR K A.ca ρ' h' H' ∧ Ext ρ1 H1 ρ' H' ∧ H' D = some (.lst ys) ∧ D ∉ ρ' ∧ Reps K ρ' H' acc ys ∧ CL (xs.drop (i + 1)) acc h' R0 ∧ acc.length ≤ i + 1, ?_, ?_⟩
      · rintro H' ⟨ρ', h', acc', ys', a1, a2, a3, a4, a5, a6, a7⟩
        exact ⟨xs.length - (i + 1), by omega, ρ', h', acc', ys', a1, a2, a3, a4, a5, a6, hl, a7, rfl⟩
      · intro y H3 yl
        obtain ⟨r3, x3, m, hm, qm⟩ := it.yld i ρ2 h2 H2 y H3 r2 x2 ck hl yl
        have hm' : xs[i] = m := by rw [List.getElem?_eq_getElem hl] at hm; exact Option.some.inj hm
        rw [hm'] at hb
        have x13 := x2.trans r2 x3
        have hD3 : H3 D = some (.lst ys) := x3.keep D _ hD2 dn2
        have e3 : ER K ρ2 H3 (wipeE env vs) (wipe σ vs) := (e.mono r (x1.trans r1 x13)).wiped vs
        refine gB_ok (us := vs) hb qm e3 ht fun σ4 e4 w4 => ⟨by rw [w4, wipe_wipe fun i hi => hi], ?_⟩
        refine ⟨ρ2, env', h2, _, _, r3, e4, cl, fun b h5 d5 ρ5 H5 x5 r5 => ?_, fun _ _ z => z.elim⟩
        have x15 := x13.trans r3 x5
        have qa3 := qa.mono r2 x3
        have hD5 : H5 D = some (.lst ys) := x5.keep D _ hD3 dn2
        have dn5 : ∀ {ρ' : List Addr} {H'' : Hp}, Ext ρ2 H3 ρ' H'' → D ∉ ρ' := fun {ρ' H''} x' hm => by
          obtain ⟨⟨t, rfl, ht⟩, _⟩ := x'
          rcases List.mem_append.mp hm with z | z
          · exact dn2 z
          · rw [ht D z] at hD3; cases hD3
        cases b with
        | false =>
          dsimp only at d5 ⊢
          rw [if_neg (by simp)] at d5 ⊢
          exact ⟨ρ5, h5, acc, ys, r5, x15, hD5, dn5 x5, qa3.mono r3 x5, d5, by omega⟩
        | true =>
          dsimp only at d5 ⊢
          rw [if_pos rfl] at d5 ⊢
          refine ⟨ρ5, env', h5, _, _, r5, e4.mono r3 x5, d5, fun z h6 d6 ρ6 H6 z' x6 r6 qz => ?_, fun _ _ z => z.elim⟩
          have x36 := x5.trans r5 x6
          have hD6 : H6 D = some (.lst ys) := x36.keep D _ hD3 dn2
          have qa6 := qa3.mono r3 x36
          refine ⟨ys, hD6, by rw [← qa.length]; omega, ρ6, h6, acc ++ [z], ys ++ [z'], r6.side hD6 (dn5 x36), (x15.trans r5 x6).side hD, upd_same, dn5 x36, (qa6.append (.cons qz .nil)).side hD6, d6, by simp; omega⟩
    · left
      have hi' : xs.length ≤ i := Nat.le_of_not_lt hl
      rw [List.drop_eq_nil_of_le hi'] at cl
      obtain ⟨ck, cl⟩ := cl
      refine ⟨it.stop i ρ2 h2 H2 r2 x2 ck hi', ?_⟩
      refine q _ _ cl (ρ2 ++ [D]) H2 (.ref D) (x02.adopt hD0) (r2.adopt hD2 dn2 qa) (.ref ?_)
      rw [← r2.len, List.getElem?_append_right (Nat.le_refl _)]; simp
end
end Wg
open PySem PySem.Spec PyProof.Rows
set_option linter.all false
set_option Elab.async false
namespace Wg
open L2
/-! ### statements -/
def notComp : Expr → Bool
  | .ListComp .. => false
  | .SetComp .. => false
  | .DictComp .. => false
  | _ => true
def notTup : Expr → Bool
  | .Tuple .. => false
  | _ => true
def plainE : Expr → Bool
  | .Starred .. => false
  | .Slice .. => false
  | .Set .. => false
  | _ => true
theorem plain_star {e : Expr} (h : plainE e = true) (es : List Expr) (env : PySem.Env) : starEach (e :: es) env = (false, eval e env) :: starEach es env := by
  cases e <;> first | rfl | simp [plainE] at h
theorem plain_ix {e : Expr} (h : plainE e = true) : PlainIx e := by
  intro o i
  cases e <;> first | rfl | simp [plainE] at h
theorem plain_fold {e : Expr} (h : plainE e = true) (env : PySem.Env) (x : Value) : foldedSetIterable e env x = pure x := by
  cases e <;> first | rfl | simp [plainE] at h
theorem notComp_swaps {e : Expr} (h : notComp e = true) (t : Option Expr) (l : Nat) (env : PySem.Env) : swapsWith e t l env = pure false := by
  cases e <;> first | rfl | simp [notComp] at h
theorem notComp_sole {e : Expr} (h : notComp e = true) (t : Expr) (l : Nat) (env : PySem.Env) : swapsWithSole [t] e l env = pure false := by
  unfold swapsWithSole
  exact notComp_swaps h _ _ _
theorem notTup_stores {e : Expr} (h : notTup e = true) (ts : List Expr) (env : PySem.Env) : swappedStores ts e env = pure none := by
  unfold swappedStores
  split
  · rename_i heq
    split at heq
    · simp [notTup] at h
    · simp [notTup] at h
    · cases heq
  · rfl
theorem plain_any {pos : Pos} {env : PySem.Env} : ∀ {es : List Expr}, es.all plainE = true → (backTo pos (starEach es env)).any (·.1) = false
  | [], _ => rfl
  | e :: es, h => by
    simp only [List.all_cons, Bool.and_eq_true] at h
    rw [plain_star h.1]
    have := plain_any (pos := pos) (env := env) h.2
    simpa [backTo] using this
theorem plain_all {pos : Pos} {env : PySem.Env} : ∀ {es : List Expr}, es.all plainE = true → (backTo pos (starEach es env)).all (fun x => !x.1) = true
  | [], _ => rfl
  | e :: es, h => by
    simp only [List.all_cons, Bool.and_eq_true] at h
    rw [plain_star h.1]
    have := plain_all (pos := pos) (env := env) h.2
    simpa [backTo] using this
theorem plain_few {pos : Pos} {env : PySem.Env} {es : List Expr} (h : es.all plainE = true) (hl : es.length < 29) :
    ((backTo pos (starEach es env)).all (fun x => !x.1) && (backToKw pos (keywordEach [] env)).all (fun x => x.1.isSome) && decide (es.length + ([] : List Keyword).length + (if ([] : List Keyword).isEmpty then 0 else 1) < 30)) = true := by
  rw [plain_all h]
  simp [backToKw, keywordEach]
  omega
def noSup : Expr → Bool
  | .Call _ [] _ _ => false
  | _ => true
theorem noSup_base {o : Expr} (h : noSup o = true) (nm : Str) (env : PySem.Env) (w : Sem Value) : attributeBase o nm env w = w := by
  unfold attributeBase
  split
  · simp [noSup] at h
  · rfl
theorem swap2 {env : PySem.Env} {x y : Str} {a b : Expr} {px py pt pt2 : Pos} {kt k2 : Nat} (hk : env.scope.kind = .function) (hx : env.scope.names.lookup x = some .local) (hy : env.scope.names.lookup y = some .local) (hl : (py.line == px.line) = true)
    (hne : (x == y) = false) (hp : [a, b].all plainE = true) (hf : [a, b].all (foldedForSure 8) = false) (hc : [a, b].all (constantsAlone 8) = false) :
    swappedStores [.Tuple [.Name x px, .Name y py] kt pt] (.Tuple [a, b] k2 pt2) env = pure (some [x, y]) := by
  have hs : ([a, b].any fun | .Starred .. => true | _ => false) = false := by
    simp only [List.all_cons, List.all_nil, Bool.and_true, Bool.and_eq_true] at hp
    cases a <;> cases b <;> simp_all [plainE]
  have hb : env.blockKind = .function := by unfold Env.blockKind; rw [hk]; rfl
  have kx : env.kindOf x = some .local := hx
  have ky : env.kindOf y = some .local := hy
  have hyx : (y == x) = false := by
    have : ¬ y = x := fun z => by simp [z] at hne
    exact beq_eq_false_iff_ne.mpr this
  unfold swappedStores
  have hf' : (List.all [a, b] (foldedForSure 8)) = false := hf
  simp only [hs, hf', hc, hb, Expr.pos, kx, ky, hl, List.filterMap_cons, List.filterMap_nil, List.head?_cons, Option.map_some, Option.getD_some, beq_self_eq_true, Bool.and_self, if_true, List.length_cons, List.length_nil, List.eraseDups_cons, List.filter_cons, List.filter_nil, hyx, Bool.not_false, List.eraseDups_nil]
  split
  · rename_i z; exact absurd z (by decide)
  · split
    · rename_i z; exact absurd (hs.symm.trans z) (by simp)
    · rfl
section
variable {A : Ads} {X : Cx} {W : WX} {tg e : Expr} {de : WE} {pos : Pos} {t : Tg}
theorem s_asg (he : PE X e (tE A X.K W de)) (hg : PG X tg (gB X.K t)) (hs : swapsWithSole [tg] e pos.line X.env = pure false) (hw : swappedStores [tg] e X.env = pure none)
    (h1 : (assignEach [tg] X.env).map (·.2) = [assign tg X.env]) :
    PS X (.Assign [tg] e pos) (tSt A X.K W fun env h D Xs => de env h (fun v h1 => ∃ env', bindT t v env = some env' ∧ D.nx env' h1) (fun x h => Xs x env h)) := by
  refine PS.weak (ps_asg he hg hs hw h1) fun D σ H ⟨ρ, env, h, Dm, Xs, r, e, d, q, x⟩ => ?_
  refine ⟨ρ, env, h, _, _, r, e, d, fun v h1 d1 ρ1 H1 v1 x1 r1 p1 => ?_, fun x0 h' z ρ' H' c d x1 r1 xr => x x0 env h' z ρ' H' σ c d x1 r1 (e.mono r x1) xr⟩
  obtain ⟨env', hb, d1⟩ := d1
  exact gB_ok (us := t.ix) hb p1 (e.mono r x1) (fun i hi => hi) fun σ' e' _ => q.nx env' h1 d1 ρ1 H1 σ' x1 r1 e'
theorem s_comp {i : Nat} {y : Str} {py vpos spos : Pos} {elt iter : Expr} {ifs : List Expr} {scope : Scope} {own : List (Str × Nat)} {vs : List Nat} {di : Env → MH → KI → (Exn → MH → Prop) → Prop} {dc : WT} {tgc : Expr}
    (hc : X.calm = true) (hN : X.N.Nodup) (hy : X.N[i]? = some y) (hyl : X.env.scope.names.lookup y = some .local) (hown : own.map (·.2) = vs) (ht0 : ∀ i ∈ t.ix, i ∈ vs)
    (hsw : swapsWith (.ListComp elt [⟨tgc, iter, ifs, 0⟩] scope vpos) (some (.Name y py)) spos.line X.env = pure true) (hi : PI X tgc iter (tIt A X.K W di)) (ok : BlkOk X.N X.env.scope scope own)
    (hg : ∀ (s : Shared) (H : Hp) (C : Addr) (cl : List (Str × Addr)) (fp : List Addr), PG (X.blk s H scope (compEnvC scope cl C X.env) fp) tgc (gB X.K t))
    (ht : ∀ (s : Shared) (H : Hp) (C : Addr) (cl : List (Str × Addr)) (fp : List Addr), PTs (X.blk s H scope (compEnvC scope cl C X.env) fp) ifs (tT A X.K (fun _ _ _ _ => False) dc))
    (he : ∀ (s : Shared) (H : Hp) (C : Addr) (cl : List (Str × Addr)) (fp : List Addr), PE (X.blk s H scope (compEnvC scope cl C X.env) fp) elt (tE A X.K (fun _ _ _ _ => False) de)) (hs : ∀ x, foldedSetIterable iter X.env x = pure x) :
    PS X (.Assign [.Name y py] (.ListComp elt [⟨tgc, iter, ifs, 0⟩] scope vpos) spos) (tSt A X.K W fun env h D Xs => di env h (fun xs chk h1 =>
      compL chk (fun x => bindT t x (wipeE env vs)) dc de (fun _ _ => False) xs [] h1 (fun acc h2 => ∃ env', bindT (.nm i) (.ref h2.length) env = some env' ∧ D.nx env' (h2 ++ [.lst acc]))) (fun x h => Xs x env h)) := by
  subst hown
  refine PS.weak (ps_setLc hc hN hy hyl hsw hi ok hg ht he hs) fun D σ H ⟨ρ, env, h, Dm, Xs, r, e, d, q, x⟩ => ?_
  refine comp_ok (W := W) (dc := dc) (de := de) (di := di) ht0 ⟨ρ, env, h, fun v h1 => ∃ env', bindT (.nm i) v env = some env' ∧ Dm.nx env' h1, _, r, e, d, fun v h1 d1 ρ1 H1 v1 x1 r1 p1 => ?_, fun x0 h' z ρ' H' c d x1 r1 xr => x x0 env h' z ρ' H' σ c d x1 r1 (e.mono r x1) xr⟩
  obtain ⟨env', hb, d1⟩ := d1
  exact gB_ok (t := .nm i) (us := [i]) hb p1 (e.mono r x1) (fun i hi => hi) fun σ' e' _ => q.nx env' h1 d1 ρ1 H1 σ' x1 r1 e'
variable {a b c o k : Expr} {da db dk dov : WE} {dt' : WT} {ss rest : List Stmt} {st : Stmt} {ws wr : WS}
theorem s_par2 {i j : Nat} {x y : Str} {px py pt pt2 : Pos} {kt k2 : Nat} {ds : Env → MH → (List M → MH → Prop) → (Exn → MH → Prop) → Prop} (hc : X.calm = true) (hN : X.N.Nodup) (hi : X.N[i]? = some x) (hj : X.N[j]? = some y) (hij : i ≠ j)
    (hx : X.env.scope.names.lookup x = some .local) (hy : X.env.scope.names.lookup y = some .local) (ha : PA X [a, b] (tAs A X.K 2 W ds))
    (hw : swappedStores [.Tuple [.Name x px, .Name y py] kt pt] (.Tuple [a, b] k2 pt2) X.env = pure (some [x, y])) :
    PS X (.Assign [.Tuple [.Name x px, .Name y py] kt pt] (.Tuple [a, b] k2 pt2) pos) (tSt A X.K W fun env h D Xs => ds env h (fun vs h1 => D.nx (setAll [i, j] vs env) h1) (fun x h => Xs x env h)) := by
  refine PS.weak (ps_par hc hN hi hj hij hx hy ha hw rfl) fun D σ H ⟨ρ, env, h, Dm, Xs, r, e, d, q, x⟩ => ?_
  refine ⟨ρ, env, h, _, _, r, e, d, fun vs h1 d1 hl ρ1 H1 v1 x1 r1 p1 => ?_, fun x0 h' z ρ' H' c d x1 r1 xr => x x0 env h' z ρ' H' σ c d x1 r1 (e.mono r x1) xr⟩
  cases p1 with
  | nil => simp at hl
  | cons q1 p1 => cases p1 with
    | nil => simp at hl
    | cons q2 p1 => cases p1 with
      | cons _ _ => simp at hl
      | nil => exact ⟨_, _, rfl, q.nx _ h1 d1 ρ1 H1 _ x1 r1 (((e.mono r x1).set q1).set q2)⟩
theorem sub_assign {o k : Expr} {tpos : Pos} (hk : plainE k = true) (env : PySem.Env) (v : Value) : assign (.Subscript o k tpos) env v = (do
      let ov ← holding [v] (eval o env)
      let iv ← holding [v, ov] (eval k env)
      standAt tpos
      holding [v, ov, iv] (setItem ov iv v)
      release [v, ov, iv] []) := by
  cases k <;> first | rfl | simp [plainE] at hk
theorem s_sub {tpos : Pos} (hpk : plainE k = true) (ho : PE X o (tE A X.K W dov)) (hk : PE X k (tE A X.K W dk)) (he : PE X e (tE A X.K W de)) (hs : swapsWithSole [.Subscript o k tpos] e pos.line X.env = pure false) (hw : swappedStores [.Subscript o k tpos] e X.env = pure none) :
    PS X (.Assign [.Subscript o k tpos] e pos) (tSt A X.K W fun env h D Xs => de env h (fun v h1 => dov env h1 (fun a h2 => dk env h2 (fun k h3 => ∃ l xs j n, a = .ref l ∧ k = .int j ∧ h3[l]? = some (.lst xs) ∧ ixN xs.length j = some n ∧ D.nx env (h3.set l (.lst (xs.set n v))))
      (fun x h => Xs x env h)) (fun x h => Xs x env h)) (fun x h => Xs x env h)) := by
  refine PS.weak (ps_asg he (pg_sub ho hk set_list (sub_assign hpk _)) hs hw rfl) fun D σ H ⟨ρ, env, h, Dm, Xs, r, e, d, q, x⟩ => ?_
  have xk : XOK A X.K ρ H σ (fun x h => Xs x env h) W := fun x0 h' z ρ' H' c d x1 r1 xr => x x0 env h' z ρ' H' σ c d x1 r1 (e.mono r x1) xr
  refine ⟨ρ, env, h, _, _, r, e, d, q_then r e xk fun v h1 ρ1 H1 v1 d1 x1 r1 e1 X1 p1 => ?_, xk⟩
  refine ⟨ρ1, env, h1, _, _, r1, e1, d1, q_then r1 e1 X1 fun a h2 ρ2 H2 a2 d2 x2 r2 e2 X2 p2 => ?_, X1⟩
  refine ⟨ρ2, env, h2, _, _, r2, e2, d2, q_then r2 e2 X2 fun k h3 ρ3 H3 k3 d3 x3 r3 e3 X3 p3 => ?_, X2⟩
  obtain ⟨l, xs, j, n, rfl, rfl, hl, hn, d3⟩ := d3
  cases p3
  cases p2.mono r2 x3 with | ref ea =>
  obtain ⟨us, e1', q1⟩ := r3.lst hl ea
  obtain ⟨r4, x4⟩ := r3.put (o' := .lst (xs.set n v)) (u := .lst (us.set n v1)) hl ea fun H' x4 z => ⟨_, z, ((q1.mono r3 x4).set ((((p1.mono r1 x2).mono r2 x3).mono r3 x4)) n)⟩
  exact ⟨_, us, _, n, rfl, rfl, e1', by rw [← q1.length]; exact hn, q.nx env _ d3 ρ3 _ σ (((x1.trans r1 x2).trans r2 x3).trans r3 x4) r4 (e3.mono r3 x4)⟩
theorem e_dix (hu : X.A.units + 64 < cLine) (hs : PlainIx b) (ha : PE X a (tE A X.K W da)) (hb : PE X b (tE A X.K W db)) : PE X (.Subscript a b pos) (tE A X.K W fun env h Q Xm => da env h (fun x h1 => db env h1 (fun y h2 => ∃ a kvs v, x = .ref a ∧ getD h2 a = some kvs ∧ (keyM y).isSome = true ∧ dval kvs y = some v ∧ Q v h2) Xm) Xm) := by
  refine PE.weak (pe_dget (by omega) ha hb hs) fun σ H Q ⟨ρ, env, h, Qm, Xm, r, e, d, q, x⟩ => ?_
  refine ⟨ρ, env, h, _, Xm, r, e, d, q_then r e x fun v h1 ρ1 H1 v1 d1 x1 r1 e1 X1 p1 => ?_, x⟩
  refine ⟨ρ1, env, h1, _, Xm, r1, e1, d1, q_then r1 e1 X1 fun u h2 ρ2 H2 u2 d2 x2 r2 e2 X2 p2 => ?_, X1⟩
  obtain ⟨l, kvs, w, rfl, hk, hs, hv, d2⟩ := d2
  cases p1.mono r1 x2 with | ref ea =>
  obtain ⟨c, hc⟩ := Option.isSome_iff_exists.mp hs
  obtain ⟨ls, e1, q1⟩ := r2.dct (getD_dct hk) ea
  obtain rfl := keyM_kV hc p2
  obtain ⟨y, e3, ry⟩ := (q1.val hc).1 _ hv
  exact ⟨_, y, rfl, by rw [← e3]; exact .k e1, ((q.mono r1 x1).mono r2 x2).here r2 d2 ry⟩
theorem e_dnew : PE X (.Dict [] [] pos) (tE A X.K W fun env h Q Xm => Q (.ref h.length) (h ++ [.dct []])) :=
  PE.weak pe_dnewK fun σ H Q ⟨ρ, env, h, Qm, Xm, r, e, d, q, x⟩ => fun p hp => q.newD r d trivial hp
theorem s_dd : PS X st (tSt A X.K W fun env h D Xs => False) := ⟨fun pins s σ H D I ⟨_, _, _, _, _, _, _, d, _⟩ => d.elim⟩
theorem s_dsb {tpos : Pos} (hu : X.A.units + 64 < cLine) (ho : PE X o (tE A X.K W dov)) (hk : PE X k (tE A X.K W dk)) (he : PE X e (tE A X.K W de)) (hs : swapsWith e (some (.Subscript o k tpos)) pos.line X.env = pure false) :
    PS X (.Assign [.Subscript o k tpos] e pos) (tSt A X.K W fun env h D Xs => de env h (fun v h1 => dov env h1 (fun a h2 => dk env h2 (fun k h3 => ∃ l kvs, a = .ref l ∧ (keyM k).isSome = true ∧ h3[l]? = some (.dct kvs) ∧ kvs.length < sizeLine ∧ D.nx env (h3.set l (.dct (dput kvs k v))))
      (fun x h => Xs x env h)) (fun x h => Xs x env h)) (fun x h => Xs x env h)) := by
  refine PS.weak (ps_dput (by omega) ho hk he hs) fun D σ H ⟨ρ, env, h, Dm, Xs, r, e, d, q, x⟩ => ?_
  have xk : XOK A X.K ρ H σ (fun x h => Xs x env h) W := fun x0 h' z ρ' H' c d x1 r1 xr => x x0 env h' z ρ' H' σ c d x1 r1 (e.mono r x1) xr
  refine ⟨ρ, env, h, _, _, r, e, d, q_then r e xk fun v h1 ρ1 H1 v1 d1 x1 r1 e1 X1 p1 => ?_, xk⟩
  refine ⟨ρ1, env, h1, _, _, r1, e1, d1, q_then r1 e1 X1 fun a h2 ρ2 H2 a2 d2 x2 r2 e2 X2 p2 => ?_, X1⟩
  refine ⟨ρ2, env, h2, _, _, r2, e2, d2, q_then r2 e2 X2 fun k h3 ρ3 H3 k3 d3 x3 r3 e3 X3 p3 => ?_, X2⟩
  obtain ⟨l, kvs, rfl, hk, hl, hz, d3⟩ := d3
  obtain ⟨c, hc⟩ := Option.isSome_iff_exists.mp hk
  obtain rfl := keyM_kV hc p3
  cases p2.mono r2 x3 with | ref ea =>
  obtain ⟨us, e1', q1⟩ := r3.dct hl ea
  obtain ⟨r4, x4⟩ := r3.put (o' := .dct (dput kvs k v)) (u := .dK (putK us c v1)) hl ea fun H' x4 z => ⟨_, z, (q1.mono r3 x4).put hc (((p1.mono r1 x2).mono r2 x3).mono r3 x4)⟩
  exact ⟨_, _, rfl, .k e1' (by rw [← q1.length]; exact hz), q.nx env _ d3 ρ3 _ σ (((x1.trans r1 x2).trans r2 x3).trans r3 x4) r4 (e3.mono r3 x4)⟩
theorem s_aug {i : Nat} {x : Str} {op : Operator} {pos' : Pos} (hN : X.N.Nodup) (hi : X.N[i]? = some x) (hx : Loc X.env.scope x) (hf : X.fn x = true) (he : PE X e (tE A X.K W de)) (hop : op = .Add) :
    PS X (.AugAssign (.Name x pos') op e pos) (tSt A X.K W fun env h D Xs => ∃ x, env[i]? = some (some x) ∧ de env h (fun y h1 => ∃ a b, x = .int a ∧ y = .int b ∧ op = .Add ∧ D.nx (env.set i (some (.int (a + b)))) h1) (fun x h => Xs x env h)) := by
  subst hop
  refine PS.weak (ps_aug hN hi hx he ip_add (.inl hf)) fun D σ H ⟨ρ, env, h, Dm, Xs, r, e, ⟨x', ex, d⟩, q, x⟩ => ?_
  obtain ⟨u, e1, e2⟩ := e.get ex
  refine ⟨u, e1, ρ, env, h, _, _, r, e, d, fun v h1 d1 ρ1 H1 v1 x1 r1 p1 => ?_, fun x0 h' z ρ' H' c d x1 r1 xr => x x0 env h' z ρ' H' σ c d x1 r1 (e.mono r x1) xr⟩
  obtain ⟨a, b, rfl, rfl, _, d1⟩ := d1
  cases e2; cases p1
  exact ⟨_, _, rfl, rfl, q.nx _ h1 d1 ρ1 H1 _ x1 r1 ((e.mono r x1).set (.int _))⟩
theorem s_exp (hs : swapsWith e none pos.line X.env = pure false) (he : PE X e (tE A X.K W de)) : PS X (.Expr e pos) (tSt A X.K W fun env h D Xs => de env h (fun _ h1 => D.nx env h1) (fun x h => Xs x env h)) := by
  refine PS.weak (ps_expr he hs) fun D σ H ⟨ρ, env, h, Dm, Xs, r, e, d, q, x⟩ => ?_
  exact ⟨ρ, env, h, _, _, r, e, d, fun v h1 d1 ρ1 H1 v1 x1 r1 p1 => q.nx env h1 d1 ρ1 H1 σ x1 r1 (e.mono r x1), fun x0 h' z ρ' H' c d x1 r1 xr => x x0 env h' z ρ' H' σ c d x1 r1 (e.mono r x1) xr⟩
theorem s_ret (he : PE X e (tE A X.K W de)) : PS X (.Return (some e) pos) (tSt A X.K W fun env h D Xs => de env h D.rt (fun x h => Xs x env h)) := by
  refine PS.weak (ps_ret he) fun D σ H ⟨ρ, env, h, Dm, Xs, r, e, d, q, x⟩ => ?_
  exact ⟨ρ, env, h, _, _, r, e, d, q.rt, fun x0 h' z ρ' H' c d x1 r1 xr => x x0 env h' z ρ' H' σ c d x1 r1 (e.mono r x1) xr⟩
theorem s_retN : PS X (.Return none pos) (tSt A X.K W fun env h D Xs => D.rt .non h) :=
  PS.weak ps_retN fun D σ H ⟨ρ, env, h, Dm, Xs, r, e, d, q, x⟩ => q.rt _ h d ρ H _ .refl r .non
theorem EOK.mono {ρ ρ1 : List Addr} {K : PySem.W.Frag} {h1 : MH} {H H1 : Hp} {Dm : Ed} {D : Ends} (r1 : HR K A.ca ρ1 h1 H1) (x : Ext ρ H ρ1 H1) (q : EOK A K ρ H Dm D) : EOK A K ρ1 H1 Dm D :=
  ⟨fun env h' d ρ' H' σ' x' r' e' => q.nx env h' d ρ' H' σ' (x.trans r1 x') r' e', q.rt.mono r1 x, fun env h' d ρ' H' σ' x' r' e' => q.bk env h' d ρ' H' σ' (x.trans r1 x') r' e', fun env h' d ρ' H' σ' x' r' e' => q.ct env h' d ρ' H' σ' (x.trans r1 x') r' e'⟩
theorem SXK.mono {ρ ρ1 : List Addr} {K : PySem.W.Frag} {h1 : MH} {H H1 : Hp} {Xs : XW} (r1 : HR K A.ca ρ1 h1 H1) (x : Ext ρ H ρ1 H1) (q : SXK A K ρ H Xs W) : SXK A K ρ1 H1 Xs W :=
  fun y env h' d ρ' H' σ' c dd x' r' e' xr => q y env h' d ρ' H' σ' c dd (x.trans r1 x') r' e' xr
theorem s_ife (hc : PT X c (tT A X.K W dt')) {sa sb : List Stmt} {wa wb : WS} (ha : PSs X sa (tSt A X.K W wa)) (hb : PSs X sb (tSt A X.K W wb)) :
    PS X (.If c sa sb pos) (tSt A X.K W fun env h D Xs => dt' env h (fun k h1 => if k = true then wa env h1 D Xs else wb env h1 D Xs) (fun x h => Xs x env h)) := by
  refine PS.weak (ps_if hc ha hb) fun D σ H ⟨ρ, env, h, Dm, Xs, r, e, d, q, x⟩ => ?_
  refine ⟨ρ, env, h, _, _, r, e, d, fun k h1 d1 ρ1 H1 x1 r1 => ?_, fun x0 h' z ρ' H' c d x1 r1 xr => x x0 env h' z ρ' H' σ c d x1 r1 (e.mono r x1) xr⟩
  cases k with
  | true => exact ⟨ρ1, env, h1, Dm, Xs, r1, e.mono r x1, d1, q.mono r1 x1, x.mono r1 x1⟩
  | false => exact ⟨ρ1, env, h1, Dm, Xs, r1, e.mono r x1, d1, q.mono r1 x1, x.mono r1 x1⟩
theorem s_nil : PSs X [] (tSt A X.K W fun env h D _ => D.nx env h) := PSs.weak pss_nil fun D σ H ⟨ρ, env, h, Dm, Xs, r, e, d, q, x⟩ => q.nx env h d ρ H σ .refl r e
theorem s_cons (h1 : PS X st (tSt A X.K W ws)) (h2 : PSs X rest (tSt A X.K W wr)) : PSs X (st :: rest) (tSt A X.K W fun env h D Xs => ws env h { D with nx := fun env' h' => wr env' h' D Xs } Xs) := by
  refine PSs.weak (pss_cons h1 h2) fun D σ H ⟨ρ, env, h, Dm, Xs, r, e, d, q, x⟩ => ?_
  refine ⟨ρ, env, h, _, Xs, r, e, d, ⟨fun env' h' d1 ρ1 H1 σ1 x1 r1 e1 => ?_, q.rt, q.bk, q.ct⟩, x⟩
  exact ⟨ρ1, env', h', Dm, Xs, r1, e1, d1, q.mono r1 x1, x.mono r1 x1⟩
theorem s_pas : PS X (.Pass pos) (tSt A X.K W fun env h D _ => D.nx env h) := PS.weak ps_pass fun D σ H ⟨ρ, env, h, Dm, Xs, r, e, d, q, x⟩ => q.nx env h d ρ H σ .refl r e
theorem s_brk : PS X (.Break pos) (tSt A X.K W fun env h D _ => D.bk env h) := PS.weak ps_break fun D σ H ⟨ρ, env, h, Dm, Xs, r, e, d, q, x⟩ => q.bk env h d ρ H σ .refl r e
theorem s_cnt : PS X (.Continue pos) (tSt A X.K W fun env h D _ => D.ct env h) := PS.weak ps_continue fun D σ H ⟨ρ, env, h, Dm, Xs, r, e, d, q, x⟩ => q.ct env h d ρ H σ .refl r e
theorem s_for {iter : Expr} {body : List Stmt} {di : Env → MH → KI → (Exn → MH → Prop) → Prop} {wb : WS} (hp : PassesOwn (model X.prog X.w) X.A X.env X.xe) (hc : X.calm = true) (hi : PI X tg iter (tIt A X.K W di)) (hg : PG X tg (gB X.K t)) (hb : PSs X body (tSt A X.K W wb))
    (hs : ∀ x, foldedSetIterable iter X.env x = pure x) : PS X (.For tg iter body [] pos) (tSt A X.K W fun env h D Xs => di env h (fun xs chk h1 => forL chk t wb Xs D xs env h1) (fun x h => Xs x env h)) := by
  refine PS.weak (ps_for hp hc hi hg hb hs) fun D σ H ⟨ρ, env, h, Dm, Xs, r, e, d, q, x⟩ => ?_
  refine ⟨ρ, env, h, _, _, r, e, d, fun xs chk h1 d1 ρ1 H1 J x1 r1 hz it => ?_, fun x0 h' z ρ' H' c d x1 r1 xr => x x0 env h' z ρ' H' σ c d x1 r1 (e.mono r x1) xr⟩
  refine ⟨fun i m σ' H' => ∃ ρ' env' h', HR X.K A.ca ρ' h' H' ∧ Ext ρ1 H1 ρ' H' ∧ ER X.K ρ' H' env' σ' ∧ forL chk t wb Xs Dm (xs.drop i) env' h' ∧ i ≤ xs.length ∧ m = xs.length - i,
    ⟨xs.length, ρ1, env, h1, r1, .refl, e.mono r x1, by simpa using d1, Nat.zero_le _, by simp⟩, ?_⟩
  rintro i m σ2 H2 ⟨ρ2, env2, h2, r2, x2, e2, fl, hi, rfl⟩
  have x02 : Ext ρ H ρ2 H2 := x1.trans r1 x2
  by_cases hl : i < xs.length
  · right
    rw [List.drop_eq_getElem_cons hl] at fl
    obtain ⟨ck, env', hb, fl⟩ := fl
    refine ⟨it.go i ρ2 h2 H2 r2 x2 ck hl, fun σ' H' => ∃ ρ' env' h', HR X.K A.ca ρ' h' H' ∧ Ext ρ1 H1 ρ' H' ∧ ER X.K ρ' H' env' σ' ∧ forL chk t wb Xs Dm (xs.drop (i + 1)) env' h', ?_, ?_⟩
    · rintro σ' H' ⟨ρ', env', h', a1, a2, a3, a4⟩
      exact ⟨xs.length - (i + 1), by omega, ρ', env', h', a1, a2, a3, a4, hl, rfl⟩
    · intro y H3 yl
      obtain ⟨r3, x3, m, hm, qm⟩ := it.yld i ρ2 h2 H2 y H3 r2 x2 ck hl yl
      have hm' : xs[i] = m := by rw [List.getElem?_eq_getElem hl] at hm; exact Option.some.inj hm
      rw [hm'] at hb
      have x13 := x2.trans r2 x3
      have x03 := x1.trans r1 x13
      refine gB_ok (us := t.ix) hb qm (e2.mono r2 x3) (fun i hi => hi) fun σ4 e4 _ => ?_
      have go : ∀ (env5 : Env) (h5 : MH), forL chk t wb Xs Dm (xs.drop (i + 1)) env5 h5 → ∀ ρ' H' σ', Ext ρ2 H3 ρ' H' → HR X.K A.ca ρ' h5 H' → ER X.K ρ' H' env5 σ' → ∃ ρ' env' h', HR X.K A.ca ρ' h' H' ∧ Ext ρ1 H1 ρ' H' ∧ ER X.K ρ' H' env' σ' ∧ forL chk t wb Xs Dm (xs.drop (i + 1)) env' h' :=
        fun env5 h5 d5 ρ' H' σ' x' r' e' => ⟨ρ', env5, h5, r', x13.trans r3 x', e', d5⟩
      exact ⟨ρ2, env', h2, _, Xs, r3, e4, fl, ⟨go, q.rt.mono r3 x03, fun env' h' d ρ' H' σ' x' r' e' => q.nx env' h' d ρ' H' σ' (x03.trans r3 x') r' e', go⟩, x.mono r3 x03⟩
  · left
    have hi' : xs.length ≤ i := Nat.le_of_not_lt hl
    rw [List.drop_eq_nil_of_le hi'] at fl
    obtain ⟨ck, fl⟩ := fl
    exact ⟨it.stop i ρ2 h2 H2 r2 x2 ck hi', q.nx env2 h2 fl ρ2 H2 σ2 x02 r2 e2⟩
theorem s_whl {body : List Stmt} {wb : WS} (hp : PassesOwn (model X.prog X.w) X.A X.env X.xe) (hc : PT X c (tT A X.K W dt')) (hb : PSs X body (tSt A X.K W wb)) :
    PS X (.While c body [] pos) (tSt A X.K W fun env h D Xs => ∃ W : Nat → Env → MH → Prop, (∃ m, W m env h) ∧ ∀ m env h, W m env h →
      dt' env h (fun k h1 => if k = true then wb env h1 { nx := fun e h => ∃ m', m' < m ∧ W m' e h, rt := D.rt, bk := D.nx, ct := fun e h => ∃ m', m' < m ∧ W m' e h } Xs else D.nx env h1) (fun x h => Xs x env h)) := by
  refine PS.weak (ps_while hp hc hb) fun D σ H ⟨ρ, env, h, Dm, Xs, r, e, ⟨Wm, ⟨m0, w0⟩, turn⟩, q, x⟩ => ?_
  refine ⟨fun m σ' H' => ∃ ρ' env' h', HR X.K A.ca ρ' h' H' ∧ Ext ρ H ρ' H' ∧ ER X.K ρ' H' env' σ' ∧ Wm m env' h', ⟨m0, ρ, env, h, r, .refl, e, w0⟩, ?_⟩
  rintro m σ1 H1 ⟨ρ1, env1, h1, r1, x1, e1, w1⟩
  refine ⟨ρ1, env1, h1, _, _, r1, e1, turn m env1 h1 w1, fun k h2 d2 ρ2 H2 x2 r2 => ?_, fun x0 h' z ρ' H' c d x2 r2 xr => x x0 env1 h' z ρ' H' σ1 c d (x1.trans r1 x2) r2 (e1.mono r1 x2) xr⟩
  have x02 := x1.trans r1 x2
  cases k with
  | false =>
    dsimp only at d2 ⊢
    rw [if_neg (by simp)] at d2 ⊢
    exact q.nx env1 h2 d2 ρ2 H2 σ1 x02 r2 (e1.mono r1 x2)
  | true =>
    dsimp only at d2 ⊢
    rw [if_pos rfl] at d2 ⊢
    refine ⟨fun σ' H' => ∃ m', m' < m ∧ ∃ ρ' env' h', HR X.K A.ca ρ' h' H' ∧ Ext ρ H ρ' H' ∧ ER X.K ρ' H' env' σ' ∧ Wm m' env' h', fun σ' H' z => z, ?_⟩
    have go : ∀ (env5 : Env) (h5 : MH), (∃ m', m' < m ∧ Wm m' env5 h5) → ∀ ρ' H' σ', Ext ρ2 H2 ρ' H' → HR X.K A.ca ρ' h5 H' → ER X.K ρ' H' env5 σ' → ∃ m', m' < m ∧ ∃ ρ' env' h', HR X.K A.ca ρ' h' H' ∧ Ext ρ H ρ' H' ∧ ER X.K ρ' H' env' σ' ∧ Wm m' env' h' :=
      fun env5 h5 ⟨m', hm, w5⟩ ρ' H' σ' x' r' e' => ⟨m', hm, ρ', env5, h5, r', x02.trans r2 x', e', w5⟩
    exact ⟨ρ2, env1, h2, _, Xs, r2, e1.mono r1 x2, d2, ⟨go, q.rt.mono r2 x02, fun env' h' d ρ' H' σ' x' r' e' => q.nx env' h' d ρ' H' σ' (x02.trans r2 x') r' e', go⟩, x.mono r2 x02⟩
end
end Wg
open PySem PySem.Spec PyProof.Rows
set_option linter.all false
set_option Elab.async false
namespace Wg
open L2
/-! ### the look that the small syntax is the text's -/
structure FD where
  name : Str
  ps : List Str
  N : List Str
  body : MSs
def FD.np (d : FD) : Nat := d.ps.length
structure MG where
  fns : List FD
  cons : List (Str × M)
def visB (sc : Scope) (x : Str) : Bool := match sc.names.lookup x with | some .local => true | some .cell => true | some .free => true | _ => false
def locB (sc : Scope) (x : Str) : Bool := match sc.names.lookup x with | some .local => true | some .cell => true | _ => false
def lclB (sc : Scope) (x : Str) : Bool := match sc.names.lookup x with | some .local => true | _ => false
def glB (sc : Scope) (x : Str) : Bool := match sc.names.lookup x with | some .globalImplicit => true | _ => false
def okN (x : Str) : Bool := !(x == ("__debug__" : Str)) && !(x == ("__classdict__" : Str)) && !(x == ("__name__" : Str))
theorem visB_ok {sc : Scope} {x : Str} (h : visB sc x = true) : Vis sc x := by
  unfold visB at h; unfold Vis
  split at h <;> simp_all
theorem locB_ok {sc : Scope} {x : Str} (h : locB sc x = true) : L2.Loc sc x := by
  unfold locB at h; unfold L2.Loc
  split at h <;> simp_all
theorem lclB_ok {sc : Scope} {x : Str} (h : lclB sc x = true) : sc.names.lookup x = some .local := by
  unfold lclB at h
  split at h <;> simp_all
theorem glB_ok {X : Cx} {x : Str} (h : glB X.env.scope x = true) : Gl X x := by
  unfold glB at h
  show X.env.scope.names.lookup x = _
  split at h <;> simp_all
theorem okN_ok {x : Str} (h : okN x = true) : (x == ("__debug__" : Str)) = false ∧ (x == ("__classdict__" : Str)) = false ∧ x ≠ ("__name__" : Str) := by
  simp only [okN, Bool.and_eq_true, Bool.not_eq_true'] at h
  exact ⟨h.1.1, h.1.2, by simpa using h.2⟩
def pmT : Pm → Bool
  | .tuple => true | .list => true | .str => true | .int => true | .dict => true | .dcopy => true | .dkeys => true | _ => false
def pmId : Pm → String
  | .len => "len" | .tuple => "tuple" | .list => "list" | .str => "str" | .int => "int" | .min2 => "min" | .max2 => "max" | .abs => "abs" | .all => "all" | .any => "any" | .sum => "sum" | .dict => "dict" | .dcopy => "dict" | .dkeys => "list" | .dlen => "len"
def pmNm (p : Pm) : Str := Str.ofString (pmId p)
theorem pm_boot (p : Pm) : bootBuiltins (pmNm p) = some (if pmT p then .type (pmId p) else .builtin (pmId p)) := by
  cases p <;> decide +kernel
theorem pm_nm (p : Pm) : okN (pmNm p) = true := by cases p <;> decide +kernel
theorem pm_callR {A : Ads} {X : Cx} (hc : X.calm = true) (p : Pm) : CallR X (if pmT p then .type (pmId p) else .builtin (pmId p)) (rP A X.K p) := by
  cases p
  · exact pmok_len
  · exact pmok_tuple
  · exact pmok_list
  · exact pmok_str
  · exact pmok_int
  · exact pmok_min2 hc
  · exact pmok_max2 hc
  · exact pmok_abs
  · exact pmok_all hc
  · exact pmok_any hc
  · exact pmok_sum hc
  · exact pmok_dict hc
  · exact pmok_dcopy
  · exact pmok_dkeys hc
  · exact pmok_dlen
def bltNames : List Str := ["len", "tuple", "list", "str", "int", "bool", "min", "max", "abs", "all", "any", "sum", "isinstance", "range", "enumerate", "zip", "dict", "set", "sorted", "reversed"]
def MEs.len : MEs → Nat
  | .nil => 0
  | .cons _ es => es.len + 1
def ownOf (N : List Str) (vs : List Nat) : List (Str × Nat) := vs.map fun i => (N.getD i Str.empty, i)
def mtT1 (sc : Scope) (N : List Str) (loc : Bool) (i : Nat) : Expr → Bool
  | .Name x _ => decide (N[i]? = some x) && (if loc then locB sc x else lclB sc x)
  | _ => false
def mtTs (sc : Scope) (N : List Str) (loc : Bool) : List Nat → List Expr → Bool
  | [], [] => true
  | i :: is, e :: es => mtT1 sc N loc i e && mtTs sc N loc is es
  | _, _ => false
def mtTb (sc : Scope) (N : List Str) (loc : Bool) : Tg → Expr → Bool
  | .nm i, e => mtT1 sc N loc i e
  | .tp is, .Tuple ts _ _ => mtTs sc N loc is ts
  | _, _ => false
def isTup : Expr → Bool
  | .Tuple .. => true
  | _ => false
section
variable (G : MG) (N : List Str)
mutual
def mtE (sc : Scope) : ME → Expr → Bool
  | .var i, .Name x _ => decide (N[i]? = some x) && visB sc x && okN x
  | .cst (.int i), .Constant (.int j) _ _ => i == j
  | .cst (.bl i), .Constant (.bool j) _ _ => i == j
  | .cst .non, .Constant .none _ _ => true
  | .cst (.str l), .Constant (.str s) _ _ => decide (s = mkS l)
  | .glb k, .Name x _ => glB sc x && okN x && (match G.cons[k]? with | some (y, _) => decide (y = x) | none => false)
  | .tup es, .Tuple es' _ _ => mtEs sc es es' && decide (es'.length ≤ 1000)
  | .lst es, .List es' _ => mtEs sc es es' && decide (es'.length ≤ 1000)
  | .bin op a b, .BinOp a' op' b' _ => decide (op = op') && mtE sc a a' && mtE sc b b'
  | .neg a, .UnaryOp .USub a' _ => mtE sc a a'
  | .cmp op a b, .Compare a' [op'] [b'] _ => decide (op = op') && !behindInMarks op b' && mtE sc a a' && mtE sc b b'
  | .chn o1 o2 a b c, .Compare a' [o1', o2'] [b', c'] _ => decide (o1 = o1') && decide (o2 = o2') && !lastMarks [o1, o2] [b', c'] && mtE sc a a' && mtE sc b b' && mtE sc c c'
  | .not a, .UnaryOp .Not a' _ => mtE sc a a'
  | .and es, .BoolOp .And es' _ => mtEs sc es es'
  | .or es, .BoolOp .Or es' _ => mtEs sc es es'
  | .ifx c a b, .IfExp c' a' b' _ => mtE sc c c' && mtE sc a a' && mtE sc b b'
  | .idx a b, .Subscript a' b' _ => mtE sc a a' && mtE sc b b' && plainE b'
  | .dix a b, .Subscript a' b' _ => mtE sc a a' && mtE sc b b' && plainE b'
  | .dnew, .Dict [] [] _ => true
  | .slc a lo hi, .Subscript a' (.Slice lo' hi' none _) _ => mtE sc a a' && mtO sc lo lo' && mtO sc hi hi'
  | .call f es, .Call (.Name x _) (e' :: es') [] _ => glB sc x && okN x && (match G.fns[f]? with | some d => decide (d.name = x) && decide (d.np = (e' :: es').length) | none => false) && mtEs sc es (e' :: es')
  | .prm p es, .Call (.Name x _) (e' :: es') [] _ => glB sc x && decide (x = pmNm p) && mtEs sc es (e' :: es')
  | .mth m o es, .Call (.Attribute o' nm apos) es' [] cpos => decide (nm = mtNm m) && (apos.endLine == cpos.line) && noSup o' && decide (es'.length < 29) && mtE sc o o' && mtEs sc es es'
  | .isi t a, .Call (.Name x _) [a', .Name y _] [] _ => decide (x = "isinstance") && decide (y = tyNm t) && glB sc x && glB sc y && plainE a' && mtE sc a a'
  | .comp vs t it c e, .ListComp e' [⟨tg, iter, ifs, z⟩] scope _ => decide (z = 0) && blkC N sc scope (ownOf N vs) && t.ix.all (fun i => decide (i ∈ vs)) && mtTb scope N true t tg && mtI sc it iter tg && mtC (relS scope sc) c ifs && mtE (relS scope sc) e e'
  | _, _ => false
termination_by structural x => x
def mtEs (sc : Scope) : MEs → List Expr → Bool
  | .nil, [] => true
  | .cons e es, e' :: es' => plainE e' && mtE sc e e' && mtEs sc es es'
  | _, _ => false
termination_by structural x => x
def mtO (sc : Scope) : MEo → Option Expr → Bool
  | .no, none => true
  | .so e, some e' => mtE sc e e'
  | _, _ => false
termination_by structural x => x
def mtC (sc : Scope) : MEo → List Expr → Bool
  | .no, [] => true
  | .so e, [e'] => mtE sc e e'
  | _, _ => false
termination_by structural x => x
def mtI (sc : Scope) : MI → Expr → Expr → Bool
  | .on e, e', _ => plainE e' && mtE sc e e'
  | .rng es, .Call (.Name x _) es' [] _, _ => decide (x = "range") && glB sc x && (es'.length == 1 || es'.length == 2) && mtEs sc es es'
  | .zip a b, .Call (.Name x _) [a', b'] [] _, .Tuple _ _ _ => decide (x = "zip") && glB sc x && plainE a' && plainE b' && mtE sc a a' && mtE sc b b'
  | _, _, _ => false
termination_by structural x => x
end
end
end Wg
open PySem PySem.Spec PyProof.Rows
set_option linter.all false
set_option Elab.async false
namespace Wg
open L2
/-! ### the small syntax is sound: expressions -/
structure Gd (A : Ads) (G : MG) (gl : Nat → M) (Φ : Nat → FS) (N : List Str) (k : Nat) (X : Cx) (W : WX) : Prop where
  calm : X.calm = true
  room : Room k X.A
  nN : X.N = N
  nd : X.N.Nodup
  tk : Takes X W
  po : PassesOwn (model X.prog X.w) X.A X.env X.xe
  kind : X.env.scope.kind = .function
  bl : ∀ x ∈ bltNames, X.mg x = none
  gc : ∀ i x m, G.cons[i]? = some (x, m) → gl i = m ∧ ∃ v u, X.mg x = some u ∧ RelV v u ∧ ∀ ρ H, Rep X.K ρ H m v
  fn : ∀ f d, G.fns[f]? = some d → X.mg d.name = some (.ref (A.fa f)) ∧ ∃ j, j ≤ k ∧ FnAt A X j (A.fa f) d.np (Φ f)
section
variable {A : Ads} {G : MG} {gl : Nat → M} {Φ : Nat → FS} {N : List Str} {k : Nat}
theorem Gd.blk {X : Cx} {W : WX} (g : Gd A G gl Φ N k X W) {scope : Scope} (hk : scope.kind = .function) (s : Shared) (H : Hp) (C : Addr) (cl : List (Str × Addr)) (fp : List Addr) :
    Gd A G gl Φ N k (X.blk s H scope (compEnvC scope cl C X.env) fp) (fun _ _ _ _ => False) :=
  ⟨g.calm, g.room, g.nN, g.nd, takes0, PassesOwn.never, hk, g.bl, g.gc, fun f d h => by
    obtain ⟨h1, j, h2, h3, h4⟩ := g.fn f d h
    exact ⟨h1, j, h2, h3, h4⟩⟩
theorem mtEs_len {sc : Scope} : ∀ {es : MEs} {es' : List Expr}, mtEs G N sc es es' = true → es.len = es'.length ∧ es'.all plainE = true
  | .nil, [], _ => ⟨rfl, rfl⟩
  | .nil, _ :: _, h => by simp [mtEs] at h
  | .cons _ _, [], h => by simp [mtEs] at h
  | .cons e es, e' :: es', h => by
    simp only [mtEs, Bool.and_eq_true] at h
    obtain ⟨h1, h2⟩ := mtEs_len h.2
    exact ⟨by simp [MEs.len, h1], by simp [h.1.1, h2]⟩
theorem pg1_ok {X : Cx} (hN : X.N.Nodup) {sc : Scope} {loc : Bool} {i : Nat} {tg : Expr} (h : mtT1 sc X.N loc i tg = true)
    (hl : ∀ x, (if loc then locB sc x else lclB sc x) = true → L2.Loc X.env.scope x ∧ (X.fn x = true ∨ X.env.scope.names.lookup x = some .local)) : PG X tg (gName i) ∧ (∀ ts, assignEach (tg :: ts) X.env = (false, assign tg X.env) :: assignEach ts X.env) := by
  unfold mtT1 at h
  split at h
  · rw [Bool.and_eq_true, decide_eq_true_eq] at h
    obtain ⟨h1, h2⟩ := hl _ h.2
    exact ⟨pg_name hN h.1 h1 h2, fun _ => rfl⟩
  · cases h
theorem pgs_ok {X : Cx} (hN : X.N.Nodup) {sc : Scope} {loc : Bool} (hl : ∀ x, (if loc then locB sc x else lclB sc x) = true → L2.Loc X.env.scope x ∧ (X.fn x = true ∨ X.env.scope.names.lookup x = some .local)) :
    ∀ {is : List Nat} {ts : List Expr}, mtTs sc X.N loc is ts = true → PGs X ts (gAll is) ∧ (assignEach ts X.env).length = is.length ∧ (assignEach ts X.env).findIdx? (·.1) = none
  | [], [], _ => ⟨pgs_nil, rfl, rfl⟩
  | [], _ :: _, h => by simp [mtTs] at h
  | _ :: _, [], h => by simp [mtTs] at h
  | i :: is, t :: ts, h => by
    simp only [mtTs, Bool.and_eq_true] at h
    obtain ⟨h1, h2⟩ := pg1_ok hN h.1 hl
    obtain ⟨i1, i2, i3⟩ := pgs_ok hN hl h.2
    refine ⟨pgs_cons h1 i1 (by rw [h2]; rfl), by rw [h2]; simp [i2], ?_⟩
    rw [h2, List.findIdx?_cons, i3]; rfl
theorem pgT_ok {X : Cx} (hc : X.calm = true) (hN : X.N.Nodup) (nN : X.N = N) {sc : Scope} {loc : Bool} {t : Tg} {tg : Expr} (h : mtTb sc N loc t tg = true)
    (hl : ∀ x, (if loc then locB sc x else lclB sc x) = true → L2.Loc X.env.scope x ∧ (X.fn x = true ∨ X.env.scope.names.lookup x = some .local)) : PG X tg (gB X.K t) ∧ (assignEach [tg] X.env).map (·.2) = [assign tg X.env] := by
  subst nN
  unfold mtTb at h
  split at h
  · obtain ⟨h1, h2⟩ := pg1_ok hN h hl
    exact ⟨h1, by rw [h2]; rfl⟩
  · obtain ⟨h1, h2, h3⟩ := pgs_ok hN hl h
    exact ⟨pg_tup hc h1 h2 h3, rfl⟩
  · cases h
theorem blk_loc {X : Cx} {scope : Scope} {x : Str} (s : Shared) (H : Hp) (C : Addr) (cl : List (Str × Addr)) (fp : List Addr) (h : locB scope x = true) :
    L2.Loc (X.blk s H scope (compEnvC scope cl C X.env) fp).env.scope x ∧ ((X.blk s H scope (compEnvC scope cl C X.env) fp).fn x = true ∨ (X.blk s H scope (compEnvC scope cl C X.env) fp).env.scope.names.lookup x = some .local) := by
  have e : (X.blk s H scope (compEnvC scope cl C X.env) fp).env.scope = relS scope X.env.scope := rfl
  rw [e]
  unfold locB at h
  split at h
  · rename_i q
    have z := lookup_relS_keep (sc := X.env.scope) (by simp : NameKind.local ≠ .free) q
    exact ⟨.inl z, .inr z⟩
  · rename_i q
    have z := lookup_relS_keep (sc := X.env.scope) (by simp : NameKind.cell ≠ .free) q
    refine ⟨.inr z, .inl ?_⟩
    show (scope.names.lookup x == some .cell) = true
    rw [q]; rfl
  · cases h
theorem own_ix (vs : List Nat) : (ownOf N vs).map (·.2) = vs := by
  unfold ownOf
  rw [List.map_map]
  induction vs with
  | nil => rfl
  | cons v vs ih => simp only [List.map_cons, ih]; rfl
theorem blk_kind {sc scope : Scope} {own : List (Str × Nat)} (h : blkC N sc scope own = true) : scope.kind = .function := (blkOk_by h).kind
theorem plain_mt {sc : Scope} {m : ME} {e : Expr} (h : mtE G N sc m e = true) : plainE e = true := by
  unfold mtE at h
  split at h <;> first | rfl | cases h
theorem true_of {e : Expr} {sc : Scope} {m : ME} (h : mtE G N sc m e = true) (hm : (∃ i, m = .var i) ∨ (∃ f es, m = .call f es) ∨ (∃ p es, m = .prm p es) ∨ (∃ c, m = .cst c) ∨ (∃ t a, m = .isi t a) ∨ ∃ a b, m = .idx a b) (env : PySem.Env) :
    ∀ whole, isTrue e env whole = (do let v ← whole; standAt e.pos; holding [v] (truthy v)) := by
  intro whole
  rcases hm with ⟨i, rfl⟩ | ⟨f, es, rfl⟩ | ⟨p, es, rfl⟩ | ⟨c, rfl⟩ | ⟨t, a, rfl⟩ | ⟨a, b, rfl⟩ <;> unfold mtE at h <;> split at h <;> first | rfl | contradiction | cases h
theorem okMI_fold {sc : Scope} {i : MI} {e tg : Expr} (h : mtI G N sc i e tg = true) (env : PySem.Env) : ∀ x, foldedSetIterable e env x = pure x := by
  unfold mtI at h
  split at h
  · rw [Bool.and_eq_true] at h
    exact plain_fold h.1 env
  · intro x; rfl
  · intro x; rfl
  · cases h
/-! and, or -/
section
variable {X : Cx} {W : WX} {a b e : Expr} {rest : List Expr} {da : WE} {db : WE} {dt' du : WT} {pos : Pos}
theorem e_one {op} (ha : PE X a (tE A X.K W da)) : PE X (.BoolOp op [a] pos) (tE A X.K W da) := pe_one ha
theorem e_and (ha : PE X a (tE A X.K W da)) (hb : PE X (.BoolOp .And (b :: rest) pos) (tE A X.K W db)) : PE X (.BoolOp .And (a :: b :: rest) pos) (tE A X.K W fun env h Q Xm => da env h (fun v h1 => ∃ k, truV h1 v = some k ∧ if k = true then db env h1 Q Xm else Q v h1) Xm) := by
  refine PE.weak (pe_andT ha hb) fun σ H Q ⟨ρ, env, h, Qm, Xm, r, e, d, q, x⟩ => ?_
  refine ⟨ρ, env, h, _, Xm, r, e, d, q_then r e x fun v h1 ρ1 H1 v1 d1 x1 r1 e1 X1 p1 => ?_, x⟩
  obtain ⟨k, hk, d1⟩ := d1
  refine ⟨k, truV_rep r1 p1 hk, ?_⟩
  cases k with
  | true => exact ⟨ρ1, env, h1, _, Xm, r1, e1, d1, q.mono r1 x1, X1⟩
  | false => exact (q.mono r1 x1).here r1 d1 p1
theorem e_or (ha : PE X a (tE A X.K W da)) (hb : PE X (.BoolOp .Or (b :: rest) pos) (tE A X.K W db)) : PE X (.BoolOp .Or (a :: b :: rest) pos) (tE A X.K W fun env h Q Xm => da env h (fun v h1 => ∃ k, truV h1 v = some k ∧ if k = true then Q v h1 else db env h1 Q Xm) Xm) := by
  refine PE.weak (pe_orT ha hb) fun σ H Q ⟨ρ, env, h, Qm, Xm, r, e, d, q, x⟩ => ?_
  refine ⟨ρ, env, h, _, Xm, r, e, d, q_then r e x fun v h1 ρ1 H1 v1 d1 x1 r1 e1 X1 p1 => ?_, x⟩
  obtain ⟨k, hk, d1⟩ := d1
  refine ⟨k, truV_rep r1 p1 hk, ?_⟩
  cases k with
  | false => exact ⟨ρ1, env, h1, _, Xm, r1, e1, d1, q.mono r1 x1, X1⟩
  | true => exact (q.mono r1 x1).here r1 d1 p1
theorem t_and1 (ha : PT X a (tT A X.K W dt')) : PW X (.BoolOp .And [a] pos) (tT A X.K W fun env h Q Xm => dt' env h (fun k h1 => if k = true then Q true h1 else Q false h1) Xm) := by
  refine PW.weak (pw_and1 ha) fun σ H Q ⟨ρ, env, h, Qm, Xm, r, e, d, q, x⟩ => ⟨ρ, env, h, _, Xm, r, e, d, fun k h1 d1 ρ1 H1 x1 r1 => ?_, x⟩
  cases k with
  | true => exact q true h1 d1 ρ1 H1 x1 r1
  | false => exact q false h1 d1 ρ1 H1 x1 r1
theorem t_or1 (ha : PT X a (tT A X.K W dt')) : PW X (.BoolOp .Or [a] pos) (tT A X.K W fun env h Q Xm => dt' env h (fun k h1 => if k = true then Q true h1 else Q false h1) Xm) := by
  refine PW.weak (pw_or1 ha) fun σ H Q ⟨ρ, env, h, Qm, Xm, r, e, d, q, x⟩ => ⟨ρ, env, h, _, Xm, r, e, d, fun k h1 d1 ρ1 H1 x1 r1 => ?_, x⟩
  cases k with
  | true => exact q true h1 d1 ρ1 H1 x1 r1
  | false => exact q false h1 d1 ρ1 H1 x1 r1
theorem t_and (ha : PT X a (tT A X.K W dt')) (hb : PW X (.BoolOp .And (b :: rest) pos) (tT A X.K W du)) : PW X (.BoolOp .And (a :: b :: rest) pos) (tT A X.K W fun env h Q Xm => dt' env h (fun k h1 => if k = true then du env h1 Q Xm else Q false h1) Xm) := by
  refine PW.weak (pw_and ha hb) fun σ H Q ⟨ρ, env, h, Qm, Xm, r, e, d, q, x⟩ => ⟨ρ, env, h, _, Xm, r, e, d, fun k h1 d1 ρ1 H1 x1 r1 => ?_, x⟩
  cases k with
  | true => exact ⟨ρ1, env, h1, _, Xm, r1, e.mono r x1, d1, fun k h2 d2 ρ2 H2 x2 r2 => q k h2 d2 ρ2 H2 (x1.trans r1 x2) r2, x.mono r1 x1⟩
  | false => exact q false h1 d1 ρ1 H1 x1 r1
theorem t_or (ha : PT X a (tT A X.K W dt')) (hb : PW X (.BoolOp .Or (b :: rest) pos) (tT A X.K W du)) : PW X (.BoolOp .Or (a :: b :: rest) pos) (tT A X.K W fun env h Q Xm => dt' env h (fun k h1 => if k = true then Q true h1 else du env h1 Q Xm) Xm) := by
  refine PW.weak (pw_or ha hb) fun σ H Q ⟨ρ, env, h, Qm, Xm, r, e, d, q, x⟩ => ⟨ρ, env, h, _, Xm, r, e, d, fun k h1 d1 ρ1 H1 x1 r1 => ?_, x⟩
  cases k with
  | false => exact ⟨ρ1, env, h1, _, Xm, r1, e.mono r x1, d1, fun k h2 d2 ρ2 H2 x2 r2 => q k h2 d2 ρ2 H2 (x1.trans r1 x2) r2, x.mono r1 x1⟩
  | true => exact q true h1 d1 ρ1 H1 x1 r1
theorem t_no : PT X e (tT A X.K W fun _ _ _ _ => False) := ⟨fun pins s σ H Q I ⟨_, _, _, _, _, _, _, d, _⟩ => d.elim⟩
theorem e_no : PE X e (tE A X.K W fun _ _ _ _ => False) := ⟨fun pins s σ H Q I ⟨_, _, _, _, _, _, _, d, _⟩ => d.elim⟩
end
theorem t_isi {X : Cx} {W : WX} {a : Expr} {da : WE} {p p2 pos : Pos} {t : Ty} (he : ∀ whole, isTrue (.Call (.Name "isinstance" p) [a, .Name (tyNm t) p2] [] pos) X.env whole = (do let v ← whole; standAt pos; holding [v] (truthy v)))
    (hg : Gl X "isinstance") (hm : X.mg "isinstance" = none) (hg2 : Gl X (tyNm t)) (hm2 : X.mg (tyNm t) = none) (ha : PE X a (tE A X.K W da)) (hs : ∀ es, starEach (a :: es) X.env = (false, eval a X.env) :: starEach es X.env) :
    PT X (.Call (.Name "isinstance" p) [a, .Name (tyNm t) p2] [] pos) (tT A X.K W fun env h Q Xm => da env h (fun v h1 => ∃ b, isiV t h1 v = some b ∧ Q b h1) Xm) := by
  refine PT.weak (t_val he (e_isi hg hm hg2 hm2 ha hs)) fun σ H Q ⟨ρ, env, h, Qm, Xm, r, e, d, q, x⟩ => ?_
  refine ⟨ρ, env, h, Qm, Xm, r, e, ?_, q, x⟩
  have z : (fun (v : M) (h1 : MH) => ∃ b, isiV t h1 v = some b ∧ ∃ k, truV h1 (.bl b) = some k ∧ Qm k h1) = fun v h1 => ∃ b, isiV t h1 v = some b ∧ Qm b h1 := by
    funext v h1
    simp [truV]
  show da env h (fun (v : M) (h1 : MH) => ∃ b, isiV t h1 v = some b ∧ ∃ k, truV h1 (.bl b) = some k ∧ Qm k h1) Xm
  rw [z]; exact d
theorem both {P Q : Prop} (p : P) (q : P → Q) : P ∧ Q := ⟨p, q p⟩
theorem Gd.hu {X : Cx} {W : WX} (g : Gd A G gl Φ N k X W) : X.A.units + 64 < cLine := g.room.units
mutual
theorem okM : ∀ (m : ME) (X : Cx) (W : WX), Gd A G gl Φ N k X W → ∀ e, mtE G N X.env.scope m e = true → PE X e (tE A X.K W (wE gl Φ m)) ∧ PT X e (tT A X.K W (wT gl Φ m))
  | .var i, X, W, g, e, h => by
    have h0 := h
    unfold mtE at h; split at h <;> first | contradiction | skip
    simp only [Bool.and_eq_true, decide_eq_true_eq] at h
    cases ‹ME.var _ = ME.var _›
    have hv := okN_ok h.2
    refine both (e_var (by rw [g.nN]; exact h.1.1) (visB_ok h.1.2) hv.1 hv.2.1) fun p => ?_
    refine PT.weak (t_val (true_of h0 (.inl ⟨_, rfl⟩) _) p) fun σ H Q ⟨ρ, env, h, Qm, Xm, r, e, ⟨v, hv, d⟩, q, x⟩ => ⟨ρ, env, h, Qm, Xm, r, e, ⟨v, hv, d⟩, q, x⟩
  | .cst m, X, W, g, e, h => by
    have h0 := h
    have p : PE X e (tE A X.K W (wE gl Φ (.cst m))) := by
      unfold mtE at h; split at h <;> first | contradiction | skip
      · cases ‹ME.cst _ = ME.cst _›
        obtain rfl := eq_of_beq h
        exact e_cst pe_int fun _ _ => .int _
      · cases ‹ME.cst _ = ME.cst _›
        obtain rfl := eq_of_beq h
        exact e_cst pe_bl fun _ _ => .bl _
      · cases ‹ME.cst _ = ME.cst _›
        exact e_cst pe_non fun _ _ => .non
      · cases ‹ME.cst _ = ME.cst _›
        rw [decide_eq_true_eq] at h
        subst h
        exact e_cst pe_str fun _ _ => .str _
    exact ⟨p, PT.weak (t_val (true_of h0 (.inr (.inr (.inr (.inl ⟨_, rfl⟩)))) _) p) fun σ H Q z => z⟩
  | .glb i, X, W, g, e, h => by
    refine ⟨?_, t_no⟩
    unfold mtE at h; split at h <;> first | contradiction | skip
    cases ‹ME.glb _ = ME.glb _›
    simp only [Bool.and_eq_true] at h
    obtain ⟨⟨h1, h2⟩, h3⟩ := h
    split at h3
    · rename_i y m hq
      rw [decide_eq_true_eq] at h3
      subst h3
      obtain ⟨e1, v, u, e2, e3, e4⟩ := g.gc _ _ _ hq
      refine PE.weak (e_cst (A := A) (W := W) (m := m) (pe_glob (glB_ok h1) e2 e3 (okN_ok h2).1) e4) fun σ H Q ⟨ρ, env, h, Qm, Xm, r, e, d, q, x⟩ => ⟨ρ, env, h, Qm, Xm, r, e, ?_, q, x⟩
      show Qm m h
      rw [← e1]; exact d
    · cases h3
  | .tup es, X, W, g, e, h => by
    refine ⟨?_, t_no⟩
    unfold mtE at h; split at h <;> first | contradiction | skip
    cases ‹ME.tup _ = ME.tup _›
    simp only [Bool.and_eq_true, decide_eq_true_eq] at h
    exact e_tup (Nat.le_trans h.2 (by decide)) (okMs es X W g _ h.1).1
  | .lst es, X, W, g, e, h => by
    refine ⟨?_, t_no⟩
    unfold mtE at h; split at h <;> first | contradiction | skip
    cases ‹ME.lst _ = ME.lst _›
    simp only [Bool.and_eq_true, decide_eq_true_eq] at h
    exact e_lst (Nat.le_trans h.2 (by decide)) (okMs es X W g _ h.1).1
  | .bin op a b, X, W, g, e, h => by
    refine ⟨?_, t_no⟩
    unfold mtE at h; split at h <;> first | contradiction | skip
    cases ‹ME.bin _ _ _ = ME.bin _ _ _›
    simp only [Bool.and_eq_true, decide_eq_true_eq] at h
    obtain ⟨⟨rfl, h1⟩, h2⟩ := h
    exact e_bin (okM a X W g _ h1).1 (okM b X W g _ h2).1
  | .neg a, X, W, g, e, h => by
    refine ⟨?_, t_no⟩
    unfold mtE at h; split at h <;> first | contradiction | skip
    cases ‹ME.neg _ = ME.neg _›
    exact e_neg (okM a X W g _ h).1
  | .cmp op a b, X, W, g, e, h => by
    unfold mtE at h; split at h <;> first | contradiction | skip
    cases ‹ME.cmp _ _ _ = ME.cmp _ _ _›
    simp only [Bool.and_eq_true, decide_eq_true_eq, Bool.not_eq_true'] at h
    obtain ⟨⟨⟨rfl, h0⟩, h1⟩, h2⟩ := h
    exact ⟨e_cmp g.hu (okM a X W g _ h1).1 (okM b X W g _ h2).1 h0, t_cmp g.hu (okM a X W g _ h1).1 (okM b X W g _ h2).1 h0⟩
  | .chn o1 o2 a b c, X, W, g, e, h => by
    unfold mtE at h; split at h <;> first | contradiction | skip
    cases ‹ME.chn _ _ _ _ _ = ME.chn _ _ _ _ _›
    simp only [Bool.and_eq_true, decide_eq_true_eq, Bool.not_eq_true'] at h
    obtain ⟨⟨⟨⟨⟨rfl, rfl⟩, h0⟩, h1⟩, h2⟩, h3⟩ := h
    exact ⟨e_chn g.hu (okM a X W g _ h1).1 (okM b X W g _ h2).1 (okM c X W g _ h3).1 h0, t_chn g.hu (okM a X W g _ h1).1 (okM b X W g _ h2).1 (okM c X W g _ h3).1 h0⟩
  | .not a, X, W, g, e, h => by
    unfold mtE at h; split at h <;> first | contradiction | skip
    cases ‹ME.not _ = ME.not _›
    exact ⟨e_notV (okM a X W g _ h).1, e_not (okM a X W g _ h).2⟩
  | .and es, X, W, g, e, h => by
    unfold mtE at h; split at h <;> first | contradiction | skip
    cases ‹ME.and _ = ME.and _›
    have z := (okMs es X W g _ h).2 ‹Pos›
    exact ⟨z.1, z.2.2.1.pt⟩
  | .or es, X, W, g, e, h => by
    unfold mtE at h; split at h <;> first | contradiction | skip
    cases ‹ME.or _ = ME.or _›
    have z := (okMs es X W g _ h).2 ‹Pos›
    exact ⟨z.2.1, z.2.2.2.pt⟩
  | .ifx c a b, X, W, g, e, h => by
    refine ⟨?_, t_no⟩
    unfold mtE at h; split at h <;> first | contradiction | skip
    cases ‹ME.ifx _ _ _ = ME.ifx _ _ _›
    simp only [Bool.and_eq_true] at h
    exact e_ifx (okM c X W g _ h.1.1).2 (okM a X W g _ h.1.2).1 (okM b X W g _ h.2).1
  | .idx a b, X, W, g, e, h => by
    have h0 := h
    unfold mtE at h; split at h <;> first | contradiction | skip
    cases ‹ME.idx _ _ = ME.idx _ _›
    simp only [Bool.and_eq_true] at h
    exact both (e_idx (plain_ix h.2) (okM a X W g _ h.1.1).1 (okM b X W g _ h.1.2).1) fun p => PT.weak (t_val (true_of h0 (.inr (.inr (.inr (.inr (.inr ⟨_, _, rfl⟩))))) _) p) fun σ H Q z => z
  | .dix a b, X, W, g, e, h => by
    refine ⟨?_, t_no⟩
    unfold mtE at h; split at h <;> first | contradiction | skip
    cases ‹ME.dix _ _ = ME.dix _ _›
    simp only [Bool.and_eq_true] at h
    exact e_dix g.hu (plain_ix h.2) (okM a X W g _ h.1.1).1 (okM b X W g _ h.1.2).1
  | .dnew, X, W, g, e, h => by
    refine ⟨?_, t_no⟩
    unfold mtE at h; split at h <;> first | contradiction | skip
    exact e_dnew
  | .slc a lo hi, X, W, g, e, h => by
    refine ⟨?_, t_no⟩
    unfold mtE at h; split at h <;> first | contradiction | skip
    cases ‹ME.slc _ _ _ = ME.slc _ _ _›
    simp only [Bool.and_eq_true] at h
    exact e_slc (okM a X W g _ h.1.1).1 ((okMo lo X W g).1 _ h.1.2) ((okMo hi X W g).1 _ h.2)
  | .call f es, X, W, g, e, h => by
    have h0 := h
    unfold mtE at h; split at h <;> first | contradiction | skip
    cases ‹ME.call _ _ = ME.call _ _›
    simp only [Bool.and_eq_true] at h
    obtain ⟨⟨⟨h1, h2⟩, h3⟩, h4⟩ := h
    split at h3
    · rename_i d hd
      simp only [Bool.and_eq_true, decide_eq_true_eq] at h3
      obtain ⟨rfl, h5⟩ := h3
      obtain ⟨e1, j, e2, F⟩ := g.fn _ _ hd
      obtain ⟨l1, l2⟩ := mtEs_len h4
      have pl := l2
      rw [List.all_cons, Bool.and_eq_true] at pl
      exact both (e_call F (g.room.mono e2) (glB_ok h1) e1 g.tk h5.symm (okMs es X W g _ h4).1 (okN_ok h2).1 (plain_star pl.1 _ _) (plain_any pl.2)) fun p => PT.weak (t_val (true_of h0 (.inr (.inl ⟨_, _, rfl⟩)) _) p) fun σ H Q z => z
    · cases h3
  | .prm pm es, X, W, g, e, h => by
    have h0 := h
    unfold mtE at h; split at h <;> first | contradiction | skip
    cases ‹ME.prm _ _ = ME.prm _ _›
    simp only [Bool.and_eq_true, decide_eq_true_eq] at h
    obtain ⟨⟨h1, rfl⟩, h4⟩ := h
    obtain ⟨l1, l2⟩ := mtEs_len h4
    have pl := l2
    rw [List.all_cons, Bool.and_eq_true] at pl
    have on := okN_ok (pm_nm pm)
    refine both (e_prm (T := pmT pm) (id := pmId pm) (pm_callR g.calm pm) (glB_ok h1) (g.bl _ (by cases pm <;> decide)) (pm_boot pm) (okMs es X W g _ h4).1 on.2.2 on.1 (plain_star pl.1 _ _) (plain_any pl.2)) fun p => PT.weak (t_val (true_of h0 (.inr (.inr (.inl ⟨_, _, rfl⟩))) _) p) fun σ H Q z => z
  | .mth m o es, X, W, g, e, h => by
    refine ⟨?_, t_no⟩
    unfold mtE at h; split at h <;> first | contradiction | skip
    cases ‹ME.mth _ _ _ = ME.mth _ _ _›
    simp only [Bool.and_eq_true, decide_eq_true_eq] at h
    obtain ⟨⟨⟨⟨⟨rfl, h1⟩, h2⟩, h3⟩, h4⟩, h5⟩ := h
    obtain ⟨l1, l2⟩ := mtEs_len h5
    have po := (okM o X W g _ h4).1
    have pa := (okMs es X W g _ h5).1
    rename_i es'' _
    cases es'' with
    | nil =>
      cases es with
      | nil => exact e_mth0 (by have := g.hu; omega) po (noSup_base h2 _ _ _) h1
      | cons _ _ => simp [mtEs] at h5
    | cons e' es' =>
      have pl := l2
      rw [List.all_cons, Bool.and_eq_true] at pl
      exact e_mth (by have := g.hu; omega) po pa (noSup_base h2 _ _ _) h1 (plain_few l2 h3) (plain_star pl.1 _ _) (plain_any pl.2)
  | .isi t a, X, W, g, e, h => by
    have h0 := h
    unfold mtE at h; split at h <;> first | contradiction | skip
    cases ‹ME.isi _ _ = ME.isi _ _›
    simp only [Bool.and_eq_true, decide_eq_true_eq] at h
    obtain ⟨⟨⟨⟨⟨rfl, rfl⟩, h1⟩, h2⟩, h3⟩, h4⟩ := h
    refine both (e_isi (glB_ok h1) (g.bl _ (by decide)) (glB_ok h2) (g.bl _ (by cases t <;> decide)) (okM a X W g _ h4).1 fun es => plain_star h3 es _) fun p => ?_
    exact t_isi (true_of h0 (.inr (.inr (.inr (.inr (.inl ⟨_, _, rfl⟩))))) _) (glB_ok h1) (g.bl _ (by decide)) (glB_ok h2) (g.bl _ (by cases t <;> decide)) (okM a X W g _ h4).1 fun es => plain_star h3 es _
  | .comp vs t it c e0, X, W, g, e, h => by
    refine ⟨?_, t_no⟩
    unfold mtE at h; split at h <;> first | contradiction | skip
    cases ‹ME.comp _ _ _ _ _ = ME.comp _ _ _ _ _›
    simp only [Bool.and_eq_true, decide_eq_true_eq] at h
    obtain ⟨⟨⟨⟨⟨⟨rfl, h1⟩, h2⟩, h3⟩, h4⟩, h5⟩, h6⟩ := h
    have ok := blkOk_by h1
    rw [← g.nN] at ok
    have gk := fun s H C cl fp => g.blk ok.kind s H C cl fp
    refine PE.weak (pe_lc (g := gB X.K t) (tt := tT A X.K (fun _ _ _ _ => False) (wC gl Φ c)) (te := tE A X.K (fun _ _ _ _ => False) (wE gl Φ e0)) g.calm g.nd (okMI it X W g _ _ h4) ok
      (fun s H C cl fp => (pgT_ok (X := X.blk s H _ (compEnvC _ cl C X.env) fp) (gk s H C cl fp).calm (gk s H C cl fp).nd (gk s H C cl fp).nN h3 fun x hx => blk_loc s H C cl fp (by simpa using hx)).1) (fun s H C cl fp => (okMo c _ _ (gk s H C cl fp)).2 _ h5)
      (fun s H C cl fp => (okM e0 _ _ (gk s H C cl fp) _ h6).1) (okMI_fold h4 _)) fun σ H Q z => ?_
    rw [own_ix]
    exact comp_ok (W := W) (fun i hi => by simpa using List.all_eq_true.mp h2 i hi) z
theorem okMs : ∀ (es : MEs) (X : Cx) (W : WX), Gd A G gl Φ N k X W → ∀ es', mtEs G N X.env.scope es es' = true → PA X es' (tAs A X.K es'.length W (wEs gl Φ es)) ∧
    ∀ pos, PE X (.BoolOp .And es' pos) (tE A X.K W (wAnd gl Φ es)) ∧ PE X (.BoolOp .Or es' pos) (tE A X.K W (wOr gl Φ es)) ∧ PW X (.BoolOp .And es' pos) (tT A X.K W (wAndT gl Φ es)) ∧ PW X (.BoolOp .Or es' pos) (tT A X.K W (wOrT gl Φ es))
  | .nil, X, W, g, es', h => by
    cases es' with
    | cons _ _ => simp [mtEs] at h
    | nil =>
      refine ⟨a_nil, fun pos => ⟨e_no, e_no, ?_, ?_⟩⟩
      · exact ⟨fun wh pins s σ H Q I ⟨ρ, env, h, Qm, Xm, r, e, d, q, x⟩ => isTrue_and_nil ⟨H, I, q true h d ρ H .refl r⟩⟩
      · exact ⟨fun wh pins s σ H Q I ⟨ρ, env, h, Qm, Xm, r, e, d, q, x⟩ => isTrue_or_nil ⟨H, I, q false h d ρ H .refl r⟩⟩
  | .cons e es, X, W, g, es', h => by
    cases es' with
    | nil => simp [mtEs] at h
    | cons e' es' =>
      simp only [mtEs, Bool.and_eq_true] at h
      have pe := okM e X W g _ h.1.2
      have ps := okMs es X W g _ h.2
      refine ⟨a_cons (plain_star h.1.1 _ _) pe.1 ps.1, fun pos => ?_⟩
      obtain ⟨p1, p2, p3, p4⟩ := ps.2 pos
      cases es with
      | nil =>
        cases es' with
        | cons _ _ => simp [mtEs] at h
        | nil => exact ⟨e_one pe.1, e_one pe.1, t_and1 pe.2, t_or1 pe.2⟩
      | cons e2 es =>
        cases es' with
        | nil => simp [mtEs] at h
        | cons e2' es' => exact ⟨e_and pe.1 p1, e_or pe.1 p2, t_and pe.2 p3, t_or pe.2 p4⟩
theorem okMo : ∀ (o : MEo) (X : Cx) (W : WX), Gd A G gl Φ N k X W → (∀ o', mtO G N X.env.scope o o' = true → PO X o' (tOp A X.K W (wO gl Φ o))) ∧ ∀ cs, mtC G N X.env.scope o cs = true → PTs X cs (tT A X.K W (wC gl Φ o))
  | .no, X, W, g => by
    refine ⟨fun o' h => ?_, fun cs h => ?_⟩
    · cases o' with
      | none => exact o_no
      | some _ => simp [mtO] at h
    · cases cs with
      | nil => exact PTs.weak pts_nil fun σ H Q ⟨ρ, env, h, Qm, Xm, r, e, d, q, x⟩ => q true h d ρ H .refl r
      | cons _ _ => simp [mtC] at h
  | .so e, X, W, g => by
    refine ⟨fun o' h => ?_, fun cs h => ?_⟩
    · cases o' with
      | none => simp [mtO] at h
      | some e' => exact o_so (okM e X W g _ (by simpa [mtO] using h)).1
    · match cs, h with
      | [], h => simp [mtC] at h
      | [c], h => exact pts_one (okM e X W g _ (by simpa [mtC] using h)).2
      | _ :: _ :: _, h => simp [mtC] at h
theorem okMI : ∀ (i : MI) (X : Cx) (W : WX), Gd A G gl Φ N k X W → ∀ e tg, mtI G N X.env.scope i e tg = true → PI X tg e (tIt A X.K W (wI gl Φ i))
  | .on e, X, W, g, e', tg, h => by
    simp only [mtI, Bool.and_eq_true] at h
    exact i_on (okM e X W g _ h.2).1
  | .rng es, X, W, g, e', tg, h => by
    unfold mtI at h; split at h <;> first | contradiction | skip
    cases ‹MI.rng _ = MI.rng _›
    simp only [Bool.and_eq_true, decide_eq_true_eq, Bool.or_eq_true] at h
    obtain ⟨⟨⟨rfl, h1⟩, h2⟩, h3⟩ := h
    obtain ⟨l1, l2⟩ := mtEs_len h3
    have pa := (okMs es X W g _ h3).1
    rename_i es' _
    match es', h2, l2, pa with
    | [], h2, _, _ => simp at h2
    | [a], _, l2, pa =>
      simp only [List.all_cons, List.all_nil, Bool.and_true] at l2
      exact i_rng1 (glB_ok h1) (g.bl _ (by decide)) (plain_star l2 _ _) pa
    | [a, b], _, l2, pa =>
      simp only [List.all_cons, List.all_nil, Bool.and_true, Bool.and_eq_true] at l2
      exact i_rng2 (glB_ok h1) (g.bl _ (by decide)) (by rw [plain_star l2.1, plain_star l2.2]; rfl) (plain_star l2.2 _ _) pa
    | _ :: _ :: _ :: _, h2, _, _ => simp at h2
  | .enm e, X, W, g, e', tg, h => by simp [mtI] at h
  | .zip a b, X, W, g, e', tg, h => by
    unfold mtI at h; split at h <;> first | contradiction | skip
    cases ‹MI.zip _ _ = MI.zip _ _›
    simp only [Bool.and_eq_true, decide_eq_true_eq] at h
    obtain ⟨⟨⟨⟨⟨rfl, h1⟩, h2⟩, h3⟩, h4⟩, h5⟩ := h
    exact i_zip (glB_ok h1) (g.bl _ (by decide)) (plain_star h2 _ _) (plain_any (es := [_]) (by simpa using h3)) (plain_star h3 _ _) (okM a X W g _ h4).1 (okM b X W g _ h5).1
end
end
end Wg
open PySem PySem.Spec PyProof.Rows
set_option linter.all false
set_option Elab.async false
namespace Wg
open L2
/-! ### statements, defs -/
def isNm : Expr → Bool
  | .Name .. => true
  | _ => false
theorem name_stores {e tg : Expr} (h : isNm tg = true) (env : PySem.Env) : swappedStores [tg] e env = pure none := by
  cases tg <;> first | (simp [isNm] at h; done) | skip
  unfold swappedStores
  split
  · rename_i heq
    split at heq
    · rename_i z; cases z
    · rename_i z; cases z
    · cases heq
  · rfl
theorem sub_stores {e o k : Expr} {p : Pos} (env : PySem.Env) : swappedStores [.Subscript o k p] e env = pure none := by
  unfold swappedStores
  split
  · rename_i heq
    split at heq
    · rename_i z; cases z
    · rename_i z; cases z
    · cases heq
  · rfl
def swC (sc scope : Scope) (y : Str) (py pos : Pos) : Bool :=
  lclB sc y && (py.line == pos.line) && !(scope.names.any fun (n, k) => n == y && (k == .local || k == .cell))
theorem sw_ok {elt : Expr} {gs : List Comprehension} {scope : Scope} {pos py : Pos} {y : Str} {l : Nat} {env : PySem.Env} (hk : env.scope.kind = .function) :
    swapsWith (.ListComp elt gs scope pos) (some (.Name y py)) l env = pure (swC env.scope scope y py pos) := by
  have hb : env.blockKind = .function := by unfold Env.blockKind; rw [hk]; rfl
  have ky : (env.kindOf y == some .local) = lclB env.scope y := by
    show (env.scope.names.lookup y == some .local) = _
    unfold lclB
    cases env.scope.names.lookup y with
    | none => rfl
    | some k => cases k <;> rfl
  unfold swapsWith swC
  simp only [hb, ky, Expr.pos]
  rfl
section
variable (G : MG) (N : List Str)
mutual
def mtS (sc : Scope) : MS → Stmt → Bool
  | .asg t e, .Assign [tg] e' _ => mtTb sc N true t tg && mtE G N sc e e' && ((notComp e' && (notTup e' || isNm tg)) || isNm tg)
  | .par [i, j] es, .Assign [.Tuple [.Name x px, .Name y py] _ _] (.Tuple [a, b] _ _) _ =>
    decide (N[i]? = some x) && decide (N[j]? = some y) && decide (i ≠ j) && lclB sc x && lclB sc y && (py.line == px.line) && !(x == y) && [a, b].all plainE && !([a, b].all (foldedForSure 8)) && !([a, b].all (constantsAlone 8)) && mtEs G N sc es [a, b]
  | .sub o i e, .Assign [.Subscript o' i' _] e' _ => plainE i' && notComp e' && mtE G N sc o o' && mtE G N sc i i' && mtE G N sc e e'
  | .dsb o i e, .Assign [.Subscript o' i' _] e' _ => notComp e' && mtE G N sc o o' && mtE G N sc i i' && mtE G N sc e e'
  | .dd, _ => true
  | .aug i op e, .AugAssign (.Name x _) op' e' _ => decide (N[i]? = some x) && locB sc x && decide (op = op') && decide (op = .Add) && mtE G N sc e e'
  | .exp e, .Expr e' _ => notComp e' && mtE G N sc e e'
  | .ret e, .Return (some e') _ => mtE G N sc e e'
  | .retN, .Return none _ => true
  | .ife c a b, .If c' a' b' _ => mtE G N sc c c' && mtSs sc a a' && mtSs sc b b'
  | .for t it b, .For tg iter b' [] _ => mtTb sc N true t tg && mtI G N sc it iter tg && mtSs sc b b'
  | .whl c b, .While c' b' [] _ => mtE G N sc c c' && mtSs sc b b'
  | .pas, .Pass _ => true
  | .brk, .Break _ => true
  | .cnt, .Continue _ => true
  | _, _ => false
termination_by structural x => x
def mtSs (sc : Scope) : MSs → List Stmt → Bool
  | .nil, [] => true
  | .cons s ss, s' :: ss' => mtS sc s s' && mtSs sc ss ss'
  | _, _ => false
termination_by structural x => x
end
end
section
variable {A : Ads} {G : MG} {gl : Nat → M} {Φ : Nat → FS} {N : List Str} {k : Nat} {X : Cx} {W : WX}
theorem loc_def (hf : ∀ x, X.fn x = true) {x : Str} (h : (if true then locB X.env.scope x else lclB X.env.scope x) = true) : L2.Loc X.env.scope x ∧ (X.fn x = true ∨ X.env.scope.names.lookup x = some .local) :=
  ⟨locB_ok (by simpa using h), .inl (hf x)⟩
theorem asg_comp (g : Gd A G gl Φ N k X W) (hf : ∀ x, X.fn x = true) {i : Nat} {m : ME} {y : Str} {py pos : Pos} {e' : Expr} (hc : notComp e' = false) (h1 : mtTb X.env.scope N true (.nm i) (.Name y py) = true) (h2 : mtE G N X.env.scope m e' = true) :
    PS X (.Assign [.Name y py] e' pos) (tSt A X.K W (wS gl Φ (.asg (.nm i) m))) := by
  cases e' <;> first | (simp [notComp] at hc; done) | skip
  · rename_i elt gs scope vpos
    cases hs : swC X.env.scope scope y py vpos with
    | false =>
      exact s_asg (okM m X W g _ h2).1 (pgT_ok g.calm g.nd g.nN h1 fun x hx => loc_def hf hx).1 (by unfold swapsWithSole; dsimp only; rw [sw_ok g.kind, hs]) (name_stores rfl _) rfl
    | true =>
      have hsw := sw_ok (elt := elt) (gs := gs) (scope := scope) (pos := vpos) (py := py) (y := y) (l := pos.line) (env := X.env) g.kind
      rw [hs] at hsw
      unfold mtE at h2; split at h2 <;> first | contradiction | skip
      rename_i heq
      cases heq
      simp only [Bool.and_eq_true, decide_eq_true_eq] at h2
      obtain ⟨⟨⟨⟨⟨⟨rfl, q1⟩, q2⟩, q3⟩, q4⟩, q5⟩, q6⟩ := h2
      have ok := blkOk_by q1
      rw [← g.nN] at ok
      have gk := fun s H C cl fp => g.blk ok.kind s H C cl fp
      have hy : X.N[i]? = some y := by
        simp only [mtTb, mtT1, Bool.and_eq_true, decide_eq_true_eq] at h1
        rw [g.nN]; exact h1.1
      have hl : X.env.scope.names.lookup y = some .local := lclB_ok (by
        simp only [swC, Bool.and_eq_true] at hs
        exact hs.1.1)
      exact s_comp g.calm g.nd hy hl (own_ix _) (fun i hi => by simpa using List.all_eq_true.mp q2 i hi) hsw (okMI _ X W g _ _ q4) ok
        (fun s H C cl fp => (pgT_ok (X := X.blk s H _ (compEnvC _ cl C X.env) fp) (gk s H C cl fp).calm (gk s H C cl fp).nd (gk s H C cl fp).nN q3 fun x hx => blk_loc s H C cl fp (by simpa using hx)).1)
        (fun s H C cl fp => (okMo _ _ _ (gk s H C cl fp)).2 _ q5) (fun s H C cl fp => (okM _ _ _ (gk s H C cl fp) _ q6).1) (okMI_fold q4 _)
  · simp [mtE] at h2
  · simp [mtE] at h2
mutual
theorem okS : ∀ (m : MS) (X : Cx) (W : WX), Gd A G gl Φ N k X W → (∀ x, X.fn x = true) → ∀ st, mtS G N X.env.scope m st = true → PS X st (tSt A X.K W (wS gl Φ m))
  | .asg t e, X, W, g, hf, st, h => by
    unfold mtS at h; split at h <;> first | contradiction | skip
    cases ‹MS.asg _ _ = MS.asg _ _›
    simp only [Bool.and_eq_true] at h
    obtain ⟨⟨h1, h2⟩, h3⟩ := h
    rename_i tg e' pos
    obtain ⟨pg, pa⟩ := pgT_ok g.calm g.nd g.nN h1 fun x hx => loc_def hf hx
    cases hc : notComp e' with
    | true =>
      refine s_asg (okM e X W g _ h2).1 pg (notComp_sole hc _ _ _) ?_ pa
      cases ht : notTup e' with
      | true => exact notTup_stores ht _ _
      | false =>
        have : isNm tg = true := by simpa [hc, ht] using h3
        exact name_stores this _
    | false =>
      have hn : isNm tg = true := by simpa [hc] using h3
      cases tg <;> first | (simp [isNm] at hn; done) | skip
      cases t with
      | tp _ => simp [mtTb] at h1
      | nm i => exact asg_comp g hf hc h1 h2
  | .par is es, X, W, g, hf, st, h => by
    unfold mtS at h; split at h <;> first | contradiction | skip
    cases ‹MS.par _ _ = MS.par _ _›
    simp only [Bool.and_eq_true, decide_eq_true_eq, Bool.not_eq_true'] at h
    obtain ⟨⟨⟨⟨⟨⟨⟨⟨⟨⟨h1, h2⟩, h3⟩, h4⟩, h5⟩, h6⟩, h7⟩, h8⟩, h9⟩, h10⟩, h11⟩ := h
    rw [← g.nN] at h1 h2
    exact s_par2 g.calm g.nd h1 h2 h3 (lclB_ok h4) (lclB_ok h5) (okMs es X W g _ h11).1 (swap2 g.kind (lclB_ok h4) (lclB_ok h5) h6 h7 h8 h9 h10)
  | .sub o i e, X, W, g, hf, st, h => by
    unfold mtS at h; split at h <;> first | contradiction | skip
    cases ‹MS.sub _ _ _ = MS.sub _ _ _›
    simp only [Bool.and_eq_true] at h
    obtain ⟨⟨⟨⟨h1, h2⟩, h3⟩, h4⟩, h5⟩ := h
    exact s_sub h1 (okM o X W g _ h3).1 (okM i X W g _ h4).1 (okM e X W g _ h5).1 (notComp_sole h2 _ _ _) (sub_stores _)
  | .dsb o i e, X, W, g, hf, st, h => by
    unfold mtS at h; split at h <;> first | contradiction | skip
    cases ‹MS.dsb _ _ _ = MS.dsb _ _ _›
    simp only [Bool.and_eq_true] at h
    obtain ⟨⟨⟨h2, h3⟩, h4⟩, h5⟩ := h
    exact s_dsb g.hu (okM o X W g _ h3).1 (okM i X W g _ h4).1 (okM e X W g _ h5).1 (notComp_swaps h2 _ _ _)
  | .dd, X, W, g, hf, st, h => s_dd
  | .aug i op e, X, W, g, hf, st, h => by
    unfold mtS at h; split at h <;> first | contradiction | skip
    cases ‹MS.aug _ _ _ = MS.aug _ _ _›
    simp only [Bool.and_eq_true, decide_eq_true_eq] at h
    obtain ⟨⟨⟨⟨h1, h2⟩, rfl⟩, h4⟩, h5⟩ := h
    rw [← g.nN] at h1
    exact s_aug g.nd h1 (locB_ok h2) (hf _) (okM e X W g _ h5).1 h4
  | .exp e, X, W, g, hf, st, h => by
    unfold mtS at h; split at h <;> first | contradiction | skip
    cases ‹MS.exp _ = MS.exp _›
    simp only [Bool.and_eq_true] at h
    exact s_exp (notComp_swaps h.1 _ _ _) (okM e X W g _ h.2).1
  | .ret e, X, W, g, hf, st, h => by
    unfold mtS at h; split at h <;> first | contradiction | skip
    cases ‹MS.ret _ = MS.ret _›
    exact s_ret (okM e X W g _ h).1
  | .retN, X, W, g, hf, st, h => by
    unfold mtS at h; split at h <;> first | contradiction | skip
    exact s_retN
  | .ife c a b, X, W, g, hf, st, h => by
    unfold mtS at h; split at h <;> first | contradiction | skip
    cases ‹MS.ife _ _ _ = MS.ife _ _ _›
    simp only [Bool.and_eq_true] at h
    exact s_ife (okM c X W g _ h.1.1).2 (okSs a X W g hf _ h.1.2) (okSs b X W g hf _ h.2)
  | .for t it b, X, W, g, hf, st, h => by
    unfold mtS at h; split at h <;> first | contradiction | skip
    cases ‹MS.for _ _ _ = MS.for _ _ _›
    simp only [Bool.and_eq_true] at h
    exact s_for g.po g.calm (okMI it X W g _ _ h.1.2) (pgT_ok g.calm g.nd g.nN h.1.1 fun x hx => loc_def hf hx).1 (okSs b X W g hf _ h.2) (okMI_fold h.1.2 _)
  | .whl c b, X, W, g, hf, st, h => by
    unfold mtS at h; split at h <;> first | contradiction | skip
    cases ‹MS.whl _ _ = MS.whl _ _›
    simp only [Bool.and_eq_true] at h
    exact s_whl g.po (okM c X W g _ h.1).2 (okSs b X W g hf _ h.2)
  | .pas, X, W, g, hf, st, h => by
    unfold mtS at h; split at h <;> first | contradiction | skip
    exact s_pas
  | .brk, X, W, g, hf, st, h => by
    unfold mtS at h; split at h <;> first | contradiction | skip
    exact s_brk
  | .cnt, X, W, g, hf, st, h => by
    unfold mtS at h; split at h <;> first | contradiction | skip
    exact s_cnt
theorem okSs : ∀ (m : MSs) (X : Cx) (W : WX), Gd A G gl Φ N k X W → (∀ x, X.fn x = true) → ∀ st, mtSs G N X.env.scope m st = true → PSs X st (tSt A X.K W (wSs gl Φ m))
  | .nil, X, W, g, hf, st, h => by
    cases st with
    | nil => exact s_nil
    | cons _ _ => simp [mtSs] at h
  | .cons s ss, X, W, g, hf, st, h => by
    cases st with
    | nil => simp [mtSs] at h
    | cons s' ss' =>
      simp only [mtSs, Bool.and_eq_true] at h
      have z := s_cons (okS s X W g hf _ h.1) (okSs ss X W g hf _ h.2)
      exact z
end
end
/-! the defs of the text, all together -/
def startE (N : List Str) (ms : List M) : Env := ms.map some ++ List.replicate (N.length - ms.length) none
/-- a def's body, from its arguments -/
def wF (gl : Nat → M) (Φ : Nat → FS) (d : FD) : FS := fun ms h Q X => wSs gl Φ d.body (startE d.N ms) h { nx := fun _ h' => Q .non h', rt := Q } (fun x _ h' => X x h')
/-- the def as the text has it -/
structure FnTx (G : MG) (K : PySem.W.Frag) (fa : Addr) (d : FD) (fd : FuncData) : Prop where
  ex : ∃ (qual : Str) (st : Stmt), FunD K d.name qual (defArgs st) (defBody st) (defScope st) [] [] fa fd ∧ FnScope d.N d.ps (defScope st) ∧ mtSs G d.N (defScope st) d.body (defBody st) = true
  bd : ∀ (s : Shared) (us : List Value), us.length = d.ps.length → BindsTo s fd ⟨us, []⟩ (d.ps.zip us)
  kp : PySem.W.keepIn K (.ref fa) = true
theorem FnTx.binds {G : MG} {K : PySem.W.Frag} {fa : Addr} {d : FD} {fd : FuncData} (F : FnTx G K fa d fd) : Binds K fd d.ps [] := fun s us _ hl => by
  rw [List.append_nil] at hl ⊢
  exact F.bd s us hl
structure FnText (A : Ads) (G : MG) (K : PySem.W.Frag) (mg : Str → Option Value) (f : Nat) (d : FD) : Prop where
  gm : mg d.name = some (.ref (A.fa f))
  ex : ∃ fd, FnTx G K (A.fa f) d fd
structure Facts (A : Ads) (G : MG) (gl : Nat → M) (K : PySem.W.Frag) (mg : Str → Option Value) : Prop where
  bl : ∀ x ∈ bltNames, mg x = none
  gc : ∀ i x m, G.cons[i]? = some (x, m) → gl i = m ∧ ∃ v u, mg x = some u ∧ RelV v u ∧ ∀ ρ H, Rep K ρ H m v
  fn : ∀ f d, G.fns[f]? = some d → FnText A G K mg f d
section
variable {A : Ads} {G : MG} {gl : Nat → M} {K : PySem.W.Frag} {mg : Str → Option Value} {P : Program} {w : World} {base : Heap}
theorem start_rep {ρ : List Addr} {H : Hp} {N : List Str} {ms : List M} {vs : List V} (q : Reps K ρ H ms vs) (hl : vs.length ≤ N.length) : ER K ρ H (startE N ms) (start N vs) := by
  have hlen := q.length
  refine ⟨by simp [startE, L2.start, hlen], fun i m h => ?_⟩
  unfold startE at h
  by_cases hi : i < ms.length
  · rw [List.getElem?_append_left (by simpa using hi), List.getElem?_map] at h
    rw [List.getElem?_eq_getElem hi] at h
    simp only [Option.map_some, Option.some.injEq] at h
    obtain ⟨y, h1, h2⟩ := q.get (List.getElem?_eq_getElem hi)
    refine ⟨y, ?_, h ▸ h2⟩
    unfold L2.start
    rw [List.getElem?_append_left (by simp; omega), List.getElem?_map, h1]
    rfl
  · rw [List.getElem?_append_right (by simpa using hi)] at h
    have := List.mem_of_getElem? h
    simp at this
theorem fn_ok (Fc : Facts A G gl K mg) {Φ : Nat → FS} {n f : Nat} {d : FD} {φ : FS} (hd : G.fns[f]? = some d) (calls : ∀ f d, G.fns[f]? = some d → ∀ fd, FnTx G K (A.fa f) d fd → FnOk P w K mg base (L2.CX P w) n (A.fa f) fd d.ps (spM A K d.np (Φ f)))
    (hφ : ∀ ms h Q X, ms.length = d.np → φ ms h Q X → wF gl Φ d ms h Q X) {fd : FuncData} (T : FnTx G K (A.fa f) d fd) : FnOk P w K mg base (L2.CX P w) (n + 1) (A.fa f) fd d.ps (spM A K d.np φ) := by
  obtain ⟨qual, st, F, S, mt⟩ := T.ex
  refine F.ok S (fun vs H Q E h => h.1) fun cdv A' outer s H vs Q E hr h => ?_
  obtain ⟨hl, ρ, h, ms, Qm, Xm, r, q, p, qk, xk⟩ := h
  have g : Gd A G gl Φ d.N n (cxOf (L2.CX P w) P w K mg base d.N qual (defScope st) (A.fa f) cdv A' outer s H E) (fun c d _ H => E c d H) :=
    ⟨rfl, hr, rfl, S.nd, takes_of rfl rfl rfl rfl, passes_of rfl, S.kind, Fc.bl, Fc.gc, fun f d hd => ⟨(Fc.fn f d hd).gm, let ⟨fd', T'⟩ := (Fc.fn f d hd).ex; ⟨n, Nat.le_refl _, T'.kp, fd', d.ps, T'.binds, calls f d hd fd' T'⟩⟩⟩
  refine ⟨_, okSs d.body _ _ g (fun _ => rfl) _ mt, ρ, startE d.N ms, h, { nx := fun _ h' => Qm .non h', rt := Qm }, fun x _ h' => Xm x h', r, start_rep q ?_, hφ ms h Qm Xm (by rw [q.length]; exact hl) p, ⟨?_, qk, fun _ _ z => z.elim, fun _ _ z => z.elim⟩, ?_⟩
  · rw [hl, FD.np, ← S.pre, List.length_take]
    exact Nat.min_le_right _ _
  · intro env h' d1 ρ' H' σ' x' r' e'
    exact qk .non h' d1 ρ' H' .non x' r' .non
  · intro x env h' d1 ρ' H' σ' c dd x' r' e' xr
    exact xk x h' d1 ρ' H' c dd x' r' xr
/-- all defs keep their promises, level by level -/
theorem all_ok (Fc : Facts A G gl K mg) (Φ : Nat → Nat → FS) (h0 : ∀ f ms h Q X, Φ 0 f ms h Q X → False)
    (hs : ∀ n f d, G.fns[f]? = some d → ∀ ms h Q X, ms.length = d.np → Φ (n + 1) f ms h Q X → wF gl (Φ n) d ms h Q X) :
    ∀ n f d, G.fns[f]? = some d → ∀ fd, FnTx G K (A.fa f) d fd → FnOk P w K mg base (L2.CX P w) n (A.fa f) fd d.ps (spM A K d.np (Φ n f))
  | 0, f, d, hd, fd, T => by
    refine ⟨fun vs H Q E h => ?_, fun A' outer s H args us vs Q E _ _ _ _ h => ?_⟩
    · obtain ⟨_, _, _, _, _, _, _, _, p, _⟩ := h
      exact (h0 _ _ _ _ _ p).elim
    · obtain ⟨_, _, _, _, _, _, _, _, p, _⟩ := h
      exact (h0 _ _ _ _ _ p).elim
  | n + 1, f, d, hd, fd, T => fn_ok Fc hd (fun f' d' hd' fd' T' => all_ok Fc Φ h0 hs n f' d' hd' fd' T') (hs n f d hd) T
end
end Wg
open PySem PySem.Spec PyProof.Rows
set_option linter.all false
set_option Elab.async false
namespace Wg
open L2
/-! ### what the text's defs do, by levels; the law's end -/
def Sem (G : MG) (gl : Nat → M) : Nat → Nat → FS
  | 0, _ => fun _ _ _ _ => False
  | n + 1, f => fun ms h Q X => ∃ d, G.fns[f]? = some d ∧ wF gl (Sem G gl n) d ms h Q X
theorem sem_ok {A : Ads} {G : MG} {gl : Nat → M} {K : PySem.W.Frag} {mg : Str → Option Value} {P : Program} {w : World} {base : Heap} (Fc : Facts A G gl K mg) (n f : Nat) (d : FD) (hd : G.fns[f]? = some d) (fd : FuncData) (T : FnTx G K (A.fa f) d fd) :
    FnOk P w K mg base (L2.CX P w) n (A.fa f) fd d.ps (spM A K d.np (Sem G gl n f)) :=
  all_ok Fc (Sem G gl) (fun _ _ _ _ _ h => h) (fun n f d hd ms h Q X _ ⟨d', hd', z⟩ => by rw [hd] at hd'; cases hd'; exact z) n f d hd fd T
theorem toCX0 {P : Program} {w : World} {K : PySem.W.Frag} {mg : Str → Option Value} {base : Heap} {k : Nat} {f : Addr} {fd : FuncData} {ps : List Str} {sp : Sp} (F : FnOk P w K mg base (L2.CX P w) k f fd ps sp) :
    FnOk P w K mg base CX0 k f fd ps (fun vs H Q _ => sp vs H Q E0) := by
  refine ⟨fun vs H Q E h => F.len _ _ _ _ h, fun A outer s H args us vs Q E hr e0 b r h => codeAny_mono (F.run A outer s H args us vs Q E0 hr e0 b r h) fun r s' z => ?_⟩
  cases r with
  | ok fl => cases fl <;> exact z
  | error e =>
    obtain ⟨_, _, _, _, _, _, _, _, _, _, _, _, z⟩ := z
    exact z.elim
theorem ints_rep' {K : PySem.W.Frag} {ρ : List Addr} {H : Hp} : ∀ ns : List Int, Reps K ρ H (ns.map M.int) (ns.map V.int)
  | [] => .nil
  | n :: ns => .cons (.int n) (ints_rep' ns)
theorem law_sp {A : Ads} {K : PySem.W.Frag} {φ : FS} {H : Hp} {a : Addr} {ns : List Int} (hO : Only H) (hS : SqL K H a (ns.map V.int)) (h : φ [.fz (ns.map M.int)] [] (fun v _ => v = .bl true) (fun _ _ => False)) :
    spM A K 1 φ [.ref a] H (fun v _ => v = .bl true) E0 := by
  refine ⟨rfl, [], [], _, _, _, ⟨rfl, List.nodup_nil, fun k o a h => by simp at h⟩, .cons (.fz ?_ (ints_rep' ns)) .nil, h, fun v h' e ρ' H' v' _ _ r => ?_, fun _ _ z => z.elim⟩
  · rcases hS with (z | ⟨o, z⟩) | z
    · rcases hO a with q | ⟨_, _, q⟩ <;> rw [z] at q <;> cases q
    · exact .inl ⟨o, z⟩
    · exact .inr z
  · subst e; cases r; rfl
/-- the law's promise, for walk_ofE -/
theorem law_fn {A : Ads} {G : MG} {gl : Nat → M} {K : PySem.W.Frag} {mg : Str → Option Value} {P : Program} {w : World} {h : Heap} {f : Nat} {d : FD} {fa : Addr} {x : Str} (n : Nat) (KX : K.In h) (Fc : Facts A G gl K mg) (hd : G.fns[f]? = some d) (hfa : mg d.name = some (.ref fa)) (hx : d.ps = [x])
    (law : ∀ ns : List Int, ns.length ≤ 63 → Sem G gl n f [.fz (ns.map M.int)] [] (fun v _ => v = .bl true) (fun _ _ => False)) :
    ∃ (K : PySem.W.Frag) (fd : FuncData) (sp : Sp), K.In h ∧ (∀ (s : Shared) (u : Value), BindsTo s fd ⟨[u], []⟩ [(x, u)]) ∧
      (∀ (H : Hp) (a : Addr) (ns : List Int), ns.length ≤ 63 → Only H → SqL K H a (ns.map V.int) → sp [.ref a] H (fun v _ => v = .bl true) fun _ _ _ => False) ∧
      ∀ base : Heap, K.In base → base.Ns mainGlobals mg → FnOk P w K mg base CX0 n fa fd [x] sp := by
  have e := (Fc.fn f d hd).gm.symm.trans hfa
  cases e
  obtain ⟨fd, T⟩ := (Fc.fn f d hd).ex
  refine ⟨K, fd, fun vs H Q _ => spM A K d.np (Sem G gl n f) vs H Q E0, KX, fun s u => ?_, fun H a ns hl hO hS => ?_, fun base _ _ => ?_⟩
  · have z := T.bd s [u] (by rw [hx]; rfl)
    rw [hx] at z; exact z
  · have z := law_sp (A := A) hO hS (law ns hl)
    have e : d.np = 1 := by rw [FD.np, hx]; rfl
    rw [e]; exact z
  · have z := toCX0 (sem_ok (P := P) (w := w) (base := base) Fc n f d hd fd T)
    rw [hx] at z; exact z
end Wg
open PySem PySem.Spec PyProof.Rows
set_option linter.all false
set_option Elab.async false
namespace Wg
open L2
/-! ### the readings, value by value -/
section
variable {h : MH} {Q : QE} {B : Bool → MH → Prop} {i j : Int} {a b k l : Nat} {x y : M} {xs ys : List M} {s t : List Nat} {p q : Bool} {K : KI}
theorem w_add : binR .Add (.int i) (.int j) h Q = Q (.int (i + j)) h := rfl
theorem w_adds : binR .Add (.str s) (.str t) h Q = (s.length + t.length ≤ sizeLine ∧ Q (.str (s ++ t)) h) := rfl
theorem w_addt : binR .Add (.tup xs) (.tup ys) h Q = (xs.length + ys.length ≤ sizeLine ∧ Q (.tup (xs ++ ys)) h) := rfl
theorem w_addl : binR .Add (.ref a) (.ref b) h Q = ∃ xs ys, h[a]? = some (.lst xs) ∧ h[b]? = some (.lst ys) ∧ xs.length + ys.length ≤ sizeLine ∧ Q (.ref h.length) (h ++ [.lst (xs ++ ys)]) := rfl
theorem w_sub : binR .Sub (.int i) (.int j) h Q = Q (.int (i - j)) h := rfl
theorem w_mul : binR .Mult (.int i) (.int j) h Q = (mulOk i j ∧ Q (.int (i * j)) h) := rfl
theorem w_mull : binR .Mult (.ref a) (.int i) h Q = ∃ xs, h[a]? = some (.lst xs) ∧ -(2 ^ 63) ≤ i ∧ i < 2 ^ 63 ∧ xs.length * i.toNat ≤ sizeLine ∧ Q (.ref h.length) (h ++ [.lst (List.replicate i.toNat xs).flatten]) := rfl
theorem w_div : binR .FloorDiv (.int i) (.int j) h Q = ((0 < j ∧ j.natAbs.log2 < 9000) ∧ Q (.int (i / j)) h) := rfl
theorem w_mod : binR .Mod (.int i) (.int j) h Q = (0 < j ∧ Q (.int (i % j)) h) := rfl
theorem w_pow : binR .Pow (.int i) (.int j) h Q = (CPow i j ∧ Q (.int (i ^ j.toNat)) h) := rfl
theorem w_shl : binR .LShift (.int i) (.int j) h Q = (CPow i j ∧ Q (.int (i * 2 ^ j.toNat)) h) := rfl
theorem w_eq : cmpR .Eq x y h B = ∃ b, eqV h x y = some b ∧ B b h := by cases x <;> cases y <;> rfl
theorem w_ne : cmpR .NotEq x y h B = ∃ b, eqV h x y = some b ∧ B (!b) h := by cases x <;> cases y <;> rfl
theorem w_in : cmpR .In x y h B = ∃ b, inV h x y = some b ∧ B b h := by cases x <;> cases y <;> rfl
theorem w_nin : cmpR .NotIn x y h B = ∃ b, inV h x y = some b ∧ B (!b) h := by cases x <;> cases y <;> rfl
theorem w_lt : cmpR .Lt (.int i) (.int j) h B = B (decide (i < j)) h := rfl
theorem w_le : cmpR .LtE (.int i) (.int j) h B = B (decide (i ≤ j)) h := rfl
theorem w_gt : cmpR .Gt (.int i) (.int j) h B = B (decide (j < i)) h := rfl
theorem w_ge : cmpR .GtE (.int i) (.int j) h B = B (decide (j ≤ i)) h := rfl
theorem w_is : cmpR .Is x .non h B = B (decide (x = .non)) h := by cases x <;> rfl
theorem w_isn : cmpR .IsNot x .non h B = B (!decide (x = .non)) h := by cases x <;> rfl
theorem w_eqi : eqV h (.int i) (.int j) = some (decide (i = j)) := by simp [eqV, M.dt]
theorem w_eqs : eqV h (.str s) (.str t) = some (decide (s = t)) := rfl
theorem w_eqb : eqV h (.bl p) (.bl q) = some (decide (p = q)) := rfl
theorem w_tn : truV h .non = some false := rfl
theorem w_tb : truV h (.bl p) = some p := rfl
theorem w_ti : truV h (.int i) = some (decide (i ≠ 0)) := rfl
theorem w_tt : truV h (.tup xs) = some (decide (xs ≠ [])) := rfl
theorem w_it : idxR (.tup xs) (.int i) h Q = ∃ v, atI xs i = some v ∧ Q v h := rfl
theorem w_if : idxR (.fz xs) (.int i) h Q = ∃ v, atI xs i = some v ∧ Q v h := rfl
theorem w_is' : idxR (.str s) (.int i) h Q = (s.length ≤ sizeLine ∧ ∃ c, atI s i = some c ∧ Q (.str [c]) h) := rfl
theorem w_il : idxR (.ref a) (.int i) h Q = ∃ xs v, getL h a = some xs ∧ atI xs i = some v ∧ Q v h := rfl
theorem w_st {lo hi : Option Int} : slcR (.tup xs) lo hi h Q = Q (.tup (cutL xs lo hi)) h := rfl
theorem w_ss {lo hi : Option Int} : slcR (.str s) lo hi h Q = (s.length ≤ sizeLine ∧ Q (.str (cutL s lo hi)) h) := rfl
theorem w_sl {lo hi : Option Int} : slcR (.ref a) lo hi h Q = ∃ xs, getL h a = some xs ∧ Q (.ref h.length) (h ++ [.lst (cutL xs lo hi)]) := rfl
theorem w_lent : pmR .len [.tup xs] h Q = Q (.int xs.length) h := rfl
theorem w_lenf : pmR .len [.fz xs] h Q = Q (.int xs.length) h := rfl
theorem w_lens : pmR .len [.str s] h Q = (s.length ≤ sizeLine ∧ Q (.int s.length) h) := rfl
theorem w_lenl : pmR .len [.ref a] h Q = ∃ xs, getL h a = some xs ∧ Q (.int xs.length) h := rfl
theorem w_tupt : pmR .tuple [.tup xs] h Q = Q (.tup xs) h := rfl
theorem w_tupl : pmR .tuple [.ref a] h Q = ∃ xs, getL h a = some xs ∧ Q (.tup xs) h := rfl
theorem w_lstt : pmR .list [.tup xs] h Q = Q (.ref h.length) (h ++ [.lst xs]) := rfl
theorem w_lstl : pmR .list [.ref a] h Q = ∃ xs, getL h a = some xs ∧ Q (.ref h.length) (h ++ [.lst xs]) := rfl
theorem w_stri : pmR .str [.int i] h Q = (i.natAbs.log2 < 1920 ∧ Q (.str (intL i)) h) := rfl
theorem w_strs : pmR .str [.str s] h Q = Q (.str s) h := rfl
theorem w_inti : pmR .int [.int i] h Q = Q (.int i) h := rfl
theorem w_intb : pmR .int [.bl p] h Q = Q (.int (if p then 1 else 0)) h := rfl
theorem w_min2 : pmR .min2 [.int i, .int j] h Q = Q (.int (if j < i then j else i)) h := rfl
theorem w_max2 : pmR .max2 [.int i, .int j] h Q = Q (.int (if j > i then j else i)) h := rfl
theorem w_abs : pmR .abs [.int i] h Q = Q (.int (if i < 0 then -i else i)) h := rfl
theorem w_all : pmR .all [.ref a] h Q = ∃ xs bs, getL h a = some xs ∧ bls xs = some bs ∧ Q (.bl (bs.all id)) h := rfl
theorem w_any : pmR .any [.ref a] h Q = ∃ xs bs, getL h a = some xs ∧ bls xs = some bs ∧ Q (.bl (bs.any id)) h := rfl
theorem w_sum : pmR .sum [.ref a] h Q = ∃ xs ns, getL h a = some xs ∧ intsM xs = some ns ∧ Q (.int ns.sum) h := rfl
theorem w_join : mtR .join (.str s) [.ref a] h Q = ∃ xs ys, getL h a = some xs ∧ strsM xs = some ys ∧ (ys.map (·.length)).sum + ys.length * s.length ≤ 16777216 ∧ Q (.str (TL.joinL s ys)) h := rfl
theorem w_app : mtR .append (.ref l) [y] h Q = ∃ xs, h[l]? = some (.lst xs) ∧ xs.length < sizeLine ∧ Q .non (h.set l (.lst (xs ++ [y]))) := rfl
theorem w_ext : mtR .extend (.ref l) [.ref b] h Q = ∃ xs zs, h[l]? = some (.lst xs) ∧ h[b]? = some (.lst zs) ∧ xs.length + zs.length ≤ sizeLine ∧ Q .non (h.set l (.lst (xs ++ zs))) := rfl
theorem w_pop : mtR .pop (.ref l) [] h Q = ∃ xs y, h[l]? = some (.lst (xs ++ [y])) ∧ Q y (h.set l (.lst xs)) := rfl
theorem w_mult {i : Int} : binR .Mult (.tup xs) (.int i) h Q = (xs ≠ [] ∧ 1 ≤ i ∧ i ≤ 1000 ∧ xs.length ≤ 1000 ∧ Q (.tup (List.replicate i.toNat xs).flatten) h) := rfl
theorem w_dict : pmR .dict [.tup xs] h Q = ∃ kvs, prsM xs = some kvs ∧ Q (.ref h.length) (h ++ [.dct (dmerge [] kvs)]) := rfl
theorem w_dcopy : pmR .dcopy [.ref a] h Q = ∃ kvs, getD h a = some kvs ∧ Q (.ref h.length) (h ++ [.dct kvs]) := rfl
theorem w_dkeys : pmR .dkeys [.ref a] h Q = ∃ kvs, getD h a = some kvs ∧ Q (.ref h.length) (h ++ [.lst (kvs.map (·.1))]) := rfl
theorem w_dlen : pmR .dlen [.ref a] h Q = ∃ kvs, getD h a = some kvs ∧ Q (.int kvs.length) h := rfl
theorem w_dget1 : mtR .dget (.ref l) [x] h Q = ∃ kvs, h[l]? = some (.dct kvs) ∧ (keyM x).isSome = true ∧ Q ((dval kvs x).getD .non) h := rfl
theorem w_dgetN : mtR .dget (.ref l) [.non, y] h Q = ∃ kvs, h[l]? = some (.dct kvs) ∧ Q y h := rfl
theorem w_dget2 : mtR .dget (.ref l) [.int i, y] h Q = ∃ kvs, h[l]? = some (.dct kvs) ∧ (keyM (.int i)).isSome = true ∧ Q ((dval kvs (.int i)).getD y) h := rfl
theorem w_dget2s : mtR .dget (.ref l) [.str s, y] h Q = ∃ kvs, h[l]? = some (.dct kvs) ∧ (keyM (.str s)).isSome = true ∧ Q ((dval kvs (.str s)).getD y) h := rfl
theorem w_tyd : mtTy .dget (.ref k) h = (getD h k).isSome := rfl
theorem w_zipt : zipR (.tup xs) (.tup ys) h K = ((zipL xs ys).length ≤ sizeLine ∧ K (zipL xs ys) (fun _ => True) h) := rfl
theorem w_zipl : zipR (.ref a) (.ref b) h K = ∃ xs ys, getL h a = some xs ∧ getL h b = some ys ∧ (zipL xs ys).length ≤ sizeLine ∧ K (zipL xs ys) (fun h' => getL h' a = some xs ∧ getL h' b = some ys) h := rfl
theorem w_tpq {env : Env} {is : List Nat} : bindT (.tp is) (.tuq xs) env = if xs.length = is.length then some (setAll is xs env) else none := rfl
theorem w_key : (keyM (.int i)).isSome = true := rfl
theorem w_keys : (keyM (.str s)).isSome = true := rfl
theorem w_tyj : mtTy .join (.str s) h = true := rfl
theorem w_tya : mtTy .append (.ref k) h = (getL h k).isSome := rfl
theorem w_tye : mtTy .extend (.ref k) h = (getL h k).isSome := rfl
theorem w_typ : mtTy .pop (.ref k) h = (getL h k).isSome := rfl
theorem w_isin {t : Ty} : isiV t h .non = some false := rfl
theorem w_isib {t : Ty} : isiV t h (.bl p) = some (t == .bool || t == .int) := rfl
theorem w_isii {t : Ty} : isiV t h (.int i) = some (t == .int) := rfl
theorem w_isis {t : Ty} : isiV t h (.str s) = some (t == .str) := rfl
theorem w_isit {t : Ty} : isiV t h (.tup xs) = some (t == .tuple) := rfl
theorem w_ont : onR (.tup xs) h K = K xs (fun _ => True) h := rfl
theorem w_onf : onR (.fz xs) h K = K xs (fun _ => True) h := rfl
theorem w_ons : onR (.str s) h K = (s.length ≤ sizeLine ∧ K (s.map fun c => .str [c]) (fun _ => True) h) := rfl
theorem w_onl : onR (.ref a) h K = ∃ xs, getL h a = some xs ∧ K xs (fun h' => getL h' a = some xs) h := rfl
theorem w_rng1 : rngR [.int j] h K = (rngOk 0 j ∧ K (rngL 0 j) (fun _ => True) h) := rfl
theorem w_rng2 : rngR [.int i, .int j] h K = (rngOk i j ∧ K (rngL i j) (fun _ => True) h) := rfl
theorem w_nm {env : Env} : bindT (.nm k) x env = some (env.set k (some x)) := rfl
theorem w_tp {env : Env} {is : List Nat} : bindT (.tp is) (.tup xs) env = if xs.length = is.length then some (setAll is xs env) else none := rfl
theorem w_seq (h1 : h[a]? = some (.lst xs)) : getL h a = some xs := getL_of h1
end
end Wg
namespace Wg
open L2
section
variable {α : Type} {x y z u v w : α} {xs : List α}
theorem at_0 : atI (x :: xs) 0 = some x := atI_nat (j := 0) rfl
theorem at_1 : atI (x :: y :: xs) 1 = some y := atI_nat (j := 1) rfl
theorem at_2 : atI (x :: y :: z :: xs) 2 = some z := atI_nat (j := 2) rfl
theorem at_3 : atI (x :: y :: z :: u :: xs) 3 = some u := atI_nat (j := 3) rfl
theorem at_4 : atI (x :: y :: z :: u :: v :: xs) 4 = some v := atI_nat (j := 4) rfl
theorem at_nat {n : Nat} {i : Int} (h : i = n) (e : xs[n]? = some x) : atI xs i = some x := by subst h; exact atI_nat e
theorem ix_nat {n j : Nat} {i : Int} (h : i = j) (l : j < n) : ixN n i = some j := by subst h; unfold ixN; rw [if_pos (by omega), if_pos (by omega)]; simp
theorem ix_0 {n : Nat} : ixN (n + 1) 0 = some 0 := ix_nat rfl (by omega)
theorem ix_1 {n : Nat} : ixN (n + 2) 1 = some 1 := ix_nat rfl (by omega)
theorem ix_2 {n : Nat} : ixN (n + 3) 2 = some 2 := ix_nat rfl (by omega)
end
theorem set_self {h : MH} {k : Nat} {o p : MO} (e : h[k]? = some o) : (h.set k p)[k]? = some p := List.getElem?_set_self (List.getElem?_eq_some_iff.mp e).1
theorem getL_set {h : MH} {k : Nat} {o : MO} {xs : List M} (e : h[k]? = some o) : getL (h.set k (.lst xs)) k = some xs := getL_of (set_self e)
theorem log2_small {j : Int} (h0 : 0 < j) (h1 : j < 2 ^ 60) : j.natAbs.log2 < 9000 := by
  have : j.natAbs < 2 ^ 60 := by omega
  have := (Nat.log2_lt (by omega)).mpr this
  omega
theorem mul_small {i j : Int} (h0 : -(2 ^ 64) < i) (h1 : i < 2 ^ 64) : mulOk i j := .inl (.inl ⟨h0, h1⟩)
theorem mul_small' {i j : Int} (h0 : -(2 ^ 64) < j) (h1 : j < 2 ^ 64) : mulOk i j := .inl (.inr ⟨h0, h1⟩)
theorem getD_new {h : MH} {xs : List (M × M)} : getD (h ++ [.dct xs]) h.length = some xs := getD_of (by simp)
theorem get_new {h : MH} {o : MO} : (h ++ [o])[h.length]? = some o := by simp
theorem getL_new {h : MH} {xs : List M} : getL (h ++ [.lst xs]) h.length = some xs := getL_of get_new
end Wg
open PySem PySem.Spec PyProof.Rows
set_option linter.all false
set_option Elab.async false
set_option maxRecDepth 100000
namespace Wg
open L2
/-! ### the law's own draws -/
/-- all objects but the one at k stand as they stood -/
def Keep (k : Nat) (h h' : MH) : Prop := h.length ≤ h'.length ∧ ∀ j o, j ≠ k → h[j]? = some o → h'[j]? = some o
/-- a hand of draws at k, that has drawn at most u times -/
def HandAt (h : MH) (k : Nat) (u : Int) : Prop := ∃ a b c : Int, h[k]? = some (.lst [.int a, .int b, .int c]) ∧ 0 ≤ a ∧ 0 ≤ b ∧ b < 2 ^ 63 ∧ 0 ≤ c ∧ c ≤ u
theorem Keep.refl (k : Nat) (h : MH) : Keep k h h := ⟨Nat.le_refl _, fun _ _ _ e => e⟩
theorem Keep.trans {k : Nat} {h h1 h2 : MH} (a : Keep k h h1) (b : Keep k h1 h2) : Keep k h h2 := ⟨Nat.le_trans a.1 b.1, fun j o n e => b.2 j o n (a.2 j o n e)⟩
theorem Keep.set {k : Nat} {h : MH} {o : MO} : Keep k h (h.set k o) := ⟨by simp, fun j o n e => by rw [List.getElem?_set_ne (Ne.symm n)]; exact e⟩
theorem Keep.app {k : Nat} {h t : MH} : Keep k h (h ++ t) := ⟨by simp, fun j o n e => by rw [List.getElem?_append_left (List.getElem?_eq_some_iff.mp e).1]; exact e⟩
theorem HandAt.app {h t : MH} {k : Nat} {u : Int} (a : HandAt h k u) : HandAt (h ++ t) k u := by
  obtain ⟨x, y, z, e, r⟩ := a
  exact ⟨x, y, z, by rw [List.getElem?_append_left (List.getElem?_eq_some_iff.mp e).1]; exact e, r⟩
theorem HandAt.mono {h : MH} {k : Nat} {u v : Int} (a : HandAt h k u) (l : u ≤ v) : HandAt h k v := by
  obtain ⟨x, y, z, e, r1, r2, r3, r4, r5⟩ := a
  exact ⟨x, y, z, e, r1, r2, r3, r4, by omega⟩
section
variable {G : MG} {gl : Nat → M} {d : FD} {f : Nat}
def takeB : MSs := (.cons (.ife (.cmp .Gt (.idx (.var 0) (.cst (.int 0))) (.cst (.int 0))) (.cons (.asg (.nm 2) (.bin .Mod (.idx (.var 0) (.cst (.int 0))) (.var 1))) (
    .cons (.sub (.var 0) (.cst (.int 0)) (.bin .FloorDiv (.idx (.var 0) (.cst (.int 0))) (.var 1))) (
    .cons (.ret (.var 2)) .nil))) .nil) (
  .cons (.sub (.var 0) (.cst (.int 2)) (.bin .Add (.idx (.var 0) (.cst (.int 2))) (.cst (.int 1)))) (
  .cons (.asg (.nm 3) (.idx (.var 0) (.cst (.int 2)))) (
  .cons (.asg (.nm 4) (.bin .Mod (.bin .Mult (.idx (.var 0) (.cst (.int 1))) (.bin .Add (.bin .Add (.cst (.int 48271)) (.bin .Mult (.bin .Mult (.cst (.int 2)) (.var 3)) (.var 3))) (.bin .Mult (.cst (.int 65537)) (.var 3)))) (.cst (.int 2305843009213693921)))) (
  .cons (.asg (.nm 5) (.bin .Add (.bin .Add (.bin .Mod (.var 4) (.cst (.int 1000003))) (.bin .Mult (.var 3) (.cst (.int 99991)))) (.cst (.int 11)))) (
  .cons (.asg (.nm 4) (.bin .Mod (.bin .Mult (.var 4) (.var 5)) (.cst (.int 2305843009213693907)))) (
  .cons (.ret (.bin .Mod (.bin .Add (.bin .FloorDiv (.var 4) (.cst (.int 97))) (.bin .FloorDiv (.var 4) (.cst (.int 1000033)))) (.var 1))) .nil)))))))
theorem take_ok (hf : G.fns[f]? = some d) (hN : d.N.length = 6) (hB : d.body = takeB) {n k : Nat} {h : MH} {u many : Int} {Q : QE} {X : Exn → MH → Prop} (H : HandAt h k u) (hu : u ≤ 2 ^ 40) (h0 : 0 < many) (h1 : many < 2 ^ 60)
    (q : ∀ x h', 0 ≤ x → x < many → Keep k h h' → HandAt h' k (u + 1) → Q (.int x) h') : Sem G gl (n + 1) f [.ref k, .int many] h Q X := by
  obtain ⟨a, b, c, e, ha, hb, hb2, hc, hc2⟩ := H
  refine ⟨d, hf, ?_⟩
  have hl : k < h.length := (List.getElem?_eq_some_iff.mp e).1
  simp only [wF, hB, takeB, startE, hN]
  simp only [wSs, wS, wE, wEs, wAnd, wOr, wT, wAndT, wOrT, wO, wC, wI, setAll, w_add, w_adds, w_addt, w_addl, w_sub, w_mul, w_mull, w_div, w_mod, w_pow, w_shl, w_eq, w_ne, w_in, w_nin, w_lt, w_le, w_gt, w_ge, w_is, w_isn, w_eqi, w_eqs, w_eqb, w_tn, w_tb, w_ti, w_tt, w_it, w_if, w_is', w_il, w_st, w_ss, w_sl, w_lent, w_lenf, w_lens, w_lenl, w_tupt, w_tupl, w_lstt, w_lstl, w_stri, w_strs, w_inti, w_intb, w_min2, w_max2, w_abs, w_all, w_any, w_sum, w_join, w_app, w_ext, w_pop, w_tyj, w_mult, w_dict, w_dcopy, w_dkeys, w_dlen, w_dgetN, w_dget2, w_dget2s, w_tyd, w_zipt, w_zipl, w_tpq, w_key, w_keys, getD_new, w_tya, w_tye, w_typ, w_isin, w_isib, w_isii, w_isis, w_isit, w_ont, w_onf, w_ons, w_onl, w_rng1, w_rng2, w_nm, w_tp, Option.some.injEq, exists_eq_left', exists_eq_left, exists_eq, exists_eq', List.getElem?_cons_zero, List.getElem?_cons_succ, List.set_cons_zero, List.set_cons_succ, List.map_cons, List.map_nil, List.cons_append, List.nil_append, List.length_cons, List.length_nil, M.int.injEq, M.ref.injEq, M.str.injEq, M.bl.injEq, M.tup.injEq, List.replicate, Nat.reduceSub, Nat.reduceAdd, true_and, and_true, exists_and_left, exists_and_right, at_0, at_1, at_2, at_3, at_4, Nat.reduceLT, List.length_set, MO.lst.injEq, ix_0, ix_1, ix_2, beq_iff_eq, reduceCtorEq, if_true, if_false, ite_true, ite_false, getL_new, wipeE, Bool.false_eq_true, decide_true, decide_false, Bool.not_true, Bool.not_false, getL_of e]
  by_cases hp : 0 < a
  · simp only [wSs, wS, wE, wEs, wAnd, wOr, wT, wAndT, wOrT, wO, wC, wI, setAll, w_add, w_adds, w_addt, w_addl, w_sub, w_mul, w_mull, w_div, w_mod, w_pow, w_shl, w_eq, w_ne, w_in, w_nin, w_lt, w_le, w_gt, w_ge, w_is, w_isn, w_eqi, w_eqs, w_eqb, w_tn, w_tb, w_ti, w_tt, w_it, w_if, w_is', w_il, w_st, w_ss, w_sl, w_lent, w_lenf, w_lens, w_lenl, w_tupt, w_tupl, w_lstt, w_lstl, w_stri, w_strs, w_inti, w_intb, w_min2, w_max2, w_abs, w_all, w_any, w_sum, w_join, w_app, w_ext, w_pop, w_tyj, w_mult, w_dict, w_dcopy, w_dkeys, w_dlen, w_dgetN, w_dget2, w_dget2s, w_tyd, w_zipt, w_zipl, w_tpq, w_key, w_keys, getD_new, w_tya, w_tye, w_typ, w_isin, w_isib, w_isii, w_isis, w_isit, w_ont, w_onf, w_ons, w_onl, w_rng1, w_rng2, w_nm, w_tp, Option.some.injEq, exists_eq_left', exists_eq_left, exists_eq, exists_eq', List.getElem?_cons_zero, List.getElem?_cons_succ, List.set_cons_zero, List.set_cons_succ, List.map_cons, List.map_nil, List.cons_append, List.nil_append, List.length_cons, List.length_nil, M.int.injEq, M.ref.injEq, M.str.injEq, M.bl.injEq, M.tup.injEq, List.replicate, Nat.reduceSub, Nat.reduceAdd, true_and, and_true, exists_and_left, exists_and_right, at_0, at_1, at_2, at_3, at_4, Nat.reduceLT, List.length_set, MO.lst.injEq, ix_0, ix_1, ix_2, beq_iff_eq, reduceCtorEq, if_true, if_false, ite_true, ite_false, getL_new, wipeE, Bool.false_eq_true, decide_true, decide_false, Bool.not_true, Bool.not_false, hp, getL_of e, e, decide_true, if_true]
    refine ⟨h0, ⟨h0, log2_small h0 h1⟩, ?_⟩
    refine q _ _ (Int.emod_nonneg _ (by omega)) (Int.emod_lt_of_pos _ h0) .set ⟨a / many, b, c, set_self e, Int.ediv_nonneg ha (by omega), hb, hb2, hc, by omega⟩
  · simp only [wSs, wS, wE, wEs, wAnd, wOr, wT, wAndT, wOrT, wO, wC, wI, setAll, w_add, w_adds, w_addt, w_addl, w_sub, w_mul, w_mull, w_div, w_mod, w_pow, w_shl, w_eq, w_ne, w_in, w_nin, w_lt, w_le, w_gt, w_ge, w_is, w_isn, w_eqi, w_eqs, w_eqb, w_tn, w_tb, w_ti, w_tt, w_it, w_if, w_is', w_il, w_st, w_ss, w_sl, w_lent, w_lenf, w_lens, w_lenl, w_tupt, w_tupl, w_lstt, w_lstl, w_stri, w_strs, w_inti, w_intb, w_min2, w_max2, w_abs, w_all, w_any, w_sum, w_join, w_app, w_ext, w_pop, w_tyj, w_mult, w_dict, w_dcopy, w_dkeys, w_dlen, w_dgetN, w_dget2, w_dget2s, w_tyd, w_zipt, w_zipl, w_tpq, w_key, w_keys, getD_new, w_tya, w_tye, w_typ, w_isin, w_isib, w_isii, w_isis, w_isit, w_ont, w_onf, w_ons, w_onl, w_rng1, w_rng2, w_nm, w_tp, Option.some.injEq, exists_eq_left', exists_eq_left, exists_eq, exists_eq', List.getElem?_cons_zero, List.getElem?_cons_succ, List.set_cons_zero, List.set_cons_succ, List.map_cons, List.map_nil, List.cons_append, List.nil_append, List.length_cons, List.length_nil, M.int.injEq, M.ref.injEq, M.str.injEq, M.bl.injEq, M.tup.injEq, List.replicate, Nat.reduceSub, Nat.reduceAdd, true_and, and_true, exists_and_left, exists_and_right, at_0, at_1, at_2, at_3, at_4, Nat.reduceLT, List.length_set, MO.lst.injEq, ix_0, ix_1, ix_2, beq_iff_eq, reduceCtorEq, if_true, if_false, ite_true, ite_false, getL_new, wipeE, Bool.false_eq_true, decide_true, decide_false, Bool.not_true, Bool.not_false, hp, getL_of e, e, decide_false, if_false, Bool.false_eq_true, getL_set e]
    refine ⟨mul_small (by omega) (by omega), mul_small' (by omega) (by omega), mul_small (by omega) (by omega), mul_small (by omega) (by omega), by decide, by decide, mul_small (by omega) (by omega), ?_, by decide, ⟨by decide, by decide⟩, ⟨by decide, by decide⟩, h0, ?_⟩
    · have z := Int.emod_lt_of_pos (b * (48271 + 2 * (c + 1) * (c + 1) + 65537 * (c + 1))) (show (0 : Int) < 2305843009213693921 by decide)
      have z2 := Int.emod_nonneg (b * (48271 + 2 * (c + 1) * (c + 1) + 65537 * (c + 1))) (show (2305843009213693921 : Int) ≠ 0 by decide)
      exact mul_small (by omega) (by omega)
    · exact q _ _ (Int.emod_nonneg _ (by omega)) (Int.emod_lt_of_pos _ h0) .set ⟨a, b, c + 1, set_self e, ha, hb, hb2, by omega, by omega⟩
end
end Wg
open PySem PySem.Spec PyProof.Rows
set_option linter.all false
set_option Elab.async false
set_option maxRecDepth 100000
namespace Wg
open L2
/-! ### loops by invariants; heaps that grow -/
def Gro (h h' : MH) : Prop := ∃ t, h' = h ++ t
theorem Gro.refl (h : MH) : Gro h h := ⟨[], by simp⟩
theorem Gro.trans {a b c : MH} (x : Gro a b) (y : Gro b c) : Gro a c := by
  obtain ⟨t, rfl⟩ := x
  obtain ⟨u, rfl⟩ := y
  exact ⟨t ++ u, by simp⟩
theorem Gro.app (h t : MH) : Gro h (h ++ t) := ⟨t, rfl⟩
theorem Gro.get {h h' : MH} {k : Nat} {o : MO} (x : Gro h h') (e : h[k]? = some o) : h'[k]? = some o := by
  obtain ⟨t, rfl⟩ := x
  rw [List.getElem?_append_left (List.getElem?_eq_some_iff.mp e).1]; exact e
theorem Gro.getL {h h' : MH} {k : Nat} {xs : List M} (x : Gro h h') (e : getL h k = some xs) : getL h' k = some xs := getL_of (x.get (getL_lst e))
theorem Gro.keep {h h' : MH} (x : Gro h h') (k : Nat) : Keep k h h' := by obtain ⟨t, rfl⟩ := x; exact .app
theorem Gro.hand {h h' : MH} {k : Nat} {u : Int} (x : Gro h h') (a : HandAt h k u) : HandAt h' k u := by obtain ⟨t, rfl⟩ := x; exact a.app
theorem compL_inv {chk : MH → Prop} {bnd : M → Option Env} {cond : WT} {elt : WE} {X : Exn → MH → Prop} {R : List M → MH → Prop} (J : Nat → List M → MH → Prop) (xs0 : List M)
    (hc : ∀ i acc h, J i acc h → chk h) (fin : ∀ acc h, J xs0.length acc h → R acc h)
    (step : ∀ i x acc h (Q : List M → MH → Prop), xs0[i]? = some x → J i acc h → (∀ acc' h', J (i + 1) acc' h' → Q acc' h') →
      ∃ env, bnd x = some env ∧ cond env h (fun b h1 => if b = true then elt env h1 (fun y h2 => Q (acc ++ [y]) h2) X else Q acc h1) X) :
    ∀ (xs : List M) (i : Nat) (acc : List M) (h : MH), xs0.drop i = xs → i ≤ xs0.length → J i acc h → compL chk bnd cond elt X xs acc h R
  | [], i, acc, h, hd, hi, j => by
    have : i = xs0.length := by
      have := congrArg List.length hd
      simp at this; omega
    subst this
    exact ⟨hc _ _ _ j, fin _ _ j⟩
  | x :: xs, i, acc, h, hd, hi, j => by
    have hl : i < xs0.length := by
      have := congrArg List.length hd
      simp at this; omega
    rw [List.drop_eq_getElem_cons hl] at hd
    simp only [List.cons.injEq] at hd
    obtain ⟨env, e1, e2⟩ := step i x acc h (fun acc' h' => compL chk bnd cond elt X xs acc' h' R) (by rw [List.getElem?_eq_getElem hl, hd.1]) j
      fun acc' h' j' => compL_inv J xs0 hc fin step xs (i + 1) acc' h' hd.2 hl j'
    exact ⟨hc _ _ _ j, env, e1, e2⟩
theorem comp_inv {chk : MH → Prop} {bnd : M → Option Env} {cond : WT} {elt : WE} {X : Exn → MH → Prop} {R : List M → MH → Prop} (J : Nat → List M → MH → Prop) {xs : List M} {h : MH} (h0 : J 0 [] h)
    (hc : ∀ i acc h, J i acc h → chk h) (fin : ∀ acc h, J xs.length acc h → R acc h)
    (step : ∀ i x acc h (Q : List M → MH → Prop), xs[i]? = some x → J i acc h → (∀ acc' h', J (i + 1) acc' h' → Q acc' h') →
      ∃ env, bnd x = some env ∧ cond env h (fun b h1 => if b = true then elt env h1 (fun y h2 => Q (acc ++ [y]) h2) X else Q acc h1) X) : compL chk bnd cond elt X xs [] h R :=
  compL_inv J xs hc fin step xs 0 [] h (by simp) (Nat.zero_le _) h0
theorem forL_inv {chk : MH → Prop} {t : Tg} {body : Env → MH → Ed → XW → Prop} {X : XW} {D : Ed} (J : Nat → Env → MH → Prop) (xs0 : List M)
    (hc : ∀ i e h, J i e h → chk h) (fin : ∀ e h, J xs0.length e h → D.nx e h)
    (step : ∀ i x env h (N : Env → MH → Prop), xs0[i]? = some x → J i env h → (∀ e h', J (i + 1) e h' → N e h') → ∃ env', bindT t x env = some env' ∧ body env' h { nx := N, rt := D.rt, bk := D.nx, ct := N } X) :
    ∀ (xs : List M) (i : Nat) (env : Env) (h : MH), xs0.drop i = xs → i ≤ xs0.length → J i env h → forL chk t body X D xs env h
  | [], i, env, h, hd, hi, j => by
    have : i = xs0.length := by
      have := congrArg List.length hd
      simp at this; omega
    subst this
    exact ⟨hc _ _ _ j, fin _ _ j⟩
  | x :: xs, i, env, h, hd, hi, j => by
    have hl : i < xs0.length := by
      have := congrArg List.length hd
      simp at this; omega
    rw [List.drop_eq_getElem_cons hl] at hd
    simp only [List.cons.injEq] at hd
    obtain ⟨env', e1, e2⟩ := step i x env h (fun e' h' => forL chk t body X D xs e' h') (by rw [List.getElem?_eq_getElem hl, hd.1]) j
      fun e' h' j' => forL_inv J xs0 hc fin step xs (i + 1) e' h' hd.2 hl j'
    exact ⟨hc _ _ _ j, env', e1, e2⟩
theorem for_inv {chk : MH → Prop} {t : Tg} {body : Env → MH → Ed → XW → Prop} {X : XW} {D : Ed} (J : Nat → Env → MH → Prop) {xs : List M} {env : Env} {h : MH} (h0 : J 0 env h)
    (hc : ∀ i e h, J i e h → chk h) (fin : ∀ e h, J xs.length e h → D.nx e h)
    (step : ∀ i x env h (N : Env → MH → Prop), xs[i]? = some x → J i env h → (∀ e h', J (i + 1) e h' → N e h') → ∃ env', bindT t x env = some env' ∧ body env' h { nx := N, rt := D.rt, bk := D.nx, ct := N } X) :
    forL chk t body X D xs env h := forL_inv J xs hc fin step xs 0 env h (by simp) (Nat.zero_le _) h0
theorem rngL_get {a b : Int} {i : Nat} {x : M} (e : (rngL a b)[i]? = some x) : x = .int (a + i) ∧ i < (b - a).toNat := by
  unfold rngL at e
  rw [List.getElem?_map] at e
  cases q : (List.range (b - a).toNat)[i]? with
  | none => rw [q] at e; cases e
  | some j =>
    rw [q] at e
    have hl : i < (b - a).toNat := by
      have := (List.getElem?_eq_some_iff.mp q).1
      simpa using this
    rw [List.getElem?_range hl] at q
    cases q
    exact ⟨(Option.some.inj e).symm, hl⟩
/-! ### the draws -/
section
variable {G : MG} {gl : Nat → M} {d d' : FD} {f f' : Nat}
def pickB (t : Nat) : MSs := (.cons (.ret (.idx (.var 1) (.call t (.cons (.var 0) (.cons (.prm .len (.cons (.var 1) .nil)) .nil))))) .nil)
theorem pick_ok (hf : G.fns[f]? = some d) (hN : d.N.length = 6) (hB : d.body = takeB) (hf' : G.fns[f']? = some d') (hN' : d'.N.length = 2) (hB' : d'.body = pickB f) {n k l : Nat} {h : MH} {u : Int} {xs : List M} {Q : QE} {X : Exn → MH → Prop} (H : HandAt h k u) (hu : u ≤ 2 ^ 40)
    (hl : h[l]? = some (.lst xs)) (hlk : l ≠ k) (h0 : xs ≠ []) (h1 : xs.length < 2 ^ 60) (q : ∀ (i : Nat) x h', xs[i]? = some x → Keep k h h' → HandAt h' k (u + 1) → Q x h') : Sem G gl (n + 2) f' [.ref k, .ref l] h Q X := by
  refine ⟨d', hf', ?_⟩
  simp only [wF, hB', pickB, startE, hN']
  simp only [wSs, wS, wE, wEs, wAnd, wOr, wT, wAndT, wOrT, wO, wC, wI, setAll, w_add, w_adds, w_addt, w_addl, w_sub, w_mul, w_mull, w_div, w_mod, w_pow, w_shl, w_eq, w_ne, w_in, w_nin, w_lt, w_le, w_gt, w_ge, w_is, w_isn, w_eqi, w_eqs, w_eqb, w_tn, w_tb, w_ti, w_tt, w_it, w_if, w_is', w_il, w_st, w_ss, w_sl, w_lent, w_lenf, w_lens, w_lenl, w_tupt, w_tupl, w_lstt, w_lstl, w_stri, w_strs, w_inti, w_intb, w_min2, w_max2, w_abs, w_all, w_any, w_sum, w_join, w_app, w_ext, w_pop, w_tyj, w_mult, w_dict, w_dcopy, w_dkeys, w_dlen, w_dgetN, w_dget2, w_dget2s, w_tyd, w_zipt, w_zipl, w_tpq, w_key, w_keys, getD_new, w_tya, w_tye, w_typ, w_isin, w_isib, w_isii, w_isis, w_isit, w_ont, w_onf, w_ons, w_onl, w_rng1, w_rng2, w_nm, w_tp, Option.some.injEq, exists_eq_left', exists_eq_left, exists_eq, exists_eq', List.getElem?_cons_zero, List.getElem?_cons_succ, List.set_cons_zero, List.set_cons_succ, List.map_cons, List.map_nil, List.cons_append, List.nil_append, List.length_cons, List.length_nil, M.int.injEq, M.ref.injEq, M.str.injEq, M.bl.injEq, M.tup.injEq, List.replicate, Nat.reduceSub, Nat.reduceAdd, true_and, and_true, exists_and_left, exists_and_right, at_0, at_1, at_2, at_3, at_4, Nat.reduceLT, List.length_set, MO.lst.injEq, ix_0, ix_1, ix_2, beq_iff_eq, reduceCtorEq, if_true, if_false, ite_true, ite_false, getL_new, wipeE, Bool.false_eq_true, decide_true, decide_false, Bool.not_true, Bool.not_false, getL_of hl]
  have hp : 0 < xs.length := List.length_pos_iff.mpr h0
  refine take_ok hf hN hB H hu (by omega) (by omega) fun x h' x0 x1 K H' => ?_
  simp only [wSs, wS, wE, wEs, wAnd, wOr, wT, wAndT, wOrT, wO, wC, wI, setAll, w_add, w_adds, w_addt, w_addl, w_sub, w_mul, w_mull, w_div, w_mod, w_pow, w_shl, w_eq, w_ne, w_in, w_nin, w_lt, w_le, w_gt, w_ge, w_is, w_isn, w_eqi, w_eqs, w_eqb, w_tn, w_tb, w_ti, w_tt, w_it, w_if, w_is', w_il, w_st, w_ss, w_sl, w_lent, w_lenf, w_lens, w_lenl, w_tupt, w_tupl, w_lstt, w_lstl, w_stri, w_strs, w_inti, w_intb, w_min2, w_max2, w_abs, w_all, w_any, w_sum, w_join, w_app, w_ext, w_pop, w_tyj, w_mult, w_dict, w_dcopy, w_dkeys, w_dlen, w_dgetN, w_dget2, w_dget2s, w_tyd, w_zipt, w_zipl, w_tpq, w_key, w_keys, getD_new, w_tya, w_tye, w_typ, w_isin, w_isib, w_isii, w_isis, w_isit, w_ont, w_onf, w_ons, w_onl, w_rng1, w_rng2, w_nm, w_tp, Option.some.injEq, exists_eq_left', exists_eq_left, exists_eq, exists_eq', List.getElem?_cons_zero, List.getElem?_cons_succ, List.set_cons_zero, List.set_cons_succ, List.map_cons, List.map_nil, List.cons_append, List.nil_append, List.length_cons, List.length_nil, M.int.injEq, M.ref.injEq, M.str.injEq, M.bl.injEq, M.tup.injEq, List.replicate, Nat.reduceSub, Nat.reduceAdd, true_and, and_true, exists_and_left, exists_and_right, at_0, at_1, at_2, at_3, at_4, Nat.reduceLT, List.length_set, MO.lst.injEq, ix_0, ix_1, ix_2, beq_iff_eq, reduceCtorEq, if_true, if_false, ite_true, ite_false, getL_new, wipeE, Bool.false_eq_true, decide_true, decide_false, Bool.not_true, Bool.not_false]
  obtain ⟨j, rfl⟩ : ∃ j : Nat, x = j := ⟨x.toNat, by omega⟩
  have hj : j < xs.length := by omega
  exact ⟨xs, getL_of (K.2 _ _ hlk hl), xs[j], atI_nat (List.getElem?_eq_getElem hj), q j _ h' (List.getElem?_eq_getElem hj) K H'⟩
def handB : MSs := (.cons (.asg (.nm 2) (.cst (.int 0))) (
  .cons (.ife (.cmp .Lt (.var 1) (.prm .len (.cons (.var 0) .nil))) (.cons (.asg (.nm 2) (.idx (.var 0) (.var 1))) .nil) .nil) (
  .cons (.ret (.lst (.cons (.bin .Mult (.var 2) (.prm .int (.cons (.cmp .GtE (.var 2) (.bin .Pow (.cst (.int 10)) (.cst (.int 18)))) .nil))) (.cons (.bin .Add (.bin .Add (.bin .Mod (.var 2) (.cst (.int 2305843009213693951))) (.bin .Mult (.cst (.int 7919)) (.var 1))) (.cst (.int 3))) (.cons (.cst (.int 0)) .nil))))) .nil)))
theorem hand_ok (hf : G.fns[f]? = some d) (hN : d.N.length = 3) (hB : d.body = handB) {n : Nat} {h : MH} {ns : List Int} {i : Int} {Q : QE} {X : Exn → MH → Prop} (h0 : 0 ≤ i) (h1 : i < 2 ^ 40)
    (q : ∀ o, HandAt (h ++ [o]) h.length 0 → Q (.ref h.length) (h ++ [o])) : Sem G gl (n + 1) f [.fz (ns.map M.int), .int i] h Q X := by
  refine ⟨d, hf, ?_⟩
  simp only [wF, hB, handB, startE, hN]
  simp only [wSs, wS, wE, wEs, wAnd, wOr, wT, wAndT, wOrT, wO, wC, wI, setAll, w_add, w_adds, w_addt, w_addl, w_sub, w_mul, w_mull, w_div, w_mod, w_pow, w_shl, w_eq, w_ne, w_in, w_nin, w_lt, w_le, w_gt, w_ge, w_is, w_isn, w_eqi, w_eqs, w_eqb, w_tn, w_tb, w_ti, w_tt, w_it, w_if, w_is', w_il, w_st, w_ss, w_sl, w_lent, w_lenf, w_lens, w_lenl, w_tupt, w_tupl, w_lstt, w_lstl, w_stri, w_strs, w_inti, w_intb, w_min2, w_max2, w_abs, w_all, w_any, w_sum, w_join, w_app, w_ext, w_pop, w_tyj, w_mult, w_dict, w_dcopy, w_dkeys, w_dlen, w_dgetN, w_dget2, w_dget2s, w_tyd, w_zipt, w_zipl, w_tpq, w_key, w_keys, getD_new, w_tya, w_tye, w_typ, w_isin, w_isib, w_isii, w_isis, w_isit, w_ont, w_onf, w_ons, w_onl, w_rng1, w_rng2, w_nm, w_tp, Option.some.injEq, exists_eq_left', exists_eq_left, exists_eq, exists_eq', List.getElem?_cons_zero, List.getElem?_cons_succ, List.set_cons_zero, List.set_cons_succ, List.map_cons, List.map_nil, List.cons_append, List.nil_append, List.length_cons, List.length_nil, M.int.injEq, M.ref.injEq, M.str.injEq, M.bl.injEq, M.tup.injEq, List.replicate, Nat.reduceSub, Nat.reduceAdd, true_and, and_true, exists_and_left, exists_and_right, at_0, at_1, at_2, at_3, at_4, Nat.reduceLT, List.length_set, MO.lst.injEq, ix_0, ix_1, ix_2, beq_iff_eq, reduceCtorEq, if_true, if_false, ite_true, ite_false, getL_new, wipeE, Bool.false_eq_true, decide_true, decide_false, Bool.not_true, Bool.not_false, List.length_map]
  have fin : ∀ c : Int, mulOk c (if decide ((10 : Int) ^ (18 : Int).toNat ≤ c) = true then 1 else 0) ∧ 0 < (2305843009213693951 : Int) ∧ mulOk 7919 i ∧ Q (.ref h.length) (h ++ [.lst [.int (c * if decide ((10 : Int) ^ (18 : Int).toNat ≤ c) = true then 1 else 0), .int (c % 2305843009213693951 + 7919 * i + 3), .int 0]]) := fun c => by
    have hm := Int.emod_lt_of_pos c (show (0 : Int) < 2305843009213693951 by decide)
    have hm0 := Int.emod_nonneg c (show (2305843009213693951 : Int) ≠ 0 by decide)
    refine ⟨mul_small' ?_ ?_, by decide, mul_small (by decide) (by decide), q _ ⟨_, _, _, get_new, ?_, by omega, by omega, by omega, by omega⟩⟩
    · split <;> decide
    · split <;> decide
    · split
      · rename_i z
        have : (10 : Int) ^ (18 : Int).toNat ≤ c := by simpa using z
        have e : (10 : Int) ^ (18 : Int).toNat = 1000000000000000000 := by decide
        omega
      · simp
  have hp : CPow 10 18 := by unfold CPow; decide
  by_cases hl : i < (ns.length : Int)
  · simp only [wSs, wS, wE, wEs, wAnd, wOr, wT, wAndT, wOrT, wO, wC, wI, setAll, w_add, w_adds, w_addt, w_addl, w_sub, w_mul, w_mull, w_div, w_mod, w_pow, w_shl, w_eq, w_ne, w_in, w_nin, w_lt, w_le, w_gt, w_ge, w_is, w_isn, w_eqi, w_eqs, w_eqb, w_tn, w_tb, w_ti, w_tt, w_it, w_if, w_is', w_il, w_st, w_ss, w_sl, w_lent, w_lenf, w_lens, w_lenl, w_tupt, w_tupl, w_lstt, w_lstl, w_stri, w_strs, w_inti, w_intb, w_min2, w_max2, w_abs, w_all, w_any, w_sum, w_join, w_app, w_ext, w_pop, w_tyj, w_mult, w_dict, w_dcopy, w_dkeys, w_dlen, w_dgetN, w_dget2, w_dget2s, w_tyd, w_zipt, w_zipl, w_tpq, w_key, w_keys, getD_new, w_tya, w_tye, w_typ, w_isin, w_isib, w_isii, w_isis, w_isit, w_ont, w_onf, w_ons, w_onl, w_rng1, w_rng2, w_nm, w_tp, Option.some.injEq, exists_eq_left', exists_eq_left, exists_eq, exists_eq', List.getElem?_cons_zero, List.getElem?_cons_succ, List.set_cons_zero, List.set_cons_succ, List.map_cons, List.map_nil, List.cons_append, List.nil_append, List.length_cons, List.length_nil, M.int.injEq, M.ref.injEq, M.str.injEq, M.bl.injEq, M.tup.injEq, List.replicate, Nat.reduceSub, Nat.reduceAdd, true_and, and_true, exists_and_left, exists_and_right, at_0, at_1, at_2, at_3, at_4, Nat.reduceLT, List.length_set, MO.lst.injEq, ix_0, ix_1, ix_2, beq_iff_eq, reduceCtorEq, if_true, if_false, ite_true, ite_false, getL_new, wipeE, Bool.false_eq_true, decide_true, decide_false, Bool.not_true, Bool.not_false, hl, decide_true, if_true]
    obtain ⟨j, rfl⟩ : ∃ j : Nat, i = j := ⟨i.toNat, by omega⟩
    have hj : j < ns.length := by omega
    refine ⟨.int ns[j], atI_nat (by rw [List.getElem?_map, List.getElem?_eq_getElem hj]; rfl), ?_⟩
    simp only [wSs, wS, wE, wEs, wAnd, wOr, wT, wAndT, wOrT, wO, wC, wI, setAll, w_add, w_adds, w_addt, w_addl, w_sub, w_mul, w_mull, w_div, w_mod, w_pow, w_shl, w_eq, w_ne, w_in, w_nin, w_lt, w_le, w_gt, w_ge, w_is, w_isn, w_eqi, w_eqs, w_eqb, w_tn, w_tb, w_ti, w_tt, w_it, w_if, w_is', w_il, w_st, w_ss, w_sl, w_lent, w_lenf, w_lens, w_lenl, w_tupt, w_tupl, w_lstt, w_lstl, w_stri, w_strs, w_inti, w_intb, w_min2, w_max2, w_abs, w_all, w_any, w_sum, w_join, w_app, w_ext, w_pop, w_tyj, w_mult, w_dict, w_dcopy, w_dkeys, w_dlen, w_dgetN, w_dget2, w_dget2s, w_tyd, w_zipt, w_zipl, w_tpq, w_key, w_keys, getD_new, w_tya, w_tye, w_typ, w_isin, w_isib, w_isii, w_isis, w_isit, w_ont, w_onf, w_ons, w_onl, w_rng1, w_rng2, w_nm, w_tp, Option.some.injEq, exists_eq_left', exists_eq_left, exists_eq, exists_eq', List.getElem?_cons_zero, List.getElem?_cons_succ, List.set_cons_zero, List.set_cons_succ, List.map_cons, List.map_nil, List.cons_append, List.nil_append, List.length_cons, List.length_nil, M.int.injEq, M.ref.injEq, M.str.injEq, M.bl.injEq, M.tup.injEq, List.replicate, Nat.reduceSub, Nat.reduceAdd, true_and, and_true, exists_and_left, exists_and_right, at_0, at_1, at_2, at_3, at_4, Nat.reduceLT, List.length_set, MO.lst.injEq, ix_0, ix_1, ix_2, beq_iff_eq, reduceCtorEq, if_true, if_false, ite_true, ite_false, getL_new, wipeE, Bool.false_eq_true, decide_true, decide_false, Bool.not_true, Bool.not_false]
    exact ⟨hp, fin ns[j]⟩
  · simp only [wSs, wS, wE, wEs, wAnd, wOr, wT, wAndT, wOrT, wO, wC, wI, setAll, w_add, w_adds, w_addt, w_addl, w_sub, w_mul, w_mull, w_div, w_mod, w_pow, w_shl, w_eq, w_ne, w_in, w_nin, w_lt, w_le, w_gt, w_ge, w_is, w_isn, w_eqi, w_eqs, w_eqb, w_tn, w_tb, w_ti, w_tt, w_it, w_if, w_is', w_il, w_st, w_ss, w_sl, w_lent, w_lenf, w_lens, w_lenl, w_tupt, w_tupl, w_lstt, w_lstl, w_stri, w_strs, w_inti, w_intb, w_min2, w_max2, w_abs, w_all, w_any, w_sum, w_join, w_app, w_ext, w_pop, w_tyj, w_mult, w_dict, w_dcopy, w_dkeys, w_dlen, w_dgetN, w_dget2, w_dget2s, w_tyd, w_zipt, w_zipl, w_tpq, w_key, w_keys, getD_new, w_tya, w_tye, w_typ, w_isin, w_isib, w_isii, w_isis, w_isit, w_ont, w_onf, w_ons, w_onl, w_rng1, w_rng2, w_nm, w_tp, Option.some.injEq, exists_eq_left', exists_eq_left, exists_eq, exists_eq', List.getElem?_cons_zero, List.getElem?_cons_succ, List.set_cons_zero, List.set_cons_succ, List.map_cons, List.map_nil, List.cons_append, List.nil_append, List.length_cons, List.length_nil, M.int.injEq, M.ref.injEq, M.str.injEq, M.bl.injEq, M.tup.injEq, List.replicate, Nat.reduceSub, Nat.reduceAdd, true_and, and_true, exists_and_left, exists_and_right, at_0, at_1, at_2, at_3, at_4, Nat.reduceLT, List.length_set, MO.lst.injEq, ix_0, ix_1, ix_2, beq_iff_eq, reduceCtorEq, if_true, if_false, ite_true, ite_false, getL_new, wipeE, Bool.false_eq_true, decide_true, decide_false, Bool.not_true, Bool.not_false, hl, decide_false, if_false, Bool.false_eq_true]
    exact ⟨hp, fin 0⟩
end
end Wg
open PySem PySem.Spec PyProof.Rows
set_option linter.all false
set_option Elab.async false
set_option maxRecDepth 100000
namespace Wg
open L2
/-! ### pure comprehensions; what a hand of draws leaves -/
structure At (G : MG) (f : Nat) (len : Nat) (b : MSs) : Prop where
  ex : ∃ d, G.fns[f]? = some d ∧ d.N.length = len ∧ d.body = b
theorem take_snoc {α : Type} {xs : List α} {i : Nat} {x : α} (h : xs[i]? = some x) : xs.take (i + 1) = xs.take i ++ [x] := by
  rw [List.take_add_one, h]; rfl
theorem mem_of_get {α : Type} {xs : List α} {i : Nat} {x : α} (h : xs[i]? = some x) : x ∈ xs := List.mem_of_getElem? h
theorem sizeL : sizeLine = 16777216 := sizeLine_eq
theorem comp_map {α : Type} {chk : MH → Prop} {bnd : M → Option Env} {elt : WE} {R : List M → MH → Prop} {ys : List α} {h : MH} (m g : α → M) (hc : ∀ h', Gro h h' → chk h')
    (el : ∀ x ∈ ys, ∀ h1 (Q : QE), Gro h h1 → (∀ h2, Gro h1 h2 → Q (g x) h2) → ∃ env, bnd (m x) = some env ∧ elt env h1 Q (fun _ _ => False)) (q : ∀ h', Gro h h' → R (ys.map g) h') :
    compL chk bnd (fun _ h Q _ => Q true h) elt (fun _ _ => False) (ys.map m) [] h R := by
  refine comp_inv (fun i acc h1 => acc = (ys.take i).map g ∧ Gro h h1) ⟨by simp, .refl h⟩ (fun _ _ _ j => hc _ j.2) (fun acc h2 ⟨ha, g2⟩ => ?_) fun i x acc h1 R' hx ⟨ha, g1⟩ k => ?_
  · rw [List.length_map, List.take_length] at ha
    subst ha; exact q h2 g2
  · rw [List.getElem?_map] at hx
    cases hy : ys[i]? with
    | none => rw [hy] at hx; cases hx
    | some y =>
      rw [hy] at hx
      cases hx
      obtain ⟨env, e1, e2⟩ := el y (mem_of_get hy) h1 (fun y h2 => R' (acc ++ [y]) h2) g1 fun h2 g2 => k _ h2 ⟨by rw [take_snoc hy, List.map_append, ha]; rfl, g1.trans g2⟩
      exact ⟨env, e1, e2⟩
theorem Gro.at {h h' : MH} {o : MO} (g : Gro (h ++ [o]) h') : h'[h.length]? = some o := g.get get_new
theorem Gro.skip {h h' : MH} {o : MO} (g : Gro (h ++ [o]) h') : Gro h h' := .trans (.app _ _) g
theorem Gro.add {h h' : MH} (g : Gro h h') (t : MH) : Gro h (h' ++ t) := g.trans (.app _ _)
theorem Gro.set {h h' : MH} {k : Nat} {o : MO} (g : Gro h h') (l : h.length ≤ k) : Gro h (h'.set k o) := by
  obtain ⟨t, rfl⟩ := g
  exact ⟨t.set (k - h.length) o, List.set_append_right (s := h) k o l⟩
structure GK (k : Nat) (h0 h : MH) (u : Int) : Prop where
  keep : Keep k h0 h
  hand : HandAt h k u
theorem GK.app {k : Nat} {h0 h t : MH} {u : Int} (g : GK k h0 h u) : GK k h0 (h ++ t) u := ⟨g.1.trans .app, g.2.app⟩
theorem GK.lt {k : Nat} {h0 h : MH} {u : Int} (g : GK k h0 h u) : k < h.length := by
  obtain ⟨a, b, c, e, _⟩ := g.2
  exact (List.getElem?_eq_some_iff.mp e).1
theorem GK.self {k : Nat} {h0 h : MH} {u : Int} (g : GK k h0 h u) : GK k h h u := ⟨.refl k h, g.2⟩
theorem GK.trans {k : Nat} {h0 h h' : MH} {u v : Int} (g : GK k h0 h u) (g' : GK k h h' v) : GK k h0 h' v := ⟨g.1.trans g'.1, g'.2⟩
theorem GK.mono {k : Nat} {h0 h : MH} {u v : Int} (g : GK k h0 h u) (l : u ≤ v) : GK k h0 h v := ⟨g.1, g.2.mono l⟩
theorem GK.gro {k : Nat} {h0 h h' : MH} {u : Int} (g : GK k h0 h u) (g' : Gro h h') : GK k h0 h' u := by
  obtain ⟨t, rfl⟩ := g'; exact g.app
theorem GK.get {k j : Nat} {h0 h : MH} {u : Int} {o : MO} (g : GK k h0 h u) (hj : j ≠ k) (e : h0[j]? = some o) : h[j]? = some o := g.1.2 j o hj e
theorem GK.setN {k l : Nat} {h0 h : MH} {u : Int} {o : MO} (g : GK k h0 h u) (hl : l ≠ k) (h1 : h0.length ≤ l) : GK k h0 (h.set l o) u := by
  refine ⟨⟨by rw [List.length_set]; exact g.1.1, fun j p hj e => ?_⟩, ?_⟩
  · have : j < h0.length := (List.getElem?_eq_some_iff.mp e).1
    rw [List.getElem?_set_ne (by omega)]; exact g.1.2 j p hj e
  · obtain ⟨a, b, c, e, r⟩ := g.2
    exact ⟨a, b, c, by rw [List.getElem?_set_ne hl]; exact e, r⟩
theorem rng_small {b : Int} (b0 : 0 ≤ b) (b1 : b ≤ 1000) : rngOk 0 b := by
  have := sizeL
  exact ⟨by decide, by decide, by omega, by omega, by omega⟩
theorem rng_len {b : Int} : (rngL 0 b).length = b.toNat := by unfold rngL; simp
section
variable {G : MG} {gl : Nat → M} {n k f f' : Nat} {h0 h : MH} {u : Int} {Q : QE} {X : Exn → MH → Prop}
theorem tk (F : At G f 6 takeB) {many : Int} (g : GK k h0 h u) (hu : u ≤ 2 ^ 40) (m0 : 0 < many) (m1 : many < 2 ^ 60) (q : ∀ x h', 0 ≤ x → x < many → GK k h0 h' (u + 1) → Q (.int x) h') : Sem G gl (n + 1) f [.ref k, .int many] h Q X := by
  obtain ⟨d, h1, h2, h3⟩ := F.ex
  exact take_ok h1 h2 h3 g.2 hu m0 m1 fun x h' a b K H => q x h' a b ⟨g.1.trans K, H⟩
theorem pk (F : At G f 6 takeB) (F' : At G f' 2 (pickB f)) {l : Nat} {xs : List M} (g : GK k h0 h u) (hu : u ≤ 2 ^ 40) (hl : h[l]? = some (.lst xs)) (lk : l ≠ k) (x0 : xs ≠ []) (x1 : xs.length < 2 ^ 60) (q : ∀ x h', x ∈ xs → GK k h0 h' (u + 1) → Q x h') :
    Sem G gl (n + 2) f' [.ref k, .ref l] h Q X := by
  obtain ⟨d, h1, h2, h3⟩ := F.ex
  obtain ⟨d', h4, h5, h6⟩ := F'.ex
  exact pick_ok h1 h2 h3 h4 h5 h6 g.2 hu hl lk x0 x1 fun i x h' a K H => q x h' (mem_of_get a) ⟨g.1.trans K, H⟩
end
end Wg
open PySem PySem.Spec PyProof.Rows
set_option linter.all false
set_option Elab.async false
set_option maxRecDepth 100000
set_option maxHeartbeats 4000000
namespace Wg
open L2
/-! ### tables as the laws draw them -/
inductive TR where
  | rd (b : Int) (js : List (Int × Int)) (nx : Int) | wr (b c nx : Int) | fin (m : M)
def prM (p : Int × Int) : M := .tup [.int p.1, .int p.2]
def TR.m : TR → M
  | .rd b js nx => .tup [.str [114, 101, 97, 100], .int b, .tup (js.map prM), .int nx]
  | .wr b c nx => .tup [.str [119, 114, 105, 116, 101], .int b, .int c, .int nx]
  | .fin m => m
/-- a next row -/
def Nx (rises : Bool) (at' many x : Int) : Prop := 0 ≤ x ∧ x < many ∧ (rises = true → at' < x)
structure JsOk (rises : Bool) (at' many : Int) (i : Int) (js : List (Int × Int)) : Prop where
  nd : (js.map (·.1)).Nodup
  ok : ∀ p ∈ js, 0 ≤ p.1 ∧ p.1 < i ∧ Nx rises at' many p.2
  ln : (js.length : Int) ≤ i
def RowOk (E : M → Prop) (rises : Bool) (boxes many at' : Int) : TR → Prop
  | .rd b js nx => 0 ≤ b ∧ b < boxes ∧ JsOk rises at' many 10 js ∧ Nx rises at' many nx
  | .wr b c nx => 0 ≤ b ∧ b < boxes ∧ 0 ≤ c ∧ c < 10 ∧ Nx rises at' many nx
  | .fin m => E m
def TR.isFin : TR → Bool
  | .fin _ => true
  | _ => false
structure TabOk (E : M → Prop) (rises : Bool) (boxes : Int) (rows : List TR) : Prop where
  len2 : 2 ≤ rows.length
  len40 : rows.length ≤ 40
  row : ∀ (i : Nat) (r : TR), rows[i]? = some r → RowOk E rises boxes rows.length i r
  last : ∀ r, rows[rows.length - 1]? = some r → r.isFin = true
  first : ∀ r, rows[0]? = some r → r.isFin = false
def tabM (rows : List TR) : M := .tup (rows.map TR.m)
def nextB (t : Nat) : MSs := (.cons (.ife (.var 3) (.cons (.ret (.bin .Add (.bin .Add (.var 1) (.cst (.int 1))) (.call t (.cons (.var 0) (.cons (.bin .Sub (.bin .Sub (.var 2) (.cst (.int 1))) (.var 1)) .nil))))) .nil) .nil) (
  .cons (.ret (.call t (.cons (.var 0) (.cons (.var 2) .nil)))) .nil))
def jumpsB (t nx : Nat) : MSs := (.cons (.asg (.nm 4) (.lst .nil)) (
  .cons (.for (.nm 5) (.rng (.cons (.cst (.int 10)) .nil)) (.cons (.ife (.cmp .Eq (.call t (.cons (.var 0) (.cons (.cst (.int 4)) .nil))) (.cst (.int 0))) (.cons (.exp (.mth .append (.var 4) (.cons (.tup (.cons (.var 5) (.cons (.call nx (.cons (.var 0) (.cons (.var 1) (.cons (.var 2) (.cons (.var 3) .nil))))) .nil))) .nil))) .nil) .nil) .nil)) (
  .cons (.ret (.prm .tuple (.cons (.var 4) .nil))) .nil)))
def tableB (t p js nx : Nat) : MSs := (.cons (.asg (.tp [5, 6]) (.var 1)) (
  .cons (.asg (.nm 7) (.bin .Add (.cst (.int 2)) (.call t (.cons (.var 0) (.cons (.bin .Sub (.var 2) (.cst (.int 1))) .nil))))) (
  .cons (.asg (.nm 8) (.lst .nil)) (
  .cons (.for (.nm 9) (.rng (.cons (.var 7) .nil)) (.cons (.asg (.nm 10) (.call t (.cons (.var 0) (.cons (.cst (.int 8)) .nil)))) (
    .cons (.ife (.or (.cons (.cmp .Eq (.var 9) (.bin .Sub (.var 7) (.cst (.int 1)))) (.cons (.and (.cons (.cmp .Gt (.var 9) (.cst (.int 0))) (.cons (.cmp .Eq (.var 10) (.cst (.int 0))) .nil))) .nil))) (.cons (.exp (.mth .append (.var 8) (.cons (.call p (.cons (.var 0) (.cons (.var 3) .nil))) .nil))) .nil) (.cons (.ife (.cmp .Lt (.var 10) (.cst (.int 4))) (.cons (.asg (.nm 11) (.call js (.cons (.var 0) (.cons (.var 9) (.cons (.var 7) (.cons (.var 4) .nil)))))) (
        .cons (.exp (.mth .append (.var 8) (.cons (.tup (.cons (.cst (.str [114, 101, 97, 100])) (.cons (.call t (.cons (.var 0) (.cons (.var 6) .nil))) (.cons (.var 11) (.cons (.call nx (.cons (.var 0) (.cons (.var 9) (.cons (.var 7) (.cons (.var 4) .nil))))) .nil))))) .nil))) .nil)) (.cons (.asg (.nm 12) (.call t (.cons (.var 0) (.cons (.idx (.lst (.cons (.cst (.int 2)) (.cons (.cst (.int 3)) (.cons (.cst (.int 10)) .nil)))) (.call t (.cons (.var 0) (.cons (.cst (.int 3)) .nil)))) .nil)))) (
        .cons (.exp (.mth .append (.var 8) (.cons (.tup (.cons (.cst (.str [119, 114, 105, 116, 101])) (.cons (.call t (.cons (.var 0) (.cons (.var 6) .nil))) (.cons (.var 12) (.cons (.call nx (.cons (.var 0) (.cons (.var 9) (.cons (.var 7) (.cons (.var 4) .nil))))) .nil))))) .nil))) .nil))) .nil)) .nil))) (
  .cons (.ret (.prm .tuple (.cons (.var 8) .nil))) .nil)))))
def bitsB : MSs := (.cons (.ret (.prm .tuple (.cons (.comp [2] (.nm 2) (.rng (.cons (.var 1) .nil)) .no (.bin .Mod (.bin .FloorDiv (.var 0) (.bin .LShift (.cst (.int 1)) (.var 2))) (.cst (.int 2)))) .nil))) .nil)
def tablesB (t tb bi : Nat) : MSs := (.cons (.asg (.tp [4, 5]) (.var 1)) (
  .cons (.asg (.nm 6) (.comp [9] (.nm 9) (.rng (.cons (.cst (.int 3)) .nil)) .no (.tup (.cons (.cst (.str [116, 111, 108, 100])) (.cons (.call bi (.cons (.call t (.cons (.var 0) (.cons (.bin .LShift (.cst (.int 1)) (.var 4)) .nil))) (.cons (.var 4) .nil))) .nil))))) (
  .cons (.asg (.nm 7) (.prm .tuple (.cons (.comp [9] (.nm 9) (.rng (.cons (.var 4) .nil)) .no (.call tb (.cons (.var 0) (.cons (.var 1) (.cons (.var 2) (.cons (.lst (.cons (.tup (.cons (.cst (.str [101, 110, 100])) .nil)) .nil)) (.cons (.var 3) .nil))))))) .nil))) (
  .cons (.asg (.nm 8) (.prm .tuple (.cons (.comp [9] (.nm 9) (.rng (.cons (.var 4) .nil)) .no (.call tb (.cons (.var 0) (.cons (.var 1) (.cons (.var 2) (.cons (.var 6) (.cons (.var 3) .nil))))))) .nil))) (
  .cons (.ret (.tup (.cons (.cst (.str [116, 97, 98, 108, 101, 115])) (.cons (.var 4) (.cons (.var 5) (.cons (.var 7) (.cons (.var 8) .nil))))))) .nil)))))
structure TabF (G : MG) (t p js nx tb bi tbs : Nat) : Prop where
  take : At G t 6 takeB
  pick : At G p 2 (pickB t)
  jumps : At G js 6 (jumpsB t nx)
  next : At G nx 4 (nextB t)
  table : At G tb 13 (tableB t p js nx)
  bits : At G bi 3 bitsB
  tables : At G tbs 10 (tablesB t tb bi)
section
variable {G : MG} {gl : Nat → M} {t p js nx tb bi tbs n k : Nat} {h0 h : MH} {u : Int} {Q : QE} {X : Exn → MH → Prop}
theorem next_gen (F : TabF G t p js nx tb bi tbs) {rises : Bool} {at' many : Int} (g : GK k h0 h u) (hu : u ≤ 2 ^ 39) (a0 : 0 ≤ at') (a1 : at' < many - 1) (m1 : many ≤ 1000)
    (q : ∀ x h', Nx rises at' many x → GK k h0 h' (u + 1) → Q (.int x) h') : Sem G gl (n + 2) nx [.ref k, .int at', .int many, .bl rises] h Q X := by
  obtain ⟨d, hd, hN, hB⟩ := F.next.ex
  refine ⟨d, hd, ?_⟩
  simp only [wF, hB, nextB, startE, hN]
  cases rises with
  | true =>
    simp only [wSs, wS, wE, wEs, wAnd, wOr, wT, wAndT, wOrT, wO, wC, wI, setAll, w_add, w_adds, w_addt, w_addl, w_sub, w_mul, w_mull, w_div, w_mod, w_pow, w_shl, w_eq, w_ne, w_in, w_nin, w_lt, w_le, w_gt, w_ge, w_is, w_isn, w_eqi, w_eqs, w_eqb, w_tn, w_tb, w_ti, w_tt, w_it, w_if, w_is', w_il, w_st, w_ss, w_sl, w_lent, w_lenf, w_lens, w_lenl, w_tupt, w_tupl, w_lstt, w_lstl, w_stri, w_strs, w_inti, w_intb, w_min2, w_max2, w_abs, w_all, w_any, w_sum, w_join, w_app, w_ext, w_pop, w_tyj, w_mult, w_dict, w_dcopy, w_dkeys, w_dlen, w_dgetN, w_dget2, w_dget2s, w_tyd, w_zipt, w_zipl, w_tpq, w_key, w_keys, getD_new, w_tya, w_tye, w_typ, w_isin, w_isib, w_isii, w_isis, w_isit, w_ont, w_onf, w_ons, w_onl, w_rng1, w_rng2, w_nm, w_tp, Option.some.injEq, exists_eq_left', exists_eq_left, exists_eq, exists_eq', List.getElem?_cons_zero, List.getElem?_cons_succ, List.set_cons_zero, List.set_cons_succ, List.map_cons, List.map_nil, List.cons_append, List.nil_append, List.length_cons, List.length_nil, M.int.injEq, M.ref.injEq, M.str.injEq, M.bl.injEq, M.tup.injEq, List.replicate, Nat.reduceSub, Nat.reduceAdd, true_and, and_true, exists_and_left, exists_and_right, at_0, at_1, at_2, at_3, at_4, Nat.reduceLT, List.length_set, MO.lst.injEq, ix_0, ix_1, ix_2, beq_iff_eq, reduceCtorEq, if_true, if_false, ite_true, ite_false, getL_new, wipeE, Bool.false_eq_true, decide_true, decide_false, Bool.not_true, Bool.not_false]
    refine tk F.take g (by omega) (by omega) (by omega) fun x h1 x0 x1 g1 => ?_
    try simp only [wSs, wS, wE, wEs, wAnd, wOr, wT, wAndT, wOrT, wO, wC, wI, setAll, w_add, w_adds, w_addt, w_addl, w_sub, w_mul, w_mull, w_div, w_mod, w_pow, w_shl, w_eq, w_ne, w_in, w_nin, w_lt, w_le, w_gt, w_ge, w_is, w_isn, w_eqi, w_eqs, w_eqb, w_tn, w_tb, w_ti, w_tt, w_it, w_if, w_is', w_il, w_st, w_ss, w_sl, w_lent, w_lenf, w_lens, w_lenl, w_tupt, w_tupl, w_lstt, w_lstl, w_stri, w_strs, w_inti, w_intb, w_min2, w_max2, w_abs, w_all, w_any, w_sum, w_join, w_app, w_ext, w_pop, w_tyj, w_mult, w_dict, w_dcopy, w_dkeys, w_dlen, w_dgetN, w_dget2, w_dget2s, w_tyd, w_zipt, w_zipl, w_tpq, w_key, w_keys, getD_new, w_tya, w_tye, w_typ, w_isin, w_isib, w_isii, w_isis, w_isit, w_ont, w_onf, w_ons, w_onl, w_rng1, w_rng2, w_nm, w_tp, Option.some.injEq, exists_eq_left', exists_eq_left, exists_eq, exists_eq', List.getElem?_cons_zero, List.getElem?_cons_succ, List.set_cons_zero, List.set_cons_succ, List.map_cons, List.map_nil, List.cons_append, List.nil_append, List.length_cons, List.length_nil, M.int.injEq, M.ref.injEq, M.str.injEq, M.bl.injEq, M.tup.injEq, List.replicate, Nat.reduceSub, Nat.reduceAdd, true_and, and_true, exists_and_left, exists_and_right, at_0, at_1, at_2, at_3, at_4, Nat.reduceLT, List.length_set, MO.lst.injEq, ix_0, ix_1, ix_2, beq_iff_eq, reduceCtorEq, if_true, if_false, ite_true, ite_false, getL_new, wipeE, Bool.false_eq_true, decide_true, decide_false, Bool.not_true, Bool.not_false]
    exact q _ h1 ⟨by omega, by omega, fun _ => by omega⟩ g1
  | false =>
    simp only [wSs, wS, wE, wEs, wAnd, wOr, wT, wAndT, wOrT, wO, wC, wI, setAll, w_add, w_adds, w_addt, w_addl, w_sub, w_mul, w_mull, w_div, w_mod, w_pow, w_shl, w_eq, w_ne, w_in, w_nin, w_lt, w_le, w_gt, w_ge, w_is, w_isn, w_eqi, w_eqs, w_eqb, w_tn, w_tb, w_ti, w_tt, w_it, w_if, w_is', w_il, w_st, w_ss, w_sl, w_lent, w_lenf, w_lens, w_lenl, w_tupt, w_tupl, w_lstt, w_lstl, w_stri, w_strs, w_inti, w_intb, w_min2, w_max2, w_abs, w_all, w_any, w_sum, w_join, w_app, w_ext, w_pop, w_tyj, w_mult, w_dict, w_dcopy, w_dkeys, w_dlen, w_dgetN, w_dget2, w_dget2s, w_tyd, w_zipt, w_zipl, w_tpq, w_key, w_keys, getD_new, w_tya, w_tye, w_typ, w_isin, w_isib, w_isii, w_isis, w_isit, w_ont, w_onf, w_ons, w_onl, w_rng1, w_rng2, w_nm, w_tp, Option.some.injEq, exists_eq_left', exists_eq_left, exists_eq, exists_eq', List.getElem?_cons_zero, List.getElem?_cons_succ, List.set_cons_zero, List.set_cons_succ, List.map_cons, List.map_nil, List.cons_append, List.nil_append, List.length_cons, List.length_nil, M.int.injEq, M.ref.injEq, M.str.injEq, M.bl.injEq, M.tup.injEq, List.replicate, Nat.reduceSub, Nat.reduceAdd, true_and, and_true, exists_and_left, exists_and_right, at_0, at_1, at_2, at_3, at_4, Nat.reduceLT, List.length_set, MO.lst.injEq, ix_0, ix_1, ix_2, beq_iff_eq, reduceCtorEq, if_true, if_false, ite_true, ite_false, getL_new, wipeE, Bool.false_eq_true, decide_true, decide_false, Bool.not_true, Bool.not_false]
    refine tk F.take g (by omega) (by omega) (by omega) fun x h1 x0 x1 g1 => ?_
    exact q _ h1 ⟨by omega, by omega, fun z => by cases z⟩ g1
theorem jumps_gen (F : TabF G t p js nx tb bi tbs) {rises : Bool} {at' many : Int} (g : GK k h0 h u) (hu : u ≤ 2 ^ 38) (a0 : 0 ≤ at') (a1 : at' < many - 1) (m1 : many ≤ 1000)
    (q : ∀ js' h', JsOk rises at' many 10 js' → GK k h0 h' (u + 20) → Q (.tup (js'.map prM)) h') : Sem G gl (n + 3) js [.ref k, .int at', .int many, .bl rises] h Q X := by
  obtain ⟨d, hd, hN, hB⟩ := F.jumps.ex
  refine ⟨d, hd, ?_⟩
  have hsz := sizeL
  simp only [wF, hB, jumpsB, startE, hN]
  simp only [wSs, wS, wE, wEs, wAnd, wOr, wT, wAndT, wOrT, wO, wC, wI, setAll, w_add, w_adds, w_addt, w_addl, w_sub, w_mul, w_mull, w_div, w_mod, w_pow, w_shl, w_eq, w_ne, w_in, w_nin, w_lt, w_le, w_gt, w_ge, w_is, w_isn, w_eqi, w_eqs, w_eqb, w_tn, w_tb, w_ti, w_tt, w_it, w_if, w_is', w_il, w_st, w_ss, w_sl, w_lent, w_lenf, w_lens, w_lenl, w_tupt, w_tupl, w_lstt, w_lstl, w_stri, w_strs, w_inti, w_intb, w_min2, w_max2, w_abs, w_all, w_any, w_sum, w_join, w_app, w_ext, w_pop, w_tyj, w_mult, w_dict, w_dcopy, w_dkeys, w_dlen, w_dgetN, w_dget2, w_dget2s, w_tyd, w_zipt, w_zipl, w_tpq, w_key, w_keys, getD_new, w_tya, w_tye, w_typ, w_isin, w_isib, w_isii, w_isis, w_isit, w_ont, w_onf, w_ons, w_onl, w_rng1, w_rng2, w_nm, w_tp, Option.some.injEq, exists_eq_left', exists_eq_left, exists_eq, exists_eq', List.getElem?_cons_zero, List.getElem?_cons_succ, List.set_cons_zero, List.set_cons_succ, List.map_cons, List.map_nil, List.cons_append, List.nil_append, List.length_cons, List.length_nil, M.int.injEq, M.ref.injEq, M.str.injEq, M.bl.injEq, M.tup.injEq, List.replicate, Nat.reduceSub, Nat.reduceAdd, true_and, and_true, exists_and_left, exists_and_right, at_0, at_1, at_2, at_3, at_4, Nat.reduceLT, List.length_set, MO.lst.injEq, ix_0, ix_1, ix_2, beq_iff_eq, reduceCtorEq, if_true, if_false, ite_true, ite_false, getL_new, wipeE, Bool.false_eq_true, decide_true, decide_false, Bool.not_true, Bool.not_false]
  refine ⟨rng_small (by omega) (by omega), ?_⟩
  generalize hr : h.length = r
  have hrk : r ≠ k := by have := g.lt; omega
  have hr0 : h0.length ≤ r := by have := g.1.1; omega
  refine for_inv (fun i e h' => ∃ ls a5, e = [some (M.ref k), some (.int at'), some (.int many), some (.bl rises), some (M.ref r), a5] ∧ JsOk rises at' many i ls ∧ ls.length ≤ i ∧ h'[r]? = some (.lst (ls.map prM)) ∧ GK k h0 h' (u + 2 * i))
    ⟨[], none, rfl, ⟨List.nodup_nil, (fun _ hx => nomatch hx), by simp⟩, Nat.le_refl _, by subst hr; exact get_new, by simpa using g.app⟩ (fun _ _ _ _ => trivial) ?_ ?_
  · rintro e h' ⟨ls, a5, rfl, hl, hn, hr', g'⟩
    rw [rng_len] at hl g'
    simp only [wSs, wS, wE, wEs, wAnd, wOr, wT, wAndT, wOrT, wO, wC, wI, setAll, w_add, w_adds, w_addt, w_addl, w_sub, w_mul, w_mull, w_div, w_mod, w_pow, w_shl, w_eq, w_ne, w_in, w_nin, w_lt, w_le, w_gt, w_ge, w_is, w_isn, w_eqi, w_eqs, w_eqb, w_tn, w_tb, w_ti, w_tt, w_it, w_if, w_is', w_il, w_st, w_ss, w_sl, w_lent, w_lenf, w_lens, w_lenl, w_tupt, w_tupl, w_lstt, w_lstl, w_stri, w_strs, w_inti, w_intb, w_min2, w_max2, w_abs, w_all, w_any, w_sum, w_join, w_app, w_ext, w_pop, w_tyj, w_mult, w_dict, w_dcopy, w_dkeys, w_dlen, w_dgetN, w_dget2, w_dget2s, w_tyd, w_zipt, w_zipl, w_tpq, w_key, w_keys, getD_new, w_tya, w_tye, w_typ, w_isin, w_isib, w_isii, w_isis, w_isit, w_ont, w_onf, w_ons, w_onl, w_rng1, w_rng2, w_nm, w_tp, Option.some.injEq, exists_eq_left', exists_eq_left, exists_eq, exists_eq', List.getElem?_cons_zero, List.getElem?_cons_succ, List.set_cons_zero, List.set_cons_succ, List.map_cons, List.map_nil, List.cons_append, List.nil_append, List.length_cons, List.length_nil, M.int.injEq, M.ref.injEq, M.str.injEq, M.bl.injEq, M.tup.injEq, List.replicate, Nat.reduceSub, Nat.reduceAdd, true_and, and_true, exists_and_left, exists_and_right, at_0, at_1, at_2, at_3, at_4, Nat.reduceLT, List.length_set, MO.lst.injEq, ix_0, ix_1, ix_2, beq_iff_eq, reduceCtorEq, if_true, if_false, ite_true, ite_false, getL_new, wipeE, Bool.false_eq_true, decide_true, decide_false, Bool.not_true, Bool.not_false, getL_of hr']
    exact q ls h' hl (g'.mono (by omega))
  · rintro i x e h' N hx ⟨ls, a5, rfl, hl, hn, hr', g'⟩ kk
    obtain ⟨rfl, hi⟩ := rngL_get hx
    refine ⟨_, rfl, ?_⟩
    try simp only [wSs, wS, wE, wEs, wAnd, wOr, wT, wAndT, wOrT, wO, wC, wI, setAll, w_add, w_adds, w_addt, w_addl, w_sub, w_mul, w_mull, w_div, w_mod, w_pow, w_shl, w_eq, w_ne, w_in, w_nin, w_lt, w_le, w_gt, w_ge, w_is, w_isn, w_eqi, w_eqs, w_eqb, w_tn, w_tb, w_ti, w_tt, w_it, w_if, w_is', w_il, w_st, w_ss, w_sl, w_lent, w_lenf, w_lens, w_lenl, w_tupt, w_tupl, w_lstt, w_lstl, w_stri, w_strs, w_inti, w_intb, w_min2, w_max2, w_abs, w_all, w_any, w_sum, w_join, w_app, w_ext, w_pop, w_tyj, w_mult, w_dict, w_dcopy, w_dkeys, w_dlen, w_dgetN, w_dget2, w_dget2s, w_tyd, w_zipt, w_zipl, w_tpq, w_key, w_keys, getD_new, w_tya, w_tye, w_typ, w_isin, w_isib, w_isii, w_isis, w_isit, w_ont, w_onf, w_ons, w_onl, w_rng1, w_rng2, w_nm, w_tp, Option.some.injEq, exists_eq_left', exists_eq_left, exists_eq, exists_eq', List.getElem?_cons_zero, List.getElem?_cons_succ, List.set_cons_zero, List.set_cons_succ, List.map_cons, List.map_nil, List.cons_append, List.nil_append, List.length_cons, List.length_nil, M.int.injEq, M.ref.injEq, M.str.injEq, M.bl.injEq, M.tup.injEq, List.replicate, Nat.reduceSub, Nat.reduceAdd, true_and, and_true, exists_and_left, exists_and_right, at_0, at_1, at_2, at_3, at_4, Nat.reduceLT, List.length_set, MO.lst.injEq, ix_0, ix_1, ix_2, beq_iff_eq, reduceCtorEq, if_true, if_false, ite_true, ite_false, getL_new, wipeE, Bool.false_eq_true, decide_true, decide_false, Bool.not_true, Bool.not_false]
    refine tk F.take g'.self (by omega) (by decide) (by decide) fun z h1 z0 z1 g1 => ?_
    by_cases hz : z = 0
    · simp only [wSs, wS, wE, wEs, wAnd, wOr, wT, wAndT, wOrT, wO, wC, wI, setAll, w_add, w_adds, w_addt, w_addl, w_sub, w_mul, w_mull, w_div, w_mod, w_pow, w_shl, w_eq, w_ne, w_in, w_nin, w_lt, w_le, w_gt, w_ge, w_is, w_isn, w_eqi, w_eqs, w_eqb, w_tn, w_tb, w_ti, w_tt, w_it, w_if, w_is', w_il, w_st, w_ss, w_sl, w_lent, w_lenf, w_lens, w_lenl, w_tupt, w_tupl, w_lstt, w_lstl, w_stri, w_strs, w_inti, w_intb, w_min2, w_max2, w_abs, w_all, w_any, w_sum, w_join, w_app, w_ext, w_pop, w_tyj, w_mult, w_dict, w_dcopy, w_dkeys, w_dlen, w_dgetN, w_dget2, w_dget2s, w_tyd, w_zipt, w_zipl, w_tpq, w_key, w_keys, getD_new, w_tya, w_tye, w_typ, w_isin, w_isib, w_isii, w_isis, w_isit, w_ont, w_onf, w_ons, w_onl, w_rng1, w_rng2, w_nm, w_tp, Option.some.injEq, exists_eq_left', exists_eq_left, exists_eq, exists_eq', List.getElem?_cons_zero, List.getElem?_cons_succ, List.set_cons_zero, List.set_cons_succ, List.map_cons, List.map_nil, List.cons_append, List.nil_append, List.length_cons, List.length_nil, M.int.injEq, M.ref.injEq, M.str.injEq, M.bl.injEq, M.tup.injEq, List.replicate, Nat.reduceSub, Nat.reduceAdd, true_and, and_true, exists_and_left, exists_and_right, at_0, at_1, at_2, at_3, at_4, Nat.reduceLT, List.length_set, MO.lst.injEq, ix_0, ix_1, ix_2, beq_iff_eq, reduceCtorEq, if_true, if_false, ite_true, ite_false, getL_new, wipeE, Bool.false_eq_true, decide_true, decide_false, Bool.not_true, Bool.not_false, hz]
      refine ⟨by rw [getL_of (g1.get hrk hr')]; rfl, ?_⟩
      refine next_gen F g1 (by omega) a0 a1 m1 fun y h2 hy g2 => ?_
      refine ⟨_, g2.get hrk hr', by rw [List.length_map]; omega, ?_⟩
      refine kk _ _ ⟨ls ++ [(0 + (i : Int), y)], _, rfl, ⟨?_, ?_, by have := hl.ln; simp; omega⟩, by simpa using hn, ?_, ?_⟩
      · rw [List.map_append, List.nodup_append]
        refine ⟨hl.nd, by simp, fun a ha b hb => ?_⟩
        simp at hb
        obtain ⟨p, hp, rfl⟩ := List.mem_map.mp ha
        have := (hl.ok p hp).2.1
        omega
      · intro p hp
        rcases List.mem_append.mp hp with hp | hp
        · have := hl.ok p hp
          exact ⟨this.1, by push_cast; omega, this.2.2⟩
        · rcases List.mem_singleton.mp hp with rfl
          exact ⟨by simp, by show (0 : Int) + (i : Int) < ((i + 1 : Nat) : Int); omega, hy⟩
      · rw [set_self (g2.get hrk hr'), List.map_append]; rfl
      · exact ((g'.trans g2).setN hrk hr0).mono (by push_cast; omega)
    · simp only [wSs, wS, wE, wEs, wAnd, wOr, wT, wAndT, wOrT, wO, wC, wI, setAll, w_add, w_adds, w_addt, w_addl, w_sub, w_mul, w_mull, w_div, w_mod, w_pow, w_shl, w_eq, w_ne, w_in, w_nin, w_lt, w_le, w_gt, w_ge, w_is, w_isn, w_eqi, w_eqs, w_eqb, w_tn, w_tb, w_ti, w_tt, w_it, w_if, w_is', w_il, w_st, w_ss, w_sl, w_lent, w_lenf, w_lens, w_lenl, w_tupt, w_tupl, w_lstt, w_lstl, w_stri, w_strs, w_inti, w_intb, w_min2, w_max2, w_abs, w_all, w_any, w_sum, w_join, w_app, w_ext, w_pop, w_tyj, w_mult, w_dict, w_dcopy, w_dkeys, w_dlen, w_dgetN, w_dget2, w_dget2s, w_tyd, w_zipt, w_zipl, w_tpq, w_key, w_keys, getD_new, w_tya, w_tye, w_typ, w_isin, w_isib, w_isii, w_isis, w_isit, w_ont, w_onf, w_ons, w_onl, w_rng1, w_rng2, w_nm, w_tp, Option.some.injEq, exists_eq_left', exists_eq_left, exists_eq, exists_eq', List.getElem?_cons_zero, List.getElem?_cons_succ, List.set_cons_zero, List.set_cons_succ, List.map_cons, List.map_nil, List.cons_append, List.nil_append, List.length_cons, List.length_nil, M.int.injEq, M.ref.injEq, M.str.injEq, M.bl.injEq, M.tup.injEq, List.replicate, Nat.reduceSub, Nat.reduceAdd, true_and, and_true, exists_and_left, exists_and_right, at_0, at_1, at_2, at_3, at_4, Nat.reduceLT, List.length_set, MO.lst.injEq, ix_0, ix_1, ix_2, beq_iff_eq, reduceCtorEq, if_true, if_false, ite_true, ite_false, getL_new, wipeE, Bool.false_eq_true, decide_true, decide_false, Bool.not_true, Bool.not_false, hz]
      exact kk _ _ ⟨ls, _, rfl, ⟨hl.nd, fun p hp => have := hl.ok p hp; ⟨this.1, by push_cast; omega, this.2.2⟩, by have := hl.ln; push_cast; omega⟩, by omega, g1.get hrk hr', (g'.trans g1).mono (by push_cast; omega)⟩
structure RowsOk (E : M → Prop) (rises : Bool) (boxes many : Int) (i : Nat) (ls : List TR) : Prop where
  len : ls.length = i
  row : ∀ (j : Nat) (r : TR), ls[j]? = some r → RowOk E rises boxes many j r
  last : ∀ (j : Nat) (r : TR), ls[j]? = some r → (j : Int) = many - 1 → r.isFin = true
  first : ∀ r, ls[0]? = some r → r.isFin = false
theorem RowsOk.snoc {E : M → Prop} {rises : Bool} {boxes many : Int} {i : Nat} {ls : List TR} (o : RowsOk E rises boxes many i ls) {r : TR} (h1 : RowOk E rises boxes many i r) (h2 : (i : Int) = many - 1 → r.isFin = true) (h3 : i = 0 → r.isFin = false) :
    RowsOk E rises boxes many (i + 1) (ls ++ [r]) := by
  have get : ∀ (j : Nat) (r' : TR), (ls ++ [r])[j]? = some r' → ls[j]? = some r' ∨ (j = i ∧ r' = r) := fun j r' e => by
    by_cases hj : j < ls.length
    · rw [List.getElem?_append_left hj] at e; exact .inl e
    · rw [List.getElem?_append_right (by omega)] at e
      have hl : j - ls.length < 1 := by
        have := (List.getElem?_eq_some_iff.mp e).1
        simpa using this
      have hz : j - ls.length = 0 := by omega
      rw [hz] at e
      have hi := o.len
      exact .inr ⟨by omega, (Option.some.inj e).symm⟩
  refine ⟨by simp [o.len], fun j r' e => ?_, fun j r' e z => ?_, fun r' e => ?_⟩
  · rcases get j r' e with e | ⟨rfl, rfl⟩
    · exact o.row j r' e
    · exact h1
  · rcases get j r' e with e | ⟨rfl, rfl⟩
    · exact o.last j r' e z
    · exact h2 z
  · rcases get 0 r' e with e | ⟨e', rfl⟩
    · exact o.first r' e
    · exact h3 e'.symm
theorem table_gen (F : TabF G t p js nx tb bi tbs) {rises : Bool} {hands boxes most : Int} {el : Nat} {es : List M} {E : M → Prop} (g : GK k h0 h u) (hu : u ≤ 2 ^ 37) (b0 : 0 < boxes) (b1 : boxes ≤ 10) (m0 : 2 ≤ most) (m1 : most ≤ 40)
    (he : h[el]? = some (.lst es)) (hek : el ≠ k) (e0 : es ≠ []) (e1 : es.length < 2 ^ 60) (hE : ∀ e ∈ es, E e)
    (q : ∀ rows h', TabOk E rises boxes rows → (rows.length : Int) ≤ most → GK k h0 h' (u + 2000) → Q (tabM rows) h') : Sem G gl (n + 4) tb [.ref k, .tup [.int hands, .int boxes], .int most, .ref el, .bl rises] h Q X := by
  obtain ⟨d, hd, hN, hB⟩ := F.table.ex
  refine ⟨d, hd, ?_⟩
  have hsz := sizeL
  simp only [wF, hB, tableB, startE, hN]
  simp only [wSs, wS, wE, wEs, wAnd, wOr, wT, wAndT, wOrT, wO, wC, wI, setAll, w_add, w_adds, w_addt, w_addl, w_sub, w_mul, w_mull, w_div, w_mod, w_pow, w_shl, w_eq, w_ne, w_in, w_nin, w_lt, w_le, w_gt, w_ge, w_is, w_isn, w_eqi, w_eqs, w_eqb, w_tn, w_tb, w_ti, w_tt, w_it, w_if, w_is', w_il, w_st, w_ss, w_sl, w_lent, w_lenf, w_lens, w_lenl, w_tupt, w_tupl, w_lstt, w_lstl, w_stri, w_strs, w_inti, w_intb, w_min2, w_max2, w_abs, w_all, w_any, w_sum, w_join, w_app, w_ext, w_pop, w_tyj, w_mult, w_dict, w_dcopy, w_dkeys, w_dlen, w_dgetN, w_dget2, w_dget2s, w_tyd, w_zipt, w_zipl, w_tpq, w_key, w_keys, getD_new, w_tya, w_tye, w_typ, w_isin, w_isib, w_isii, w_isis, w_isit, w_ont, w_onf, w_ons, w_onl, w_rng1, w_rng2, w_nm, w_tp, Option.some.injEq, exists_eq_left', exists_eq_left, exists_eq, exists_eq', List.getElem?_cons_zero, List.getElem?_cons_succ, List.set_cons_zero, List.set_cons_succ, List.map_cons, List.map_nil, List.cons_append, List.nil_append, List.length_cons, List.length_nil, M.int.injEq, M.ref.injEq, M.str.injEq, M.bl.injEq, M.tup.injEq, List.replicate, Nat.reduceSub, Nat.reduceAdd, true_and, and_true, exists_and_left, exists_and_right, at_0, at_1, at_2, at_3, at_4, Nat.reduceLT, List.length_set, MO.lst.injEq, ix_0, ix_1, ix_2, beq_iff_eq, reduceCtorEq, if_true, if_false, ite_true, ite_false, getL_new, wipeE, Bool.false_eq_true, decide_true, decide_false, Bool.not_true, Bool.not_false]
  refine tk F.take g.self (by omega) (by omega) (by omega) fun z h1 z0 z1 g1 => ?_
  try simp only [wSs, wS, wE, wEs, wAnd, wOr, wT, wAndT, wOrT, wO, wC, wI, setAll, w_add, w_adds, w_addt, w_addl, w_sub, w_mul, w_mull, w_div, w_mod, w_pow, w_shl, w_eq, w_ne, w_in, w_nin, w_lt, w_le, w_gt, w_ge, w_is, w_isn, w_eqi, w_eqs, w_eqb, w_tn, w_tb, w_ti, w_tt, w_it, w_if, w_is', w_il, w_st, w_ss, w_sl, w_lent, w_lenf, w_lens, w_lenl, w_tupt, w_tupl, w_lstt, w_lstl, w_stri, w_strs, w_inti, w_intb, w_min2, w_max2, w_abs, w_all, w_any, w_sum, w_join, w_app, w_ext, w_pop, w_tyj, w_mult, w_dict, w_dcopy, w_dkeys, w_dlen, w_dgetN, w_dget2, w_dget2s, w_tyd, w_zipt, w_zipl, w_tpq, w_key, w_keys, getD_new, w_tya, w_tye, w_typ, w_isin, w_isib, w_isii, w_isis, w_isit, w_ont, w_onf, w_ons, w_onl, w_rng1, w_rng2, w_nm, w_tp, Option.some.injEq, exists_eq_left', exists_eq_left, exists_eq, exists_eq', List.getElem?_cons_zero, List.getElem?_cons_succ, List.set_cons_zero, List.set_cons_succ, List.map_cons, List.map_nil, List.cons_append, List.nil_append, List.length_cons, List.length_nil, M.int.injEq, M.ref.injEq, M.str.injEq, M.bl.injEq, M.tup.injEq, List.replicate, Nat.reduceSub, Nat.reduceAdd, true_and, and_true, exists_and_left, exists_and_right, at_0, at_1, at_2, at_3, at_4, Nat.reduceLT, List.length_set, MO.lst.injEq, ix_0, ix_1, ix_2, beq_iff_eq, reduceCtorEq, if_true, if_false, ite_true, ite_false, getL_new, wipeE, Bool.false_eq_true, decide_true, decide_false, Bool.not_true, Bool.not_false]
  generalize hm : 2 + z = many
  refine ⟨rng_small (by omega) (by omega), ?_⟩
  generalize hr : h1.length = r
  have hrk : r ≠ k := by have := g1.lt; omega
  have hel : el < h.length := (List.getElem?_eq_some_iff.mp he).1
  have hr0 : h.length ≤ r := by have := g1.1.1; omega
  refine for_inv (fun i e h' => ∃ ls a9 a10 a11 a12, e = [some (M.ref k), some (.tup [.int hands, .int boxes]), some (.int most), some (.ref el), some (.bl rises), some (.int hands), some (.int boxes), some (.int many), some (M.ref r), a9, a10, a11, a12] ∧
      RowsOk E rises boxes many i ls ∧ h'[r]? = some (.lst (ls.map TR.m)) ∧ GK k h h' (u + 1 + 40 * i))
    ⟨[], none, none, none, none, rfl, ⟨rfl, fun j r e => by simp at e, fun j r e => by simp at e, fun r e => by simp at e⟩, by subst hr; exact get_new, by simpa using g1.app⟩ (fun _ _ _ _ => trivial) ?_ ?_
  · rintro e h' ⟨ls, a9, a10, a11, a12, rfl, ok, hr', g'⟩
    rw [rng_len] at ok g'
    simp only [wSs, wS, wE, wEs, wAnd, wOr, wT, wAndT, wOrT, wO, wC, wI, setAll, w_add, w_adds, w_addt, w_addl, w_sub, w_mul, w_mull, w_div, w_mod, w_pow, w_shl, w_eq, w_ne, w_in, w_nin, w_lt, w_le, w_gt, w_ge, w_is, w_isn, w_eqi, w_eqs, w_eqb, w_tn, w_tb, w_ti, w_tt, w_it, w_if, w_is', w_il, w_st, w_ss, w_sl, w_lent, w_lenf, w_lens, w_lenl, w_tupt, w_tupl, w_lstt, w_lstl, w_stri, w_strs, w_inti, w_intb, w_min2, w_max2, w_abs, w_all, w_any, w_sum, w_join, w_app, w_ext, w_pop, w_tyj, w_mult, w_dict, w_dcopy, w_dkeys, w_dlen, w_dgetN, w_dget2, w_dget2s, w_tyd, w_zipt, w_zipl, w_tpq, w_key, w_keys, getD_new, w_tya, w_tye, w_typ, w_isin, w_isib, w_isii, w_isis, w_isit, w_ont, w_onf, w_ons, w_onl, w_rng1, w_rng2, w_nm, w_tp, Option.some.injEq, exists_eq_left', exists_eq_left, exists_eq, exists_eq', List.getElem?_cons_zero, List.getElem?_cons_succ, List.set_cons_zero, List.set_cons_succ, List.map_cons, List.map_nil, List.cons_append, List.nil_append, List.length_cons, List.length_nil, M.int.injEq, M.ref.injEq, M.str.injEq, M.bl.injEq, M.tup.injEq, List.replicate, Nat.reduceSub, Nat.reduceAdd, true_and, and_true, exists_and_left, exists_and_right, at_0, at_1, at_2, at_3, at_4, Nat.reduceLT, List.length_set, MO.lst.injEq, ix_0, ix_1, ix_2, beq_iff_eq, reduceCtorEq, if_true, if_false, ite_true, ite_false, getL_new, wipeE, Bool.false_eq_true, decide_true, decide_false, Bool.not_true, Bool.not_false, getL_of hr']
    have hl := ok.len
    have hml : many = ls.length := by omega
    refine q ls h' ⟨by omega, by omega, fun i r e => ?_, fun r e => ok.last _ r e (by omega), ok.first⟩ (by omega) ((g.trans g').mono (by omega))
    have := ok.row i r e
    rw [hml] at this
    exact this
  · rintro i x e h' N hx ⟨ls, a9, a10, a11, a12, rfl, ok, hr', g'⟩ kk
    obtain ⟨rfl, hi⟩ := rngL_get hx
    refine ⟨_, rfl, ?_⟩
    try simp only [wSs, wS, wE, wEs, wAnd, wOr, wT, wAndT, wOrT, wO, wC, wI, setAll, w_add, w_adds, w_addt, w_addl, w_sub, w_mul, w_mull, w_div, w_mod, w_pow, w_shl, w_eq, w_ne, w_in, w_nin, w_lt, w_le, w_gt, w_ge, w_is, w_isn, w_eqi, w_eqs, w_eqb, w_tn, w_tb, w_ti, w_tt, w_it, w_if, w_is', w_il, w_st, w_ss, w_sl, w_lent, w_lenf, w_lens, w_lenl, w_tupt, w_tupl, w_lstt, w_lstl, w_stri, w_strs, w_inti, w_intb, w_min2, w_max2, w_abs, w_all, w_any, w_sum, w_join, w_app, w_ext, w_pop, w_tyj, w_mult, w_dict, w_dcopy, w_dkeys, w_dlen, w_dgetN, w_dget2, w_dget2s, w_tyd, w_zipt, w_zipl, w_tpq, w_key, w_keys, getD_new, w_tya, w_tye, w_typ, w_isin, w_isib, w_isii, w_isis, w_isit, w_ont, w_onf, w_ons, w_onl, w_rng1, w_rng2, w_nm, w_tp, Option.some.injEq, exists_eq_left', exists_eq_left, exists_eq, exists_eq', List.getElem?_cons_zero, List.getElem?_cons_succ, List.set_cons_zero, List.set_cons_succ, List.map_cons, List.map_nil, List.cons_append, List.nil_append, List.length_cons, List.length_nil, M.int.injEq, M.ref.injEq, M.str.injEq, M.bl.injEq, M.tup.injEq, List.replicate, Nat.reduceSub, Nat.reduceAdd, true_and, and_true, exists_and_left, exists_and_right, at_0, at_1, at_2, at_3, at_4, Nat.reduceLT, List.length_set, MO.lst.injEq, ix_0, ix_1, ix_2, beq_iff_eq, reduceCtorEq, if_true, if_false, ite_true, ite_false, getL_new, wipeE, Bool.false_eq_true, decide_true, decide_false, Bool.not_true, Bool.not_false]
    have hl := ok.len
    have fin : ∀ (r' : TR) (a10 a11 a12 : Option M) (h2 : MH) (v : Int), RowOk E rises boxes many i r' → ((i : Int) = many - 1 → r'.isFin = true) → (i = 0 → r'.isFin = false) → GK k h' h2 v → v ≤ u + 1 + 40 * i + 40 →
        N [some (M.ref k), some (.tup [.int hands, .int boxes]), some (.int most), some (.ref el), some (.bl rises), some (.int hands), some (.int boxes), some (.int many), some (M.ref r), some (.int (0 + (i : Int))), a10, a11, a12] (h2.set r (.lst (ls.map TR.m ++ [r'.m]))) := fun r' a10 a11 a12 h2 v o1 o2 o3 g2 hv => by
      refine kk _ _ ⟨ls ++ [r'], _, a10, a11, a12, rfl, ok.snoc o1 o2 o3, ?_, ((g'.trans g2).setN hrk hr0).mono (by push_cast; omega)⟩
      rw [set_self (g2.get hrk hr'), List.map_append]; rfl
    have isr : ∀ h1 v, GK k h' h1 v → (getL h1 r).isSome = true := fun h1 v g1 => by rw [getL_of (g1.get hrk hr')]; rfl
    have hlen : (ls.map TR.m).length < sizeLine := by rw [List.length_map]; omega
    refine tk F.take g'.self (by omega) (by decide) (by decide) fun w h2 w0 w1 g2 => ?_
    try simp only [wSs, wS, wE, wEs, wAnd, wOr, wT, wAndT, wOrT, wO, wC, wI, setAll, w_add, w_adds, w_addt, w_addl, w_sub, w_mul, w_mull, w_div, w_mod, w_pow, w_shl, w_eq, w_ne, w_in, w_nin, w_lt, w_le, w_gt, w_ge, w_is, w_isn, w_eqi, w_eqs, w_eqb, w_tn, w_tb, w_ti, w_tt, w_it, w_if, w_is', w_il, w_st, w_ss, w_sl, w_lent, w_lenf, w_lens, w_lenl, w_tupt, w_tupl, w_lstt, w_lstl, w_stri, w_strs, w_inti, w_intb, w_min2, w_max2, w_abs, w_all, w_any, w_sum, w_join, w_app, w_ext, w_pop, w_tyj, w_mult, w_dict, w_dcopy, w_dkeys, w_dlen, w_dgetN, w_dget2, w_dget2s, w_tyd, w_zipt, w_zipl, w_tpq, w_key, w_keys, getD_new, w_tya, w_tye, w_typ, w_isin, w_isib, w_isii, w_isis, w_isit, w_ont, w_onf, w_ons, w_onl, w_rng1, w_rng2, w_nm, w_tp, Option.some.injEq, exists_eq_left', exists_eq_left, exists_eq, exists_eq', List.getElem?_cons_zero, List.getElem?_cons_succ, List.set_cons_zero, List.set_cons_succ, List.map_cons, List.map_nil, List.cons_append, List.nil_append, List.length_cons, List.length_nil, M.int.injEq, M.ref.injEq, M.str.injEq, M.bl.injEq, M.tup.injEq, List.replicate, Nat.reduceSub, Nat.reduceAdd, true_and, and_true, exists_and_left, exists_and_right, at_0, at_1, at_2, at_3, at_4, Nat.reduceLT, List.length_set, MO.lst.injEq, ix_0, ix_1, ix_2, beq_iff_eq, reduceCtorEq, if_true, if_false, ite_true, ite_false, getL_new, wipeE, Bool.false_eq_true, decide_true, decide_false, Bool.not_true, Bool.not_false]
    have hi0 : i < many.toNat := by omega
    have pick : i ≠ 0 → (getL h2 r).isSome = true ∧ Sem G gl (n + 3) p [.ref k, .ref el] h2 (fun v h3 => ∃ xs, h3[r]? = some (.lst xs) ∧ xs.length < sizeLine ∧ N [some (M.ref k), some (.tup [.int hands, .int boxes]), some (.int most), some (.ref el), some (.bl rises), some (.int hands), some (.int boxes), some (.int many), some (M.ref r), some (.int (0 + (i : Int))), some (.int w), a11, a12] (h3.set r (.lst (xs ++ [v])))) X := fun hi0 => by
      refine ⟨isr _ _ g2, ?_⟩
      refine pk F.take F.pick g2 (by omega) ((g'.trans g2).get hek he) hek e0 e1 fun v h3 hv g3 => ?_
      exact ⟨_, g3.get hrk hr', hlen, fin (.fin v) _ _ _ h3 _ (hE v hv) (fun _ => rfl) (fun z => (hi0 z).elim) g3 (by omega)⟩
    by_cases c1 : (0 + (i : Int)) = many - 1
    · have c1' : (0 + (i : Int) = many - 1) = True := eq_true c1
      simp only [wSs, wS, wE, wEs, wAnd, wOr, wT, wAndT, wOrT, wO, wC, wI, setAll, w_add, w_adds, w_addt, w_addl, w_sub, w_mul, w_mull, w_div, w_mod, w_pow, w_shl, w_eq, w_ne, w_in, w_nin, w_lt, w_le, w_gt, w_ge, w_is, w_isn, w_eqi, w_eqs, w_eqb, w_tn, w_tb, w_ti, w_tt, w_it, w_if, w_is', w_il, w_st, w_ss, w_sl, w_lent, w_lenf, w_lens, w_lenl, w_tupt, w_tupl, w_lstt, w_lstl, w_stri, w_strs, w_inti, w_intb, w_min2, w_max2, w_abs, w_all, w_any, w_sum, w_join, w_app, w_ext, w_pop, w_tyj, w_mult, w_dict, w_dcopy, w_dkeys, w_dlen, w_dgetN, w_dget2, w_dget2s, w_tyd, w_zipt, w_zipl, w_tpq, w_key, w_keys, getD_new, w_tya, w_tye, w_typ, w_isin, w_isib, w_isii, w_isis, w_isit, w_ont, w_onf, w_ons, w_onl, w_rng1, w_rng2, w_nm, w_tp, Option.some.injEq, exists_eq_left', exists_eq_left, exists_eq, exists_eq', List.getElem?_cons_zero, List.getElem?_cons_succ, List.set_cons_zero, List.set_cons_succ, List.map_cons, List.map_nil, List.cons_append, List.nil_append, List.length_cons, List.length_nil, M.int.injEq, M.ref.injEq, M.str.injEq, M.bl.injEq, M.tup.injEq, List.replicate, Nat.reduceSub, Nat.reduceAdd, true_and, and_true, exists_and_left, exists_and_right, at_0, at_1, at_2, at_3, at_4, Nat.reduceLT, List.length_set, MO.lst.injEq, ix_0, ix_1, ix_2, beq_iff_eq, reduceCtorEq, if_true, if_false, ite_true, ite_false, getL_new, wipeE, Bool.false_eq_true, decide_true, decide_false, Bool.not_true, Bool.not_false, c1']
      exact pick (by omega)
    · have c1' : (0 + (i : Int) = many - 1) = False := eq_false c1
      by_cases c2 : 0 < (0 + (i : Int)) ∧ w = 0
      · have c2' : (0 < (0 + (i : Int))) = True := eq_true c2.1
        have c3' : (w = 0) = True := eq_true c2.2
        simp only [wSs, wS, wE, wEs, wAnd, wOr, wT, wAndT, wOrT, wO, wC, wI, setAll, w_add, w_adds, w_addt, w_addl, w_sub, w_mul, w_mull, w_div, w_mod, w_pow, w_shl, w_eq, w_ne, w_in, w_nin, w_lt, w_le, w_gt, w_ge, w_is, w_isn, w_eqi, w_eqs, w_eqb, w_tn, w_tb, w_ti, w_tt, w_it, w_if, w_is', w_il, w_st, w_ss, w_sl, w_lent, w_lenf, w_lens, w_lenl, w_tupt, w_tupl, w_lstt, w_lstl, w_stri, w_strs, w_inti, w_intb, w_min2, w_max2, w_abs, w_all, w_any, w_sum, w_join, w_app, w_ext, w_pop, w_tyj, w_mult, w_dict, w_dcopy, w_dkeys, w_dlen, w_dgetN, w_dget2, w_dget2s, w_tyd, w_zipt, w_zipl, w_tpq, w_key, w_keys, getD_new, w_tya, w_tye, w_typ, w_isin, w_isib, w_isii, w_isis, w_isit, w_ont, w_onf, w_ons, w_onl, w_rng1, w_rng2, w_nm, w_tp, Option.some.injEq, exists_eq_left', exists_eq_left, exists_eq, exists_eq', List.getElem?_cons_zero, List.getElem?_cons_succ, List.set_cons_zero, List.set_cons_succ, List.map_cons, List.map_nil, List.cons_append, List.nil_append, List.length_cons, List.length_nil, M.int.injEq, M.ref.injEq, M.str.injEq, M.bl.injEq, M.tup.injEq, List.replicate, Nat.reduceSub, Nat.reduceAdd, true_and, and_true, exists_and_left, exists_and_right, at_0, at_1, at_2, at_3, at_4, Nat.reduceLT, List.length_set, MO.lst.injEq, ix_0, ix_1, ix_2, beq_iff_eq, reduceCtorEq, if_true, if_false, ite_true, ite_false, getL_new, wipeE, Bool.false_eq_true, decide_true, decide_false, Bool.not_true, Bool.not_false, c1', c2', c3']
        exact pick (by omega)
      · have c23 : (0 < (0 + (i : Int))) = False ∨ ((0 < (0 + (i : Int))) = True ∧ (w = 0) = False) := by
          by_cases c : 0 < (0 + (i : Int))
          · exact .inr ⟨eq_true c, eq_false fun z => c2 ⟨c, z⟩⟩
          · exact .inl (eq_false c)
        have hi1 : (0 + (i : Int)) < many - 1 := by omega
        rcases c23 with c | ⟨c, c'⟩
        all_goals
          first
            | simp only [wSs, wS, wE, wEs, wAnd, wOr, wT, wAndT, wOrT, wO, wC, wI, setAll, w_add, w_adds, w_addt, w_addl, w_sub, w_mul, w_mull, w_div, w_mod, w_pow, w_shl, w_eq, w_ne, w_in, w_nin, w_lt, w_le, w_gt, w_ge, w_is, w_isn, w_eqi, w_eqs, w_eqb, w_tn, w_tb, w_ti, w_tt, w_it, w_if, w_is', w_il, w_st, w_ss, w_sl, w_lent, w_lenf, w_lens, w_lenl, w_tupt, w_tupl, w_lstt, w_lstl, w_stri, w_strs, w_inti, w_intb, w_min2, w_max2, w_abs, w_all, w_any, w_sum, w_join, w_app, w_ext, w_pop, w_tyj, w_mult, w_dict, w_dcopy, w_dkeys, w_dlen, w_dgetN, w_dget2, w_dget2s, w_tyd, w_zipt, w_zipl, w_tpq, w_key, w_keys, getD_new, w_tya, w_tye, w_typ, w_isin, w_isib, w_isii, w_isis, w_isit, w_ont, w_onf, w_ons, w_onl, w_rng1, w_rng2, w_nm, w_tp, Option.some.injEq, exists_eq_left', exists_eq_left, exists_eq, exists_eq', List.getElem?_cons_zero, List.getElem?_cons_succ, List.set_cons_zero, List.set_cons_succ, List.map_cons, List.map_nil, List.cons_append, List.nil_append, List.length_cons, List.length_nil, M.int.injEq, M.ref.injEq, M.str.injEq, M.bl.injEq, M.tup.injEq, List.replicate, Nat.reduceSub, Nat.reduceAdd, true_and, and_true, exists_and_left, exists_and_right, at_0, at_1, at_2, at_3, at_4, Nat.reduceLT, List.length_set, MO.lst.injEq, ix_0, ix_1, ix_2, beq_iff_eq, reduceCtorEq, if_true, if_false, ite_true, ite_false, getL_new, wipeE, Bool.false_eq_true, decide_true, decide_false, Bool.not_true, Bool.not_false, c1', c, c']
            | simp only [wSs, wS, wE, wEs, wAnd, wOr, wT, wAndT, wOrT, wO, wC, wI, setAll, w_add, w_adds, w_addt, w_addl, w_sub, w_mul, w_mull, w_div, w_mod, w_pow, w_shl, w_eq, w_ne, w_in, w_nin, w_lt, w_le, w_gt, w_ge, w_is, w_isn, w_eqi, w_eqs, w_eqb, w_tn, w_tb, w_ti, w_tt, w_it, w_if, w_is', w_il, w_st, w_ss, w_sl, w_lent, w_lenf, w_lens, w_lenl, w_tupt, w_tupl, w_lstt, w_lstl, w_stri, w_strs, w_inti, w_intb, w_min2, w_max2, w_abs, w_all, w_any, w_sum, w_join, w_app, w_ext, w_pop, w_tyj, w_mult, w_dict, w_dcopy, w_dkeys, w_dlen, w_dgetN, w_dget2, w_dget2s, w_tyd, w_zipt, w_zipl, w_tpq, w_key, w_keys, getD_new, w_tya, w_tye, w_typ, w_isin, w_isib, w_isii, w_isis, w_isit, w_ont, w_onf, w_ons, w_onl, w_rng1, w_rng2, w_nm, w_tp, Option.some.injEq, exists_eq_left', exists_eq_left, exists_eq, exists_eq', List.getElem?_cons_zero, List.getElem?_cons_succ, List.set_cons_zero, List.set_cons_succ, List.map_cons, List.map_nil, List.cons_append, List.nil_append, List.length_cons, List.length_nil, M.int.injEq, M.ref.injEq, M.str.injEq, M.bl.injEq, M.tup.injEq, List.replicate, Nat.reduceSub, Nat.reduceAdd, true_and, and_true, exists_and_left, exists_and_right, at_0, at_1, at_2, at_3, at_4, Nat.reduceLT, List.length_set, MO.lst.injEq, ix_0, ix_1, ix_2, beq_iff_eq, reduceCtorEq, if_true, if_false, ite_true, ite_false, getL_new, wipeE, Bool.false_eq_true, decide_true, decide_false, Bool.not_true, Bool.not_false, c1', c]
          by_cases c4 : w < 4
          · simp only [wSs, wS, wE, wEs, wAnd, wOr, wT, wAndT, wOrT, wO, wC, wI, setAll, w_add, w_adds, w_addt, w_addl, w_sub, w_mul, w_mull, w_div, w_mod, w_pow, w_shl, w_eq, w_ne, w_in, w_nin, w_lt, w_le, w_gt, w_ge, w_is, w_isn, w_eqi, w_eqs, w_eqb, w_tn, w_tb, w_ti, w_tt, w_it, w_if, w_is', w_il, w_st, w_ss, w_sl, w_lent, w_lenf, w_lens, w_lenl, w_tupt, w_tupl, w_lstt, w_lstl, w_stri, w_strs, w_inti, w_intb, w_min2, w_max2, w_abs, w_all, w_any, w_sum, w_join, w_app, w_ext, w_pop, w_tyj, w_mult, w_dict, w_dcopy, w_dkeys, w_dlen, w_dgetN, w_dget2, w_dget2s, w_tyd, w_zipt, w_zipl, w_tpq, w_key, w_keys, getD_new, w_tya, w_tye, w_typ, w_isin, w_isib, w_isii, w_isis, w_isit, w_ont, w_onf, w_ons, w_onl, w_rng1, w_rng2, w_nm, w_tp, Option.some.injEq, exists_eq_left', exists_eq_left, exists_eq, exists_eq', List.getElem?_cons_zero, List.getElem?_cons_succ, List.set_cons_zero, List.set_cons_succ, List.map_cons, List.map_nil, List.cons_append, List.nil_append, List.length_cons, List.length_nil, M.int.injEq, M.ref.injEq, M.str.injEq, M.bl.injEq, M.tup.injEq, List.replicate, Nat.reduceSub, Nat.reduceAdd, true_and, and_true, exists_and_left, exists_and_right, at_0, at_1, at_2, at_3, at_4, Nat.reduceLT, List.length_set, MO.lst.injEq, ix_0, ix_1, ix_2, beq_iff_eq, reduceCtorEq, if_true, if_false, ite_true, ite_false, getL_new, wipeE, Bool.false_eq_true, decide_true, decide_false, Bool.not_true, Bool.not_false, c4]
            refine jumps_gen F g2 (by omega) (by omega) hi1 (by omega) fun js' h3 hj g3 => ?_
            try simp only [wSs, wS, wE, wEs, wAnd, wOr, wT, wAndT, wOrT, wO, wC, wI, setAll, w_add, w_adds, w_addt, w_addl, w_sub, w_mul, w_mull, w_div, w_mod, w_pow, w_shl, w_eq, w_ne, w_in, w_nin, w_lt, w_le, w_gt, w_ge, w_is, w_isn, w_eqi, w_eqs, w_eqb, w_tn, w_tb, w_ti, w_tt, w_it, w_if, w_is', w_il, w_st, w_ss, w_sl, w_lent, w_lenf, w_lens, w_lenl, w_tupt, w_tupl, w_lstt, w_lstl, w_stri, w_strs, w_inti, w_intb, w_min2, w_max2, w_abs, w_all, w_any, w_sum, w_join, w_app, w_ext, w_pop, w_tyj, w_mult, w_dict, w_dcopy, w_dkeys, w_dlen, w_dgetN, w_dget2, w_dget2s, w_tyd, w_zipt, w_zipl, w_tpq, w_key, w_keys, getD_new, w_tya, w_tye, w_typ, w_isin, w_isib, w_isii, w_isis, w_isit, w_ont, w_onf, w_ons, w_onl, w_rng1, w_rng2, w_nm, w_tp, Option.some.injEq, exists_eq_left', exists_eq_left, exists_eq, exists_eq', List.getElem?_cons_zero, List.getElem?_cons_succ, List.set_cons_zero, List.set_cons_succ, List.map_cons, List.map_nil, List.cons_append, List.nil_append, List.length_cons, List.length_nil, M.int.injEq, M.ref.injEq, M.str.injEq, M.bl.injEq, M.tup.injEq, List.replicate, Nat.reduceSub, Nat.reduceAdd, true_and, and_true, exists_and_left, exists_and_right, at_0, at_1, at_2, at_3, at_4, Nat.reduceLT, List.length_set, MO.lst.injEq, ix_0, ix_1, ix_2, beq_iff_eq, reduceCtorEq, if_true, if_false, ite_true, ite_false, getL_new, wipeE, Bool.false_eq_true, decide_true, decide_false, Bool.not_true, Bool.not_false]
            refine ⟨isr _ _ g3, ?_⟩
            refine tk F.take g3 (by omega) b0 (by omega) fun b h4 x0 x1 g4 => ?_
            try simp only [wSs, wS, wE, wEs, wAnd, wOr, wT, wAndT, wOrT, wO, wC, wI, setAll, w_add, w_adds, w_addt, w_addl, w_sub, w_mul, w_mull, w_div, w_mod, w_pow, w_shl, w_eq, w_ne, w_in, w_nin, w_lt, w_le, w_gt, w_ge, w_is, w_isn, w_eqi, w_eqs, w_eqb, w_tn, w_tb, w_ti, w_tt, w_it, w_if, w_is', w_il, w_st, w_ss, w_sl, w_lent, w_lenf, w_lens, w_lenl, w_tupt, w_tupl, w_lstt, w_lstl, w_stri, w_strs, w_inti, w_intb, w_min2, w_max2, w_abs, w_all, w_any, w_sum, w_join, w_app, w_ext, w_pop, w_tyj, w_mult, w_dict, w_dcopy, w_dkeys, w_dlen, w_dgetN, w_dget2, w_dget2s, w_tyd, w_zipt, w_zipl, w_tpq, w_key, w_keys, getD_new, w_tya, w_tye, w_typ, w_isin, w_isib, w_isii, w_isis, w_isit, w_ont, w_onf, w_ons, w_onl, w_rng1, w_rng2, w_nm, w_tp, Option.some.injEq, exists_eq_left', exists_eq_left, exists_eq, exists_eq', List.getElem?_cons_zero, List.getElem?_cons_succ, List.set_cons_zero, List.set_cons_succ, List.map_cons, List.map_nil, List.cons_append, List.nil_append, List.length_cons, List.length_nil, M.int.injEq, M.ref.injEq, M.str.injEq, M.bl.injEq, M.tup.injEq, List.replicate, Nat.reduceSub, Nat.reduceAdd, true_and, and_true, exists_and_left, exists_and_right, at_0, at_1, at_2, at_3, at_4, Nat.reduceLT, List.length_set, MO.lst.injEq, ix_0, ix_1, ix_2, beq_iff_eq, reduceCtorEq, if_true, if_false, ite_true, ite_false, getL_new, wipeE, Bool.false_eq_true, decide_true, decide_false, Bool.not_true, Bool.not_false]
            refine next_gen F g4 (by omega) (by omega) hi1 (by omega) fun y h5 hy g5 => ?_
            have e0' : (0 + (i : Int)) = i := by omega
            rw [e0'] at hj hy
            exact ⟨_, g5.get hrk hr', hlen, fin (.rd b js' y) _ _ _ h5 _ ⟨x0, x1, hj, hy⟩ (fun z => by omega) (fun _ => rfl) g5 (by omega)⟩
          · simp only [wSs, wS, wE, wEs, wAnd, wOr, wT, wAndT, wOrT, wO, wC, wI, setAll, w_add, w_adds, w_addt, w_addl, w_sub, w_mul, w_mull, w_div, w_mod, w_pow, w_shl, w_eq, w_ne, w_in, w_nin, w_lt, w_le, w_gt, w_ge, w_is, w_isn, w_eqi, w_eqs, w_eqb, w_tn, w_tb, w_ti, w_tt, w_it, w_if, w_is', w_il, w_st, w_ss, w_sl, w_lent, w_lenf, w_lens, w_lenl, w_tupt, w_tupl, w_lstt, w_lstl, w_stri, w_strs, w_inti, w_intb, w_min2, w_max2, w_abs, w_all, w_any, w_sum, w_join, w_app, w_ext, w_pop, w_tyj, w_mult, w_dict, w_dcopy, w_dkeys, w_dlen, w_dgetN, w_dget2, w_dget2s, w_tyd, w_zipt, w_zipl, w_tpq, w_key, w_keys, getD_new, w_tya, w_tye, w_typ, w_isin, w_isib, w_isii, w_isis, w_isit, w_ont, w_onf, w_ons, w_onl, w_rng1, w_rng2, w_nm, w_tp, Option.some.injEq, exists_eq_left', exists_eq_left, exists_eq, exists_eq', List.getElem?_cons_zero, List.getElem?_cons_succ, List.set_cons_zero, List.set_cons_succ, List.map_cons, List.map_nil, List.cons_append, List.nil_append, List.length_cons, List.length_nil, M.int.injEq, M.ref.injEq, M.str.injEq, M.bl.injEq, M.tup.injEq, List.replicate, Nat.reduceSub, Nat.reduceAdd, true_and, and_true, exists_and_left, exists_and_right, at_0, at_1, at_2, at_3, at_4, Nat.reduceLT, List.length_set, MO.lst.injEq, ix_0, ix_1, ix_2, beq_iff_eq, reduceCtorEq, if_true, if_false, ite_true, ite_false, getL_new, wipeE, Bool.false_eq_true, decide_true, decide_false, Bool.not_true, Bool.not_false, c4]
            have hk2 : h2.length ≠ k := by have := g2.lt; omega
            refine tk F.take (g2.app (t := [.lst [.int 2, .int 3, .int 10]])).self (by omega) (by decide) (by decide) fun c5 h3 x0 x1 g3' => ?_
            have gl' : h3[h2.length]? = some (.lst [.int 2, .int 3, .int 10]) := g3'.get hk2 get_new
            have g3 := (g2.app (t := [.lst [.int 2, .int 3, .int 10]])).trans g3'
            have mid : ∀ m : Int, 2 ≤ m → m ≤ 10 → Sem G gl (n + 3) t [.ref k, .int m] h3 (fun v h1 => (getL h1 r).isSome = true ∧ Sem G gl (n + 3) t [.ref k, .int boxes] h1 (fun v_1 h1 => Sem G gl (n + 3) nx [.ref k, .int (0 + (i : Int)), .int many, .bl rises] h1 (fun v_2 h1 => ∃ xs, h1[r]? = some (.lst xs) ∧ xs.length < sizeLine ∧
                N [some (M.ref k), some (.tup [.int hands, .int boxes]), some (.int most), some (.ref el), some (.bl rises), some (.int hands), some (.int boxes), some (.int many), some (M.ref r), some (.int (0 + (i : Int))), some (.int w), a11, some v] (h1.set r (.lst (xs ++ [.tup [.str [119, 114, 105, 116, 101], v_1, v, v_2]])))) X) X) X := fun m y0 y1 => by
              refine tk F.take g3 (by omega) (by omega) (by omega) fun c h4 z0 z1 g4 => ?_
              refine ⟨isr _ _ g4, ?_⟩
              refine tk F.take g4 (by omega) b0 (by omega) fun b h5 q0 q1 g5 => ?_
              refine next_gen F g5 (by omega) (by omega) hi1 (by omega) fun y h6 hy g6 => ?_
              have e0' : (0 + (i : Int)) = i := by omega
              rw [e0'] at hy
              exact ⟨_, g6.get hrk hr', hlen, fin (.wr b c y) _ _ _ h6 _ ⟨q0, q1, z0, by omega, hy⟩ (fun z => by omega) (fun _ => rfl) g6 (by omega)⟩
            rcases (by omega : c5 = 0 ∨ c5 = 1 ∨ c5 = 2) with rfl | rfl | rfl
            · exact ⟨_, _, getL_of gl', at_0, mid 2 (by omega) (by omega)⟩
            · exact ⟨_, _, getL_of gl', at_1, mid 3 (by omega) (by omega)⟩
            · exact ⟨_, _, getL_of gl', at_2, mid 10 (by omega) (by omega)⟩
end
end Wg
open PySem PySem.Spec PyProof.Rows
set_option linter.all false
set_option Elab.async false
set_option maxRecDepth 100000
set_option maxHeartbeats 4000000
namespace Wg
open L2
def EndE (m : M) : Prop := m = .tup [.str [101, 110, 100]]
def Bits (hands : Int) (bs : List Int) : Prop := (bs.length : Int) = hands ∧ ∀ b ∈ bs, 0 ≤ b ∧ b ≤ 1
def ToldE (hands : Int) (m : M) : Prop := ∃ bs : List Int, m = .tup [.str [116, 111, 108, 100], .tup (bs.map M.int)] ∧ Bits hands bs
structure Tabs where
  hands : Int
  boxes : Int
  puts : List (List TR)
  looks : List (List TR)
def Tabs.m (T : Tabs) : M := .tup [.str [116, 97, 98, 108, 101, 115], .int T.hands, .int T.boxes, .tup (T.puts.map tabM), .tup (T.looks.map tabM)]
structure Tabs.ok (T : Tabs) (rises : Bool) : Prop where
  pl : (T.puts.length : Int) = T.hands
  ll : (T.looks.length : Int) = T.hands
  po : ∀ t ∈ T.puts, TabOk EndE rises T.boxes t
  lo : ∀ t ∈ T.looks, TabOk (ToldE T.hands) rises T.boxes t
theorem cpow1 {k : Int} (k0 : 0 ≤ k) (k1 : k ≤ 5) : CPow 1 k := by
  unfold CPow
  rcases (by omega : k = 0 ∨ k = 1 ∨ k = 2 ∨ k = 3 ∨ k = 4 ∨ k = 5) with rfl | rfl | rfl | rfl | rfl | rfl <;> decide
theorem shl1 {k : Int} (k0 : 0 ≤ k) (k1 : k ≤ 5) : 0 < (1 * 2 ^ k.toNat : Int) ∧ (1 * 2 ^ k.toNat : Int) ≤ 32 := by
  rcases (by omega : k = 0 ∨ k = 1 ∨ k = 2 ∨ k = 3 ∨ k = 4 ∨ k = 5) with rfl | rfl | rfl | rfl | rfl | rfl <;> decide
section
variable {G : MG} {gl : Nat → M} {t p js nx tb bi tbs n k : Nat} {h0 h : MH} {u : Int} {Q : QE} {X : Exn → MH → Prop}
theorem bits_ok (F : At G bi 3 bitsB) {m hands : Int} (n0 : 0 < hands) (n1 : hands ≤ 5) (q : ∀ bs h', Bits hands bs → Gro h h' → Q (.tup (bs.map M.int)) h') : Sem G gl (n + 1) bi [.int m, .int hands] h Q X := by
  obtain ⟨d, hd, hN, hB⟩ := F.ex
  refine ⟨d, hd, ?_⟩
  simp only [wF, hB, bitsB, startE, hN]
  simp only [wSs, wS, wE, wEs, wAnd, wOr, wT, wAndT, wOrT, wO, wC, wI, setAll, w_add, w_adds, w_addt, w_addl, w_sub, w_mul, w_mull, w_div, w_mod, w_pow, w_shl, w_eq, w_ne, w_in, w_nin, w_lt, w_le, w_gt, w_ge, w_is, w_isn, w_eqi, w_eqs, w_eqb, w_tn, w_tb, w_ti, w_tt, w_it, w_if, w_is', w_il, w_st, w_ss, w_sl, w_lent, w_lenf, w_lens, w_lenl, w_tupt, w_tupl, w_lstt, w_lstl, w_stri, w_strs, w_inti, w_intb, w_min2, w_max2, w_abs, w_all, w_any, w_sum, w_join, w_app, w_ext, w_pop, w_tyj, w_mult, w_dict, w_dcopy, w_dkeys, w_dlen, w_dgetN, w_dget2, w_dget2s, w_tyd, w_zipt, w_zipl, w_tpq, w_key, w_keys, getD_new, w_tya, w_tye, w_typ, w_isin, w_isib, w_isii, w_isis, w_isit, w_ont, w_onf, w_ons, w_onl, w_rng1, w_rng2, w_nm, w_tp, Option.some.injEq, exists_eq_left', exists_eq_left, exists_eq, exists_eq', List.getElem?_cons_zero, List.getElem?_cons_succ, List.set_cons_zero, List.set_cons_succ, List.map_cons, List.map_nil, List.cons_append, List.nil_append, List.length_cons, List.length_nil, M.int.injEq, M.ref.injEq, M.str.injEq, M.bl.injEq, M.tup.injEq, List.replicate, Nat.reduceSub, Nat.reduceAdd, true_and, and_true, exists_and_left, exists_and_right, at_0, at_1, at_2, at_3, at_4, Nat.reduceLT, List.length_set, MO.lst.injEq, ix_0, ix_1, ix_2, beq_iff_eq, reduceCtorEq, if_true, if_false, ite_true, ite_false, getL_new, wipeE, Bool.false_eq_true, decide_true, decide_false, Bool.not_true, Bool.not_false]
  refine ⟨rng_small (by omega) (by omega), ?_⟩
  refine comp_inv (fun i acc h1 => ∃ bs : List Int, acc = bs.map M.int ∧ Bits i bs ∧ Gro h h1) ⟨[], rfl, ⟨rfl, fun _ hx => nomatch hx⟩, .refl h⟩ (fun _ _ _ _ => trivial) ?_ ?_
  · rintro acc h1 ⟨bs, rfl, hb, g⟩
    rw [rng_len] at hb
    exact q bs _ ⟨by have := hb.1; omega, hb.2⟩ (g.add _)
  · rintro i x acc h1 R hx ⟨bs, rfl, hb, g⟩ kk
    obtain ⟨rfl, hi⟩ := rngL_get hx
    refine ⟨_, rfl, ?_⟩
    simp only [wSs, wS, wE, wEs, wAnd, wOr, wT, wAndT, wOrT, wO, wC, wI, setAll, w_add, w_adds, w_addt, w_addl, w_sub, w_mul, w_mull, w_div, w_mod, w_pow, w_shl, w_eq, w_ne, w_in, w_nin, w_lt, w_le, w_gt, w_ge, w_is, w_isn, w_eqi, w_eqs, w_eqb, w_tn, w_tb, w_ti, w_tt, w_it, w_if, w_is', w_il, w_st, w_ss, w_sl, w_lent, w_lenf, w_lens, w_lenl, w_tupt, w_tupl, w_lstt, w_lstl, w_stri, w_strs, w_inti, w_intb, w_min2, w_max2, w_abs, w_all, w_any, w_sum, w_join, w_app, w_ext, w_pop, w_tyj, w_mult, w_dict, w_dcopy, w_dkeys, w_dlen, w_dgetN, w_dget2, w_dget2s, w_tyd, w_zipt, w_zipl, w_tpq, w_key, w_keys, getD_new, w_tya, w_tye, w_typ, w_isin, w_isib, w_isii, w_isis, w_isit, w_ont, w_onf, w_ons, w_onl, w_rng1, w_rng2, w_nm, w_tp, Option.some.injEq, exists_eq_left', exists_eq_left, exists_eq, exists_eq', List.getElem?_cons_zero, List.getElem?_cons_succ, List.set_cons_zero, List.set_cons_succ, List.map_cons, List.map_nil, List.cons_append, List.nil_append, List.length_cons, List.length_nil, M.int.injEq, M.ref.injEq, M.str.injEq, M.bl.injEq, M.tup.injEq, List.replicate, Nat.reduceSub, Nat.reduceAdd, true_and, and_true, exists_and_left, exists_and_right, at_0, at_1, at_2, at_3, at_4, Nat.reduceLT, List.length_set, MO.lst.injEq, ix_0, ix_1, ix_2, beq_iff_eq, reduceCtorEq, if_true, if_false, ite_true, ite_false, getL_new, wipeE, Bool.false_eq_true, decide_true, decide_false, Bool.not_true, Bool.not_false]
    obtain ⟨s1, s2⟩ := shl1 (k := 0 + (i : Int)) (by omega) (by omega)
    refine ⟨cpow1 (by omega) (by omega), ⟨s1, log2_small s1 (by omega)⟩, by decide, ?_⟩
    refine kk _ _ ⟨bs ++ [_], by rw [List.map_append]; rfl, ⟨by simp [hb.1], fun b hb' => ?_⟩, g⟩
    rcases List.mem_append.mp hb' with hb' | hb'
    · exact hb.2 b hb'
    · rcases List.mem_singleton.mp hb' with rfl
      have h1 := Int.emod_nonneg (m / (1 * 2 ^ (0 + (i : Int)).toNat)) (show (2 : Int) ≠ 0 by decide)
      have h2 := Int.emod_lt_of_pos (m / (1 * 2 ^ (0 + (i : Int)).toNat)) (show (0 : Int) < 2 by decide)
      exact ⟨h1, by omega⟩
theorem tables_gen (F : TabF G t p js nx tb bi tbs) {rises : Bool} {hands boxes most : Int} (g : GK k h0 h u) (hu : u ≤ 2 ^ 36) (n0 : 0 < hands) (n1 : hands ≤ 5) (b0 : 0 < boxes) (b1 : boxes ≤ 10) (m0 : 2 ≤ most) (m1 : most ≤ 40)
    (q : ∀ (T : Tabs) h', T.hands = hands → T.boxes = boxes → T.ok rises → GK k h0 h' (u + 30000) → Q T.m h') : Sem G gl (n + 5) tbs [.ref k, .tup [.int hands, .int boxes], .int most, .bl rises] h Q X := by
  obtain ⟨d, hd, hN, hB⟩ := F.tables.ex
  refine ⟨d, hd, ?_⟩
  have hsz := sizeL
  simp only [wF, hB, tablesB, startE, hN]
  simp only [wSs, wS, wE, wEs, wAnd, wOr, wT, wAndT, wOrT, wO, wC, wI, setAll, w_add, w_adds, w_addt, w_addl, w_sub, w_mul, w_mull, w_div, w_mod, w_pow, w_shl, w_eq, w_ne, w_in, w_nin, w_lt, w_le, w_gt, w_ge, w_is, w_isn, w_eqi, w_eqs, w_eqb, w_tn, w_tb, w_ti, w_tt, w_it, w_if, w_is', w_il, w_st, w_ss, w_sl, w_lent, w_lenf, w_lens, w_lenl, w_tupt, w_tupl, w_lstt, w_lstl, w_stri, w_strs, w_inti, w_intb, w_min2, w_max2, w_abs, w_all, w_any, w_sum, w_join, w_app, w_ext, w_pop, w_tyj, w_mult, w_dict, w_dcopy, w_dkeys, w_dlen, w_dgetN, w_dget2, w_dget2s, w_tyd, w_zipt, w_zipl, w_tpq, w_key, w_keys, getD_new, w_tya, w_tye, w_typ, w_isin, w_isib, w_isii, w_isis, w_isit, w_ont, w_onf, w_ons, w_onl, w_rng1, w_rng2, w_nm, w_tp, Option.some.injEq, exists_eq_left', exists_eq_left, exists_eq, exists_eq', List.getElem?_cons_zero, List.getElem?_cons_succ, List.set_cons_zero, List.set_cons_succ, List.map_cons, List.map_nil, List.cons_append, List.nil_append, List.length_cons, List.length_nil, M.int.injEq, M.ref.injEq, M.str.injEq, M.bl.injEq, M.tup.injEq, List.replicate, Nat.reduceSub, Nat.reduceAdd, true_and, and_true, exists_and_left, exists_and_right, at_0, at_1, at_2, at_3, at_4, Nat.reduceLT, List.length_set, MO.lst.injEq, ix_0, ix_1, ix_2, beq_iff_eq, reduceCtorEq, if_true, if_false, ite_true, ite_false, getL_new, wipeE, Bool.false_eq_true, decide_true, decide_false, Bool.not_true, Bool.not_false]
  obtain ⟨s1, s2⟩ := shl1 (k := hands) (by omega) (by omega)
  refine ⟨rng_small (by omega) (by omega), ?_⟩
  refine comp_inv (fun i acc h1 => (∀ m ∈ acc, ToldE hands m) ∧ acc.length = i ∧ GK k h0 h1 (u + i)) ⟨(fun _ hx => nomatch hx), rfl, g.mono (by omega)⟩ (fun _ _ _ _ => trivial) ?_ ?_
  · rintro acc h1 ⟨ha, hl, g1⟩
    rw [rng_len] at hl g1
    have hak : h1.length ≠ k := by have := g1.lt; omega
    refine ⟨rng_small (by omega) (by omega), ?_⟩
    refine comp_inv (fun i pp h2 => ∃ ts : List (List TR), pp = ts.map tabM ∧ ts.length = i ∧ (∀ t ∈ ts, TabOk EndE rises boxes t) ∧ GK k (h1 ++ [.lst acc]) h2 (u + 3 + 2000 * i)) ⟨[], rfl, rfl, (fun _ hx => nomatch hx), (g1.app.self).mono (by omega)⟩ (fun _ _ _ _ => trivial) ?_ ?_
    · rintro pp h2 ⟨ps, rfl, pl, po, g2⟩
      rw [rng_len] at pl g2
      try simp only [wSs, wS, wE, wEs, wAnd, wOr, wT, wAndT, wOrT, wO, wC, wI, setAll, w_add, w_adds, w_addt, w_addl, w_sub, w_mul, w_mull, w_div, w_mod, w_pow, w_shl, w_eq, w_ne, w_in, w_nin, w_lt, w_le, w_gt, w_ge, w_is, w_isn, w_eqi, w_eqs, w_eqb, w_tn, w_tb, w_ti, w_tt, w_it, w_if, w_is', w_il, w_st, w_ss, w_sl, w_lent, w_lenf, w_lens, w_lenl, w_tupt, w_tupl, w_lstt, w_lstl, w_stri, w_strs, w_inti, w_intb, w_min2, w_max2, w_abs, w_all, w_any, w_sum, w_join, w_app, w_ext, w_pop, w_tyj, w_mult, w_dict, w_dcopy, w_dkeys, w_dlen, w_dgetN, w_dget2, w_dget2s, w_tyd, w_zipt, w_zipl, w_tpq, w_key, w_keys, getD_new, w_tya, w_tye, w_typ, w_isin, w_isib, w_isii, w_isis, w_isit, w_ont, w_onf, w_ons, w_onl, w_rng1, w_rng2, w_nm, w_tp, Option.some.injEq, exists_eq_left', exists_eq_left, exists_eq, exists_eq', List.getElem?_cons_zero, List.getElem?_cons_succ, List.set_cons_zero, List.set_cons_succ, List.map_cons, List.map_nil, List.cons_append, List.nil_append, List.length_cons, List.length_nil, M.int.injEq, M.ref.injEq, M.str.injEq, M.bl.injEq, M.tup.injEq, List.replicate, Nat.reduceSub, Nat.reduceAdd, true_and, and_true, exists_and_left, exists_and_right, at_0, at_1, at_2, at_3, at_4, Nat.reduceLT, List.length_set, MO.lst.injEq, ix_0, ix_1, ix_2, beq_iff_eq, reduceCtorEq, if_true, if_false, ite_true, ite_false, getL_new, wipeE, Bool.false_eq_true, decide_true, decide_false, Bool.not_true, Bool.not_false]
      refine ⟨rng_small (by omega) (by omega), ?_⟩
      refine comp_inv (fun i pp h3 => ∃ ts : List (List TR), pp = ts.map tabM ∧ ts.length = i ∧ (∀ t ∈ ts, TabOk (ToldE hands) rises boxes t) ∧ GK k (h1 ++ [.lst acc]) h3 (u + 3 + 2000 * hands + 2000 * i)) ⟨[], rfl, rfl, (fun _ hx => nomatch hx), (g2.app).mono (by omega)⟩ (fun _ _ _ _ => trivial) ?_ ?_
      · rintro qq h3 ⟨ls, rfl, ll, lo, g3⟩
        rw [rng_len] at ll g3
        try simp only [wSs, wS, wE, wEs, wAnd, wOr, wT, wAndT, wOrT, wO, wC, wI, setAll, w_add, w_adds, w_addt, w_addl, w_sub, w_mul, w_mull, w_div, w_mod, w_pow, w_shl, w_eq, w_ne, w_in, w_nin, w_lt, w_le, w_gt, w_ge, w_is, w_isn, w_eqi, w_eqs, w_eqb, w_tn, w_tb, w_ti, w_tt, w_it, w_if, w_is', w_il, w_st, w_ss, w_sl, w_lent, w_lenf, w_lens, w_lenl, w_tupt, w_tupl, w_lstt, w_lstl, w_stri, w_strs, w_inti, w_intb, w_min2, w_max2, w_abs, w_all, w_any, w_sum, w_join, w_app, w_ext, w_pop, w_tyj, w_mult, w_dict, w_dcopy, w_dkeys, w_dlen, w_dgetN, w_dget2, w_dget2s, w_tyd, w_zipt, w_zipl, w_tpq, w_key, w_keys, getD_new, w_tya, w_tye, w_typ, w_isin, w_isib, w_isii, w_isis, w_isit, w_ont, w_onf, w_ons, w_onl, w_rng1, w_rng2, w_nm, w_tp, Option.some.injEq, exists_eq_left', exists_eq_left, exists_eq, exists_eq', List.getElem?_cons_zero, List.getElem?_cons_succ, List.set_cons_zero, List.set_cons_succ, List.map_cons, List.map_nil, List.cons_append, List.nil_append, List.length_cons, List.length_nil, M.int.injEq, M.ref.injEq, M.str.injEq, M.bl.injEq, M.tup.injEq, List.replicate, Nat.reduceSub, Nat.reduceAdd, true_and, and_true, exists_and_left, exists_and_right, at_0, at_1, at_2, at_3, at_4, Nat.reduceLT, List.length_set, MO.lst.injEq, ix_0, ix_1, ix_2, beq_iff_eq, reduceCtorEq, if_true, if_false, ite_true, ite_false, getL_new, wipeE, Bool.false_eq_true, decide_true, decide_false, Bool.not_true, Bool.not_false]
        exact q ⟨hands, boxes, ps, ls⟩ _ rfl rfl ⟨by show (ps.length : Int) = hands; omega, by show (ls.length : Int) = hands; omega, po, lo⟩ ((g1.app.trans g3).app.mono (by omega))
      · rintro i x qq h3 R hx ⟨ls, rfl, ll, lo, g3⟩ kk
        obtain ⟨rfl, hi⟩ := rngL_get hx
        refine ⟨_, rfl, ?_⟩
        try simp only [wSs, wS, wE, wEs, wAnd, wOr, wT, wAndT, wOrT, wO, wC, wI, setAll, w_add, w_adds, w_addt, w_addl, w_sub, w_mul, w_mull, w_div, w_mod, w_pow, w_shl, w_eq, w_ne, w_in, w_nin, w_lt, w_le, w_gt, w_ge, w_is, w_isn, w_eqi, w_eqs, w_eqb, w_tn, w_tb, w_ti, w_tt, w_it, w_if, w_is', w_il, w_st, w_ss, w_sl, w_lent, w_lenf, w_lens, w_lenl, w_tupt, w_tupl, w_lstt, w_lstl, w_stri, w_strs, w_inti, w_intb, w_min2, w_max2, w_abs, w_all, w_any, w_sum, w_join, w_app, w_ext, w_pop, w_tyj, w_mult, w_dict, w_dcopy, w_dkeys, w_dlen, w_dgetN, w_dget2, w_dget2s, w_tyd, w_zipt, w_zipl, w_tpq, w_key, w_keys, getD_new, w_tya, w_tye, w_typ, w_isin, w_isib, w_isii, w_isis, w_isit, w_ont, w_onf, w_ons, w_onl, w_rng1, w_rng2, w_nm, w_tp, Option.some.injEq, exists_eq_left', exists_eq_left, exists_eq, exists_eq', List.getElem?_cons_zero, List.getElem?_cons_succ, List.set_cons_zero, List.set_cons_succ, List.map_cons, List.map_nil, List.cons_append, List.nil_append, List.length_cons, List.length_nil, M.int.injEq, M.ref.injEq, M.str.injEq, M.bl.injEq, M.tup.injEq, List.replicate, Nat.reduceSub, Nat.reduceAdd, true_and, and_true, exists_and_left, exists_and_right, at_0, at_1, at_2, at_3, at_4, Nat.reduceLT, List.length_set, MO.lst.injEq, ix_0, ix_1, ix_2, beq_iff_eq, reduceCtorEq, if_true, if_false, ite_true, ite_false, getL_new, wipeE, Bool.false_eq_true, decide_true, decide_false, Bool.not_true, Bool.not_false]
        refine table_gen F (E := ToldE hands) g3 (by omega) b0 b1 m0 m1 (g3.get hak get_new) hak (by intro z; rw [z] at hl; simp at hl) (by omega) ha fun rows h4 ok _ g4 => ?_
        refine kk _ _ ⟨ls ++ [rows], by rw [List.map_append]; rfl, by simp [ll], fun t ht => ?_, g4.mono (by push_cast; omega)⟩
        rcases List.mem_append.mp ht with ht | ht
        · exact lo t ht
        · rcases List.mem_singleton.mp ht with rfl
          exact ok
    · rintro i x qq h3 R hx ⟨ls, rfl, ll, lo, g3⟩ kk
      obtain ⟨rfl, hi⟩ := rngL_get hx
      refine ⟨_, rfl, ?_⟩
      try simp only [wSs, wS, wE, wEs, wAnd, wOr, wT, wAndT, wOrT, wO, wC, wI, setAll, w_add, w_adds, w_addt, w_addl, w_sub, w_mul, w_mull, w_div, w_mod, w_pow, w_shl, w_eq, w_ne, w_in, w_nin, w_lt, w_le, w_gt, w_ge, w_is, w_isn, w_eqi, w_eqs, w_eqb, w_tn, w_tb, w_ti, w_tt, w_it, w_if, w_is', w_il, w_st, w_ss, w_sl, w_lent, w_lenf, w_lens, w_lenl, w_tupt, w_tupl, w_lstt, w_lstl, w_stri, w_strs, w_inti, w_intb, w_min2, w_max2, w_abs, w_all, w_any, w_sum, w_join, w_app, w_ext, w_pop, w_tyj, w_mult, w_dict, w_dcopy, w_dkeys, w_dlen, w_dgetN, w_dget2, w_dget2s, w_tyd, w_zipt, w_zipl, w_tpq, w_key, w_keys, getD_new, w_tya, w_tye, w_typ, w_isin, w_isib, w_isii, w_isis, w_isit, w_ont, w_onf, w_ons, w_onl, w_rng1, w_rng2, w_nm, w_tp, Option.some.injEq, exists_eq_left', exists_eq_left, exists_eq, exists_eq', List.getElem?_cons_zero, List.getElem?_cons_succ, List.set_cons_zero, List.set_cons_succ, List.map_cons, List.map_nil, List.cons_append, List.nil_append, List.length_cons, List.length_nil, M.int.injEq, M.ref.injEq, M.str.injEq, M.bl.injEq, M.tup.injEq, List.replicate, Nat.reduceSub, Nat.reduceAdd, true_and, and_true, exists_and_left, exists_and_right, at_0, at_1, at_2, at_3, at_4, Nat.reduceLT, List.length_set, MO.lst.injEq, ix_0, ix_1, ix_2, beq_iff_eq, reduceCtorEq, if_true, if_false, ite_true, ite_false, getL_new, wipeE, Bool.false_eq_true, decide_true, decide_false, Bool.not_true, Bool.not_false]
      have hk3 : h3.length ≠ k := by have := g3.lt; omega
      refine table_gen F (E := EndE) (g3.app (t := [.lst [.tup [.str [101, 110, 100]]]])) (by omega) b0 b1 m0 m1 get_new hk3 (by simp) (by simp) (fun e he => by simpa [EndE] using he) fun rows h4 ok _ g4 => ?_
      refine kk _ _ ⟨ls ++ [rows], by rw [List.map_append]; rfl, by simp [ll], fun t ht => ?_, g4.mono (by push_cast; omega)⟩
      rcases List.mem_append.mp ht with ht | ht
      · exact lo t ht
      · rcases List.mem_singleton.mp ht with rfl
        exact ok
  · rintro i x acc h1 R hx ⟨ha, hl, g1⟩ kk
    obtain ⟨rfl, hi⟩ := rngL_get hx
    refine ⟨_, rfl, ?_⟩
    try simp only [wSs, wS, wE, wEs, wAnd, wOr, wT, wAndT, wOrT, wO, wC, wI, setAll, w_add, w_adds, w_addt, w_addl, w_sub, w_mul, w_mull, w_div, w_mod, w_pow, w_shl, w_eq, w_ne, w_in, w_nin, w_lt, w_le, w_gt, w_ge, w_is, w_isn, w_eqi, w_eqs, w_eqb, w_tn, w_tb, w_ti, w_tt, w_it, w_if, w_is', w_il, w_st, w_ss, w_sl, w_lent, w_lenf, w_lens, w_lenl, w_tupt, w_tupl, w_lstt, w_lstl, w_stri, w_strs, w_inti, w_intb, w_min2, w_max2, w_abs, w_all, w_any, w_sum, w_join, w_app, w_ext, w_pop, w_tyj, w_mult, w_dict, w_dcopy, w_dkeys, w_dlen, w_dgetN, w_dget2, w_dget2s, w_tyd, w_zipt, w_zipl, w_tpq, w_key, w_keys, getD_new, w_tya, w_tye, w_typ, w_isin, w_isib, w_isii, w_isis, w_isit, w_ont, w_onf, w_ons, w_onl, w_rng1, w_rng2, w_nm, w_tp, Option.some.injEq, exists_eq_left', exists_eq_left, exists_eq, exists_eq', List.getElem?_cons_zero, List.getElem?_cons_succ, List.set_cons_zero, List.set_cons_succ, List.map_cons, List.map_nil, List.cons_append, List.nil_append, List.length_cons, List.length_nil, M.int.injEq, M.ref.injEq, M.str.injEq, M.bl.injEq, M.tup.injEq, List.replicate, Nat.reduceSub, Nat.reduceAdd, true_and, and_true, exists_and_left, exists_and_right, at_0, at_1, at_2, at_3, at_4, Nat.reduceLT, List.length_set, MO.lst.injEq, ix_0, ix_1, ix_2, beq_iff_eq, reduceCtorEq, if_true, if_false, ite_true, ite_false, getL_new, wipeE, Bool.false_eq_true, decide_true, decide_false, Bool.not_true, Bool.not_false]
    refine ⟨cpow1 (by omega) (by omega), ?_⟩
    refine tk F.take g1 (by omega) s1 (by omega) fun x h2 x0 x1 g2 => ?_
    try simp only [wSs, wS, wE, wEs, wAnd, wOr, wT, wAndT, wOrT, wO, wC, wI, setAll, w_add, w_adds, w_addt, w_addl, w_sub, w_mul, w_mull, w_div, w_mod, w_pow, w_shl, w_eq, w_ne, w_in, w_nin, w_lt, w_le, w_gt, w_ge, w_is, w_isn, w_eqi, w_eqs, w_eqb, w_tn, w_tb, w_ti, w_tt, w_it, w_if, w_is', w_il, w_st, w_ss, w_sl, w_lent, w_lenf, w_lens, w_lenl, w_tupt, w_tupl, w_lstt, w_lstl, w_stri, w_strs, w_inti, w_intb, w_min2, w_max2, w_abs, w_all, w_any, w_sum, w_join, w_app, w_ext, w_pop, w_tyj, w_mult, w_dict, w_dcopy, w_dkeys, w_dlen, w_dgetN, w_dget2, w_dget2s, w_tyd, w_zipt, w_zipl, w_tpq, w_key, w_keys, getD_new, w_tya, w_tye, w_typ, w_isin, w_isib, w_isii, w_isis, w_isit, w_ont, w_onf, w_ons, w_onl, w_rng1, w_rng2, w_nm, w_tp, Option.some.injEq, exists_eq_left', exists_eq_left, exists_eq, exists_eq', List.getElem?_cons_zero, List.getElem?_cons_succ, List.set_cons_zero, List.set_cons_succ, List.map_cons, List.map_nil, List.cons_append, List.nil_append, List.length_cons, List.length_nil, M.int.injEq, M.ref.injEq, M.str.injEq, M.bl.injEq, M.tup.injEq, List.replicate, Nat.reduceSub, Nat.reduceAdd, true_and, and_true, exists_and_left, exists_and_right, at_0, at_1, at_2, at_3, at_4, Nat.reduceLT, List.length_set, MO.lst.injEq, ix_0, ix_1, ix_2, beq_iff_eq, reduceCtorEq, if_true, if_false, ite_true, ite_false, getL_new, wipeE, Bool.false_eq_true, decide_true, decide_false, Bool.not_true, Bool.not_false]
    refine bits_ok F.bits n0 n1 fun bs h3 hb g3 => ?_
    try simp only [wSs, wS, wE, wEs, wAnd, wOr, wT, wAndT, wOrT, wO, wC, wI, setAll, w_add, w_adds, w_addt, w_addl, w_sub, w_mul, w_mull, w_div, w_mod, w_pow, w_shl, w_eq, w_ne, w_in, w_nin, w_lt, w_le, w_gt, w_ge, w_is, w_isn, w_eqi, w_eqs, w_eqb, w_tn, w_tb, w_ti, w_tt, w_it, w_if, w_is', w_il, w_st, w_ss, w_sl, w_lent, w_lenf, w_lens, w_lenl, w_tupt, w_tupl, w_lstt, w_lstl, w_stri, w_strs, w_inti, w_intb, w_min2, w_max2, w_abs, w_all, w_any, w_sum, w_join, w_app, w_ext, w_pop, w_tyj, w_mult, w_dict, w_dcopy, w_dkeys, w_dlen, w_dgetN, w_dget2, w_dget2s, w_tyd, w_zipt, w_zipl, w_tpq, w_key, w_keys, getD_new, w_tya, w_tye, w_typ, w_isin, w_isib, w_isii, w_isis, w_isit, w_ont, w_onf, w_ons, w_onl, w_rng1, w_rng2, w_nm, w_tp, Option.some.injEq, exists_eq_left', exists_eq_left, exists_eq, exists_eq', List.getElem?_cons_zero, List.getElem?_cons_succ, List.set_cons_zero, List.set_cons_succ, List.map_cons, List.map_nil, List.cons_append, List.nil_append, List.length_cons, List.length_nil, M.int.injEq, M.ref.injEq, M.str.injEq, M.bl.injEq, M.tup.injEq, List.replicate, Nat.reduceSub, Nat.reduceAdd, true_and, and_true, exists_and_left, exists_and_right, at_0, at_1, at_2, at_3, at_4, Nat.reduceLT, List.length_set, MO.lst.injEq, ix_0, ix_1, ix_2, beq_iff_eq, reduceCtorEq, if_true, if_false, ite_true, ite_false, getL_new, wipeE, Bool.false_eq_true, decide_true, decide_false, Bool.not_true, Bool.not_false]
    refine kk _ _ ⟨fun m hm => ?_, by simp [hl], (g2.gro g3).mono (by push_cast; omega)⟩
    rcases List.mem_append.mp hm with hm | hm
    · exact ha m hm
    · rcases List.mem_singleton.mp hm with rfl
      exact ⟨bs, rfl, hb⟩
end
end Wg
open PySem PySem.Spec PyProof.Rows
set_option linter.all false
set_option Elab.async false
set_option maxRecDepth 100000
set_option maxHeartbeats 0
namespace Wg
open L2
/-! ### the small program (printed by gen.py from the linked text) -/
def top (i : Nat) : Stmt := PySem.Challenge.pw_wholeglance_k73_steps_by_tables.main.body.getD i (.Pass ⟨0, 0, 0, 0⟩)
abbrev k_row_behind : Nat := 0
def p_row_behind : FD where
  name := "row_behind"
  ps := ["row", "content"]
  N := ["row", "content", "met", "number"]
  body := (.cons (.ife (.cmp .Eq (.idx (.var 0) (.cst (.int 0))) (.cst (.str [114, 101, 97, 100]))) (.cons (.for (.tp [2, 3]) (.on (.idx (.var 0) (.cst (.int 2)))) (.cons (.ife (.cmp .Eq (.var 2) (.var 1)) (.cons (.ret (.var 3)) .nil) .nil) .nil)) .nil) .nil) (
  .cons (.ret (.idx (.var 0) (.cst (.int 3)))) .nil))
abbrev k_table_of : Nat := 1
def p_table_of : FD where
  name := "table_of"
  ps := ["manner", "hand", "deed"]
  N := ["manner", "hand", "deed", "word", "hands", "boxes", "puts", "looks"]
  body := (.cons (.asg (.tp [3, 4, 5, 6, 7]) (.var 0)) (
  .cons (.ife (.cmp .Eq (.idx (.var 2) (.cst (.int 0))) (.cst (.str [112, 117, 116]))) (.cons (.ret (.idx (.var 6) (.var 1))) .nil) .nil) (
  .cons (.ret (.idx (.var 7) (.var 1))) .nil)))
abbrev k_step_at : Nat := 2
def p_step_at : FD where
  name := "step_at"
  ps := ["row"]
  N := ["row"]
  body := (.cons (.ife (.cmp .Eq (.idx (.var 0) (.cst (.int 0))) (.cst (.str [114, 101, 97, 100]))) (.cons (.ret (.tup (.cons (.cst (.str [114, 101, 97, 100])) (.cons (.tup (.cons (.cst (.str [98, 111, 120])) (.cons (.idx (.var 0) (.cst (.int 1))) .nil))) .nil)))) .nil) .nil) (
  .cons (.ife (.cmp .Eq (.idx (.var 0) (.cst (.int 0))) (.cst (.str [119, 114, 105, 116, 101]))) (.cons (.ret (.tup (.cons (.cst (.str [119, 114, 105, 116, 101])) (.cons (.tup (.cons (.cst (.str [98, 111, 120])) (.cons (.idx (.var 0) (.cst (.int 1))) .nil))) (.cons (.idx (.var 0) (.cst (.int 2))) .nil))))) .nil) .nil) (
  .cons (.ife (.cmp .Eq (.idx (.var 0) (.cst (.int 0))) (.cst (.str [101, 110, 100]))) (.cons (.ret (.tup (.cons (.cst (.str [116, 111, 108, 100])) (.cons (.cst .non) .nil)))) .nil) .nil) (
  .cons (.ret (.tup (.cons (.cst (.str [116, 111, 108, 100])) (.cons (.idx (.var 0) (.cst (.int 1))) .nil)))) .nil))))
abbrev k_next_by_table : Nat := 3
def p_next_by_table : FD where
  name := "next_by_table"
  ps := ["manner", "hand", "deed", "reads"]
  N := ["manner", "hand", "deed", "reads", "table", "number", "content"]
  body := (.cons (.asg (.nm 4) (.call 1 (.cons (.var 0) (.cons (.var 1) (.cons (.var 2) .nil))))) (
  .cons (.asg (.nm 5) (.cst (.int 0))) (
  .cons (.for (.nm 6) (.on (.var 3)) (.cons (.asg (.nm 5) (.call 0 (.cons (.idx (.var 4) (.var 5)) (.cons (.var 6) .nil)))) .nil)) (
  .cons (.ret (.call 2 (.cons (.idx (.var 4) (.var 5)) .nil))) .nil))))
abbrev k_next_step : Nat := 4
def p_next_step : FD where
  name := "next_step"
  ps := ["manner", "hand", "deed", "ahead", "reads"]
  N := ["manner", "hand", "deed", "ahead", "reads"]
  body := (.cons (.ife (.cmp .Eq (.idx (.var 0) (.cst (.int 0))) (.cst (.str [111, 110, 99, 101]))) (.cons .dd .nil) .nil) (
  .cons (.ife (.cmp .Eq (.idx (.var 0) (.cst (.int 0))) (.cst (.str [116, 119, 105, 99, 101]))) (.cons .dd .nil) .nil) (
  .cons (.ife (.cmp .Eq (.idx (.var 0) (.cst (.int 0))) (.cst (.str [104, 97, 110, 100, 101, 100]))) (.cons .dd .nil) .nil) (
  .cons (.ife (.cmp .Eq (.idx (.var 0) (.cst (.int 0))) (.cst (.str [115, 105, 103, 110, 115]))) (.cons .dd .nil) .nil) (
  .cons (.ife (.cmp .Eq (.idx (.var 0) (.cst (.int 0))) (.cst (.str [115, 104, 97, 114, 101, 100]))) (.cons .dd .nil) .nil) (
  .cons (.ret (.call 3 (.cons (.var 0) (.cons (.var 1) (.cons (.var 2) (.cons (.var 4) .nil)))))) .nil))))))
abbrev k_law_hand : Nat := 5
def p_law_hand : FD where
  name := "_law_hand"
  ps := ["_law_script", "_law_k"]
  N := ["_law_script", "_law_k", "_law_cell"]
  body := (.cons (.asg (.nm 2) (.cst (.int 0))) (
  .cons (.ife (.cmp .Lt (.var 1) (.prm .len (.cons (.var 0) .nil))) (.cons (.asg (.nm 2) (.idx (.var 0) (.var 1))) .nil) .nil) (
  .cons (.ret (.lst (.cons (.bin .Mult (.var 2) (.prm .int (.cons (.cmp .GtE (.var 2) (.bin .Pow (.cst (.int 10)) (.cst (.int 18)))) .nil))) (.cons (.bin .Add (.bin .Add (.bin .Mod (.var 2) (.cst (.int 2305843009213693951))) (.bin .Mult (.cst (.int 7919)) (.var 1))) (.cst (.int 3))) (.cons (.cst (.int 0)) .nil))))) .nil)))
abbrev k_law_take : Nat := 6
def p_law_take : FD where
  name := "_law_take"
  ps := ["_law_hand_here", "_law_many"]
  N := ["_law_hand_here", "_law_many", "_law_digit", "_law_turn", "_law_mixed", "_law_other"]
  body := (.cons (.ife (.cmp .Gt (.idx (.var 0) (.cst (.int 0))) (.cst (.int 0))) (.cons (.asg (.nm 2) (.bin .Mod (.idx (.var 0) (.cst (.int 0))) (.var 1))) (
    .cons (.sub (.var 0) (.cst (.int 0)) (.bin .FloorDiv (.idx (.var 0) (.cst (.int 0))) (.var 1))) (
    .cons (.ret (.var 2)) .nil))) .nil) (
  .cons (.sub (.var 0) (.cst (.int 2)) (.bin .Add (.idx (.var 0) (.cst (.int 2))) (.cst (.int 1)))) (
  .cons (.asg (.nm 3) (.idx (.var 0) (.cst (.int 2)))) (
  .cons (.asg (.nm 4) (.bin .Mod (.bin .Mult (.idx (.var 0) (.cst (.int 1))) (.bin .Add (.bin .Add (.cst (.int 48271)) (.bin .Mult (.bin .Mult (.cst (.int 2)) (.var 3)) (.var 3))) (.bin .Mult (.cst (.int 65537)) (.var 3)))) (.cst (.int 2305843009213693921)))) (
  .cons (.asg (.nm 5) (.bin .Add (.bin .Add (.bin .Mod (.var 4) (.cst (.int 1000003))) (.bin .Mult (.var 3) (.cst (.int 99991)))) (.cst (.int 11)))) (
  .cons (.asg (.nm 4) (.bin .Mod (.bin .Mult (.var 4) (.var 5)) (.cst (.int 2305843009213693907)))) (
  .cons (.ret (.bin .Mod (.bin .Add (.bin .FloorDiv (.var 4) (.cst (.int 97))) (.bin .FloorDiv (.var 4) (.cst (.int 1000033)))) (.var 1))) .nil)))))))
abbrev k_law_pick : Nat := 7
def p_law_pick : FD where
  name := "_law_pick"
  ps := ["_law_hand_here", "_law_some"]
  N := ["_law_hand_here", "_law_some"]
  body := (.cons (.ret (.idx (.var 1) (.call 6 (.cons (.var 0) (.cons (.prm .len (.cons (.var 1) .nil)) .nil))))) .nil)
abbrev k_law_jumps : Nat := 8
def p_law_jumps : FD where
  name := "_law_jumps"
  ps := ["_law_hand_here", "_law_at", "_law_many", "_law_rises"]
  N := ["_law_hand_here", "_law_at", "_law_many", "_law_rises", "_law_jumps_here", "_law_content"]
  body := (.cons (.asg (.nm 4) (.lst .nil)) (
  .cons (.for (.nm 5) (.rng (.cons (.cst (.int 10)) .nil)) (.cons (.ife (.cmp .Eq (.call 6 (.cons (.var 0) (.cons (.cst (.int 4)) .nil))) (.cst (.int 0))) (.cons (.exp (.mth .append (.var 4) (.cons (.tup (.cons (.var 5) (.cons (.call 9 (.cons (.var 0) (.cons (.var 1) (.cons (.var 2) (.cons (.var 3) .nil))))) .nil))) .nil))) .nil) .nil) .nil)) (
  .cons (.ret (.prm .tuple (.cons (.var 4) .nil))) .nil)))
abbrev k_law_next_row : Nat := 9
def p_law_next_row : FD where
  name := "_law_next_row"
  ps := ["_law_hand_here", "_law_at", "_law_many", "_law_rises"]
  N := ["_law_hand_here", "_law_at", "_law_many", "_law_rises"]
  body := (.cons (.ife (.var 3) (.cons (.ret (.bin .Add (.bin .Add (.var 1) (.cst (.int 1))) (.call 6 (.cons (.var 0) (.cons (.bin .Sub (.bin .Sub (.var 2) (.cst (.int 1))) (.var 1)) .nil))))) .nil) .nil) (
  .cons (.ret (.call 6 (.cons (.var 0) (.cons (.var 2) .nil)))) .nil))
abbrev k_law_table : Nat := 10
def p_law_table : FD where
  name := "_law_table"
  ps := ["_law_hand_here", "_law_size", "_law_most", "_law_ends", "_law_rises"]
  N := ["_law_hand_here", "_law_size", "_law_most", "_law_ends", "_law_rises", "_law_hands", "_law_boxes", "_law_many", "_law_rows", "_law_at", "_law_way", "_law_jumps_here", "_law_content"]
  body := (.cons (.asg (.tp [5, 6]) (.var 1)) (
  .cons (.asg (.nm 7) (.bin .Add (.cst (.int 2)) (.call 6 (.cons (.var 0) (.cons (.bin .Sub (.var 2) (.cst (.int 1))) .nil))))) (
  .cons (.asg (.nm 8) (.lst .nil)) (
  .cons (.for (.nm 9) (.rng (.cons (.var 7) .nil)) (.cons (.asg (.nm 10) (.call 6 (.cons (.var 0) (.cons (.cst (.int 8)) .nil)))) (
    .cons (.ife (.or (.cons (.cmp .Eq (.var 9) (.bin .Sub (.var 7) (.cst (.int 1)))) (.cons (.and (.cons (.cmp .Gt (.var 9) (.cst (.int 0))) (.cons (.cmp .Eq (.var 10) (.cst (.int 0))) .nil))) .nil))) (.cons (.exp (.mth .append (.var 8) (.cons (.call 7 (.cons (.var 0) (.cons (.var 3) .nil))) .nil))) .nil) (.cons (.ife (.cmp .Lt (.var 10) (.cst (.int 4))) (.cons (.asg (.nm 11) (.call 8 (.cons (.var 0) (.cons (.var 9) (.cons (.var 7) (.cons (.var 4) .nil)))))) (
        .cons (.exp (.mth .append (.var 8) (.cons (.tup (.cons (.cst (.str [114, 101, 97, 100])) (.cons (.call 6 (.cons (.var 0) (.cons (.var 6) .nil))) (.cons (.var 11) (.cons (.call 9 (.cons (.var 0) (.cons (.var 9) (.cons (.var 7) (.cons (.var 4) .nil))))) .nil))))) .nil))) .nil)) (.cons (.asg (.nm 12) (.call 6 (.cons (.var 0) (.cons (.idx (.lst (.cons (.cst (.int 2)) (.cons (.cst (.int 3)) (.cons (.cst (.int 10)) .nil)))) (.call 6 (.cons (.var 0) (.cons (.cst (.int 3)) .nil)))) .nil)))) (
        .cons (.exp (.mth .append (.var 8) (.cons (.tup (.cons (.cst (.str [119, 114, 105, 116, 101])) (.cons (.call 6 (.cons (.var 0) (.cons (.var 6) .nil))) (.cons (.var 12) (.cons (.call 9 (.cons (.var 0) (.cons (.var 9) (.cons (.var 7) (.cons (.var 4) .nil))))) .nil))))) .nil))) .nil))) .nil)) .nil))) (
  .cons (.ret (.prm .tuple (.cons (.var 8) .nil))) .nil)))))
abbrev k_law_bits : Nat := 11
def p_law_bits : FD where
  name := "_law_bits"
  ps := ["_law_number", "_law_hands"]
  N := ["_law_number", "_law_hands", "_law_k"]
  body := (.cons (.ret (.prm .tuple (.cons (.comp [2] (.nm 2) (.rng (.cons (.var 1) .nil)) .no (.bin .Mod (.bin .FloorDiv (.var 0) (.bin .LShift (.cst (.int 1)) (.var 2))) (.cst (.int 2)))) .nil))) .nil)
abbrev k_law_tables : Nat := 12
def p_law_tables : FD where
  name := "_law_tables"
  ps := ["_law_hand_here", "_law_size", "_law_most", "_law_rises"]
  N := ["_law_hand_here", "_law_size", "_law_most", "_law_rises", "_law_hands", "_law_boxes", "_law_told", "_law_puts", "_law_looks", "_law_k"]
  body := (.cons (.asg (.tp [4, 5]) (.var 1)) (
  .cons (.asg (.nm 6) (.comp [9] (.nm 9) (.rng (.cons (.cst (.int 3)) .nil)) .no (.tup (.cons (.cst (.str [116, 111, 108, 100])) (.cons (.call 11 (.cons (.call 6 (.cons (.var 0) (.cons (.bin .LShift (.cst (.int 1)) (.var 4)) .nil))) (.cons (.var 4) .nil))) .nil))))) (
  .cons (.asg (.nm 7) (.prm .tuple (.cons (.comp [9] (.nm 9) (.rng (.cons (.var 4) .nil)) .no (.call 10 (.cons (.var 0) (.cons (.var 1) (.cons (.var 2) (.cons (.lst (.cons (.tup (.cons (.cst (.str [101, 110, 100])) .nil)) .nil)) (.cons (.var 3) .nil))))))) .nil))) (
  .cons (.asg (.nm 8) (.prm .tuple (.cons (.comp [9] (.nm 9) (.rng (.cons (.var 4) .nil)) .no (.call 10 (.cons (.var 0) (.cons (.var 1) (.cons (.var 2) (.cons (.var 6) (.cons (.var 3) .nil))))))) .nil))) (
  .cons (.ret (.tup (.cons (.cst (.str [116, 97, 98, 108, 101, 115])) (.cons (.var 4) (.cons (.var 5) (.cons (.var 7) (.cons (.var 8) .nil))))))) .nil)))))
abbrev k_law_due : Nat := 13
def p_law_due : FD where
  name := "_law_due"
  ps := ["_law_row"]
  N := ["_law_row"]
  body := (.cons (.ife (.cmp .Eq (.idx (.var 0) (.cst (.int 0))) (.cst (.str [114, 101, 97, 100]))) (.cons (.ret (.tup (.cons (.cst (.str [114, 101, 97, 100])) (.cons (.tup (.cons (.cst (.str [98, 111, 120])) (.cons (.idx (.var 0) (.cst (.int 1))) .nil))) .nil)))) .nil) .nil) (
  .cons (.ife (.cmp .Eq (.idx (.var 0) (.cst (.int 0))) (.cst (.str [119, 114, 105, 116, 101]))) (.cons (.ret (.tup (.cons (.cst (.str [119, 114, 105, 116, 101])) (.cons (.tup (.cons (.cst (.str [98, 111, 120])) (.cons (.idx (.var 0) (.cst (.int 1))) .nil))) (.cons (.idx (.var 0) (.cst (.int 2))) .nil))))) .nil) .nil) (
  .cons (.ret (.tup (.cons (.cst (.str [116, 111, 108, 100])) (.cons (.idx (.bin .Add (.var 0) (.tup (.cons (.cst .non) .nil))) (.cst (.int 1))) .nil)))) .nil)))
abbrev k_law_same : Nat := 14
def p_law_same : FD where
  name := "_law_same"
  ps := ["_law_found", "_law_due_here"]
  N := ["_law_found", "_law_due_here", "_law_one", "_law_other"]
  body := (.cons (.ife (.isi .tuple (.var 1)) (.cons (.ife (.or (.cons (.not (.isi .tuple (.var 0))) (.cons (.cmp .NotEq (.prm .len (.cons (.var 0) .nil)) (.prm .len (.cons (.var 1) .nil))) .nil))) (.cons (.ret (.cst (.bl false))) .nil) .nil) (
    .cons (.ret (.prm .all (.cons (.comp [2, 3] (.tp [2, 3]) (.zip (.var 0) (.var 1)) .no (.call 14 (.cons (.var 2) (.cons (.var 3) .nil)))) .nil))) .nil)) .nil) (
  .cons (.ife (.or (.cons (.cmp .Is (.var 1) (.cst .non)) (.cons (.isi .str (.var 1)) .nil))) (.cons (.ret (.ifx (.cmp .Is (.var 1) (.cst .non)) (.cmp .Is (.var 0) (.cst .non)) (.and (.cons (.isi .str (.var 0)) (.cons (.cmp .Eq (.var 0) (.var 1)) .nil))))) .nil) .nil) (
  .cons (.ret (.and (.cons (.isi .int (.var 0)) (.cons (.not (.isi .bool (.var 0))) (.cons (.cmp .Eq (.var 0) (.var 1)) .nil))))) .nil)))
abbrev k_law_right : Nat := 15
def p_law_right : FD where
  name := "_law_right"
  ps := ["_law_hand_here", "_law_manner", "_law_own", "_law_deed"]
  N := ["_law_hand_here", "_law_manner", "_law_own", "_law_deed", "_law_table_here", "_law_at", "_law_reads", "_law_turn", "_law_row", "_law_again", "_law_jumps_here", "_law_read"]
  body := (.cons (.asg (.nm 4) (.idx (.idx (.var 1) (.bin .Add (.cst (.int 3)) (.prm .int (.cons (.cmp .Eq (.idx (.var 3) (.cst (.int 0))) (.cst (.str [108, 111, 111, 107]))) .nil)))) (.var 2))) (
  .cons (.asg (.nm 5) (.cst (.int 0))) (
  .cons (.asg (.nm 6) (.tup .nil)) (
  .cons (.for (.nm 7) (.rng (.cons (.cst (.int 31)) .nil)) (.cons (.asg (.nm 8) (.idx (.var 4) (.var 5))) (
    .cons (.for (.nm 9) (.rng (.cons (.cst (.int 2)) .nil)) (.cons (.ife (.not (.call 14 (.cons (.call 4 (.cons (.var 1) (.cons (.var 2) (.cons (.var 3) (.cons (.bin .Mult (.tup (.cons (.bin .Mod (.var 7) (.cst (.int 3))) .nil)) (.idx (.var 1) (.cst (.int 1)))) (.cons (.var 6) .nil)))))) (.cons (.call 13 (.cons (.var 8) .nil)) .nil)))) (.cons (.ret (.cst (.bl false))) .nil) .nil) .nil)) (
    .cons (.ife (.cmp .In (.idx (.var 8) (.cst (.int 0))) (.tup (.cons (.cst (.str [101, 110, 100])) (.cons (.cst (.str [116, 111, 108, 100])) .nil)))) (.cons (.ret (.cst (.bl true))) .nil) .nil) (
    .cons (.asg (.nm 10) .dnew) (
    .cons (.asg (.nm 11) (.cst .non)) (
    .cons (.ife (.cmp .Eq (.idx (.var 8) (.cst (.int 0))) (.cst (.str [114, 101, 97, 100]))) (.cons (.asg (.nm 10) (.prm .dict (.cons (.idx (.var 8) (.cst (.int 2))) .nil))) (
      .cons (.asg (.nm 11) (.call 7 (.cons (.var 0) (.cons (.bin .Add (.prm .dkeys (.cons (.var 10) .nil)) (.lst (.cons (.call 6 (.cons (.var 0) (.cons (.cst (.int 10)) .nil))) .nil))) .nil)))) .nil)) .nil) (
    .cons (.asg (.nm 5) (.mth .dget (.var 10) (.cons (.var 11) (.cons (.idx (.var 8) (.cst (.int 3))) .nil)))) (
    .cons (.asg (.nm 6) (.bin .Add (.var 6) (.tup (.cons (.var 11) .nil)))) .nil))))))))) (
  .cons (.ret (.cst (.bl true))) .nil)))))
abbrev k_law : Nat := 16
def p_law : FD where
  name := "law"
  ps := ["_law_script"]
  N := ["_law_script", "_law_k", "_law_hand_here", "_law_size", "_law_most", "_law_manner", "_law_own", "_law_deed"]
  body := (.cons (.for (.nm 1) (.rng (.cons (.prm .max2 (.cons (.cst (.int 1)) (.cons (.prm .min2 (.cons (.prm .len (.cons (.var 0) .nil)) (.cons (.cst (.int 4)) .nil))) .nil))) .nil)) (.cons (.asg (.nm 2) (.call 5 (.cons (.var 0) (.cons (.var 1) .nil)))) (
    .cons (.asg (.nm 3) (.call 7 (.cons (.var 2) (.cons (.lst (.cons (.tup (.cons (.cst (.int 3)) (.cons (.cst (.int 1)) .nil))) (.cons (.tup (.cons (.cst (.int 4)) (.cons (.cst (.int 2)) .nil))) (.cons (.tup (.cons (.cst (.int 5)) (.cons (.cst (.int 3)) .nil))) (.cons (.tup (.cons (.cst (.int 5)) (.cons (.cst (.int 4)) .nil))) (.cons (.tup (.cons (.cst (.int 1)) (.cons (.cst (.int 1)) .nil))) (.cons (.tup (.cons (.cst (.int 2)) (.cons (.cst (.int 4)) .nil))) .nil))))))) .nil)))) (
    .cons (.asg (.nm 4) (.idx (.lst (.cons (.cst (.int 6)) (.cons (.cst (.int 40)) .nil))) (.prm .int (.cons (.cmp .Eq (.call 6 (.cons (.var 2) (.cons (.cst (.int 8)) .nil))) (.cst (.int 0))) .nil)))) (
    .cons (.asg (.nm 5) (.call 12 (.cons (.var 2) (.cons (.var 3) (.cons (.var 4) (.cons (.cmp .Eq (.call 6 (.cons (.var 2) (.cons (.cst (.int 2)) .nil))) (.cst (.int 0))) .nil)))))) (
    .cons (.for (.nm 6) (.rng (.cons (.idx (.var 3) (.cst (.int 0))) .nil)) (.cons (.for (.nm 7) (.on (.lst (.cons (.tup (.cons (.cst (.str [112, 117, 116])) (.cons (.var 6) (.cons (.cst (.int 1)) .nil)))) (.cons (.tup (.cons (.cst (.str [108, 111, 111, 107])) .nil)) .nil)))) (.cons (.ife (.not (.call 15 (.cons (.var 2) (.cons (.var 5) (.cons (.var 6) (.cons (.var 7) .nil)))))) (.cons (.ret (.cst (.bl false))) .nil) .nil) .nil)) .nil)) .nil)))))) (
  .cons (.ret (.cst (.bl true))) .nil))
def prog : MG := { fns := [p_row_behind, p_table_of, p_step_at, p_next_by_table, p_next_step, p_law_hand, p_law_take, p_law_pick, p_law_jumps, p_law_next_row, p_law_table, p_law_bits, p_law_tables, p_law_due, p_law_same, p_law_right, p_law], cons := [] }
theorem sc_p_row_behind : FnScope p_row_behind.N p_row_behind.ps (defScope (top 37)) := ⟨rfl, rfl, rfl, by decide +kernel, rfl, by decide +kernel, by decide +kernel⟩
theorem mt_p_row_behind : mtSs prog p_row_behind.N (defScope (top 37)) p_row_behind.body (defBody (top 37)) = true := by decide +kernel
theorem sc_p_table_of : FnScope p_table_of.N p_table_of.ps (defScope (top 38)) := ⟨rfl, rfl, rfl, by decide +kernel, rfl, by decide +kernel, by decide +kernel⟩
theorem mt_p_table_of : mtSs prog p_table_of.N (defScope (top 38)) p_table_of.body (defBody (top 38)) = true := by decide +kernel
theorem sc_p_step_at : FnScope p_step_at.N p_step_at.ps (defScope (top 39)) := ⟨rfl, rfl, rfl, by decide +kernel, rfl, by decide +kernel, by decide +kernel⟩
theorem mt_p_step_at : mtSs prog p_step_at.N (defScope (top 39)) p_step_at.body (defBody (top 39)) = true := by decide +kernel
theorem sc_p_next_by_table : FnScope p_next_by_table.N p_next_by_table.ps (defScope (top 40)) := ⟨rfl, rfl, rfl, by decide +kernel, rfl, by decide +kernel, by decide +kernel⟩
theorem mt_p_next_by_table : mtSs prog p_next_by_table.N (defScope (top 40)) p_next_by_table.body (defBody (top 40)) = true := by decide +kernel
theorem sc_p_next_step : FnScope p_next_step.N p_next_step.ps (defScope (top 42)) := ⟨rfl, rfl, rfl, by decide +kernel, rfl, by decide +kernel, by decide +kernel⟩
theorem mt_p_next_step : mtSs prog p_next_step.N (defScope (top 42)) p_next_step.body (defBody (top 42)) = true := by decide +kernel
theorem sc_p_law_hand : FnScope p_law_hand.N p_law_hand.ps (defScope (top 44)) := ⟨rfl, rfl, rfl, by decide +kernel, rfl, by decide +kernel, by decide +kernel⟩
theorem mt_p_law_hand : mtSs prog p_law_hand.N (defScope (top 44)) p_law_hand.body (defBody (top 44)) = true := by decide +kernel
theorem sc_p_law_take : FnScope p_law_take.N p_law_take.ps (defScope (top 45)) := ⟨rfl, rfl, rfl, by decide +kernel, rfl, by decide +kernel, by decide +kernel⟩
theorem mt_p_law_take : mtSs prog p_law_take.N (defScope (top 45)) p_law_take.body (defBody (top 45)) = true := by decide +kernel
theorem sc_p_law_pick : FnScope p_law_pick.N p_law_pick.ps (defScope (top 46)) := ⟨rfl, rfl, rfl, by decide +kernel, rfl, by decide +kernel, by decide +kernel⟩
theorem mt_p_law_pick : mtSs prog p_law_pick.N (defScope (top 46)) p_law_pick.body (defBody (top 46)) = true := by decide +kernel
theorem sc_p_law_jumps : FnScope p_law_jumps.N p_law_jumps.ps (defScope (top 47)) := ⟨rfl, rfl, rfl, by decide +kernel, rfl, by decide +kernel, by decide +kernel⟩
theorem mt_p_law_jumps : mtSs prog p_law_jumps.N (defScope (top 47)) p_law_jumps.body (defBody (top 47)) = true := by decide +kernel
theorem sc_p_law_next_row : FnScope p_law_next_row.N p_law_next_row.ps (defScope (top 48)) := ⟨rfl, rfl, rfl, by decide +kernel, rfl, by decide +kernel, by decide +kernel⟩
theorem mt_p_law_next_row : mtSs prog p_law_next_row.N (defScope (top 48)) p_law_next_row.body (defBody (top 48)) = true := by decide +kernel
theorem sc_p_law_table : FnScope p_law_table.N p_law_table.ps (defScope (top 49)) := ⟨rfl, rfl, rfl, by decide +kernel, rfl, by decide +kernel, by decide +kernel⟩
theorem mt_p_law_table : mtSs prog p_law_table.N (defScope (top 49)) p_law_table.body (defBody (top 49)) = true := by decide +kernel
theorem sc_p_law_bits : FnScope p_law_bits.N p_law_bits.ps (defScope (top 50)) := ⟨rfl, rfl, rfl, by decide +kernel, rfl, by decide +kernel, by decide +kernel⟩
theorem mt_p_law_bits : mtSs prog p_law_bits.N (defScope (top 50)) p_law_bits.body (defBody (top 50)) = true := by decide +kernel
theorem sc_p_law_tables : FnScope p_law_tables.N p_law_tables.ps (defScope (top 51)) := ⟨rfl, rfl, rfl, by decide +kernel, rfl, by decide +kernel, by decide +kernel⟩
theorem mt_p_law_tables : mtSs prog p_law_tables.N (defScope (top 51)) p_law_tables.body (defBody (top 51)) = true := by decide +kernel
theorem sc_p_law_due : FnScope p_law_due.N p_law_due.ps (defScope (top 52)) := ⟨rfl, rfl, rfl, by decide +kernel, rfl, by decide +kernel, by decide +kernel⟩
theorem mt_p_law_due : mtSs prog p_law_due.N (defScope (top 52)) p_law_due.body (defBody (top 52)) = true := by decide +kernel
theorem sc_p_law_same : FnScope p_law_same.N p_law_same.ps (defScope (top 53)) := ⟨rfl, rfl, rfl, by decide +kernel, rfl, by decide +kernel, by decide +kernel⟩
theorem mt_p_law_same : mtSs prog p_law_same.N (defScope (top 53)) p_law_same.body (defBody (top 53)) = true := by decide +kernel
theorem sc_p_law_right : FnScope p_law_right.N p_law_right.ps (defScope (top 54)) := ⟨rfl, rfl, rfl, by decide +kernel, rfl, by decide +kernel, by decide +kernel⟩
theorem mt_p_law_right : mtSs prog p_law_right.N (defScope (top 54)) p_law_right.body (defBody (top 54)) = true := by decide +kernel
theorem sc_p_law : FnScope p_law.N p_law.ps (defScope (top 55)) := ⟨rfl, rfl, rfl, by decide +kernel, rfl, by decide +kernel, by decide +kernel⟩
theorem mt_p_law : mtSs prog p_law.N (defScope (top 55)) p_law.body (defBody (top 55)) = true := by decide +kernel
/-! ### the head -/
def h_p_row_behind : He.DefD := ⟨("row_behind", none), "row_behind", "row_behind", defArgs (top 37), defBody (top 37), defScope (top 37), [], []⟩
def h_p_table_of : He.DefD := ⟨("table_of", none), "table_of", "table_of", defArgs (top 38), defBody (top 38), defScope (top 38), [], []⟩
def h_p_step_at : He.DefD := ⟨("step_at", none), "step_at", "step_at", defArgs (top 39), defBody (top 39), defScope (top 39), [], []⟩
def h_p_next_by_table : He.DefD := ⟨("next_by_table", none), "next_by_table", "next_by_table", defArgs (top 40), defBody (top 40), defScope (top 40), [], []⟩
def h_p_next_step : He.DefD := ⟨("next_step", none), "next_step", "next_step", defArgs (top 42), defBody (top 42), defScope (top 42), [], []⟩
def h_p_law_hand : He.DefD := ⟨("_law_hand", none), "_law_hand", "_law_hand", defArgs (top 44), defBody (top 44), defScope (top 44), [], []⟩
def h_p_law_take : He.DefD := ⟨("_law_take", none), "_law_take", "_law_take", defArgs (top 45), defBody (top 45), defScope (top 45), [], []⟩
def h_p_law_pick : He.DefD := ⟨("_law_pick", none), "_law_pick", "_law_pick", defArgs (top 46), defBody (top 46), defScope (top 46), [], []⟩
def h_p_law_jumps : He.DefD := ⟨("_law_jumps", none), "_law_jumps", "_law_jumps", defArgs (top 47), defBody (top 47), defScope (top 47), [], []⟩
def h_p_law_next_row : He.DefD := ⟨("_law_next_row", none), "_law_next_row", "_law_next_row", defArgs (top 48), defBody (top 48), defScope (top 48), [], []⟩
def h_p_law_table : He.DefD := ⟨("_law_table", none), "_law_table", "_law_table", defArgs (top 49), defBody (top 49), defScope (top 49), [], []⟩
def h_p_law_bits : He.DefD := ⟨("_law_bits", none), "_law_bits", "_law_bits", defArgs (top 50), defBody (top 50), defScope (top 50), [], []⟩
def h_p_law_tables : He.DefD := ⟨("_law_tables", none), "_law_tables", "_law_tables", defArgs (top 51), defBody (top 51), defScope (top 51), [], []⟩
def h_p_law_due : He.DefD := ⟨("_law_due", none), "_law_due", "_law_due", defArgs (top 52), defBody (top 52), defScope (top 52), [], []⟩
def h_p_law_same : He.DefD := ⟨("_law_same", none), "_law_same", "_law_same", defArgs (top 53), defBody (top 53), defScope (top 53), [], []⟩
def h_p_law_right : He.DefD := ⟨("_law_right", none), "_law_right", "_law_right", defArgs (top 54), defBody (top 54), defScope (top 54), [], []⟩
def h_p_law : He.DefD := ⟨("law", none), "law", "law", defArgs (top 55), defBody (top 55), defScope (top 55), [], []⟩
def hfn : List He.DefD := [h_p_row_behind, h_p_table_of, h_p_step_at, h_p_next_by_table, h_p_next_step, h_p_law_hand, h_p_law_take, h_p_law_pick, h_p_law_jumps, h_p_law_next_row, h_p_law_table, h_p_law_bits, h_p_law_tables, h_p_law_due, h_p_law_same, h_p_law_right, h_p_law]
def hfa : List He.Fa := [.glo "row_behind", .glo "table_of", .glo "step_at", .glo "next_by_table", .glo "next_step", .glo "_law_hand", .glo "_law_take", .glo "_law_pick", .glo "_law_jumps", .glo "_law_next_row", .glo "_law_table", .glo "_law_bits", .glo "_law_tables", .glo "_law_due", .glo "_law_same", .glo "_law_right", .glo "law"] ++ [.free "len", .free "tuple", .free "list", .free "str", .free "int", .free "bool", .free "min", .free "max", .free "abs", .free "all", .free "any", .free "sum", .free "isinstance", .free "range", .free "enumerate", .free "zip", .free "dict", .free "set", .free "sorted", .free "reversed"]
abbrev R : PySem.W.OpenRow := PySem.W.OpenLaw.row PySem.Challenge.rw_wholeglance_k73_steps_by_tables
abbrev hk : PySem.W.Hook := He.hookD 4 hfa hfn
def ob (s : PySem.W.SharedT) : He.AlD := He.obsDG 4 hfa hfn (HandSHeadRun.getT s)
theorem ob_eq (s : PySem.W.SharedT) : ob s = hk.obs s.abs := He.obsDG_eq (HandSHeadRun.getT_eq s)
def names : List Str := (["last_collects", "changed_at", "seen_often", "others", "number_behind", "values_of", "own_read", "next_once", "look_twice", "next_twice", "all_moved", "look_handed"] : List Str) ++ (["next_handed", "round_length", "round_length_shared", "round_step", "has_written", "collects_in", "moved_in", "moved_in_shared", "mover_behind", "look_shared", "put_ahead", "next_shared"] : List Str) ++ (["round_length_signs", "shake_step", "moved_in_signs", "look_signs", "calls_of", "next_signs", "row_behind", "table_of", "step_at", "next_by_table", "next_step", "_law_hand"] : List Str) ++ (["_law_take", "_law_pick", "_law_jumps", "_law_next_row", "_law_table", "_law_bits", "_law_tables", "_law_due", "_law_same", "_law_right"] : List Str)
theorem run (w : World) : HandSHeadRun.RunEq R (PySem.W.view R.prog [55]) hk ob 4000 names w := by
  intro os
  kernel_rfl
def ads (K : PySem.W.Frag) : Ads where
  fa := fun f => match prog.fns[f]? with
    | some d => He.fAd K (d.name, none)
    | none => 0
  ca := fun _ => 0
  xa := fun _ => 0
theorem ft_p_row_behind {K : PySem.W.Frag} {h : Heap} {mg : Str → Option Value} (X : K.In h) (G : h.Ns mainGlobals mg) (c : He.SaysD hfa hfn K) : FnText (ads K) prog K mg 0 p_row_behind := by
  obtain ⟨fd, F⟩ := c.def_ 0 (d := h_p_row_behind) rfl
  refine ⟨He.glo_ok X G (c.fact 0 (f := .glo "row_behind") rfl), fd, ⟨"row_behind", top 37, F, sc_p_row_behind, mt_p_row_behind⟩, fun s us hl => FunD.bindsA F (fun _ _ _ _ _ _ us hl => match us, hl with | [_, _], _ => rfl) s us hl, F.kp⟩
theorem ft_p_table_of {K : PySem.W.Frag} {h : Heap} {mg : Str → Option Value} (X : K.In h) (G : h.Ns mainGlobals mg) (c : He.SaysD hfa hfn K) : FnText (ads K) prog K mg 1 p_table_of := by
  obtain ⟨fd, F⟩ := c.def_ 1 (d := h_p_table_of) rfl
  refine ⟨He.glo_ok X G (c.fact 1 (f := .glo "table_of") rfl), fd, ⟨"table_of", top 38, F, sc_p_table_of, mt_p_table_of⟩, fun s us hl => FunD.bindsA F (fun _ _ _ _ _ _ us hl => match us, hl with | [_, _, _], _ => rfl) s us hl, F.kp⟩
theorem ft_p_step_at {K : PySem.W.Frag} {h : Heap} {mg : Str → Option Value} (X : K.In h) (G : h.Ns mainGlobals mg) (c : He.SaysD hfa hfn K) : FnText (ads K) prog K mg 2 p_step_at := by
  obtain ⟨fd, F⟩ := c.def_ 2 (d := h_p_step_at) rfl
  refine ⟨He.glo_ok X G (c.fact 2 (f := .glo "step_at") rfl), fd, ⟨"step_at", top 39, F, sc_p_step_at, mt_p_step_at⟩, fun s us hl => FunD.bindsA F (fun _ _ _ _ _ _ us hl => match us, hl with | [_], _ => rfl) s us hl, F.kp⟩
theorem ft_p_next_by_table {K : PySem.W.Frag} {h : Heap} {mg : Str → Option Value} (X : K.In h) (G : h.Ns mainGlobals mg) (c : He.SaysD hfa hfn K) : FnText (ads K) prog K mg 3 p_next_by_table := by
  obtain ⟨fd, F⟩ := c.def_ 3 (d := h_p_next_by_table) rfl
  refine ⟨He.glo_ok X G (c.fact 3 (f := .glo "next_by_table") rfl), fd, ⟨"next_by_table", top 40, F, sc_p_next_by_table, mt_p_next_by_table⟩, fun s us hl => FunD.bindsA F (fun _ _ _ _ _ _ us hl => match us, hl with | [_, _, _, _], _ => rfl) s us hl, F.kp⟩
theorem ft_p_next_step {K : PySem.W.Frag} {h : Heap} {mg : Str → Option Value} (X : K.In h) (G : h.Ns mainGlobals mg) (c : He.SaysD hfa hfn K) : FnText (ads K) prog K mg 4 p_next_step := by
  obtain ⟨fd, F⟩ := c.def_ 4 (d := h_p_next_step) rfl
  refine ⟨He.glo_ok X G (c.fact 4 (f := .glo "next_step") rfl), fd, ⟨"next_step", top 42, F, sc_p_next_step, mt_p_next_step⟩, fun s us hl => FunD.bindsA F (fun _ _ _ _ _ _ us hl => match us, hl with | [_, _, _, _, _], _ => rfl) s us hl, F.kp⟩
theorem ft_p_law_hand {K : PySem.W.Frag} {h : Heap} {mg : Str → Option Value} (X : K.In h) (G : h.Ns mainGlobals mg) (c : He.SaysD hfa hfn K) : FnText (ads K) prog K mg 5 p_law_hand := by
  obtain ⟨fd, F⟩ := c.def_ 5 (d := h_p_law_hand) rfl
  refine ⟨He.glo_ok X G (c.fact 5 (f := .glo "_law_hand") rfl), fd, ⟨"_law_hand", top 44, F, sc_p_law_hand, mt_p_law_hand⟩, fun s us hl => FunD.bindsA F (fun _ _ _ _ _ _ us hl => match us, hl with | [_, _], _ => rfl) s us hl, F.kp⟩
theorem ft_p_law_take {K : PySem.W.Frag} {h : Heap} {mg : Str → Option Value} (X : K.In h) (G : h.Ns mainGlobals mg) (c : He.SaysD hfa hfn K) : FnText (ads K) prog K mg 6 p_law_take := by
  obtain ⟨fd, F⟩ := c.def_ 6 (d := h_p_law_take) rfl
  refine ⟨He.glo_ok X G (c.fact 6 (f := .glo "_law_take") rfl), fd, ⟨"_law_take", top 45, F, sc_p_law_take, mt_p_law_take⟩, fun s us hl => FunD.bindsA F (fun _ _ _ _ _ _ us hl => match us, hl with | [_, _], _ => rfl) s us hl, F.kp⟩
theorem ft_p_law_pick {K : PySem.W.Frag} {h : Heap} {mg : Str → Option Value} (X : K.In h) (G : h.Ns mainGlobals mg) (c : He.SaysD hfa hfn K) : FnText (ads K) prog K mg 7 p_law_pick := by
  obtain ⟨fd, F⟩ := c.def_ 7 (d := h_p_law_pick) rfl
  refine ⟨He.glo_ok X G (c.fact 7 (f := .glo "_law_pick") rfl), fd, ⟨"_law_pick", top 46, F, sc_p_law_pick, mt_p_law_pick⟩, fun s us hl => FunD.bindsA F (fun _ _ _ _ _ _ us hl => match us, hl with | [_, _], _ => rfl) s us hl, F.kp⟩
theorem ft_p_law_jumps {K : PySem.W.Frag} {h : Heap} {mg : Str → Option Value} (X : K.In h) (G : h.Ns mainGlobals mg) (c : He.SaysD hfa hfn K) : FnText (ads K) prog K mg 8 p_law_jumps := by
  obtain ⟨fd, F⟩ := c.def_ 8 (d := h_p_law_jumps) rfl
  refine ⟨He.glo_ok X G (c.fact 8 (f := .glo "_law_jumps") rfl), fd, ⟨"_law_jumps", top 47, F, sc_p_law_jumps, mt_p_law_jumps⟩, fun s us hl => FunD.bindsA F (fun _ _ _ _ _ _ us hl => match us, hl with | [_, _, _, _], _ => rfl) s us hl, F.kp⟩
theorem ft_p_law_next_row {K : PySem.W.Frag} {h : Heap} {mg : Str → Option Value} (X : K.In h) (G : h.Ns mainGlobals mg) (c : He.SaysD hfa hfn K) : FnText (ads K) prog K mg 9 p_law_next_row := by
  obtain ⟨fd, F⟩ := c.def_ 9 (d := h_p_law_next_row) rfl
  refine ⟨He.glo_ok X G (c.fact 9 (f := .glo "_law_next_row") rfl), fd, ⟨"_law_next_row", top 48, F, sc_p_law_next_row, mt_p_law_next_row⟩, fun s us hl => FunD.bindsA F (fun _ _ _ _ _ _ us hl => match us, hl with | [_, _, _, _], _ => rfl) s us hl, F.kp⟩
theorem ft_p_law_table {K : PySem.W.Frag} {h : Heap} {mg : Str → Option Value} (X : K.In h) (G : h.Ns mainGlobals mg) (c : He.SaysD hfa hfn K) : FnText (ads K) prog K mg 10 p_law_table := by
  obtain ⟨fd, F⟩ := c.def_ 10 (d := h_p_law_table) rfl
  refine ⟨He.glo_ok X G (c.fact 10 (f := .glo "_law_table") rfl), fd, ⟨"_law_table", top 49, F, sc_p_law_table, mt_p_law_table⟩, fun s us hl => FunD.bindsA F (fun _ _ _ _ _ _ us hl => match us, hl with | [_, _, _, _, _], _ => rfl) s us hl, F.kp⟩
theorem ft_p_law_bits {K : PySem.W.Frag} {h : Heap} {mg : Str → Option Value} (X : K.In h) (G : h.Ns mainGlobals mg) (c : He.SaysD hfa hfn K) : FnText (ads K) prog K mg 11 p_law_bits := by
  obtain ⟨fd, F⟩ := c.def_ 11 (d := h_p_law_bits) rfl
  refine ⟨He.glo_ok X G (c.fact 11 (f := .glo "_law_bits") rfl), fd, ⟨"_law_bits", top 50, F, sc_p_law_bits, mt_p_law_bits⟩, fun s us hl => FunD.bindsA F (fun _ _ _ _ _ _ us hl => match us, hl with | [_, _], _ => rfl) s us hl, F.kp⟩
theorem ft_p_law_tables {K : PySem.W.Frag} {h : Heap} {mg : Str → Option Value} (X : K.In h) (G : h.Ns mainGlobals mg) (c : He.SaysD hfa hfn K) : FnText (ads K) prog K mg 12 p_law_tables := by
  obtain ⟨fd, F⟩ := c.def_ 12 (d := h_p_law_tables) rfl
  refine ⟨He.glo_ok X G (c.fact 12 (f := .glo "_law_tables") rfl), fd, ⟨"_law_tables", top 51, F, sc_p_law_tables, mt_p_law_tables⟩, fun s us hl => FunD.bindsA F (fun _ _ _ _ _ _ us hl => match us, hl with | [_, _, _, _], _ => rfl) s us hl, F.kp⟩
theorem ft_p_law_due {K : PySem.W.Frag} {h : Heap} {mg : Str → Option Value} (X : K.In h) (G : h.Ns mainGlobals mg) (c : He.SaysD hfa hfn K) : FnText (ads K) prog K mg 13 p_law_due := by
  obtain ⟨fd, F⟩ := c.def_ 13 (d := h_p_law_due) rfl
  refine ⟨He.glo_ok X G (c.fact 13 (f := .glo "_law_due") rfl), fd, ⟨"_law_due", top 52, F, sc_p_law_due, mt_p_law_due⟩, fun s us hl => FunD.bindsA F (fun _ _ _ _ _ _ us hl => match us, hl with | [_], _ => rfl) s us hl, F.kp⟩
theorem ft_p_law_same {K : PySem.W.Frag} {h : Heap} {mg : Str → Option Value} (X : K.In h) (G : h.Ns mainGlobals mg) (c : He.SaysD hfa hfn K) : FnText (ads K) prog K mg 14 p_law_same := by
  obtain ⟨fd, F⟩ := c.def_ 14 (d := h_p_law_same) rfl
  refine ⟨He.glo_ok X G (c.fact 14 (f := .glo "_law_same") rfl), fd, ⟨"_law_same", top 53, F, sc_p_law_same, mt_p_law_same⟩, fun s us hl => FunD.bindsA F (fun _ _ _ _ _ _ us hl => match us, hl with | [_, _], _ => rfl) s us hl, F.kp⟩
theorem ft_p_law_right {K : PySem.W.Frag} {h : Heap} {mg : Str → Option Value} (X : K.In h) (G : h.Ns mainGlobals mg) (c : He.SaysD hfa hfn K) : FnText (ads K) prog K mg 15 p_law_right := by
  obtain ⟨fd, F⟩ := c.def_ 15 (d := h_p_law_right) rfl
  refine ⟨He.glo_ok X G (c.fact 15 (f := .glo "_law_right") rfl), fd, ⟨"_law_right", top 54, F, sc_p_law_right, mt_p_law_right⟩, fun s us hl => FunD.bindsA F (fun _ _ _ _ _ _ us hl => match us, hl with | [_, _, _, _], _ => rfl) s us hl, F.kp⟩
theorem ft_p_law {K : PySem.W.Frag} {h : Heap} {mg : Str → Option Value} (X : K.In h) (G : h.Ns mainGlobals mg) (c : He.SaysD hfa hfn K) : FnText (ads K) prog K mg 16 p_law := by
  obtain ⟨fd, F⟩ := c.def_ 16 (d := h_p_law) rfl
  refine ⟨He.glo_ok X G (c.fact 16 (f := .glo "law") rfl), fd, ⟨"law", top 55, F, sc_p_law, mt_p_law⟩, fun s us hl => FunD.bindsA F (fun _ _ _ _ _ _ us hl => match us, hl with | [_], _ => rfl) s us hl, F.kp⟩
theorem facts {K : PySem.W.Frag} {h : Heap} {mg : Str → Option Value} (X : K.In h) (G : h.Ns mainGlobals mg) (c : He.SaysD hfa hfn K) : Facts (ads K) prog (fun _ => .non) K mg where
  bl := fun x hx => by
    simp only [bltNames, List.mem_cons, List.not_mem_nil, or_false] at hx
    rcases hx with rfl | rfl | rfl | rfl | rfl | rfl | rfl | rfl | rfl | rfl | rfl | rfl | rfl | rfl | rfl | rfl | rfl | rfl | rfl | rfl
    · exact He.free_ok X G (c.fact 17 (f := .free "len") rfl)
    · exact He.free_ok X G (c.fact 18 (f := .free "tuple") rfl)
    · exact He.free_ok X G (c.fact 19 (f := .free "list") rfl)
    · exact He.free_ok X G (c.fact 20 (f := .free "str") rfl)
    · exact He.free_ok X G (c.fact 21 (f := .free "int") rfl)
    · exact He.free_ok X G (c.fact 22 (f := .free "bool") rfl)
    · exact He.free_ok X G (c.fact 23 (f := .free "min") rfl)
    · exact He.free_ok X G (c.fact 24 (f := .free "max") rfl)
    · exact He.free_ok X G (c.fact 25 (f := .free "abs") rfl)
    · exact He.free_ok X G (c.fact 26 (f := .free "all") rfl)
    · exact He.free_ok X G (c.fact 27 (f := .free "any") rfl)
    · exact He.free_ok X G (c.fact 28 (f := .free "sum") rfl)
    · exact He.free_ok X G (c.fact 29 (f := .free "isinstance") rfl)
    · exact He.free_ok X G (c.fact 30 (f := .free "range") rfl)
    · exact He.free_ok X G (c.fact 31 (f := .free "enumerate") rfl)
    · exact He.free_ok X G (c.fact 32 (f := .free "zip") rfl)
    · exact He.free_ok X G (c.fact 33 (f := .free "dict") rfl)
    · exact He.free_ok X G (c.fact 34 (f := .free "set") rfl)
    · exact He.free_ok X G (c.fact 35 (f := .free "sorted") rfl)
    · exact He.free_ok X G (c.fact 36 (f := .free "reversed") rfl)
  gc := fun i x m h => by simp [prog] at h
  fn := fun f d hd => by
    match f, hd with
    | 0, hd => cases (show d = p_row_behind from (Option.some.inj hd).symm); exact ft_p_row_behind X G c
    | 1, hd => cases (show d = p_table_of from (Option.some.inj hd).symm); exact ft_p_table_of X G c
    | 2, hd => cases (show d = p_step_at from (Option.some.inj hd).symm); exact ft_p_step_at X G c
    | 3, hd => cases (show d = p_next_by_table from (Option.some.inj hd).symm); exact ft_p_next_by_table X G c
    | 4, hd => cases (show d = p_next_step from (Option.some.inj hd).symm); exact ft_p_next_step X G c
    | 5, hd => cases (show d = p_law_hand from (Option.some.inj hd).symm); exact ft_p_law_hand X G c
    | 6, hd => cases (show d = p_law_take from (Option.some.inj hd).symm); exact ft_p_law_take X G c
    | 7, hd => cases (show d = p_law_pick from (Option.some.inj hd).symm); exact ft_p_law_pick X G c
    | 8, hd => cases (show d = p_law_jumps from (Option.some.inj hd).symm); exact ft_p_law_jumps X G c
    | 9, hd => cases (show d = p_law_next_row from (Option.some.inj hd).symm); exact ft_p_law_next_row X G c
    | 10, hd => cases (show d = p_law_table from (Option.some.inj hd).symm); exact ft_p_law_table X G c
    | 11, hd => cases (show d = p_law_bits from (Option.some.inj hd).symm); exact ft_p_law_bits X G c
    | 12, hd => cases (show d = p_law_tables from (Option.some.inj hd).symm); exact ft_p_law_tables X G c
    | 13, hd => cases (show d = p_law_due from (Option.some.inj hd).symm); exact ft_p_law_due X G c
    | 14, hd => cases (show d = p_law_same from (Option.some.inj hd).symm); exact ft_p_law_same X G c
    | 15, hd => cases (show d = p_law_right from (Option.some.inj hd).symm); exact ft_p_law_right X G c
    | 16, hd => cases (show d = p_law from (Option.some.inj hd).symm); exact ft_p_law X G c
    | n + 17, hd => simp [prog] at hd
end Wg
open PySem PySem.Spec PyProof.Rows
set_option linter.all false
set_option Elab.async false
set_option maxRecDepth 100000
set_option maxHeartbeats 4000000
namespace Wg
open L2
theorem ne_read_write : (([114, 101, 97, 100] : List Nat) = [119, 114, 105, 116, 101]) = False := by simp
theorem ne_read_end : (([114, 101, 97, 100] : List Nat) = [101, 110, 100]) = False := by simp
theorem ne_write_read : (([119, 114, 105, 116, 101] : List Nat) = [114, 101, 97, 100]) = False := by simp
theorem ne_write_end : (([119, 114, 105, 116, 101] : List Nat) = [101, 110, 100]) = False := by simp
theorem ne_end_read : (([101, 110, 100] : List Nat) = [114, 101, 97, 100]) = False := by simp
theorem ne_end_write : (([101, 110, 100] : List Nat) = [119, 114, 105, 116, 101]) = False := by simp
theorem ne_told_read : (([116, 111, 108, 100] : List Nat) = [114, 101, 97, 100]) = False := by simp
theorem ne_told_write : (([116, 111, 108, 100] : List Nat) = [119, 114, 105, 116, 101]) = False := by simp
theorem ne_told_end : (([116, 111, 108, 100] : List Nat) = [101, 110, 100]) = False := by simp
theorem ne_tables_once : (([116, 97, 98, 108, 101, 115] : List Nat) = [111, 110, 99, 101]) = False := by simp
theorem ne_tables_twice : (([116, 97, 98, 108, 101, 115] : List Nat) = [116, 119, 105, 99, 101]) = False := by simp
theorem ne_tables_handed : (([116, 97, 98, 108, 101, 115] : List Nat) = [104, 97, 110, 100, 101, 100]) = False := by simp
theorem ne_tables_signs : (([116, 97, 98, 108, 101, 115] : List Nat) = [115, 105, 103, 110, 115]) = False := by simp
theorem ne_tables_shared : (([116, 97, 98, 108, 101, 115] : List Nat) = [115, 104, 97, 114, 101, 100]) = False := by simp
theorem ne_look_put : (([108, 111, 111, 107] : List Nat) = [112, 117, 116]) = False := by simp
theorem ne_put_look : (([112, 117, 116] : List Nat) = [108, 111, 111, 107]) = False := by simp
abbrev S (n : Nat) (f : Nat) : FS := Sem prog (fun _ => .non) n f
def RdOk (c : M) : Prop := c = .non ∨ ∃ i : Int, c = .int i
def findJ (js : List (Int × Int)) (c : M) : Option Int := (js.find? fun p => decide (M.int p.1 = c)).map (·.2)
def behV : TR → M → Int
  | .rd _ js nx, c => (findJ js c).getD nx
  | .wr _ _ nx, _ => nx
  | .fin _, _ => 0
def FinE (hands : Int) (m : M) : Prop := EndE m ∨ ToldE hands m
def stepM : TR → M
  | .rd b _ _ => .tup [.str [114, 101, 97, 100], .tup [.str [98, 111, 120], .int b]]
  | .wr b c _ => .tup [.str [119, 114, 105, 116, 101], .tup [.str [98, 111, 120], .int b], .int c]
  | .fin (.tup [_, x]) => .tup [.str [116, 111, 108, 100], x]
  | .fin _ => .tup [.str [116, 111, 108, 100], .non]
theorem eq_rd {h : MH} {i : Int} {c : M} (hc : RdOk c) : eqV h (.int i) c = some (decide (M.int i = c)) := by
  rcases hc with rfl | ⟨j, rfl⟩ <;> simp [eqV, M.dt]
section
variable {n k : Nat} {h0 h : MH} {u : Int} {Q : QE} {X : Exn → MH → Prop}
theorem behind_ok {E : M → Prop} {rises : Bool} {boxes many at' : Int} {r : TR} {c : M} (hr : RowOk E rises boxes many at' r) (hf : r.isFin = false) (hc : RdOk c) (q : Q (.int (behV r c)) h) : S (n + 1) k_row_behind [r.m, c] h Q X := by
  refine ⟨p_row_behind, rfl, ?_⟩
  simp only [wF, p_row_behind, startE]
  cases r with
  | fin m => simp [TR.isFin] at hf
  | wr b c' nx =>
    simp only [TR.m, wSs, wS, wE, wEs, wAnd, wOr, wT, wAndT, wOrT, wO, wC, wI, setAll, w_add, w_adds, w_addt, w_addl, w_sub, w_mul, w_mull, w_div, w_mod, w_pow, w_shl, w_eq, w_ne, w_in, w_nin, w_lt, w_le, w_gt, w_ge, w_is, w_isn, w_eqi, w_eqs, w_eqb, w_tn, w_tb, w_ti, w_tt, w_it, w_if, w_is', w_il, w_st, w_ss, w_sl, w_lent, w_lenf, w_lens, w_lenl, w_tupt, w_tupl, w_lstt, w_lstl, w_stri, w_strs, w_inti, w_intb, w_min2, w_max2, w_abs, w_all, w_any, w_sum, w_join, w_app, w_ext, w_pop, w_tyj, w_mult, w_dict, w_dcopy, w_dkeys, w_dlen, w_dgetN, w_dget2, w_dget2s, w_tyd, w_zipt, w_zipl, w_tpq, w_key, w_keys, getD_new, w_tya, w_tye, w_typ, w_isin, w_isib, w_isii, w_isis, w_isit, w_ont, w_onf, w_ons, w_onl, w_rng1, w_rng2, w_nm, w_tp, Option.some.injEq, exists_eq_left', exists_eq_left, exists_eq, exists_eq', List.getElem?_cons_zero, List.getElem?_cons_succ, List.set_cons_zero, List.set_cons_succ, List.map_cons, List.map_nil, List.cons_append, List.nil_append, List.length_cons, List.length_nil, M.int.injEq, M.ref.injEq, M.str.injEq, M.bl.injEq, M.tup.injEq, List.replicate, Nat.reduceSub, Nat.reduceAdd, true_and, and_true, exists_and_left, exists_and_right, at_0, at_1, at_2, at_3, at_4, Nat.reduceLT, List.length_set, MO.lst.injEq, ix_0, ix_1, ix_2, beq_iff_eq, reduceCtorEq, if_true, if_false, ite_true, ite_false, getL_new, wipeE, Bool.false_eq_true, decide_true, decide_false, Bool.not_true, Bool.not_false, ne_read_write, ne_read_end, ne_write_read, ne_write_end, ne_end_read, ne_end_write, ne_told_read, ne_told_write, ne_told_end, ne_tables_once, ne_tables_twice, ne_tables_handed, ne_tables_signs, ne_tables_shared, ne_look_put, ne_put_look]
    exact q
  | rd b js nx =>
    simp only [TR.m, wSs, wS, wE, wEs, wAnd, wOr, wT, wAndT, wOrT, wO, wC, wI, setAll, w_add, w_adds, w_addt, w_addl, w_sub, w_mul, w_mull, w_div, w_mod, w_pow, w_shl, w_eq, w_ne, w_in, w_nin, w_lt, w_le, w_gt, w_ge, w_is, w_isn, w_eqi, w_eqs, w_eqb, w_tn, w_tb, w_ti, w_tt, w_it, w_if, w_is', w_il, w_st, w_ss, w_sl, w_lent, w_lenf, w_lens, w_lenl, w_tupt, w_tupl, w_lstt, w_lstl, w_stri, w_strs, w_inti, w_intb, w_min2, w_max2, w_abs, w_all, w_any, w_sum, w_join, w_app, w_ext, w_pop, w_tyj, w_mult, w_dict, w_dcopy, w_dkeys, w_dlen, w_dgetN, w_dget2, w_dget2s, w_tyd, w_zipt, w_zipl, w_tpq, w_key, w_keys, getD_new, w_tya, w_tye, w_typ, w_isin, w_isib, w_isii, w_isis, w_isit, w_ont, w_onf, w_ons, w_onl, w_rng1, w_rng2, w_nm, w_tp, Option.some.injEq, exists_eq_left', exists_eq_left, exists_eq, exists_eq', List.getElem?_cons_zero, List.getElem?_cons_succ, List.set_cons_zero, List.set_cons_succ, List.map_cons, List.map_nil, List.cons_append, List.nil_append, List.length_cons, List.length_nil, M.int.injEq, M.ref.injEq, M.str.injEq, M.bl.injEq, M.tup.injEq, List.replicate, Nat.reduceSub, Nat.reduceAdd, true_and, and_true, exists_and_left, exists_and_right, at_0, at_1, at_2, at_3, at_4, Nat.reduceLT, List.length_set, MO.lst.injEq, ix_0, ix_1, ix_2, beq_iff_eq, reduceCtorEq, if_true, if_false, ite_true, ite_false, getL_new, wipeE, Bool.false_eq_true, decide_true, decide_false, Bool.not_true, Bool.not_false, ne_read_write, ne_read_end, ne_write_read, ne_write_end, ne_end_read, ne_end_write, ne_told_read, ne_told_write, ne_told_end, ne_tables_once, ne_tables_twice, ne_tables_handed, ne_tables_signs, ne_tables_shared, ne_look_put, ne_put_look]
    have go : ∀ (ls : List (Int × Int)) (a b' : Option M), (findJ ls c = none → findJ js c = none) → (∀ x, findJ ls c = some x → findJ js c = some x) →
        forL (fun _ => True) (Tg.tp [2, 3]) (fun env h D X => wSs (fun _ => .non) (Sem prog (fun _ => .non) n) (.cons (.ife (.cmp .Eq (.var 2) (.var 1)) (.cons (.ret (.var 3)) .nil) .nil) .nil) env h D X) (fun x _ h' => X x h')
          { nx := fun env' h' => ∃ v, env'[0]? = some (some v) ∧ idxR v (.int 3) h' Q, rt := Q } (ls.map prM) [some (.tup [.str [114, 101, 97, 100], .int b, .tup (js.map prM), .int nx]), some c, a, b'] h := by
      intro ls
      induction ls with
      | nil =>
        intro a b' h1 h2
        refine ⟨trivial, ?_⟩
        simp only [wSs, wS, wE, wEs, wAnd, wOr, wT, wAndT, wOrT, wO, wC, wI, setAll, w_add, w_adds, w_addt, w_addl, w_sub, w_mul, w_mull, w_div, w_mod, w_pow, w_shl, w_eq, w_ne, w_in, w_nin, w_lt, w_le, w_gt, w_ge, w_is, w_isn, w_eqi, w_eqs, w_eqb, w_tn, w_tb, w_ti, w_tt, w_it, w_if, w_is', w_il, w_st, w_ss, w_sl, w_lent, w_lenf, w_lens, w_lenl, w_tupt, w_tupl, w_lstt, w_lstl, w_stri, w_strs, w_inti, w_intb, w_min2, w_max2, w_abs, w_all, w_any, w_sum, w_join, w_app, w_ext, w_pop, w_tyj, w_mult, w_dict, w_dcopy, w_dkeys, w_dlen, w_dgetN, w_dget2, w_dget2s, w_tyd, w_zipt, w_zipl, w_tpq, w_key, w_keys, getD_new, w_tya, w_tye, w_typ, w_isin, w_isib, w_isii, w_isis, w_isit, w_ont, w_onf, w_ons, w_onl, w_rng1, w_rng2, w_nm, w_tp, Option.some.injEq, exists_eq_left', exists_eq_left, exists_eq, exists_eq', List.getElem?_cons_zero, List.getElem?_cons_succ, List.set_cons_zero, List.set_cons_succ, List.map_cons, List.map_nil, List.cons_append, List.nil_append, List.length_cons, List.length_nil, M.int.injEq, M.ref.injEq, M.str.injEq, M.bl.injEq, M.tup.injEq, List.replicate, Nat.reduceSub, Nat.reduceAdd, true_and, and_true, exists_and_left, exists_and_right, at_0, at_1, at_2, at_3, at_4, Nat.reduceLT, List.length_set, MO.lst.injEq, ix_0, ix_1, ix_2, beq_iff_eq, reduceCtorEq, if_true, if_false, ite_true, ite_false, getL_new, wipeE, Bool.false_eq_true, decide_true, decide_false, Bool.not_true, Bool.not_false]
        have e := h1 rfl
        simp only [behV, e, Option.getD_none] at q
        exact q
      | cons p ls ih =>
        intro a b' h1 h2
        refine ⟨trivial, _, rfl, ?_⟩
        simp only [wSs, wS, wE, wEs, wAnd, wOr, wT, wAndT, wOrT, wO, wC, wI, setAll, w_add, w_adds, w_addt, w_addl, w_sub, w_mul, w_mull, w_div, w_mod, w_pow, w_shl, w_eq, w_ne, w_in, w_nin, w_lt, w_le, w_gt, w_ge, w_is, w_isn, w_eqi, w_eqs, w_eqb, w_tn, w_tb, w_ti, w_tt, w_it, w_if, w_is', w_il, w_st, w_ss, w_sl, w_lent, w_lenf, w_lens, w_lenl, w_tupt, w_tupl, w_lstt, w_lstl, w_stri, w_strs, w_inti, w_intb, w_min2, w_max2, w_abs, w_all, w_any, w_sum, w_join, w_app, w_ext, w_pop, w_tyj, w_mult, w_dict, w_dcopy, w_dkeys, w_dlen, w_dgetN, w_dget2, w_dget2s, w_tyd, w_zipt, w_zipl, w_tpq, w_key, w_keys, getD_new, w_tya, w_tye, w_typ, w_isin, w_isib, w_isii, w_isis, w_isit, w_ont, w_onf, w_ons, w_onl, w_rng1, w_rng2, w_nm, w_tp, Option.some.injEq, exists_eq_left', exists_eq_left, exists_eq, exists_eq', List.getElem?_cons_zero, List.getElem?_cons_succ, List.set_cons_zero, List.set_cons_succ, List.map_cons, List.map_nil, List.cons_append, List.nil_append, List.length_cons, List.length_nil, M.int.injEq, M.ref.injEq, M.str.injEq, M.bl.injEq, M.tup.injEq, List.replicate, Nat.reduceSub, Nat.reduceAdd, true_and, and_true, exists_and_left, exists_and_right, at_0, at_1, at_2, at_3, at_4, Nat.reduceLT, List.length_set, MO.lst.injEq, ix_0, ix_1, ix_2, beq_iff_eq, reduceCtorEq, if_true, if_false, ite_true, ite_false, getL_new, wipeE, Bool.false_eq_true, decide_true, decide_false, Bool.not_true, Bool.not_false, eq_rd hc]
        by_cases hp : M.int p.1 = c
        · have e : findJ js c = some p.2 := h2 _ (by simp [findJ, hp])
          simp only [behV, e, Option.getD_some] at q
          have hp' : (M.int p.1 = c) = True := eq_true hp
          simp only [wSs, wS, wE, wEs, wAnd, wOr, wT, wAndT, wOrT, wO, wC, wI, setAll, w_add, w_adds, w_addt, w_addl, w_sub, w_mul, w_mull, w_div, w_mod, w_pow, w_shl, w_eq, w_ne, w_in, w_nin, w_lt, w_le, w_gt, w_ge, w_is, w_isn, w_eqi, w_eqs, w_eqb, w_tn, w_tb, w_ti, w_tt, w_it, w_if, w_is', w_il, w_st, w_ss, w_sl, w_lent, w_lenf, w_lens, w_lenl, w_tupt, w_tupl, w_lstt, w_lstl, w_stri, w_strs, w_inti, w_intb, w_min2, w_max2, w_abs, w_all, w_any, w_sum, w_join, w_app, w_ext, w_pop, w_tyj, w_mult, w_dict, w_dcopy, w_dkeys, w_dlen, w_dgetN, w_dget2, w_dget2s, w_tyd, w_zipt, w_zipl, w_tpq, w_key, w_keys, getD_new, w_tya, w_tye, w_typ, w_isin, w_isib, w_isii, w_isis, w_isit, w_ont, w_onf, w_ons, w_onl, w_rng1, w_rng2, w_nm, w_tp, Option.some.injEq, exists_eq_left', exists_eq_left, exists_eq, exists_eq', List.getElem?_cons_zero, List.getElem?_cons_succ, List.set_cons_zero, List.set_cons_succ, List.map_cons, List.map_nil, List.cons_append, List.nil_append, List.length_cons, List.length_nil, M.int.injEq, M.ref.injEq, M.str.injEq, M.bl.injEq, M.tup.injEq, List.replicate, Nat.reduceSub, Nat.reduceAdd, true_and, and_true, exists_and_left, exists_and_right, at_0, at_1, at_2, at_3, at_4, Nat.reduceLT, List.length_set, MO.lst.injEq, ix_0, ix_1, ix_2, beq_iff_eq, reduceCtorEq, if_true, if_false, ite_true, ite_false, getL_new, wipeE, Bool.false_eq_true, decide_true, decide_false, Bool.not_true, Bool.not_false, hp']
          exact q
        · have e : findJ (p :: ls) c = findJ ls c := by simp [findJ, hp]
          have hp' : (M.int p.1 = c) = False := eq_false hp
          simp only [wSs, wS, wE, wEs, wAnd, wOr, wT, wAndT, wOrT, wO, wC, wI, setAll, w_add, w_adds, w_addt, w_addl, w_sub, w_mul, w_mull, w_div, w_mod, w_pow, w_shl, w_eq, w_ne, w_in, w_nin, w_lt, w_le, w_gt, w_ge, w_is, w_isn, w_eqi, w_eqs, w_eqb, w_tn, w_tb, w_ti, w_tt, w_it, w_if, w_is', w_il, w_st, w_ss, w_sl, w_lent, w_lenf, w_lens, w_lenl, w_tupt, w_tupl, w_lstt, w_lstl, w_stri, w_strs, w_inti, w_intb, w_min2, w_max2, w_abs, w_all, w_any, w_sum, w_join, w_app, w_ext, w_pop, w_tyj, w_mult, w_dict, w_dcopy, w_dkeys, w_dlen, w_dgetN, w_dget2, w_dget2s, w_tyd, w_zipt, w_zipl, w_tpq, w_key, w_keys, getD_new, w_tya, w_tye, w_typ, w_isin, w_isib, w_isii, w_isis, w_isit, w_ont, w_onf, w_ons, w_onl, w_rng1, w_rng2, w_nm, w_tp, Option.some.injEq, exists_eq_left', exists_eq_left, exists_eq, exists_eq', List.getElem?_cons_zero, List.getElem?_cons_succ, List.set_cons_zero, List.set_cons_succ, List.map_cons, List.map_nil, List.cons_append, List.nil_append, List.length_cons, List.length_nil, M.int.injEq, M.ref.injEq, M.str.injEq, M.bl.injEq, M.tup.injEq, List.replicate, Nat.reduceSub, Nat.reduceAdd, true_and, and_true, exists_and_left, exists_and_right, at_0, at_1, at_2, at_3, at_4, Nat.reduceLT, List.length_set, MO.lst.injEq, ix_0, ix_1, ix_2, beq_iff_eq, reduceCtorEq, if_true, if_false, ite_true, ite_false, getL_new, wipeE, Bool.false_eq_true, decide_true, decide_false, Bool.not_true, Bool.not_false, hp']
          rw [e] at h1 h2
          exact ih _ _ h1 h2
    have z := go js none none id (fun _ e => e)
    simp only [wSs, wS, wE, wEs, wAnd, wOr, wT, wAndT, wOrT, wO, wC, wI, setAll, w_add, w_adds, w_addt, w_addl, w_sub, w_mul, w_mull, w_div, w_mod, w_pow, w_shl, w_eq, w_ne, w_in, w_nin, w_lt, w_le, w_gt, w_ge, w_is, w_isn, w_eqi, w_eqs, w_eqb, w_tn, w_tb, w_ti, w_tt, w_it, w_if, w_is', w_il, w_st, w_ss, w_sl, w_lent, w_lenf, w_lens, w_lenl, w_tupt, w_tupl, w_lstt, w_lstl, w_stri, w_strs, w_inti, w_intb, w_min2, w_max2, w_abs, w_all, w_any, w_sum, w_join, w_app, w_ext, w_pop, w_tyj, w_mult, w_dict, w_dcopy, w_dkeys, w_dlen, w_dgetN, w_dget2, w_dget2s, w_tyd, w_zipt, w_zipl, w_tpq, w_key, w_keys, getD_new, w_tya, w_tye, w_typ, w_isin, w_isib, w_isii, w_isis, w_isit, w_ont, w_onf, w_ons, w_onl, w_rng1, w_rng2, w_nm, w_tp, Option.some.injEq, exists_eq_left', exists_eq_left, exists_eq, exists_eq', List.getElem?_cons_zero, List.getElem?_cons_succ, List.set_cons_zero, List.set_cons_succ, List.map_cons, List.map_nil, List.cons_append, List.nil_append, List.length_cons, List.length_nil, M.int.injEq, M.ref.injEq, M.str.injEq, M.bl.injEq, M.tup.injEq, List.replicate, Nat.reduceSub, Nat.reduceAdd, true_and, and_true, exists_and_left, exists_and_right, at_0, at_1, at_2, at_3, at_4, Nat.reduceLT, List.length_set, MO.lst.injEq, ix_0, ix_1, ix_2, beq_iff_eq, reduceCtorEq, if_true, if_false, ite_true, ite_false, getL_new, wipeE, Bool.false_eq_true, decide_true, decide_false, Bool.not_true, Bool.not_false] at z
    exact z
theorem step_ok {rises : Bool} {boxes many at' hands : Int} {r : TR} (hr : RowOk (FinE hands) rises boxes many at' r) (q : Q (stepM r) h) : S (n + 1) k_step_at [r.m] h Q X := by
  refine ⟨p_step_at, rfl, ?_⟩
  simp only [wF, p_step_at, startE]
  cases r with
  | fin m =>
    rcases hr with rfl | ⟨bs, rfl, hb⟩
    · simp only [TR.m, wSs, wS, wE, wEs, wAnd, wOr, wT, wAndT, wOrT, wO, wC, wI, setAll, w_add, w_adds, w_addt, w_addl, w_sub, w_mul, w_mull, w_div, w_mod, w_pow, w_shl, w_eq, w_ne, w_in, w_nin, w_lt, w_le, w_gt, w_ge, w_is, w_isn, w_eqi, w_eqs, w_eqb, w_tn, w_tb, w_ti, w_tt, w_it, w_if, w_is', w_il, w_st, w_ss, w_sl, w_lent, w_lenf, w_lens, w_lenl, w_tupt, w_tupl, w_lstt, w_lstl, w_stri, w_strs, w_inti, w_intb, w_min2, w_max2, w_abs, w_all, w_any, w_sum, w_join, w_app, w_ext, w_pop, w_tyj, w_mult, w_dict, w_dcopy, w_dkeys, w_dlen, w_dgetN, w_dget2, w_dget2s, w_tyd, w_zipt, w_zipl, w_tpq, w_key, w_keys, getD_new, w_tya, w_tye, w_typ, w_isin, w_isib, w_isii, w_isis, w_isit, w_ont, w_onf, w_ons, w_onl, w_rng1, w_rng2, w_nm, w_tp, Option.some.injEq, exists_eq_left', exists_eq_left, exists_eq, exists_eq', List.getElem?_cons_zero, List.getElem?_cons_succ, List.set_cons_zero, List.set_cons_succ, List.map_cons, List.map_nil, List.cons_append, List.nil_append, List.length_cons, List.length_nil, M.int.injEq, M.ref.injEq, M.str.injEq, M.bl.injEq, M.tup.injEq, List.replicate, Nat.reduceSub, Nat.reduceAdd, true_and, and_true, exists_and_left, exists_and_right, at_0, at_1, at_2, at_3, at_4, Nat.reduceLT, List.length_set, MO.lst.injEq, ix_0, ix_1, ix_2, beq_iff_eq, reduceCtorEq, if_true, if_false, ite_true, ite_false, getL_new, wipeE, Bool.false_eq_true, decide_true, decide_false, Bool.not_true, Bool.not_false, ne_read_write, ne_read_end, ne_write_read, ne_write_end, ne_end_read, ne_end_write, ne_told_read, ne_told_write, ne_told_end, ne_tables_once, ne_tables_twice, ne_tables_handed, ne_tables_signs, ne_tables_shared, ne_look_put, ne_put_look]
      exact q
    · simp only [TR.m, wSs, wS, wE, wEs, wAnd, wOr, wT, wAndT, wOrT, wO, wC, wI, setAll, w_add, w_adds, w_addt, w_addl, w_sub, w_mul, w_mull, w_div, w_mod, w_pow, w_shl, w_eq, w_ne, w_in, w_nin, w_lt, w_le, w_gt, w_ge, w_is, w_isn, w_eqi, w_eqs, w_eqb, w_tn, w_tb, w_ti, w_tt, w_it, w_if, w_is', w_il, w_st, w_ss, w_sl, w_lent, w_lenf, w_lens, w_lenl, w_tupt, w_tupl, w_lstt, w_lstl, w_stri, w_strs, w_inti, w_intb, w_min2, w_max2, w_abs, w_all, w_any, w_sum, w_join, w_app, w_ext, w_pop, w_tyj, w_mult, w_dict, w_dcopy, w_dkeys, w_dlen, w_dgetN, w_dget2, w_dget2s, w_tyd, w_zipt, w_zipl, w_tpq, w_key, w_keys, getD_new, w_tya, w_tye, w_typ, w_isin, w_isib, w_isii, w_isis, w_isit, w_ont, w_onf, w_ons, w_onl, w_rng1, w_rng2, w_nm, w_tp, Option.some.injEq, exists_eq_left', exists_eq_left, exists_eq, exists_eq', List.getElem?_cons_zero, List.getElem?_cons_succ, List.set_cons_zero, List.set_cons_succ, List.map_cons, List.map_nil, List.cons_append, List.nil_append, List.length_cons, List.length_nil, M.int.injEq, M.ref.injEq, M.str.injEq, M.bl.injEq, M.tup.injEq, List.replicate, Nat.reduceSub, Nat.reduceAdd, true_and, and_true, exists_and_left, exists_and_right, at_0, at_1, at_2, at_3, at_4, Nat.reduceLT, List.length_set, MO.lst.injEq, ix_0, ix_1, ix_2, beq_iff_eq, reduceCtorEq, if_true, if_false, ite_true, ite_false, getL_new, wipeE, Bool.false_eq_true, decide_true, decide_false, Bool.not_true, Bool.not_false, ne_read_write, ne_read_end, ne_write_read, ne_write_end, ne_end_read, ne_end_write, ne_told_read, ne_told_write, ne_told_end, ne_tables_once, ne_tables_twice, ne_tables_handed, ne_tables_signs, ne_tables_shared, ne_look_put, ne_put_look]
      exact q
  | wr b c' nx =>
    simp only [TR.m, wSs, wS, wE, wEs, wAnd, wOr, wT, wAndT, wOrT, wO, wC, wI, setAll, w_add, w_adds, w_addt, w_addl, w_sub, w_mul, w_mull, w_div, w_mod, w_pow, w_shl, w_eq, w_ne, w_in, w_nin, w_lt, w_le, w_gt, w_ge, w_is, w_isn, w_eqi, w_eqs, w_eqb, w_tn, w_tb, w_ti, w_tt, w_it, w_if, w_is', w_il, w_st, w_ss, w_sl, w_lent, w_lenf, w_lens, w_lenl, w_tupt, w_tupl, w_lstt, w_lstl, w_stri, w_strs, w_inti, w_intb, w_min2, w_max2, w_abs, w_all, w_any, w_sum, w_join, w_app, w_ext, w_pop, w_tyj, w_mult, w_dict, w_dcopy, w_dkeys, w_dlen, w_dgetN, w_dget2, w_dget2s, w_tyd, w_zipt, w_zipl, w_tpq, w_key, w_keys, getD_new, w_tya, w_tye, w_typ, w_isin, w_isib, w_isii, w_isis, w_isit, w_ont, w_onf, w_ons, w_onl, w_rng1, w_rng2, w_nm, w_tp, Option.some.injEq, exists_eq_left', exists_eq_left, exists_eq, exists_eq', List.getElem?_cons_zero, List.getElem?_cons_succ, List.set_cons_zero, List.set_cons_succ, List.map_cons, List.map_nil, List.cons_append, List.nil_append, List.length_cons, List.length_nil, M.int.injEq, M.ref.injEq, M.str.injEq, M.bl.injEq, M.tup.injEq, List.replicate, Nat.reduceSub, Nat.reduceAdd, true_and, and_true, exists_and_left, exists_and_right, at_0, at_1, at_2, at_3, at_4, Nat.reduceLT, List.length_set, MO.lst.injEq, ix_0, ix_1, ix_2, beq_iff_eq, reduceCtorEq, if_true, if_false, ite_true, ite_false, getL_new, wipeE, Bool.false_eq_true, decide_true, decide_false, Bool.not_true, Bool.not_false, ne_read_write, ne_read_end, ne_write_read, ne_write_end, ne_end_read, ne_end_write, ne_told_read, ne_told_write, ne_told_end, ne_tables_once, ne_tables_twice, ne_tables_handed, ne_tables_signs, ne_tables_shared, ne_look_put, ne_put_look]
    exact q
  | rd b js nx =>
    simp only [TR.m, wSs, wS, wE, wEs, wAnd, wOr, wT, wAndT, wOrT, wO, wC, wI, setAll, w_add, w_adds, w_addt, w_addl, w_sub, w_mul, w_mull, w_div, w_mod, w_pow, w_shl, w_eq, w_ne, w_in, w_nin, w_lt, w_le, w_gt, w_ge, w_is, w_isn, w_eqi, w_eqs, w_eqb, w_tn, w_tb, w_ti, w_tt, w_it, w_if, w_is', w_il, w_st, w_ss, w_sl, w_lent, w_lenf, w_lens, w_lenl, w_tupt, w_tupl, w_lstt, w_lstl, w_stri, w_strs, w_inti, w_intb, w_min2, w_max2, w_abs, w_all, w_any, w_sum, w_join, w_app, w_ext, w_pop, w_tyj, w_mult, w_dict, w_dcopy, w_dkeys, w_dlen, w_dgetN, w_dget2, w_dget2s, w_tyd, w_zipt, w_zipl, w_tpq, w_key, w_keys, getD_new, w_tya, w_tye, w_typ, w_isin, w_isib, w_isii, w_isis, w_isit, w_ont, w_onf, w_ons, w_onl, w_rng1, w_rng2, w_nm, w_tp, Option.some.injEq, exists_eq_left', exists_eq_left, exists_eq, exists_eq', List.getElem?_cons_zero, List.getElem?_cons_succ, List.set_cons_zero, List.set_cons_succ, List.map_cons, List.map_nil, List.cons_append, List.nil_append, List.length_cons, List.length_nil, M.int.injEq, M.ref.injEq, M.str.injEq, M.bl.injEq, M.tup.injEq, List.replicate, Nat.reduceSub, Nat.reduceAdd, true_and, and_true, exists_and_left, exists_and_right, at_0, at_1, at_2, at_3, at_4, Nat.reduceLT, List.length_set, MO.lst.injEq, ix_0, ix_1, ix_2, beq_iff_eq, reduceCtorEq, if_true, if_false, ite_true, ite_false, getL_new, wipeE, Bool.false_eq_true, decide_true, decide_false, Bool.not_true, Bool.not_false, ne_read_write, ne_read_end, ne_write_read, ne_write_end, ne_end_read, ne_end_write, ne_told_read, ne_told_write, ne_told_end, ne_tables_once, ne_tables_twice, ne_tables_handed, ne_tables_signs, ne_tables_shared, ne_look_put, ne_put_look]
    exact q
theorem due_ok {rises : Bool} {boxes many at' hands : Int} {r : TR} (hr : RowOk (FinE hands) rises boxes many at' r) (q : Q (stepM r) h) : S (n + 1) k_law_due [r.m] h Q X := by
  refine ⟨p_law_due, rfl, ?_⟩
  have hsz := sizeL
  simp only [wF, p_law_due, startE]
  cases r with
  | fin m =>
    rcases hr with rfl | ⟨bs, rfl, hb⟩
    · simp only [TR.m, wSs, wS, wE, wEs, wAnd, wOr, wT, wAndT, wOrT, wO, wC, wI, setAll, w_add, w_adds, w_addt, w_addl, w_sub, w_mul, w_mull, w_div, w_mod, w_pow, w_shl, w_eq, w_ne, w_in, w_nin, w_lt, w_le, w_gt, w_ge, w_is, w_isn, w_eqi, w_eqs, w_eqb, w_tn, w_tb, w_ti, w_tt, w_it, w_if, w_is', w_il, w_st, w_ss, w_sl, w_lent, w_lenf, w_lens, w_lenl, w_tupt, w_tupl, w_lstt, w_lstl, w_stri, w_strs, w_inti, w_intb, w_min2, w_max2, w_abs, w_all, w_any, w_sum, w_join, w_app, w_ext, w_pop, w_tyj, w_mult, w_dict, w_dcopy, w_dkeys, w_dlen, w_dgetN, w_dget2, w_dget2s, w_tyd, w_zipt, w_zipl, w_tpq, w_key, w_keys, getD_new, w_tya, w_tye, w_typ, w_isin, w_isib, w_isii, w_isis, w_isit, w_ont, w_onf, w_ons, w_onl, w_rng1, w_rng2, w_nm, w_tp, Option.some.injEq, exists_eq_left', exists_eq_left, exists_eq, exists_eq', List.getElem?_cons_zero, List.getElem?_cons_succ, List.set_cons_zero, List.set_cons_succ, List.map_cons, List.map_nil, List.cons_append, List.nil_append, List.length_cons, List.length_nil, M.int.injEq, M.ref.injEq, M.str.injEq, M.bl.injEq, M.tup.injEq, List.replicate, Nat.reduceSub, Nat.reduceAdd, true_and, and_true, exists_and_left, exists_and_right, at_0, at_1, at_2, at_3, at_4, Nat.reduceLT, List.length_set, MO.lst.injEq, ix_0, ix_1, ix_2, beq_iff_eq, reduceCtorEq, if_true, if_false, ite_true, ite_false, getL_new, wipeE, Bool.false_eq_true, decide_true, decide_false, Bool.not_true, Bool.not_false, ne_read_write, ne_read_end, ne_write_read, ne_write_end, ne_end_read, ne_end_write, ne_told_read, ne_told_write, ne_told_end, ne_tables_once, ne_tables_twice, ne_tables_handed, ne_tables_signs, ne_tables_shared, ne_look_put, ne_put_look]
      exact ⟨by omega, q⟩
    · simp only [TR.m, wSs, wS, wE, wEs, wAnd, wOr, wT, wAndT, wOrT, wO, wC, wI, setAll, w_add, w_adds, w_addt, w_addl, w_sub, w_mul, w_mull, w_div, w_mod, w_pow, w_shl, w_eq, w_ne, w_in, w_nin, w_lt, w_le, w_gt, w_ge, w_is, w_isn, w_eqi, w_eqs, w_eqb, w_tn, w_tb, w_ti, w_tt, w_it, w_if, w_is', w_il, w_st, w_ss, w_sl, w_lent, w_lenf, w_lens, w_lenl, w_tupt, w_tupl, w_lstt, w_lstl, w_stri, w_strs, w_inti, w_intb, w_min2, w_max2, w_abs, w_all, w_any, w_sum, w_join, w_app, w_ext, w_pop, w_tyj, w_mult, w_dict, w_dcopy, w_dkeys, w_dlen, w_dgetN, w_dget2, w_dget2s, w_tyd, w_zipt, w_zipl, w_tpq, w_key, w_keys, getD_new, w_tya, w_tye, w_typ, w_isin, w_isib, w_isii, w_isis, w_isit, w_ont, w_onf, w_ons, w_onl, w_rng1, w_rng2, w_nm, w_tp, Option.some.injEq, exists_eq_left', exists_eq_left, exists_eq, exists_eq', List.getElem?_cons_zero, List.getElem?_cons_succ, List.set_cons_zero, List.set_cons_succ, List.map_cons, List.map_nil, List.cons_append, List.nil_append, List.length_cons, List.length_nil, M.int.injEq, M.ref.injEq, M.str.injEq, M.bl.injEq, M.tup.injEq, List.replicate, Nat.reduceSub, Nat.reduceAdd, true_and, and_true, exists_and_left, exists_and_right, at_0, at_1, at_2, at_3, at_4, Nat.reduceLT, List.length_set, MO.lst.injEq, ix_0, ix_1, ix_2, beq_iff_eq, reduceCtorEq, if_true, if_false, ite_true, ite_false, getL_new, wipeE, Bool.false_eq_true, decide_true, decide_false, Bool.not_true, Bool.not_false, ne_read_write, ne_read_end, ne_write_read, ne_write_end, ne_end_read, ne_end_write, ne_told_read, ne_told_write, ne_told_end, ne_tables_once, ne_tables_twice, ne_tables_handed, ne_tables_signs, ne_tables_shared, ne_look_put, ne_put_look]
      exact ⟨by omega, q⟩
  | wr b c' nx =>
    simp only [TR.m, wSs, wS, wE, wEs, wAnd, wOr, wT, wAndT, wOrT, wO, wC, wI, setAll, w_add, w_adds, w_addt, w_addl, w_sub, w_mul, w_mull, w_div, w_mod, w_pow, w_shl, w_eq, w_ne, w_in, w_nin, w_lt, w_le, w_gt, w_ge, w_is, w_isn, w_eqi, w_eqs, w_eqb, w_tn, w_tb, w_ti, w_tt, w_it, w_if, w_is', w_il, w_st, w_ss, w_sl, w_lent, w_lenf, w_lens, w_lenl, w_tupt, w_tupl, w_lstt, w_lstl, w_stri, w_strs, w_inti, w_intb, w_min2, w_max2, w_abs, w_all, w_any, w_sum, w_join, w_app, w_ext, w_pop, w_tyj, w_mult, w_dict, w_dcopy, w_dkeys, w_dlen, w_dgetN, w_dget2, w_dget2s, w_tyd, w_zipt, w_zipl, w_tpq, w_key, w_keys, getD_new, w_tya, w_tye, w_typ, w_isin, w_isib, w_isii, w_isis, w_isit, w_ont, w_onf, w_ons, w_onl, w_rng1, w_rng2, w_nm, w_tp, Option.some.injEq, exists_eq_left', exists_eq_left, exists_eq, exists_eq', List.getElem?_cons_zero, List.getElem?_cons_succ, List.set_cons_zero, List.set_cons_succ, List.map_cons, List.map_nil, List.cons_append, List.nil_append, List.length_cons, List.length_nil, M.int.injEq, M.ref.injEq, M.str.injEq, M.bl.injEq, M.tup.injEq, List.replicate, Nat.reduceSub, Nat.reduceAdd, true_and, and_true, exists_and_left, exists_and_right, at_0, at_1, at_2, at_3, at_4, Nat.reduceLT, List.length_set, MO.lst.injEq, ix_0, ix_1, ix_2, beq_iff_eq, reduceCtorEq, if_true, if_false, ite_true, ite_false, getL_new, wipeE, Bool.false_eq_true, decide_true, decide_false, Bool.not_true, Bool.not_false, ne_read_write, ne_read_end, ne_write_read, ne_write_end, ne_end_read, ne_end_write, ne_told_read, ne_told_write, ne_told_end, ne_tables_once, ne_tables_twice, ne_tables_handed, ne_tables_signs, ne_tables_shared, ne_look_put, ne_put_look]
    exact q
  | rd b js nx =>
    simp only [TR.m, wSs, wS, wE, wEs, wAnd, wOr, wT, wAndT, wOrT, wO, wC, wI, setAll, w_add, w_adds, w_addt, w_addl, w_sub, w_mul, w_mull, w_div, w_mod, w_pow, w_shl, w_eq, w_ne, w_in, w_nin, w_lt, w_le, w_gt, w_ge, w_is, w_isn, w_eqi, w_eqs, w_eqb, w_tn, w_tb, w_ti, w_tt, w_it, w_if, w_is', w_il, w_st, w_ss, w_sl, w_lent, w_lenf, w_lens, w_lenl, w_tupt, w_tupl, w_lstt, w_lstl, w_stri, w_strs, w_inti, w_intb, w_min2, w_max2, w_abs, w_all, w_any, w_sum, w_join, w_app, w_ext, w_pop, w_tyj, w_mult, w_dict, w_dcopy, w_dkeys, w_dlen, w_dgetN, w_dget2, w_dget2s, w_tyd, w_zipt, w_zipl, w_tpq, w_key, w_keys, getD_new, w_tya, w_tye, w_typ, w_isin, w_isib, w_isii, w_isis, w_isit, w_ont, w_onf, w_ons, w_onl, w_rng1, w_rng2, w_nm, w_tp, Option.some.injEq, exists_eq_left', exists_eq_left, exists_eq, exists_eq', List.getElem?_cons_zero, List.getElem?_cons_succ, List.set_cons_zero, List.set_cons_succ, List.map_cons, List.map_nil, List.cons_append, List.nil_append, List.length_cons, List.length_nil, M.int.injEq, M.ref.injEq, M.str.injEq, M.bl.injEq, M.tup.injEq, List.replicate, Nat.reduceSub, Nat.reduceAdd, true_and, and_true, exists_and_left, exists_and_right, at_0, at_1, at_2, at_3, at_4, Nat.reduceLT, List.length_set, MO.lst.injEq, ix_0, ix_1, ix_2, beq_iff_eq, reduceCtorEq, if_true, if_false, ite_true, ite_false, getL_new, wipeE, Bool.false_eq_true, decide_true, decide_false, Bool.not_true, Bool.not_false, ne_read_write, ne_read_end, ne_write_read, ne_write_end, ne_end_read, ne_end_write, ne_told_read, ne_told_write, ne_told_end, ne_tables_once, ne_tables_twice, ne_tables_handed, ne_tables_signs, ne_tables_shared, ne_look_put, ne_put_look]
    exact q
/-- what _law_same takes as the same as itself -/
def SV : Nat → M → Prop
  | _, .int _ => True
  | _, .non => True
  | _, .str _ => True
  | n + 1, .tup xs => xs.length ≤ 1000 ∧ ∀ x ∈ xs, SV n x
  | _, _ => False
theorem bls_true {α : Type} : ∀ xs : List α, bls (xs.map fun _ => M.bl true) = some (xs.map fun _ => true)
  | [] => rfl
  | x :: xs => by simp [bls, bls_true xs]
theorem zip_self : ∀ xs : List M, zipL xs xs = xs.map fun x => M.tuq [x, x]
  | [] => rfl
  | x :: xs => by
    have := zip_self xs
    simp only [zipL] at this ⊢
    simp [this]
theorem same_ok : ∀ (n m : Nat) (v : M) (h : MH) (Q : QE) (X : Exn → MH → Prop), SV n v → (∀ h', Gro h h' → Q (.bl true) h') → S (m + n + 1) k_law_same [v, v] h Q X
  | n, m, .int i, h, Q, X, hv, q => by
    refine ⟨p_law_same, rfl, ?_⟩
    simp only [wF, p_law_same, startE]
    simp only [wSs, wS, wE, wEs, wAnd, wOr, wT, wAndT, wOrT, wO, wC, wI, setAll, w_add, w_adds, w_addt, w_addl, w_sub, w_mul, w_mull, w_div, w_mod, w_pow, w_shl, w_eq, w_ne, w_in, w_nin, w_lt, w_le, w_gt, w_ge, w_is, w_isn, w_eqi, w_eqs, w_eqb, w_tn, w_tb, w_ti, w_tt, w_it, w_if, w_is', w_il, w_st, w_ss, w_sl, w_lent, w_lenf, w_lens, w_lenl, w_tupt, w_tupl, w_lstt, w_lstl, w_stri, w_strs, w_inti, w_intb, w_min2, w_max2, w_abs, w_all, w_any, w_sum, w_join, w_app, w_ext, w_pop, w_tyj, w_mult, w_dict, w_dcopy, w_dkeys, w_dlen, w_dgetN, w_dget2, w_dget2s, w_tyd, w_zipt, w_zipl, w_tpq, w_key, w_keys, getD_new, w_tya, w_tye, w_typ, w_isin, w_isib, w_isii, w_isis, w_isit, w_ont, w_onf, w_ons, w_onl, w_rng1, w_rng2, w_nm, w_tp, Option.some.injEq, exists_eq_left', exists_eq_left, exists_eq, exists_eq', List.getElem?_cons_zero, List.getElem?_cons_succ, List.set_cons_zero, List.set_cons_succ, List.map_cons, List.map_nil, List.cons_append, List.nil_append, List.length_cons, List.length_nil, M.int.injEq, M.ref.injEq, M.str.injEq, M.bl.injEq, M.tup.injEq, List.replicate, Nat.reduceSub, Nat.reduceAdd, true_and, and_true, exists_and_left, exists_and_right, at_0, at_1, at_2, at_3, at_4, Nat.reduceLT, List.length_set, MO.lst.injEq, ix_0, ix_1, ix_2, beq_iff_eq, reduceCtorEq, if_true, if_false, ite_true, ite_false, getL_new, wipeE, Bool.false_eq_true, decide_true, decide_false, Bool.not_true, Bool.not_false]
    rw [if_pos (by decide)]
    exact q h (.refl h)
  | n, m, .non, h, Q, X, hv, q => by
    refine ⟨p_law_same, rfl, ?_⟩
    simp only [wF, p_law_same, startE]
    simp only [wSs, wS, wE, wEs, wAnd, wOr, wT, wAndT, wOrT, wO, wC, wI, setAll, w_add, w_adds, w_addt, w_addl, w_sub, w_mul, w_mull, w_div, w_mod, w_pow, w_shl, w_eq, w_ne, w_in, w_nin, w_lt, w_le, w_gt, w_ge, w_is, w_isn, w_eqi, w_eqs, w_eqb, w_tn, w_tb, w_ti, w_tt, w_it, w_if, w_is', w_il, w_st, w_ss, w_sl, w_lent, w_lenf, w_lens, w_lenl, w_tupt, w_tupl, w_lstt, w_lstl, w_stri, w_strs, w_inti, w_intb, w_min2, w_max2, w_abs, w_all, w_any, w_sum, w_join, w_app, w_ext, w_pop, w_tyj, w_mult, w_dict, w_dcopy, w_dkeys, w_dlen, w_dgetN, w_dget2, w_dget2s, w_tyd, w_zipt, w_zipl, w_tpq, w_key, w_keys, getD_new, w_tya, w_tye, w_typ, w_isin, w_isib, w_isii, w_isis, w_isit, w_ont, w_onf, w_ons, w_onl, w_rng1, w_rng2, w_nm, w_tp, Option.some.injEq, exists_eq_left', exists_eq_left, exists_eq, exists_eq', List.getElem?_cons_zero, List.getElem?_cons_succ, List.set_cons_zero, List.set_cons_succ, List.map_cons, List.map_nil, List.cons_append, List.nil_append, List.length_cons, List.length_nil, M.int.injEq, M.ref.injEq, M.str.injEq, M.bl.injEq, M.tup.injEq, List.replicate, Nat.reduceSub, Nat.reduceAdd, true_and, and_true, exists_and_left, exists_and_right, at_0, at_1, at_2, at_3, at_4, Nat.reduceLT, List.length_set, MO.lst.injEq, ix_0, ix_1, ix_2, beq_iff_eq, reduceCtorEq, if_true, if_false, ite_true, ite_false, getL_new, wipeE, Bool.false_eq_true, decide_true, decide_false, Bool.not_true, Bool.not_false]
    exact q h (.refl h)
  | n, m, .str s, h, Q, X, hv, q => by
    refine ⟨p_law_same, rfl, ?_⟩
    simp only [wF, p_law_same, startE]
    simp only [wSs, wS, wE, wEs, wAnd, wOr, wT, wAndT, wOrT, wO, wC, wI, setAll, w_add, w_adds, w_addt, w_addl, w_sub, w_mul, w_mull, w_div, w_mod, w_pow, w_shl, w_eq, w_ne, w_in, w_nin, w_lt, w_le, w_gt, w_ge, w_is, w_isn, w_eqi, w_eqs, w_eqb, w_tn, w_tb, w_ti, w_tt, w_it, w_if, w_is', w_il, w_st, w_ss, w_sl, w_lent, w_lenf, w_lens, w_lenl, w_tupt, w_tupl, w_lstt, w_lstl, w_stri, w_strs, w_inti, w_intb, w_min2, w_max2, w_abs, w_all, w_any, w_sum, w_join, w_app, w_ext, w_pop, w_tyj, w_mult, w_dict, w_dcopy, w_dkeys, w_dlen, w_dgetN, w_dget2, w_dget2s, w_tyd, w_zipt, w_zipl, w_tpq, w_key, w_keys, getD_new, w_tya, w_tye, w_typ, w_isin, w_isib, w_isii, w_isis, w_isit, w_ont, w_onf, w_ons, w_onl, w_rng1, w_rng2, w_nm, w_tp, Option.some.injEq, exists_eq_left', exists_eq_left, exists_eq, exists_eq', List.getElem?_cons_zero, List.getElem?_cons_succ, List.set_cons_zero, List.set_cons_succ, List.map_cons, List.map_nil, List.cons_append, List.nil_append, List.length_cons, List.length_nil, M.int.injEq, M.ref.injEq, M.str.injEq, M.bl.injEq, M.tup.injEq, List.replicate, Nat.reduceSub, Nat.reduceAdd, true_and, and_true, exists_and_left, exists_and_right, at_0, at_1, at_2, at_3, at_4, Nat.reduceLT, List.length_set, MO.lst.injEq, ix_0, ix_1, ix_2, beq_iff_eq, reduceCtorEq, if_true, if_false, ite_true, ite_false, getL_new, wipeE, Bool.false_eq_true, decide_true, decide_false, Bool.not_true, Bool.not_false]
    exact q h (.refl h)
  | 0, m, .tup _, h, Q, X, hv, q => hv.elim
  | n + 1, m, .tup xs, h, Q, X, hv, q => by
    refine ⟨p_law_same, rfl, ?_⟩
    simp only [wF, p_law_same, startE]
    simp only [wSs, wS, wE, wEs, wAnd, wOr, wT, wAndT, wOrT, wO, wC, wI, setAll, w_add, w_adds, w_addt, w_addl, w_sub, w_mul, w_mull, w_div, w_mod, w_pow, w_shl, w_eq, w_ne, w_in, w_nin, w_lt, w_le, w_gt, w_ge, w_is, w_isn, w_eqi, w_eqs, w_eqb, w_tn, w_tb, w_ti, w_tt, w_it, w_if, w_is', w_il, w_st, w_ss, w_sl, w_lent, w_lenf, w_lens, w_lenl, w_tupt, w_tupl, w_lstt, w_lstl, w_stri, w_strs, w_inti, w_intb, w_min2, w_max2, w_abs, w_all, w_any, w_sum, w_join, w_app, w_ext, w_pop, w_tyj, w_mult, w_dict, w_dcopy, w_dkeys, w_dlen, w_dgetN, w_dget2, w_dget2s, w_tyd, w_zipt, w_zipl, w_tpq, w_key, w_keys, getD_new, w_tya, w_tye, w_typ, w_isin, w_isib, w_isii, w_isis, w_isit, w_ont, w_onf, w_ons, w_onl, w_rng1, w_rng2, w_nm, w_tp, Option.some.injEq, exists_eq_left', exists_eq_left, exists_eq, exists_eq', List.getElem?_cons_zero, List.getElem?_cons_succ, List.set_cons_zero, List.set_cons_succ, List.map_cons, List.map_nil, List.cons_append, List.nil_append, List.length_cons, List.length_nil, M.int.injEq, M.ref.injEq, M.str.injEq, M.bl.injEq, M.tup.injEq, List.replicate, Nat.reduceSub, Nat.reduceAdd, true_and, and_true, exists_and_left, exists_and_right, at_0, at_1, at_2, at_3, at_4, Nat.reduceLT, List.length_set, MO.lst.injEq, ix_0, ix_1, ix_2, beq_iff_eq, reduceCtorEq, if_true, if_false, ite_true, ite_false, getL_new, wipeE, Bool.false_eq_true, decide_true, decide_false, Bool.not_true, Bool.not_false, zip_self]
    rw [if_neg (by decide)]
    have hl := hv.1
    refine ⟨by rw [List.length_map, sizeL]; omega, ?_⟩
    refine comp_map (ys := xs) (fun x => .tuq [x, x]) (fun _ => .bl true) (fun _ _ => trivial) (fun x hx h1 R g kk => ?_) fun h2 g => ?_
    · exact ⟨_, rfl, _, rfl, _, rfl, same_ok n m x h1 _ _ (hv.2 x hx) kk⟩
    · refine ⟨_, bls_true xs, ?_⟩
      have e : (xs.map fun _ => true).all id = true := by simp
      rw [e]
      exact q _ (g.add _)
  | n, m, .bl _, h, Q, X, hv, q => by cases n <;> exact hv.elim
  | n, m, .ref _, h, Q, X, hv, q => by cases n <;> exact hv.elim
  | n, m, .fz _, h, Q, X, hv, q => by cases n <;> exact hv.elim
  | n, m, .tuq _, h, Q, X, hv, q => by cases n <;> exact hv.elim
end
end Wg
open PySem PySem.Spec PyProof.Rows
set_option linter.all false
set_option Elab.async false
set_option maxRecDepth 100000
set_option maxHeartbeats 4000000
namespace Wg
open L2
def runT (tab : List TR) : List M → Nat → Option Nat
  | [], n => some n
  | c :: cs, n => match tab[n]? with
    | some r => if r.isFin then none else runT tab cs (behV r c).toNat
    | none => none
theorem runT_snoc {tab : List TR} {c : M} : ∀ (cs : List M) (n a : Nat) (r : TR), runT tab cs n = some a → tab[a]? = some r → r.isFin = false → runT tab (cs ++ [c]) n = some (behV r c).toNat
  | [], n, a, r, h, hr, hf => by
    simp only [runT, Option.some.injEq] at h
    subst h
    simp [runT, hr, hf]
  | d :: cs, n, a, r, h, hr, hf => by
    simp only [runT] at h
    simp only [List.cons_append, runT]
    split at h
    · rename_i r' e
      split at h
      · cases h
      · rename_i hf'
        rw [if_neg hf']
        exact runT_snoc cs _ a r h hr hf
    · cases h
structure TabG (hands boxes : Int) (rises : Bool) (tab : List TR) : Prop where
  ok : TabOk (FinE hands) rises boxes tab
theorem TabOk.weak {E F : M → Prop} {rises : Bool} {boxes : Int} {tab : List TR} (o : TabOk E rises boxes tab) (w : ∀ m, E m → F m) : TabOk F rises boxes tab :=
  ⟨o.len2, o.len40, fun i r e => by
    have := o.row i r e
    cases r with
    | fin m => exact w m this
    | rd _ _ _ => exact this
    | wr _ _ _ => exact this, o.last, o.first⟩
theorem beh_range {E : M → Prop} {rises : Bool} {boxes many at' : Int} {r : TR} {c : M} (hr : RowOk E rises boxes many at' r) (hf : r.isFin = false) : 0 ≤ behV r c ∧ behV r c < many := by
  cases r with
  | fin m => simp [TR.isFin] at hf
  | wr b c' nx => exact ⟨hr.2.2.2.2.1, hr.2.2.2.2.2.1⟩
  | rd b js nx =>
    obtain ⟨h1, h2, h3, h4⟩ := hr
    simp only [behV]
    cases e : findJ js c with
    | none => exact ⟨h4.1, h4.2.1⟩
    | some x =>
      unfold findJ at e
      obtain ⟨p, hp, rfl⟩ := Option.map_eq_some_iff.mp e
      have := h3.ok p (List.mem_of_find?_eq_some hp)
      exact ⟨this.2.2.1, this.2.2.2.1⟩
section
variable {n k : Nat} {h0 h : MH} {u : Int} {Q : QE} {X : Exn → MH → Prop}
/-- a deed, and its table among the manner's -/
def lookD : M := .tup [.str [108, 111, 111, 107]]
def putD (own : Int) : M := .tup [.str [112, 117, 116], .int own, .int 1]
def deedT (T : Tabs) (deed : M) (own : Nat) (tab : List TR) : Prop := (deed = putD own ∧ T.puts[own]? = some tab) ∨ (deed = lookD ∧ T.looks[own]? = some tab)
theorem table_of_ok {T : Tabs} {deed : M} {own : Nat} {tab : List TR} (hd : deedT T deed own tab) (q : Q (tabM tab) h) : S (n + 1) k_table_of [T.m, .int own, deed] h Q X := by
  refine ⟨p_table_of, rfl, ?_⟩
  simp only [wF, p_table_of, startE]
  rcases hd with ⟨rfl, ht⟩ | ⟨rfl, ht⟩
  · simp only [Tabs.m, putD, wSs, wS, wE, wEs, wAnd, wOr, wT, wAndT, wOrT, wO, wC, wI, setAll, w_add, w_adds, w_addt, w_addl, w_sub, w_mul, w_mull, w_div, w_mod, w_pow, w_shl, w_eq, w_ne, w_in, w_nin, w_lt, w_le, w_gt, w_ge, w_is, w_isn, w_eqi, w_eqs, w_eqb, w_tn, w_tb, w_ti, w_tt, w_it, w_if, w_is', w_il, w_st, w_ss, w_sl, w_lent, w_lenf, w_lens, w_lenl, w_tupt, w_tupl, w_lstt, w_lstl, w_stri, w_strs, w_inti, w_intb, w_min2, w_max2, w_abs, w_all, w_any, w_sum, w_join, w_app, w_ext, w_pop, w_tyj, w_mult, w_dict, w_dcopy, w_dkeys, w_dlen, w_dgetN, w_dget2, w_dget2s, w_tyd, w_zipt, w_zipl, w_tpq, w_key, w_keys, getD_new, w_tya, w_tye, w_typ, w_isin, w_isib, w_isii, w_isis, w_isit, w_ont, w_onf, w_ons, w_onl, w_rng1, w_rng2, w_nm, w_tp, Option.some.injEq, exists_eq_left', exists_eq_left, exists_eq, exists_eq', List.getElem?_cons_zero, List.getElem?_cons_succ, List.set_cons_zero, List.set_cons_succ, List.map_cons, List.map_nil, List.cons_append, List.nil_append, List.length_cons, List.length_nil, M.int.injEq, M.ref.injEq, M.str.injEq, M.bl.injEq, M.tup.injEq, List.replicate, Nat.reduceSub, Nat.reduceAdd, true_and, and_true, exists_and_left, exists_and_right, at_0, at_1, at_2, at_3, at_4, Nat.reduceLT, List.length_set, MO.lst.injEq, ix_0, ix_1, ix_2, beq_iff_eq, reduceCtorEq, if_true, if_false, ite_true, ite_false, getL_new, wipeE, Bool.false_eq_true, decide_true, decide_false, Bool.not_true, Bool.not_false, ne_read_write, ne_read_end, ne_write_read, ne_write_end, ne_end_read, ne_end_write, ne_told_read, ne_told_write, ne_told_end, ne_tables_once, ne_tables_twice, ne_tables_handed, ne_tables_signs, ne_tables_shared, ne_look_put, ne_put_look]
    exact ⟨_, atI_nat (by rw [List.getElem?_map, ht]; rfl), q⟩
  · simp only [Tabs.m, lookD, wSs, wS, wE, wEs, wAnd, wOr, wT, wAndT, wOrT, wO, wC, wI, setAll, w_add, w_adds, w_addt, w_addl, w_sub, w_mul, w_mull, w_div, w_mod, w_pow, w_shl, w_eq, w_ne, w_in, w_nin, w_lt, w_le, w_gt, w_ge, w_is, w_isn, w_eqi, w_eqs, w_eqb, w_tn, w_tb, w_ti, w_tt, w_it, w_if, w_is', w_il, w_st, w_ss, w_sl, w_lent, w_lenf, w_lens, w_lenl, w_tupt, w_tupl, w_lstt, w_lstl, w_stri, w_strs, w_inti, w_intb, w_min2, w_max2, w_abs, w_all, w_any, w_sum, w_join, w_app, w_ext, w_pop, w_tyj, w_mult, w_dict, w_dcopy, w_dkeys, w_dlen, w_dgetN, w_dget2, w_dget2s, w_tyd, w_zipt, w_zipl, w_tpq, w_key, w_keys, getD_new, w_tya, w_tye, w_typ, w_isin, w_isib, w_isii, w_isis, w_isit, w_ont, w_onf, w_ons, w_onl, w_rng1, w_rng2, w_nm, w_tp, Option.some.injEq, exists_eq_left', exists_eq_left, exists_eq, exists_eq', List.getElem?_cons_zero, List.getElem?_cons_succ, List.set_cons_zero, List.set_cons_succ, List.map_cons, List.map_nil, List.cons_append, List.nil_append, List.length_cons, List.length_nil, M.int.injEq, M.ref.injEq, M.str.injEq, M.bl.injEq, M.tup.injEq, List.replicate, Nat.reduceSub, Nat.reduceAdd, true_and, and_true, exists_and_left, exists_and_right, at_0, at_1, at_2, at_3, at_4, Nat.reduceLT, List.length_set, MO.lst.injEq, ix_0, ix_1, ix_2, beq_iff_eq, reduceCtorEq, if_true, if_false, ite_true, ite_false, getL_new, wipeE, Bool.false_eq_true, decide_true, decide_false, Bool.not_true, Bool.not_false, ne_read_write, ne_read_end, ne_write_read, ne_write_end, ne_end_read, ne_end_write, ne_told_read, ne_told_write, ne_told_end, ne_tables_once, ne_tables_twice, ne_tables_handed, ne_tables_signs, ne_tables_shared, ne_look_put, ne_put_look]
    exact ⟨_, atI_nat (by rw [List.getElem?_map, ht]; rfl), q⟩
theorem next_ok {T : Tabs} {deed ahead : M} {own a : Nat} {tab : List TR} {rises : Bool} {hands boxes : Int} {rs : List M} (hd : deedT T deed own tab) (ok : TabOk (FinE hands) rises boxes tab) (hrs : ∀ c ∈ rs, RdOk c) (hrun : runT tab rs 0 = some a) {r : TR} (hr : tab[a]? = some r)
    (q : Q (stepM r) h) : S (n + 3) k_next_step [T.m, .int own, deed, ahead, .tup rs] h Q X := by
  refine ⟨p_next_step, rfl, ?_⟩
  simp only [wF, p_next_step, startE]
  simp only [Tabs.m, wSs, wS, wE, wEs, wAnd, wOr, wT, wAndT, wOrT, wO, wC, wI, setAll, w_add, w_adds, w_addt, w_addl, w_sub, w_mul, w_mull, w_div, w_mod, w_pow, w_shl, w_eq, w_ne, w_in, w_nin, w_lt, w_le, w_gt, w_ge, w_is, w_isn, w_eqi, w_eqs, w_eqb, w_tn, w_tb, w_ti, w_tt, w_it, w_if, w_is', w_il, w_st, w_ss, w_sl, w_lent, w_lenf, w_lens, w_lenl, w_tupt, w_tupl, w_lstt, w_lstl, w_stri, w_strs, w_inti, w_intb, w_min2, w_max2, w_abs, w_all, w_any, w_sum, w_join, w_app, w_ext, w_pop, w_tyj, w_mult, w_dict, w_dcopy, w_dkeys, w_dlen, w_dgetN, w_dget2, w_dget2s, w_tyd, w_zipt, w_zipl, w_tpq, w_key, w_keys, getD_new, w_tya, w_tye, w_typ, w_isin, w_isib, w_isii, w_isis, w_isit, w_ont, w_onf, w_ons, w_onl, w_rng1, w_rng2, w_nm, w_tp, Option.some.injEq, exists_eq_left', exists_eq_left, exists_eq, exists_eq', List.getElem?_cons_zero, List.getElem?_cons_succ, List.set_cons_zero, List.set_cons_succ, List.map_cons, List.map_nil, List.cons_append, List.nil_append, List.length_cons, List.length_nil, M.int.injEq, M.ref.injEq, M.str.injEq, M.bl.injEq, M.tup.injEq, List.replicate, Nat.reduceSub, Nat.reduceAdd, true_and, and_true, exists_and_left, exists_and_right, at_0, at_1, at_2, at_3, at_4, Nat.reduceLT, List.length_set, MO.lst.injEq, ix_0, ix_1, ix_2, beq_iff_eq, reduceCtorEq, if_true, if_false, ite_true, ite_false, getL_new, wipeE, Bool.false_eq_true, decide_true, decide_false, Bool.not_true, Bool.not_false, ne_read_write, ne_read_end, ne_write_read, ne_write_end, ne_end_read, ne_end_write, ne_told_read, ne_told_write, ne_told_end, ne_tables_once, ne_tables_twice, ne_tables_handed, ne_tables_signs, ne_tables_shared, ne_look_put, ne_put_look]
  refine ⟨p_next_by_table, rfl, ?_⟩
  simp only [wF, p_next_by_table, startE]
  simp only [wSs, wS, wE, wEs, wAnd, wOr, wT, wAndT, wOrT, wO, wC, wI, setAll, w_add, w_adds, w_addt, w_addl, w_sub, w_mul, w_mull, w_div, w_mod, w_pow, w_shl, w_eq, w_ne, w_in, w_nin, w_lt, w_le, w_gt, w_ge, w_is, w_isn, w_eqi, w_eqs, w_eqb, w_tn, w_tb, w_ti, w_tt, w_it, w_if, w_is', w_il, w_st, w_ss, w_sl, w_lent, w_lenf, w_lens, w_lenl, w_tupt, w_tupl, w_lstt, w_lstl, w_stri, w_strs, w_inti, w_intb, w_min2, w_max2, w_abs, w_all, w_any, w_sum, w_join, w_app, w_ext, w_pop, w_tyj, w_mult, w_dict, w_dcopy, w_dkeys, w_dlen, w_dgetN, w_dget2, w_dget2s, w_tyd, w_zipt, w_zipl, w_tpq, w_key, w_keys, getD_new, w_tya, w_tye, w_typ, w_isin, w_isib, w_isii, w_isis, w_isit, w_ont, w_onf, w_ons, w_onl, w_rng1, w_rng2, w_nm, w_tp, Option.some.injEq, exists_eq_left', exists_eq_left, exists_eq, exists_eq', List.getElem?_cons_zero, List.getElem?_cons_succ, List.set_cons_zero, List.set_cons_succ, List.map_cons, List.map_nil, List.cons_append, List.nil_append, List.length_cons, List.length_nil, M.int.injEq, M.ref.injEq, M.str.injEq, M.bl.injEq, M.tup.injEq, List.replicate, Nat.reduceSub, Nat.reduceAdd, true_and, and_true, exists_and_left, exists_and_right, at_0, at_1, at_2, at_3, at_4, Nat.reduceLT, List.length_set, MO.lst.injEq, ix_0, ix_1, ix_2, beq_iff_eq, reduceCtorEq, if_true, if_false, ite_true, ite_false, getL_new, wipeE, Bool.false_eq_true, decide_true, decide_false, Bool.not_true, Bool.not_false]
  refine table_of_ok (T := T) hd ?_
  try simp only [tabM, wSs, wS, wE, wEs, wAnd, wOr, wT, wAndT, wOrT, wO, wC, wI, setAll, w_add, w_adds, w_addt, w_addl, w_sub, w_mul, w_mull, w_div, w_mod, w_pow, w_shl, w_eq, w_ne, w_in, w_nin, w_lt, w_le, w_gt, w_ge, w_is, w_isn, w_eqi, w_eqs, w_eqb, w_tn, w_tb, w_ti, w_tt, w_it, w_if, w_is', w_il, w_st, w_ss, w_sl, w_lent, w_lenf, w_lens, w_lenl, w_tupt, w_tupl, w_lstt, w_lstl, w_stri, w_strs, w_inti, w_intb, w_min2, w_max2, w_abs, w_all, w_any, w_sum, w_join, w_app, w_ext, w_pop, w_tyj, w_mult, w_dict, w_dcopy, w_dkeys, w_dlen, w_dgetN, w_dget2, w_dget2s, w_tyd, w_zipt, w_zipl, w_tpq, w_key, w_keys, getD_new, w_tya, w_tye, w_typ, w_isin, w_isib, w_isii, w_isis, w_isit, w_ont, w_onf, w_ons, w_onl, w_rng1, w_rng2, w_nm, w_tp, Option.some.injEq, exists_eq_left', exists_eq_left, exists_eq, exists_eq', List.getElem?_cons_zero, List.getElem?_cons_succ, List.set_cons_zero, List.set_cons_succ, List.map_cons, List.map_nil, List.cons_append, List.nil_append, List.length_cons, List.length_nil, M.int.injEq, M.ref.injEq, M.str.injEq, M.bl.injEq, M.tup.injEq, List.replicate, Nat.reduceSub, Nat.reduceAdd, true_and, and_true, exists_and_left, exists_and_right, at_0, at_1, at_2, at_3, at_4, Nat.reduceLT, List.length_set, MO.lst.injEq, ix_0, ix_1, ix_2, beq_iff_eq, reduceCtorEq, if_true, if_false, ite_true, ite_false, getL_new, wipeE, Bool.false_eq_true, decide_true, decide_false, Bool.not_true, Bool.not_false]
  refine for_inv (fun i e h' => h' = h ∧ ∃ (b : Nat) (a6 : Option M), e = [some T.m, some (.int own), some deed, some (.tup rs), some (tabM tab), some (.int b), a6] ∧ runT tab (rs.drop i) b = some a) ⟨rfl, 0, none, rfl, hrun⟩ (fun _ _ _ _ => trivial) ?_ ?_
  · rintro e h' ⟨rfl, b, a6, rfl, hb⟩
    rw [List.drop_length] at hb
    simp only [runT, Option.some.injEq] at hb
    subst hb
    simp only [tabM, wSs, wS, wE, wEs, wAnd, wOr, wT, wAndT, wOrT, wO, wC, wI, setAll, w_add, w_adds, w_addt, w_addl, w_sub, w_mul, w_mull, w_div, w_mod, w_pow, w_shl, w_eq, w_ne, w_in, w_nin, w_lt, w_le, w_gt, w_ge, w_is, w_isn, w_eqi, w_eqs, w_eqb, w_tn, w_tb, w_ti, w_tt, w_it, w_if, w_is', w_il, w_st, w_ss, w_sl, w_lent, w_lenf, w_lens, w_lenl, w_tupt, w_tupl, w_lstt, w_lstl, w_stri, w_strs, w_inti, w_intb, w_min2, w_max2, w_abs, w_all, w_any, w_sum, w_join, w_app, w_ext, w_pop, w_tyj, w_mult, w_dict, w_dcopy, w_dkeys, w_dlen, w_dgetN, w_dget2, w_dget2s, w_tyd, w_zipt, w_zipl, w_tpq, w_key, w_keys, getD_new, w_tya, w_tye, w_typ, w_isin, w_isib, w_isii, w_isis, w_isit, w_ont, w_onf, w_ons, w_onl, w_rng1, w_rng2, w_nm, w_tp, Option.some.injEq, exists_eq_left', exists_eq_left, exists_eq, exists_eq', List.getElem?_cons_zero, List.getElem?_cons_succ, List.set_cons_zero, List.set_cons_succ, List.map_cons, List.map_nil, List.cons_append, List.nil_append, List.length_cons, List.length_nil, M.int.injEq, M.ref.injEq, M.str.injEq, M.bl.injEq, M.tup.injEq, List.replicate, Nat.reduceSub, Nat.reduceAdd, true_and, and_true, exists_and_left, exists_and_right, at_0, at_1, at_2, at_3, at_4, Nat.reduceLT, List.length_set, MO.lst.injEq, ix_0, ix_1, ix_2, beq_iff_eq, reduceCtorEq, if_true, if_false, ite_true, ite_false, getL_new, wipeE, Bool.false_eq_true, decide_true, decide_false, Bool.not_true, Bool.not_false]
    exact ⟨_, atI_nat (by rw [List.getElem?_map, hr]; rfl), step_ok (ok.row _ _ hr) q⟩
  · rintro i x e h' N hx ⟨rfl, b, a6, rfl, hb⟩ kk
    have hl : i < rs.length := (List.getElem?_eq_some_iff.mp hx).1
    rw [List.drop_eq_getElem_cons hl] at hb
    have ex : rs[i] = x := by rw [List.getElem?_eq_getElem hl] at hx; exact Option.some.inj hx
    rw [ex] at hb
    simp only [runT] at hb
    split at hb
    · rename_i r' e'
      split at hb
      · cases hb
      · rename_i hf
        have hf' : r'.isFin = false := by simpa using hf
        refine ⟨_, rfl, ?_⟩
        simp only [tabM, wSs, wS, wE, wEs, wAnd, wOr, wT, wAndT, wOrT, wO, wC, wI, setAll, w_add, w_adds, w_addt, w_addl, w_sub, w_mul, w_mull, w_div, w_mod, w_pow, w_shl, w_eq, w_ne, w_in, w_nin, w_lt, w_le, w_gt, w_ge, w_is, w_isn, w_eqi, w_eqs, w_eqb, w_tn, w_tb, w_ti, w_tt, w_it, w_if, w_is', w_il, w_st, w_ss, w_sl, w_lent, w_lenf, w_lens, w_lenl, w_tupt, w_tupl, w_lstt, w_lstl, w_stri, w_strs, w_inti, w_intb, w_min2, w_max2, w_abs, w_all, w_any, w_sum, w_join, w_app, w_ext, w_pop, w_tyj, w_mult, w_dict, w_dcopy, w_dkeys, w_dlen, w_dgetN, w_dget2, w_dget2s, w_tyd, w_zipt, w_zipl, w_tpq, w_key, w_keys, getD_new, w_tya, w_tye, w_typ, w_isin, w_isib, w_isii, w_isis, w_isit, w_ont, w_onf, w_ons, w_onl, w_rng1, w_rng2, w_nm, w_tp, Option.some.injEq, exists_eq_left', exists_eq_left, exists_eq, exists_eq', List.getElem?_cons_zero, List.getElem?_cons_succ, List.set_cons_zero, List.set_cons_succ, List.map_cons, List.map_nil, List.cons_append, List.nil_append, List.length_cons, List.length_nil, M.int.injEq, M.ref.injEq, M.str.injEq, M.bl.injEq, M.tup.injEq, List.replicate, Nat.reduceSub, Nat.reduceAdd, true_and, and_true, exists_and_left, exists_and_right, at_0, at_1, at_2, at_3, at_4, Nat.reduceLT, List.length_set, MO.lst.injEq, ix_0, ix_1, ix_2, beq_iff_eq, reduceCtorEq, if_true, if_false, ite_true, ite_false, getL_new, wipeE, Bool.false_eq_true, decide_true, decide_false, Bool.not_true, Bool.not_false]
        refine ⟨_, atI_nat (by rw [List.getElem?_map, e']; rfl), ?_⟩
        refine behind_ok (ok.row _ _ e') hf' (hrs x (mem_of_get hx)) ?_
        try simp only [wSs, wS, wE, wEs, wAnd, wOr, wT, wAndT, wOrT, wO, wC, wI, setAll, w_add, w_adds, w_addt, w_addl, w_sub, w_mul, w_mull, w_div, w_mod, w_pow, w_shl, w_eq, w_ne, w_in, w_nin, w_lt, w_le, w_gt, w_ge, w_is, w_isn, w_eqi, w_eqs, w_eqb, w_tn, w_tb, w_ti, w_tt, w_it, w_if, w_is', w_il, w_st, w_ss, w_sl, w_lent, w_lenf, w_lens, w_lenl, w_tupt, w_tupl, w_lstt, w_lstl, w_stri, w_strs, w_inti, w_intb, w_min2, w_max2, w_abs, w_all, w_any, w_sum, w_join, w_app, w_ext, w_pop, w_tyj, w_mult, w_dict, w_dcopy, w_dkeys, w_dlen, w_dgetN, w_dget2, w_dget2s, w_tyd, w_zipt, w_zipl, w_tpq, w_key, w_keys, getD_new, w_tya, w_tye, w_typ, w_isin, w_isib, w_isii, w_isis, w_isit, w_ont, w_onf, w_ons, w_onl, w_rng1, w_rng2, w_nm, w_tp, Option.some.injEq, exists_eq_left', exists_eq_left, exists_eq, exists_eq', List.getElem?_cons_zero, List.getElem?_cons_succ, List.set_cons_zero, List.set_cons_succ, List.map_cons, List.map_nil, List.cons_append, List.nil_append, List.length_cons, List.length_nil, M.int.injEq, M.ref.injEq, M.str.injEq, M.bl.injEq, M.tup.injEq, List.replicate, Nat.reduceSub, Nat.reduceAdd, true_and, and_true, exists_and_left, exists_and_right, at_0, at_1, at_2, at_3, at_4, Nat.reduceLT, List.length_set, MO.lst.injEq, ix_0, ix_1, ix_2, beq_iff_eq, reduceCtorEq, if_true, if_false, ite_true, ite_false, getL_new, wipeE, Bool.false_eq_true, decide_true, decide_false, Bool.not_true, Bool.not_false]
        obtain ⟨z0, z1⟩ := beh_range (c := x) (ok.row _ _ e') hf'
        exact kk _ _ ⟨rfl, (behV r' x).toNat, _, by rw [Int.toNat_of_nonneg z0]; rfl, hb⟩
    · cases hb
end
end Wg
open PySem PySem.Spec PyProof.Rows
set_option linter.all false
set_option Elab.async false
set_option maxRecDepth 100000
set_option maxHeartbeats 4000000
namespace Wg
open L2
theorem tabs_at : TabF prog k_law_take k_law_pick k_law_jumps k_law_next_row k_law_table k_law_bits k_law_tables :=
  ⟨⟨p_law_take, rfl, rfl, rfl⟩, ⟨p_law_pick, rfl, rfl, rfl⟩, ⟨p_law_jumps, rfl, rfl, rfl⟩, ⟨p_law_next_row, rfl, rfl, rfl⟩, ⟨p_law_table, rfl, rfl, rfl⟩, ⟨p_law_bits, rfl, rfl, rfl⟩, ⟨p_law_tables, rfl, rfl, rfl⟩⟩
theorem step_sv {rises : Bool} {boxes many at' hands : Int} {r : TR} (hr : RowOk (FinE hands) rises boxes many at' r) (hh : hands ≤ 5) : SV 2 (stepM r) := by
  cases r with
  | fin m =>
    rcases hr with rfl | ⟨bs, rfl, hb⟩
    · exact ⟨by simp, fun x hx => by simp at hx; rcases hx with rfl | rfl <;> trivial⟩
    · refine ⟨by simp, fun x hx => ?_⟩
      simp at hx
      rcases hx with rfl | rfl
      · trivial
      · refine ⟨by have := hb.1; simp; omega, fun x hx => ?_⟩
        obtain ⟨b, _, rfl⟩ := List.mem_map.mp hx
        trivial
  | wr b c nx =>
    refine ⟨by simp, fun x hx => ?_⟩
    simp at hx
    rcases hx with rfl | rfl | rfl
    · trivial
    · exact ⟨by simp, fun x hx => by simp at hx; rcases hx with rfl | rfl <;> trivial⟩
    · trivial
  | rd b js nx =>
    refine ⟨by simp, fun x hx => ?_⟩
    simp at hx
    rcases hx with rfl | rfl
    · trivial
    · exact ⟨by simp, fun x hx => by simp at hx; rcases hx with rfl | rfl <;> trivial⟩
theorem prs_js : ∀ js : List (Int × Int), prsM (js.map prM) = some (js.map fun p => (M.int p.1, M.int p.2))
  | [] => rfl
  | p :: js => by simp [prsM, prM, prs_js js, keyM]
theorem merge_nd : ∀ (more kvs : List (M × M)), (more.map (·.1)).Nodup → (∀ p ∈ more, ∀ q ∈ kvs, q.1 ≠ p.1) → dmerge kvs more = kvs ++ more
  | [], kvs, _, _ => by simp [dmerge]
  | p :: more, kvs, nd, h => by
    have e : dput kvs p.1 p.2 = kvs ++ [p] := by
      unfold dput
      rw [if_neg]
      rw [Bool.not_eq_true, List.any_eq_false]
      intro q hq
      simpa using h p (by simp) q hq
    show dmerge (dput kvs p.1 p.2) more = _
    rw [List.map_cons, List.nodup_cons] at nd
    rw [e, merge_nd more (kvs ++ [p]) nd.2 ?_]
    · simp
    · intro r hr q hq
      rcases List.mem_append.mp hq with hq | hq
      · exact h r (by simp [hr]) q hq
      · rcases List.mem_singleton.mp hq with rfl
        intro z
        exact nd.1 (List.mem_map.mpr ⟨r, hr, z.symm⟩)
theorem merge_js {js : List (Int × Int)} (nd : (js.map (·.1)).Nodup) : dmerge [] (js.map fun p => (M.int p.1, M.int p.2)) = js.map fun p => (M.int p.1, M.int p.2) := by
  rw [merge_nd _ _ ?_ (fun _ _ _ hq => absurd hq (by simp))]
  · simp
  · rw [List.map_map]
    have : ((fun p : M × M => p.1) ∘ fun p : Int × Int => (M.int p.1, M.int p.2)) = fun p => M.int p.1 := rfl
    rw [this]
    have e : (js.map fun p => M.int p.1) = (js.map (·.1)).map M.int := by rw [List.map_map]; rfl
    rw [e]
    refine List.Pairwise.map _ (fun a b hab z => hab (by injection z)) nd
theorem dval_js {js : List (Int × Int)} {c : Int} {d : Int} : (dval (js.map fun p => (M.int p.1, M.int p.2)) (.int c)).getD (.int d) = .int ((findJ js (.int c)).getD d) := by
  induction js with
  | nil => rfl
  | cons p js ih =>
    by_cases hp : p.1 = c
    · subst hp
      simp [dval, findJ]
    · have e1 : dval ((p :: js).map fun p => (M.int p.1, M.int p.2)) (.int c) = dval (js.map fun p => (M.int p.1, M.int p.2)) (.int c) := by simp [dval, hp]
      have e2 : findJ (p :: js) (.int c) = findJ js (.int c) := by simp [findJ, hp]
      rw [e1, e2]; exact ih
section
variable {n k : Nat} {h0 h : MH} {u : Int} {Q : QE} {X : Exn → MH → Prop}
theorem right_ok {T : Tabs} {deed : M} {own : Nat} {tab : List TR} {rises : Bool} (hd : deedT T deed own tab) (ok : TabOk (FinE T.hands) rises T.boxes tab) (hh0 : 0 < T.hands) (hh : T.hands ≤ 5) (g : GK k h0 h u) (hu : u ≤ 2 ^ 36)
    (q : ∀ h', GK k h0 h' (u + 70) → Q (.bl true) h') : S (n + 4) k_law_right [.ref k, T.m, .int own, deed] h Q X := by
  refine ⟨p_law_right, rfl, ?_⟩
  have hsz := sizeL
  simp only [wF, p_law_right, startE]
  have body : forL (fun _ => True) (Tg.nm 7) (fun env h D X => wSs (fun _ => .non) (Sem prog (fun _ => .non) (n + 3)) (match p_law_right.body with | .cons _ (.cons _ (.cons _ (.cons (.for _ _ b) _))) => b | _ => .nil) env h D X) (fun x _ h' => X x h')
      { nx := fun env' h' => Q (.bl true) h', rt := Q } (rngL 0 31) [some (.ref k), some T.m, some (.int own), some deed, some (tabM tab), some (.int 0), some (.tup []), none, none, none, none, none] h := by
    refine for_inv (fun i e h' => ∃ (a : Nat) (rs : List M) (a7 a8 a9 a10 a11 : Option M), e = [some (.ref k), some T.m, some (.int own), some deed, some (tabM tab), some (.int a), some (.tup rs), a7, a8, a9, a10, a11] ∧ runT tab rs 0 = some a ∧ a < tab.length ∧ rs.length = i ∧ (∀ c ∈ rs, RdOk c) ∧ GK k h0 h' (u + 2 * i))
      ⟨0, [], none, none, none, none, none, rfl, rfl, by have := ok.len2; omega, rfl, (fun _ hx => nomatch hx), by simpa using g⟩ (fun _ _ _ _ => trivial) ?_ ?_
    · rintro e h' ⟨a, rs, a7, a8, a9, a10, a11, rfl, hrun, ha, hl, hrd, g'⟩
      rw [rngL_length] at g'
      exact q h' (g'.mono (by simp))
    · rintro i x e h' N hx ⟨a, rs, a7, a8, a9, a10, a11, rfl, hrun, ha, hl, hrd, g'⟩ kk
      obtain ⟨rfl, hi⟩ := rngL_get hx
      refine ⟨_, rfl, ?_⟩
      have hr : tab[a]? = some tab[a] := List.getElem?_eq_getElem ha
      generalize tab[a] = r at hr
      have hro := ok.row _ _ hr
      simp only [p_law_right, tabM, wSs, wS, wE, wEs, wAnd, wOr, wT, wAndT, wOrT, wO, wC, wI, setAll, w_add, w_adds, w_addt, w_addl, w_sub, w_mul, w_mull, w_div, w_mod, w_pow, w_shl, w_eq, w_ne, w_in, w_nin, w_lt, w_le, w_gt, w_ge, w_is, w_isn, w_eqi, w_eqs, w_eqb, w_tn, w_tb, w_ti, w_tt, w_it, w_if, w_is', w_il, w_st, w_ss, w_sl, w_lent, w_lenf, w_lens, w_lenl, w_tupt, w_tupl, w_lstt, w_lstl, w_stri, w_strs, w_inti, w_intb, w_min2, w_max2, w_abs, w_all, w_any, w_sum, w_join, w_app, w_ext, w_pop, w_tyj, w_mult, w_dict, w_dcopy, w_dkeys, w_dlen, w_dgetN, w_dget2, w_dget2s, w_tyd, w_zipt, w_zipl, w_tpq, w_key, w_keys, getD_new, w_tya, w_tye, w_typ, w_isin, w_isib, w_isii, w_isis, w_isit, w_ont, w_onf, w_ons, w_onl, w_rng1, w_rng2, w_nm, w_tp, Option.some.injEq, exists_eq_left', exists_eq_left, exists_eq, exists_eq', List.getElem?_cons_zero, List.getElem?_cons_succ, List.set_cons_zero, List.set_cons_succ, List.map_cons, List.map_nil, List.cons_append, List.nil_append, List.length_cons, List.length_nil, M.int.injEq, M.ref.injEq, M.str.injEq, M.bl.injEq, M.tup.injEq, List.replicate, Nat.reduceSub, Nat.reduceAdd, true_and, and_true, exists_and_left, exists_and_right, at_0, at_1, at_2, at_3, at_4, Nat.reduceLT, List.length_set, MO.lst.injEq, ix_0, ix_1, ix_2, beq_iff_eq, reduceCtorEq, if_true, if_false, ite_true, ite_false, getL_new, wipeE, Bool.false_eq_true, decide_true, decide_false, Bool.not_true, Bool.not_false]
      refine ⟨_, atI_nat (by rw [List.getElem?_map, hr]; rfl), rng_small (by decide) (by decide), ?_⟩
      refine for_inv (fun j e h2 => ∃ a9, e = [some (.ref k), some T.m, some (.int own), some deed, some (.tup (tab.map TR.m)), some (.int a), some (.tup rs), some (.int (0 + (i : Int))), some r.m, a9, a10, a11] ∧ Gro h' h2) ⟨_, rfl, .refl h'⟩ (fun _ _ _ _ => trivial) ?_ ?_
      · rintro e h2 ⟨a9, rfl, g2⟩
        simp only [wSs, wS, wE, wEs, wAnd, wOr, wT, wAndT, wOrT, wO, wC, wI, setAll, w_add, w_adds, w_addt, w_addl, w_sub, w_mul, w_mull, w_div, w_mod, w_pow, w_shl, w_eq, w_ne, w_in, w_nin, w_lt, w_le, w_gt, w_ge, w_is, w_isn, w_eqi, w_eqs, w_eqb, w_tn, w_tb, w_ti, w_tt, w_it, w_if, w_is', w_il, w_st, w_ss, w_sl, w_lent, w_lenf, w_lens, w_lenl, w_tupt, w_tupl, w_lstt, w_lstl, w_stri, w_strs, w_inti, w_intb, w_min2, w_max2, w_abs, w_all, w_any, w_sum, w_join, w_app, w_ext, w_pop, w_tyj, w_mult, w_dict, w_dcopy, w_dkeys, w_dlen, w_dgetN, w_dget2, w_dget2s, w_tyd, w_zipt, w_zipl, w_tpq, w_key, w_keys, getD_new, w_tya, w_tye, w_typ, w_isin, w_isib, w_isii, w_isis, w_isit, w_ont, w_onf, w_ons, w_onl, w_rng1, w_rng2, w_nm, w_tp, Option.some.injEq, exists_eq_left', exists_eq_left, exists_eq, exists_eq', List.getElem?_cons_zero, List.getElem?_cons_succ, List.set_cons_zero, List.set_cons_succ, List.map_cons, List.map_nil, List.cons_append, List.nil_append, List.length_cons, List.length_nil, M.int.injEq, M.ref.injEq, M.str.injEq, M.bl.injEq, M.tup.injEq, List.replicate, Nat.reduceSub, Nat.reduceAdd, true_and, and_true, exists_and_left, exists_and_right, at_0, at_1, at_2, at_3, at_4, Nat.reduceLT, List.length_set, MO.lst.injEq, ix_0, ix_1, ix_2, beq_iff_eq, reduceCtorEq, if_true, if_false, ite_true, ite_false, getL_new, wipeE, Bool.false_eq_true, decide_true, decide_false, Bool.not_true, Bool.not_false]
        have gg := g'.gro g2
        cases r with
        | fin m =>
          have hm : ∃ w y, m = .tup (.str w :: y) ∧ (w = [101, 110, 100] ∨ w = [116, 111, 108, 100]) := by
            rcases hro with rfl | ⟨bs, rfl, hb⟩
            · exact ⟨_, _, rfl, .inl rfl⟩
            · exact ⟨_, _, rfl, .inr rfl⟩
          obtain ⟨w, y, rfl, hw⟩ := hm
          simp only [TR.m, wSs, wS, wE, wEs, wAnd, wOr, wT, wAndT, wOrT, wO, wC, wI, setAll, w_add, w_adds, w_addt, w_addl, w_sub, w_mul, w_mull, w_div, w_mod, w_pow, w_shl, w_eq, w_ne, w_in, w_nin, w_lt, w_le, w_gt, w_ge, w_is, w_isn, w_eqi, w_eqs, w_eqb, w_tn, w_tb, w_ti, w_tt, w_it, w_if, w_is', w_il, w_st, w_ss, w_sl, w_lent, w_lenf, w_lens, w_lenl, w_tupt, w_tupl, w_lstt, w_lstl, w_stri, w_strs, w_inti, w_intb, w_min2, w_max2, w_abs, w_all, w_any, w_sum, w_join, w_app, w_ext, w_pop, w_tyj, w_mult, w_dict, w_dcopy, w_dkeys, w_dlen, w_dgetN, w_dget2, w_dget2s, w_tyd, w_zipt, w_zipl, w_tpq, w_key, w_keys, getD_new, w_tya, w_tye, w_typ, w_isin, w_isib, w_isii, w_isis, w_isit, w_ont, w_onf, w_ons, w_onl, w_rng1, w_rng2, w_nm, w_tp, Option.some.injEq, exists_eq_left', exists_eq_left, exists_eq, exists_eq', List.getElem?_cons_zero, List.getElem?_cons_succ, List.set_cons_zero, List.set_cons_succ, List.map_cons, List.map_nil, List.cons_append, List.nil_append, List.length_cons, List.length_nil, M.int.injEq, M.ref.injEq, M.str.injEq, M.bl.injEq, M.tup.injEq, List.replicate, Nat.reduceSub, Nat.reduceAdd, true_and, and_true, exists_and_left, exists_and_right, at_0, at_1, at_2, at_3, at_4, Nat.reduceLT, List.length_set, MO.lst.injEq, ix_0, ix_1, ix_2, beq_iff_eq, reduceCtorEq, if_true, if_false, ite_true, ite_false, getL_new, wipeE, Bool.false_eq_true, decide_true, decide_false, Bool.not_true, Bool.not_false]
          refine ⟨true, ?_, ?_⟩
          · rcases hw with rfl | rfl <;> rfl
          · rw [if_pos rfl]
            exact q h2 (gg.mono (by omega))
        | wr b c nx =>
          simp only [TR.m, wSs, wS, wE, wEs, wAnd, wOr, wT, wAndT, wOrT, wO, wC, wI, setAll, w_add, w_adds, w_addt, w_addl, w_sub, w_mul, w_mull, w_div, w_mod, w_pow, w_shl, w_eq, w_ne, w_in, w_nin, w_lt, w_le, w_gt, w_ge, w_is, w_isn, w_eqi, w_eqs, w_eqb, w_tn, w_tb, w_ti, w_tt, w_it, w_if, w_is', w_il, w_st, w_ss, w_sl, w_lent, w_lenf, w_lens, w_lenl, w_tupt, w_tupl, w_lstt, w_lstl, w_stri, w_strs, w_inti, w_intb, w_min2, w_max2, w_abs, w_all, w_any, w_sum, w_join, w_app, w_ext, w_pop, w_tyj, w_mult, w_dict, w_dcopy, w_dkeys, w_dlen, w_dgetN, w_dget2, w_dget2s, w_tyd, w_zipt, w_zipl, w_tpq, w_key, w_keys, getD_new, w_tya, w_tye, w_typ, w_isin, w_isib, w_isii, w_isis, w_isit, w_ont, w_onf, w_ons, w_onl, w_rng1, w_rng2, w_nm, w_tp, Option.some.injEq, exists_eq_left', exists_eq_left, exists_eq, exists_eq', List.getElem?_cons_zero, List.getElem?_cons_succ, List.set_cons_zero, List.set_cons_succ, List.map_cons, List.map_nil, List.cons_append, List.nil_append, List.length_cons, List.length_nil, M.int.injEq, M.ref.injEq, M.str.injEq, M.bl.injEq, M.tup.injEq, List.replicate, Nat.reduceSub, Nat.reduceAdd, true_and, and_true, exists_and_left, exists_and_right, at_0, at_1, at_2, at_3, at_4, Nat.reduceLT, List.length_set, MO.lst.injEq, ix_0, ix_1, ix_2, beq_iff_eq, reduceCtorEq, if_true, if_false, ite_true, ite_false, getL_new, wipeE, Bool.false_eq_true, decide_true, decide_false, Bool.not_true, Bool.not_false, ne_read_write, ne_read_end, ne_write_read, ne_write_end, ne_end_read, ne_end_write, ne_told_read, ne_told_write, ne_told_end, ne_tables_once, ne_tables_twice, ne_tables_handed, ne_tables_signs, ne_tables_shared, ne_look_put, ne_put_look]
          refine ⟨false, rfl, ?_⟩
          rw [if_neg (by decide)]
          obtain ⟨z0, z1⟩ := beh_range (c := M.non) hro rfl
          have e : (nx : Int) = ((behV (.wr b c nx) .non).toNat : Nat) := by rw [Int.toNat_of_nonneg z0]; rfl
          refine ⟨rfl, ⟨_, get_new⟩, by omega, ?_⟩
          refine kk _ _ ⟨(behV (.wr b c nx) .non).toNat, rs ++ [.non], _, _, _, _, _, by rw [← e]; rfl, runT_snoc _ _ _ _ hrun hr rfl, by omega, by simp [hl], fun c hc => ?_, (gg.app).mono (by push_cast; omega)⟩
          rcases List.mem_append.mp hc with hc | hc
          · exact hrd c hc
          · rcases List.mem_singleton.mp hc with rfl
            exact .inl rfl
        | rd b js nx =>
          simp only [TR.m, wSs, wS, wE, wEs, wAnd, wOr, wT, wAndT, wOrT, wO, wC, wI, setAll, w_add, w_adds, w_addt, w_addl, w_sub, w_mul, w_mull, w_div, w_mod, w_pow, w_shl, w_eq, w_ne, w_in, w_nin, w_lt, w_le, w_gt, w_ge, w_is, w_isn, w_eqi, w_eqs, w_eqb, w_tn, w_tb, w_ti, w_tt, w_it, w_if, w_is', w_il, w_st, w_ss, w_sl, w_lent, w_lenf, w_lens, w_lenl, w_tupt, w_tupl, w_lstt, w_lstl, w_stri, w_strs, w_inti, w_intb, w_min2, w_max2, w_abs, w_all, w_any, w_sum, w_join, w_app, w_ext, w_pop, w_tyj, w_mult, w_dict, w_dcopy, w_dkeys, w_dlen, w_dgetN, w_dget2, w_dget2s, w_tyd, w_zipt, w_zipl, w_tpq, w_key, w_keys, getD_new, w_tya, w_tye, w_typ, w_isin, w_isib, w_isii, w_isis, w_isit, w_ont, w_onf, w_ons, w_onl, w_rng1, w_rng2, w_nm, w_tp, Option.some.injEq, exists_eq_left', exists_eq_left, exists_eq, exists_eq', List.getElem?_cons_zero, List.getElem?_cons_succ, List.set_cons_zero, List.set_cons_succ, List.map_cons, List.map_nil, List.cons_append, List.nil_append, List.length_cons, List.length_nil, M.int.injEq, M.ref.injEq, M.str.injEq, M.bl.injEq, M.tup.injEq, List.replicate, Nat.reduceSub, Nat.reduceAdd, true_and, and_true, exists_and_left, exists_and_right, at_0, at_1, at_2, at_3, at_4, Nat.reduceLT, List.length_set, MO.lst.injEq, ix_0, ix_1, ix_2, beq_iff_eq, reduceCtorEq, if_true, if_false, ite_true, ite_false, getL_new, wipeE, Bool.false_eq_true, decide_true, decide_false, Bool.not_true, Bool.not_false, ne_read_write, ne_read_end, ne_write_read, ne_write_end, ne_end_read, ne_end_write, ne_told_read, ne_told_write, ne_told_end, ne_tables_once, ne_tables_twice, ne_tables_handed, ne_tables_signs, ne_tables_shared, ne_look_put, ne_put_look]
          refine ⟨false, rfl, ?_⟩
          rw [if_neg (by decide)]
          obtain ⟨_, _, hj, hnx⟩ := hro
          refine ⟨_, prs_js js, ?_⟩
          rw [merge_js hj.nd]
          generalize eA : h2 ++ [MO.dct []] = hA
          have gA : GK k h0 hA (u + 2 * i) := by subst eA; exact gg.app
          generalize hkv : (js.map fun p => (M.int p.1, M.int p.2)) = kvs
          try simp only [wSs, wS, wE, wEs, wAnd, wOr, wT, wAndT, wOrT, wO, wC, wI, setAll, w_add, w_adds, w_addt, w_addl, w_sub, w_mul, w_mull, w_div, w_mod, w_pow, w_shl, w_eq, w_ne, w_in, w_nin, w_lt, w_le, w_gt, w_ge, w_is, w_isn, w_eqi, w_eqs, w_eqb, w_tn, w_tb, w_ti, w_tt, w_it, w_if, w_is', w_il, w_st, w_ss, w_sl, w_lent, w_lenf, w_lens, w_lenl, w_tupt, w_tupl, w_lstt, w_lstl, w_stri, w_strs, w_inti, w_intb, w_min2, w_max2, w_abs, w_all, w_any, w_sum, w_join, w_app, w_ext, w_pop, w_tyj, w_mult, w_dict, w_dcopy, w_dkeys, w_dlen, w_dgetN, w_dget2, w_dget2s, w_tyd, w_zipt, w_zipl, w_tpq, w_key, w_keys, getD_new, w_tya, w_tye, w_typ, w_isin, w_isib, w_isii, w_isis, w_isit, w_ont, w_onf, w_ons, w_onl, w_rng1, w_rng2, w_nm, w_tp, Option.some.injEq, exists_eq_left', exists_eq_left, exists_eq, exists_eq', List.getElem?_cons_zero, List.getElem?_cons_succ, List.set_cons_zero, List.set_cons_succ, List.map_cons, List.map_nil, List.cons_append, List.nil_append, List.length_cons, List.length_nil, M.int.injEq, M.ref.injEq, M.str.injEq, M.bl.injEq, M.tup.injEq, List.replicate, Nat.reduceSub, Nat.reduceAdd, true_and, and_true, exists_and_left, exists_and_right, at_0, at_1, at_2, at_3, at_4, Nat.reduceLT, List.length_set, MO.lst.injEq, ix_0, ix_1, ix_2, beq_iff_eq, reduceCtorEq, if_true, if_false, ite_true, ite_false, getL_new, wipeE, Bool.false_eq_true, decide_true, decide_false, Bool.not_true, Bool.not_false]
          have hkl : kvs.length ≤ 10 := by subst hkv; rw [List.length_map]; have := hj.ln; omega
          have kA : hA.length ≠ k := by have := gA.lt; omega
          have kB : (hA ++ [MO.dct kvs]).length ≠ k := by have := (gA.app (t := [MO.dct kvs])).lt; omega
          have gC := (gA.app (t := [MO.dct kvs])).app (t := [MO.lst (kvs.map fun x => x.1)])
          refine tk tabs_at.take gC.self (by omega) (by decide) (by decide) fun y h3 y0 y1 g3 => ?_
          have eD : h3[hA.length]? = some (.dct kvs) := g3.get kA (by rw [List.append_assoc]; exact Gro.at (o := .dct kvs) ⟨_, by rw [List.append_assoc]⟩)
          have eK : h3[(hA ++ [MO.dct kvs]).length]? = some (.lst (kvs.map fun x => x.1)) := g3.get kB get_new
          refine ⟨_, (Gro.app h3 _).get eK, _, get_new, by simp; omega, ?_⟩
          have k4 : (h3 ++ [MO.lst [M.int y]]).length ≠ k := by have := (g3.app (t := [MO.lst [M.int y]])).lt; omega
          have gE := ((g3.app (t := [MO.lst [M.int y]])).app (t := [MO.lst ((kvs.map fun x => x.1) ++ [M.int y])]))
          refine pk tabs_at.take tabs_at.pick gE (by omega) get_new k4 (by simp) (by simp; omega) fun v h5 hv g5 => ?_
          have hv' : ∃ c : Int, v = .int c := by
            rcases List.mem_append.mp hv with hv | hv
            · obtain ⟨p, hp, rfl⟩ := List.mem_map.mp hv
              subst hkv
              obtain ⟨p', _, rfl⟩ := List.mem_map.mp hp
              exact ⟨_, rfl⟩
            · exact ⟨y, List.mem_singleton.mp hv⟩
          obtain ⟨c, rfl⟩ := hv'
          have eD5 : h5[hA.length]? = some (.dct kvs) := g5.get kA (by rw [List.append_assoc]; exact Gro.at (o := .dct kvs) ⟨_, by rw [List.append_assoc]⟩)
          refine ⟨by rw [getD_of eD5]; rfl, kvs, eD5, rfl, by omega, ?_⟩
          subst hkv
          rw [dval_js]
          obtain ⟨z0, z1⟩ := beh_range (E := FinE T.hands) (rises := rises) (boxes := T.boxes) (many := tab.length) (at' := a) (c := M.int c) (ok.row _ _ hr) rfl
          have e : ((findJ js (.int c)).getD nx : Int) = ((behV (.rd b js nx) (.int c)).toNat : Nat) := by rw [Int.toNat_of_nonneg z0]; rfl
          refine kk _ _ ⟨(behV (.rd b js nx) (.int c)).toNat, rs ++ [.int c], _, _, _, _, _, by rw [← e]; rfl, runT_snoc _ _ _ _ hrun hr rfl, by omega, by simp [hl], fun d hd' => ?_, (gC.trans g5).mono (by push_cast; omega)⟩
          rcases List.mem_append.mp hd' with hd' | hd'
          · exact hrd d hd'
          · rcases List.mem_singleton.mp hd' with rfl
            exact .inr ⟨_, rfl⟩
      · rintro j x e h2 N2 hx2 ⟨a9, rfl, g2⟩ kk2
        refine ⟨_, rfl, ?_⟩
        simp only [Tabs.m, wSs, wS, wE, wEs, wAnd, wOr, wT, wAndT, wOrT, wO, wC, wI, setAll, w_add, w_adds, w_addt, w_addl, w_sub, w_mul, w_mull, w_div, w_mod, w_pow, w_shl, w_eq, w_ne, w_in, w_nin, w_lt, w_le, w_gt, w_ge, w_is, w_isn, w_eqi, w_eqs, w_eqb, w_tn, w_tb, w_ti, w_tt, w_it, w_if, w_is', w_il, w_st, w_ss, w_sl, w_lent, w_lenf, w_lens, w_lenl, w_tupt, w_tupl, w_lstt, w_lstl, w_stri, w_strs, w_inti, w_intb, w_min2, w_max2, w_abs, w_all, w_any, w_sum, w_join, w_app, w_ext, w_pop, w_tyj, w_mult, w_dict, w_dcopy, w_dkeys, w_dlen, w_dgetN, w_dget2, w_dget2s, w_tyd, w_zipt, w_zipl, w_tpq, w_key, w_keys, getD_new, w_tya, w_tye, w_typ, w_isin, w_isib, w_isii, w_isis, w_isit, w_ont, w_onf, w_ons, w_onl, w_rng1, w_rng2, w_nm, w_tp, Option.some.injEq, exists_eq_left', exists_eq_left, exists_eq, exists_eq', List.getElem?_cons_zero, List.getElem?_cons_succ, List.set_cons_zero, List.set_cons_succ, List.map_cons, List.map_nil, List.cons_append, List.nil_append, List.length_cons, List.length_nil, M.int.injEq, M.ref.injEq, M.str.injEq, M.bl.injEq, M.tup.injEq, List.replicate, Nat.reduceSub, Nat.reduceAdd, true_and, and_true, exists_and_left, exists_and_right, at_0, at_1, at_2, at_3, at_4, Nat.reduceLT, List.length_set, MO.lst.injEq, ix_0, ix_1, ix_2, beq_iff_eq, reduceCtorEq, if_true, if_false, ite_true, ite_false, getL_new, wipeE, Bool.false_eq_true, decide_true, decide_false, Bool.not_true, Bool.not_false]
        refine ⟨by decide, by simp, by omega, by omega, by decide, ?_⟩
        refine next_ok (T := T) hd ok hrd hrun hr ?_
        refine due_ok hro ?_
        refine same_ok 2 n _ h2 _ _ (step_sv hro hh) fun h3 g3 => ?_
        refine ⟨true, rfl, ?_⟩
        rw [if_neg (by decide)]
        exact kk2 _ _ ⟨_, rfl, g2.trans g3⟩
  rcases hd with ⟨rfl, ht⟩ | ⟨rfl, ht⟩
  · simp only [Tabs.m, putD, wSs, wS, wE, wEs, wAnd, wOr, wT, wAndT, wOrT, wO, wC, wI, setAll, w_add, w_adds, w_addt, w_addl, w_sub, w_mul, w_mull, w_div, w_mod, w_pow, w_shl, w_eq, w_ne, w_in, w_nin, w_lt, w_le, w_gt, w_ge, w_is, w_isn, w_eqi, w_eqs, w_eqb, w_tn, w_tb, w_ti, w_tt, w_it, w_if, w_is', w_il, w_st, w_ss, w_sl, w_lent, w_lenf, w_lens, w_lenl, w_tupt, w_tupl, w_lstt, w_lstl, w_stri, w_strs, w_inti, w_intb, w_min2, w_max2, w_abs, w_all, w_any, w_sum, w_join, w_app, w_ext, w_pop, w_tyj, w_mult, w_dict, w_dcopy, w_dkeys, w_dlen, w_dgetN, w_dget2, w_dget2s, w_tyd, w_zipt, w_zipl, w_tpq, w_key, w_keys, getD_new, w_tya, w_tye, w_typ, w_isin, w_isib, w_isii, w_isis, w_isit, w_ont, w_onf, w_ons, w_onl, w_rng1, w_rng2, w_nm, w_tp, Option.some.injEq, exists_eq_left', exists_eq_left, exists_eq, exists_eq', List.getElem?_cons_zero, List.getElem?_cons_succ, List.set_cons_zero, List.set_cons_succ, List.map_cons, List.map_nil, List.cons_append, List.nil_append, List.length_cons, List.length_nil, M.int.injEq, M.ref.injEq, M.str.injEq, M.bl.injEq, M.tup.injEq, List.replicate, Nat.reduceSub, Nat.reduceAdd, true_and, and_true, exists_and_left, exists_and_right, at_0, at_1, at_2, at_3, at_4, Nat.reduceLT, List.length_set, MO.lst.injEq, ix_0, ix_1, ix_2, beq_iff_eq, reduceCtorEq, if_true, if_false, ite_true, ite_false, getL_new, wipeE, Bool.false_eq_true, decide_true, decide_false, Bool.not_true, Bool.not_false, ne_read_write, ne_read_end, ne_write_read, ne_write_end, ne_end_read, ne_end_write, ne_told_read, ne_told_write, ne_told_end, ne_tables_once, ne_tables_twice, ne_tables_handed, ne_tables_signs, ne_tables_shared, ne_look_put, ne_put_look]
    have z := body
    simp only [p_law_right, Tabs.m, putD, tabM, wSs, wS, wE, wEs, wAnd, wOr, wT, wAndT, wOrT, wO, wC, wI, setAll, w_add, w_adds, w_addt, w_addl, w_sub, w_mul, w_mull, w_div, w_mod, w_pow, w_shl, w_eq, w_ne, w_in, w_nin, w_lt, w_le, w_gt, w_ge, w_is, w_isn, w_eqi, w_eqs, w_eqb, w_tn, w_tb, w_ti, w_tt, w_it, w_if, w_is', w_il, w_st, w_ss, w_sl, w_lent, w_lenf, w_lens, w_lenl, w_tupt, w_tupl, w_lstt, w_lstl, w_stri, w_strs, w_inti, w_intb, w_min2, w_max2, w_abs, w_all, w_any, w_sum, w_join, w_app, w_ext, w_pop, w_tyj, w_mult, w_dict, w_dcopy, w_dkeys, w_dlen, w_dgetN, w_dget2, w_dget2s, w_tyd, w_zipt, w_zipl, w_tpq, w_key, w_keys, getD_new, w_tya, w_tye, w_typ, w_isin, w_isib, w_isii, w_isis, w_isit, w_ont, w_onf, w_ons, w_onl, w_rng1, w_rng2, w_nm, w_tp, Option.some.injEq, exists_eq_left', exists_eq_left, exists_eq, exists_eq', List.getElem?_cons_zero, List.getElem?_cons_succ, List.set_cons_zero, List.set_cons_succ, List.map_cons, List.map_nil, List.cons_append, List.nil_append, List.length_cons, List.length_nil, M.int.injEq, M.ref.injEq, M.str.injEq, M.bl.injEq, M.tup.injEq, List.replicate, Nat.reduceSub, Nat.reduceAdd, true_and, and_true, exists_and_left, exists_and_right, at_0, at_1, at_2, at_3, at_4, Nat.reduceLT, List.length_set, MO.lst.injEq, ix_0, ix_1, ix_2, beq_iff_eq, reduceCtorEq, if_true, if_false, ite_true, ite_false, getL_new, wipeE, Bool.false_eq_true, decide_true, decide_false, Bool.not_true, Bool.not_false, ne_read_write, ne_read_end, ne_write_read, ne_write_end, ne_end_read, ne_end_write, ne_told_read, ne_told_write, ne_told_end, ne_tables_once, ne_tables_twice, ne_tables_handed, ne_tables_signs, ne_tables_shared, ne_look_put, ne_put_look] at z
    exact ⟨_, at_3, _, atI_nat (by rw [List.getElem?_map, ht]; rfl), rng_small (by decide) (by decide), z⟩
  · simp only [Tabs.m, lookD, wSs, wS, wE, wEs, wAnd, wOr, wT, wAndT, wOrT, wO, wC, wI, setAll, w_add, w_adds, w_addt, w_addl, w_sub, w_mul, w_mull, w_div, w_mod, w_pow, w_shl, w_eq, w_ne, w_in, w_nin, w_lt, w_le, w_gt, w_ge, w_is, w_isn, w_eqi, w_eqs, w_eqb, w_tn, w_tb, w_ti, w_tt, w_it, w_if, w_is', w_il, w_st, w_ss, w_sl, w_lent, w_lenf, w_lens, w_lenl, w_tupt, w_tupl, w_lstt, w_lstl, w_stri, w_strs, w_inti, w_intb, w_min2, w_max2, w_abs, w_all, w_any, w_sum, w_join, w_app, w_ext, w_pop, w_tyj, w_mult, w_dict, w_dcopy, w_dkeys, w_dlen, w_dgetN, w_dget2, w_dget2s, w_tyd, w_zipt, w_zipl, w_tpq, w_key, w_keys, getD_new, w_tya, w_tye, w_typ, w_isin, w_isib, w_isii, w_isis, w_isit, w_ont, w_onf, w_ons, w_onl, w_rng1, w_rng2, w_nm, w_tp, Option.some.injEq, exists_eq_left', exists_eq_left, exists_eq, exists_eq', List.getElem?_cons_zero, List.getElem?_cons_succ, List.set_cons_zero, List.set_cons_succ, List.map_cons, List.map_nil, List.cons_append, List.nil_append, List.length_cons, List.length_nil, M.int.injEq, M.ref.injEq, M.str.injEq, M.bl.injEq, M.tup.injEq, List.replicate, Nat.reduceSub, Nat.reduceAdd, true_and, and_true, exists_and_left, exists_and_right, at_0, at_1, at_2, at_3, at_4, Nat.reduceLT, List.length_set, MO.lst.injEq, ix_0, ix_1, ix_2, beq_iff_eq, reduceCtorEq, if_true, if_false, ite_true, ite_false, getL_new, wipeE, Bool.false_eq_true, decide_true, decide_false, Bool.not_true, Bool.not_false, ne_read_write, ne_read_end, ne_write_read, ne_write_end, ne_end_read, ne_end_write, ne_told_read, ne_told_write, ne_told_end, ne_tables_once, ne_tables_twice, ne_tables_handed, ne_tables_signs, ne_tables_shared, ne_look_put, ne_put_look]
    have z := body
    simp only [p_law_right, Tabs.m, lookD, tabM, wSs, wS, wE, wEs, wAnd, wOr, wT, wAndT, wOrT, wO, wC, wI, setAll, w_add, w_adds, w_addt, w_addl, w_sub, w_mul, w_mull, w_div, w_mod, w_pow, w_shl, w_eq, w_ne, w_in, w_nin, w_lt, w_le, w_gt, w_ge, w_is, w_isn, w_eqi, w_eqs, w_eqb, w_tn, w_tb, w_ti, w_tt, w_it, w_if, w_is', w_il, w_st, w_ss, w_sl, w_lent, w_lenf, w_lens, w_lenl, w_tupt, w_tupl, w_lstt, w_lstl, w_stri, w_strs, w_inti, w_intb, w_min2, w_max2, w_abs, w_all, w_any, w_sum, w_join, w_app, w_ext, w_pop, w_tyj, w_mult, w_dict, w_dcopy, w_dkeys, w_dlen, w_dgetN, w_dget2, w_dget2s, w_tyd, w_zipt, w_zipl, w_tpq, w_key, w_keys, getD_new, w_tya, w_tye, w_typ, w_isin, w_isib, w_isii, w_isis, w_isit, w_ont, w_onf, w_ons, w_onl, w_rng1, w_rng2, w_nm, w_tp, Option.some.injEq, exists_eq_left', exists_eq_left, exists_eq, exists_eq', List.getElem?_cons_zero, List.getElem?_cons_succ, List.set_cons_zero, List.set_cons_succ, List.map_cons, List.map_nil, List.cons_append, List.nil_append, List.length_cons, List.length_nil, M.int.injEq, M.ref.injEq, M.str.injEq, M.bl.injEq, M.tup.injEq, List.replicate, Nat.reduceSub, Nat.reduceAdd, true_and, and_true, exists_and_left, exists_and_right, at_0, at_1, at_2, at_3, at_4, Nat.reduceLT, List.length_set, MO.lst.injEq, ix_0, ix_1, ix_2, beq_iff_eq, reduceCtorEq, if_true, if_false, ite_true, ite_false, getL_new, wipeE, Bool.false_eq_true, decide_true, decide_false, Bool.not_true, Bool.not_false, ne_read_write, ne_read_end, ne_write_read, ne_write_end, ne_end_read, ne_end_write, ne_told_read, ne_told_write, ne_told_end, ne_tables_once, ne_tables_twice, ne_tables_handed, ne_tables_signs, ne_tables_shared, ne_look_put, ne_put_look] at z
    exact ⟨_, at_4, _, atI_nat (by rw [List.getElem?_map, ht]; rfl), rng_small (by decide) (by decide), z⟩
end
theorem law_ok (ns : List Int) (h : ns.length ≤ 63) : Sem prog (fun _ => .non) 40 k_law [.fz (ns.map M.int)] [] (fun v _ => v = .bl true) (fun _ _ => False) := by
  refine ⟨p_law, rfl, ?_⟩
  have hsz := sizeL
  simp only [wF, p_law, startE]
  try simp only [wSs, wS, wE, wEs, wAnd, wOr, wT, wAndT, wOrT, wO, wC, wI, setAll, w_add, w_adds, w_addt, w_addl, w_sub, w_mul, w_mull, w_div, w_mod, w_pow, w_shl, w_eq, w_ne, w_in, w_nin, w_lt, w_le, w_gt, w_ge, w_is, w_isn, w_eqi, w_eqs, w_eqb, w_tn, w_tb, w_ti, w_tt, w_it, w_if, w_is', w_il, w_st, w_ss, w_sl, w_lent, w_lenf, w_lens, w_lenl, w_tupt, w_tupl, w_lstt, w_lstl, w_stri, w_strs, w_inti, w_intb, w_min2, w_max2, w_abs, w_all, w_any, w_sum, w_join, w_app, w_ext, w_pop, w_tyj, w_mult, w_dict, w_dcopy, w_dkeys, w_dlen, w_dgetN, w_dget2, w_dget2s, w_tyd, w_zipt, w_zipl, w_tpq, w_key, w_keys, getD_new, w_tya, w_tye, w_typ, w_isin, w_isib, w_isii, w_isis, w_isit, w_ont, w_onf, w_ons, w_onl, w_rng1, w_rng2, w_nm, w_tp, Option.some.injEq, exists_eq_left', exists_eq_left, exists_eq, exists_eq', List.getElem?_cons_zero, List.getElem?_cons_succ, List.set_cons_zero, List.set_cons_succ, List.map_cons, List.map_nil, List.cons_append, List.nil_append, List.length_cons, List.length_nil, M.int.injEq, M.ref.injEq, M.str.injEq, M.bl.injEq, M.tup.injEq, List.replicate, Nat.reduceSub, Nat.reduceAdd, true_and, and_true, exists_and_left, exists_and_right, at_0, at_1, at_2, at_3, at_4, Nat.reduceLT, List.length_set, MO.lst.injEq, ix_0, ix_1, ix_2, beq_iff_eq, reduceCtorEq, if_true, if_false, ite_true, ite_false, getL_new, wipeE, Bool.false_eq_true, decide_true, decide_false, Bool.not_true, Bool.not_false, List.length_map]
  have e1 : ∃ c : Int, (if (if 4 < (ns.length : Int) then 4 else (ns.length : Int)) > 1 then if 4 < (ns.length : Int) then 4 else (ns.length : Int) else 1) = c ∧ 0 ≤ c ∧ c ≤ 12 := ⟨_, rfl, by omega, by omega⟩
  obtain ⟨c, e1, c0, c1⟩ := e1
  rw [e1]
  refine ⟨rng_small c0 (by omega), ?_⟩
  refine for_inv (fun i e h' => ∃ a1 a2 a3 a4 a5 a6 a7, e = [some (M.fz (List.map M.int ns)), a1, a2, a3, a4, a5, a6, a7]) ⟨_, _, _, _, _, _, _, rfl⟩ (fun _ _ _ _ => trivial) (fun _ _ _ => trivial) ?_
  rintro i x e h' N hx ⟨a1, a2, a3, a4, a5, a6, a7, rfl⟩ kk
  obtain ⟨rfl, hi⟩ := rngL_get hx
  refine ⟨_, rfl, ?_⟩
  try simp only [wSs, wS, wE, wEs, wAnd, wOr, wT, wAndT, wOrT, wO, wC, wI, setAll, w_add, w_adds, w_addt, w_addl, w_sub, w_mul, w_mull, w_div, w_mod, w_pow, w_shl, w_eq, w_ne, w_in, w_nin, w_lt, w_le, w_gt, w_ge, w_is, w_isn, w_eqi, w_eqs, w_eqb, w_tn, w_tb, w_ti, w_tt, w_it, w_if, w_is', w_il, w_st, w_ss, w_sl, w_lent, w_lenf, w_lens, w_lenl, w_tupt, w_tupl, w_lstt, w_lstl, w_stri, w_strs, w_inti, w_intb, w_min2, w_max2, w_abs, w_all, w_any, w_sum, w_join, w_app, w_ext, w_pop, w_tyj, w_mult, w_dict, w_dcopy, w_dkeys, w_dlen, w_dgetN, w_dget2, w_dget2s, w_tyd, w_zipt, w_zipl, w_tpq, w_key, w_keys, getD_new, w_tya, w_tye, w_typ, w_isin, w_isib, w_isii, w_isis, w_isit, w_ont, w_onf, w_ons, w_onl, w_rng1, w_rng2, w_nm, w_tp, Option.some.injEq, exists_eq_left', exists_eq_left, exists_eq, exists_eq', List.getElem?_cons_zero, List.getElem?_cons_succ, List.set_cons_zero, List.set_cons_succ, List.map_cons, List.map_nil, List.cons_append, List.nil_append, List.length_cons, List.length_nil, M.int.injEq, M.ref.injEq, M.str.injEq, M.bl.injEq, M.tup.injEq, List.replicate, Nat.reduceSub, Nat.reduceAdd, true_and, and_true, exists_and_left, exists_and_right, at_0, at_1, at_2, at_3, at_4, Nat.reduceLT, List.length_set, MO.lst.injEq, ix_0, ix_1, ix_2, beq_iff_eq, reduceCtorEq, if_true, if_false, ite_true, ite_false, getL_new, wipeE, Bool.false_eq_true, decide_true, decide_false, Bool.not_true, Bool.not_false]
  refine hand_ok (d := p_law_hand) rfl rfl rfl (by omega) (by omega) fun o ho => ?_
  have g0 : GK h'.length (h' ++ [o]) (h' ++ [o]) 0 := ⟨.refl _ _, ho⟩
  try simp only [wSs, wS, wE, wEs, wAnd, wOr, wT, wAndT, wOrT, wO, wC, wI, setAll, w_add, w_adds, w_addt, w_addl, w_sub, w_mul, w_mull, w_div, w_mod, w_pow, w_shl, w_eq, w_ne, w_in, w_nin, w_lt, w_le, w_gt, w_ge, w_is, w_isn, w_eqi, w_eqs, w_eqb, w_tn, w_tb, w_ti, w_tt, w_it, w_if, w_is', w_il, w_st, w_ss, w_sl, w_lent, w_lenf, w_lens, w_lenl, w_tupt, w_tupl, w_lstt, w_lstl, w_stri, w_strs, w_inti, w_intb, w_min2, w_max2, w_abs, w_all, w_any, w_sum, w_join, w_app, w_ext, w_pop, w_tyj, w_mult, w_dict, w_dcopy, w_dkeys, w_dlen, w_dgetN, w_dget2, w_dget2s, w_tyd, w_zipt, w_zipl, w_tpq, w_key, w_keys, getD_new, w_tya, w_tye, w_typ, w_isin, w_isib, w_isii, w_isis, w_isit, w_ont, w_onf, w_ons, w_onl, w_rng1, w_rng2, w_nm, w_tp, Option.some.injEq, exists_eq_left', exists_eq_left, exists_eq, exists_eq', List.getElem?_cons_zero, List.getElem?_cons_succ, List.set_cons_zero, List.set_cons_succ, List.map_cons, List.map_nil, List.cons_append, List.nil_append, List.length_cons, List.length_nil, M.int.injEq, M.ref.injEq, M.str.injEq, M.bl.injEq, M.tup.injEq, List.replicate, Nat.reduceSub, Nat.reduceAdd, true_and, and_true, exists_and_left, exists_and_right, at_0, at_1, at_2, at_3, at_4, Nat.reduceLT, List.length_set, MO.lst.injEq, ix_0, ix_1, ix_2, beq_iff_eq, reduceCtorEq, if_true, if_false, ite_true, ite_false, getL_new, wipeE, Bool.false_eq_true, decide_true, decide_false, Bool.not_true, Bool.not_false]
  have hk1 : (h' ++ [o]).length ≠ h'.length := by simp
  refine pk tabs_at.take tabs_at.pick g0.app (by decide) get_new hk1 (by simp) (by simp) fun v h1 hv g1 => ?_
  have hv' : ∃ a b : Int, v = .tup [.int a, .int b] ∧ 0 < a ∧ a ≤ 5 ∧ 0 < b ∧ b ≤ 10 := by
    simp only [List.mem_cons, List.not_mem_nil, or_false] at hv
    rcases hv with rfl | rfl | rfl | rfl | rfl | rfl
    all_goals exact ⟨_, _, rfl, by decide, by decide, by decide, by decide⟩
  obtain ⟨a, b, rfl, a0, a1', b0, b1⟩ := hv'
  have hk2 : h1.length ≠ h'.length := by have := g1.lt; omega
  refine tk tabs_at.take (g1.app (t := [MO.lst [M.int 6, M.int 40]])).self (by decide) (by decide) (by decide) fun x1 h2 x0 x1' g2 => ?_
  have gm := g2.get hk2 get_new
  have hmost : ∃ most : Int, 2 ≤ most ∧ most ≤ 40 ∧ atI [M.int 6, M.int 40] (if decide (x1 = 0) = true then 1 else 0) = some (.int most) := by
    by_cases z : x1 = 0
    · exact ⟨40, by decide, by decide, by rw [if_pos (by simpa using z)]; exact at_1⟩
    · exact ⟨6, by decide, by decide, by rw [if_neg (by simpa using z)]; exact at_0⟩
  obtain ⟨most, m0, m1, hm⟩ := hmost
  refine ⟨_, w_eqi, _, getL_of gm, _, hm, ?_⟩
  refine tk tabs_at.take g2 (by decide) (by decide) (by decide) fun x2 h3 _ _ g3 => ?_
  refine ⟨_, w_eqi, ?_⟩
  refine tables_gen tabs_at g3 (by decide) a0 a1' b0 b1 m0 m1 fun T h4 e1 e2 ok g4 => ?_
  try simp only [wSs, wS, wE, wEs, wAnd, wOr, wT, wAndT, wOrT, wO, wC, wI, setAll, w_add, w_adds, w_addt, w_addl, w_sub, w_mul, w_mull, w_div, w_mod, w_pow, w_shl, w_eq, w_ne, w_in, w_nin, w_lt, w_le, w_gt, w_ge, w_is, w_isn, w_eqi, w_eqs, w_eqb, w_tn, w_tb, w_ti, w_tt, w_it, w_if, w_is', w_il, w_st, w_ss, w_sl, w_lent, w_lenf, w_lens, w_lenl, w_tupt, w_tupl, w_lstt, w_lstl, w_stri, w_strs, w_inti, w_intb, w_min2, w_max2, w_abs, w_all, w_any, w_sum, w_join, w_app, w_ext, w_pop, w_tyj, w_mult, w_dict, w_dcopy, w_dkeys, w_dlen, w_dgetN, w_dget2, w_dget2s, w_tyd, w_zipt, w_zipl, w_tpq, w_key, w_keys, getD_new, w_tya, w_tye, w_typ, w_isin, w_isib, w_isii, w_isis, w_isit, w_ont, w_onf, w_ons, w_onl, w_rng1, w_rng2, w_nm, w_tp, Option.some.injEq, exists_eq_left', exists_eq_left, exists_eq, exists_eq', List.getElem?_cons_zero, List.getElem?_cons_succ, List.set_cons_zero, List.set_cons_succ, List.map_cons, List.map_nil, List.cons_append, List.nil_append, List.length_cons, List.length_nil, M.int.injEq, M.ref.injEq, M.str.injEq, M.bl.injEq, M.tup.injEq, List.replicate, Nat.reduceSub, Nat.reduceAdd, true_and, and_true, exists_and_left, exists_and_right, at_0, at_1, at_2, at_3, at_4, Nat.reduceLT, List.length_set, MO.lst.injEq, ix_0, ix_1, ix_2, beq_iff_eq, reduceCtorEq, if_true, if_false, ite_true, ite_false, getL_new, wipeE, Bool.false_eq_true, decide_true, decide_false, Bool.not_true, Bool.not_false]
  refine ⟨rng_small (by omega) (by omega), ?_⟩
  have hTp := ok.pl
  have hTl := ok.ll
  refine for_inv (fun i e hh => ∃ a6 a7 y1, e = [some (M.fz (List.map M.int ns)), y1, some (.ref h'.length), some (.tup [.int a, .int b]), some (.int most), some T.m, a6, a7] ∧ GK h'.length (h1 ++ [MO.lst [M.int 6, M.int 40]]) hh (40000 + 200 * i)) ⟨_, _, _, rfl, g4.mono (by decide)⟩ (fun _ _ _ _ => trivial) ?_ ?_
  · rintro e hh ⟨a6, a7, y1, rfl, g5⟩
    exact kk _ _ ⟨_, _, _, _, _, _, _, rfl⟩
  · rintro j y e hh N1 hy ⟨a6, a7, y1, rfl, g5⟩ kk1
    obtain ⟨rfl, hj⟩ := rngL_get hy
    refine ⟨_, rfl, ?_⟩
    have ej : (0 + (j : Int)) = j := by omega
    rw [ej]
    try simp only [wSs, wS, wE, wEs, wAnd, wOr, wT, wAndT, wOrT, wO, wC, wI, setAll, w_add, w_adds, w_addt, w_addl, w_sub, w_mul, w_mull, w_div, w_mod, w_pow, w_shl, w_eq, w_ne, w_in, w_nin, w_lt, w_le, w_gt, w_ge, w_is, w_isn, w_eqi, w_eqs, w_eqb, w_tn, w_tb, w_ti, w_tt, w_it, w_if, w_is', w_il, w_st, w_ss, w_sl, w_lent, w_lenf, w_lens, w_lenl, w_tupt, w_tupl, w_lstt, w_lstl, w_stri, w_strs, w_inti, w_intb, w_min2, w_max2, w_abs, w_all, w_any, w_sum, w_join, w_app, w_ext, w_pop, w_tyj, w_mult, w_dict, w_dcopy, w_dkeys, w_dlen, w_dgetN, w_dget2, w_dget2s, w_tyd, w_zipt, w_zipl, w_tpq, w_key, w_keys, getD_new, w_tya, w_tye, w_typ, w_isin, w_isib, w_isii, w_isis, w_isit, w_ont, w_onf, w_ons, w_onl, w_rng1, w_rng2, w_nm, w_tp, Option.some.injEq, exists_eq_left', exists_eq_left, exists_eq, exists_eq', List.getElem?_cons_zero, List.getElem?_cons_succ, List.set_cons_zero, List.set_cons_succ, List.map_cons, List.map_nil, List.cons_append, List.nil_append, List.length_cons, List.length_nil, M.int.injEq, M.ref.injEq, M.str.injEq, M.bl.injEq, M.tup.injEq, List.replicate, Nat.reduceSub, Nat.reduceAdd, true_and, and_true, exists_and_left, exists_and_right, at_0, at_1, at_2, at_3, at_4, Nat.reduceLT, List.length_set, MO.lst.injEq, ix_0, ix_1, ix_2, beq_iff_eq, reduceCtorEq, if_true, if_false, ite_true, ite_false, getL_new, wipeE, Bool.false_eq_true, decide_true, decide_false, Bool.not_true, Bool.not_false]
    have hk5 : hh.length ≠ h'.length := by have := g5.lt; omega
    generalize hL : hh ++ [MO.lst [M.tup [M.str [112, 117, 116], M.int j, M.int 1], M.tup [M.str [108, 111, 111, 107]]]] = hB
    have gB : GK h'.length hB hB (40000 + 200 * j) := by subst hL; exact g5.app.self
    have gH : hB[hh.length]? = some (.lst [M.tup [M.str [112, 117, 116], M.int j, M.int 1], M.tup [M.str [108, 111, 111, 107]]]) := by subst hL; exact get_new
    have gT : GK h'.length (h1 ++ [MO.lst [M.int 6, M.int 40]]) hB (40000 + 200 * j) := by subst hL; exact g5.app
    refine for_inv (fun m e h6 => ∃ a7, e = [some (M.fz (List.map M.int ns)), y1, some (.ref h'.length), some (.tup [.int a, .int b]), some (.int most), some T.m, some (.int j), a7] ∧ GK h'.length hB h6 (40000 + 200 * j + 70 * m)) ⟨_, rfl, gB.mono (by omega)⟩
      (fun m e h6 ⟨_, _, g6⟩ => getL_of (g6.get hk5 gH)) ?_ ?_
    · rintro e h6 ⟨a7', rfl, g6⟩
      exact kk1 _ _ ⟨_, _, _, rfl, (gT.trans g6).mono (by simp; omega)⟩
    · rintro m y e h6 N2 hy2 ⟨a7', rfl, g6⟩ kk2
      refine ⟨_, rfl, ?_⟩
      have hm2 : m < 2 := by have := (List.getElem?_eq_some_iff.mp hy2).1; simpa using this
      have hdT : ∃ tab, deedT T y j tab ∧ TabOk (FinE T.hands) (decide (x2 = 0)) T.boxes tab := by
        rcases (by omega : m = 0 ∨ m = 1) with rfl | rfl
        · have hl : j < T.puts.length := by omega
          refine ⟨T.puts[j], .inl ⟨(Option.some.inj hy2).symm, List.getElem?_eq_getElem hl⟩, (ok.po _ (List.getElem_mem hl)).weak fun _ z => .inl z⟩
        · have hl : j < T.looks.length := by omega
          refine ⟨T.looks[j], .inr ⟨(Option.some.inj hy2).symm, List.getElem?_eq_getElem hl⟩, (ok.lo _ (List.getElem_mem hl)).weak fun _ z => .inr z⟩
      obtain ⟨tab, hd, hto⟩ := hdT
      try simp only [wSs, wS, wE, wEs, wAnd, wOr, wT, wAndT, wOrT, wO, wC, wI, setAll, w_add, w_adds, w_addt, w_addl, w_sub, w_mul, w_mull, w_div, w_mod, w_pow, w_shl, w_eq, w_ne, w_in, w_nin, w_lt, w_le, w_gt, w_ge, w_is, w_isn, w_eqi, w_eqs, w_eqb, w_tn, w_tb, w_ti, w_tt, w_it, w_if, w_is', w_il, w_st, w_ss, w_sl, w_lent, w_lenf, w_lens, w_lenl, w_tupt, w_tupl, w_lstt, w_lstl, w_stri, w_strs, w_inti, w_intb, w_min2, w_max2, w_abs, w_all, w_any, w_sum, w_join, w_app, w_ext, w_pop, w_tyj, w_mult, w_dict, w_dcopy, w_dkeys, w_dlen, w_dgetN, w_dget2, w_dget2s, w_tyd, w_zipt, w_zipl, w_tpq, w_key, w_keys, getD_new, w_tya, w_tye, w_typ, w_isin, w_isib, w_isii, w_isis, w_isit, w_ont, w_onf, w_ons, w_onl, w_rng1, w_rng2, w_nm, w_tp, Option.some.injEq, exists_eq_left', exists_eq_left, exists_eq, exists_eq', List.getElem?_cons_zero, List.getElem?_cons_succ, List.set_cons_zero, List.set_cons_succ, List.map_cons, List.map_nil, List.cons_append, List.nil_append, List.length_cons, List.length_nil, M.int.injEq, M.ref.injEq, M.str.injEq, M.bl.injEq, M.tup.injEq, List.replicate, Nat.reduceSub, Nat.reduceAdd, true_and, and_true, exists_and_left, exists_and_right, at_0, at_1, at_2, at_3, at_4, Nat.reduceLT, List.length_set, MO.lst.injEq, ix_0, ix_1, ix_2, beq_iff_eq, reduceCtorEq, if_true, if_false, ite_true, ite_false, getL_new, wipeE, Bool.false_eq_true, decide_true, decide_false, Bool.not_true, Bool.not_false]
      refine right_ok hd hto (by omega) (by omega) g6 (by omega) fun h7 g7 => ?_
      refine ⟨true, rfl, ?_⟩
      rw [if_neg (by decide)]
      exact kk2 _ _ ⟨_, rfl, g7.mono (by push_cast; omega)⟩
end Wg
open PySem PySem.Spec PyProof.Rows
set_option linter.all false
set_option Elab.async false
set_option maxRecDepth 100000
set_option maxHeartbeats 0
open PySem PySem.W PySem.Calls PyProof.Rows
theorem PySem.Challenge.cw_wholeglance_k73_steps_by_tables_holds : PySem.Challenge.rw_wholeglance_k73_steps_by_tables.Holds := by
  w_on; o_law
  refine HandSHeadRun.head_any (r := OpenLaw.row PySem.Challenge.rw_wholeglance_k73_steps_by_tables) (q := view (OpenLaw.row PySem.Challenge.rw_wholeglance_k73_steps_by_tables).prog [55]) (H := Wg.hk) (ob := Wg.ob) (M := 4000) (loose := Wg.names) (d := HandSHeadRun.topDef (OpenLaw.row PySem.Challenge.rw_wholeglance_k73_steps_by_tables).prog 55) (kwd := []) Wg.ob_eq
    (by kernel_rfl) (fun s => by kernel_rfl) Wg.run (by kernel_rfl) (by kernel_rfl) (by kernel_rfl) (by rfl) (by first | assumption | decide +kernel) (by decide +kernel) ⟨rfl, rfl, rfl, rfl, rfl, by decide +kernel⟩ ?hw ?hc
  case hw => w_witness2
  case hc =>
    refine L2.walk_ofE (l := PySem.Challenge.rw_wholeglance_k73_steps_by_tables) (n := 63) (k := 40) (x := "_law_script") (CX := L2.CX0) rfl (by decide) (by kernel_rfl) ⟨rfl, by decide, by decide⟩ ?F (fun _ _ _ _ z => z)
    intro w mg fa h Y G hmg0
    obtain ⟨K, KX, c⟩ := Y
    have hmg : mg ("law" : PySem.Str) = some (.ref fa) := by
      have e : (HandSHeadRun.topDef (OpenLaw.row PySem.Challenge.rw_wholeglance_k73_steps_by_tables).prog 55).name = ("law" : PySem.Str) := by kernel_rfl
      rw [← e]
      exact hmg0
    exact Wg.law_fn (d := Wg.p_law) (x := "_law_script") 40 KX (Wg.facts KX G c) rfl hmg rfl Wg.law_ok
