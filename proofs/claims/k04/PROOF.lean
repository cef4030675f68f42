import PyProof.Rows.All
import PySem.Challenge.RW_losslines_k04_what_is_above_both
import Wide.All
import OpenK.AllK
import Wide.FinOn
import KE.KStateDown
import Lean
import HandS.ForMost
import HandS.ForExc
import HandS.More
import HandS.Defaults
import HandS.Deep
import HandS.StrMore
import HandS.TupLe
import HandS.TupAny
import HandS.TupMul
import HandS.IsInst
import HandS.Style
import HandS.Zip
import HandS.Replace
import HandS.RaiseMore
import HandS.FStr
import HandS.CallLocal
import HandS.Codes
import KE.GoesEnum
import KE.GoesZip
import KE.GoesMore
import KE.LtData
import HandS.HeadHook2
import HandS.HeadEnd
import HandS.Head0
import HandS.Head1
import HandS.Head2
import HandS.HeadHook1
/-! LLCore: values, resolved syntax, a total evaluator. Core Lean alone. -/
set_option autoImplicit false
namespace LL

abbrev Cs := List Nat

/-- a value: trees; obj: an instance in the store; scr: the script -/
inductive T where
  | non
  | bl (b : Bool)
  | int (i : Int)
  | str (s : Cs)
  | tup (xs : List T)
  | lst (xs : List T)
  | obj (n : Nat)
  | fn (f : Nat)
  | scr (ns : List Int)

/-- what a slot holds: a value, or a list of the store that may change -/
inductive W where
  | t (v : T)
  | l (n : Nat)

/-- what an expression gives: a value, a list of the store, a new list that nobody else holds -/
inductive Rv where
  | v (t : T)
  | l (n : Nat)
  | new (xs : List T)

structure Inst where
  cls : Nat
  fs : List (Nat × T)

structure Sto where
  L : List (List T)
  O : List Inst

inductive Res (α : Type) where
  | ok (a : α) (s : Sto)
  | exc (c : Nat) (s : Sto)
  | bad

def M (α : Type) := Sto → Res α
@[inline] def M.pure {α : Type} (a : α) : M α := fun s => .ok a s
@[inline] def M.bind {α β : Type} (m : M α) (f : α → M β) : M β := fun s => match m s with
  | .ok a s' => f a s'
  | .exc c s' => .exc c s'
  | .bad => .bad
instance : Monad M where
  pure := M.pure
  bind := M.bind
def M.bad {α : Type} : M α := fun _ => .bad
def M.exc {α : Type} (c : Nat) : M α := fun s => .exc c s
def M.get : M Sto := fun s => .ok s s
def M.set (s : Sto) : M Unit := fun _ => .ok () s
def M.opt {α : Type} : Option α → M α
  | some a => M.pure a
  | none => M.bad
/-- no error comes out of it -/
def M.nox {α : Type} (m : M α) : M α := fun s => match m s with
  | .exc _ _ => .bad
  | r => r
def M.guard (b : Bool) : M Unit := if b then M.pure () else M.bad

/-- the model's line of sizes -/
def SZ : Nat := 16777216

/-! ### equality, order -/
mutual
def T.beq : T → T → Bool
  | .non, .non => true
  | .bl a, .bl b => a == b
  | .int a, .int b => a == b
  | .str a, .str b => a == b
  | .tup xs, .tup ys => T.beqs xs ys
  | .lst xs, .lst ys => T.beqs xs ys
  | .obj a, .obj b => a == b
  | .fn a, .fn b => a == b
  | .scr a, .scr b => a == b
  | _, _ => false
def T.beqs : List T → List T → Bool
  | [], [] => true
  | x :: xs, y :: ys => T.beq x y && T.beqs xs ys
  | _, _ => false
end
mutual
/-- data that == may be asked of: no objects, no defs -/
def T.data : T → Bool
  | .tup xs => T.datas xs
  | .lst xs => T.datas xs
  | .obj _ => false
  | .fn _ => false
  | .scr _ => false
  | _ => true
def T.datas : List T → Bool
  | [] => true
  | x :: xs => x.data && T.datas xs
end
mutual
/-- no place where a truth value meets a number -/
def T.calm : T → T → Bool
  | .bl _, .int _ => false
  | .int _, .bl _ => false
  | .tup xs, .tup ys => T.calms xs ys
  | .lst xs, .lst ys => T.calms xs ys
  | _, _ => true
def T.calms : List T → List T → Bool
  | x :: xs, y :: ys => T.calm x y && T.calms xs ys
  | _, _ => true
end
mutual
def T.depth : T → Nat
  | .tup xs => T.depths xs + 1
  | .lst xs => T.depths xs + 1
  | _ => 0
def T.depths : List T → Nat
  | [] => 0
  | x :: xs => max x.depth (T.depths xs)
end
def T.eqOk (a b : T) : Bool := a.data && b.data && T.calm a b && decide (min a.depth b.depth ≤ 60)

mutual
/-- may be ordered: ints, texts, tuples of such, place by place of one kind -/
def T.alike : T → T → Bool
  | .int _, .int _ => true
  | .str _, .str _ => true
  | .tup xs, .tup ys => T.alikes xs ys
  | _, _ => false
def T.alikes : List T → List T → Bool
  | x :: xs, y :: ys => T.alike x y && T.alikes xs ys
  | _, _ => true
end
def T.ltOk (a b : T) : Bool := T.alike a b && a.data && b.data && decide (min a.depth b.depth ≤ 60)
def csLt : Cs → Cs → Bool
  | [], [] => false
  | [], _ :: _ => true
  | _ :: _, [] => false
  | a :: s, b :: t => if a = b then csLt s t else decide (a < b)
mutual
def T.lt : T → T → Bool
  | .int a, .int b => decide (a < b)
  | .str a, .str b => csLt a b
  | .tup xs, .tup ys => T.lts xs ys
  | _, _ => false
def T.lts : List T → List T → Bool
  | [], [] => false
  | [], _ :: _ => true
  | _ :: _, [] => false
  | x :: xs, y :: ys => if T.beq x y then T.lts xs ys else T.lt x y
end

/-! ### the store -/
def Rv.w : Rv → W
  | .v t => .t t
  | .l n => .l n
  | .new xs => .t (.lst xs)
/-- a value for a container -/
def Rv.tree : Rv → M T
  | .v t => M.pure t
  | .l _ => M.bad
  | .new xs => M.pure (.lst xs)
def Rv.val (t : T) : M Rv := M.pure (.v t)
def lstAt (s : Sto) : W → Option (List T)
  | .t (.lst xs) => some xs
  | .l n => s.L[n]?
  | _ => none
def seqAt (s : Sto) : W → Option (List T)
  | .t (.lst xs) => some xs
  | .t (.tup xs) => some xs
  | .l n => s.L[n]?
  | _ => none
def Rv.lst (r : Rv) : M (List T) := fun s => M.opt (lstAt s r.w) s
def Rv.seq (r : Rv) : M (List T) := fun s => M.opt (seqAt s r.w) s
def T.isB : T → M Bool
  | .bl b => M.pure b
  | _ => M.bad
def T.isI : T → M Int
  | .int i => M.pure i
  | _ => M.bad
def T.isS : T → M Cs
  | .str s => M.pure s
  | _ => M.bad
def Rv.isB (r : Rv) : M Bool := r.tree >>= T.isB
def Rv.isI (r : Rv) : M Int := r.tree >>= T.isI
def Rv.isS (r : Rv) : M Cs := r.tree >>= T.isS
/-- a value as data: a list of the store by what it holds -/
def Rv.data (r : Rv) : M T := match r with
  | .v t => M.pure t
  | .new xs => M.pure (.lst xs)
  | .l n => fun s => (M.opt (s.L[n]?) >>= fun xs => M.pure (.lst xs)) s

/-! ### places -/
def ixOf (n : Nat) (i : Int) : Option Nat := if 0 ≤ i then (if i < n then some i.toNat else none) else if -(n : Int) ≤ i then some (i + n).toNat else none
def sIx (n d : Nat) : Option Int → Nat
  | none => d
  | some v => if v < 0 then (v + (n : Int)).toNat else min v.toNat n
def cut {α : Type} (xs : List α) (lo hi : Option Int) : List α := (xs.drop (sIx xs.length 0 lo)).take (sIx xs.length xs.length hi - sIx xs.length 0 lo)
def isWhole (n : Nat) (lo hi : Option Int) : Bool := sIx n 0 lo == 0 && sIx n n hi == n

/-! ### texts -/
/-- the first place of a sign from a place on -/
def findFrom (c : Nat) : Cs → Nat → Option Nat
  | [], _ => none
  | d :: s, i => if d = c then some i else findFrom c s (i + 1)
def findAt (s : Cs) (c : Nat) (i : Nat) : Int := match findFrom c (s.drop i) i with
  | some j => j
  | none => -1
def repeatCs (s : Cs) : Nat → Cs
  | 0 => []
  | n + 1 => s ++ repeatCs s n
def joinCs (sep : Cs) : List Cs → Cs
  | [] => []
  | [x] => x
  | x :: y :: r => x ++ sep ++ joinCs sep (y :: r)
def eraseFirst (c : Nat) : Cs → Cs
  | [] => []
  | d :: s => if d = c then s else d :: eraseFirst c s
def decDigits (n : Nat) : Cs := (Nat.toDigits 10 n).map Char.toNat
def decInt : Int → Cs
  | .ofNat n => decDigits n
  | .negSucc n => 45 :: decDigits (n + 1)
def insCs (x : Cs) : List Cs → List Cs
  | [] => [x]
  | y :: r => if csLt x y then x :: y :: r else y :: insCs x r
def sortCs : List Cs → List Cs
  | [] => []
  | x :: r => insCs x (sortCs r)
def splitOn (c : Nat) : Cs → Cs → List Cs
  | acc, [] => [acc.reverse]
  | acc, d :: s => if d = c then acc.reverse :: splitOn c [] s else splitOn c (d :: acc) s
def allStr : List T → Option (List Cs)
  | [] => some []
  | .str s :: r => (allStr r).map (s :: ·)
  | _ :: _ => none
def allBl : List T → Option (List Bool)
  | [] => some []
  | .bl s :: r => (allBl r).map (s :: ·)
  | _ :: _ => none
def allInt : List T → Option (List Int)
  | [] => some []
  | .int s :: r => (allInt r).map (s :: ·)
  | _ :: _ => none

/-! ### the resolved syntax -/
inductive BOp where
  | add | sub | mul | fdiv | mod | pow
inductive COp where
  | eq | ne | lt | le | gt | ge | is | isnot | isin | notin
inductive Ty where
  | int | bool | str | tuple | list
inductive Bi where
  | len | all | any | max | int | str | bool | tuple | list | sorted
inductive Me where
  | find | count | replace3 | replace2 | startswith | endswith | join | split | strip | isdigit | sindex | append | insert | pop0 | pop
inductive Tg where
  | n (i : Nat)
  | tp (is : List Nat)

mutual
inductive E where
  | var (i : Nat)
  | c (t : T)
  | glo (x : Nat)
  | fnr (f : Nat)
  | tup (es : Es)
  | lst (es : Es)
  | bin (op : BOp) (a b : E)
  | neg (a : E)
  | cmp (op : COp) (a b : E)
  | cmp2 (op op' : COp) (a b c : E)
  | and (a b : E)
  | or (a b : E)
  | not (a : E)
  | ite (t : Te) (a b : E)
  | call (f : Nat) (es : Es)
  | callv (i : Nat) (es : Es)
  | bi (b : Bi) (es : Es)
  | isi (a : E) (t : Ty)
  | me (m : Me) (o : E) (es : Es)
  | ix (a b : E)
  | sl (a : E) (lo hi : Eo)
  | rev (a : E)
  | lc (own : List Nat) (elt : E) (tg : Tg) (it : It) (cond : Tes)
  | lc2 (own own1 : List Nat) (elt : E) (tg : Tg) (it : It) (cond : Tes) (tg1 : Tg) (it1 : It) (cond1 : Tes)
inductive Es where
  | nil
  | cons (a : E) (r : Es)
inductive Eo where
  | no
  | yes (a : E)
inductive Te where
  | val (a : E)
  | and (a b : Te)
  | or (a b : Te)
  | not (a : Te)
/-- a clause's tests: none or one -/
inductive Tes where
  | no
  | yes (a : Te)
inductive It where
  | e (a : E)
  | rng (a : E)
  | rng2 (a b : E)
  | zip2 (a b : E)
  | zip3 (a b c : E)
  | enum (a : E)
end

mutual
inductive St where
  | asg (tg : Tg) (e : E)
  | new (i : Nat) (e : E)
  | par (i j : Nat) (a b : E)
  | sub (o i e : E)
  | aug (i : Nat) (op : BOp) (e : E)
  | ex (e : E)
  | ite (t : Te) (a b : Sts)
  | loop (tg : Tg) (it : It) (body : Sts)
  | while (t : Te) (body : Sts)
  | ret (e : E)
  | ret0
  | raise (c : Nat)
  | pass
inductive Sts where
  | nil
  | cons (a : St) (r : Sts)
end

structure Fun where
  np : Nat
  nv : Nat
  body : Sts

abbrev Env := List (Option W)
abbrev Callee := Nat → List W → M Rv

/-! ### operations on values -/
def binop (op : BOp) (a b : Rv) : M Rv := match op with
  | .add => match a, b with
    | .v (.int i), .v (.int j) => Rv.val (.int (i + j))
    | .v (.str x), .v (.str y) => do M.guard (decide (x.length + y.length ≤ SZ)); Rv.val (.str (x ++ y))
    | .v (.tup xs), .v (.tup ys) => do M.guard (decide (xs.length + ys.length ≤ SZ)); Rv.val (.tup (xs ++ ys))
    | _, _ => do
      let xs ← a.lst
      let ys ← b.lst
      M.guard (decide (xs.length + ys.length ≤ SZ))
      M.pure (.new (xs ++ ys))
  | .sub => do let i ← a.isI; let j ← b.isI; Rv.val (.int (i - j))
  | .mul => match a, b with
    | .v (.int i), .v (.int j) => do M.guard (decide (i.natAbs < 2 ^ 64 ∨ j.natAbs < 2 ^ 64)); Rv.val (.int (i * j))
    | .v (.str x), .v (.int j) => do M.guard (decide (0 ≤ j ∧ j ≤ 1000 ∧ x.length ≤ 1000)); Rv.val (.str (repeatCs x j.toNat))
    | .v (.tup xs), .v (.int j) => do M.guard (decide (2 ≤ j ∧ j ≤ 1000 ∧ xs.length ≤ 1000 ∧ xs ≠ [])); Rv.val (.tup (List.flatten (List.replicate j.toNat xs)))
    | _, _ => M.bad
  | .fdiv => do let i ← a.isI; let j ← b.isI; M.guard (decide (0 < j ∧ j < 1073741824)); Rv.val (.int (i / j))
  | .mod => do let i ← a.isI; let j ← b.isI; M.guard (decide (0 < j)); Rv.val (.int (i % j))
  | .pow => do let i ← a.isI; let j ← b.isI; M.guard (decide (0 ≤ j ∧ j ≤ 1000000 ∧ i.natAbs < 2 ^ 64)); Rv.val (.int (i ^ j.toNat))

def eqRv (a b : Rv) : M Bool := do
  let x ← a.data
  let y ← b.data
  M.guard (T.eqOk x y)
  M.pure (T.beq x y)
/-- x in a list or tuple -/
def inSeq (x : T) : List T → Bool
  | [] => false
  | y :: r => T.beq y x || inSeq x r
def inSeqOk (x : T) : List T → Bool
  | [] => true
  | y :: r => T.eqOk y x && inSeqOk x r
def inRv (a b : Rv) : M Bool := match a, b with
  | .v (.str [c]), .v (.str s) => M.pure (decide (c ∈ s))
  | _, _ => do
    let x ← a.data
    let ys ← b.seq
    M.guard (inSeqOk x ys)
    M.pure (inSeq x ys)
def ltRv (a b : Rv) : M Bool := match a, b with
  | .v x, .v y => do M.guard (T.ltOk x y); M.pure (T.lt x y)
  | _, _ => M.bad
def isRv (a b : Rv) : M Bool := match a, b with
  | .v (.bl x), .v (.bl y) => M.pure (x == y)
  | .v x, .v .non => M.pure (T.beq x .non)
  | .new _, .v .non => M.pure false
  | .l _, .v .non => M.pure false
  | _, _ => M.bad
def cmpop (op : COp) (a b : Rv) : M Bool := match op with
  | .eq => eqRv a b
  | .ne => do let r ← eqRv a b; M.pure (!r)
  | .lt => ltRv a b
  | .le => do let i ← a.isI; let j ← b.isI; M.pure (decide (i ≤ j))
  | .gt => do let i ← a.isI; let j ← b.isI; M.pure (decide (j < i))
  | .ge => do let i ← a.isI; let j ← b.isI; M.pure (decide (j ≤ i))
  | .is => isRv a b
  | .isnot => do let r ← isRv a b; M.pure (!r)
  | .isin => inRv a b
  | .notin => do let r ← inRv a b; M.pure (!r)
def truth (a : Rv) : M Bool := match a with
  | .v .non => M.pure false
  | .v (.bl b) => M.pure b
  | .v (.int i) => M.pure (i != 0)
  | .v (.str s) => do M.guard (decide (s.length ≤ SZ)); M.pure (!s.isEmpty)
  | a => do let xs ← a.seq; M.pure (!xs.isEmpty)
def isTy (t : Ty) : T → Bool
  | .int _ => (match t with | .int => true | _ => false)
  | .bl _ => (match t with | .int => true | .bool => true | _ => false)
  | .str _ => (match t with | .str => true | _ => false)
  | .tup _ => (match t with | .tuple => true | _ => false)
  | .lst _ => (match t with | .list => true | _ => false)
  | _ => false
def isiRv (t : Ty) (a : Rv) : M Bool := match a with
  | .v (.fn _) => M.bad
  | .v (.scr _) => M.bad
  | .v (.obj _) => M.bad
  | .v x => M.pure (isTy t x)
  | _ => M.pure (isTy t (.lst []))
def lenRv (a : Rv) : M Int := match a with
  | .v (.str s) => do M.guard (decide (s.length ≤ SZ)); M.pure s.length
  | .v (.scr ns) => M.pure ns.length
  | a => do let xs ← a.seq; M.pure xs.length
def biLen : List Rv → M Rv
  | [a] => do let n ← lenRv a; Rv.val (.int n)
  | _ => M.bad
def biAll : List Rv → M Rv
  | [a] => do let xs ← a.lst; let bs ← M.opt (allBl xs); Rv.val (.bl (bs.all id))
  | _ => M.bad
def biAny : List Rv → M Rv
  | [a] => do let xs ← a.lst; let bs ← M.opt (allBl xs); Rv.val (.bl (bs.any id))
  | _ => M.bad
def maxInts : List Int → M Rv
  | [] => M.bad
  | n :: r => Rv.val (.int (r.foldl max n))
def biMax : List Rv → M Rv
  | [a] => do let xs ← a.lst; let ns ← M.opt (allInt xs); maxInts ns
  | [a, b] => do let i ← a.isI; let j ← b.isI; Rv.val (.int (if j > i then j else i))
  | _ => M.bad
def biInt : List Rv → M Rv
  | [.v (.int i)] => Rv.val (.int i)
  | [.v (.bl b)] => Rv.val (.int (if b then 1 else 0))
  | [.v (.str [c])] => do M.guard (decide (48 ≤ c ∧ c ≤ 57)); Rv.val (.int ((c - 48 : Nat) : Int))
  | _ => M.bad
def biStr : List Rv → M Rv
  | [.v (.int i)] => do M.guard (decide (i.natAbs < 18446744073709551616)); Rv.val (.str (decInt i))
  | [.v (.str s)] => Rv.val (.str s)
  | _ => M.bad
def biBool : List Rv → M Rv
  | [.v (.int i)] => Rv.val (.bl (i != 0))
  | [.v (.bl b)] => Rv.val (.bl b)
  | _ => M.bad
def biTuple : List Rv → M Rv
  | [a] => do let xs ← a.seq; Rv.val (.tup xs)
  | _ => M.bad
def biList : List Rv → M Rv
  | [a] => do let xs ← a.seq; M.pure (.new xs)
  | _ => M.bad
def biSorted : List Rv → M Rv
  | [a] => do let xs ← a.lst; let ss ← M.opt (allStr xs); M.guard (decide (ss.length < 64)); M.pure (.new ((sortCs ss).map T.str))
  | _ => M.bad
def bi (b : Bi) (as : List Rv) : M Rv := match b with
  | .len => biLen as
  | .all => biAll as
  | .any => biAny as
  | .max => biMax as
  | .int => biInt as
  | .str => biStr as
  | .bool => biBool as
  | .tuple => biTuple as
  | .list => biList as
  | .sorted => biSorted as
/-- a method of a text -/
def meFind (s : Cs) : List Rv → M Rv
  | [.v (.str [c]), .v (.int i)] => do M.guard (decide (0 ≤ i)); Rv.val (.int (findAt s c i.toNat))
  | _ => M.bad
def meCount (s : Cs) : List Rv → M Rv
  | [.v (.str [c])] => Rv.val (.int (s.count c))
  | _ => M.bad
def meStarts (s : Cs) : List Rv → M Rv
  | [.v (.str [c])] => Rv.val (.bl (s.head? == some c))
  | _ => M.bad
def meEnds (s : Cs) : List Rv → M Rv
  | [.v (.str [c])] => Rv.val (.bl (s.getLast? == some c))
  | _ => M.bad
def meJoin (s : Cs) : List Rv → M Rv
  | [a] => do
    let xs ← a.lst
    let ss ← M.opt (allStr xs)
    M.guard (decide ((ss.map List.length).sum + ss.length * s.length ≤ SZ))
    Rv.val (.str (joinCs s ss))
  | _ => M.bad
def meS (m : Me) (s : Cs) (as : List Rv) : M Rv := match m with
  | .find => meFind s as
  | .count => meCount s as
  | .startswith => meStarts s as
  | .endswith => meEnds s as
  | .join => meJoin s as
  | _ => M.bad
/-- a method of a list of the store -/
def putL (n : Nat) (xs : List T) : M Unit := fun s => .ok () { s with L := s.L.set n xs }
def meAppend (n : Nat) (xs : List T) : List Rv → M Rv
  | [a] => do
    let y ← a.tree
    M.guard (decide (xs.length < SZ))
    putL n (xs ++ [y])
    Rv.val .non
  | _ => M.bad
def meInsert (n : Nat) (xs : List T) : List Rv → M Rv
  | [.v (.int i), a] => do
    let y ← a.tree
    M.guard (decide (xs.length < SZ ∧ 0 ≤ i ∧ i.natAbs < 2 ^ 62))
    putL n (xs.take i.toNat ++ [y] ++ xs.drop i.toNat)
    Rv.val .non
  | _ => M.bad
def mePop0 (n : Nat) (xs : List T) : List Rv → M Rv
  | [.v (.int 0)] => (match xs with
    | [] => M.bad
    | x :: r => do putL n r; Rv.val x)
  | _ => M.bad
def getL (n : Nat) : M (List T) := fun s => M.opt (s.L[n]?) s
def meL (m : Me) (n : Nat) (as : List Rv) : M Rv := do
  let xs ← getL n
  match m with
  | .append => meAppend n xs as
  | .insert => meInsert n xs as
  | .pop0 => mePop0 n xs as
  | _ => M.bad
def meRv (m : Me) (o : Rv) (as : List Rv) : M Rv := match o with
  | .v (.str s) => meS m s as
  | .l n => meL m n as
  | _ => M.bad
/-- a method of its target's type -/
def meTy (m : Me) (o : Rv) : Bool := match m with
  | .append | .insert | .pop0 | .pop => (match o with | .l _ => true | _ => false)
  | _ => (match o with | .v (.str _) => true | _ => false)
def ixRv (a b : Rv) : M Rv := do
  let i ← b.isI
  match a with
  | .v (.str s) => do
    M.guard (decide (s.length ≤ SZ))
    let j ← M.opt (ixOf s.length i)
    let c ← M.opt (s[j]?)
    Rv.val (.str [c])
  | .v (.scr ns) => do
    let j ← M.opt (ixOf ns.length i)
    let n ← M.opt (ns[j]?)
    Rv.val (.int n)
  | a => do
    let xs ← a.seq
    let j ← M.opt (ixOf xs.length i)
    let x ← M.opt (xs[j]?)
    Rv.val x
def slRv (a : Rv) (lo hi : Option Int) : M Rv := match a with
  | .v (.str s) => do M.guard (decide (s.length ≤ SZ)); Rv.val (.str (cut s lo hi))
  | .v (.tup xs) => Rv.val (.tup (cut xs lo hi))
  | a => do let xs ← a.lst; M.pure (.new (cut xs lo hi))
def revRv (a : Rv) : M Rv := match a with
  | a => do let xs ← a.lst; M.pure (.new xs.reverse)

/-! ### loops -/
/-- what is walked: the items; lists of the store that must stay -/
structure Src where
  items : List T
  watch : List (Nat × List T)
def watchOk (s : Sto) : List (Nat × List T) → Bool
  | [] => true
  | (n, xs) :: r => (match s.L[n]? with | some ys => T.beqs ys xs | none => false) && watchOk s r
def M.watch (ws : List (Nat × List T)) : M Unit := fun s => if watchOk s ws then .ok () s else .bad
def srcOf (a : Rv) : M Src := match a with
  | .v (.str s) => M.pure ⟨s.map fun c => .str [c], []⟩
  | .v (.lst xs) => M.pure ⟨xs, []⟩
  | .v (.tup xs) => M.pure ⟨xs, []⟩
  | .new xs => M.pure ⟨xs, []⟩
  | .l n => fun s => (M.opt (s.L[n]?) >>= fun xs => M.pure ⟨xs, [(n, xs)]⟩) s
  | _ => M.bad
def rngItems (lo : Int) (n : Nat) : List T := (List.range n).map fun i => .int (lo + (i : Nat))
def enumItems (xs : List T) : List T := (List.range xs.length).zipWith (fun i x => .tup [.int (i : Nat), x]) xs
def zip2Items (xs ys : List T) : List T := xs.zipWith (fun x y => .tup [x, y]) ys
def zip3Items : List T → List T → List T → List T
  | x :: xs, y :: ys, z :: zs => .tup [x, y, z] :: zip3Items xs ys zs
  | _, _, _ => []
def bindTs : List Nat → List T → Env → Option Env
  | [], [], σ => some σ
  | i :: is, x :: xs, σ => bindTs is xs (σ.set i (some (.t x)))
  | _, _, _ => none
def bindTg (tg : Tg) (x : T) (σ : Env) : M Env := match tg with
  | .n i => M.pure (σ.set i (some (.t x)))
  | .tp is => (match x with
    | .tup xs => M.opt (bindTs is xs σ)
    | _ => M.bad)
def wipe (σ : Env) : List Nat → Env
  | [] => σ
  | v :: vs => (wipe σ vs).set v none

inductive Fl where
  | next
  | brk
  | cont
  | ret (r : Rv)

/-- a comprehension's loop: what is made so far; the items to come -/
def lcLoop (ws : List (Nat × List T)) (step : T → List T → M (List T)) : List T → List T → M (List T)
  | [], acc => do M.watch ws; M.pure acc
  | x :: r, acc => do
    M.watch ws
    let acc' ← step x acc
    lcLoop ws step r acc'
def forLoop (ws : List (Nat × List T)) (step : T → Env → M (Fl × Env)) : List T → Env → M (Fl × Env)
  | [], σ => do M.watch ws; M.pure (.next, σ)
  | x :: r, σ => do
    M.watch ws
    let (f, σ') ← step x σ
    match f with
    | .next => forLoop ws step r σ'
    | .cont => forLoop ws step r σ'
    | .brk => M.pure (.next, σ')
    | .ret v => M.pure (.ret v, σ')
def whileLoop (test : Env → M Bool) (body : Env → M (Fl × Env)) : Nat → Env → M (Fl × Env)
  | 0, _ => M.bad
  | n + 1, σ => do
    let b ← test σ
    if b then do
      let (f, σ') ← body σ
      match f with
      | .next => whileLoop test body n σ'
      | .cont => whileLoop test body n σ'
      | .brk => M.pure (.next, σ')
      | .ret v => M.pure (.ret v, σ')
    else M.pure (.next, σ)
def FUEL : Nat := 2 ^ 30

/-! ### the evaluator -/
structure Ctx where
  call : Callee
  glo : Nat → Option T

def slotRv (σ : Env) (i : Nat) : M Rv := match σ[i]? with
  | some (some (.t v)) => M.pure (.v v)
  | some (some (.l n)) => M.pure (.l n)
  | _ => M.bad
def treesOf : List Rv → M (List T)
  | [] => M.pure []
  | r :: rs => do let t ← r.tree; let ts ← treesOf rs; M.pure (t :: ts)
def tupOf (rs : List Rv) : M Rv := do let xs ← treesOf rs; M.guard (decide (xs.length ≤ SZ)); Rv.val (.tup xs)
def lstOf (rs : List Rv) : M Rv := do let xs ← treesOf rs; M.guard (decide (xs.length ≤ SZ)); M.pure (.new xs)
def app (acc : List T) (r : Rv) : M (List T) := do
  let y ← r.tree
  M.guard (decide (acc.length < SZ))
  M.pure (acc ++ [y])

mutual
def evE (C : Ctx) : E → Env → M Rv
  | .var i, σ => slotRv σ i
  | .c t, _ => M.pure (.v t)
  | .glo x, _ => do let t ← M.opt (C.glo x); M.pure (.v t)
  | .fnr f, _ => M.pure (.v (.fn f))
  | .tup es, σ => do let rs ← evRs C es σ; tupOf rs
  | .lst es, σ => do let rs ← evRs C es σ; lstOf rs
  | .bin op a b, σ => do let x ← evE C a σ; let y ← evE C b σ; binop op x y
  | .neg a, σ => do let x ← evE C a σ; let i ← x.isI; Rv.val (.int (-i))
  | .cmp op a b, σ => do let x ← evE C a σ; let y ← evE C b σ; let r ← cmpop op x y; Rv.val (.bl r)
  | .cmp2 op op' a b c, σ => do
    let x ← evE C a σ
    let y ← evE C b σ
    let r ← cmpop op x y
    if r then do let z ← evE C c σ; let r' ← cmpop op' y z; Rv.val (.bl r') else Rv.val (.bl false)
  | .and a b, σ => do let x ← evE C a σ; let r ← x.isB; if r then evE C b σ else Rv.val (.bl false)
  | .or a b, σ => do let x ← evE C a σ; let r ← x.isB; if r then Rv.val (.bl true) else evE C b σ
  | .not a, σ => do let x ← evE C a σ; let r ← x.isB; Rv.val (.bl (!r))
  | .ite t a b, σ => do let r ← evT C t σ; if r then evE C a σ else evE C b σ
  | .call f es, σ => do let rs ← evRs C es σ; C.call f (rs.map Rv.w)
  | .callv i es, σ => do
    let g ← slotRv σ i
    let rs ← evRs C es σ
    match g with
    | .v (.fn f) => C.call f (rs.map Rv.w)
    | _ => M.bad
  | .bi b es, σ => do let rs ← evRs C es σ; bi b rs
  | .isi a t, σ => do let x ← evE C a σ; let r ← isiRv t x; Rv.val (.bl r)
  | .me m o es, σ => do let x ← evE C o σ; M.guard (meTy m x); let rs ← evRs C es σ; meRv m x rs
  | .ix a b, σ => do let x ← evE C a σ; let y ← evE C b σ; ixRv x y
  | .sl a lo hi, σ => do let x ← evE C a σ; let l ← evO C lo σ; let h ← evO C hi σ; slRv x l h
  | .rev a, σ => do let x ← evE C a σ; revRv x
  | .lc own elt tg it cond, σ => do
    let src ← evIt C it σ
    let xs ← M.nox (lcLoop src.watch (fun x acc => do
      let σ' ← bindTg tg x (wipe σ own)
      let b ← evC C cond σ'
      if b then do let r ← evE C elt σ'; app acc r else M.pure acc) src.items [])
    M.pure (.new xs)
  | .lc2 own own1 elt tg it cond tg1 it1 cond1, σ => do
    let src ← evIt C it σ
    let xs ← M.nox (lcLoop src.watch (fun x acc => do
      let σ' ← bindTg tg x (wipe σ own)
      let b ← evC C cond σ'
      if b then do
        let src1 ← evIt C it1 σ'
        lcLoop src1.watch (fun y acc => do
          let σ'' ← bindTg tg1 y (wipe σ' own1)
          let b ← evC C cond1 σ''
          if b then do let r ← evE C elt σ''; app acc r else M.pure acc) src1.items acc
      else M.pure acc) src.items [])
    M.pure (.new xs)
/-- as they are -/
def evRs (C : Ctx) : Es → Env → M (List Rv)
  | .nil, _ => M.pure []
  | .cons a r, σ => do let x ← evE C a σ; let ts ← evRs C r σ; M.pure (x :: ts)
def evO (C : Ctx) : Eo → Env → M (Option Int)
  | .no, _ => M.pure none
  | .yes a, σ => do let x ← evE C a σ; let i ← x.isI; M.pure (some i)
def evT (C : Ctx) : Te → Env → M Bool
  | .val a, σ => do let x ← evE C a σ; truth x
  | .and a b, σ => do let r ← evT C a σ; if r then evT C b σ else M.pure false
  | .or a b, σ => do let r ← evT C a σ; if r then M.pure true else evT C b σ
  | .not a, σ => do let r ← evT C a σ; M.pure (!r)
def evC (C : Ctx) : Tes → Env → M Bool
  | .no, _ => M.pure true
  | .yes a, σ => evT C a σ
def evIt (C : Ctx) : It → Env → M Src
  | .e a, σ => do let x ← evE C a σ; srcOf x
  | .rng a, σ => do
    let x ← evE C a σ
    let j ← x.isI
    M.guard (decide (j.natAbs < 2 ^ 62))
    M.pure ⟨rngItems 0 j.toNat, []⟩
  | .rng2 a b, σ => do
    let x ← evE C a σ
    let y ← evE C b σ
    let i ← x.isI
    let j ← y.isI
    M.guard (decide (i.natAbs < 2 ^ 62 ∧ j.natAbs < 2 ^ 62))
    M.pure ⟨rngItems i (j - i).toNat, []⟩
  | .zip2 a b, σ => do
    let x ← evE C a σ
    let y ← evE C b σ
    let p ← srcOf x
    let q ← srcOf y
    M.pure ⟨zip2Items p.items q.items, p.watch ++ q.watch⟩
  | .zip3 a b c, σ => do
    let x ← evE C a σ
    let y ← evE C b σ
    let z ← evE C c σ
    let p ← srcOf x
    let q ← srcOf y
    let r ← srcOf z
    M.pure ⟨zip3Items p.items q.items r.items, p.watch ++ q.watch ++ r.watch⟩
  | .enum a, σ => do
    let x ← evE C a σ
    let p ← srcOf x
    M.pure ⟨enumItems p.items, p.watch⟩
end

def setRv (o i e : Rv) : M Unit := match o, i with
  | .l n, .v (.int k) => fun s => (match s.L[n]? with
    | none => .bad
    | some xs => (do
      let y ← e.tree
      let j ← M.opt (ixOf xs.length k)
      M.set { s with L := s.L.set n (xs.set j y) } : M Unit) s)
  | _, _ => M.bad

mutual
def evS (C : Ctx) : St → Env → M (Fl × Env)
  | .asg tg e, σ => do let x ← evE C e σ; let t ← x.tree; let σ' ← bindTg tg t σ; M.pure (.next, σ')
  | .new i e, σ => do
    let x ← evE C e σ
    match x with
    | .new xs => fun s => .ok (.next, σ.set i (some (.l s.L.length))) { s with L := s.L ++ [xs] }
    | _ => M.bad
  | .par i j a b, σ => do let x ← evE C a σ; let y ← evE C b σ; let u ← x.tree; let v ← y.tree; M.pure (.next, (σ.set i (some (.t u))).set j (some (.t v)))
  | .sub o i e, σ => do
    let y ← evE C e σ
    let o' ← evE C o σ
    let i' ← evE C i σ
    setRv o' i' y
    M.pure (.next, σ)
  | .aug i op e, σ => do
    let x ← slotRv σ i
    let y ← evE C e σ
    let z ← binop op x y
    let t ← z.tree
    M.pure (.next, σ.set i (some (.t t)))
  | .ex e, σ => do let _ ← evE C e σ; M.pure (.next, σ)
  | .ite t a b, σ => do let r ← evT C t σ; if r then evSs C a σ else evSs C b σ
  | .loop tg it body, σ => do
    let src ← evIt C it σ
    forLoop src.watch (fun x σ => do let σ' ← bindTg tg x σ; evSs C body σ') src.items σ
  | .while t body, σ => whileLoop (evT C t) (evSs C body) FUEL σ
  | .ret e, σ => do let x ← evE C e σ; M.pure (.ret x, σ)
  | .ret0, σ => M.pure (.ret (.v .non), σ)
  | .raise c, _ => M.exc c
  | .pass, σ => M.pure (.next, σ)
def evSs (C : Ctx) : Sts → Env → M (Fl × Env)
  | .nil, σ => M.pure (.next, σ)
  | .cons a r, σ => do
    let (f, σ') ← evS C a σ
    match f with
    | .next => evSs C r σ'
    | f => M.pure (f, σ')
end

def Sto.trunc (s : Sto) (n : Nat) : Sto := { s with L := s.L.take n }
/-- a def's end: its own lists go -/
def leave (n : Nat) (r : Res (Fl × Env)) : Res Rv := match r with
  | .ok (.next, _) s => .ok (.v .non) (s.trunc n)
  | .ok (.ret (.v t), _) s => .ok (.v t) (s.trunc n)
  | .ok (.ret (.new xs), _) s => .ok (.new xs) (s.trunc n)
  | .ok (.ret (.l m), _) s => if n ≤ m then (match s.L[m]? with
    | some xs => .ok (.new xs) (s.trunc n)
    | none => .bad) else .bad
  | .exc c s => .exc c (s.trunc n)
  | _ => .bad
structure Prog where
  fn : Nat → Option Fun
  glo : Nat → Option T
def start (f : Fun) (ws : List W) : Env := ws.map some ++ List.replicate (f.nv - ws.length) none
/-- a def called, at most k calls deep -/
def run (P : Prog) : Nat → Callee
  | 0, _, _ => M.bad
  | k + 1, f, ws => match P.fn f with
    | none => M.bad
    | some m => fun s => if ws.length = m.np then leave s.L.length (evSs ⟨run P k, P.glo⟩ m.body (start m ws) s) else .bad
end LL

set_option Elab.async false
set_option linter.all false
set_option autoImplicit false
set_option maxRecDepth 100000
set_option maxHeartbeats 4000000
namespace LLS
open PySem PySem.Spec PyProof.Rows L2

/-- a text as the model has it -/
def toS (s : LL.Cs) : PySem.Str := ⟨s.toArray⟩

/-- the names of the text: defs, module constants, exception classes -/
structure Nm where
  fn : Nat → Option PySem.Str
  glo : Nat → Option PySem.Str
  exc : Nat → Option PySem.Str

/-- where they stand -/
structure Ad where
  fn : Nat → Option Addr
  exc : Nat → Option Addr
  cls : Nat → Option Addr
  fld : Nat → PySem.Str
  /-- lists that are being made, known by nobody -/
  fr : List (Addr × List V) := []
abbrev Ad.at (A : Ad) (F : List (Addr × List V)) : Ad := { A with fr := F }

section
variable (K : PySem.W.Frag) (A : Ad) (G : Hp) (ω : List Addr)
mutual
/-- t is held by v: all lists and tuples stand in G (never changed) -/
inductive Rep : LL.T → V → Prop
  | non : Rep .non .non
  | bl (b : Bool) : Rep (.bl b) (.bl b)
  | int (i : Int) : Rep (.int i) (.int i)
  | str (s : LL.Cs) : Rep (.str s) (.str (toS s))
  | tup {xs : List LL.T} {a : Addr} {vs : List V} : SqT K G a vs → Reps xs vs → Rep (.tup xs) (.ref a)
  | lst {xs : List LL.T} {a : Addr} {vs : List V} : G a = some (.lst vs) → Reps xs vs → Rep (.lst xs) (.ref a)
  | obj {n : Nat} {a : Addr} : ω[n]? = some a → Rep (.obj n) (.ref a)
  | fn {f : Nat} {a : Addr} : A.fn f = some a → Rep (.fn f) (.ref a)
  | scr {ns : List Int} {a : Addr} : SqL K G a (ns.map V.int) → Rep (.scr ns) (.ref a)
inductive Reps : List LL.T → List V → Prop
  | nil : Reps [] []
  | cons {x : LL.T} {xs : List LL.T} {v : V} {vs : List V} : Rep x v → Reps xs vs → Reps (x :: xs) (v :: vs)
end
end

/-- all that G holds stands in H -/
def Ext (G H : Hp) : Prop := ∀ a o, G a = some o → H a = some o
theorem Ext.refl (G : Hp) : Ext G G := fun _ _ h => h
theorem Ext.trans {G H J : Hp} (a : Ext G H) (b : Ext H J) : Ext G J := fun x o h => b x o (a x o h)
theorem Ext.free {G H : Hp} (e : Ext G H) {a : Addr} (h : H a = none) : G a = none := by
  cases q : G a with
  | none => rfl
  | some o => rw [e a o q] at h; cases h
theorem Ext.put {G : Hp} {a : Addr} {o : HO} (h : G a = none) : Ext G (L2.upd G a o) := fun b u e => by
  rw [upd_ne (ne_of_none e h)]; exact e
theorem Ext.putR {G H : Hp} (e : Ext G H) {a : Addr} {o : HO} (h : G a = none) : Ext G (L2.upd H a o) := fun b u q => by
  rw [upd_ne (ne_of_none q h)]; exact e b u q
theorem sqT_ext {K : PySem.W.Frag} {G H : Hp} {a : Addr} {xs : List V} (e : Ext G H) (h : SqT K G a xs) : SqT K H a xs := by
  rcases h with (h | ⟨o, h⟩) | h
  · exact .inl (.inl (e _ _ h))
  · exact .inl (.inr ⟨o, e _ _ h⟩)
  · exact .inr h
theorem sqL_ext {K : PySem.W.Frag} {G H : Hp} {a : Addr} {xs : List V} (e : Ext G H) (h : SqL K G a xs) : SqL K H a xs := by
  rcases h with (h | ⟨o, h⟩) | h
  · exact .inl (.inl (e _ _ h))
  · exact .inl (.inr ⟨o, e _ _ h⟩)
  · exact .inr h
theorem pre_get {α : Type} {l l' : List α} (h : l <+: l') {n : Nat} {a : α} (e : l[n]? = some a) : l'[n]? = some a := by
  obtain ⟨t, rfl⟩ := h
  rw [List.getElem?_append_left]
  · exact e
  · exact (List.getElem?_eq_some_iff.mp e).1

section
variable {K : PySem.W.Frag} {A : Ad} {G G' : Hp} {ω ω' : List Addr}
mutual
theorem Rep.mono (e : Ext G G') (p : ω <+: ω') : ∀ {t : LL.T} {v : V}, Rep K A G ω t v → Rep K A G' ω' t v
  | _, _, .non => .non
  | _, _, .bl b => .bl b
  | _, _, .int i => .int i
  | _, _, .str s => .str s
  | _, _, .tup h r => .tup (sqT_ext e h) (Reps.mono e p r)
  | _, _, .lst h r => .lst (e _ _ h) (Reps.mono e p r)
  | _, _, .obj h => .obj (pre_get p h)
  | _, _, .fn h => .fn h
  | _, _, .scr h => .scr (sqL_ext e h)
theorem Reps.mono (e : Ext G G') (p : ω <+: ω') : ∀ {t : List LL.T} {v : List V}, Reps K A G ω t v → Reps K A G' ω' t v
  | _, _, .nil => .nil
  | _, _, .cons h r => .cons (Rep.mono e p h) (Reps.mono e p r)
end
theorem Reps.length : ∀ {ts : List LL.T} {vs : List V}, Reps K A G ω ts vs → ts.length = vs.length
  | _, _, .nil => rfl
  | _, _, .cons _ r => congrArg Nat.succ (Reps.length r)
theorem Reps.get : ∀ {ts : List LL.T} {vs : List V} {i : Nat} {t : LL.T}, Reps K A G ω ts vs → ts[i]? = some t → ∃ v, vs[i]? = some v ∧ Rep K A G ω t v
  | _, _, _, _, .nil, e => by simp at e
  | _, _, 0, _, .cons h _, e => by simp at e; subst e; exact ⟨_, rfl, h⟩
  | _, _, i + 1, _, .cons _ r, e => by
    obtain ⟨v, h1, h2⟩ := Reps.get (i := i) r (by simpa using e)
    exact ⟨v, by simpa using h1, h2⟩
theorem Reps.append : ∀ {xs ys : List LL.T} {us vs : List V}, Reps K A G ω xs us → Reps K A G ω ys vs → Reps K A G ω (xs ++ ys) (us ++ vs)
  | _, _, _, _, .nil, s => s
  | _, _, _, _, .cons h r, s => .cons h (Reps.append r s)
theorem Reps.take : ∀ {xs : List LL.T} {us : List V} (n : Nat), Reps K A G ω xs us → Reps K A G ω (xs.take n) (us.take n)
  | _, _, 0, _ => .nil
  | _, _, _ + 1, .nil => .nil
  | _, _, n + 1, .cons h r => .cons h (Reps.take n r)
theorem Reps.drop : ∀ {xs : List LL.T} {us : List V} (n : Nat), Reps K A G ω xs us → Reps K A G ω (xs.drop n) (us.drop n)
  | _, _, 0, r => r
  | _, _, _ + 1, .nil => .nil
  | _, _, n + 1, .cons _ r => Reps.drop n r
theorem Reps.set {t : LL.T} {v : V} (q : Rep K A G ω t v) : ∀ {xs : List LL.T} {us : List V} (n : Nat), Reps K A G ω xs us → Reps K A G ω (xs.set n t) (us.set n v)
  | _, _, _, .nil => .nil
  | _, _, 0, .cons _ r => .cons q r
  | _, _, n + 1, .cons h r => .cons h (Reps.set q n r)
theorem Reps.one {t : LL.T} {v : V} (q : Rep K A G ω t v) : Reps K A G ω [t] [v] := .cons q .nil
theorem Reps.reverse : ∀ {xs : List LL.T} {us : List V}, Reps K A G ω xs us → Reps K A G ω xs.reverse us.reverse
  | _, _, .nil => .nil
  | _, _, .cons h r => by
    rw [List.reverse_cons, List.reverse_cons]
    exact (Reps.reverse r).append (Reps.one h)
end

/-- the store and the heap: G never changes, the lists at ρ may, the objects at ω may -/
structure MS (K : PySem.W.Frag) (A : Ad) (G : Hp) (ρ ω : List Addr) (S : LL.Sto) (H : Hp) : Prop where
  ex : Ext G H
  ln : ρ.length = S.L.length
  nd : ρ.Nodup
  li : ∀ (n : Nat) xs, S.L[n]? = some xs → ∃ a vs, ρ[n]? = some a ∧ G a = none ∧ H a = some (.lst vs) ∧ Reps K A G ω xs vs
  on : ω.length = S.O.length
  od : ω.Nodup
  ob : ∀ (n : Nat) i, S.O[n]? = some i → ∃ a C dx fs, ω[n]? = some a ∧ G a = none ∧ A.cls i.cls = some C ∧ H a = some (.ins C dx fs) ∧ fs.length = i.fs.length ∧ ∀ k t, i.fs.lookup k = some t → ∃ v, fs.lookup (A.fld k) = some v ∧ Rep K A G ω t v
  fr : ∀ p ∈ A.fr, H p.1 = some (.lst p.2) ∧ G p.1 = none ∧ p.1 ∉ ρ ∧ p.1 ∉ ω
  fnd : (A.fr.map (·.1)).Nodup

/-- what an expression has given, as it may be kept: a new list is never changed any more -/
def Hold (K : PySem.W.Frag) (A : Ad) (G : Hp) (ρ ω : List Addr) : LL.Rv → V → Prop
  | .v t, v => Rep K A G ω t v
  | .l n, v => ∃ a, ρ[n]? = some a ∧ v = .ref a
  | .new xs, v => Rep K A G ω (.lst xs) v
/-- .. just when it was given: a new list is nobody's -/
def RepR (K : PySem.W.Frag) (A : Ad) (G : Hp) (ρ ω : List Addr) (H : Hp) : LL.Rv → V → Prop
  | .v t, v => Rep K A G ω t v
  | .l n, v => ∃ a, ρ[n]? = some a ∧ v = .ref a
  | .new xs, v => ∃ a vs, v = .ref a ∧ G a = none ∧ a ∉ ρ ∧ a ∉ ω ∧ a ∉ A.fr.map (·.1) ∧ H a = some (.lst vs) ∧ Reps K A G ω xs vs
def RepW (K : PySem.W.Frag) (A : Ad) (G : Hp) (ρ ω : List Addr) : LL.W → V → Prop
  | .t t, v => Rep K A G ω t v
  | .l n, v => ∃ a, ρ[n]? = some a ∧ v = .ref a
inductive RepWs (K : PySem.W.Frag) (A : Ad) (G : Hp) (ρ ω : List Addr) : List LL.W → List V → Prop
  | nil : RepWs K A G ρ ω [] []
  | cons {x : LL.W} {xs : List LL.W} {v : V} {vs : List V} : RepW K A G ρ ω x v → RepWs K A G ρ ω xs vs → RepWs K A G ρ ω (x :: xs) (v :: vs)
/-- the slots -/
def RepE (K : PySem.W.Frag) (A : Ad) (G : Hp) (ρ ω : List Addr) (σ : LL.Env) (σV : L2.St) : Prop :=
  σV.length = σ.length ∧ ∀ (i : Nat) w, σ[i]? = some (some w) → ∃ v, σV[i]? = some (some v) ∧ RepW K A G ρ ω w v

section
variable {K : PySem.W.Frag} {A : Ad} {G G' : Hp} {ρ ρ' ω ω' : List Addr} {S : LL.Sto} {H H' : Hp}
theorem Hold.mono (e : Ext G G') (p : ρ <+: ρ') (q : ω <+: ω') {r : LL.Rv} {v : V} (h : Hold K A G ρ ω r v) : Hold K A G' ρ' ω' r v := by
  cases r with
  | v t => exact Rep.mono e q h
  | l n => obtain ⟨a, h1, h2⟩ := h; exact ⟨a, pre_get p h1, h2⟩
  | new xs => exact Rep.mono e q h
theorem RepW.mono (e : Ext G G') (p : ρ <+: ρ') (q : ω <+: ω') {r : LL.W} {v : V} (h : RepW K A G ρ ω r v) : RepW K A G' ρ' ω' r v := by
  cases r with
  | t t => exact Rep.mono e q h
  | l n => obtain ⟨a, h1, h2⟩ := h; exact ⟨a, pre_get p h1, h2⟩
theorem RepE.mono (e : Ext G G') (p : ρ <+: ρ') (q : ω <+: ω') {σ : LL.Env} {σV : L2.St} (h : RepE K A G ρ ω σ σV) : RepE K A G' ρ' ω' σ σV :=
  ⟨h.1, fun i w hi => let ⟨v, h1, h2⟩ := h.2 i w hi; ⟨v, h1, h2.mono e p q⟩⟩
theorem Hold.w {r : LL.Rv} {v : V} (h : Hold K A G ρ ω r v) : RepW K A G ρ ω r.w v := by
  cases r with
  | v t => exact h
  | l n => exact h
  | new xs => exact h
/-- a new list is put among what never changes -/
theorem MS.freeze (m : MS K A G ρ ω S H) {a : Addr} {vs : List V} (hG : G a = none) (hr : a ∉ ρ) (ho : a ∉ ω) (hf : a ∉ A.fr.map (·.1)) (hH : H a = some (.lst vs)) : Ext G (upd G a (.lst vs)) ∧ MS K A (upd G a (.lst vs)) ρ ω S H := by
  have e : Ext G (upd G a (.lst vs)) := Ext.put hG
  refine ⟨e, ⟨fun b o q => ?_, m.ln, m.nd, fun n xs h => ?_, m.on, m.od, fun n i h => ?_, fun p hp => ?_, m.fnd⟩⟩
  rotate_right
  · obtain ⟨f1, f2, f3, f4⟩ := m.fr p hp
    have hb : p.1 ≠ a := fun z => hf (z ▸ List.mem_map_of_mem hp)
    exact ⟨f1, by rw [upd_ne hb]; exact f2, f3, f4⟩
  · by_cases hb : b = a
    · subst hb; rw [upd_same] at q; cases q; exact hH
    · rw [upd_ne hb] at q; exact m.ex b o q
  · obtain ⟨b, us, h1, h2, h3, h4⟩ := m.li n xs h
    have hb : b ≠ a := fun z => hr (z ▸ List.mem_of_getElem? h1)
    exact ⟨b, us, h1, by rw [upd_ne hb]; exact h2, h3, h4.mono e List.prefix_rfl⟩
  · obtain ⟨b, C, dx, fs, h1, h2, h3, h4, h5, h6⟩ := m.ob n i h
    have hb : b ≠ a := fun z => ho (z ▸ List.mem_of_getElem? h1)
    exact ⟨b, C, dx, fs, h1, by rw [upd_ne hb]; exact h2, h3, h4, h5, fun k t hk => let ⟨v, q1, q2⟩ := h6 k t hk; ⟨v, q1, q2.mono e List.prefix_rfl⟩⟩
theorem RepR.hold (m : MS K A G ρ ω S H) {r : LL.Rv} {v : V} (h : RepR K A G ρ ω H r v) : ∃ G', Ext G G' ∧ MS K A G' ρ ω S H ∧ Hold K A G' ρ ω r v := by
  cases r with
  | v t => exact ⟨G, Ext.refl G, m, h⟩
  | l n => exact ⟨G, Ext.refl G, m, h⟩
  | new xs =>
    obtain ⟨a, vs, rfl, h1, h2, h3, h3', h4, h5⟩ := h
    obtain ⟨e, m'⟩ := m.freeze h1 h2 h3 h3' h4
    exact ⟨_, e, m', .lst (upd_same) (h5.mono e List.prefix_rfl)⟩
/-- a new thing beside all -/
theorem MS.fresh (m : MS K A G ρ ω S H) {p : Addr} {o : HO} (hp : H p = none) : MS K A G ρ ω S (upd H p o) := by
  refine ⟨m.ex.putR (m.ex.free hp), m.ln, m.nd, fun n xs h => ?_, m.on, m.od, fun n i h => ?_, fun q hq => ?_, m.fnd⟩
  rotate_right
  · obtain ⟨f1, f2, f3, f4⟩ := m.fr q hq
    exact ⟨by rw [upd_ne (ne_of_none f1 hp)]; exact f1, f2, f3, f4⟩
  · obtain ⟨b, us, h1, h2, h3, h4⟩ := m.li n xs h
    exact ⟨b, us, h1, h2, by rw [upd_ne (ne_of_none h3 hp)]; exact h3, h4⟩
  · obtain ⟨b, C, dx, fs, h1, h2, h3, h4, h5⟩ := m.ob n i h
    exact ⟨b, C, dx, fs, h1, h2, h3, by rw [upd_ne (ne_of_none h4 hp)]; exact h4, h5⟩
theorem MS.notin (m : MS K A G ρ ω S H) {p : Addr} (hp : H p = none) : p ∉ ρ ∧ p ∉ ω ∧ p ∉ A.fr.map (·.1) := by
  refine ⟨?_, ?_, ?_⟩
  rotate_right
  · intro hm
    obtain ⟨q, hq, e⟩ := List.mem_map.mp hm
    have := (m.fr q hq).1
    rw [e, hp] at this; cases this
  · intro hm
    obtain ⟨n, hn⟩ := List.getElem?_of_mem hm
    have hl : n < S.L.length := by rw [← m.ln]; exact (List.getElem?_eq_some_iff.mp hn).1
    obtain ⟨b, us, h1, h2, h3, h4⟩ := m.li n _ (List.getElem?_eq_getElem hl)
    rw [hn] at h1; cases h1
    rw [hp] at h3; cases h3
  · intro hm
    obtain ⟨n, hn⟩ := List.getElem?_of_mem hm
    have hl : n < S.O.length := by rw [← m.on]; exact (List.getElem?_eq_some_iff.mp hn).1
    obtain ⟨b, C, dx, fs, h1, h2, h3, h4, h5⟩ := m.ob n _ (List.getElem?_eq_getElem hl)
    rw [hn] at h1; cases h1
    rw [hp] at h4; cases h4
/-- a new tuple -/
theorem MS.tup (m : MS K A G ρ ω S H) {p : Addr} {xs : List LL.T} {vs : List V} (hp : H p = none) (r : Reps K A G ω xs vs) :
    Ext G (upd G p (.tup vs)) ∧ MS K A (upd G p (.tup vs)) ρ ω S (upd H p (.tup vs)) ∧ Rep K A (upd G p (.tup vs)) ω (.tup xs) (.ref p) := by
  have hG := m.ex.free hp
  have e : Ext G (upd G p (.tup vs)) := Ext.put hG
  have m1 := m.fresh (o := .tup vs) hp
  obtain ⟨n1, n2, n3⟩ := m.notin hp
  refine ⟨e, ⟨fun b o q => ?_, m.ln, m.nd, fun n xs h => ?_, m.on, m.od, fun n i h => ?_, fun q hq => ?_, m.fnd⟩, .tup (.inl (.inl upd_same)) (r.mono e List.prefix_rfl)⟩
  rotate_right
  · obtain ⟨f1, f2, f3, f4⟩ := m1.fr q hq
    have hb : q.1 ≠ p := fun z => n3 (z ▸ List.mem_map_of_mem hq)
    exact ⟨f1, by rw [upd_ne hb]; exact f2, f3, f4⟩
  · by_cases hb : b = p
    · subst hb; rw [upd_same] at q ⊢; exact q
    · rw [upd_ne hb] at q ⊢; exact m.ex b o q
  · obtain ⟨b, us, h1, h2, h3, h4⟩ := m1.li n xs h
    have hb : b ≠ p := fun z => n1 (z ▸ List.mem_of_getElem? h1)
    exact ⟨b, us, h1, by rw [upd_ne hb]; exact h2, h3, h4.mono e List.prefix_rfl⟩
  · obtain ⟨b, C, dx, fs, h1, h2, h3, h4, h5, h6⟩ := m1.ob n i h
    have hb : b ≠ p := fun z => n2 (z ▸ List.mem_of_getElem? h1)
    exact ⟨b, C, dx, fs, h1, by rw [upd_ne hb]; exact h2, h3, h4, h5, fun k t hk => let ⟨v, q1, q2⟩ := h6 k t hk; ⟨v, q1, q2.mono e List.prefix_rfl⟩⟩
/-- a new list -/
theorem MS.new (m : MS K A G ρ ω S H) {p : Addr} {xs : List LL.T} {vs : List V} (hp : H p = none) (r : Reps K A G ω xs vs) :
    MS K A G ρ ω S (upd H p (.lst vs)) ∧ RepR K A G ρ ω (upd H p (.lst vs)) (.new xs) (.ref p) :=
  ⟨m.fresh hp, p, vs, rfl, m.ex.free hp, (m.notin hp).1, (m.notin hp).2.1, (m.notin hp).2.2, upd_same, r⟩
/-- a list of the store is written -/
theorem MS.write (m : MS K A G ρ ω S H) {n : Nat} {a : Addr} {xs : List LL.T} {vs : List V} (hn : n < S.L.length) (ha : ρ[n]? = some a) (r : Reps K A G ω xs vs) :
    MS K A G ρ ω { S with L := S.L.set n xs } (upd H a (.lst vs)) := by
  obtain ⟨b, us, h1, h2, h3, h4⟩ := m.li n _ (List.getElem?_eq_getElem hn)
  rw [ha] at h1; cases h1
  refine ⟨m.ex.putR h2, by rw [m.ln]; simp, m.nd, fun j ys h => ?_, m.on, m.od, fun j i h => ?_, fun q hq => ?_, m.fnd⟩
  rotate_right
  · obtain ⟨f1, f2, f3, f4⟩ := m.fr q hq
    have hb : q.1 ≠ a := fun z => f3 (z ▸ List.mem_of_getElem? ha)
    exact ⟨by rw [upd_ne hb]; exact f1, f2, f3, f4⟩
  · have h : (S.L.set n xs)[j]? = some ys := h
    by_cases hj : j = n
    · subst hj
      rw [List.getElem?_set_self hn] at h; cases h
      exact ⟨a, vs, ha, h2, upd_same, r⟩
    · rw [List.getElem?_set_ne (Ne.symm hj)] at h
      obtain ⟨c, ws, q1, q2, q3, q4⟩ := m.li j ys h
      have hc : c ≠ a := fun z => hj (by
        subst z
        obtain ⟨l1, e1⟩ := List.getElem?_eq_some_iff.mp q1
        obtain ⟨l2, e2⟩ := List.getElem?_eq_some_iff.mp ha
        exact (List.getElem_inj m.nd).mp (e1.trans e2.symm))
      exact ⟨c, ws, q1, q2, by rw [upd_ne hc]; exact q3, q4⟩
  · obtain ⟨c, C, dx, fs, q1, q2, q3, q4, q5⟩ := m.ob j i h
    have hc : c ≠ a := fun z => by subst z; rw [h3] at q4; cases q4
    exact ⟨c, C, dx, fs, q1, q2, q3, by rw [upd_ne hc]; exact q4, q5⟩
/-- a new list is put into the store -/
theorem MS.push (m : MS K A G ρ ω S H) {a : Addr} {xs : List LL.T} {vs : List V} (hG : G a = none) (hr : a ∉ ρ) (hf : a ∉ A.fr.map (·.1)) (hH : H a = some (.lst vs)) (r : Reps K A G ω xs vs) :
    MS K A G (ρ ++ [a]) ω { S with L := S.L ++ [xs] } H := by
  refine ⟨m.ex, by simp [m.ln], List.nodup_append.mpr ⟨m.nd, by simp, fun b hb c hc => by simp at hc; subst hc; exact fun z => hr (z ▸ hb)⟩, fun j ys h => ?_, m.on, m.od, m.ob, fun q hq => ?_, m.fnd⟩
  rotate_right
  · obtain ⟨f1, f2, f3, f4⟩ := m.fr q hq
    refine ⟨f1, f2, fun z => ?_, f4⟩
    rcases List.mem_append.mp z with z | z
    · exact f3 z
    · simp at z
      exact hf (z ▸ List.mem_map_of_mem hq)
  have h : (S.L ++ [xs])[j]? = some ys := h
  by_cases hj : j < S.L.length
  · rw [List.getElem?_append_left hj] at h
    obtain ⟨c, ws, q1, q2, q3, q4⟩ := m.li j ys h
    exact ⟨c, ws, pre_get (List.prefix_append _ _) q1, q2, q3, q4⟩
  · have hl : j < (S.L ++ [xs]).length := (List.getElem?_eq_some_iff.mp h).1
    have hj2 : j = S.L.length := by simp at hl; omega
    subst hj2
    rw [List.getElem?_append_right (Nat.le_refl _)] at h
    simp at h; subst h
    refine ⟨a, vs, ?_, hG, hH, r⟩
    rw [List.getElem?_append_right (by rw [m.ln]; exact Nat.le_refl _), m.ln]
    simp
/-- the store cut back -/
theorem MS.trunc (m : MS K A G ρ ω S H) (n : Nat) : MS K A G (ρ.take n) ω (S.trunc n) H := by
  refine ⟨m.ex, by simp [LL.Sto.trunc, m.ln], m.nd.sublist (List.take_sublist _ _), fun j ys h => ?_, m.on, m.od, m.ob, fun q hq => let ⟨f1, f2, f3, f4⟩ := m.fr q hq; ⟨f1, f2, fun z => f3 (List.mem_of_mem_take z), f4⟩, m.fnd⟩
  have h : (S.L.take n)[j]? = some ys := h
  have hj : j < n := by
    have := (List.getElem?_eq_some_iff.mp h).1
    rw [List.length_take] at this; omega
  rw [List.getElem?_take_of_lt hj] at h
  obtain ⟨c, ws, q1, q2, q3, q4⟩ := m.li j ys h
  exact ⟨c, ws, by rw [List.getElem?_take_of_lt hj]; exact q1, q2, q3, q4⟩
mutual
theorem Rep.at {F : List (Addr × List V)} : ∀ {t : LL.T} {v : V}, Rep K A G ω t v → Rep K (A.at F) G ω t v
  | _, _, .non => .non
  | _, _, .bl b => .bl b
  | _, _, .int i => .int i
  | _, _, .str s => .str s
  | _, _, .tup h r => .tup h (Reps.at r)
  | _, _, .lst h r => .lst h (Reps.at r)
  | _, _, .obj h => .obj h
  | _, _, .fn h => .fn h
  | _, _, .scr h => .scr h
theorem Reps.at {F : List (Addr × List V)} : ∀ {t : List LL.T} {v : List V}, Reps K A G ω t v → Reps K (A.at F) G ω t v
  | _, _, .nil => .nil
  | _, _, .cons h r => .cons (Rep.at h) (Reps.at r)
end
theorem RepW.at {F : List (Addr × List V)} {r : LL.W} {v : V} (h : RepW K A G ρ ω r v) : RepW K (A.at F) G ρ ω r v := by
  cases r with
  | t t => exact Rep.at h
  | l n => exact h
theorem RepE.at {F : List (Addr × List V)} {σ : LL.Env} {σV : L2.St} (h : RepE K A G ρ ω σ σV) : RepE K (A.at F) G ρ ω σ σV :=
  ⟨h.1, fun i w hi => let ⟨v, h1, h2⟩ := h.2 i w hi; ⟨v, h1, h2.at⟩⟩
/-- a list in the making -/
theorem MS.frame (m : MS K A G ρ ω S H) {D : Addr} (hD : H D = none) : MS K (A.at ((D, []) :: A.fr)) G ρ ω S (upd H D (.lst [])) := by
  have m1 := m.fresh (o := .lst []) hD
  obtain ⟨n1, n2, n3⟩ := m.notin hD
  refine ⟨m1.ex, m1.ln, m1.nd, fun n xs h => ?_, m1.on, m1.od, fun n i h => ?_, fun p hp => ?_, List.nodup_cons.mpr ⟨n3, m.fnd⟩⟩
  · obtain ⟨a, vs, h1, h2, h3, h4⟩ := m1.li n xs h
    exact ⟨a, vs, h1, h2, h3, h4.at⟩
  · obtain ⟨a, C, dx, fs, h1, h2, h3, h4, h5, h6⟩ := m1.ob n i h
    exact ⟨a, C, dx, fs, h1, h2, h3, h4, h5, fun k t hk => let ⟨v, q1, q2⟩ := h6 k t hk; ⟨v, q1, q2.at⟩⟩
  · rcases List.mem_cons.mp hp with rfl | hp
    · exact ⟨upd_same, m.ex.free hD, n1, n2⟩
    · exact m1.fr p hp
/-- .. is longer -/
theorem MS.grow {F : List (Addr × List V)} {D : Addr} {acc acc' : List V} (m : MS K (A.at ((D, acc) :: F)) G ρ ω S H) : MS K (A.at ((D, acc') :: F)) G ρ ω S (upd H D (.lst acc')) := by
  obtain ⟨d1, d2, d3, d4⟩ := m.fr (D, acc) (List.mem_cons_self ..)
  have nd := List.nodup_cons.mp m.fnd
  refine ⟨m.ex.putR d2, m.ln, m.nd, fun n xs h => ?_, m.on, m.od, fun n i h => ?_, fun p hp => ?_, m.fnd⟩
  · obtain ⟨a, vs, h1, h2, h3, h4⟩ := m.li n xs h
    have hb : a ≠ D := fun z => d3 (z ▸ List.mem_of_getElem? h1)
    exact ⟨a, vs, h1, h2, by rw [upd_ne hb]; exact h3, h4.at (F := (D, acc') :: F)⟩
  · obtain ⟨a, C, dx, fs, h1, h2, h3, h4, h5, h6⟩ := m.ob n i h
    have hb : a ≠ D := fun z => d4 (z ▸ List.mem_of_getElem? h1)
    exact ⟨a, C, dx, fs, h1, h2, h3, by rw [upd_ne hb]; exact h4, h5, fun k t hk => let ⟨v, q1, q2⟩ := h6 k t hk; ⟨v, q1, q2.at (F := (D, acc') :: F)⟩⟩
  · rcases List.mem_cons.mp hp with rfl | hp
    · exact ⟨upd_same, d2, d3, d4⟩
    · obtain ⟨f1, f2, f3, f4⟩ := m.fr p (List.mem_cons_of_mem _ hp)
      have hb : p.1 ≠ D := fun z => nd.1 (by
        have := List.mem_map_of_mem (f := fun q : Addr × List V => q.1) hp
        rw [z] at this
        exact this)
      exact ⟨by rw [upd_ne hb]; exact f1, f2, f3, f4⟩
/-- .. is made -/
theorem MS.unframe {F : List (Addr × List V)} {D : Addr} {acc : List V} (m : MS K (A.at ((D, acc) :: F)) G ρ ω S H) : MS K (A.at F) G ρ ω S H ∧ G D = none ∧ D ∉ ρ ∧ D ∉ ω ∧ D ∉ F.map (·.1) ∧ H D = some (.lst acc) := by
  obtain ⟨d1, d2, d3, d4⟩ := m.fr (D, acc) (List.mem_cons_self ..)
  have nd := List.nodup_cons.mp m.fnd
  refine ⟨⟨m.ex, m.ln, m.nd, fun n xs h => ?_, m.on, m.od, fun n i h => ?_, fun p hp => m.fr p (List.mem_cons_of_mem _ hp), nd.2⟩, d2, d3, d4, nd.1, d1⟩
  · obtain ⟨a, vs, h1, h2, h3, h4⟩ := m.li n xs h
    exact ⟨a, vs, h1, h2, h3, h4.at (F := F)⟩
  · obtain ⟨a, C, dx, fs, h1, h2, h3, h4, h5, h6⟩ := m.ob n i h
    exact ⟨a, C, dx, fs, h1, h2, h3, h4, h5, fun k t hk => let ⟨v, q1, q2⟩ := h6 k t hk; ⟨v, q1, q2.at (F := F)⟩⟩
end
end LLS

set_option Elab.async false
set_option linter.all false
set_option autoImplicit false
set_option maxRecDepth 100000
set_option maxHeartbeats 4000000
namespace LLS
open PySem PySem.Spec PyProof.Rows L2 PySem.SeqAt

/-! ### == of trees -/
section
variable {K : PySem.W.Frag} {Ad' : Ad} {G : Hp} {ω : List Addr}
theorem beq_refl_all : (∀ t : LL.T, LL.T.beq t t = true) ∧ (∀ ts : List LL.T, LL.T.beqs ts ts = true) := by
  refine ⟨fun t => ?_, fun ts => ?_⟩
  · exact LL.T.rec (motive_1 := fun t => LL.T.beq t t = true) (motive_2 := fun ts => LL.T.beqs ts ts = true) (by simp [LL.T.beq]) (by intro b; simp [LL.T.beq]) (by intro b; simp [LL.T.beq]) (by intro b; simp [LL.T.beq]) (by intro b h; simpa [LL.T.beq] using h)
      (by intro b h; simpa [LL.T.beq] using h) (by intro b; simp [LL.T.beq]) (by intro b; simp [LL.T.beq]) (by intro b; simp [LL.T.beq]) (by simp [LL.T.beqs]) (by intro x xs h1 h2; simp [LL.T.beqs, h1, h2]) t
  · exact LL.T.rec_1 (motive_1 := fun t => LL.T.beq t t = true) (motive_2 := fun ts => LL.T.beqs ts ts = true) (by simp [LL.T.beq]) (by intro b; simp [LL.T.beq]) (by intro b; simp [LL.T.beq]) (by intro b; simp [LL.T.beq]) (by intro b h; simpa [LL.T.beq] using h)
      (by intro b h; simpa [LL.T.beq] using h) (by intro b; simp [LL.T.beq]) (by intro b; simp [LL.T.beq]) (by intro b; simp [LL.T.beq]) (by simp [LL.T.beqs]) (by intro x xs h1 h2; simp [LL.T.beqs, h1, h2]) ts
mutual
theorem beq_eq : ∀ (a b : LL.T), LL.T.beq a b = true → a = b
  | .non, b, h => by cases b <;> simp [LL.T.beq] at h ⊢
  | .bl x, b, h => by cases b <;> simp [LL.T.beq] at h ⊢; exact h
  | .int x, b, h => by cases b <;> simp [LL.T.beq] at h ⊢; exact h
  | .str x, b, h => by cases b <;> simp [LL.T.beq] at h ⊢; exact h
  | .tup x, b, h => by cases b <;> simp [LL.T.beq] at h ⊢; exact beqs_eq _ _ h
  | .lst x, b, h => by cases b <;> simp [LL.T.beq] at h ⊢; exact beqs_eq _ _ h
  | .obj x, b, h => by cases b <;> simp [LL.T.beq] at h ⊢; exact h
  | .fn x, b, h => by cases b <;> simp [LL.T.beq] at h ⊢; exact h
  | .scr x, b, h => by cases b <;> simp [LL.T.beq] at h ⊢; exact h
theorem beqs_eq : ∀ (a b : List LL.T), LL.T.beqs a b = true → a = b
  | [], b, h => by cases b <;> simp [LL.T.beqs] at h ⊢
  | x :: xs, b, h => by
    cases b with
    | nil => simp [LL.T.beqs] at h
    | cons y ys =>
      simp [LL.T.beqs] at h
      rw [beq_eq _ _ h.1, beqs_eq _ _ h.2]
end
theorem beq_iff (a b : LL.T) : LL.T.beq a b = true ↔ a = b := ⟨beq_eq a b, fun h => h ▸ beq_refl_all.1 a⟩
theorem beqs_iff (a b : List LL.T) : LL.T.beqs a b = true ↔ a = b := ⟨beqs_eq a b, fun h => h ▸ beq_refl_all.2 a⟩
theorem beqs_len {a b : List LL.T} (h : a.length ≠ b.length) : LL.T.beqs a b = false := by
  cases e : LL.T.beqs a b with
  | false => rfl
  | true => rw [beqs_eq _ _ e] at h; exact absurd rfl h

theorem toS_inj {a b : LL.Cs} : (toS a == toS b) = (a == b) := by
  rw [Bool.eq_iff_iff]
  simp [toS]

/-- what is at an address is one thing -/
structure Uni (K : PySem.W.Frag) (G : Hp) : Prop where
  t : ∀ a xs ys, SqT K G a xs → SqT K G a ys → xs = ys
  l : ∀ a xs ys, SqL K G a xs → SqL K G a ys → xs = ys
  tl : ∀ a xs ys, SqT K G a xs → SqL K G a ys → False
mutual
theorem rep_uni (u : Uni K G) : ∀ (a b : LL.T) (v : V), a.data = true → b.data = true → Rep K Ad' G ω a v → Rep K Ad' G ω b v → a = b
  | .non, b, v, ha, hb, r1, r2 => by cases r1; cases r2; rfl
  | .bl x, b, v, ha, hb, r1, r2 => by cases r1; cases r2; rfl
  | .int x, b, v, ha, hb, r1, r2 => by cases r1; cases r2; rfl
  | .str x, b, v, ha, hb, r1, r2 => by
    cases r1
    generalize hv : V.str (toS x) = v at r2
    cases r2 with
    | str y =>
      have : toS x = toS y := by injection hv
      have h2 : x = y := by
        have := congrArg (fun s : PySem.Str => s.cps.toList) this
        simpa [toS] using this
      rw [h2]
    | _ => cases hv
  | .tup x, b, v, ha, hb, r1, r2 => by
    cases r1 with
    | tup h r =>
      cases r2 with
      | tup h' r' => rw [reps_uni u _ _ _ (by simpa [LL.T.data] using ha) (by simpa [LL.T.data] using hb) r (by rw [u.t _ _ _ h h']; exact r')]
      | lst h' r' => exact (u.tl _ _ _ h (.inl (.inl h'))).elim
      | obj h => simp [LL.T.data] at hb
      | fn h => simp [LL.T.data] at hb
      | scr h => simp [LL.T.data] at hb
  | .lst x, b, v, ha, hb, r1, r2 => by
    cases r1 with
    | lst h r =>
      cases r2 with
      | tup h' r' => exact (u.tl _ _ _ h' (.inl (.inl h))).elim
      | lst h' r' => rw [reps_uni u _ _ _ (by simpa [LL.T.data] using ha) (by simpa [LL.T.data] using hb) r (by rw [u.l _ _ _ (.inl (.inl h)) (.inl (.inl h'))]; exact r')]
      | obj h => simp [LL.T.data] at hb
      | fn h => simp [LL.T.data] at hb
      | scr h => simp [LL.T.data] at hb
  | .obj x, b, v, ha, hb, r1, r2 => by simp [LL.T.data] at ha
  | .fn x, b, v, ha, hb, r1, r2 => by simp [LL.T.data] at ha
  | .scr x, b, v, ha, hb, r1, r2 => by simp [LL.T.data] at ha
theorem reps_uni (u : Uni K G) : ∀ (a b : List LL.T) (v : List V), LL.T.datas a = true → LL.T.datas b = true → Reps K Ad' G ω a v → Reps K Ad' G ω b v → a = b
  | [], b, v, ha, hb, r1, r2 => by cases r1; cases r2; rfl
  | x :: xs, b, v, ha, hb, r1, r2 => by
    cases r1 with
    | cons h r =>
      cases r2 with
      | cons h' r' =>
        simp [LL.T.datas] at ha hb
        rw [rep_uni u _ _ _ ha.1 hb.1 h h', reps_uni u _ _ _ ha.2 hb.2 r r']
end
end
theorem uniI {X : Cx} {pins : List (Addr × Obj)} {σ : L2.St} {H : Hp} {s : Shared} (I : Inv X pins σ H s) : Uni X.K H :=
  ⟨fun a xs ys h h' => I.tuple_inj h h', fun a xs ys h h' => I.list_inj h h', fun a xs ys h h' => by
    obtain ⟨its, _, ⟨o, e, c, _⟩, _⟩ := I.tuple h
    obtain ⟨its', _, ⟨o', n', e', c', _⟩, _⟩ := I.list h'
    rw [e] at e'; cases e'
    rw [c] at c'
    exact absurd c' (by decide)⟩
theorem room_h {A : Around} {n : Nat} (h : A.units + (n + 1) < cLine) : A.units < cLine := by omega
theorem room_i {A : Around} {n : Nat} (h : A.units + (n + 1) < cLine) : A.in1.units + n < cLine := by
  show A.units + 1 + n < cLine; omega
section
variable {X : Cx} {Ad' : Ad} {ω : List Addr} {pins : List (Addr × Obj)} {σ : L2.St} {H : Hp} {s : Shared}
theorem pairs_all (xs ys : List LL.T) : ((List.range (min xs.length ys.length)).all (fun j => LL.T.beq (xs.getD j .non) (ys.getD j .non)) && xs.length == ys.length) = LL.T.beqs xs ys := by
  induction xs generalizing ys with
  | nil => cases ys <;> simp [LL.T.beqs]
  | cons x xs ih =>
    cases ys with
    | nil => simp [LL.T.beqs]
    | cons y ys =>
      have e1 : min (x :: xs).length (y :: ys).length = min xs.length ys.length + 1 := by simp only [List.length_cons]; omega
      have e2 : ((x :: xs).length == (y :: ys).length) = (xs.length == ys.length) := by simp
      rw [e1, e2, List.range_succ_eq_map, List.all_cons, List.all_map, LL.T.beqs, ← ih ys, Bool.and_assoc]
      rfl
mutual
theorem eqAt_T (I : Inv X pins σ H s) : ∀ (a b : LL.T) (A : Around) (va vb : V) (ua ub : Value), Rep X.K Ad' H ω a va → Rep X.K Ad' H ω b vb → RelV va ua → RelV vb ub → a.data = true → b.data = true → LL.T.calm a b = true →
    A.units + min a.depth b.depth < cLine → EqAt A s ua ub (LL.T.beq a b)
  | .non, b, A, va, vb, ua, ub, ra, rb, qa, qb, ha, hb, hc, hu => by
    cases ra; cases qa
    cases rb with
    | non => cases qb; exact EqAt.same _
    | bl y => cases qb; exact EqAt.none_bool y
    | int y => obtain ⟨t, rfl⟩ := qb; exact EqAt.none_int y t
    | str y => obtain ⟨t, rfl⟩ := qb; exact EqAt.none_str _ t
    | tup h r => cases qb; obtain ⟨its, _, p, _⟩ := I.tuple h; exact EqAt.none_tuple (show s.heap.IsTuple _ its.toArray from p) (by simpa [LL.T.depth] using hu)
    | lst h r => cases qb; obtain ⟨its, _, p, _⟩ := I.list (.inl (.inl h)); exact EqAt.none_list p.isList (by simpa [LL.T.depth] using hu)
    | _ => simp [LL.T.data] at hb
  | .bl x, b, A, va, vb, ua, ub, ra, rb, qa, qb, ha, hb, hc, hu => by
    cases ra; cases qa
    cases rb with
    | non => cases qb; exact EqAt.bool_none x
    | bl y => cases qb; exact EqAt.bool_bool x y
    | int y => simp [LL.T.calm] at hc
    | str y => obtain ⟨t, rfl⟩ := qb; exact EqAt.bool_str x _ t
    | tup h r => cases qb; obtain ⟨its, _, p, _⟩ := I.tuple h; exact EqAt.bool_tuple x (show s.heap.IsTuple _ its.toArray from p) (by simpa [LL.T.depth] using hu)
    | lst h r => cases qb; obtain ⟨its, _, p, _⟩ := I.list (.inl (.inl h)); exact EqAt.bool_list x p.isList (by simpa [LL.T.depth] using hu)
    | _ => simp [LL.T.data] at hb
  | .int x, b, A, va, vb, ua, ub, ra, rb, qa, qb, ha, hb, hc, hu => by
    cases ra; obtain ⟨t', rfl⟩ := qa
    cases rb with
    | non => cases qb; exact EqAt.int_none x t'
    | bl y => simp [LL.T.calm] at hc
    | int y => obtain ⟨t, rfl⟩ := qb; exact EqAt.int_int x t' y t
    | str y => obtain ⟨t, rfl⟩ := qb; exact EqAt.int_str x t' _ t
    | tup h r => cases qb; obtain ⟨its, _, p, _⟩ := I.tuple h; exact EqAt.int_tuple x t' (show s.heap.IsTuple _ its.toArray from p) (by simpa [LL.T.depth] using hu)
    | lst h r => cases qb; obtain ⟨its, _, p, _⟩ := I.list (.inl (.inl h)); exact EqAt.int_list x t' p.isList (by simpa [LL.T.depth] using hu)
    | _ => simp [LL.T.data] at hb
  | .str x, b, A, va, vb, ua, ub, ra, rb, qa, qb, ha, hb, hc, hu => by
    cases ra; obtain ⟨t', rfl⟩ := qa
    cases rb with
    | non => cases qb; exact EqAt.str_none _ t'
    | bl y => cases qb; exact EqAt.str_bool _ t' y
    | int y => obtain ⟨t, rfl⟩ := qb; exact EqAt.str_int _ t' y t
    | str y =>
      obtain ⟨t, rfl⟩ := qb
      have e : LL.T.beq (.str x) (.str y) = (toS x == toS y) := by simp [LL.T.beq, toS_inj]
      rw [e]
      exact EqAt.str_str _ t' _ t
    | tup h r => cases qb; obtain ⟨its, _, p, _⟩ := I.tuple h; exact EqAt.str_tuple _ t' (show s.heap.IsTuple _ its.toArray from p) (by simpa [LL.T.depth] using hu)
    | lst h r => cases qb; obtain ⟨its, _, p, _⟩ := I.list (.inl (.inl h)); exact EqAt.str_list _ t' p.isList (by simpa [LL.T.depth] using hu)
    | _ => simp [LL.T.data] at hb
  | .tup xs, b, A, va, vb, ua, ub, ra, rb, qa, qb, ha, hb, hc, hu => by
    cases ra with
    | @tup _ l vs h r =>
      cases qa
      obtain ⟨its, rv, p, _⟩ := I.tuple h
      have hl : s.heap.IsTuple l its.toArray := p
      cases rb with
      | non => cases qb; exact EqAt.tuple_none hl (by simpa [LL.T.depth] using hu)
      | bl y => cases qb; exact EqAt.tuple_bool y hl (by simpa [LL.T.depth] using hu)
      | int y => obtain ⟨t, rfl⟩ := qb; exact EqAt.tuple_int y t hl (by simpa [LL.T.depth] using hu)
      | str y => obtain ⟨t, rfl⟩ := qb; exact EqAt.tuple_str _ t hl (by simpa [LL.T.depth] using hu)
      | @lst ys l' ws h' r' =>
        cases qb
        obtain ⟨its', _, p', _⟩ := I.list (.inl (.inl h'))
        have hu' : A.units + (min (LL.T.depths xs) (LL.T.depths ys) + 1) < cLine := by
          have e : min (LL.T.depth (.tup xs)) (LL.T.depth (.lst ys)) = min (LL.T.depths xs) (LL.T.depths ys) + 1 := by simp only [LL.T.depth]; omega
          rw [e] at hu; exact hu
        exact EqAt.tuple_list hl p'.isList (room_h hu')
      | @tup ys l' ws h' r' =>
        cases qb
        obtain ⟨its', rv', p', _⟩ := I.tuple h'
        have hl' : s.heap.IsTuple l' its'.toArray := p'
        have hu' : A.units + (min (LL.T.depths xs) (LL.T.depths ys) + 1) < cLine := by
          have e : min (LL.T.depth (.tup xs)) (LL.T.depth (.tup ys)) = min (LL.T.depths xs) (LL.T.depths ys) + 1 := by simp only [LL.T.depth]; omega
          rw [e] at hu; exact hu
        have da : LL.T.datas xs = true := by simpa [LL.T.data] using ha
        have db : LL.T.datas ys = true := by simpa [LL.T.data] using hb
        have hcs : LL.T.calms xs ys = true := by simpa [LL.T.calm] using hc
        have n1 : its.length = xs.length := by rw [← rv.length, ← r.length]
        have n2 : its'.length = ys.length := by rw [← rv'.length, ← r'.length]
        show EqAt A s (.ref l) (.ref l') (LL.T.beqs xs ys)
        by_cases hll : l = l'
        · subst hll
          have e := reps_uni (uniI I) _ _ _ da db r (by rw [(uniI I).t _ _ _ h h']; exact r')
          subst e
          rw [beq_refl_all.2 xs]
          exact EqAt.same _
        · rw [← pairs_all xs ys, ← n1, ← n2]
          have q := RcAt.tuples (e := fun j => LL.T.beq (xs.getD j .non) (ys.getD j .non)) hl hl' (room_h hu') fun j j1 j2 => by
            have := eqAts_T I xs ys A.in1 vs ws its its' r r' rv rv' da db hcs (room_i hu') j (by simpa using j1) (by simpa using j2)
            simpa using this
          refine EqAt.of_refs hll ?_
          simpa using q
      | _ => simp [LL.T.data] at hb
  | .lst xs, b, A, va, vb, ua, ub, ra, rb, qa, qb, ha, hb, hc, hu => by
    cases ra with
    | @lst _ l vs h r =>
      cases qa
      obtain ⟨its, rv, p, _⟩ := I.list (.inl (.inl h))
      have hl : s.heap.IsList l its.toArray := p.isList
      cases rb with
      | non => cases qb; exact EqAt.list_none hl (by simpa [LL.T.depth] using hu)
      | bl y => cases qb; exact EqAt.list_bool y hl (by simpa [LL.T.depth] using hu)
      | int y => obtain ⟨t, rfl⟩ := qb; exact EqAt.list_int y t hl (by simpa [LL.T.depth] using hu)
      | str y => obtain ⟨t, rfl⟩ := qb; exact EqAt.list_str _ t hl (by simpa [LL.T.depth] using hu)
      | @tup ys l' ws h' r' =>
        cases qb
        obtain ⟨its', _, p', _⟩ := I.tuple h'
        have hu' : A.units + (min (LL.T.depths xs) (LL.T.depths ys) + 1) < cLine := by
          have e : min (LL.T.depth (.lst xs)) (LL.T.depth (.tup ys)) = min (LL.T.depths xs) (LL.T.depths ys) + 1 := by simp only [LL.T.depth]; omega
          rw [e] at hu; exact hu
        exact EqAt.list_tuple hl (show s.heap.IsTuple _ its'.toArray from p') (room_h hu')
      | @lst ys l' ws h' r' =>
        cases qb
        obtain ⟨its', rv', p', _⟩ := I.list (.inl (.inl h'))
        have hl' : s.heap.IsList l' its'.toArray := p'.isList
        have hu' : A.units + (min (LL.T.depths xs) (LL.T.depths ys) + 1) < cLine := by
          have e : min (LL.T.depth (.lst xs)) (LL.T.depth (.lst ys)) = min (LL.T.depths xs) (LL.T.depths ys) + 1 := by simp only [LL.T.depth]; omega
          rw [e] at hu; exact hu
        have da : LL.T.datas xs = true := by simpa [LL.T.data] using ha
        have db : LL.T.datas ys = true := by simpa [LL.T.data] using hb
        have hcs : LL.T.calms xs ys = true := by simpa [LL.T.calm] using hc
        have n1 : its.length = xs.length := by rw [← rv.length, ← r.length]
        have n2 : its'.length = ys.length := by rw [← rv'.length, ← r'.length]
        show EqAt A s (.ref l) (.ref l') (LL.T.beqs xs ys)
        by_cases hll : l = l'
        · subst hll
          have e := reps_uni (uniI I) _ _ _ da db r (by rw [(uniI I).l _ _ _ (.inl (.inl h)) (.inl (.inl h'))]; exact r')
          subst e
          rw [beq_refl_all.2 xs]
          exact EqAt.same _
        · by_cases hsz : its.toArray.size = its'.toArray.size
          · have hsz' : xs.length = ys.length := by simpa [n1, n2] using hsz
            have q := RcAt.lists (e := fun j => LL.T.beq (xs.getD j .non) (ys.getD j .non)) hl hl' hsz (room_h hu') fun j j1 j2 => by
              have := eqAts_T I xs ys A.in1 vs ws its its' r r' rv rv' da db hcs (room_i hu') j (by simpa using j1) (by simpa using j2)
              simpa using this
            have e3 := pairs_all xs ys
            rw [← hsz', Nat.min_self] at e3
            rw [← e3]
            refine EqAt.of_refs hll ?_
            have e4 : (xs.length == xs.length) = true := by simp
            rw [e4, Bool.and_true, ← n1]
            simpa using q
          · rw [beqs_len (by simpa [n1, n2] using hsz)]
            exact EqAt.of_refs hll (RcAt.lists_lengths hl hl' (by simpa using hsz) (room_h hu'))
      | _ => simp [LL.T.data] at hb
  | .obj x, b, A, va, vb, ua, ub, ra, rb, qa, qb, ha, hb, hc, hu => by simp [LL.T.data] at ha
  | .fn x, b, A, va, vb, ua, ub, ra, rb, qa, qb, ha, hb, hc, hu => by simp [LL.T.data] at ha
  | .scr x, b, A, va, vb, ua, ub, ra, rb, qa, qb, ha, hb, hc, hu => by simp [LL.T.data] at ha
theorem eqAts_T (I : Inv X pins σ H s) : ∀ (xs ys : List LL.T) (A : Around) (vs ws : List V) (us us' : List Value), Reps X.K Ad' H ω xs vs → Reps X.K Ad' H ω ys ws → Vals vs us → Vals ws us' → LL.T.datas xs = true → LL.T.datas ys = true → LL.T.calms xs ys = true →
    A.units + min (LL.T.depths xs) (LL.T.depths ys) < cLine → ∀ (j : Nat) (h1 : j < us.length) (h2 : j < us'.length), EqAt A s us[j] us'[j] (LL.T.beq (xs.getD j .non) (ys.getD j .non))
  | [], ys, A, vs, ws, us, us', r, r', q, q', _, _, _, _, j, h1, h2 => by cases r; cases q; exact absurd h1 (Nat.not_lt_zero _)
  | x :: xs, [], A, vs, ws, us, us', r, r', q, q', _, _, _, _, j, h1, h2 => by cases r'; cases q'; exact absurd h2 (Nat.not_lt_zero _)
  | x :: xs, y :: ys, A, vs, ws, us, us', r, r', q, q', da, db, hc, hu, j, h1, h2 => by
    cases r with
    | cons r1 r2 =>
      cases r' with
      | cons r1' r2' =>
        cases q with
        | cons q1 q2 =>
          cases q' with
          | cons q1' q2' =>
            simp only [LL.T.datas, Bool.and_eq_true] at da db
            simp only [LL.T.calms, Bool.and_eq_true] at hc
            simp only [LL.T.depths] at hu
            cases j with
            | zero => exact eqAt_T I x y A _ _ _ _ r1 r1' q1 q1' da.1 db.1 hc.1 (by omega)
            | succ j => exact eqAts_T I xs ys A _ _ _ _ r2 r2' q2 q2' da.2 db.2 hc.2 (by omega) j (by simpa using h1) (by simpa using h2)
end
end
end LLS

set_option Elab.async false
set_option linter.all false
set_option autoImplicit false
set_option maxRecDepth 100000
set_option maxHeartbeats 4000000
namespace LLS
open PySem PySem.Spec PyProof.Rows L2 PySem.SeqAt

/-! ### < of trees -/
mutual
theorem alike_calm : ∀ (a b : LL.T), LL.T.alike a b = true → LL.T.calm a b = true
  | .non, b, h => by cases b <;> simp [LL.T.alike, LL.T.calm] at h ⊢
  | .bl x, b, h => by cases b <;> simp [LL.T.alike, LL.T.calm] at h ⊢
  | .int x, b, h => by cases b <;> simp [LL.T.alike, LL.T.calm] at h ⊢
  | .str x, b, h => by cases b <;> simp [LL.T.alike, LL.T.calm] at h ⊢
  | .tup x, b, h => by cases b <;> simp [LL.T.alike, LL.T.calm] at h ⊢; exact alikes_calm _ _ h
  | .lst x, b, h => by cases b <;> simp [LL.T.alike, LL.T.calm] at h ⊢
  | .obj x, b, h => by cases b <;> simp [LL.T.alike, LL.T.calm] at h ⊢
  | .fn x, b, h => by cases b <;> simp [LL.T.alike, LL.T.calm] at h ⊢
  | .scr x, b, h => by cases b <;> simp [LL.T.alike, LL.T.calm] at h ⊢
theorem alikes_calm : ∀ (a b : List LL.T), LL.T.alikes a b = true → LL.T.calms a b = true
  | [], b, h => by simp [LL.T.calms]
  | x :: xs, [], h => by simp [LL.T.calms]
  | x :: xs, y :: ys, h => by
    simp [LL.T.alikes] at h
    simp [LL.T.calms, alike_calm _ _ h.1, alikes_calm _ _ h.2]
end
theorem csLt_iff : ∀ (a b : LL.Cs), LL.csLt a b = decide (a < b)
  | [], [] => by simp [LL.csLt]
  | [], _ :: _ => by simp [LL.csLt]
  | _ :: _, [] => by simp [LL.csLt]
  | a :: s, b :: t => by
    unfold LL.csLt
    by_cases h : a = b
    · subst h
      rw [if_pos rfl, csLt_iff s t]
      simp [List.cons_lt_cons_iff]
    · rw [if_neg h]
      simp [List.cons_lt_cons_iff, h]
theorem first_map (e r : Nat → Bool) (fin : Bool) (f : Nat → Nat) : ∀ l : List Nat, PySem.SeqAt.firstLt e r fin (l.map f) = PySem.SeqAt.firstLt (fun j => e (f j)) (fun j => r (f j)) fin l
  | [] => rfl
  | j :: t => by
    rw [List.map_cons]
    unfold PySem.SeqAt.firstLt
    rw [first_map e r fin f t]
theorem first_lts (xs ys : List LL.T) : PySem.SeqAt.firstLt (fun j => LL.T.beq (xs.getD j .non) (ys.getD j .non)) (fun j => LL.T.lt (xs.getD j .non) (ys.getD j .non)) (decide (xs.length < ys.length)) (List.range (min xs.length ys.length)) = LL.T.lts xs ys := by
  induction xs generalizing ys with
  | nil => cases ys <;> simp [LL.T.lts, PySem.SeqAt.firstLt]
  | cons x xs ih =>
    cases ys with
    | nil => simp [LL.T.lts, PySem.SeqAt.firstLt]
    | cons y ys =>
      have e1 : min (x :: xs).length (y :: ys).length = min xs.length ys.length + 1 := by simp only [List.length_cons]; omega
      rw [e1, List.range_succ_eq_map]
      unfold PySem.SeqAt.firstLt LL.T.lts
      rw [first_map, ← ih ys]
      have e2 : decide ((x :: xs).length < (y :: ys).length) = decide (xs.length < ys.length) := by simp
      rw [e2]
      rfl
section
variable {X : Cx} {Ad' : Ad} {ω : List Addr} {pins : List (Addr × Obj)} {σ : L2.St} {H : Hp} {s : Shared}
mutual
theorem ltAt_T (I : Inv X pins σ H s) : ∀ (a b : LL.T) (A : Around) (va vb : V) (ua ub : Value), Rep X.K Ad' H ω a va → Rep X.K Ad' H ω b vb → RelV va ua → RelV vb ub → a.data = true → b.data = true → LL.T.alike a b = true →
    A.units + min a.depth b.depth < cLine → PySem.SeqAt.RcLt A s ua ub (LL.T.lt a b)
  | .int x, b, A, va, vb, ua, ub, ra, rb, qa, qb, ha, hb, hc, hu => by
    cases ra; obtain ⟨t', rfl⟩ := qa
    cases rb with
    | int y => obtain ⟨t, rfl⟩ := qb; exact fun prog w E Q hq => PySem.P.lt_int hq
    | _ => simp [LL.T.alike] at hc
  | .str x, b, A, va, vb, ua, ub, ra, rb, qa, qb, ha, hb, hc, hu => by
    cases ra; obtain ⟨t', rfl⟩ := qa
    cases rb with
    | str y =>
      obtain ⟨t, rfl⟩ := qb
      intro prog w E Q hq
      refine PySem.P.lt_str ?_
      have e : LL.T.lt (.str x) (.str y) = decide ((toS x).cps.toList < (toS y).cps.toList) := by
        simp only [LL.T.lt, csLt_iff, toS]
        exact decide_eq_decide.mpr Iff.rfl
      rw [e] at hq
      exact hq
    | _ => simp [LL.T.alike] at hc
  | .tup xs, b, A, va, vb, ua, ub, ra, rb, qa, qb, ha, hb, hc, hu => by
    cases ra with
    | @tup _ l vs h r =>
      cases qa
      obtain ⟨its, rv, p, _⟩ := I.tuple h
      have hl : s.heap.IsTuple l its.toArray := p
      cases rb with
      | @tup ys l' ws h' r' =>
        cases qb
        obtain ⟨its', rv', p', _⟩ := I.tuple h'
        have hl' : s.heap.IsTuple l' its'.toArray := p'
        have hu' : A.units + (min (LL.T.depths xs) (LL.T.depths ys) + 1) < cLine := by
          have e : min (LL.T.depth (.tup xs)) (LL.T.depth (.tup ys)) = min (LL.T.depths xs) (LL.T.depths ys) + 1 := by simp only [LL.T.depth]; omega
          rw [e] at hu; exact hu
        have da : LL.T.datas xs = true := by simpa [LL.T.data] using ha
        have db : LL.T.datas ys = true := by simpa [LL.T.data] using hb
        have hal : LL.T.alikes xs ys = true := by simpa [LL.T.alike] using hc
        have n1 : its.length = xs.length := by rw [← rv.length, ← r.length]
        have n2 : its'.length = ys.length := by rw [← rv'.length, ← r'.length]
        show PySem.SeqAt.RcLt A s (.ref l) (.ref l') (LL.T.lts xs ys)
        rw [← first_lts xs ys, ← n1, ← n2]
        have q := PySem.SeqAt.RcLt.tuples (e := fun j => LL.T.beq (xs.getD j .non) (ys.getD j .non)) (r := fun j => LL.T.lt (xs.getD j .non) (ys.getD j .non)) hl hl' (room_h hu') (fun j j1 j2 => by
            have := eqAts_T I xs ys A.in1 vs ws its its' r r' rv rv' da db (alikes_calm _ _ hal) (room_i hu') j (by simpa using j1) (by simpa using j2)
            simpa using this) fun j j1 j2 hj => by
            have := ltAts_T I xs ys A.in1 vs ws its its' r r' rv rv' da db hal (room_i hu') j (by simpa using j1) (by simpa using j2)
            simpa using this
        simpa using q
      | _ => simp [LL.T.alike] at hc
  | .non, b, A, va, vb, ua, ub, ra, rb, qa, qb, ha, hb, hc, hu => by cases b <;> simp [LL.T.alike] at hc
  | .bl x, b, A, va, vb, ua, ub, ra, rb, qa, qb, ha, hb, hc, hu => by cases b <;> simp [LL.T.alike] at hc
  | .lst xs, b, A, va, vb, ua, ub, ra, rb, qa, qb, ha, hb, hc, hu => by cases b <;> simp [LL.T.alike] at hc
  | .obj x, b, A, va, vb, ua, ub, ra, rb, qa, qb, ha, hb, hc, hu => by simp [LL.T.data] at ha
  | .fn x, b, A, va, vb, ua, ub, ra, rb, qa, qb, ha, hb, hc, hu => by simp [LL.T.data] at ha
  | .scr x, b, A, va, vb, ua, ub, ra, rb, qa, qb, ha, hb, hc, hu => by simp [LL.T.data] at ha
theorem ltAts_T (I : Inv X pins σ H s) : ∀ (xs ys : List LL.T) (A : Around) (vs ws : List V) (us us' : List Value), Reps X.K Ad' H ω xs vs → Reps X.K Ad' H ω ys ws → Vals vs us → Vals ws us' → LL.T.datas xs = true → LL.T.datas ys = true → LL.T.alikes xs ys = true →
    A.units + min (LL.T.depths xs) (LL.T.depths ys) < cLine → ∀ (j : Nat) (h1 : j < us.length) (h2 : j < us'.length), PySem.SeqAt.RcLt A s us[j] us'[j] (LL.T.lt (xs.getD j .non) (ys.getD j .non))
  | [], ys, A, vs, ws, us, us', r, r', q, q', _, _, _, _, j, h1, h2 => by cases r; cases q; exact absurd h1 (Nat.not_lt_zero _)
  | x :: xs, [], A, vs, ws, us, us', r, r', q, q', _, _, _, _, j, h1, h2 => by cases r'; cases q'; exact absurd h2 (Nat.not_lt_zero _)
  | x :: xs, y :: ys, A, vs, ws, us, us', r, r', q, q', da, db, hc, hu, j, h1, h2 => by
    cases r with
    | cons r1 r2 =>
      cases r' with
      | cons r1' r2' =>
        cases q with
        | cons q1 q2 =>
          cases q' with
          | cons q1' q2' =>
            simp only [LL.T.datas, Bool.and_eq_true] at da db
            simp only [LL.T.alikes, Bool.and_eq_true] at hc
            simp only [LL.T.depths] at hu
            cases j with
            | zero => exact ltAt_T I x y A _ _ _ _ r1 r1' q1 q1' da.1 db.1 hc.1 (by omega)
            | succ j => exact ltAts_T I xs ys A _ _ _ _ r2 r2' q2 q2' da.2 db.2 hc.2 (by omega) j (by simpa using h1) (by simpa using h2)
end
end
end LLS

set_option Elab.async false
set_option linter.all false
set_option autoImplicit false
set_option maxRecDepth 100000
set_option maxHeartbeats 4000000
namespace LLS
open PySem PySem.Spec PyProof.Rows L2 PySem.Builtin PySem.Builtin.Str

/-! ### texts -/
theorem toS_tl (s : LL.Cs) : (toS s).cps.toList = s := by simp [toS]
theorem toS_len (s : LL.Cs) : (toS s).length = s.length := by simp [toS, Str.length]
theorem toS_of (x : PySem.Str) : toS x.cps.toList = x := by cases x; simp [toS]
theorem toS_app (a b : LL.Cs) : toS (a ++ b) = toS a ++ toS b := by
  apply TL.ext_tl
  rw [TL.tl_append]
  simp [TL.tl, toS]
theorem subAt1 (s : LL.Cs) (c i : Nat) : subAt (toS s) (toS [c]) i = decide (s[i]? = some c) := by
  unfold subAt
  have e : (toS s).cps.extract i (i + (toS [c]).length) = ((s.drop i).take 1).toArray := by
    have h1 : (toS [c]).length = 1 := rfl
    rw [h1]
    simp [toS, List.extract_toArray, List.extract_eq_drop_take]
  rw [e]
  by_cases h : s[i]? = some c
  · obtain ⟨hl, h2⟩ := List.getElem?_eq_some_iff.mp h
    have : (s.drop i).take 1 = [c] := by rw [List.drop_eq_getElem_cons hl, h2]; rfl
    rw [this]
    simp [toS, h]
  · have h3 : (s.drop i).take 1 ≠ [c] := by
      intro hh
      apply h
      have := congrArg (fun l => l[0]?) hh
      simp only [List.getElem?_take, List.getElem?_drop] at this
      simpa using this
    rw [decide_eq_false h]
    have : (((s.drop i).take 1).toArray == (toS [c]).cps) = false := by
      rw [beq_eq_false_iff_ne]
      intro hh
      apply h3
      have := congrArg Array.toList hh
      simpa [toS] using this
    exact this
/-- the places of a sign -/
def places (c : Nat) : LL.Cs → Nat → List Nat
  | [], _ => []
  | d :: s, i => if d = c then i :: places c s (i + 1) else places c s (i + 1)
theorem places_count (c : Nat) : ∀ (s : LL.Cs) (i : Nat), (places c s i).length = s.count c
  | [], _ => rfl
  | d :: s, i => by
    unfold places
    by_cases h : d = c
    · subst h; rw [if_pos rfl, List.length_cons, places_count d s, List.count_cons_self]
    · rw [if_neg h, places_count c s, List.count_cons_of_ne h]
theorem places_head (c : Nat) : ∀ (s : LL.Cs) (i : Nat), (places c s i).head? = LL.findFrom c s i
  | [], _ => rfl
  | d :: s, i => by
    unfold places LL.findFrom
    by_cases h : d = c
    · rw [if_pos h, if_pos h]; rfl
    · rw [if_neg h, if_neg h, places_head c s]
def pl (s : LL.Cs) (c : Nat) (i : Nat) : Bool := decide (i + 1 ≤ s.length) && decide (s[i]? = some c)
theorem filter_places (s : LL.Cs) (c : Nat) : ∀ (t : LL.Cs) (lo : Nat), (∀ j, s[lo + j]? = t[j]?) → s.length = lo + t.length → (List.range' lo (t.length + 1)).filter (pl s c) = places c t lo
  | [], lo, h, hl => by
    simp only [List.length_nil, Nat.add_zero] at hl
    simp [List.range', places, pl, hl]
  | d :: t, lo, h, hl => by
    have h0 := h 0
    simp only [Nat.add_zero, List.getElem?_cons_zero] at h0
    have ih := filter_places s c t (lo + 1) (fun j => by have := h (j + 1); rw [List.getElem?_cons_succ] at this; rw [← this]; congr 1; omega) (by rw [hl]; simp; omega)
    rw [List.length_cons, List.range'_succ, List.filter_cons, ih, places]
    have hlt : lo + 1 ≤ s.length := by rw [hl]; simp
    by_cases hd : d = c
    · subst hd
      rw [if_pos rfl]
      simp [pl, h0, hlt]
    · rw [if_neg hd]
      simp [pl, h0, hd]
theorem occ_run (s : LL.Cs) (c limit : Nat) : ∀ (l : List Nat) (acc : Array Nat) (free : Nat), l.Pairwise (· < ·) → (∀ i ∈ l, free ≤ i) →
    (forIn l (acc, free) (StrLaws.occBody (toS s) (toS [c]) s.length limit)).run.fst.toList = acc.toList ++ (l.filter (pl s c)).take (limit - acc.size)
  | [], acc, free, _, _ => by
    simp
  | a :: l, acc, free, hp, hf => by
    have hp' := List.pairwise_cons.mp hp
    rw [List.forIn_cons]
    have one : (toS [c]).length = 1 := rfl
    by_cases hc : pl s c a = true
    · have hc2 : a + 1 ≤ s.length ∧ s[a]? = some c := by simpa [pl] using hc
      by_cases hs : acc.size < limit
      · have hcond : ((((acc, free).fst.size < limit ∧ (acc, free).snd ≤ a) ∧ a + (toS [c]).length ≤ s.length) ∧ subAt (toS s) (toS [c]) a = true) :=
          ⟨⟨⟨hs, hf a (List.mem_cons_self ..)⟩, by rw [one]; exact hc2.1⟩, by rw [subAt1]; simp [hc2.2]⟩
        unfold StrLaws.occBody
        rw [if_pos hcond]
        refine (occ_run s c limit l (acc.push a) (a + (toS [c]).length) hp'.2 (fun i hi => by rw [one]; exact hp'.1 i hi)).trans ?_
        rw [List.filter_cons, if_pos hc, Array.toList_push, Array.size_push]
        have e : limit - acc.size = (limit - (acc.size + 1)) + 1 := by omega
        rw [e, List.take_succ_cons, List.append_assoc]
        rfl
      · have hcond : ¬ ((((acc, free).fst.size < limit ∧ (acc, free).snd ≤ a) ∧ a + (toS [c]).length ≤ s.length) ∧ subAt (toS s) (toS [c]) a = true) := fun z => hs z.1.1.1
        unfold StrLaws.occBody
        rw [if_neg hcond]
        refine (occ_run s c limit l acc free hp'.2 (fun i hi => hf i (List.mem_cons_of_mem _ hi))).trans ?_
        have e : limit - acc.size = 0 := by omega
        rw [e, List.take_zero, List.take_zero]
    · have hcond : ¬ ((((acc, free).fst.size < limit ∧ (acc, free).snd ≤ a) ∧ a + (toS [c]).length ≤ s.length) ∧ subAt (toS s) (toS [c]) a = true) := by
        intro z
        apply hc
        have z2 := z.2
        rw [subAt1] at z2
        have z1 := z.1.2
        rw [one] at z1
        simp [pl, z1, of_decide_eq_true z2]
      unfold StrLaws.occBody
      rw [if_neg hcond]
      refine (occ_run s c limit l acc free hp'.2 (fun i hi => hf i (List.mem_cons_of_mem _ hi))).trans ?_
      rw [List.filter_cons, if_neg hc]
theorem range'_up : ∀ (n lo : Nat), (List.range' lo n).Pairwise (· < ·)
  | 0, _ => List.Pairwise.nil
  | n + 1, lo => by
    rw [List.range'_succ]
    refine List.pairwise_cons.mpr ⟨fun i hi => ?_, range'_up n (lo + 1)⟩
    have := List.mem_range'.mp hi
    omega
theorem occ1 (s : LL.Cs) (c lo limit : Nat) : occurrences (toS s) (toS [c]) lo s.length limit = (places c (s.drop lo) lo).take limit := by
  rw [StrLaws.occ_eq, occ_run s c limit _ _ _ (range'_up _ _) (fun i hi => by have := List.mem_range'.mp hi; omega)]
  show [] ++ _ = _
  rw [List.nil_append]
  show List.take (limit - 0) _ = _
  rw [Nat.sub_zero]
  congr 1
  by_cases h : lo ≤ s.length
  · have e : s.length + 1 - lo = (s.drop lo).length + 1 := by rw [List.length_drop]; omega
    rw [e]
    exact filter_places s c (s.drop lo) lo (fun j => by rw [List.getElem?_drop]) (by rw [List.length_drop]; omega)
  · have e : s.length + 1 - lo = 0 := by omega
    rw [e, List.drop_eq_nil_of_le (by omega)]
    rfl
theorem find3_T (s : LL.Cs) (c : Nat) (i : Int) (h : 0 ≤ i) : Txt.find3 (toS s) (toS [c]) i = LL.findAt s c i.toNat := by
  have e : fromIndex (toS s).length i = i.toNat := by unfold fromIndex; rw [if_neg (by omega)]; omega
  unfold Txt.find3 LL.findAt
  rw [e, toS_len, occ1, ← places_head]
  cases places c (s.drop i.toNat) i.toNat with
  | nil => rfl
  | cons a l => rfl
theorem count_T (s : LL.Cs) (c : Nat) : Txt.count (toS s) (toS [c]) = (s.count c : Nat) := by
  unfold Txt.count
  rw [toS_len, occ1, List.drop_zero, List.take_of_length_le, places_count]
  rw [places_count]
  exact Nat.le_succ_of_le List.count_le_length
theorem starts_T (s : LL.Cs) (c : Nat) : Txt.startswith (toS s) (toS [c]) = (s.head? == some c) := by
  unfold Txt.startswith
  rw [subAt1, toS_len]
  cases s with
  | nil => rfl
  | cons d s =>
    have h1 : (toS [c]).length = 1 := rfl
    by_cases h : d = c <;> simp [h, toS_len]
theorem ends_T (s : LL.Cs) (c : Nat) : Txt.endswith (toS s) (toS [c]) = (s.getLast? == some c) := by
  unfold Txt.endswith
  have h1 : (toS [c]).length = 1 := rfl
  rw [subAt1, toS_len, toS_len, List.getLast?_eq_getElem?]
  cases s with
  | nil => rfl
  | cons d s =>
    have h2 : (d :: s)[(d :: s).length - 1]? = some ((d :: s)[(d :: s).length - 1]'(by simp)) := List.getElem?_eq_getElem _
    have h3 : ∀ z : Nat, (decide (0 + 1 ≤ (d :: s).length) && decide (some z = some c)) = (some z == some c) := by
      intro z
      by_cases h : z = c <;> simp [h]
    have h4 := h3 ((d :: s)[(d :: s).length - 1]'(by simp))
    rw [← h2] at h4
    exact h4
theorem joinL_T (sep : LL.Cs) : ∀ xs : List LL.Cs, TL.joinL sep xs = LL.joinCs sep xs
  | [] => rfl
  | [_] => rfl
  | x :: y :: r => by
    show x ++ (sep ++ TL.joinL sep (y :: r)) = x ++ sep ++ LL.joinCs sep (y :: r)
    rw [joinL_T sep (y :: r), List.append_assoc]
theorem join_T (sep : LL.Cs) (xs : List LL.Cs) : Txt.join (toS sep) (xs.map toS) = toS (LL.joinCs sep xs) := by
  rw [TL.join_eq]
  apply TL.ext_tl
  rw [TL.tl_join, List.map_map]
  have e : (TL.tl ∘ toS) = _root_.id := by funext s; exact toS_tl s
  rw [e, List.map_id]
  show TL.joinL (toS sep).cps.toList xs = (toS _).cps.toList
  rw [toS_tl, toS_tl, joinL_T]
theorem rep_T (s : LL.Cs) : ∀ n : Nat, (List.replicate n (toS s).cps).foldl (· ++ ·) #[] = (LL.repeatCs s n).toArray := by
  have key : ∀ (n : Nat) (acc : Array Nat), (List.replicate n (toS s).cps).foldl (· ++ ·) acc = acc ++ (LL.repeatCs s n).toArray := by
    intro n
    induction n with
    | zero => intro acc; simp [LL.repeatCs]
    | succ n ih =>
      intro acc
      rw [List.replicate_succ, List.foldl_cons, ih, Array.append_assoc]
      congr 1
      show s.toArray ++ _ = (s ++ LL.repeatCs s n).toArray
      simp
  intro n
  rw [key]; simp
theorem repeat_len (s : LL.Cs) : ∀ n, (LL.repeatCs s n).length = n * s.length
  | 0 => by simp [LL.repeatCs]
  | n + 1 => by
    show (s ++ LL.repeatCs s n).length = _
    rw [List.length_append, repeat_len s n, Nat.succ_mul, Nat.add_comm]
/-- sorted texts -/
theorem csLt_tr {a b c : LL.Cs} (h : LL.csLt b a = false) (k : LL.csLt c b = false) : LL.csLt c a = false := by
  rw [csLt_iff, decide_eq_false_iff_not] at *
  exact fun z => h (List.lt_of_le_of_lt (List.not_lt.mp k) z)
theorem csLt_as {a b : LL.Cs} (h : LL.csLt b a = false) (k : LL.csLt a b = false) : a = b := by
  rw [csLt_iff, decide_eq_false_iff_not] at *
  exact List.le_antisymm (List.not_lt.mp h) (List.not_lt.mp k)
abbrev CsLe (a b : LL.Cs) : Prop := LL.csLt b a = false
theorem csLt_tot (a b : LL.Cs) : CsLe a b ∨ CsLe b a := by
  unfold CsLe
  rw [csLt_iff, csLt_iff, decide_eq_false_iff_not, decide_eq_false_iff_not]
  exact Classical.byContradiction fun h => by
    have h1 : b < a := Classical.byContradiction fun z => h (.inl z)
    have h2 : a < b := Classical.byContradiction fun z => h (.inr z)
    exact List.lt_asymm h1 h2
theorem ins_perm (x : LL.Cs) : ∀ l, (LL.insCs x l).Perm (x :: l)
  | [] => List.Perm.refl _
  | y :: r => by
    unfold LL.insCs
    split
    · exact List.Perm.refl _
    · exact ((ins_perm x r).cons y).trans (List.Perm.swap x y r)
theorem sort_perm : ∀ l, (LL.sortCs l).Perm l
  | [] => List.Perm.refl _
  | x :: r => (ins_perm x _).trans ((sort_perm r).cons x)
theorem ins_sorted (x : LL.Cs) : ∀ l, l.Pairwise CsLe → (LL.insCs x l).Pairwise CsLe
  | [], _ => by simp [LL.insCs]
  | y :: r, h => by
    have h' := List.pairwise_cons.mp h
    unfold LL.insCs
    split
    · rename_i hx
      have hxy : CsLe x y := by rcases csLt_tot x y with z | z; exact z; exact absurd (z.symm.trans hx) (by simp)
      exact List.pairwise_cons.mpr ⟨fun z hz => by
        rcases List.mem_cons.mp hz with rfl | hz
        · exact hxy
        · exact csLt_tr hxy (h'.1 z hz), h⟩
    · rename_i hx
      have hyx : CsLe y x := by simpa using hx
      exact List.pairwise_cons.mpr ⟨fun z hz => by
        rcases List.mem_cons.mp ((ins_perm x r).mem_iff.mp hz) with rfl | hz
        · exact hyx
        · exact h'.1 z hz, ins_sorted x r h'.2⟩
theorem sort_sorted : ∀ l, (LL.sortCs l).Pairwise CsLe
  | [] => List.Pairwise.nil
  | x :: r => ins_sorted x _ (sort_sorted r)
theorem rising_pw : ∀ (p : Str) (l : List Str), risingS p l = true → (p :: l).Pairwise fun a b => CsLe a.cps.toList b.cps.toList
  | p, [], _ => by simp
  | p, x :: r, h => by
    have h1 : (!ltCps x.cps.toList p.cps.toList) = true ∧ risingS x r = true := by simpa [risingS] using h
    have ih := rising_pw x r h1.2
    have hx : CsLe p.cps.toList x.cps.toList := by
      show LL.csLt _ _ = false
      rw [csLt_iff, ← ltCps_eq]
      simpa using h1.1
    refine List.pairwise_cons.mpr ⟨fun z hz => ?_, ih⟩
    rcases List.mem_cons.mp hz with rfl | hz
    · exact hx
    · exact csLt_tr hx ((List.pairwise_cons.mp ih).1 z hz)
theorem perm_eq : ∀ {a b : List LL.Cs}, a.Perm b → a.Pairwise CsLe → b.Pairwise CsLe → a = b
  | [], b, h, _, _ => h.nil_eq
  | x :: a, [], h, _, _ => absurd h.length_eq (by simp)
  | x :: a, y :: b, h, ha, hb => by
    have ha' := List.pairwise_cons.mp ha
    have hb' := List.pairwise_cons.mp hb
    have e : x = y := by
      have hx := h.mem_iff.mp (List.mem_cons_self (a := x) (l := a))
      have hy := h.mem_iff.mpr (List.mem_cons_self (a := y) (l := b))
      rcases List.mem_cons.mp hx with rfl | hx
      · rfl
      · rcases List.mem_cons.mp hy with rfl | hy
        · rfl
        · exact csLt_as (ha'.1 y hy) (hb'.1 x hx)
    subst e
    rw [perm_eq (h.cons_inv) ha'.2 hb'.2]
theorem sorted_T {ys : List Str} {ss : List LL.Cs} (hp : ys.Perm (ss.map toS)) (hs : sortedS ys = true) : ys = (LL.sortCs ss).map toS := by
  have h1 : (ys.map fun y => y.cps.toList).Perm ss := by
    have := hp.map (fun y : Str => y.cps.toList)
    rw [List.map_map] at this
    have e : ((fun y : Str => y.cps.toList) ∘ toS) = _root_.id := by funext s; exact toS_tl s
    rwa [e, List.map_id] at this
  have h2 : (ys.map fun y => y.cps.toList).Pairwise CsLe := by
    cases ys with
    | nil => exact List.Pairwise.nil
    | cons y r => exact List.pairwise_map.mpr (rising_pw y r hs)
  have h3 := perm_eq (h1.trans (sort_perm ss).symm) h2 (sort_sorted ss)
  rw [← h3, List.map_map]
  have e : (toS ∘ fun y : Str => y.cps.toList) = _root_.id := by funext s; exact toS_of s
  rw [e, List.map_id]
theorem dec_T (i : Int) : (PySem.Str.ofString (toString i)) = toS (LL.decInt i) := by
  apply TL.ext_tl
  rw [TL.tl_ofString]
  show _ = (toS _).cps.toList
  rw [toS_tl]
  cases i with
  | ofNat n => simp [LL.decInt, LL.decDigits, toString, Int.repr, Nat.repr]
  | negSucc n =>
    show ("-" ++ (Nat.repr (n + 1))).toList.map Char.toNat = 45 :: LL.decDigits (n + 1)
    simp [LL.decDigits, Nat.repr]
end LLS

set_option Elab.async false
set_option linter.all false
set_option autoImplicit false
set_option maxRecDepth 100000
set_option maxHeartbeats 4000000
namespace LLS
open PySem PySem.Spec PyProof.Rows L2 PySem.SeqAt
section
variable {X : Cx} {Ad' : Ad} {ω : List Addr} {pins : List (Addr × Obj)} {σ : L2.St} {H : Hp} {s : Shared}
theorem rcAt_T (I : Inv X pins σ H s) : ∀ (a b : LL.T) (A : Around) (va vb : V) (ua ub : Value), Rep X.K Ad' H ω a va → Rep X.K Ad' H ω b vb → RelV va ua → RelV vb ub → a.data = true → b.data = true → LL.T.calm a b = true →
    A.units + min a.depth b.depth < cLine → RcAt A s ua ub (LL.T.beq a b)
  | .non, b, A, va, vb, ua, ub, ra, rb, qa, qb, ha, hb, hc, hu => by
    cases ra; cases qa
    cases rb with
    | non => cases qb; exact RcAt.none_none
    | bl y => cases qb; exact RcAt.none_bool y
    | int y => obtain ⟨t, rfl⟩ := qb; exact RcAt.none_int y t
    | str y => obtain ⟨t, rfl⟩ := qb; exact RcAt.none_str _ t
    | tup h r => cases qb; obtain ⟨its, _, p, _⟩ := I.tuple h; exact RcAt.none_tuple (show s.heap.IsTuple _ its.toArray from p) (by simpa [LL.T.depth] using hu)
    | lst h r => cases qb; obtain ⟨its, _, p, _⟩ := I.list (.inl (.inl h)); exact RcAt.none_list p.isList (by simpa [LL.T.depth] using hu)
    | _ => simp [LL.T.data] at hb
  | .bl x, b, A, va, vb, ua, ub, ra, rb, qa, qb, ha, hb, hc, hu => by
    cases ra; cases qa
    cases rb with
    | non => cases qb; exact RcAt.bool_none x
    | bl y => cases qb; exact RcAt.bool_bool x y
    | int y => simp [LL.T.calm] at hc
    | str y => obtain ⟨t, rfl⟩ := qb; exact RcAt.bool_str x _ t
    | tup h r => cases qb; obtain ⟨its, _, p, _⟩ := I.tuple h; exact RcAt.bool_tuple x (show s.heap.IsTuple _ its.toArray from p) (by simpa [LL.T.depth] using hu)
    | lst h r => cases qb; obtain ⟨its, _, p, _⟩ := I.list (.inl (.inl h)); exact RcAt.bool_list x p.isList (by simpa [LL.T.depth] using hu)
    | _ => simp [LL.T.data] at hb
  | .int x, b, A, va, vb, ua, ub, ra, rb, qa, qb, ha, hb, hc, hu => by
    cases ra; obtain ⟨t', rfl⟩ := qa
    cases rb with
    | non => cases qb; exact RcAt.int_none x t'
    | bl y => simp [LL.T.calm] at hc
    | int y => obtain ⟨t, rfl⟩ := qb; exact RcAt.int_int x t' y t
    | str y => obtain ⟨t, rfl⟩ := qb; exact RcAt.int_str x t' _ t
    | tup h r => cases qb; obtain ⟨its, _, p, _⟩ := I.tuple h; exact RcAt.int_tuple x t' (show s.heap.IsTuple _ its.toArray from p) (by simpa [LL.T.depth] using hu)
    | lst h r => cases qb; obtain ⟨its, _, p, _⟩ := I.list (.inl (.inl h)); exact RcAt.int_list x t' p.isList (by simpa [LL.T.depth] using hu)
    | _ => simp [LL.T.data] at hb
  | .str x, b, A, va, vb, ua, ub, ra, rb, qa, qb, ha, hb, hc, hu => by
    cases ra; obtain ⟨t', rfl⟩ := qa
    cases rb with
    | non => cases qb; exact RcAt.str_none _ t'
    | bl y => cases qb; exact RcAt.str_bool _ t' y
    | int y => obtain ⟨t, rfl⟩ := qb; exact RcAt.str_int _ t' y t
    | str y =>
      obtain ⟨t, rfl⟩ := qb
      have e : LL.T.beq (.str x) (.str y) = (toS x == toS y) := by simp [LL.T.beq, toS_inj]
      rw [e]
      exact RcAt.str_str _ t' _ t
    | tup h r => cases qb; obtain ⟨its, _, p, _⟩ := I.tuple h; exact RcAt.str_tuple _ t' (show s.heap.IsTuple _ its.toArray from p) (by simpa [LL.T.depth] using hu)
    | lst h r => cases qb; obtain ⟨its, _, p, _⟩ := I.list (.inl (.inl h)); exact RcAt.str_list _ t' p.isList (by simpa [LL.T.depth] using hu)
    | _ => simp [LL.T.data] at hb
  | .tup xs, b, A, va, vb, ua, ub, ra, rb, qa, qb, ha, hb, hc, hu => by
    cases ra with
    | @tup _ l vs h r =>
      cases qa
      obtain ⟨its, rv, p, _⟩ := I.tuple h
      have hl : s.heap.IsTuple l its.toArray := p
      cases rb with
      | non => cases qb; exact RcAt.tuple_none hl (by simpa [LL.T.depth] using hu)
      | bl y => cases qb; exact RcAt.tuple_bool y hl (by simpa [LL.T.depth] using hu)
      | int y => obtain ⟨t, rfl⟩ := qb; exact RcAt.tuple_int y t hl (by simpa [LL.T.depth] using hu)
      | str y => obtain ⟨t, rfl⟩ := qb; exact RcAt.tuple_str _ t hl (by simpa [LL.T.depth] using hu)
      | @lst ys l' ws h' r' =>
        cases qb
        obtain ⟨its', _, p', _⟩ := I.list (.inl (.inl h'))
        have hu' : A.units + (min (LL.T.depths xs) (LL.T.depths ys) + 1) < cLine := by
          have e : min (LL.T.depth (.tup xs)) (LL.T.depth (.lst ys)) = min (LL.T.depths xs) (LL.T.depths ys) + 1 := by simp only [LL.T.depth]; omega
          rw [e] at hu; exact hu
        exact RcAt.tuple_list hl p'.isList (room_h hu')
      | @tup ys l' ws h' r' =>
        cases qb
        obtain ⟨its', rv', p', _⟩ := I.tuple h'
        have hl' : s.heap.IsTuple l' its'.toArray := p'
        have hu' : A.units + (min (LL.T.depths xs) (LL.T.depths ys) + 1) < cLine := by
          have e : min (LL.T.depth (.tup xs)) (LL.T.depth (.tup ys)) = min (LL.T.depths xs) (LL.T.depths ys) + 1 := by simp only [LL.T.depth]; omega
          rw [e] at hu; exact hu
        have da : LL.T.datas xs = true := by simpa [LL.T.data] using ha
        have db : LL.T.datas ys = true := by simpa [LL.T.data] using hb
        have hcs : LL.T.calms xs ys = true := by simpa [LL.T.calm] using hc
        have n1 : its.length = xs.length := by rw [← rv.length, ← r.length]
        have n2 : its'.length = ys.length := by rw [← rv'.length, ← r'.length]
        show RcAt A s (.ref l) (.ref l') (LL.T.beqs xs ys)
        rw [← pairs_all xs ys, ← n1, ← n2]
        have q := RcAt.tuples (e := fun j => LL.T.beq (xs.getD j .non) (ys.getD j .non)) hl hl' (room_h hu') fun j j1 j2 => by
          have := eqAts_T I xs ys A.in1 vs ws its its' r r' rv rv' da db hcs (room_i hu') j (by simpa using j1) (by simpa using j2)
          simpa using this
        simpa using q
      | _ => simp [LL.T.data] at hb
  | .lst xs, b, A, va, vb, ua, ub, ra, rb, qa, qb, ha, hb, hc, hu => by
    cases ra with
    | @lst _ l vs h r =>
      cases qa
      obtain ⟨its, rv, p, _⟩ := I.list (.inl (.inl h))
      have hl : s.heap.IsList l its.toArray := p.isList
      cases rb with
      | non => cases qb; exact RcAt.list_none hl (by simpa [LL.T.depth] using hu)
      | bl y => cases qb; exact RcAt.list_bool y hl (by simpa [LL.T.depth] using hu)
      | int y => obtain ⟨t, rfl⟩ := qb; exact RcAt.list_int y t hl (by simpa [LL.T.depth] using hu)
      | str y => obtain ⟨t, rfl⟩ := qb; exact RcAt.list_str _ t hl (by simpa [LL.T.depth] using hu)
      | @tup ys l' ws h' r' =>
        cases qb
        obtain ⟨its', _, p', _⟩ := I.tuple h'
        have hu' : A.units + (min (LL.T.depths xs) (LL.T.depths ys) + 1) < cLine := by
          have e : min (LL.T.depth (.lst xs)) (LL.T.depth (.tup ys)) = min (LL.T.depths xs) (LL.T.depths ys) + 1 := by simp only [LL.T.depth]; omega
          rw [e] at hu; exact hu
        exact RcAt.list_tuple hl (show s.heap.IsTuple _ its'.toArray from p') (room_h hu')
      | @lst ys l' ws h' r' =>
        cases qb
        obtain ⟨its', rv', p', _⟩ := I.list (.inl (.inl h'))
        have hl' : s.heap.IsList l' its'.toArray := p'.isList
        have hu' : A.units + (min (LL.T.depths xs) (LL.T.depths ys) + 1) < cLine := by
          have e : min (LL.T.depth (.lst xs)) (LL.T.depth (.lst ys)) = min (LL.T.depths xs) (LL.T.depths ys) + 1 := by simp only [LL.T.depth]; omega
          rw [e] at hu; exact hu
        have da : LL.T.datas xs = true := by simpa [LL.T.data] using ha
        have db : LL.T.datas ys = true := by simpa [LL.T.data] using hb
        have hcs : LL.T.calms xs ys = true := by simpa [LL.T.calm] using hc
        have n1 : its.length = xs.length := by rw [← rv.length, ← r.length]
        have n2 : its'.length = ys.length := by rw [← rv'.length, ← r'.length]
        show RcAt A s (.ref l) (.ref l') (LL.T.beqs xs ys)
        by_cases hsz : its.toArray.size = its'.toArray.size
        · have hsz' : xs.length = ys.length := by simpa [n1, n2] using hsz
          have q := RcAt.lists (e := fun j => LL.T.beq (xs.getD j .non) (ys.getD j .non)) hl hl' hsz (room_h hu') fun j j1 j2 => by
            have := eqAts_T I xs ys A.in1 vs ws its its' r r' rv rv' da db hcs (room_i hu') j (by simpa using j1) (by simpa using j2)
            simpa using this
          have e3 := pairs_all xs ys
          rw [← hsz', Nat.min_self] at e3
          rw [← e3]
          have e4 : (xs.length == xs.length) = true := by simp
          rw [e4, Bool.and_true, ← n1]
          simpa using q
        · rw [beqs_len (by simpa [n1, n2] using hsz)]
          exact RcAt.lists_lengths hl hl' (by simpa using hsz) (room_h hu')
      | _ => simp [LL.T.data] at hb
  | .obj x, b, A, va, vb, ua, ub, ra, rb, qa, qb, ha, hb, hc, hu => by simp [LL.T.data] at ha
  | .fn x, b, A, va, vb, ua, ub, ra, rb, qa, qb, ha, hb, hc, hu => by simp [LL.T.data] at ha
  | .scr x, b, A, va, vb, ua, ub, ra, rb, qa, qb, ha, hb, hc, hu => by simp [LL.T.data] at ha

theorem rcNeAt_T (I : Inv X pins σ H s) : ∀ (a b : LL.T) (A : Around) (va vb : V) (ua ub : Value), Rep X.K Ad' H ω a va → Rep X.K Ad' H ω b vb → RelV va ua → RelV vb ub → a.data = true → b.data = true → LL.T.calm a b = true →
    A.units + min a.depth b.depth < cLine → RcNeAt A s ua ub (!LL.T.beq a b)
  | .non, b, A, va, vb, ua, ub, ra, rb, qa, qb, ha, hb, hc, hu => by
    cases ra; cases qa
    cases rb with
    | non => cases qb; exact RcNeAt.none_none
    | bl y => cases qb; exact RcNeAt.none_bool y
    | int y => obtain ⟨t, rfl⟩ := qb; exact RcNeAt.none_int y t
    | str y => obtain ⟨t, rfl⟩ := qb; exact RcNeAt.none_str _ t
    | tup h r => cases qb; obtain ⟨its, _, p, _⟩ := I.tuple h; exact RcNeAt.none_tuple (show s.heap.IsTuple _ its.toArray from p) (by simpa [LL.T.depth] using hu)
    | lst h r => cases qb; obtain ⟨its, _, p, _⟩ := I.list (.inl (.inl h)); exact RcNeAt.none_list p.isList (by simpa [LL.T.depth] using hu)
    | _ => simp [LL.T.data] at hb
  | .bl x, b, A, va, vb, ua, ub, ra, rb, qa, qb, ha, hb, hc, hu => by
    cases ra; cases qa
    cases rb with
    | non => cases qb; exact RcNeAt.bool_none x
    | bl y => cases qb; exact RcNeAt.bool_bool x y
    | int y => simp [LL.T.calm] at hc
    | str y => obtain ⟨t, rfl⟩ := qb; exact RcNeAt.bool_str x _ t
    | tup h r => cases qb; obtain ⟨its, _, p, _⟩ := I.tuple h; exact RcNeAt.bool_tuple x (show s.heap.IsTuple _ its.toArray from p) (by simpa [LL.T.depth] using hu)
    | lst h r => cases qb; obtain ⟨its, _, p, _⟩ := I.list (.inl (.inl h)); exact RcNeAt.bool_list x p.isList (by simpa [LL.T.depth] using hu)
    | _ => simp [LL.T.data] at hb
  | .int x, b, A, va, vb, ua, ub, ra, rb, qa, qb, ha, hb, hc, hu => by
    cases ra; obtain ⟨t', rfl⟩ := qa
    cases rb with
    | non => cases qb; exact RcNeAt.int_none x t'
    | bl y => simp [LL.T.calm] at hc
    | int y => obtain ⟨t, rfl⟩ := qb; exact RcNeAt.int_int x t' y t
    | str y => obtain ⟨t, rfl⟩ := qb; exact RcNeAt.int_str x t' _ t
    | tup h r => cases qb; obtain ⟨its, _, p, _⟩ := I.tuple h; exact RcNeAt.int_tuple x t' (show s.heap.IsTuple _ its.toArray from p) (by simpa [LL.T.depth] using hu)
    | lst h r => cases qb; obtain ⟨its, _, p, _⟩ := I.list (.inl (.inl h)); exact RcNeAt.int_list x t' p.isList (by simpa [LL.T.depth] using hu)
    | _ => simp [LL.T.data] at hb
  | .str x, b, A, va, vb, ua, ub, ra, rb, qa, qb, ha, hb, hc, hu => by
    cases ra; obtain ⟨t', rfl⟩ := qa
    cases rb with
    | non => cases qb; exact RcNeAt.str_none _ t'
    | bl y => cases qb; exact RcNeAt.str_bool _ t' y
    | int y => obtain ⟨t, rfl⟩ := qb; exact RcNeAt.str_int _ t' y t
    | str y =>
      obtain ⟨t, rfl⟩ := qb
      have e : LL.T.beq (.str x) (.str y) = (toS x == toS y) := by simp [LL.T.beq, toS_inj]
      rw [e]
      exact RcNeAt.str_str _ t' _ t
    | tup h r => cases qb; obtain ⟨its, _, p, _⟩ := I.tuple h; exact RcNeAt.str_tuple _ t' (show s.heap.IsTuple _ its.toArray from p) (by simpa [LL.T.depth] using hu)
    | lst h r => cases qb; obtain ⟨its, _, p, _⟩ := I.list (.inl (.inl h)); exact RcNeAt.str_list _ t' p.isList (by simpa [LL.T.depth] using hu)
    | _ => simp [LL.T.data] at hb
  | .tup xs, b, A, va, vb, ua, ub, ra, rb, qa, qb, ha, hb, hc, hu => by
    cases ra with
    | @tup _ l vs h r =>
      cases qa
      obtain ⟨its, rv, p, _⟩ := I.tuple h
      have hl : s.heap.IsTuple l its.toArray := p
      cases rb with
      | non => cases qb; exact RcNeAt.tuple_none hl (by simpa [LL.T.depth] using hu)
      | bl y => cases qb; exact RcNeAt.tuple_bool y hl (by simpa [LL.T.depth] using hu)
      | int y => obtain ⟨t, rfl⟩ := qb; exact RcNeAt.tuple_int y t hl (by simpa [LL.T.depth] using hu)
      | str y => obtain ⟨t, rfl⟩ := qb; exact RcNeAt.tuple_str _ t hl (by simpa [LL.T.depth] using hu)
      | @lst ys l' ws h' r' =>
        cases qb
        obtain ⟨its', _, p', _⟩ := I.list (.inl (.inl h'))
        have hu' : A.units + (min (LL.T.depths xs) (LL.T.depths ys) + 1) < cLine := by
          have e : min (LL.T.depth (.tup xs)) (LL.T.depth (.lst ys)) = min (LL.T.depths xs) (LL.T.depths ys) + 1 := by simp only [LL.T.depth]; omega
          rw [e] at hu; exact hu
        exact RcNeAt.tuple_list hl p'.isList (room_h hu')
      | @tup ys l' ws h' r' =>
        cases qb
        obtain ⟨its', rv', p', _⟩ := I.tuple h'
        have hl' : s.heap.IsTuple l' its'.toArray := p'
        have hu' : A.units + (min (LL.T.depths xs) (LL.T.depths ys) + 1) < cLine := by
          have e : min (LL.T.depth (.tup xs)) (LL.T.depth (.tup ys)) = min (LL.T.depths xs) (LL.T.depths ys) + 1 := by simp only [LL.T.depth]; omega
          rw [e] at hu; exact hu
        have da : LL.T.datas xs = true := by simpa [LL.T.data] using ha
        have db : LL.T.datas ys = true := by simpa [LL.T.data] using hb
        have hcs : LL.T.calms xs ys = true := by simpa [LL.T.calm] using hc
        have n1 : its.length = xs.length := by rw [← rv.length, ← r.length]
        have n2 : its'.length = ys.length := by rw [← rv'.length, ← r'.length]
        show RcNeAt A s (.ref l) (.ref l') (!LL.T.beqs xs ys)
        rw [← pairs_all xs ys, ← n1, ← n2]
        have q := RcNeAt.tuples (e := fun j => LL.T.beq (xs.getD j .non) (ys.getD j .non)) hl hl' (room_h hu') fun j j1 j2 => by
          have := eqAts_T I xs ys A.in1 vs ws its its' r r' rv rv' da db hcs (room_i hu') j (by simpa using j1) (by simpa using j2)
          simpa using this
        simpa using q
      | _ => simp [LL.T.data] at hb
  | .lst xs, b, A, va, vb, ua, ub, ra, rb, qa, qb, ha, hb, hc, hu => by
    cases ra with
    | @lst _ l vs h r =>
      cases qa
      obtain ⟨its, rv, p, _⟩ := I.list (.inl (.inl h))
      have hl : s.heap.IsList l its.toArray := p.isList
      cases rb with
      | non => cases qb; exact RcNeAt.list_none hl (by simpa [LL.T.depth] using hu)
      | bl y => cases qb; exact RcNeAt.list_bool y hl (by simpa [LL.T.depth] using hu)
      | int y => obtain ⟨t, rfl⟩ := qb; exact RcNeAt.list_int y t hl (by simpa [LL.T.depth] using hu)
      | str y => obtain ⟨t, rfl⟩ := qb; exact RcNeAt.list_str _ t hl (by simpa [LL.T.depth] using hu)
      | @tup ys l' ws h' r' =>
        cases qb
        obtain ⟨its', _, p', _⟩ := I.tuple h'
        have hu' : A.units + (min (LL.T.depths xs) (LL.T.depths ys) + 1) < cLine := by
          have e : min (LL.T.depth (.lst xs)) (LL.T.depth (.tup ys)) = min (LL.T.depths xs) (LL.T.depths ys) + 1 := by simp only [LL.T.depth]; omega
          rw [e] at hu; exact hu
        exact RcNeAt.list_tuple hl (show s.heap.IsTuple _ its'.toArray from p') (room_h hu')
      | @lst ys l' ws h' r' =>
        cases qb
        obtain ⟨its', rv', p', _⟩ := I.list (.inl (.inl h'))
        have hl' : s.heap.IsList l' its'.toArray := p'.isList
        have hu' : A.units + (min (LL.T.depths xs) (LL.T.depths ys) + 1) < cLine := by
          have e : min (LL.T.depth (.lst xs)) (LL.T.depth (.lst ys)) = min (LL.T.depths xs) (LL.T.depths ys) + 1 := by simp only [LL.T.depth]; omega
          rw [e] at hu; exact hu
        have da : LL.T.datas xs = true := by simpa [LL.T.data] using ha
        have db : LL.T.datas ys = true := by simpa [LL.T.data] using hb
        have hcs : LL.T.calms xs ys = true := by simpa [LL.T.calm] using hc
        have n1 : its.length = xs.length := by rw [← rv.length, ← r.length]
        have n2 : its'.length = ys.length := by rw [← rv'.length, ← r'.length]
        show RcNeAt A s (.ref l) (.ref l') (!LL.T.beqs xs ys)
        by_cases hsz : its.toArray.size = its'.toArray.size
        · have hsz' : xs.length = ys.length := by simpa [n1, n2] using hsz
          have q := RcNeAt.lists (e := fun j => LL.T.beq (xs.getD j .non) (ys.getD j .non)) hl hl' hsz (room_h hu') fun j j1 j2 => by
            have := eqAts_T I xs ys A.in1 vs ws its its' r r' rv rv' da db hcs (room_i hu') j (by simpa using j1) (by simpa using j2)
            simpa using this
          have e3 := pairs_all xs ys
          rw [← hsz', Nat.min_self] at e3
          rw [← e3]
          have e4 : (xs.length == xs.length) = true := by simp
          rw [e4, Bool.and_true, ← n1]
          simpa using q
        · show RcNeAt A s (.ref l) (.ref l') (!LL.T.beqs xs ys)
          rw [beqs_len (by simpa [n1, n2] using hsz)]
          exact RcNeAt.lists_lengths hl hl' (by simpa using hsz) (room_h hu')
      | _ => simp [LL.T.data] at hb
  | .obj x, b, A, va, vb, ua, ub, ra, rb, qa, qb, ha, hb, hc, hu => by simp [LL.T.data] at ha
  | .fn x, b, A, va, vb, ua, ub, ra, rb, qa, qb, ha, hb, hc, hu => by simp [LL.T.data] at ha
  | .scr x, b, A, va, vb, ua, ub, ra, rb, qa, qb, ha, hb, hc, hu => by simp [LL.T.data] at ha

/-! ### a tree among trees -/
theorem inSeqOk_all {x : LL.T} : ∀ {ys : List LL.T}, LL.inSeqOk x ys = true → ∀ y ∈ ys, LL.T.eqOk y x = true
  | [], _, y, hy => by simp at hy
  | z :: r, h, y, hy => by
    simp only [LL.inSeqOk, Bool.and_eq_true] at h
    rcases List.mem_cons.mp hy with rfl | hy
    · exact h.1
    · exact inSeqOk_all h.2 y hy
theorem inSeq_any (x : LL.T) : ∀ ys : List LL.T, LL.inSeq x ys = ys.any fun y => LL.T.beq y x
  | [] => rfl
  | y :: r => by simp [LL.inSeq, inSeq_any x r]
/-- whether an item is one that is equal -/
noncomputable def hitU (x : LL.T) (ys : List LL.T) (us : List Value) (u : Value) : Bool :=
  @decide (∃ (j : Nat) (y : LL.T), ys[j]? = some y ∧ us[j]? = some u ∧ LL.T.beq y x = true) (Classical.propDecidable _)
theorem reps_at {K : PySem.W.Frag} {G : Hp} {ys : List LL.T} {vs : List V} {us : List Value} (r : Reps K Ad' G ω ys vs) (q : Vals vs us) {j : Nat} {u : Value} (h : us[j]? = some u) : ∃ y v, ys[j]? = some y ∧ vs[j]? = some v ∧ Rep K Ad' G ω y v ∧ RelV v u := by
  have hl : j < ys.length := by
    rw [r.length, q.length]
    exact (List.getElem?_eq_some_iff.mp h).1
  obtain ⟨v, h1, h2⟩ := r.get (List.getElem?_eq_getElem hl)
  obtain ⟨u', h3, h4⟩ := q.get h1
  rw [h] at h3; cases h3
  exact ⟨_, v, List.getElem?_eq_getElem hl, h1, h2, h4⟩
theorem hit_is (I : Inv X pins σ H s) {x : LL.T} {ys : List LL.T} {vs : List V} {us : List Value} (r : Reps X.K Ad' H ω ys vs) (q : Vals vs us) (hd : ∀ y ∈ ys, y.data = true) {j : Nat} {u : Value} {y : LL.T} (h : us[j]? = some u) (hy : ys[j]? = some y) :
    hitU x ys us u = LL.T.beq y x := by
  unfold hitU
  obtain ⟨y0, v, e1, e2, e3, e4⟩ := reps_at r q h
  rw [hy] at e1; cases e1
  have dy := hd _ (List.mem_of_getElem? hy)
  cases hb : LL.T.beq y x with
  | true => exact @decide_eq_true _ (Classical.propDecidable _) ⟨j, y, hy, h, hb⟩
  | false =>
    refine @decide_eq_false _ (Classical.propDecidable _) ?_
    rintro ⟨k, z, k1, k2, k3⟩
    obtain ⟨z0, v', f1, f2, f3, f4⟩ := reps_at r q k2
    rw [k1] at f1; cases f1
    have ev : v = v' := e4.inj f4
    subst ev
    have := rep_uni (uniI I) _ _ _ dy (hd _ (List.mem_of_getElem? k1)) e3 f3
    subst this
    rw [hb] at k3; cases k3
theorem any_hit (I : Inv X pins σ H s) {x : LL.T} {ys : List LL.T} {vs : List V} {us : List Value} (r : Reps X.K Ad' H ω ys vs) (q : Vals vs us) (hd : ∀ y ∈ ys, y.data = true) : us.any (hitU x ys us) = LL.inSeq x ys := by
  rw [inSeq_any, Bool.eq_iff_iff]
  simp only [List.any_eq_true]
  constructor
  · rintro ⟨u, hu, h⟩
    obtain ⟨j, hj⟩ := List.getElem?_of_mem hu
    obtain ⟨y, v, e1, _⟩ := reps_at r q hj
    exact ⟨y, List.mem_of_getElem? e1, by rw [← hit_is (x := x) I r q hd hj e1]; exact h⟩
  · rintro ⟨y, hy, h⟩
    obtain ⟨j, hj⟩ := List.getElem?_of_mem hy
    have hl : j < us.length := by
      rw [← q.length, ← r.length]
      exact (List.getElem?_eq_some_iff.mp hj).1
    exact ⟨us[j], List.getElem_mem hl, by rw [hit_is (x := x) I r q hd (List.getElem?_eq_getElem hl) hj]; exact h⟩
theorem hit_eqAt (I : Inv X pins σ H s) {A : Around} {x : LL.T} {vx : V} {ux : Value} {ys : List LL.T} {vs : List V} {us : List Value} (rx : Rep X.K Ad' H ω x vx) (qx : RelV vx ux) (r : Reps X.K Ad' H ω ys vs) (q : Vals vs us)
    (ok : LL.inSeqOk x ys = true) (hu : A.units + 62 < cLine) : ∀ u ∈ us, EqAt A s u ux (hitU x ys us u) := by
  intro u hu'
  obtain ⟨j, hj⟩ := List.getElem?_of_mem hu'
  obtain ⟨y, v, e1, e2, e3, e4⟩ := reps_at r q hj
  have o := inSeqOk_all ok
  have hd : ∀ y ∈ ys, y.data = true := fun y hy => by
    have := o y hy
    simp only [LL.T.eqOk, Bool.and_eq_true] at this
    exact this.1.1.1
  rw [hit_is I r q hd hj e1]
  have oy := o y (List.mem_of_getElem? e1)
  simp only [LL.T.eqOk, Bool.and_eq_true, decide_eq_true_eq] at oy
  exact eqAt_T I y x A v vx u ux e3 rx e4 qx oy.1.1.1 oy.1.1.2 oy.1.2 (by omega)
end
end LLS

set_option Elab.async false
set_option linter.all false
set_option autoImplicit false
set_option maxRecDepth 100000
set_option maxHeartbeats 4000000
namespace LLS
open PySem PySem.Spec PyProof.Rows L2 PySem.SeqAt

/-! ### what follows from a result -/
abbrev WA := Nat → Hp → Prop
def Aft {α : Type} (K : PySem.W.Frag) (A : Ad) (ρ : List Addr) (W : WA) (G : Hp) (ω : List Addr) (k : α → LL.Sto → Hp → List Addr → Hp → Prop) : LL.Res α → Prop
  | .ok a S => ∀ G' ω' H, Ext G G' → ω <+: ω' → MS K A G' ρ ω' S H → k a S G' ω' H
  | .exc c S => ∀ G' ω' H, Ext G G' → ω <+: ω' → MS K A G' ρ ω' S H → W c H
  | .bad => False
section
variable {K : PySem.W.Frag} {A : Ad} {ρ : List Addr} {W : WA} {G G1 : Hp} {ω ω1 : List Addr} {α β : Type}
theorem Aft.mono {k : α → LL.Sto → Hp → List Addr → Hp → Prop} {r : LL.Res α} (e : Ext G G1) (p : ω <+: ω1) (h : Aft K A ρ W G ω k r) : Aft K A ρ W G1 ω1 k r := by
  cases r with
  | ok a S => exact fun G' ω' H e' p' m => h G' ω' H (e.trans e') (p.trans p') m
  | exc c S => exact fun G' ω' H e' p' m => h G' ω' H (e.trans e') (p.trans p') m
  | bad => exact h
theorem Aft.imp {k k' : α → LL.Sto → Hp → List Addr → Hp → Prop} {r : LL.Res α} (h : Aft K A ρ W G ω k r) (i : ∀ a S G' ω' H, Ext G G' → ω <+: ω' → MS K A G' ρ ω' S H → k a S G' ω' H → k' a S G' ω' H) : Aft K A ρ W G ω k' r := by
  cases r with
  | ok a S => exact fun G' ω' H e' p' m => i a S G' ω' H e' p' m (h G' ω' H e' p' m)
  | exc c S => exact h
  | bad => exact h
theorem Aft.bind {m : LL.M α} {f : α → LL.M β} {S : LL.Sto} {k : β → LL.Sto → Hp → List Addr → Hp → Prop} (h : Aft K A ρ W G ω k ((m >>= f) S)) :
    Aft K A ρ W G ω (fun a S' G' ω' _ => Aft K A ρ W G' ω' k (f a S')) (m S) := by
  have e : (m >>= f) S = (match m S with | .ok a s' => f a s' | .exc c s' => .exc c s' | .bad => .bad) := rfl
  rw [e] at h
  cases hm : m S with
  | ok a S' => rw [hm] at h; exact fun G' ω' H e' p' _ => Aft.mono e' p' h
  | exc c S' => rw [hm] at h; exact h
  | bad => rw [hm] at h; exact h
theorem Aft.guard {b : Bool} {f : Unit → LL.M β} {S : LL.Sto} {k : β → LL.Sto → Hp → List Addr → Hp → Prop} (h : Aft K A ρ W G ω k ((LL.M.guard b >>= f) S)) : b = true ∧ Aft K A ρ W G ω k (f () S) := by
  cases b with
  | true => exact ⟨rfl, h⟩
  | false => exact h.elim
theorem Aft.opt {o : Option α} {f : α → LL.M β} {S : LL.Sto} {k : β → LL.Sto → Hp → List Addr → Hp → Prop} (h : Aft K A ρ W G ω k ((LL.M.opt o >>= f) S)) : ∃ a, o = some a ∧ Aft K A ρ W G ω k (f a S) := by
  cases o with
  | some a => exact ⟨a, rfl, h⟩
  | none => exact h.elim
theorem Aft.isI {r : LL.Rv} {f : Int → LL.M β} {S : LL.Sto} {k : β → LL.Sto → Hp → List Addr → Hp → Prop} (h : Aft K A ρ W G ω k ((r.isI >>= f) S)) : ∃ i, r = .v (.int i) ∧ Aft K A ρ W G ω k (f i S) := by
  cases r with
  | v t => cases t with
    | int i => exact ⟨i, rfl, h⟩
    | _ => exact h.elim
  | _ => exact h.elim
theorem Aft.isB {r : LL.Rv} {f : Bool → LL.M β} {S : LL.Sto} {k : β → LL.Sto → Hp → List Addr → Hp → Prop} (h : Aft K A ρ W G ω k ((r.isB >>= f) S)) : ∃ i, r = .v (.bl i) ∧ Aft K A ρ W G ω k (f i S) := by
  cases r with
  | v t => cases t with
    | bl i => exact ⟨i, rfl, h⟩
    | _ => exact h.elim
  | _ => exact h.elim
theorem Aft.lst {r : LL.Rv} {f : List LL.T → LL.M β} {S : LL.Sto} {k : β → LL.Sto → Hp → List Addr → Hp → Prop} (h : Aft K A ρ W G ω k ((r.lst >>= f) S)) : ∃ xs, LL.lstAt S r.w = some xs ∧ Aft K A ρ W G ω k (f xs S) := by
  have e : (r.lst >>= f) S = (LL.M.opt (LL.lstAt S r.w) >>= f) S := rfl
  rw [e] at h
  exact h.opt
theorem Aft.seq {r : LL.Rv} {f : List LL.T → LL.M β} {S : LL.Sto} {k : β → LL.Sto → Hp → List Addr → Hp → Prop} (h : Aft K A ρ W G ω k ((r.seq >>= f) S)) : ∃ xs, LL.seqAt S r.w = some xs ∧ Aft K A ρ W G ω k (f xs S) := by
  have e : (r.seq >>= f) S = (LL.M.opt (LL.seqAt S r.w) >>= f) S := rfl
  rw [e] at h
  exact h.opt
theorem Aft.tree {r : LL.Rv} {f : LL.T → LL.M β} {S : LL.Sto} {k : β → LL.Sto → Hp → List Addr → Hp → Prop} (h : Aft K A ρ W G ω k ((r.tree >>= f) S)) : ∃ t, (r = .v t ∨ ∃ xs, r = .new xs ∧ t = .lst xs) ∧ Aft K A ρ W G ω k (f t S) := by
  cases r with
  | v t => exact ⟨t, .inl rfl, h⟩
  | l n => exact h.elim
  | new xs => exact ⟨.lst xs, .inr ⟨xs, rfl, rfl⟩, h⟩
def dataAt (S : LL.Sto) : LL.Rv → Option LL.T
  | .v t => some t
  | .new xs => some (.lst xs)
  | .l n => (S.L[n]?).map .lst
theorem Aft.data {r : LL.Rv} {f : LL.T → LL.M β} {S : LL.Sto} {k : β → LL.Sto → Hp → List Addr → Hp → Prop} (h : Aft K A ρ W G ω k ((r.data >>= f) S)) : ∃ t, dataAt S r = some t ∧ Aft K A ρ W G ω k (f t S) := by
  cases r with
  | v t => exact ⟨t, rfl, h⟩
  | new xs => exact ⟨.lst xs, rfl, h⟩
  | l n =>
    cases e : S.L[n]? with
    | none =>
      have e0 : ((LL.Rv.l n).data >>= f) S = LL.Res.bad := by
        have e1 : (LL.Rv.l n).data S = LL.Res.bad := by
          show LL.M.bind (LL.M.opt (S.L[n]?)) (fun xs => LL.M.pure (LL.T.lst xs)) S = _
          rw [e]; rfl
        show LL.M.bind (LL.Rv.l n).data f S = _
        unfold LL.M.bind
        rw [e1]
      rw [e0] at h; exact h.elim
    | some xs =>
      refine ⟨.lst xs, by simp [dataAt, e], ?_⟩
      have e0 : ((LL.Rv.l n).data >>= f) S = f (.lst xs) S := by
        have e1 : (LL.Rv.l n).data S = LL.Res.ok (LL.T.lst xs) S := by
          show LL.M.bind (LL.M.opt (S.L[n]?)) (fun xs => LL.M.pure (LL.T.lst xs)) S = _
          rw [e]; rfl
        show LL.M.bind (LL.Rv.l n).data f S = _
        unfold LL.M.bind
        rw [e1]
      rw [e0] at h; exact h
def AftV (K : PySem.W.Frag) (A : Ad) (ρ : List Addr) (W : WA) (G : Hp) (ω : List Addr) (Q : VK) : LL.Res LL.Rv → Prop :=
  Aft K A ρ W G ω fun r _ G' ω' H => ∀ v, RepR K A G' ρ ω' H r v → Q v H
section
variable {K : PySem.W.Frag} {A : Ad} {ρ : List Addr} {W : WA} {G : Hp} {ω : List Addr} {S : LL.Sto} {H : Hp} {Q : VK}
theorem AftV.val {t : LL.T} {v : V} (h : AftV K A ρ W G ω Q (LL.Rv.val t S)) (m : MS K A G ρ ω S H) (r : Rep K A G ω t v) : Q v H :=
  h G ω H (Ext.refl G) List.prefix_rfl m v r
theorem AftV.same {r : LL.Rv} {v : V} (h : AftV K A ρ W G ω Q (.ok r S)) (m : MS K A G ρ ω S H) (q : RepR K A G ρ ω H r v) : Q v H :=
  h G ω H (Ext.refl G) List.prefix_rfl m v q
theorem AftV.tup {xs : List LL.T} {vs : List V} (h : AftV K A ρ W G ω Q (LL.Rv.val (.tup xs) S)) (m : MS K A G ρ ω S H) (r : Reps K A G ω xs vs) {p : Addr} (hp : H p = none) : Q (.ref p) (upd H p (.tup vs)) := by
  obtain ⟨e, m', q⟩ := m.tup hp r
  exact h _ ω _ e List.prefix_rfl m' _ q
theorem AftV.new {xs : List LL.T} {vs : List V} (h : AftV K A ρ W G ω Q (.ok (.new xs) S)) (m : MS K A G ρ ω S H) (r : Reps K A G ω xs vs) {p : Addr} (hp : H p = none) : Q (.ref p) (upd H p (.lst vs)) := by
  obtain ⟨m', q⟩ := m.new hp r
  exact h G ω _ (Ext.refl G) List.prefix_rfl m' _ q
theorem hold_lst (m : MS K A G ρ ω S H) {x : LL.Rv} {v : V} (h : Hold K A G ρ ω x v) {xs : List LL.T} (e : LL.lstAt S x.w = some xs) : ∃ a vs, v = .ref a ∧ H a = some (.lst vs) ∧ Reps K A G ω xs vs := by
  cases x with
  | v t =>
    cases t with
    | lst ys =>
      have e2 : xs = ys := by simpa [LL.Rv.w, LL.lstAt] using e.symm
      subst e2
      cases h with
      | lst g r => exact ⟨_, _, rfl, m.ex _ _ g, r⟩
    | _ => simp [LL.Rv.w, LL.lstAt] at e
  | new ys =>
    have e2 : xs = ys := by simpa [LL.Rv.w, LL.lstAt] using e.symm
    subst e2
    cases h with
    | lst g r => exact ⟨_, _, rfl, m.ex _ _ g, r⟩
  | l n =>
    obtain ⟨a, h1, rfl⟩ := h
    obtain ⟨b, us, q1, q2, q3, q4⟩ := m.li n xs e
    rw [h1] at q1; cases q1
    exact ⟨a, us, rfl, q3, q4⟩
theorem hold_seq (m : MS K A G ρ ω S H) {x : LL.Rv} {v : V} (h : Hold K A G ρ ω x v) {xs : List LL.T} (e : LL.seqAt S x.w = some xs) : ∃ a vs, v = .ref a ∧ (SqL K H a vs ∨ SqT K H a vs) ∧ Reps K A G ω xs vs := by
  cases x with
  | v t =>
    cases t with
    | lst ys =>
      have e2 : xs = ys := by simpa [LL.Rv.w, LL.seqAt] using e.symm
      subst e2
      cases h with
      | lst g r => exact ⟨_, _, rfl, .inl (SqL.of (m.ex _ _ g)), r⟩
    | tup ys =>
      have e2 : xs = ys := by simpa [LL.Rv.w, LL.seqAt] using e.symm
      subst e2
      cases h with
      | tup g r => exact ⟨_, _, rfl, .inr (sqT_ext m.ex g), r⟩
    | _ => simp [LL.Rv.w, LL.seqAt] at e
  | new ys =>
    have e2 : xs = ys := by simpa [LL.Rv.w, LL.seqAt] using e.symm
    subst e2
    cases h with
    | lst g r => exact ⟨_, _, rfl, .inl (SqL.of (m.ex _ _ g)), r⟩
  | l n =>
    obtain ⟨a, h1, rfl⟩ := h
    obtain ⟨b, us, q1, q2, q3, q4⟩ := m.li n xs e
    rw [h1] at q1; cases q1
    exact ⟨a, us, rfl, .inl (SqL.of q3), q4⟩
theorem hold_data (m : MS K A G ρ ω S H) {x : LL.Rv} {v : V} (h : Hold K A G ρ ω x v) {t : LL.T} (e : dataAt S x = some t) : Rep K A H ω t v := by
  cases x with
  | v t' => cases e; exact Rep.mono m.ex List.prefix_rfl h
  | new ys => cases e; exact Rep.mono m.ex List.prefix_rfl h
  | l n =>
    cases hn : S.L[n]? with
    | none => simp [dataAt, hn] at e
    | some xs =>
      have e2 : t = .lst xs := by simpa [dataAt, hn] using e.symm
      subst e2
      obtain ⟨a, h1, rfl⟩ := h
      obtain ⟨b, us, q1, q2, q3, q4⟩ := m.li n xs hn
      rw [h1] at q1; cases q1
      exact .lst q3 (q4.mono m.ex List.prefix_rfl)
theorem hold_tree {x : LL.Rv} {v : V} (h : Hold K A G ρ ω x v) {t : LL.T} (e : x = .v t ∨ ∃ xs, x = .new xs ∧ t = .lst xs) : Rep K A G ω t v := by
  rcases e with rfl | ⟨xs, rfl, rfl⟩ <;> exact h
end
theorem sz_eq : sizeLine = LL.SZ := by rw [sizeLine_eq]; rfl
/-- an operation on two values -/
def R2of (K : PySem.W.Frag) (_A : Ad) (op : LL.Rv → LL.Rv → LL.M LL.Rv) : R2 := fun v w H Q =>
  ∃ A W G ρ ω S x y, MS K A G ρ ω S H ∧ Hold K A G ρ ω x v ∧ Hold K A G ρ ω y w ∧ AftV K A ρ W G ω Q (op x y S)
def R1of (K : PySem.W.Frag) (_A : Ad) (op : LL.Rv → LL.M LL.Rv) : V → Hp → VK → Prop := fun v H Q =>
  ∃ A W G ρ ω S x, MS K A G ρ ω S H ∧ Hold K A G ρ ω x v ∧ AftV K A ρ W G ω Q (op x S)
section
variable {X : Cx} {A : Ad}
theorem or_add : OpR X (binaryOp .Add) (R2of X.K A (LL.binop .add)) := by
  rintro pins s σ H v w u1 u2 Q I rv rw ⟨A, W, G, ρ, ω, S, x, y, m, hx, hy, aft⟩
  unfold LL.binop at aft
  dsimp only at aft
  split at aft
  · cases hx; cases hy
    exact op_add pins s σ H _ _ _ _ Q I rv rw ⟨_, _, rfl, rfl, aft.val m (.int _)⟩
  · rename_i a b
    cases hx; cases hy
    obtain ⟨g, aft⟩ := Aft.guard aft
    refine op_add_str pins s σ H _ _ _ _ Q I rv rw ⟨_, _, rfl, rfl, by rw [toS_len, toS_len, sz_eq]; exact of_decide_eq_true g, ?_⟩
    rw [← toS_app]
    exact AftV.val aft m (.str _)
  · rename_i xs ys
    obtain ⟨g, aft⟩ := Aft.guard aft
    cases hx with
    | @tup _ a vs s1 r1 =>
      cases hy with
      | @tup _ b us s2 r2 =>
        refine op_catA pins s σ H _ _ _ _ Q I rv rw ⟨a, b, vs, us, rfl, rfl, sqT_ext m.ex s1, sqT_ext m.ex s2, by rw [← r1.length, ← r2.length, sz_eq]; exact of_decide_eq_true g, fun e => ?_, fun _ e => ?_, fun _ _ p hp => ?_⟩
        · subst e; cases r1
          exact AftV.val aft m (.tup s2 r2)
        · subst e; cases r2
          rw [List.append_nil] at aft
          exact AftV.val aft m (.tup s1 r1)
        · exact AftV.tup aft m (r1.append r2) hp
  · obtain ⟨xs, e1, aft⟩ := Aft.lst aft
    obtain ⟨ys, e2, aft⟩ := Aft.lst aft
    obtain ⟨g, aft⟩ := Aft.guard aft
    obtain ⟨a, vs, rfl, h1, r1⟩ := hold_lst m hx e1
    obtain ⟨b, us, rfl, h2, r2⟩ := hold_lst m hy e2
    exact op_cat pins s σ H _ _ _ _ Q I rv rw ⟨a, b, vs, us, rfl, rfl, h1, h2, by rw [← r1.length, ← r2.length, sz_eq]; exact of_decide_eq_true g, fun p hp => AftV.new aft m (r1.append r2) hp⟩
theorem or_sub : OpR X (binaryOp .Sub) (R2of X.K A (LL.binop .sub)) := by
  rintro pins s σ H v w u1 u2 Q I rv rw ⟨A, W, G, ρ, ω, S, x, y, m, hx, hy, aft⟩
  obtain ⟨i, rfl, aft1⟩ := Aft.isI aft
  obtain ⟨j, rfl, aft2⟩ := Aft.isI aft1
  cases hx; cases hy
  exact op_sub pins s σ H _ _ _ _ Q I rv rw ⟨_, _, rfl, rfl, AftV.val aft2 m (.int _)⟩
theorem or_fdiv : OpR X (binaryOp .FloorDiv) (R2of X.K A (LL.binop .fdiv)) := by
  rintro pins s σ H v w u1 u2 Q I rv rw ⟨A, W, G, ρ, ω, S, x, y, m, hx, hy, aft⟩
  obtain ⟨i, rfl, aft1⟩ := Aft.isI aft
  obtain ⟨j, rfl, aft2⟩ := Aft.isI aft1
  obtain ⟨g, aft3⟩ := Aft.guard aft2
  cases hx; cases hy
  exact op_fdiv pins s σ H _ _ _ _ Q I rv rw ⟨_, _, rfl, rfl, by have g2 := of_decide_eq_true g; exact g2, AftV.val aft3 m (.int _)⟩
theorem or_mod : OpR X (binaryOp .Mod) (R2of X.K A (LL.binop .mod)) := by
  rintro pins s σ H v w u1 u2 Q I rv rw ⟨A, W, G, ρ, ω, S, x, y, m, hx, hy, aft⟩
  obtain ⟨i, rfl, aft1⟩ := Aft.isI aft
  obtain ⟨j, rfl, aft2⟩ := Aft.isI aft1
  obtain ⟨g, aft3⟩ := Aft.guard aft2
  cases hx; cases hy
  exact op_mod pins s σ H _ _ _ _ Q I rv rw ⟨_, _, rfl, rfl, by have g2 := of_decide_eq_true g; exact g2, AftV.val aft3 m (.int _)⟩
theorem or_pow : OpR X (binaryOp .Pow) (R2of X.K A (LL.binop .pow)) := by
  rintro pins s σ H v w u1 u2 Q I rv rw ⟨A, W, G, ρ, ω, S, x, y, m, hx, hy, aft⟩
  obtain ⟨i, rfl, aft1⟩ := Aft.isI aft
  obtain ⟨j, rfl, aft2⟩ := Aft.isI aft1
  obtain ⟨g, aft3⟩ := Aft.guard aft2
  cases hx; cases hy
  exact op_pow pins s σ H _ _ _ _ Q I rv rw ⟨_, _, rfl, rfl, by have g2 := of_decide_eq_true g; exact g2, AftV.val aft3 m (.int _)⟩
theorem mul_strT {pins : List (Addr × Obj)} {s : Shared} {σ : L2.St} {H : Hp} {Q : VK} (I : Inv X pins σ H s) {a : LL.Cs} {j : Int} {t u : Tok} (h1 : 0 ≤ j) (h2 : j ≤ 1000) (h3 : a.length ≤ 1000) (q : Q (.str (toS (LL.repeatCs a j.toNat))) H) :
    wpAny (model X.prog X.w) X.A (binaryOp .Mult (.str (toS a) t) (.int j u)) (EP X pins σ Q) X.xe s := by
  refine PySem.P.mul_str ?_ (fun _ _ => ?_) (fun _ _ => ?_) ?_
  · have e1 : ¬ j < -(2 ^ 63 : Int) := by omega
    have e2 : ¬ j ≥ 2 ^ 63 := by omega
    rw [decide_eq_false e1, decide_eq_false e2]; rfl
  · rename_i g1 g2
    rw [toS_len]
    have hj : 1 ≤ j := by omega
    have : (2 ^ 63 - 1 : Int) / j ≥ (2 ^ 63 - 1) / 1000 := by
      have e3 : (2 ^ 63 - 1 : Int) / 1000 ≤ (2 ^ 63 - 1) / j := by
        rw [Int.le_ediv_iff_mul_le (by omega)]
        have : (2 ^ 63 - 1 : Int) / 1000 * 1000 ≤ 2 ^ 63 - 1 := Int.ediv_mul_le _ (by decide)
        have h5 : (2 ^ 63 - 1 : Int) / 1000 * j ≤ (2 ^ 63 - 1 : Int) / 1000 * 1000 := Int.mul_le_mul_of_nonneg_left h2 (by decide)
        exact Int.le_trans h5 this
      exact e3
    have h6 : ((2 ^ 63 - 1 : Int) / 1000) ≥ 1000 := by decide
    omega
  · rename_i g1 g2
    rw [toS_len]
    have h4 : a.length * j.toNat ≤ 1000 * 1000 := Nat.mul_le_mul h3 (by omega)
    unfold Builtin.Str.tooLong
    simp only [decide_eq_false_iff_not]
    rw [sizeLine_eq]
    omega
  · split
    · rename_i hj
      have e : j = 0 := by omega
      subst e
      exact ⟨by first | decide | trivial | omega, .str _, H, I.tok _, ⟨_, rfl⟩, q⟩
    · split
      · rename_i hj hk
        refine ⟨.str (toS a), H, I, ⟨_, rfl⟩, ?_⟩
        have e : LL.repeatCs a j.toNat = a := by
          simp only [Bool.or_eq_true, beq_iff_eq] at hk
          rcases hk with hk | hk
          · subst hk; simp [LL.repeatCs]
          · rw [toS_len] at hk
            have : a = [] := List.eq_nil_of_length_eq_zero hk
            subst this
            have : ∀ n, LL.repeatCs [] n = [] := fun n => by induction n with
              | zero => rfl
              | succ n ih => simp [LL.repeatCs, ih]
            exact this _
        rw [e] at q
        exact q
      · rw [rep_T]
        refine ⟨?_, .str _, H, I.tok _, ⟨_, rfl⟩, q⟩
        have h4 : (LL.repeatCs a j.toNat).length ≤ 1000 * 1000 := by rw [repeat_len]; exact Nat.mul_le_mul (by omega) h3
        first
          | (simp only [Str.length, List.size_toArray]; rw [sizeLine_eq]; omega)
          | skip
end
end
end LLS

set_option Elab.async false
set_option linter.all false
set_option autoImplicit false
set_option maxRecDepth 100000
set_option maxHeartbeats 4000000
namespace LLS
open PySem PySem.Spec PyProof.Rows L2 PySem.SeqAt
section
variable {X : Cx} {A : Ad}
theorem reps_rep {K : PySem.W.Frag} {G : Hp} {ω : List Addr} {xs : List LL.T} {vs : List V} (r : Reps K A G ω xs vs) : ∀ n : Nat, Reps K A G ω (List.replicate n xs).flatten (List.replicate n vs).flatten
  | 0 => .nil
  | n + 1 => by
    rw [List.replicate_succ, List.replicate_succ, List.flatten_cons, List.flatten_cons]
    exact r.append (reps_rep r n)
theorem or_mul : OpR X (binaryOp .Mult) (R2of X.K A (LL.binop .mul)) := by
  rintro pins s σ H v w u1 u2 Q I rv rw ⟨A, W, G, ρ, ω, S, x, y, m, hx, hy, aft⟩
  unfold LL.binop at aft
  dsimp only at aft
  split at aft
  · cases hx; cases hy
    obtain ⟨g, aft1⟩ := Aft.guard aft
    exact op_mul pins s σ H _ _ _ _ Q I rv rw ⟨_, _, rfl, rfl, by
      have g2 := of_decide_eq_true g
      rcases g2 with g2 | g2
      · exact Or.inl (by constructor <;> omega)
      · exact Or.inr (by constructor <;> omega), AftV.val aft1 m (.int _)⟩
  · cases hx; cases hy
    obtain ⟨g, aft1⟩ := Aft.guard aft
    have g := of_decide_eq_true g
    obtain ⟨t, rfl⟩ := rv
    obtain ⟨t', rfl⟩ := rw
    exact mul_strT I g.1 g.2.1 g.2.2 (AftV.val aft1 m (.str _))
  · rename_i xs j
    obtain ⟨g, aft1⟩ := Aft.guard aft
    have g := of_decide_eq_true g
    cases hx with
    | @tup _ a vs s1 r1 =>
      cases hy
      refine op_repT pins s σ H _ _ _ _ Q I rv rw ⟨a, j, vs, rfl, rfl, sqT_ext m.ex s1, fun e => ?_, g.1, g.2.1, by rw [← r1.length]; exact g.2.2.1, fun p hp => AftV.tup aft1 m (reps_rep r1 _) hp⟩
      subst e; cases r1
      exact g.2.2.2 rfl
  · exact aft.elim
theorem or_neg : UnR X (unaryOp .USub) (R1of X.K A fun x => do let i ← x.isI; LL.Rv.val (.int (-i))) := by
  rintro pins s σ H v u1 Q I rv ⟨A, W, G, ρ, ω, S, x, m, hx, aft⟩
  obtain ⟨i, rfl, aft1⟩ := Aft.isI aft
  cases hx
  exact un_neg pins s σ H _ _ Q I rv ⟨_, rfl, AftV.val aft1 m (.int _)⟩
/-! ### comparisons -/
/-- a comparison as a value -/
def cmpV (op : LL.COp) (x y : LL.Rv) : LL.M LL.Rv := do let r ← LL.cmpop op x y; LL.Rv.val (.bl r)
theorem or_eq (hu : X.A.units + 64 < cLine) : OpR X (compareOp .Eq) (R2of X.K A (cmpV .eq)) := by
  rintro pins s σ H v w u1 u2 Q I rv rw ⟨A, W, G, ρ, ω, S, x, y, m, hx, hy, aft⟩
  have aft0 := Aft.bind aft
  obtain ⟨a, ha, aft1⟩ := Aft.data aft0
  obtain ⟨b, hb, aft2⟩ := Aft.data aft1
  obtain ⟨g, aft3⟩ := Aft.guard aft2
  have k := aft3 G ω H (Ext.refl G) List.prefix_rfl m
  have q := AftV.val k m (.bl _)
  simp only [LL.T.eqOk, Bool.and_eq_true, decide_eq_true_eq] at g
  exact rcAt_T I a b X.A v w u1 u2 (hold_data m hx ha) (hold_data m hy hb) rv rw g.1.1.1 g.1.1.2 g.1.2 (by omega) X.prog X.w X.xe _ ⟨.bl _, H, I, rfl, q⟩
theorem or_ne (hu : X.A.units + 64 < cLine) : OpR X (compareOp .NotEq) (R2of X.K A (cmpV .ne)) := by
  rintro pins s σ H v w u1 u2 Q I rv rw ⟨A, W, G, ρ, ω, S, x, y, m, hx, hy, aft⟩
  have aft0 := Aft.bind (Aft.bind aft)
  obtain ⟨a, ha, aft1⟩ := Aft.data aft0
  obtain ⟨b, hb, aft2⟩ := Aft.data aft1
  obtain ⟨g, aft3⟩ := Aft.guard aft2
  have k := aft3 G ω H (Ext.refl G) List.prefix_rfl m
  have k2 := k G ω H (Ext.refl G) List.prefix_rfl m
  have q := AftV.val k2 m (.bl _)
  simp only [LL.T.eqOk, Bool.and_eq_true, decide_eq_true_eq] at g
  exact rcNeAt_T I a b X.A v w u1 u2 (hold_data m hx ha) (hold_data m hy hb) rv rw g.1.1.1 g.1.1.2 g.1.2 (by omega) X.prog X.w X.xe _ ⟨.bl _, H, I, rfl, q⟩
theorem or_lt (hu : X.A.units + 64 < cLine) : OpR X (compareOp .Lt) (R2of X.K A (cmpV .lt)) := by
  rintro pins s σ H v w u1 u2 Q I rv rw ⟨A, W, G, ρ, ω, S, x, y, m, hx, hy, aft⟩
  cases x with
  | v a =>
    cases y with
    | v b =>
      have aft0 := Aft.bind aft
      obtain ⟨g, aft1⟩ := Aft.guard aft0
      have k := aft1 G ω H (Ext.refl G) List.prefix_rfl m
      have q := AftV.val k m (.bl _)
      simp only [LL.T.ltOk, Bool.and_eq_true, decide_eq_true_eq] at g
      exact ltAt_T I a b X.A v w u1 u2 (Rep.mono m.ex List.prefix_rfl hx) (Rep.mono m.ex List.prefix_rfl hy) rv rw g.1.1.2 g.1.2 g.1.1.1 (by omega) X.prog X.w X.xe _ ⟨.bl _, H, I, rfl, q⟩
    | _ => exact aft.elim
  | _ => exact aft.elim
theorem or_le : OpR X (compareOp .LtE) (R2of X.K A (cmpV .le)) := by
  rintro pins s σ H v w u1 u2 Q I rv rw ⟨A, W, G, ρ, ω, S, x, y, m, hx, hy, aft⟩
  have aft0 := Aft.bind aft
  obtain ⟨i, rfl, aft1⟩ := Aft.isI aft0
  obtain ⟨j, rfl, aft2⟩ := Aft.isI aft1
  cases hx; cases hy
  have k := aft2 G ω H (Ext.refl G) List.prefix_rfl m
  exact op_le pins s σ H _ _ _ _ Q I rv rw ⟨_, _, rfl, rfl, AftV.val k m (.bl _)⟩
theorem or_gt : OpR X (compareOp .Gt) (R2of X.K A (cmpV .gt)) := by
  rintro pins s σ H v w u1 u2 Q I rv rw ⟨A, W, G, ρ, ω, S, x, y, m, hx, hy, aft⟩
  have aft0 := Aft.bind aft
  obtain ⟨i, rfl, aft1⟩ := Aft.isI aft0
  obtain ⟨j, rfl, aft2⟩ := Aft.isI aft1
  cases hx; cases hy
  have k := aft2 G ω H (Ext.refl G) List.prefix_rfl m
  exact op_gt pins s σ H _ _ _ _ Q I rv rw ⟨_, _, rfl, rfl, AftV.val k m (.bl _)⟩
theorem or_ge : OpR X (compareOp .GtE) (R2of X.K A (cmpV .ge)) := by
  rintro pins s σ H v w u1 u2 Q I rv rw ⟨A, W, G, ρ, ω, S, x, y, m, hx, hy, aft⟩
  have aft0 := Aft.bind aft
  obtain ⟨i, rfl, aft1⟩ := Aft.isI aft0
  obtain ⟨j, rfl, aft2⟩ := Aft.isI aft1
  cases hx; cases hy
  have k := aft2 G ω H (Ext.refl G) List.prefix_rfl m
  exact op_ge pins s σ H _ _ _ _ Q I rv rw ⟨_, _, rfl, rfl, AftV.val k m (.bl _)⟩
theorem rep_non_iff {K : PySem.W.Frag} {G : Hp} {ω : List Addr} {t : LL.T} {v : V} (r : Rep K A G ω t v) : decide (v = .non) = LL.T.beq t .non := by
  cases r <;> rfl
theorem dec_bb (a b : Bool) : decide (a = b) = (a == b) := by cases a <;> cases b <;> rfl
theorem or_is : OpR X (compareOp .Is) (R2of X.K A (cmpV .is)) := by
  rintro pins s σ H v w u1 u2 Q I rv rw ⟨A, W, G, ρ, ω, S, x, y, m, hx, hy, aft⟩
  have aft0 := Aft.bind aft
  unfold LL.cmpop LL.isRv at aft0
  dsimp only at aft0
  split at aft0
  · cases hx; cases hy
    have k := aft0 G ω H (Ext.refl G) List.prefix_rfl m
    refine op_isBl pins s σ H _ _ _ _ Q I rv rw ⟨_, _, rfl, rfl, ?_⟩
    rw [dec_bb]
    exact AftV.val k m (.bl _)
  · cases hy
    have k := aft0 G ω H (Ext.refl G) List.prefix_rfl m
    refine op_isN pins s σ H _ _ _ _ Q I rv rw ⟨rfl, ?_⟩
    rw [rep_non_iff hx]
    exact AftV.val k m (.bl _)
  · cases hy
    have k := aft0 G ω H (Ext.refl G) List.prefix_rfl m
    refine op_isN pins s σ H _ _ _ _ Q I rv rw ⟨rfl, ?_⟩
    cases hx
    exact AftV.val k m (.bl _)
  · cases hy
    have k := aft0 G ω H (Ext.refl G) List.prefix_rfl m
    refine op_isN pins s σ H _ _ _ _ Q I rv rw ⟨rfl, ?_⟩
    obtain ⟨a, _, rfl⟩ := hx
    exact AftV.val k m (.bl _)
  · exact aft0.elim
theorem or_isnot : OpR X (compareOp .IsNot) (R2of X.K A (cmpV .isnot)) := by
  rintro pins s σ H v w u1 u2 Q I rv rw ⟨A, W, G, ρ, ω, S, x, y, m, hx, hy, aft⟩
  have aft0 := Aft.bind (Aft.bind aft)
  unfold LL.isRv at aft0
  split at aft0
  · cases hx; cases hy
    have k := aft0 G ω H (Ext.refl G) List.prefix_rfl m G ω H (Ext.refl G) List.prefix_rfl m
    refine op_notBl pins s σ H _ _ _ _ Q I rv rw ⟨_, _, rfl, rfl, ?_⟩
    rw [dec_bb]
    exact AftV.val k m (.bl _)
  · cases hy
    have k := aft0 G ω H (Ext.refl G) List.prefix_rfl m G ω H (Ext.refl G) List.prefix_rfl m
    refine op_notN pins s σ H _ _ _ _ Q I rv rw ⟨rfl, ?_⟩
    rw [rep_non_iff hx]
    exact AftV.val k m (.bl _)
  · cases hy
    have k := aft0 G ω H (Ext.refl G) List.prefix_rfl m G ω H (Ext.refl G) List.prefix_rfl m
    refine op_notN pins s σ H _ _ _ _ Q I rv rw ⟨rfl, ?_⟩
    cases hx
    exact AftV.val k m (.bl _)
  · cases hy
    have k := aft0 G ω H (Ext.refl G) List.prefix_rfl m G ω H (Ext.refl G) List.prefix_rfl m
    refine op_notN pins s σ H _ _ _ _ Q I rv rw ⟨rfl, ?_⟩
    obtain ⟨a, _, rfl⟩ := hx
    exact AftV.val k m (.bl _)
  · exact aft0.elim
theorem in_go (hu : X.A.units + 64 < cLine) {pins : List (Addr × Obj)} {s : Shared} {σ : L2.St} {H : Hp} (I : Inv X pins σ H s) {G : Hp} {ρ ω : List Addr} {S : LL.Sto} {x y : LL.Rv} {v w : V} {u1 u2 : Value} (m : MS X.K A G ρ ω S H)
    (hx : Hold X.K A G ρ ω x v) (hy : Hold X.K A G ρ ω y w) (rv : RelV v u1) (rw : RelV w u2) {a : LL.T} {ys : List LL.T} (ha : dataAt S x = some a) (hb : LL.seqAt S y.w = some ys) (g : LL.inSeqOk a ys = true) {Q : Value → Shared → Prop} {neg : Bool}
    (q : Q (.bool (if neg then !LL.inSeq a ys else LL.inSeq a ys)) s) : wpAny (model X.prog X.w) X.A (compareOp (if neg then .NotIn else .In) u1 u2) Q X.xe s := by
  obtain ⟨l, vs, rfl, hs, r⟩ := hold_seq m hy hb
  cases rw
  have hd : ∀ y ∈ ys, y.data = true := fun y hy' => by
    have := inSeqOk_all g y hy'
    simp only [LL.T.eqOk, Bool.and_eq_true] at this
    exact this.1.1.1
  have r' := r.mono m.ex (List.prefix_rfl (l := ω))
  rcases hs with hs | hs
  · obtain ⟨its, rv', pl, _⟩ := I.list hs
    have e := any_hit (x := a) I r' rv' hd
    have he : ∀ u ∈ its.toArray, EqAt X.A.in1 s u u1 (hitU a ys its u) := fun u hu' => hit_eqAt I (hold_data m hx ha) rv r' rv' g (show X.A.units + 1 + 62 < cLine by omega) u (by simpa using hu')
    have q' : Q (.bool (if neg then !its.toArray.any (hitU a ys its) else its.toArray.any (hitU a ys its))) s := by
      rw [show its.toArray.any (hitU a ys its) = its.any (hitU a ys its) by simp, e]; exact q
    cases neg with
    | true => exact SeqAt.notIn_listAt (hitU a ys its) pl.isList he q'
    | false => exact SeqAt.in_listAt (hitU a ys its) pl.isList he q'
  · obtain ⟨its, rv', pl, _⟩ := I.tuple hs
    have e := any_hit (x := a) I r' rv' hd
    have he : ∀ u ∈ its.toArray, EqAt X.A.in1 s u u1 (hitU a ys its u) := fun u hu' => hit_eqAt I (hold_data m hx ha) rv r' rv' g (show X.A.units + 1 + 62 < cLine by omega) u (by simpa using hu')
    have q' : Q (.bool (if neg then !its.toArray.any (hitU a ys its) else its.toArray.any (hitU a ys its))) s := by
      rw [show its.toArray.any (hitU a ys its) = its.any (hitU a ys its) by simp, e]; exact q
    cases neg with
    | true => exact SeqAt.notIn_tupleAt (hitU a ys its) pl he q'
    | false => exact SeqAt.in_tupleAt (hitU a ys its) pl he q'
theorem or_in (hu : X.A.units + 64 < cLine) : OpR X (compareOp .In) (R2of X.K A (cmpV .isin)) := by
  rintro pins s σ H v w u1 u2 Q I rv rw ⟨A, W, G, ρ, ω, S, x, y, m, hx, hy, aft⟩
  have aft0 := Aft.bind aft
  unfold LL.cmpop LL.inRv at aft0
  dsimp only at aft0
  split at aft0
  · cases hx; cases hy
    have k := aft0 G ω H (Ext.refl G) List.prefix_rfl m
    refine op_in_sign pins s σ H _ _ _ _ Q I rv rw ⟨_, _, rfl, rfl, ?_⟩
    rw [toS_tl]
    exact AftV.val k m (.bl _)
  · obtain ⟨a, ha, aft1⟩ := Aft.data aft0
    obtain ⟨b, hb, aft2⟩ := Aft.seq aft1
    obtain ⟨g, aft3⟩ := Aft.guard aft2
    have k := aft3 G ω H (Ext.refl G) List.prefix_rfl m
    exact in_go hu I m hx hy rv rw ha hb g (neg := false) ⟨.bl _, H, I, rfl, AftV.val k m (.bl _)⟩
theorem or_notin (hu : X.A.units + 64 < cLine) : OpR X (compareOp .NotIn) (R2of X.K A (cmpV .notin)) := by
  rintro pins s σ H v w u1 u2 Q I rv rw ⟨A, W, G, ρ, ω, S, x, y, m, hx, hy, aft⟩
  have aft0 := Aft.bind (Aft.bind aft)
  unfold LL.inRv at aft0
  split at aft0
  · cases hx; cases hy
    have k := aft0 G ω H (Ext.refl G) List.prefix_rfl m G ω H (Ext.refl G) List.prefix_rfl m
    refine op_notIn_sign pins s σ H _ _ _ _ Q I rv rw ⟨_, _, rfl, rfl, ?_⟩
    rw [toS_tl]
    exact AftV.val k m (.bl _)
  · obtain ⟨a, ha, aft1⟩ := Aft.data aft0
    obtain ⟨b, hb, aft2⟩ := Aft.seq aft1
    obtain ⟨g, aft3⟩ := Aft.guard aft2
    have k := aft3 G ω H (Ext.refl G) List.prefix_rfl m G ω H (Ext.refl G) List.prefix_rfl m
    exact in_go hu I m hx hy rv rw ha hb g (neg := true) ⟨.bl _, H, I, rfl, AftV.val k m (.bl _)⟩
def binOp : LL.BOp → Operator
  | .add => .Add | .sub => .Sub | .mul => .Mult | .fdiv => .FloorDiv | .mod => .Mod | .pow => .Pow
def cmpOp : LL.COp → CmpOp
  | .eq => .Eq | .ne => .NotEq | .lt => .Lt | .le => .LtE | .gt => .Gt | .ge => .GtE | .is => .Is | .isnot => .IsNot | .isin => .In | .notin => .NotIn
theorem or_bin (op : LL.BOp) : OpR X (binaryOp (binOp op)) (R2of X.K A (LL.binop op)) := by
  cases op
  · exact or_add
  · exact or_sub
  · exact or_mul
  · exact or_fdiv
  · exact or_mod
  · exact or_pow
theorem or_cmp (hu : X.A.units + 64 < cLine) (op : LL.COp) : OpR X (compareOp (cmpOp op)) (R2of X.K A (cmpV op)) := by
  cases op
  · exact or_eq hu
  · exact or_ne hu
  · exact or_lt hu
  · exact or_le
  · exact or_gt
  · exact or_ge
  · exact or_is
  · exact or_isnot
  · exact or_in hu
  · exact or_notin hu
/-! ### truth -/
def RTof (K : PySem.W.Frag) (_A : Ad) : V → Hp → (Bool → Hp → Prop) → Prop := fun v H Q =>
  ∃ A W G ρ ω S x, MS K A G ρ ω S H ∧ Hold K A G ρ ω x v ∧ Aft K A ρ W G ω (fun b _ _ _ H' => Q b H') (LL.truth x S)
theorem truV_of {K : PySem.W.Frag} {v : V} {H : Hp} {Q : Bool → Hp → Prop} (h : RTof K A v H Q) : ∃ k, TruV K v H k ∧ Q k H := by
  obtain ⟨A, W, G, ρ, ω, S, x, m, hx, aft⟩ := h
  unfold LL.truth at aft
  split at aft
  · cases hx; exact ⟨_, rfl, aft G ω H (Ext.refl G) List.prefix_rfl m⟩
  · cases hx; exact ⟨_, rfl, aft G ω H (Ext.refl G) List.prefix_rfl m⟩
  · cases hx; exact ⟨_, rfl, aft G ω H (Ext.refl G) List.prefix_rfl m⟩
  · rename_i s
    cases hx
    obtain ⟨g, aft1⟩ := Aft.guard aft
    refine ⟨_, ⟨by rw [toS_len, sz_eq]; exact of_decide_eq_true g, rfl⟩, ?_⟩
    have k := aft1 G ω H (Ext.refl G) List.prefix_rfl m
    have e : ((((toS s).length : Nat) : Int) != 0) = !s.isEmpty := by
      rw [toS_len]
      cases s <;> simp
      omega
    rw [e]
    exact k
  · obtain ⟨xs, e, aft1⟩ := Aft.seq aft
    obtain ⟨a, vs, rfl, hs, r⟩ := hold_seq m hx e
    have k := aft1 G ω H (Ext.refl G) List.prefix_rfl m
    have e2 : (!xs.isEmpty) = !vs.isEmpty := by cases r <;> rfl
    refine ⟨!vs.isEmpty, ?_, by rw [← e2]; exact k⟩
    rcases hs with hs | hs
    · exact .inl ⟨vs, hs, rfl⟩
    · exact .inr (.inl ⟨vs, hs, rfl⟩)
end
end LLS

set_option Elab.async false
set_option linter.all false
set_option autoImplicit false
set_option maxRecDepth 100000
set_option maxHeartbeats 4000000
namespace LLS
open PySem PySem.Spec PyProof.Rows L2 PySem.SeqAt

inductive Holds (K : PySem.W.Frag) (A : Ad) (G : Hp) (ρ ω : List Addr) : List LL.Rv → List V → Prop
  | nil : Holds K A G ρ ω [] []
  | cons {x : LL.Rv} {xs : List LL.Rv} {v : V} {vs : List V} : Hold K A G ρ ω x v → Holds K A G ρ ω xs vs → Holds K A G ρ ω (x :: xs) (v :: vs)
section
variable {K : PySem.W.Frag} {A : Ad} {G G' : Hp} {ρ ρ' ω ω' : List Addr}
theorem Holds.mono (e : Ext G G') (p : ρ <+: ρ') (q : ω <+: ω') {rs : List LL.Rv} {vs : List V} (h : Holds K A G ρ ω rs vs) : Holds K A G' ρ' ω' rs vs := by
  induction h with
  | nil => exact .nil
  | cons a _ ih => exact .cons (a.mono e p q) ih
theorem Holds.ws {rs : List LL.Rv} {vs : List V} (h : Holds K A G ρ ω rs vs) : RepWs K A G ρ ω (rs.map LL.Rv.w) vs := by
  induction h with
  | nil => exact .nil
  | cons a _ ih => exact .cons a.w ih
theorem RepWs.length {ws : List LL.W} {vs : List V} (h : RepWs K A G ρ ω ws vs) : ws.length = vs.length := by
  induction h with
  | nil => rfl
  | cons _ _ ih => exact congrArg Nat.succ ih
end
def RLof (K : PySem.W.Frag) (_A : Ad) (op : List LL.Rv → LL.M LL.Rv) : List V → Hp → VK → Prop := fun vs H Q =>
  ∃ A W G ρ ω S xs, MS K A G ρ ω S H ∧ Holds K A G ρ ω xs vs ∧ AftV K A ρ W G ω Q (op xs S)
theorem allBl_reps {K : PySem.W.Frag} {A : Ad} {G : Hp} {ω : List Addr} : ∀ {xs : List LL.T} {vs : List V} {bs : List Bool}, LL.allBl xs = some bs → Reps K A G ω xs vs → vs = bs.map V.bl
  | [], _, bs, e, r => by cases r; simp [LL.allBl] at e; subst e; rfl
  | x :: xs, _, bs, e, r => by
    cases r with
    | cons h r =>
      cases x with
      | bl b =>
        simp only [LL.allBl, Option.map_eq_some_iff] at e
        obtain ⟨cs, e, rfl⟩ := e
        cases h
        rw [allBl_reps e r]; rfl
      | _ => simp [LL.allBl] at e
theorem allStr_reps {K : PySem.W.Frag} {A : Ad} {G : Hp} {ω : List Addr} : ∀ {xs : List LL.T} {vs : List V} {bs : List LL.Cs}, LL.allStr xs = some bs → Reps K A G ω xs vs → vs = (bs.map toS).map V.str
  | [], _, bs, e, r => by cases r; simp [LL.allStr] at e; subst e; rfl
  | x :: xs, _, bs, e, r => by
    cases r with
    | cons h r =>
      cases x with
      | str b =>
        simp only [LL.allStr, Option.map_eq_some_iff] at e
        obtain ⟨cs, e, rfl⟩ := e
        cases h
        rw [allStr_reps e r]; rfl
      | _ => simp [LL.allStr] at e
theorem allInt_reps {K : PySem.W.Frag} {A : Ad} {G : Hp} {ω : List Addr} : ∀ {xs : List LL.T} {vs : List V} {bs : List Int}, LL.allInt xs = some bs → Reps K A G ω xs vs → vs = bs.map V.int
  | [], _, bs, e, r => by cases r; simp [LL.allInt] at e; subst e; rfl
  | x :: xs, _, bs, e, r => by
    cases r with
    | cons h r =>
      cases x with
      | int b =>
        simp only [LL.allInt, Option.map_eq_some_iff] at e
        obtain ⟨cs, e, rfl⟩ := e
        cases h
        rw [allInt_reps e r]; rfl
      | _ => simp [LL.allInt] at e
theorem reps_strs {K : PySem.W.Frag} {A : Ad} {G : Hp} {ω : List Addr} : ∀ ss : List LL.Cs, Reps K A G ω (ss.map LL.T.str) ((ss.map toS).map V.str)
  | [] => .nil
  | s :: r => .cons (.str s) (reps_strs r)
theorem foldl_max : ∀ (l : List Int) (a : Int), (l.foldl max a ∈ a :: l) ∧ a ≤ l.foldl max a ∧ ∀ y ∈ l, y ≤ l.foldl max a
  | [], a => by simp
  | b :: l, a => by
    obtain ⟨h1, h2, h3⟩ := foldl_max l (max a b)
    rw [List.foldl_cons]
    refine ⟨?_, by omega, fun y hy => ?_⟩
    · rcases List.mem_cons.mp h1 with e | h
      · rw [e]
        by_cases hab : a ≤ b
        · rw [Int.max_eq_right hab]; simp
        · rw [Int.max_eq_left (by omega)]; simp
      · simp [h]
    · rcases List.mem_cons.mp hy with rfl | hy
      · omega
      · exact h3 y hy
theorem digit_T : ∀ c, c < 58 → 48 ≤ c → PySem.intText? ⟨#[c]⟩ = some ((c - 48 : Nat) : Int) := by decide +kernel
def biV (b : LL.Bi) : Value := match b with
  | .len => .builtin "len"
  | .all => .builtin "all"
  | .any => .builtin "any"
  | .max => .builtin "max"
  | .sorted => .builtin "sorted"
  | .int => .type "int"
  | .str => .type "str"
  | .bool => .type "bool"
  | .tuple => .type "tuple"
  | .list => .type "list"
section
variable {X : Cx} {A : Ad}
theorem hold_scr {K : PySem.W.Frag} {G : Hp} {ρ ω : List Addr} {ns : List Int} {v : V} {S : LL.Sto} {H : Hp} (m : MS K A G ρ ω S H) (h : Hold K A G ρ ω (.v (.scr ns)) v) : ∃ a, v = .ref a ∧ SqL K H a (ns.map V.int) := by
  cases h with
  | scr h => exact ⟨_, rfl, sqL_ext m.ex h⟩
theorem cr_len : CallR X (.builtin "len") (RLof X.K A LL.biLen) := by
  rintro pins s σ H vs us Q I rv ⟨A, W, G, ρ, ω, S, xs, m, hx, aft⟩
  unfold LL.biLen at aft
  split at aft
  · cases hx with
    | cons h hx =>
      cases hx
      have aft0 := Aft.bind aft
      unfold LL.lenRv at aft0
      split at aft0
      · cases h
        obtain ⟨g, aft1⟩ := Aft.guard aft0
        have k := aft1 G ω H (Ext.refl G) List.prefix_rfl m
        refine call_len pins s σ H _ _ Q I rv ⟨_, _, rfl, ⟨by rw [toS_len, sz_eq]; exact of_decide_eq_true g, rfl⟩, ?_⟩
        rw [toS_len]
        exact AftV.val k m (.int _)
      · obtain ⟨a, rfl, hs⟩ := hold_scr m h
        have k := aft0 G ω H (Ext.refl G) List.prefix_rfl m
        refine call_len pins s σ H _ _ Q I rv ⟨_, _, rfl, .inl ⟨_, hs, rfl⟩, ?_⟩
        rw [List.length_map]
        exact AftV.val k m (.int _)
      · obtain ⟨ys, e, aft1⟩ := Aft.seq aft0
        obtain ⟨a, ws, rfl, hs, r⟩ := hold_seq m h e
        have k := aft1 G ω H (Ext.refl G) List.prefix_rfl m
        have q := AftV.val k m (.int _)
        rw [r.length] at q
        rcases hs with hs | hs
        · exact call_len pins s σ H _ _ Q I rv ⟨_, _, rfl, .inl ⟨_, hs, rfl⟩, q⟩
        · exact call_len pins s σ H _ _ Q I rv ⟨_, _, rfl, .inr ⟨_, hs, rfl⟩, q⟩
  · exact aft.elim
theorem cr_allT (hc : X.calm = true) : CallR X (.builtin "all") (RLof X.K A LL.biAll) := by
  rintro pins s σ H vs us Q I rv ⟨A, W, G, ρ, ω, S, xs, m, hx, aft⟩
  unfold LL.biAll at aft
  split at aft
  · cases hx with
    | cons h hx =>
      cases hx
      obtain ⟨ys, e, aft1⟩ := Aft.lst aft
      obtain ⟨bs, e2, aft2⟩ := Aft.opt aft1
      obtain ⟨a, ws, rfl, hs, r⟩ := hold_lst m h e
      obtain rfl := allBl_reps e2 r
      exact cr_all hc pins s σ H _ _ Q I rv ⟨a, bs, rfl, SqL.of hs, AftV.val aft2 m (.bl _)⟩
  · exact aft.elim
theorem cr_anyT (hc : X.calm = true) : CallR X (.builtin "any") (RLof X.K A LL.biAny) := by
  rintro pins s σ H vs us Q I rv ⟨A, W, G, ρ, ω, S, xs, m, hx, aft⟩
  unfold LL.biAny at aft
  split at aft
  · cases hx with
    | cons h hx =>
      cases hx
      obtain ⟨ys, e, aft1⟩ := Aft.lst aft
      obtain ⟨bs, e2, aft2⟩ := Aft.opt aft1
      obtain ⟨a, ws, rfl, hs, r⟩ := hold_lst m h e
      obtain rfl := allBl_reps e2 r
      exact cr_any hc pins s σ H _ _ Q I rv ⟨a, bs, rfl, SqL.of hs, AftV.val aft2 m (.bl _)⟩
  · exact aft.elim
theorem cr_maxT (hc : X.calm = true) : CallR X (.builtin "max") (RLof X.K A LL.biMax) := by
  rintro pins s σ H vs us Q I rv ⟨A, W, G, ρ, ω, S, xs, m, hx, aft⟩
  unfold LL.biMax at aft
  split at aft
  · cases hx with
    | cons h hx =>
      cases hx
      obtain ⟨ys, e, aft1⟩ := Aft.lst aft
      obtain ⟨ns, e2, aft2⟩ := Aft.opt aft1
      obtain ⟨a, ws, rfl, hs, r⟩ := hold_lst m h e
      obtain rfl := allInt_reps e2 r
      cases ns with
      | nil => exact aft2.elim
      | cons n ns =>
        obtain ⟨f1, f2, f3⟩ := foldl_max ns n
        refine cr_max hc pins s σ H _ _ Q I rv ⟨a, n :: ns, rfl, SqL.of hs, by simp, fun k hk hle => ?_⟩
        have e3 : k = ns.foldl max n := by
          apply Int.le_antisymm
          · rcases List.mem_cons.mp hk with rfl | hk
            · exact f2
            · exact f3 _ hk
          · exact hle _ f1
        rw [e3]
        exact AftV.val aft2 m (.int _)
  · cases hx with
    | cons h hx =>
      cases hx with
      | cons h2 hx =>
        cases hx
        obtain ⟨i, rfl, aft1⟩ := Aft.isI aft
        obtain ⟨j, rfl, aft2⟩ := Aft.isI aft1
        cases h; cases h2
        exact call_max2 hc pins s σ H _ _ Q I rv ⟨i, j, rfl, AftV.val aft2 m (.int _)⟩
  · exact aft.elim
theorem cr_intT : CallR X (.type "int") (RLof X.K A LL.biInt) := by
  rintro pins s σ H vs us Q I rv ⟨A, W, G, ρ, ω, S, xs, m, hx, aft⟩
  unfold LL.biInt at aft
  split at aft
  · cases hx with
    | cons h hx => cases hx; cases h; exact call_int1 pins s σ H _ _ Q I rv (.inl ⟨_, rfl, AftV.val aft m (.int _)⟩)
  · cases hx with
    | cons h hx => cases hx; cases h; exact call_int1 pins s σ H _ _ Q I rv (.inr ⟨_, rfl, AftV.val aft m (.int _)⟩)
  · cases hx with
    | cons h hx =>
      cases hx; cases h
      obtain ⟨g, aft1⟩ := Aft.guard aft
      have g := of_decide_eq_true g
      exact call_int_str pins s σ H _ _ Q I rv ⟨_, _, rfl, digit_T _ (by omega) g.1, (by show 1 ≤ 640; decide), AftV.val aft1 m (.int _)⟩
  · exact aft.elim
theorem log_lt {n : Nat} (h : n < 18446744073709551616) : n.log2 < 1920 := by
  by_cases h0 : n = 0
  · subst h0; decide
  · have := (Nat.log2_lt (k := 64) h0).mpr h
    omega
theorem cr_strT : CallR X (.type "str") (RLof X.K A LL.biStr) := by
  rintro pins s σ H vs us Q I rv ⟨A, W, G, ρ, ω, S, xs, m, hx, aft⟩
  unfold LL.biStr at aft
  split at aft
  · cases hx with
    | cons h hx =>
      cases hx; cases h
      obtain ⟨g, aft1⟩ := Aft.guard aft
      have g := of_decide_eq_true g
      refine call_str_int pins s σ H _ _ Q I rv ⟨_, rfl, log_lt g, ?_⟩
      have q := AftV.val aft1 m (.str _)
      rw [← dec_T] at q
      exact q
  · cases hx with
    | cons h hx => cases hx; cases h; exact SkE.call_str_str pins s σ H _ _ Q I rv ⟨_, rfl, AftV.val aft m (.str _)⟩
  · exact aft.elim
theorem cr_boolT : CallR X (.type "bool") (RLof X.K A LL.biBool) := by
  rintro pins s σ H vs us Q I rv ⟨A, W, G, ρ, ω, S, xs, m, hx, aft⟩
  unfold LL.biBool at aft
  split at aft
  · cases hx with
    | cons h hx => cases hx; cases h; exact call_bool1 pins s σ H _ _ Q I rv (.inl ⟨_, rfl, AftV.val aft m (.bl _)⟩)
  · cases hx with
    | cons h hx => cases hx; cases h; exact call_bool1 pins s σ H _ _ Q I rv (.inr ⟨_, rfl, AftV.val aft m (.bl _)⟩)
  · exact aft.elim
theorem cr_tupleT : CallR X (.type "tuple") (RLof X.K A LL.biTuple) := by
  rintro pins s σ H vs us Q I rv ⟨A, W, G, ρ, ω, S, xs, m, hx, aft⟩
  unfold LL.biTuple at aft
  split at aft
  · cases hx with
    | cons h hx =>
      cases hx
      obtain ⟨ys, e, aft1⟩ := Aft.seq aft
      rename_i x v
      cases x with
      | v t =>
        cases t with
        | tup zs =>
          have e2 : ys = zs := by simpa [LL.Rv.w, LL.seqAt] using e.symm
          subst e2
          cases h with
          | @tup _ a ws h r => exact call_tuple_of pins s σ H _ _ Q I rv ⟨a, ws, rfl, .inr ⟨sqT_ext m.ex h, AftV.val aft1 m (.tup h r)⟩⟩
        | lst zs =>
          have e2 : ys = zs := by simpa [LL.Rv.w, LL.seqAt] using e.symm
          subst e2
          cases h with
          | @lst _ a ws h r => exact call_tuple_of pins s σ H _ _ Q I rv ⟨a, ws, rfl, .inl ⟨SqL.of (m.ex _ _ h), fun p hp => AftV.tup aft1 m r hp⟩⟩
        | _ => simp [LL.Rv.w, LL.seqAt] at e
      | new zs =>
        have e2 : ys = zs := by simpa [LL.Rv.w, LL.seqAt] using e.symm
        subst e2
        cases h with
        | @lst _ a ws h r => exact call_tuple_of pins s σ H _ _ Q I rv ⟨a, ws, rfl, .inl ⟨SqL.of (m.ex _ _ h), fun p hp => AftV.tup aft1 m r hp⟩⟩
      | l n =>
        obtain ⟨a, ws, rfl, hs, r⟩ := hold_lst m h e
        exact call_tuple_of pins s σ H _ _ Q I rv ⟨a, ws, rfl, .inl ⟨SqL.of hs, fun p hp => AftV.tup aft1 m r hp⟩⟩
  · exact aft.elim
theorem cr_listT : CallR X (.type "list") (RLof X.K A LL.biList) := by
  rintro pins s σ H vs us Q I rv ⟨A, W, G, ρ, ω, S, xs, m, hx, aft⟩
  unfold LL.biList at aft
  split at aft
  · cases hx with
    | cons h hx =>
      cases hx
      obtain ⟨ys, e, aft1⟩ := Aft.seq aft
      obtain ⟨a, ws, rfl, hs, r⟩ := hold_seq m h e
      exact call_list_of pins s σ H _ _ Q I rv ⟨a, ws, rfl, hs, fun p hp => AftV.new aft1 m r hp⟩
  · exact aft.elim
theorem cr_sortedT : CallR X (.builtin "sorted") (RLof X.K A LL.biSorted) := by
  rintro pins s σ H vs us Q I rv ⟨A, W, G, ρ, ω, S, xs, m, hx, aft⟩
  unfold LL.biSorted at aft
  split at aft
  · cases hx with
    | cons h hx =>
      cases hx
      obtain ⟨ys, e, aft1⟩ := Aft.lst aft
      obtain ⟨ss, e2, aft2⟩ := Aft.opt aft1
      obtain ⟨g, aft3⟩ := Aft.guard aft2
      obtain ⟨a, ws, rfl, hs, r⟩ := hold_lst m h e
      obtain rfl := allStr_reps e2 r
      refine cr_sortedS pins s σ H _ _ Q I rv ⟨a, ss.map toS, rfl, SqL.of hs, by rw [List.length_map]; exact of_decide_eq_true g, fun ys p hp hso hn => ?_⟩
      rw [sorted_T hp hso]
      exact AftV.new aft3 m (reps_strs _) hn
  · exact aft.elim
theorem cr_bi (hc : X.calm = true) (b : LL.Bi) : CallR X (biV b) (RLof X.K A (LL.bi b)) := by
  cases b
  · exact cr_len
  · exact cr_allT hc
  · exact cr_anyT hc
  · exact cr_maxT hc
  · exact cr_intT
  · exact cr_strT
  · exact cr_boolT
  · exact cr_tupleT
  · exact cr_listT
  · exact cr_sortedT
end
end LLS

set_option Elab.async false
set_option linter.all false
set_option autoImplicit false
set_option maxRecDepth 100000
set_option maxHeartbeats 4000000
namespace LLS
open PySem PySem.Spec PyProof.Rows L2 PySem.SeqAt

/-- a method: the target, the arguments -/
def RMof (K : PySem.W.Frag) (_A : Ad) (op : LL.Rv → List LL.Rv → LL.M LL.Rv) : V → List V → Hp → VK → Prop := fun v vs H Q =>
  ∃ A W G ρ ω S x xs, MS K A G ρ ω S H ∧ Hold K A G ρ ω x v ∧ Holds K A G ρ ω xs vs ∧ AftV K A ρ W G ω Q (op x xs S)
section
variable {K : PySem.W.Frag} {A : Ad} {ρ : List Addr} {W : WA} {G : Hp} {ω : List Addr} {β : Type}
theorem Aft.getL {n : Nat} {f : List LL.T → LL.M β} {S : LL.Sto} {k : β → LL.Sto → Hp → List Addr → Hp → Prop} (h : Aft K A ρ W G ω k ((LL.getL n >>= f) S)) : ∃ xs, S.L[n]? = some xs ∧ Aft K A ρ W G ω k (f xs S) := by
  have e : (LL.getL n >>= f) S = (LL.M.opt (S.L[n]?) >>= f) S := rfl
  rw [e] at h
  exact h.opt
theorem AftV.put {S : LL.Sto} {H : Hp} {Q : VK} {n : Nat} {a : Addr} {xs : List LL.T} {vs : List V} {t : LL.T} {v : V} (h : AftV K A ρ W G ω Q ((LL.putL n xs >>= fun _ => LL.Rv.val t) S)) (m : MS K A G ρ ω S H) (hn : n < S.L.length) (ha : ρ[n]? = some a) (r : Reps K A G ω xs vs) (q : Rep K A G ω t v) :
    Q v (upd H a (.lst vs)) :=
  h G ω _ (Ext.refl G) List.prefix_rfl (m.write hn ha r) v q
end
section
variable {X : Cx} {A : Ad}
theorem mr_find : MtR X "str.find" (RMof X.K A (LL.meRv .find)) := by
  rintro pins s σ H v vs u us Q I rv rvs ⟨A, W, G, ρ, ω, S, x, xs, m, hx, hxs, aft⟩
  unfold LL.meRv at aft
  split at aft
  · cases hx
    change Aft _ _ _ _ _ _ _ (LL.meFind _ _ S) at aft
    unfold LL.meFind at aft
    split at aft
    · cases hxs with
      | cons h1 hxs =>
        cases hxs with
        | cons h2 hxs =>
          cases hxs; cases h1; cases h2
          obtain ⟨g, aft1⟩ := Aft.guard aft
          have q := AftV.val aft1 m (.int _)
          rw [← find3_T _ _ _ (of_decide_eq_true g)] at q
          exact mt_find3 pins s σ H _ _ _ _ Q I rv rvs ⟨_, _, _, rfl, rfl, q⟩
    · exact aft.elim
  · exact (Aft.getL aft).choose_spec.2.elim
  · exact aft.elim
theorem mr_count : MtR X "str.count" (RMof X.K A (LL.meRv .count)) := by
  rintro pins s σ H v vs u us Q I rv rvs ⟨A, W, G, ρ, ω, S, x, xs, m, hx, hxs, aft⟩
  unfold LL.meRv at aft
  split at aft
  · cases hx
    change Aft _ _ _ _ _ _ _ (LL.meCount _ _ S) at aft
    unfold LL.meCount at aft
    split at aft
    · cases hxs with
      | cons h1 hxs =>
        cases hxs; cases h1
        have q := AftV.val aft m (.int _)
        rw [← count_T] at q
        exact mt_count pins s σ H _ _ _ _ Q I rv rvs ⟨_, _, rfl, rfl, q⟩
    · exact aft.elim
  · exact (Aft.getL aft).choose_spec.2.elim
  · exact aft.elim
theorem mr_starts : MtR X "str.startswith" (RMof X.K A (LL.meRv .startswith)) := by
  rintro pins s σ H v vs u us Q I rv rvs ⟨A, W, G, ρ, ω, S, x, xs, m, hx, hxs, aft⟩
  unfold LL.meRv at aft
  split at aft
  · cases hx
    change Aft _ _ _ _ _ _ _ (LL.meStarts _ _ S) at aft
    unfold LL.meStarts at aft
    split at aft
    · cases hxs with
      | cons h1 hxs =>
        cases hxs; cases h1
        have q := AftV.val aft m (.bl _)
        rw [← starts_T] at q
        exact mt_startswith pins s σ H _ _ _ _ Q I rv rvs ⟨_, _, rfl, rfl, q⟩
    · exact aft.elim
  · exact (Aft.getL aft).choose_spec.2.elim
  · exact aft.elim
theorem mr_ends : MtR X "str.endswith" (RMof X.K A (LL.meRv .endswith)) := by
  rintro pins s σ H v vs u us Q I rv rvs ⟨A, W, G, ρ, ω, S, x, xs, m, hx, hxs, aft⟩
  unfold LL.meRv at aft
  split at aft
  · cases hx
    change Aft _ _ _ _ _ _ _ (LL.meEnds _ _ S) at aft
    unfold LL.meEnds at aft
    split at aft
    · cases hxs with
      | cons h1 hxs =>
        cases hxs; cases h1
        have q := AftV.val aft m (.bl _)
        rw [← ends_T] at q
        exact mt_endswith pins s σ H _ _ _ _ Q I rv rvs ⟨_, _, rfl, rfl, q⟩
    · exact aft.elim
  · exact (Aft.getL aft).choose_spec.2.elim
  · exact aft.elim
theorem sum_len (ss : List LL.Cs) : ((ss.map toS).map (·.length)).sum = (ss.map List.length).sum := by
  rw [List.map_map]
  have e : ((fun x : Str => x.length) ∘ toS) = List.length := by funext s; exact toS_len s
  rw [e]
theorem mr_join : MtR X "str.join" (RMof X.K A (LL.meRv .join)) := by
  rintro pins s σ H v vs u us Q I rv rvs ⟨A, W, G, ρ, ω, S, x, xs, m, hx, hxs, aft⟩
  unfold LL.meRv at aft
  split at aft
  · cases hx
    change Aft _ _ _ _ _ _ _ (LL.meJoin _ _ S) at aft
    unfold LL.meJoin at aft
    split at aft
    · cases hxs with
      | cons h1 hxs =>
        cases hxs
        obtain ⟨ys, e, aft1⟩ := Aft.lst aft
        obtain ⟨ss, e2, aft2⟩ := Aft.opt aft1
        obtain ⟨g, aft3⟩ := Aft.guard aft2
        obtain ⟨a, ws, rfl, hs, r⟩ := hold_lst m h1 e
        obtain rfl := allStr_reps e2 r
        have q := AftV.val aft3 m (.str _)
        rw [← join_T] at q
        have g := of_decide_eq_true g
        exact mt_join pins s σ H _ _ _ _ Q I rv rvs ⟨_, a, ss.map toS, rfl, rfl, .inl (SqL.of hs), by rw [sum_len, List.length_map, toS_len]; exact g, q⟩
    · exact aft.elim
  · exact (Aft.getL aft).choose_spec.2.elim
  · exact aft.elim
theorem hold_l {K : PySem.W.Frag} {G : Hp} {ρ ω : List Addr} {S : LL.Sto} {H : Hp} (m : MS K A G ρ ω S H) {n : Nat} {v : V} {xs : List LL.T} (h : Hold K A G ρ ω (.l n) v) (e : S.L[n]? = some xs) : n < S.L.length ∧ ∃ a vs, v = .ref a ∧ ρ[n]? = some a ∧ H a = some (.lst vs) ∧ Reps K A G ω xs vs := by
  obtain ⟨a, h1, rfl⟩ := h
  obtain ⟨b, us, q1, q2, q3, q4⟩ := m.li n xs e
  rw [h1] at q1; cases q1
  exact ⟨(List.getElem?_eq_some_iff.mp e).1, a, us, rfl, h1, q3, q4⟩
theorem mr_append : MtR X "list.append" (RMof X.K A (LL.meRv .append)) := by
  rintro pins s σ H v vs u us Q I rv rvs ⟨A, W, G, ρ, ω, S, x, xs, m, hx, hxs, aft⟩
  unfold LL.meRv at aft
  split at aft
  · exact aft.elim
  · obtain ⟨ys, e, aft1⟩ := Aft.getL aft
    obtain ⟨hn, a, ws, rfl, ha, hH, r⟩ := hold_l m hx e
    change Aft _ _ _ _ _ _ _ (LL.meAppend _ _ _ S) at aft1
    unfold LL.meAppend at aft1
    split at aft1
    · cases hxs with
      | cons h1 hxs =>
        cases hxs
        obtain ⟨t, et, aft2⟩ := Aft.tree aft1
        obtain ⟨g, aft3⟩ := Aft.guard aft2
        have rt := hold_tree h1 et
        exact mt_append pins s σ H _ _ _ _ Q I rv rvs ⟨a, ws, _, rfl, rfl, hH, by rw [← r.length, sz_eq]; exact of_decide_eq_true g, AftV.put aft3 m hn ha (r.append (Reps.one rt)) .non⟩
    · exact aft1.elim
  · exact aft.elim
theorem mr_insert : MtR X "list.insert" (RMof X.K A (LL.meRv .insert)) := by
  rintro pins s σ H v vs u us Q I rv rvs ⟨A, W, G, ρ, ω, S, x, xs, m, hx, hxs, aft⟩
  unfold LL.meRv at aft
  split at aft
  · exact aft.elim
  · obtain ⟨ys, e, aft1⟩ := Aft.getL aft
    obtain ⟨hn, a, ws, rfl, ha, hH, r⟩ := hold_l m hx e
    change Aft _ _ _ _ _ _ _ (LL.meInsert _ _ _ S) at aft1
    unfold LL.meInsert at aft1
    split at aft1
    · cases hxs with
      | cons h0 hxs =>
        cases hxs with
        | cons h1 hxs =>
          cases hxs
          cases h0
          obtain ⟨t, et, aft2⟩ := Aft.tree aft1
          obtain ⟨g, aft3⟩ := Aft.guard aft2
          have g := of_decide_eq_true g
          have rt := hold_tree h1 et
          exact mt_insert pins s σ H _ _ _ _ Q I rv rvs ⟨a, ws, _, _, rfl, rfl, hH, by rw [← r.length, sz_eq]; exact g.1, g.2.1, by omega, AftV.put aft3 m hn ha (((r.take _).append (Reps.one rt)).append (r.drop _)) .non⟩
    · exact aft1.elim
  · exact aft.elim
theorem mr_pop0 : MtR X "list.pop" (RMof X.K A (LL.meRv .pop0)) := by
  rintro pins s σ H v vs u us Q I rv rvs ⟨A, W, G, ρ, ω, S, x, xs, m, hx, hxs, aft⟩
  unfold LL.meRv at aft
  split at aft
  · exact aft.elim
  · obtain ⟨ys, e, aft1⟩ := Aft.getL aft
    obtain ⟨hn, a, ws, rfl, ha, hH, r⟩ := hold_l m hx e
    change Aft _ _ _ _ _ _ _ (LL.mePop0 _ _ _ S) at aft1
    unfold LL.mePop0 at aft1
    split at aft1
    · cases hxs with
      | cons h0 hxs =>
        cases hxs
        cases h0
        cases r with
        | nil => exact aft1.elim
        | @cons y ys w ws rt r =>
          refine mt_popAt pins s σ H _ _ _ _ Q I rv rvs ⟨a, w :: ws, 0, 0, w, rfl, rfl, hH, by decide, by decide, ?_, rfl, AftV.put aft1 m hn ha r rt⟩
          exact (ixN_seq (n := (w :: ws).length) (i := 0) (j := 0) (by simp [ixN])).1
    · exact aft1.elim
  · exact aft.elim
/-! ### places, slices -/
theorem ixOf_eq (n : Nat) (i : Int) : LL.ixOf n i = ixN n i := rfl
theorem ir_ix : IxR X (R2of X.K A LL.ixRv) := by
  rintro value slice pins s σ H v w u1 u2 Q I rv rw ⟨A, W, G, ρ, ω, S, x, y, m, hx, hy, aft⟩ hs
  obtain ⟨i, rfl, aft1⟩ := Aft.isI aft
  cases hy
  split at aft1
  · cases hx
    obtain ⟨g, aft2⟩ := Aft.guard aft1
    obtain ⟨j, ej, aft3⟩ := Aft.opt aft2
    obtain ⟨c, ec, aft4⟩ := Aft.opt aft3
    refine ix_str value slice pins s σ H _ _ _ _ Q I rv rw ⟨_, i, c, rfl, rfl, by rw [toS_len, sz_eq]; exact of_decide_eq_true g, ?_, AftV.val aft4 m (.str [c])⟩ hs
    rw [toS_tl]
    unfold atI
    rw [← ixOf_eq, ej]
    exact ec
  · obtain ⟨a, rfl, hq⟩ := hold_scr m hx
    obtain ⟨j, ej, aft3⟩ := Aft.opt aft1
    obtain ⟨c, ec, aft4⟩ := Aft.opt aft3
    refine ix_list value slice pins s σ H _ _ _ _ Q I rv rw ⟨a, _, i, .int c, rfl, rfl, hq, ?_, AftV.val aft4 m (.int c)⟩ hs
    unfold atI
    rw [List.length_map, ← ixOf_eq, ej]
    show (List.map V.int _)[j]? = _
    rw [List.getElem?_map, ec]; rfl
  · obtain ⟨xs, e, aft2⟩ := Aft.seq aft1
    obtain ⟨j, ej, aft3⟩ := Aft.opt aft2
    obtain ⟨c, ec, aft4⟩ := Aft.opt aft3
    obtain ⟨a, vs, rfl, hq, r⟩ := hold_seq m hx e
    obtain ⟨cv, ecv, rc⟩ := r.get ec
    have hat : atI vs i = some cv := by
      unfold atI
      rw [← r.length, ← ixOf_eq, ej]
      exact ecv
    have q := AftV.val aft4 m rc
    rcases hq with hq | hq
    · exact ix_list value slice pins s σ H _ _ _ _ Q I rv rw ⟨a, vs, i, cv, rfl, rfl, hq, hat, q⟩ hs
    · exact ix_tup value slice pins s σ H _ _ _ _ Q I rv rw ⟨a, vs, i, cv, rfl, rfl, hq, hat, q⟩ hs
/-- a slice -/
def RSof (K : PySem.W.Frag) (_A : Ad) : V → Option Int → Option Int → Hp → VK → Prop := fun v lo hi H Q =>
  ∃ A W G ρ ω S x, MS K A G ρ ω S H ∧ Hold K A G ρ ω x v ∧ AftV K A ρ W G ω Q (LL.slRv x lo hi S)
theorem cut_eq (vs : List V) (lo hi : Option Int) : LL.cut vs lo hi = cutV vs lo hi := rfl
theorem reps_cut {K : PySem.W.Frag} {G : Hp} {ω : List Addr} {xs : List LL.T} {vs : List V} (r : Reps K A G ω xs vs) (lo hi : Option Int) : Reps K A G ω (LL.cut xs lo hi) (cutV vs lo hi) := by
  rw [← cut_eq]
  unfold LL.cut
  rw [← r.length]
  exact (r.drop _).take _
theorem sl_T : SlR X (RSof X.K A) := by
  rintro pins s σ H v u vl vu lo hi sl Q I rv hs pl pu ⟨A, W, G, ρ, ω, S, x, m, hx, aft⟩
  unfold LL.slRv at aft
  split at aft
  · rename_i z
    cases hx
    obtain ⟨g, aft2⟩ := Aft.guard aft
    refine sl_str pins s σ H _ _ vl vu lo hi sl Q I rv hs pl pu ⟨_, rfl, by rw [toS_len, sz_eq]; exact of_decide_eq_true g, ?_⟩
    have e : cutS (toS z) lo hi = toS (LL.cut z lo hi) := by
      unfold cutS LL.cut toS
      simp [Str.length]
      rfl
    rw [e]
    exact AftV.val aft2 m (.str _)
  · rename_i xs
    cases hx with
    | @tup _ a vs h r =>
      refine sl_tupA pins s σ H _ _ vl vu lo hi sl Q I rv hs pl pu ⟨a, vs, rfl, sqT_ext m.ex h, fun hw => ?_, fun _ p hp => AftV.tup aft m (reps_cut r lo hi) hp⟩
      have e : LL.cut xs lo hi = xs := by
        unfold LL.cut
        rw [r.length]
        have h1 : LL.sIx vs.length 0 lo = 0 := hw.1
        have h2 : LL.sIx vs.length vs.length hi = vs.length := hw.2
        rw [h1, h2, List.drop_zero, Nat.sub_zero, ← r.length, List.take_length]
      rw [e] at aft
      exact AftV.val aft m (.tup h r)
  · obtain ⟨xs, e, aft2⟩ := Aft.lst aft
    obtain ⟨a, vs, rfl, hq, r⟩ := hold_lst m hx e
    exact sl_list pins s σ H _ _ vl vu lo hi sl Q I rv hs pl pu ⟨a, vs, rfl, SqL.of hq, fun p hp => AftV.new aft2 m (reps_cut r lo hi) hp⟩
/-! ### isinstance -/
def tyS : LL.Ty → String
  | .int => "int" | .bool => "bool" | .str => "str" | .tuple => "tuple" | .list => "list"
def rIsT (K : PySem.W.Frag) (A : Ad) (t : LL.Ty) : List V → Hp → VK → Prop := fun vs H Q => ∃ v, vs = [v, .ty (tyS t)] ∧ R1of K A (fun x => do let r ← LL.isiRv t x; LL.Rv.val (.bl r)) v H Q
theorem tyx_of {K : PySem.W.Frag} {G : Hp} {ρ ω : List Addr} {S : LL.Sto} {H : Hp} (m : MS K A G ρ ω S H) {a : Addr} {vs : List V} (h : SqT K H a vs) : TyX K H (.ref a) (.type "tuple") := by
  rcases h with (h | ⟨o, h⟩) | ⟨o, its, n, h1, h2, _⟩
  · exact .base (.tup h)
  · exact .fTuple h
  · exact .kTuple h1 h2
theorem isi_go {pins : List (Addr × Obj)} {s : Shared} {σ : L2.St} {H : Hp} {Q : VK} {v : V} {us : List Value} {t : LL.Ty} {tn : String} {b : Bool} (I : Inv X pins σ H s) (rv : Vals [v, .ty (tyS t)] us) (ty : TyX X.K H v (.type tn)) (k : kitB tn (tyS t) = some b) (q : Q (.bl b) H) :
    wpAny (model X.prog X.w) X.A (call (.builtin "isinstance") us) (EP X pins σ Q) X.xe s :=
  call_isi pins s σ H _ _ Q I rv ⟨v, .ty (tyS t), _, _, b, rfl, .ty _, ty, kit_ty k, q⟩
theorem kit_non (t : LL.Ty) : kitB "NoneType" (tyS t) = some false := by cases t <;> decide +kernel
theorem kit_all (t : LL.Ty) : kitB "int" (tyS t) = some (LL.isTy t (.int 0)) ∧ kitB "bool" (tyS t) = some (LL.isTy t (.bl true)) ∧
    kitB "str" (tyS t) = some (LL.isTy t (.str [])) ∧ kitB "tuple" (tyS t) = some (LL.isTy t (.tup [])) ∧ kitB "list" (tyS t) = some (LL.isTy t (.lst [])) := by
  cases t <;> decide +kernel
theorem cr_isT (t : LL.Ty) : CallR X (.builtin "isinstance") (rIsT X.K A t) := by
  rintro pins s σ H vs us Q I rv ⟨v, rfl, A, W, G, ρ, ω, S, x, m, hx, aft⟩
  obtain ⟨k1, k2, k3, k4, k5⟩ := kit_all t
  have aft0 := Aft.bind aft
  have lst : ∀ {b : Bool} {a : Addr} {ws : List V}, v = .ref a → H a = some (.lst ws) → kitB "list" (tyS t) = some b → Q (.bl b) H → wpAny (model X.prog X.w) X.A (call (.builtin "isinstance") us) (EP X pins σ Q) X.xe s :=
    fun {b a ws} e h k q => by subst e; exact isi_go I rv (.base (.lst h)) k q
  cases x with
  | v a =>
    cases a with
    | non =>
      cases hx
      have q := aft0 G ω H (Ext.refl G) List.prefix_rfl m
      exact isi_go I rv (.base .non) (kit_non t) (by have := AftV.val q m (.bl _); exact this)
    | bl b =>
      cases hx
      have q := aft0 G ω H (Ext.refl G) List.prefix_rfl m
      exact isi_go I rv (.base (.bl b)) k2 (by have := AftV.val q m (.bl _); exact this)
    | int i =>
      cases hx
      have q := aft0 G ω H (Ext.refl G) List.prefix_rfl m
      exact isi_go I rv (.base (.int i)) k1 (by have := AftV.val q m (.bl _); exact this)
    | str z =>
      cases hx
      have q := aft0 G ω H (Ext.refl G) List.prefix_rfl m
      exact isi_go I rv (.base (.str _)) k3 (by have := AftV.val q m (.bl _); exact this)
    | tup xs =>
      cases hx with
      | tup h r =>
        have q := aft0 G ω H (Ext.refl G) List.prefix_rfl m
        exact isi_go I rv (tyx_of m (sqT_ext m.ex h)) k4 (by have := AftV.val q m (.bl _); exact this)
    | lst xs =>
      cases hx with
      | lst h r =>
        have q := aft0 G ω H (Ext.refl G) List.prefix_rfl m
        exact lst rfl (m.ex _ _ h) k5 (by have := AftV.val q m (.bl _); exact this)
    | obj n => exact aft0.elim
    | fn f => exact aft0.elim
    | scr ns => exact aft0.elim
  | new xs =>
    cases hx with
    | lst h r =>
      have q := aft0 G ω H (Ext.refl G) List.prefix_rfl m
      exact lst rfl (m.ex _ _ h) k5 (by have := AftV.val q m (.bl _); exact this)
  | l n =>
    have hx' := hx
    obtain ⟨a, h1, rfl⟩ := hx'
    have hl : n < S.L.length := by rw [← m.ln]; exact (List.getElem?_eq_some_iff.mp h1).1
    obtain ⟨_, b, ws, e, _, hH, _⟩ := hold_l m hx (List.getElem?_eq_getElem hl)
    have q := aft0 G ω H (Ext.refl G) List.prefix_rfl m
    exact lst e hH k5 (by have := AftV.val q m (.bl _); exact this)
/-! ### o[i] = e -/
def RPof (K : PySem.W.Frag) (_A : Ad) : V → V → V → Hp → (Hp → Prop) → Prop := fun o i v H Q =>
  ∃ A W G ρ ω S x y z, MS K A G ρ ω S H ∧ Hold K A G ρ ω x o ∧ Hold K A G ρ ω y i ∧ Hold K A G ρ ω z v ∧ Aft K A ρ W G ω (fun _ _ _ _ H' => Q H') (LL.setRv x y z S)
end
end LLS

set_option Elab.async false
set_option linter.all false
set_option autoImplicit false
set_option maxRecDepth 100000
set_option maxHeartbeats 4000000
namespace LLS
open PySem PySem.Spec PyProof.Rows L2 PySem.SeqAt

/-! ### weaker wishes -/
section
variable {X : Cx}
theorem pe_imp {e : Expr} {t t' : TE} (h : PE X e t) (i : ∀ σ H Q, t' σ H Q → t σ H Q) : PE X e t' := ⟨fun pins s σ H Q I q => h.run pins s σ H Q I (i σ H Q q)⟩
theorem pt_imp {e : Expr} {t t' : TT} (h : PT X e t) (i : ∀ σ H Q, t' σ H Q → t σ H Q) : PT X e t' := ⟨fun pins s σ H Q I q => h.run pins s σ H Q I (i σ H Q q)⟩
theorem pw_imp {e : Expr} {t t' : TT} (h : PW X e t) (i : ∀ σ H Q, t' σ H Q → t σ H Q) : PW X e t' := ⟨fun wh pins s σ H Q I q => h.run wh pins s σ H Q I (i σ H Q q)⟩
theorem pa_imp {e : List Expr} {t t' : TA} (h : PA X e t) (i : ∀ σ H Q, t' σ H Q → t σ H Q) : PA X e t' := ⟨fun pos pins s σ H Q I q => h.run pos pins s σ H Q I (i σ H Q q)⟩
theorem po_imp {e : Option Expr} {t t' : TO} (h : PO X e t) (i : ∀ σ H Q, t' σ H Q → t σ H Q) : PO X e t' := ⟨fun pins s σ H Q I q => h.run pins s σ H Q I (i σ H Q q)⟩
theorem pi_imp {tg e : Expr} {t t' : TI} (h : PI X tg e t) (i : ∀ σ H Q, t' σ H Q → t σ H Q) : PI X tg e t' := ⟨fun pins s σ H Q I q => h.run pins s σ H Q I (i σ H Q q)⟩
theorem pts_imp {e : List Expr} {t t' : TT} (h : PTs X e t) (i : ∀ σ H Q, t' σ H Q → t σ H Q) : PTs X e t' := ⟨fun pins s σ H Q I q => h.run pins s σ H Q I (i σ H Q q)⟩
theorem ps_imp {e : Stmt} {t t' : TS} (h : PS X e t) (i : ∀ D σ H, t' D σ H → t D σ H) : PS X e t' := ⟨fun pins s σ H D I q => h.run pins s σ H D I (i D σ H q)⟩
theorem pss_imp {e : List Stmt} {t t' : TS} (h : PSs X e t) (i : ∀ D σ H, t' D σ H → t D σ H) : PSs X e t' := ⟨fun pins s σ H D I q => h.run pins s σ H D I (i D σ H q)⟩
end

theorem M_bind {α β : Type} (m : LL.M α) (f : α → LL.M β) (s : LL.Sto) : (m >>= f) s = (match m s with | .ok a s' => f a s' | .exc c s' => .exc c s' | .bad => .bad) := rfl
theorem M_assoc {α β γ : Type} (m : LL.M α) (f : α → LL.M β) (g : β → LL.M γ) : ((m >>= f) >>= g) = (m >>= fun a => f a >>= g) := by
  funext s
  show LL.M.bind (LL.M.bind m f) g s = LL.M.bind m (fun a => LL.M.bind (f a) g) s
  unfold LL.M.bind
  cases m s <;> rfl
/-! ### a run of the evaluator, as a wish -/
def WC (A : Ad) (Wx : WX) (σV : L2.St) : WA := fun c H => ∀ C, A.exc c = some C → Wx (.ref C) none σV H
abbrev Post (β : Type) := Ad → List Addr → β → LL.Sto → Hp → List Addr → Hp → Prop
section
variable (K : PySem.W.Frag) (A : Ad) (Wx : WX)
def Run {β : Type} (M : LL.Env → LL.M β) (P : Post β) (σV : L2.St) (H : Hp) : Prop :=
  ∃ F G ρ ω S σ, MS K (A.at F) G ρ ω S H ∧ RepE K (A.at F) G ρ ω σ σV ∧ Aft K (A.at F) ρ (WC A Wx σV) G ω (P (A.at F) ρ) (M σ S)
def Run1 {β : Type} (v : V) (M : LL.Env → LL.Rv → LL.M β) (P : Post β) (σV : L2.St) (H : Hp) : Prop :=
  ∃ F G ρ ω S σ x, MS K (A.at F) G ρ ω S H ∧ RepE K (A.at F) G ρ ω σ σV ∧ Hold K (A.at F) G ρ ω x v ∧ Aft K (A.at F) ρ (WC A Wx σV) G ω (P (A.at F) ρ) (M σ x S)
def Run2 {β : Type} (v w : V) (M : LL.Env → LL.Rv → LL.Rv → LL.M β) (P : Post β) (σV : L2.St) (H : Hp) : Prop :=
  ∃ F G ρ ω S σ x y, MS K (A.at F) G ρ ω S H ∧ RepE K (A.at F) G ρ ω σ σV ∧ Hold K (A.at F) G ρ ω x v ∧ Hold K (A.at F) G ρ ω y w ∧ Aft K (A.at F) ρ (WC A Wx σV) G ω (P (A.at F) ρ) (M σ x y S)
def RunL {β : Type} (vs : List V) (M : LL.Env → List LL.Rv → LL.M β) (P : Post β) (σV : L2.St) (H : Hp) : Prop :=
  ∃ F G ρ ω S σ xs, MS K (A.at F) G ρ ω S H ∧ RepE K (A.at F) G ρ ω σ σV ∧ Holds K (A.at F) G ρ ω xs vs ∧ Aft K (A.at F) ρ (WC A Wx σV) G ω (P (A.at F) ρ) (M σ xs S)
def PV (Q : VK) : Post LL.Rv := fun A' ρ r _ G ω H => ∀ v, RepR K A' G ρ ω H r v → Q v H
def PB (Q : Bool → Hp → Prop) : Post Bool := fun _ _ b _ _ _ H => Q b H
def PL (Q : List V → Hp → Prop) : Post (List LL.Rv) := fun A' ρ rs _ G ω H => ∀ vs, Holds K A' G ρ ω rs vs → Q vs H
def POo (Q : Option Int → Hp → Prop) : Post (Option Int) := fun _ _ o _ _ _ H => Q o H
def rdE (M : LL.Env → LL.M LL.Rv) : TE := fun σ H Q => Run K A Wx M (PV K Q) σ H
def rdT (M : LL.Env → LL.M Bool) : TT := fun σ H Q => Run K A Wx M (PB Q) σ H
def rdA (M : LL.Env → LL.M (List LL.Rv)) : TA := fun σ H Q => Run K A Wx M (PL K Q) σ H
def rdO (M : LL.Env → LL.M (Option Int)) : TO := fun σ H Q => Run K A Wx M (POo Q) σ H
end
section
variable {K : PySem.W.Frag} {A : Ad} {Wx : WX} {β : Type} {σV : L2.St} {H : Hp} {P : Post β} {v w : V}
theorem rdE.mp {M : LL.Env → LL.M LL.Rv} {Q Q' : VK} (h : rdE K A Wx M σV H Q) (i : ∀ v H', Q v H' → Q' v H') : rdE K A Wx M σV H Q' := by
  obtain ⟨F, G, ρ, ω, S, σ, m, e, aft⟩ := h
  exact ⟨F, G, ρ, ω, S, σ, m, e, aft.imp fun r S1 G1 ω1 H1 _ _ _ k v rv => i v H1 (k v rv)⟩
theorem rdT.mp {M : LL.Env → LL.M Bool} {Q Q' : Bool → Hp → Prop} (h : rdT K A Wx M σV H Q) (i : ∀ v H', Q v H' → Q' v H') : rdT K A Wx M σV H Q' := by
  obtain ⟨F, G, ρ, ω, S, σ, m, e, aft⟩ := h
  exact ⟨F, G, ρ, ω, S, σ, m, e, aft.imp fun r S1 G1 ω1 H1 _ _ _ k => i r H1 k⟩
theorem rdA.mp {M : LL.Env → LL.M (List LL.Rv)} {Q Q' : List V → Hp → Prop} (h : rdA K A Wx M σV H Q) (i : ∀ v H', Q v H' → Q' v H') : rdA K A Wx M σV H Q' := by
  obtain ⟨F, G, ρ, ω, S, σ, m, e, aft⟩ := h
  exact ⟨F, G, ρ, ω, S, σ, m, e, aft.imp fun r S1 G1 ω1 H1 _ _ _ k v rv => i v H1 (k v rv)⟩
theorem rdO.mp {M : LL.Env → LL.M (Option Int)} {Q Q' : Option Int → Hp → Prop} (h : rdO K A Wx M σV H Q) (i : ∀ v H', Q v H' → Q' v H') : rdO K A Wx M σV H Q' := by
  obtain ⟨F, G, ρ, ω, S, σ, m, e, aft⟩ := h
  exact ⟨F, G, ρ, ω, S, σ, m, e, aft.imp fun r S1 G1 ω1 H1 _ _ _ k => i r H1 k⟩
theorem Run.bind {M : LL.Env → LL.M LL.Rv} {f : LL.Env → LL.Rv → LL.M β} (h : Run K A Wx (fun σ => M σ >>= f σ) P σV H) : rdE K A Wx M σV H (fun v H1 => Run1 K A Wx v f P σV H1) := by
  obtain ⟨F, G, ρ, ω, S, σ, m, e, aft⟩ := h
  refine ⟨F, G, ρ, ω, S, σ, m, e, (Aft.bind aft).imp ?_⟩
  intro r S1 G1 ω1 H1 eG p m1 k v rv
  obtain ⟨G2, eG2, m2, hv⟩ := rv.hold m1
  exact ⟨F, G2, ρ, ω1, S1, σ, r, m2, e.mono (eG.trans eG2) List.prefix_rfl p, hv, k.mono eG2 List.prefix_rfl⟩
theorem Run1.bind {M : LL.Env → LL.M LL.Rv} {f : LL.Env → LL.Rv → LL.Rv → LL.M β} (h : Run1 K A Wx v (fun σ x => M σ >>= f σ x) P σV H) : rdE K A Wx M σV H (fun w H1 => Run2 K A Wx v w f P σV H1) := by
  obtain ⟨F, G, ρ, ω, S, σ, x, m, e, hx, aft⟩ := h
  refine ⟨F, G, ρ, ω, S, σ, m, e, (Aft.bind aft).imp ?_⟩
  intro r S1 G1 ω1 H1 eG p m1 k w rw
  obtain ⟨G2, eG2, m2, hw⟩ := rw.hold m1
  exact ⟨F, G2, ρ, ω1, S1, σ, x, r, m2, e.mono (eG.trans eG2) List.prefix_rfl p, hx.mono (eG.trans eG2) List.prefix_rfl p, hw, k.mono eG2 List.prefix_rfl⟩
theorem Run.bindL {M : LL.Env → LL.M (List LL.Rv)} {f : LL.Env → List LL.Rv → LL.M β} (h : Run K A Wx (fun σ => M σ >>= f σ) P σV H) : rdA K A Wx M σV H (fun vs H1 => RunL K A Wx vs f P σV H1) := by
  obtain ⟨F, G, ρ, ω, S, σ, m, e, aft⟩ := h
  refine ⟨F, G, ρ, ω, S, σ, m, e, (Aft.bind aft).imp ?_⟩
  intro r S1 G1 ω1 H1 eG p m1 k vs rv
  exact ⟨F, G1, ρ, ω1, S1, σ, r, m1, e.mono eG List.prefix_rfl p, rv, k⟩
theorem Run.bindB {M : LL.Env → LL.M Bool} {f : LL.Env → Bool → LL.M β} (h : Run K A Wx (fun σ => M σ >>= f σ) P σV H) : rdT K A Wx M σV H (fun b H1 => Run K A Wx (fun σ => f σ b) P σV H1) := by
  obtain ⟨F, G, ρ, ω, S, σ, m, e, aft⟩ := h
  refine ⟨F, G, ρ, ω, S, σ, m, e, (Aft.bind aft).imp ?_⟩
  intro r S1 G1 ω1 H1 eG p m1 k
  exact ⟨F, G1, ρ, ω1, S1, σ, m1, e.mono eG List.prefix_rfl p, k⟩
theorem Run1.bindO {M : LL.Env → LL.M (Option Int)} {f : LL.Env → LL.Rv → Option Int → LL.M β} (h : Run1 K A Wx v (fun σ x => M σ >>= f σ x) P σV H) : rdO K A Wx M σV H (fun o H1 => Run1 K A Wx v (fun σ x => f σ x o) P σV H1) := by
  obtain ⟨F, G, ρ, ω, S, σ, x, m, e, hx, aft⟩ := h
  refine ⟨F, G, ρ, ω, S, σ, m, e, (Aft.bind aft).imp ?_⟩
  intro r S1 G1 ω1 H1 eG p m1 k
  exact ⟨F, G1, ρ, ω1, S1, σ, x, m1, e.mono eG List.prefix_rfl p, hx.mono eG List.prefix_rfl p, k⟩
theorem Run1.bindL {M : LL.Env → LL.M (List LL.Rv)} {f : LL.Env → LL.Rv → List LL.Rv → LL.M β} (h : Run1 K A Wx v (fun σ x => M σ >>= f σ x) P σV H) :
    rdA K A Wx M σV H (fun vs H1 => RunL K A Wx (v :: vs) (fun σ xs => match xs with | x :: xs => f σ x xs | [] => LL.M.bad) P σV H1) := by
  obtain ⟨F, G, ρ, ω, S, σ, x, m, e, hx, aft⟩ := h
  refine ⟨F, G, ρ, ω, S, σ, m, e, (Aft.bind aft).imp ?_⟩
  intro r S1 G1 ω1 H1 eG p m1 k vs rv
  exact ⟨F, G1, ρ, ω1, S1, σ, x :: r, m1, e.mono eG List.prefix_rfl p, .cons (hx.mono eG List.prefix_rfl p) rv, k⟩
/-- no more than a value held -/
theorem Run1.r1 {Q : VK} {op : LL.Rv → LL.M LL.Rv} (h : Run1 K A Wx v (fun _ x => op x) (PV K Q) σV H) : R1of K A op v H Q := by
  obtain ⟨F, G, ρ, ω, S, σ, x, m, e, hx, aft⟩ := h
  exact ⟨A.at F, WC A Wx σV, G, ρ, ω, S, x, m, hx, aft⟩
theorem Run2.r2 {Q : VK} {op : LL.Rv → LL.Rv → LL.M LL.Rv} (h : Run2 K A Wx v w (fun _ x y => op x y) (PV K Q) σV H) : R2of K A op v w H Q := by
  obtain ⟨F, G, ρ, ω, S, σ, x, y, m, e, hx, hy, aft⟩ := h
  exact ⟨A.at F, WC A Wx σV, G, ρ, ω, S, x, y, m, hx, hy, aft⟩
theorem RunL.rl {Q : VK} {op : List LL.Rv → LL.M LL.Rv} {vs : List V} (h : RunL K A Wx vs (fun _ xs => op xs) (PV K Q) σV H) : RLof K A op vs H Q := by
  obtain ⟨F, G, ρ, ω, S, σ, xs, m, e, hx, aft⟩ := h
  exact ⟨A.at F, WC A Wx σV, G, ρ, ω, S, xs, m, hx, aft⟩
theorem RunL.rm {Q : VK} {op : LL.Rv → List LL.Rv → LL.M LL.Rv} {vs : List V} (h : RunL K A Wx (v :: vs) (fun _ xs => match xs with | x :: xs => op x xs | [] => LL.M.bad) (PV K Q) σV H) : RMof K A op v vs H Q := by
  obtain ⟨F, G, ρ, ω, S, σ, xs, m, e, hx, aft⟩ := h
  cases hx with
  | cons h1 h2 => exact ⟨A.at F, WC A Wx σV, G, ρ, ω, S, _, _, m, h1, h2, aft⟩
theorem Run1.rt {Q : Bool → Hp → Prop} (h : Run1 K A Wx v (fun _ x => LL.truth x) (PB Q) σV H) : RTof K A v H Q := by
  obtain ⟨F, G, ρ, ω, S, σ, x, m, e, hx, aft⟩ := h
  exact ⟨A.at F, WC A Wx σV, G, ρ, ω, S, x, m, hx, aft⟩
theorem Run1.isB {f : LL.Env → Bool → LL.M β} (h : Run1 K A Wx v (fun σ x => x.isB >>= f σ) P σV H) : ∃ b, v = .bl b ∧ Run K A Wx (fun σ => f σ b) P σV H := by
  obtain ⟨F, G, ρ, ω, S, σ, x, m, e, hx, aft⟩ := h
  obtain ⟨b, rfl, aft1⟩ := Aft.isB aft
  cases hx
  exact ⟨b, rfl, F, G, ρ, ω, S, σ, m, e, aft1⟩
theorem Run1.isI {f : LL.Env → Int → LL.M β} (h : Run1 K A Wx v (fun σ x => x.isI >>= f σ) P σV H) : ∃ b, v = .int b ∧ Run K A Wx (fun σ => f σ b) P σV H := by
  obtain ⟨F, G, ρ, ω, S, σ, x, m, e, hx, aft⟩ := h
  obtain ⟨b, rfl, aft1⟩ := Aft.isI aft
  cases hx
  exact ⟨b, rfl, F, G, ρ, ω, S, σ, m, e, aft1⟩
theorem Run.pure {a : β} (h : Run K A Wx (fun _ => LL.M.pure a) P σV H) : ∃ F G ρ ω S, MS K (A.at F) G ρ ω S H ∧ P (A.at F) ρ a S G ω H := by
  obtain ⟨F, G, ρ, ω, S, σ, m, e, aft⟩ := h
  exact ⟨F, G, ρ, ω, S, m, aft G ω H (Ext.refl G) List.prefix_rfl m⟩
theorem Run.val {t : LL.T} {Q : VK} (h : Run K A Wx (fun _ => LL.Rv.val t) (PV K Q) σV H) (r : ∀ A' G ω, A'.fn = A.fn → Rep K A' G ω t v) : Q v H := by
  obtain ⟨F, G, ρ, ω, S, σ, m, e, aft⟩ := h
  exact AftV.val aft m (r _ _ _ rfl)
end

/-! ### expressions -/
section
variable {X : Cx} {A : Ad} {Wx : WX} {a b c : Expr} {Ma Mb Mc : LL.Env → LL.M LL.Rv} {pos : Pos}
theorem re_var {i : Nat} {x : Str} (hN : X.N[i]? = some x) (hv : Vis X.env.scope x) (hd : (x == ("__debug__" : Str)) = false) (hcd : (x == ("__classdict__" : Str)) = false) : PE X (.Name x pos) (rdE X.K A Wx fun σ => LL.slotRv σ i) := by
  refine pe_imp (pe_var (i := i) hN hv hd hcd) ?_
  rintro σV H Q ⟨F, G, ρ, ω, S, σ, m, e, aft⟩
  have aft' : Aft X.K (A.at F) ρ (WC A Wx σV) G ω (PV X.K Q (A.at F) ρ) (LL.slotRv σ i S) := aft
  rcases hs : σ[i]? with _ | _ | w
  · have e2 : LL.slotRv σ i = LL.M.bad := by unfold LL.slotRv; rw [hs]
    rw [e2] at aft'; exact aft'.elim
  · have e2 : LL.slotRv σ i = LL.M.bad := by unfold LL.slotRv; rw [hs]
    rw [e2] at aft'; exact aft'.elim
  · obtain ⟨u, h1, h2⟩ := e.2 i _ hs
    cases w with
    | t v =>
      have e2 : LL.slotRv σ i = LL.M.pure (.v v) := by unfold LL.slotRv; rw [hs]
      rw [e2] at aft'
      exact ⟨u, h1, AftV.same aft' m (show RepR X.K _ G ρ ω H (.v v) u from h2)⟩
    | l n =>
      have e2 : LL.slotRv σ i = LL.M.pure (.l n) := by unfold LL.slotRv; rw [hs]
      rw [e2] at aft'
      exact ⟨u, h1, AftV.same aft' m (show RepR X.K _ G ρ ω H (.l n) u from h2)⟩
theorem re_const {e : Expr} {t : LL.T} {v : V} (h : PE X e (tC v)) (r : ∀ A' G ω, A'.fn = A.fn → Rep X.K A' G ω t v) : PE X e (rdE X.K A Wx fun _ => LL.Rv.val t) := by
  refine pe_imp h ?_
  intro σV H Q h
  exact h.val r
theorem re_bin (op : LL.BOp) (ha : PE X a (rdE X.K A Wx Ma)) (hb : PE X b (rdE X.K A Wx Mb)) : PE X (.BinOp a (binOp op) b pos) (rdE X.K A Wx fun σ => Ma σ >>= fun x => Mb σ >>= fun y => LL.binop op x y) :=
  pe_imp (pe_op (or_bin (A := A) op) ha hb) fun _ _ _ h => (Run.bind h).mp fun _ _ h1 => (Run1.bind h1).mp fun _ _ h2 => h2.r2
theorem re_neg (ha : PE X a (rdE X.K A Wx Ma)) : PE X (.UnaryOp .USub a pos) (rdE X.K A Wx fun σ => Ma σ >>= fun x => x.isI >>= fun i => LL.Rv.val (.int (-i))) :=
  pe_imp (pe_un (or_neg (A := A)) ha) fun _ _ _ h => (Run.bind h).mp fun _ _ h1 => h1.r1
theorem re_cmp (hu : X.A.units + 64 < cLine) (op : LL.COp) (hm : behindInMarks (cmpOp op) b = false) (ha : PE X a (rdE X.K A Wx Ma)) (hb : PE X b (rdE X.K A Wx Mb)) : PE X (.Compare a [cmpOp op] [b] pos) (rdE X.K A Wx fun σ => Ma σ >>= fun x => Mb σ >>= fun y => cmpV op x y) :=
  pe_imp (pe_cmpR (or_cmp (A := A) hu op) ha hb hm) fun _ _ _ h => (Run.bind h).mp fun _ _ h1 => (Run1.bind h1).mp fun _ _ h2 => h2.r2
theorem chain_go {K : PySem.W.Frag} {op op' : LL.COp} {σV : L2.St} {H : Hp} {Q : VK} {v w : V} (h : Run2 K A Wx v w (fun σ x y => LL.cmpop op x y >>= fun r => if r then Mc σ >>= fun z => cmpV op' y z else LL.Rv.val (.bl false)) (PV K Q) σV H) :
    R2of K A (cmpV op) v w H fun z H3 => ∃ k, z = .bl k ∧ (if k = true then rdE K A Wx Mc σV H3 fun w' H4 => R2of K A (cmpV op') w w' H4 Q else Q (.bl false) H3) := by
  obtain ⟨F, G, ρ, ω, S, σ, x, y, m, e, hx, hy, aft⟩ := h
  refine ⟨A.at F, WC A Wx σV, G, ρ, ω, S, x, y, m, hx, hy, ?_⟩
  have aft1 := Aft.bind aft
  have key : Aft K (A.at F) ρ (WC A Wx σV) G ω (fun r S' G' ω' H' => ∀ z, RepR K (A.at F) G' ρ ω' H' r z → ∃ k, z = .bl k ∧ (if k = true then rdE K A Wx Mc σV H' fun w' H4 => R2of K A (cmpV op') w w' H4 Q else Q (.bl false) H')) ((LL.cmpop op x y >>= fun r => LL.Rv.val (.bl r)) S) := by
    rw [M_bind]
    cases hm : LL.cmpop op x y S with
    | bad => rw [hm] at aft1; exact aft1
    | exc c S' => rw [hm] at aft1; exact aft1
    | ok b S' =>
      rw [hm] at aft1
      intro G' ω' H' eG p m' z rz
      cases rz
      have k := aft1 G' ω' H' eG p m'
      refine ⟨b, rfl, ?_⟩
      cases b with
      | false =>
        rw [if_neg (by simp)] at k ⊢
        exact AftV.val k m' (.bl _)
      | true =>
        rw [if_pos rfl] at k ⊢
        have h2 : Run1 K A Wx w (fun σ y => Mc σ >>= fun z => cmpV op' y z) (PV K Q) σV H' := ⟨F, G', ρ, ω', S', σ, y, m', e.mono eG List.prefix_rfl p, hy.mono eG List.prefix_rfl p, k⟩
        exact (Run1.bind h2).mp fun _ _ h3 => h3.r2
  exact key
def cmp2M (op op' : LL.COp) (Ma Mb Mc : LL.Env → LL.M LL.Rv) : LL.Env → LL.M LL.Rv := fun σ => Ma σ >>= fun x => Mb σ >>= fun y => LL.cmpop op x y >>= fun r => if r then Mc σ >>= fun z => cmpV op' y z else LL.Rv.val (.bl false)
theorem re_cmp2 (hu : X.A.units + 64 < cLine) (op op' : LL.COp) (hm : lastMarks [cmpOp op, cmpOp op'] [b, c] = false) (ha : PE X a (rdE X.K A Wx Ma)) (hb : PE X b (rdE X.K A Wx Mb)) (hc : PE X c (rdE X.K A Wx Mc)) :
    PE X (.Compare a [cmpOp op, cmpOp op'] [b, c] pos) (rdE X.K A Wx (cmp2M op op' Ma Mb Mc)) :=
  pe_imp (pe_chain (or_cmp (A := A) hu op) (or_cmp (A := A) hu op') ha hb hc hm) fun _ _ _ h => (Run.bind h).mp fun _ _ h1 => (Run1.bind h1).mp fun _ _ h2 => chain_go h2
theorem re_one {op} (ha : PE X a (rdE X.K A Wx Ma)) : PE X (.BoolOp op [a] pos) (rdE X.K A Wx Ma) := pe_one ha
def andM (Ma Mb : LL.Env → LL.M LL.Rv) : LL.Env → LL.M LL.Rv := fun σ => Ma σ >>= fun x => x.isB >>= fun r => if r then Mb σ else LL.Rv.val (.bl false)
def orM (Ma Mb : LL.Env → LL.M LL.Rv) : LL.Env → LL.M LL.Rv := fun σ => Ma σ >>= fun x => x.isB >>= fun r => if r then LL.Rv.val (.bl true) else Mb σ
theorem re_and {rest : List Expr} (ha : PE X a (rdE X.K A Wx Ma)) (hb : PE X (.BoolOp .And (b :: rest) pos) (rdE X.K A Wx Mb)) : PE X (.BoolOp .And (a :: b :: rest) pos) (rdE X.K A Wx (andM Ma Mb)) := by
  refine pe_imp (pe_and ha hb) fun σV H Q h => (Run.bind h).mp fun v H1 h1 => ?_
  obtain ⟨k, rfl, h2⟩ := h1.isB
  refine ⟨k, rfl, ?_⟩
  cases k with
  | true => rw [if_pos rfl]; exact h2
  | false => rw [if_neg (by simp)]; exact Run.val h2 fun _ _ _ _ => .bl _
theorem re_or {rest : List Expr} (ha : PE X a (rdE X.K A Wx Ma)) (hb : PE X (.BoolOp .Or (b :: rest) pos) (rdE X.K A Wx Mb)) : PE X (.BoolOp .Or (a :: b :: rest) pos) (rdE X.K A Wx (orM Ma Mb)) := by
  refine pe_imp (pe_or ha hb) fun σV H Q h => (Run.bind h).mp fun v H1 h1 => ?_
  obtain ⟨k, rfl, h2⟩ := h1.isB
  refine ⟨k, rfl, ?_⟩
  cases k with
  | true => rw [if_pos rfl]; exact Run.val h2 fun _ _ _ _ => .bl _
  | false => rw [if_neg (by simp)]; exact h2
theorem re_not (ha : PE X a (rdE X.K A Wx Ma)) : PE X (.UnaryOp .Not a pos) (rdE X.K A Wx fun σ => Ma σ >>= fun x => x.isB >>= fun r => LL.Rv.val (.bl (!r))) := by
  refine pe_imp (pe_not ha) fun σV H Q h => (Run.bind h).mp fun v H1 h1 => ?_
  obtain ⟨k, rfl, h2⟩ := h1.isB
  exact ⟨k, rfl, Run.val h2 fun _ _ _ _ => .bl _⟩
/-! ### tests -/
variable {Mt Mu : LL.Env → LL.M Bool} {β : Type}
def valT (Ma : LL.Env → LL.M LL.Rv) : LL.Env → LL.M Bool := fun σ => Ma σ >>= fun x => LL.truth x
theorem rt_val (ha : PE X a (rdE X.K A Wx Ma)) (he : ∀ whole, isTrue a X.env whole = (do let v ← whole; standAt a.pos; holding [v] (truthy v))) : PT X a (rdT X.K A Wx (valT Ma)) :=
  pt_imp (pt_truth ha he) fun _ _ _ h => (Run.bind h).mp fun _ _ h1 => truV_of h1.rt
theorem cmpV_truth {K : PySem.W.Frag} {op : LL.COp} {σV : L2.St} {H : Hp} {Q : Bool → Hp → Prop} {v w : V} (h : Run2 K A Wx v w (fun σ x y => cmpV op x y >>= fun z => LL.truth z) (PB Q) σV H) : R2of K A (cmpV op) v w H fun z H' => ∃ k, z = .bl k ∧ Q k H' := by
  obtain ⟨F, G, ρ, ω, S, σ, x, y, m, e, hx, hy, aft⟩ := h
  refine ⟨A.at F, WC A Wx σV, G, ρ, ω, S, x, y, m, hx, hy, ?_⟩
  have aft1 := Aft.bind (Aft.bind aft)
  have key : Aft K (A.at F) ρ (WC A Wx σV) G ω (fun r S' G' ω' H' => ∀ z, RepR K (A.at F) G' ρ ω' H' r z → ∃ k, z = .bl k ∧ Q k H') ((LL.cmpop op x y >>= fun r => LL.Rv.val (.bl r)) S) := by
    rw [M_bind]
    cases hm : LL.cmpop op x y S with
    | bad => rw [hm] at aft1; exact aft1
    | exc c S' => rw [hm] at aft1; exact aft1
    | ok b S' =>
      rw [hm] at aft1
      intro G' ω' H' eG p m' z rz
      cases rz
      have k := aft1 G' ω' H' eG p m' G' ω' H' (Ext.refl G') List.prefix_rfl m'
      exact ⟨b, rfl, k G' ω' H' (Ext.refl G') List.prefix_rfl m'⟩
  exact key
theorem rt_cmp (hu : X.A.units + 64 < cLine) (op : LL.COp) (hm : behindInMarks (cmpOp op) b = false) (ha : PE X a (rdE X.K A Wx Ma)) (hb : PE X b (rdE X.K A Wx Mb)) : PT X (.Compare a [cmpOp op] [b] pos) (rdT X.K A Wx (valT fun σ => Ma σ >>= fun x => Mb σ >>= fun y => cmpV op x y)) := by
  refine pt_imp (pt_cmpR (or_cmp (A := A) hu op) ha hb hm) fun σV H Q h => ?_
  have e : (valT fun σ => Ma σ >>= fun x => Mb σ >>= fun y => cmpV op x y) = fun σ => Ma σ >>= fun x => Mb σ >>= fun y => cmpV op x y >>= fun z => LL.truth z := by
    funext σ
    show ((Ma σ >>= fun x => Mb σ >>= fun y => cmpV op x y) >>= fun x => LL.truth x) = _
    rw [M_assoc]; congr 1; funext x; rw [M_assoc]
  rw [e] at h
  exact (Run.bind h).mp fun _ _ h1 => (Run1.bind h1).mp fun _ _ h2 => cmpV_truth h2
end
end LLS

set_option Elab.async false
set_option linter.all false
set_option autoImplicit false
set_option maxRecDepth 100000
set_option maxHeartbeats 4000000
namespace LLS
open PySem PySem.Spec PyProof.Rows L2 PySem.SeqAt
section
variable {K : PySem.W.Frag} {A : Ad} {ρ : List Addr} {W : WA} {G : Hp} {ω : List Addr} {β : Type}
theorem Aft.trees {f : List LL.T → LL.M β} {S : LL.Sto} {k : β → LL.Sto → Hp → List Addr → Hp → Prop} : ∀ {rs : List LL.Rv} {vs : List V} {f : List LL.T → LL.M β}, Aft K A ρ W G ω k ((LL.treesOf rs >>= f) S) → Holds K A G ρ ω rs vs → ∃ ts, Reps K A G ω ts vs ∧ Aft K A ρ W G ω k (f ts S)
  | [], _, f, h, r => by cases r; exact ⟨[], .nil, h⟩
  | x :: rs, _, f, h, r => by
    cases r with
    | cons h1 r =>
      unfold LL.treesOf at h
      rw [M_assoc] at h
      obtain ⟨t, et, h2⟩ := Aft.tree h
      rw [M_assoc] at h2
      obtain ⟨ts, r2, h3⟩ := Aft.trees (f := f) h2 r
      exact ⟨t :: ts, .cons (hold_tree h1 et) r2, h3⟩
end
/-- a def's promise, by what the evaluator does -/
def spOf (K : PySem.W.Frag) (A : Ad) (call : List LL.W → LL.M LL.Rv) : Sp := fun vs H Q E =>
  ∃ F G ρ ω S ws, MS K (A.at F) G ρ ω S H ∧ RepWs K (A.at F) G ρ ω ws vs ∧ Aft K (A.at F) ρ (fun c H => ∀ C, A.exc c = some C → E (.ref C) none H) G ω (PV K Q (A.at F) ρ) (call ws S)
def biN : LL.Bi → Str
  | .len => "len" | .all => "all" | .any => "any" | .max => "max" | .int => "int" | .str => "str" | .bool => "bool" | .tuple => "tuple" | .list => "list" | .sorted => "sorted"
theorem boot_bi (b : LL.Bi) : bootBuiltins (biN b) = some (biV b) ∧ biN b ≠ ("__name__" : Str) ∧ (biN b == ("__debug__" : Str)) = false := by
  cases b <;> (refine ⟨?_, ?_, ?_⟩ <;> decide +kernel)
def tyN (t : LL.Ty) : Str := tyS t
theorem boot_ty (t : LL.Ty) : bootBuiltins (tyN t) = some (.type (tyS t)) ∧ tyN t ≠ ("__name__" : Str) ∧ (tyN t == ("__debug__" : Str)) = false := by
  cases t <;> (refine ⟨?_, ?_, ?_⟩ <;> decide +kernel)
section
variable {X : Cx} {A : Ad} {Wx : WX} {a b c : Expr} {Ma Mb Mc : LL.Env → LL.M LL.Rv} {Mt Mu : LL.Env → LL.M Bool} {pos : Pos} {β : Type} {es : List Expr} {Mes : LL.Env → LL.M (List LL.Rv)}
/-! ### tests -/
theorem rt_one {op} (ha : PT X a (rdT X.K A Wx Mt)) : PW X (.BoolOp op [a] pos) (rdT X.K A Wx Mt) := by
  cases op
  · exact pw_and1 ha
  · exact pw_or1 ha
def tandM (Mt Mu : LL.Env → LL.M Bool) : LL.Env → LL.M Bool := fun σ => Mt σ >>= fun r => if r then Mu σ else LL.M.pure false
def torM (Mt Mu : LL.Env → LL.M Bool) : LL.Env → LL.M Bool := fun σ => Mt σ >>= fun r => if r then LL.M.pure true else Mu σ
theorem Run.pureB {k : Bool} {σV : L2.St} {H : Hp} {Q : Bool → Hp → Prop} (h : Run X.K A Wx (fun _ => LL.M.pure k) (PB Q) σV H) : Q k H := by
  obtain ⟨F, G, ρ, ω, S, m, q⟩ := h.pure
  exact q
theorem rt_and {rest : List Expr} (ha : PT X a (rdT X.K A Wx Mt)) (hb : PW X (.BoolOp .And (b :: rest) pos) (rdT X.K A Wx Mu)) : PW X (.BoolOp .And (a :: b :: rest) pos) (rdT X.K A Wx (tandM Mt Mu)) := by
  refine pw_imp (pw_and ha hb) fun σV H Q h => (Run.bindB h).mp fun k H1 h1 => ?_
  cases k with
  | true => rw [if_pos rfl]; exact h1
  | false => rw [if_neg (by simp)]; exact h1.pureB
theorem rt_or {rest : List Expr} (ha : PT X a (rdT X.K A Wx Mt)) (hb : PW X (.BoolOp .Or (b :: rest) pos) (rdT X.K A Wx Mu)) : PW X (.BoolOp .Or (a :: b :: rest) pos) (rdT X.K A Wx (torM Mt Mu)) := by
  refine pw_imp (pw_or ha hb) fun σV H Q h => (Run.bindB h).mp fun k H1 h1 => ?_
  cases k with
  | true => rw [if_pos rfl]; exact h1.pureB
  | false => rw [if_neg (by simp)]; exact h1
theorem rt_not (ha : PT X a (rdT X.K A Wx Mt)) : PT X (.UnaryOp .Not a pos) (rdT X.K A Wx fun σ => Mt σ >>= fun r => LL.M.pure (!r)) :=
  pt_imp (pt_not ha) fun σV H Q h => (Run.bindB h).mp fun k H1 h1 => h1.pureB
theorem rt_cmp2 (hu : X.A.units + 64 < cLine) (op op' : LL.COp) (hm : lastMarks [cmpOp op, cmpOp op'] [b, c] = false) (ha : PE X a (rdE X.K A Wx Ma)) (hb : PE X b (rdE X.K A Wx Mb)) (hc : PE X c (rdE X.K A Wx Mc)) :
    PT X (.Compare a [cmpOp op, cmpOp op'] [b, c] pos) (rdT X.K A Wx (valT (cmp2M op op' Ma Mb Mc))) := by
  refine pt_imp (pt_chain (or_cmp (A := A) hu op) (or_cmp (A := A) hu op') ha hb hc hm) fun σV H Q h => ?_
  have h0 : rdE X.K A Wx (cmp2M op op' Ma Mb Mc) σV H (fun z H' => ∃ k, z = .bl k ∧ Q k H') := by
    obtain ⟨F, G, ρ, ω, S, σ, m, e, aft⟩ := h
    refine ⟨F, G, ρ, ω, S, σ, m, e, ?_⟩
    have aft1 := Aft.bind aft
    cases hm : cmp2M op op' Ma Mb Mc σ S with
    | bad => rw [hm] at aft1; exact aft1
    | exc c S' => rw [hm] at aft1; exact aft1
    | ok r S' =>
      have hb : ∃ k, r = .v (.bl k) := by
        unfold cmp2M at hm
        simp only [M_bind] at hm
        split at hm <;> try cases hm
        split at hm <;> try cases hm
        split at hm <;> try cases hm
        split at hm
        · rw [M_bind] at hm
          split at hm <;> try cases hm
          unfold cmpV at hm
          rw [M_bind] at hm
          split at hm <;> try cases hm
          exact ⟨_, rfl⟩
        · cases hm; exact ⟨_, rfl⟩
      obtain ⟨k, rfl⟩ := hb
      rw [hm] at aft1
      intro G' ω' H' eG p m' z rz
      cases rz
      have q := aft1 G' ω' H' eG p m' G' ω' H' (Ext.refl G') List.prefix_rfl m'
      exact ⟨k, rfl, q⟩
  exact (Run.bind h0).mp fun _ _ h1 => (Run1.bind h1).mp fun _ _ h2 => chain_go h2
/-! ### one of two -/
def iteM (Mt : LL.Env → LL.M Bool) (Ma Mb : LL.Env → LL.M β) : LL.Env → LL.M β := fun σ => Mt σ >>= fun r => if r then Ma σ else Mb σ
theorem re_ite (hc : PT X c (rdT X.K A Wx Mt)) (ha : PE X a (rdE X.K A Wx Ma)) (hb : PE X b (rdE X.K A Wx Mb)) : PE X (.IfExp c a b pos) (rdE X.K A Wx (iteM Mt Ma Mb)) := by
  refine pe_imp (pe_ifExp hc ha hb) fun σV H Q h => (Run.bindB h).mp fun k H1 h1 => ?_
  cases k with
  | true => rw [if_pos rfl]; exact h1
  | false => rw [if_neg (by simp)]; exact h1
/-! ### several -/
theorem ra_nil : PA X [] (rdA X.K A Wx fun _ => LL.M.pure []) := by
  refine pa_imp pa_nil fun σV H Q h => ?_
  obtain ⟨F, G, ρ, ω, S, σ, m, e, aft⟩ := h
  exact aft G ω H (Ext.refl G) List.prefix_rfl m _ .nil
def consM (Ma : LL.Env → LL.M LL.Rv) (Mes : LL.Env → LL.M (List LL.Rv)) : LL.Env → LL.M (List LL.Rv) := fun σ => Ma σ >>= fun x => Mes σ >>= fun ts => LL.M.pure (x :: ts)
theorem ra_cons (ha : PE X a (rdE X.K A Wx Ma)) (hes : PA X es (rdA X.K A Wx Mes)) (hs : starEach (a :: es) X.env = (false, eval a X.env) :: starEach es X.env) : PA X (a :: es) (rdA X.K A Wx (consM Ma Mes)) := by
  refine pa_imp (pa_cons ha hes hs) fun σV H Q h => (Run.bind h).mp fun v H1 h1 => (Run1.bindL h1).mp fun vs H2 h2 => ?_
  obtain ⟨F, G, ρ, ω, S, σ, xs, m, e, hx, aft⟩ := h2
  cases hx with
  | cons h1 h2 => exact aft G ω H2 (Ext.refl G) List.prefix_rfl m _ (.cons h1 h2)
theorem re_tup {x1} (h : PA X es (rdA X.K A Wx Mes)) : PE X (.Tuple es x1 pos) (rdE X.K A Wx fun σ => Mes σ >>= LL.tupOf) := by
  refine pe_imp (pe_tup h) fun σV H Q h => (Run.bindL h).mp fun vs H1 h1 => ?_
  obtain ⟨F, G, ρ, ω, S, σ, xs, m, e, hx, aft⟩ := h1
  obtain ⟨ts, r, aft1⟩ := Aft.trees (f := fun xs => LL.M.guard (decide (xs.length ≤ LL.SZ)) >>= fun _ => LL.Rv.val (.tup xs)) aft hx
  obtain ⟨g, aft2⟩ := Aft.guard aft1
  exact ⟨by rw [← r.length, sz_eq]; exact of_decide_eq_true g, fun p hp => AftV.tup aft2 m r hp⟩
theorem re_lst (h : PA X es (rdA X.K A Wx Mes)) : PE X (.List es pos) (rdE X.K A Wx fun σ => Mes σ >>= LL.lstOf) := by
  refine pe_imp (pe_lst h) fun σV H Q h => (Run.bindL h).mp fun vs H1 h1 => ?_
  obtain ⟨F, G, ρ, ω, S, σ, xs, m, e, hx, aft⟩ := h1
  obtain ⟨ts, r, aft1⟩ := Aft.trees (f := fun xs => LL.M.guard (decide (xs.length ≤ LL.SZ)) >>= fun _ => LL.M.pure (LL.Rv.new xs)) aft hx
  obtain ⟨g, aft2⟩ := Aft.guard aft1
  exact ⟨by rw [← r.length, sz_eq]; exact of_decide_eq_true g, fun p hp => AftV.new aft2 m r hp⟩
/-! ### calls -/
theorem re_call {k : Nat} {f : Addr} {fd : FuncData} {ps : List Str} {x : Str} {p : Pos} {e : Expr} {call : List LL.W → LL.M LL.Rv} (tk : Takes X Wx) (F : FnOk X.prog X.w X.K X.mg X.base (L2.CX X.prog X.w) k f fd ps (spOf X.K A call)) (hr : Room k X.A)
    (hg : Gl X x) (hm : X.mg x = some (.ref f)) (hk : PySem.W.keepIn X.K (.ref f) = true) (hb : Binds X.K fd ps []) (h : PA X (e :: es) (rdA X.K A Wx Mes)) (hdb : (x == ("__debug__" : Str)) = false)
    (he : starEach (e :: es) X.env = (false, eval e X.env) :: starEach es X.env) (hpl : (backTo pos (starEach es X.env)).any (·.1) = false) :
    PE X (.Call (.Name x p) (e :: es) [] pos) (rdE X.K A Wx fun σ => Mes σ >>= fun rs => call (rs.map LL.Rv.w)) := by
  refine pe_imp (pe_callS (E := WE Wx) F hr hg hm hk hb (fun σ => passAt tk σ) h hdb he hpl) fun σV H Q h => (Run.bindL h).mp fun vs H1 h1 => ?_
  obtain ⟨F, G, ρ, ω, S, σ, xs, m, e, hx, aft⟩ := h1
  exact ⟨F, G, ρ, ω, S, _, m, hx.ws, aft⟩
theorem re_bi (bi : LL.Bi) {p : Pos} {e : Expr} (hc : X.calm = true) (hg : Gl X (biN bi)) (hm : X.mg (biN bi) = none) (h : PA X (e :: es) (rdA X.K A Wx Mes))
    (he : starEach (e :: es) X.env = (false, eval e X.env) :: starEach es X.env) (hpl : (backTo pos (starEach es X.env)).any (·.1) = false) :
    PE X (.Call (.Name (biN bi) p) (e :: es) [] pos) (rdE X.K A Wx fun σ => Mes σ >>= fun rs => LL.bi bi rs) := by
  obtain ⟨b1, b2, b3⟩ := boot_bi bi
  have key : PE X (.Call (.Name (biN bi) p) (e :: es) [] pos) (tCB (RLof X.K A (LL.bi bi)) (rdA X.K A Wx Mes)) := by
    have c := cr_bi (X := X) (A := A) hc bi
    cases bi <;> first | exact pe_callB c hg hm b1 h b2 b3 he hpl | exact pe_callTy c hg hm b1 h b2 b3 he hpl
  exact pe_imp key fun σV H Q h => (Run.bindL h).mp fun vs H1 h1 => h1.rl
theorem re_isi (t : LL.Ty) {p p2 : Pos} (hg : Gl X "isinstance") (hm : X.mg "isinstance" = none) (hg2 : Gl X (tyN t)) (hm2 : X.mg (tyN t) = none) (ha : PE X a (rdE X.K A Wx Ma)) (hs : starEach [a, .Name (tyN t) p2] X.env = (false, eval a X.env) :: starEach [.Name (tyN t) p2] X.env) :
    PE X (.Call (.Name "isinstance" p) [a, .Name (tyN t) p2] [] pos) (rdE X.K A Wx fun σ => Ma σ >>= fun x => LL.isiRv t x >>= fun r => LL.Rv.val (.bl r)) := by
  obtain ⟨b1, b2, b3⟩ := boot_ty t
  have h2 : PE X (.Name (tyN t) p2) (tC (.ty (tyS t))) := pe_bltn hg2 hm2 b1 (show RelV (.ty (tyS t)) (.type (tyS t)) from rfl) b2 b3
  refine pe_imp (pe_callB (cr_isT (A := A) t) hg hm boot_isinstance (pa_cons ha (pa_cons h2 pa_nil) hs) (by decide) (by decide) hs (by rfl)) fun σV H Q h => (Run.bind h).mp fun v H1 h1 => ?_
  exact ⟨v, rfl, h1.r1⟩
def meN : LL.Me → String
  | .find => "find" | .count => "count" | .startswith => "startswith" | .endswith => "endswith" | .join => "join" | .append => "append" | .insert => "insert" | .pop0 => "pop" | _ => ""
def meOk : LL.Me → Bool
  | .find => true | .count => true | .startswith => true | .endswith => true | .join => true | .append => true | .insert => true | .pop0 => true | _ => false
def meT : LL.Me → String
  | .append => "list" | .insert => "list" | .pop0 => "list" | .pop => "list" | _ => "str"
def meM (m : LL.Me) (Ma : LL.Env → LL.M LL.Rv) (Mes : LL.Env → LL.M (List LL.Rv)) : LL.Env → LL.M LL.Rv := fun σ => Ma σ >>= fun x => LL.M.guard (LL.meTy m x) >>= fun _ => Mes σ >>= fun rs => LL.meRv m x rs
theorem meTy_tyV {K : PySem.W.Frag} {A : Ad} {G : Hp} {ρ ω : List Addr} {S : LL.Sto} {H : Hp} (ms : MS K A G ρ ω S H) {m : LL.Me} {x : LL.Rv} {v : V} (hx : Hold K A G ρ ω x v) (g : LL.meTy m x = true) : tyV K (meT m) v H := by
  have l : ∀ n, x = .l n → (∃ a ws, v = .ref a ∧ H a = some (.lst ws)) := by
    rintro n rfl
    have hx' := hx
    obtain ⟨a, h1, rfl⟩ := hx'
    have hl : n < S.L.length := by rw [← ms.ln]; exact (List.getElem?_eq_some_iff.mp h1).1
    obtain ⟨_, b, ws, e, _, hH, _⟩ := hold_l ms hx (List.getElem?_eq_getElem hl)
    exact ⟨b, ws, e, hH⟩
  have s : ∀ z, x = .v (.str z) → v = .str (toS z) := by
    rintro z rfl
    cases hx; rfl
  cases m <;> simp only [LL.meTy] at g <;> split at g <;>
    first
      | (rename_i n; obtain ⟨a, ws, rfl, hH⟩ := l _ rfl; exact .inl ⟨rfl, ws, SqL.of hH⟩)
      | (have := s _ rfl; subst this; rfl)
      | cases g
theorem me_go {r : V → List V → Hp → VK → Prop} {m : LL.Me} {e : Expr} (hr : ∀ v vs H Q, RMof X.K A (LL.meRv m) v vs H Q → r v vs H Q) (key : PE X e (tBM X.K (meT m) r (rdE X.K A Wx Ma) (rdA X.K A Wx Mes))) : PE X e (rdE X.K A Wx (meM m Ma Mes)) := by
  refine pe_imp key fun σV H Q h => (Run.bind h).mp fun v H1 h1 => ?_
  obtain ⟨F, G, ρ, ω, S, σ, x, ms, e, hx, aft⟩ := h1
  obtain ⟨g, aft1⟩ := Aft.guard aft
  refine ⟨meTy_tyV ms hx g, ?_⟩
  have h2 : Run1 X.K A Wx v (fun σ x => Mes σ >>= fun rs => LL.meRv m x rs) (PV X.K Q) σV H1 := ⟨F, G, ρ, ω, S, σ, x, ms, e, hx, aft1⟩
  exact (Run1.bindL h2).mp fun vs H2 h3 => hr _ _ _ _ h3.rm
theorem re_me (m : LL.Me) (ok : meOk m = true) {o e : Expr} {apos : Pos} (ho : PE X o (rdE X.K A Wx Ma)) (h : PA X (e :: es) (rdA X.K A Wx Mes)) (hbase : attributeBase o (meN m : Str) X.env (eval o X.env) = eval o X.env)
    (hfew : ((backTo pos (starEach (e :: es) X.env)).all (fun x => !x.1) && (backToKw pos (keywordEach [] X.env)).all (fun x => x.1.isSome) && decide ((e :: es).length + ([] : List Keyword).length + (if ([] : List Keyword).isEmpty then 0 else 1) < 30)) = true)
    (hline : (apos.endLine == pos.line) = true) (hs : starEach (e :: es) X.env = (false, eval e X.env) :: starEach es X.env) (hplain : (backTo pos (starEach es X.env)).any (·.1) = false) :
    PE X (.Call (.Attribute o (meN m : Str) apos) (e :: es) [] pos) (rdE X.K A Wx (meM m Ma Mes)) := by
  cases m <;> first | exact absurd ok (by decide) | skip
  · exact me_go (fun _ _ _ _ h => h) (pe_bm F.plainAttrs_str F.slot_str_find F.type_str_find (mr_find (A := A)) ho h hbase hfew hline hs hplain)
  · exact me_go (fun _ _ _ _ h => h) (pe_bm F.plainAttrs_str F.slot_str_count F.type_str_count (mr_count (A := A)) ho h hbase hfew hline hs hplain)
  · exact me_go (fun _ _ _ _ h => h) (pe_bm F.plainAttrs_str F.slot_str_startswith F.type_str_startswith (mr_starts (A := A)) ho h hbase hfew hline hs hplain)
  · exact me_go (fun _ _ _ _ h => h) (pe_bm F.plainAttrs_str F.slot_str_endswith F.type_str_endswith (mr_ends (A := A)) ho h hbase hfew hline hs hplain)
  · exact me_go (fun _ _ _ _ h => h) (pe_bm F.plainAttrs_str F.slot_str_join F.type_str_join (mr_join (A := A)) ho h hbase hfew hline hs hplain)
  · exact me_go (fun _ _ _ _ h => h) (pe_bm F.plainAttrs_list F.slot_list_append F.type_list_append (mr_append (A := A)) ho h hbase hfew hline hs hplain)
  · exact me_go (fun _ _ _ _ h => h) (pe_bm F.plainAttrs_list F.slot_list_insert F.type_list_insert (mr_insert (A := A)) ho h hbase hfew hline hs hplain)
  · exact me_go (fun _ _ _ _ h => h) (pe_bm F.plainAttrs_list F.slot_list_pop F.type_list_pop (mr_pop0 (A := A)) ho h hbase hfew hline hs hplain)
/-! ### places, slices -/
theorem re_ix (hs : PlainIx b) (ha : PE X a (rdE X.K A Wx Ma)) (hb : PE X b (rdE X.K A Wx Mb)) : PE X (.Subscript a b pos) (rdE X.K A Wx fun σ => Ma σ >>= fun x => Mb σ >>= fun y => LL.ixRv x y) :=
  pe_imp (pe_ix (ir_ix (A := A)) ha hb hs) fun _ _ _ h => (Run.bind h).mp fun _ _ h1 => (Run1.bind h1).mp fun _ _ h2 => h2.r2
theorem ro_no : PO X none (rdO X.K A Wx fun _ => LL.M.pure none) := by
  refine po_imp po_none fun σV H Q h => ?_
  obtain ⟨F, G, ρ, ω, S, m, q⟩ := h.pure
  exact q
theorem ro_yes (ha : PE X a (rdE X.K A Wx Ma)) : PO X (some a) (rdO X.K A Wx fun σ => Ma σ >>= fun x => x.isI >>= fun i => LL.M.pure (some i)) := by
  refine po_imp (po_some ha) fun σV H Q h => (Run.bind h).mp fun v H1 h1 => ?_
  obtain ⟨i, rfl, h2⟩ := h1.isI
  obtain ⟨F, G, ρ, ω, S, m, q⟩ := h2.pure
  exact ⟨i, rfl, q⟩
theorem re_sl {lo hi : Option Expr} {Ml Mh : LL.Env → LL.M (Option Int)} {p2 : Pos} (ha : PE X a (rdE X.K A Wx Ma)) (hl : PO X lo (rdO X.K A Wx Ml)) (hh : PO X hi (rdO X.K A Wx Mh)) :
    PE X (.Subscript a (.Slice lo hi none p2) pos) (rdE X.K A Wx fun σ => Ma σ >>= fun x => Ml σ >>= fun l => Mh σ >>= fun h => LL.slRv x l h) := by
  refine pe_imp (pe_slice (sl_T (A := A)) ha hl hh) fun σV H Q h => (Run.bind h).mp fun v H1 h1 => (Run1.bindO h1).mp fun l H2 h2 => (Run1.bindO h2).mp fun u H3 h3 => ?_
  obtain ⟨F, G, ρ, ω, S, σ, x, m, e, hx, aft⟩ := h3
  exact ⟨A.at F, WC A Wx σV, G, ρ, ω, S, x, m, hx, aft⟩
theorem re_rev {k : Nat} {p1 p2 p3 : Pos} (ha : PE X a (rdE X.K A Wx Ma)) : PE X (.Subscript a (.Slice none none (some (.UnaryOp .USub (.Constant (.int 1) k p1) p2)) p3) pos) (rdE X.K A Wx fun σ => Ma σ >>= fun x => LL.revRv x) := by
  refine pe_imp (pe_revL ha) fun σV H Q h => (Run.bind h).mp fun v H1 h1 => ?_
  obtain ⟨F, G, ρ, ω, S, σ, x, m, e, hx, aft⟩ := h1
  obtain ⟨xs, e, aft1⟩ := Aft.lst aft
  obtain ⟨a, ws, rfl, hs, r⟩ := hold_lst m hx e
  exact ⟨a, ws, rfl, SqL.of hs, fun p hp => AftV.new aft1 m r.reverse hp⟩
end
end LLS

set_option Elab.async false
set_option linter.all false
set_option autoImplicit false
set_option maxRecDepth 100000
set_option maxHeartbeats 4000000
namespace LLS
open PySem PySem.Spec PyProof.Rows L2 PySem.SeqAt

/-! ### what is walked -/
inductive SK where
  | l (a : Addr)
  | t (a : Addr)
  | s (x : Str)
def SK.v : SK → V
  | .l a => .ref a
  | .t a => .ref a
  | .s x => .str x
def signsV (x : Str) : List V := x.cps.toList.map fun c => V.str ⟨#[c]⟩
def SK.has (K : PySem.W.Frag) (H : Hp) : SK → List V → Prop
  | .l a, xs => SqL K H a xs
  | .t a, xs => SqT K H a xs
  | .s x, xs => xs = signsV x
def SK.it (K : PySem.W.Frag) : SK → It
  | .l a => Itl K a
  | .t a => Itt K a
  | .s x => Its x
def SK.st (k : SK) (it : Addr) (i : Nat) (h : Heap) : Prop := match k with
  | .l a => h.IsListIter it a i
  | .t a => h.IsTupleIter it a i
  | .s x => ∃ t, h.IsStrIter it (strIterType x) x t i
def SK.cont : SK → List Addr
  | .l a => [a]
  | .t a => [a]
  | .s _ => []
theorem SK.st_obj {k : SK} {it : Addr} {i : Nat} {h : Heap} (x : k.st it i h) : ∃ o, h.get? it = some o ∧ ∀ v, o.data ≠ .cell v := by
  cases k with
  | l a => obtain ⟨o, e, _, d⟩ := x; exact ⟨o, e, fun v z => by rw [d] at z; cases z⟩
  | t a => obtain ⟨o, e, _, d⟩ := x; exact ⟨o, e, fun v z => by rw [d] at z; cases z⟩
  | s y => obtain ⟨t, o, e, _, d⟩ := x; exact ⟨o, e, fun v z => by rw [d] at z; cases z⟩
theorem SK.st_at {k : SK} {it : Addr} {i : Nat} {h h' : Heap} (x : k.st it i h) (e : ∀ o, h.get? it = some o → h'.get? it = some o) : k.st it i h' := by
  cases k with
  | l a => obtain ⟨o, q, r⟩ := x; exact ⟨o, e _ q, r⟩
  | t a => obtain ⟨o, q, r⟩ := x; exact ⟨o, e _ q, r⟩
  | s y => obtain ⟨t, o, q, r⟩ := x; exact ⟨t, o, e _ q, r⟩
section
variable {X : Cx} {pins : List (Addr × Obj)} {σ : L2.St} {H : Hp} {s : Shared}
theorem SK.inj (I : Inv X pins σ H s) {k : SK} {xs ys : List V} (h : k.has X.K H xs) (h' : k.has X.K H ys) : xs = ys := by
  cases k with
  | l a => exact I.list_inj h h'
  | t a => exact I.tuple_inj h h'
  | s x => exact h.trans h'.symm
theorem signs_get {x : Str} {i c : Nat} (h : x.cps[i]? = some c) : (signsV x)[i]? = some (.str ⟨#[c]⟩) := by
  unfold signsV
  rw [List.getElem?_map, Array.getElem?_toList, h]; rfl
theorem SK.cont_lt (I : Inv X pins σ H s) {k : SK} {xs : List V} (h : k.has X.K H xs) : ∀ b ∈ k.cont, b < s.heap.objs.size := by
  cases k with
  | l a =>
    obtain ⟨its, rv, p, _⟩ := I.list h
    intro b hb
    have e : b = a := by simpa [SK.cont] using hb
    subst e; exact p.lt
  | t a =>
    obtain ⟨its, rv, p, _⟩ := I.tuple h
    obtain ⟨o1, ho1, _⟩ := id p
    intro b hb
    have e : b = a := by simpa [SK.cont] using hb
    subst e; exact Heap.lt_size ho1
  | s x => intro b hb; simp [SK.cont] at hb
/-- an iterator gives the items one by one -/
theorem SK.draws {A : Around} (hh : A.handled = none) (I : Inv X pins σ H s) {k : SK} {xs : List V} (h : k.has X.K H xs) {it : Addr} (hne : it ∉ k.cont) {i : Nat} (st : k.st it i s.heap) :
    ∃ (P : Nat → Value → Prop) (St : Nat → Heap → Prop), Draws X.prog X.w A it (it :: k.cont) xs.length P St ∧ St i s.heap ∧ (∀ j u x, P j u → xs[j]? = some x → RelV x u) ∧ ∀ j h, St j h → k.st it j h := by
  cases k with
  | l a =>
    obtain ⟨its, rv, p, _⟩ := I.list h
    have hne' : a ≠ it := fun e => hne (by simp [SK.cont, e])
    have D := Draws.list (prog := X.prog) (w := X.w) hh it a hne' its.toArray
    rw [List.size_toArray, ← rv.length] at D
    refine ⟨fun i v => its.toArray[i]? = some v, fun i h => h.IsListIter it a i ∧ h.IsList a its.toArray, D, ⟨st, p.isList⟩, fun j u x hp hx => ?_, fun j h q => q.1⟩
    obtain ⟨u', h1, h2⟩ := rv.get hx
    have hp' : its[j]? = some u := by simpa using hp
    rw [h1] at hp'; cases hp'
    exact h2
  | t a =>
    obtain ⟨its, rv, p, _⟩ := I.tuple h
    have hne' : a ≠ it := fun e => hne (by simp [SK.cont, e])
    have D := Draws.tuple (prog := X.prog) (w := X.w) hh it a hne' its.toArray
    rw [List.size_toArray, ← rv.length] at D
    refine ⟨fun i v => its.toArray[i]? = some v, fun i h => h.IsTupleIter it a i ∧ h.IsTuple a its.toArray, D, ⟨st, p⟩, fun j u x hp hx => ?_, fun j h q => q.1⟩
    obtain ⟨u', h1, h2⟩ := rv.get hx
    have hp' : its[j]? = some u := by simpa using hp
    rw [h1] at hp'; cases hp'
    exact h2
  | s x =>
    obtain ⟨t, st⟩ := st
    have hl : x.cps.size = xs.length := by rw [show xs = signsV x from h]; simp [signsV]
    have D := Draws.text (prog := X.prog) (w := X.w) hh it x t
    rw [hl] at D
    refine ⟨fun i v => ∃ c u, x.cps[i]? = some c ∧ v = .str ⟨#[c]⟩ u, fun i h => h.IsStrIter it (strIterType x) x t i, D, st, fun j u y hp hy => ?_, fun j h q => ⟨t, q⟩⟩
    obtain ⟨c, k, hc, rfl⟩ := hp
    rw [show xs = signsV x from h, signs_get hc] at hy
    cases hy
    exact ⟨k, rfl⟩
theorem SK.begins (I : Inv X pins σ H s) {k : SK} {xs : List V} (h : k.has X.K H xs) {u : Value} (r : RelV k.v u) : ∃ o Hc, Begins u o Hc ∧ Hc s.heap ∧ ∀ h' it, h'.get? it = some o → k.st it 0 h' := by
  cases k with
  | l a =>
    obtain ⟨its, rv, p, _⟩ := I.list h
    cases r
    exact ⟨_, _, begins_list a its.toArray, p.isList, fun h' it e => ⟨_, e, rfl, rfl⟩⟩
  | t a =>
    obtain ⟨its, rv, p, _⟩ := I.tuple h
    cases r
    exact ⟨_, _, begins_tuple a its.toArray, p, fun h' it e => ⟨_, e, rfl, rfl⟩⟩
  | s x =>
    obtain ⟨t, rfl⟩ := r
    exact ⟨_, _, begins_text x t, trivial, fun h' it e => ⟨t, _, e, rfl, rfl⟩⟩
end
/-! ### for x in v -/
section
variable {X : Cx} {tg : Expr}
def iSrc (K : PySem.W.Frag) (te : TE) : TI := fun σ H R => te σ H fun v H1 => ∃ k xs, v = SK.v k ∧ k.has K H1 xs ∧ R (k.it K) H1
theorem pi_src {e : Expr} {te : TE} (he : PE X e te) : PI X tg e (iSrc X.K te) := by
  refine ⟨fun pins s σ H R I h => ?_⟩
  refine thn (he.run pins s σ H _ I h) fun v s1 ⟨x, H1, I1, r1, q1⟩ => ?_
  obtain ⟨k, xs, rfl, hq, q⟩ := q1
  cases k with
  | l a =>
    cases r1
    obtain ⟨its, rv, p, hz⟩ := I1.list hq
    refine wpAny_pyIter_list p.isList ?_
    refine ⟨s1.heap.objs.size, [s1.heap.objs.size], _, _, H1, rfl, I1.kept (t' := s1.toks) fun b o e => Heap.get?_push_of_some _ e, turn_list a _, ⟨_, Heap.get?_push_size _ rfl, rfl, rfl⟩, fun b hb => ?_, q⟩
    have e : b = s1.heap.objs.size := by simpa using hb
    subst e
    exact I1.fpOk (Nat.le_refl _) (I1.hok.fresh (Nat.le_refl _))
  | t a =>
    cases r1
    obtain ⟨its, rv, p, hz⟩ := I1.tuple hq
    refine wpAny_pyIter_tuple (show s1.heap.IsTuple a its.toArray from p) ?_
    refine ⟨s1.heap.objs.size, [s1.heap.objs.size], _, _, H1, rfl, I1.kept (t' := s1.toks) fun b o e => Heap.get?_push_of_some _ e, turn_tuple a _, ⟨_, Heap.get?_push_size _ rfl, rfl, rfl⟩, fun b hb => ?_, q⟩
    have e : b = s1.heap.objs.size := by simpa using hb
    subst e
    exact I1.fpOk (Nat.le_refl _) (I1.hok.fresh (Nat.le_refl _))
  | s x =>
    obtain ⟨t, rfl⟩ := r1
    cases ha : x.cps.all (· < 128)
    · exact wpAny_pyIter_wide ha (pi_one (tk := s1.toks) I1 _ (turn_str _ x t "str_iterator" (.inr rfl)) ⟨_, Heap.get?_push_size _ rfl, rfl, rfl⟩ q)
    · exact wpAny_pyIter_ascii ha (pi_one (tk := s1.toks) I1 _ (turn_str _ x t "str_ascii_iterator" (.inl rfl)) ⟨_, Heap.get?_push_size _ rfl, rfl, rfl⟩ q)
end
/-! ### zip of two -/
def Itz2 (K : PySem.W.Frag) (k1 k2 : SK) : It :=
  ⟨fun i H => ∃ (xs ys : List V) (x y : V), k1.has K H xs ∧ k2.has K H ys ∧ xs[i]? = some x ∧ ys[i]? = some y,
    fun i H v H' => ∃ T x y, v = .ref T ∧ H T = none ∧ H' = upd H T (.tup [x, y]) ∧ (∀ xs, k1.has K H xs → xs[i]? = some x) ∧ ∀ ys, k2.has K H ys → ys[i]? = some y,
    fun i H => ∃ xs ys : List V, k1.has K H xs ∧ k2.has K H ys ∧ i ≤ xs.length ∧ i ≤ ys.length ∧ (i = xs.length ∨ i = ys.length)⟩
theorem turn_zip2 {P : Program} {w : World} {K : PySem.W.Frag} {elts : List Expr} {kk : Nat} {tpos : Pos} {N : Nat} {k1 k2 : SK} (h1 : ∀ b ∈ k1.cont, b < N) (h2 : ∀ b ∈ k2.cont, b < N) :
    Turn P w K (.Tuple elts kk tpos) (Itz2 K k1 k2) [N + 4, N + 2, N + 3, N, N + 1] (N + 4) (fun i h => IsZip h (N + 4) (N + 2) (N + 3) .none ∧ IsTupOf2 h (N + 2) (.ref N) (.ref (N + 1)) ∧ (∃ x y, IsTupOf2 h (N + 3) x y) ∧ k1.st N i h ∧ k2.st (N + 1) i h) where
  mem := by simp
  obj := fun i h st c hc => by
    obtain ⟨hz, hTI, ⟨x, y, hTO⟩, s1, s2⟩ := st
    have e' : c = N + 4 ∨ c = N + 2 ∨ c = N + 3 ∨ c = N ∨ c = N + 1 := by simpa using hc
    rcases e' with q | q | q | q | q
    · rw [q]; exact ⟨_, hz, fun v q => nomatch q⟩
    · rw [q]; exact ⟨_, hTI, fun v q => nomatch q⟩
    · rw [q]; exact ⟨_, hTO, fun v q => nomatch q⟩
    · rw [q]; exact SK.st_obj (k := k1) s1
    · rw [q]; exact SK.st_obj (k := k2) s2
  keep := fun i h h' st k => by
    obtain ⟨hz, hTI, ⟨x, y, hTO⟩, s1, s2⟩ := st
    exact ⟨k (N + 4) (by simp) _ hz, k (N + 2) (by simp) _ hTI, ⟨x, y, k (N + 3) (by simp) _ hTO⟩, SK.st_at (k := k1) s1 fun o q => k N (by simp) o q, SK.st_at (k := k2) s2 fun o q => k (N + 1) (by simp) o q⟩
  item := by
    intro X hP hw hK hc i pins s σ H E I hf st hg
    subst hP hw hK
    obtain ⟨hz, hTI, ⟨x0, y0, hTO⟩, s1, s2⟩ := st
    obtain ⟨xs, ys, x, y, hqx, hqy, hx, hy⟩ := hg
    have hh : X.A.in1.handled = none := I.ok.hd hc
    obtain ⟨P1, St1, D1, t1, r1, u1⟩ := SK.draws hh I hqx (fun z => Nat.lt_irrefl _ (h1 _ z)) s1
    obtain ⟨P2, St2, D2, t2, r2, u2⟩ := SK.draws hh I hqy (fun z => absurd (h2 _ z) (by show ¬ (N + 1 < N); omega)) s2
    have D := zip_sep2 h1 h2
    have hzl : N + 4 < s.heap.objs.size := Heap.lt_size hz
    refine wpAny_pyNext_zipD2_item D D1 D2 hz hTI hTO t1 t2 (List.getElem?_eq_some_iff.mp hx).1 (List.getElem?_eq_some_iff.mp hy).1 fun x1 x2 h' tk p1 p2 z' TO' d1 d2 hT hsz hk => ?_
    refine ⟨_, rfl, wpAny_letOwnedTupleGo_zip (s := { s with heap := h', toks := tk }) z' fun h'' z'' sb => ?_⟩
    have hT2 : h''.get? s.heap.objs.size = some { cls := .type "tuple", data := .seq #[x1, x2] } := (sb.2 _ (Nat.ne_of_gt hzl)).trans hT
    have new : ObjOk X.prog X.w (upd H s.heap.objs.size (.tup [x, y])) h'' s.heap.objs.size (.tup [x, y]) :=
      ⟨by show 2 ≤ sizeLine; decide, [x1, x2], .cons (r1 _ _ _ p1 hx) (.cons (r2 _ _ _ p2 hy) .nil), ⟨_, hT2, rfl, _, rfl⟩⟩
    have I1 : Inv X pins σ (upd H s.heap.objs.size (.tup [x, y])) { s with heap := h'', toks := tk } :=
      I.turnedNew (t' := tk) (ch := [N + 4, N + 2, N + 3, N, N + 1]) (fun c o hb q => (sb.2 c (fun q' => hb (by simp [q']))).trans (hk c o (fun q' => hb (by simp [q'])) (fun q' => hb (by simp [q'])) (fun q' => hb (by simp [q'])) (fun q' => hb (by simp [q'])) q)) hf (Nat.le_refl _) new
    refine ⟨.ref s.heap.objs.size, _, I1, rfl, ⟨_, x, y, rfl, I.hok.fresh (Nat.le_refl _), rfl, fun l hl => by rw [SK.inj I hl hqx]; exact hx, fun l hl => by rw [SK.inj I hl hqy]; exact hy⟩, ⟨z'', ?_, ⟨x1, x2, ?_⟩, ?_, ?_⟩, fun c hcm => ?_⟩
    · exact (sb.2 _ D.TIz).trans (hk _ _ D.TIz D.TITO D.TIi1 D.TIi2 hTI)
    · exact (sb.2 _ D.TOz).trans TO'
    · exact SK.st_at (k := k1) (u1 _ _ d1) fun o q => (sb.2 _ (fun e => D.zi1 e.symm)).trans q
    · exact SK.st_at (k := k2) (u2 _ _ d2) fun o q => (sb.2 _ (fun e => D.zi2 e.symm)).trans q
    · have hlt : c < s.heap.objs.size := by
        have e' : c = N + 4 ∨ c = N + 2 ∨ c = N + 3 ∨ c = N ∨ c = N + 1 := by simpa using hcm
        rcases e' with q | q | q | q | q <;> rw [q]
        · exact hzl
        · exact Heap.lt_size hTI
        · exact Heap.lt_size hTO
        · obtain ⟨_, e1, _⟩ := SK.st_obj (k := k1) s1; exact Heap.lt_size e1
        · obtain ⟨_, e1, _⟩ := SK.st_obj (k := k2) s2; exact Heap.lt_size e1
      rw [upd_ne (Nat.ne_of_lt hlt)]
      exact (hf c hcm).1
  done := by
    intro X hP hw hK hc i pins s σ H E I hf st hg
    subst hP hw hK
    obtain ⟨hz, hTI, ⟨x0, y0, hTO⟩, s1, s2⟩ := st
    obtain ⟨xs, ys, hqx, hqy, l1, l2, hend⟩ := hg
    have hh : X.A.in1.handled = none := I.ok.hd hc
    obtain ⟨P1, St1, D1, t1, r1, u1⟩ := SK.draws hh I hqx (fun z => Nat.lt_irrefl _ (h1 _ z)) s1
    obtain ⟨P2, St2, D2, t2, r2, u2⟩ := SK.draws hh I hqy (fun z => absurd (h2 _ z) (by show ¬ (N + 1 < N); omega)) s2
    exact wpAny_pyNext_zipD2_end (zip_sep2 h1 h2) D1 D2 hz hTI hTO t1 t2 l1 l2 hend fun h' tk hk => ⟨rfl, I.turnedL (t' := tk) (ch := [N + 4, N + 2, N + 3, N, N + 1]) (fun c o hb q =>
      hk c o (fun q' => hb (by simp [q'])) (fun q' => hb (by simp [q'])) (fun q' => hb (by simp [q'])) (fun q' => hb (by simp [q'])) q) hf⟩
  self := fun A i s Q E st h => wpAny_pyIter_zip st.1 h
section
variable {X : Cx}
def iZip2 (K : PySem.W.Frag) (ta : TA) : TI := fun σ H R => ta σ H fun vs H1 => ∃ k1 k2 xs ys, vs = [SK.v k1, SK.v k2] ∧ k1.has K H1 xs ∧ k2.has K H1 ys ∧ R (Itz2 K k1 k2) H1
theorem pi_zip2 {e e2 : Expr} {ta : TA} {p pos tpos : Pos} {elts : List Expr} {kk : Nat} (hg : Gl X "zip") (hm : X.mg "zip" = none) (ha : PA X [e, e2] ta)
    (hs : starEach [e, e2] X.env = (false, eval e X.env) :: starEach [e2] X.env) (hpl : (backTo pos (starEach [e2] X.env)).any (·.1) = false) :
    PI X (.Tuple elts kk tpos) (.Call (.Name "zip" p) [e, e2] [] pos) (iZip2 X.K ta) := by
  refine ⟨fun pins s σ H R I h => ?_⟩
  refine Call_ (ld_blt I hg hm PyProof.Rows.boot_zip (PyProof.Rows.callWith_type1 (thn (ha.run pos pins s σ H _ I h) fun us s1 ⟨vs, H1, I1, r1, q1⟩ => ?_) hs hpl))
  obtain ⟨k1, k2, xs, ys, ex, hqx, hqy, q⟩ := q1
  subst ex
  obtain ⟨u1, u2, rfl, r, r'⟩ := r1.two
  obtain ⟨o1, H1c, B1, c1, f1⟩ := SK.begins I1 hqx r
  obtain ⟨o2, H2c, B2, c2, f2⟩ := SK.begins I1 hqy r'
  refine zip_begins2 B1 B2 c1 c2 fun h' hz hTI hTO h1 h2 hsz hk => wpAny_pyIter_zip hz ?_
  have I2 : Inv X pins σ H1 { s1 with heap := h' } := I1.kept (t' := s1.toks) hk
  refine ⟨s1.heap.objs.size + 4, [s1.heap.objs.size + 4, s1.heap.objs.size + 2, s1.heap.objs.size + 3, s1.heap.objs.size, s1.heap.objs.size + 1], _, _, H1, rfl, I2, turn_zip2 (SK.cont_lt I1 hqx) (SK.cont_lt I1 hqy), ⟨hz, hTI, ⟨_, _, hTO⟩, f1 _ _ h1, f2 _ _ h2⟩, fun c hcm => ?_, q⟩
  have e' : c = s1.heap.objs.size + 4 ∨ c = s1.heap.objs.size + 2 ∨ c = s1.heap.objs.size + 3 ∨ c = s1.heap.objs.size ∨ c = s1.heap.objs.size + 1 := by simpa using hcm
  have hle : s1.heap.objs.size ≤ c := by
    rcases e' with z | z | z | z | z
    · rw [z]; exact Nat.le_add_right _ _
    · rw [z]; exact Nat.le_add_right _ _
    · rw [z]; exact Nat.le_add_right _ _
    · rw [z]; exact Nat.le_refl _
    · rw [z]; exact Nat.le_add_right _ _
  exact I1.fpOk hle (I1.hok.fresh hle)
end
end LLS

set_option Elab.async false
set_option linter.all false
set_option autoImplicit false
set_option maxRecDepth 100000
set_option maxHeartbeats 4000000
namespace LLS
open PySem PySem.Spec PyProof.Rows L2 PySem.SeqAt

/-! ### zip of three -/
def Itz3 (K : PySem.W.Frag) (k1 k2 k3 : SK) : It :=
  ⟨fun i H => ∃ (xs ys zs : List V) (x y z : V), k1.has K H xs ∧ k2.has K H ys ∧ k3.has K H zs ∧ xs[i]? = some x ∧ ys[i]? = some y ∧ zs[i]? = some z,
    fun i H v H' => ∃ T x y z, v = .ref T ∧ H T = none ∧ H' = upd H T (.tup [x, y, z]) ∧ (∀ xs, k1.has K H xs → xs[i]? = some x) ∧ (∀ ys, k2.has K H ys → ys[i]? = some y) ∧ ∀ zs, k3.has K H zs → zs[i]? = some z,
    fun i H => ∃ xs ys zs : List V, k1.has K H xs ∧ k2.has K H ys ∧ k3.has K H zs ∧ i ≤ xs.length ∧ i ≤ ys.length ∧ i ≤ zs.length ∧ (i = xs.length ∨ i = ys.length ∨ i = zs.length)⟩
theorem six {c N : Nat} (h : c ∈ [N + 5, N + 3, N + 4, N, N + 1, N + 2]) : c = N + 5 ∨ c = N + 3 ∨ c = N + 4 ∨ c = N ∨ c = N + 1 ∨ c = N + 2 := by simpa using h
theorem turn_zip3 {P : Program} {w : World} {K : PySem.W.Frag} {elts : List Expr} {kk : Nat} {tpos : Pos} {N : Nat} {k1 k2 k3 : SK} (h1 : ∀ b ∈ k1.cont, b < N) (h2 : ∀ b ∈ k2.cont, b < N) (h3 : ∀ b ∈ k3.cont, b < N) :
    Turn P w K (.Tuple elts kk tpos) (Itz3 K k1 k2 k3) [N + 5, N + 3, N + 4, N, N + 1, N + 2] (N + 5) (fun i h => IsZip h (N + 5) (N + 3) (N + 4) .none ∧ IsTupOf3 h (N + 3) (.ref N) (.ref (N + 1)) (.ref (N + 2)) ∧ (∃ x y z, IsTupOf3 h (N + 4) x y z) ∧ k1.st N i h ∧ k2.st (N + 1) i h ∧ k3.st (N + 2) i h) where
  mem := by simp
  obj := fun i h st c hc => by
    obtain ⟨hz, hTI, ⟨x, y, z, hTO⟩, s1, s2, s3⟩ := st
    rcases six hc with q | q | q | q | q | q
    · rw [q]; exact ⟨_, hz, fun v q => nomatch q⟩
    · rw [q]; exact ⟨_, hTI, fun v q => nomatch q⟩
    · rw [q]; exact ⟨_, hTO, fun v q => nomatch q⟩
    · rw [q]; exact SK.st_obj (k := k1) s1
    · rw [q]; exact SK.st_obj (k := k2) s2
    · rw [q]; exact SK.st_obj (k := k3) s3
  keep := fun i h h' st k => by
    obtain ⟨hz, hTI, ⟨x, y, z, hTO⟩, s1, s2, s3⟩ := st
    exact ⟨k (N + 5) (by simp) _ hz, k (N + 3) (by simp) _ hTI, ⟨x, y, z, k (N + 4) (by simp) _ hTO⟩, SK.st_at (k := k1) s1 fun o q => k N (by simp) o q, SK.st_at (k := k2) s2 fun o q => k (N + 1) (by simp) o q, SK.st_at (k := k3) s3 fun o q => k (N + 2) (by simp) o q⟩
  item := by
    intro X hP hw hK hc i pins s σ H E I hf st hg
    subst hP hw hK
    obtain ⟨hz, hTI, ⟨x0, y0, z0, hTO⟩, s1, s2, s3⟩ := st
    obtain ⟨xs, ys, zs, x, y, z, hqx, hqy, hqz, hx, hy, hzz⟩ := hg
    have hh : X.A.in1.handled = none := I.ok.hd hc
    obtain ⟨P1, St1, D1, t1, r1, u1⟩ := SK.draws hh I hqx (fun z => Nat.lt_irrefl _ (h1 _ z)) s1
    obtain ⟨P2, St2, D2, t2, r2, u2⟩ := SK.draws hh I hqy (fun z => absurd (h2 _ z) (by show ¬ (N + 1 < N); omega)) s2
    obtain ⟨P3, St3, D3, t3, r3, u3⟩ := SK.draws hh I hqz (fun z => absurd (h3 _ z) (by show ¬ (N + 2 < N); omega)) s3
    have D := zip_sep3 h1 h2 h3
    have hzl : N + 5 < s.heap.objs.size := Heap.lt_size hz
    refine wpAny_pyNext_zipD3_item D D1 D2 D3 hz hTI hTO t1 t2 t3 (List.getElem?_eq_some_iff.mp hx).1 (List.getElem?_eq_some_iff.mp hy).1 (List.getElem?_eq_some_iff.mp hzz).1 fun x1 x2 x3 h' tk p1 p2 p3 z' TO' d1 d2 d3 hT hsz hk => ?_
    refine ⟨_, rfl, wpAny_letOwnedTupleGo_zip (s := { s with heap := h', toks := tk }) z' fun h'' z'' sb => ?_⟩
    have hT2 : h''.get? s.heap.objs.size = some { cls := .type "tuple", data := .seq #[x1, x2, x3] } := (sb.2 _ (Nat.ne_of_gt hzl)).trans hT
    have new : ObjOk X.prog X.w (upd H s.heap.objs.size (.tup [x, y, z])) h'' s.heap.objs.size (.tup [x, y, z]) :=
      ⟨by show 3 ≤ sizeLine; decide, [x1, x2, x3], .cons (r1 _ _ _ p1 hx) (.cons (r2 _ _ _ p2 hy) (.cons (r3 _ _ _ p3 hzz) .nil)), ⟨_, hT2, rfl, _, rfl⟩⟩
    have I1 : Inv X pins σ (upd H s.heap.objs.size (.tup [x, y, z])) { s with heap := h'', toks := tk } :=
      I.turnedNew (t' := tk) (ch := [N + 5, N + 3, N + 4, N, N + 1, N + 2]) (fun c o hb q => (sb.2 c (fun q' => hb (by simp [q']))).trans (hk c o (fun q' => hb (by simp [q'])) (fun q' => hb (by simp [q'])) (fun q' => hb (by simp [q'])) (fun q' => hb (by simp [q'])) (fun q' => hb (by simp [q'])) q)) hf (Nat.le_refl _) new
    refine ⟨.ref s.heap.objs.size, _, I1, rfl, ⟨_, x, y, z, rfl, I.hok.fresh (Nat.le_refl _), rfl, fun l hl => by rw [SK.inj I hl hqx]; exact hx, fun l hl => by rw [SK.inj I hl hqy]; exact hy, fun l hl => by rw [SK.inj I hl hqz]; exact hzz⟩, ⟨z'', ?_, ⟨x1, x2, x3, ?_⟩, ?_, ?_, ?_⟩, fun c hcm => ?_⟩
    · exact (sb.2 _ D.TIz).trans (hk _ _ D.TIz D.TITO D.TIi1 D.TIi2 D.TIi3 hTI)
    · exact (sb.2 _ D.TOz).trans TO'
    · exact SK.st_at (k := k1) (u1 _ _ d1) fun o q => (sb.2 _ (fun e => D.zi1 e.symm)).trans q
    · exact SK.st_at (k := k2) (u2 _ _ d2) fun o q => (sb.2 _ (fun e => D.zi2 e.symm)).trans q
    · exact SK.st_at (k := k3) (u3 _ _ d3) fun o q => (sb.2 _ (fun e => D.zi3 e.symm)).trans q
    · have hlt : c < s.heap.objs.size := by
        rcases six hcm with q | q | q | q | q | q <;> rw [q]
        · exact hzl
        · exact Heap.lt_size hTI
        · exact Heap.lt_size hTO
        · obtain ⟨_, e1, _⟩ := SK.st_obj (k := k1) s1; exact Heap.lt_size e1
        · obtain ⟨_, e1, _⟩ := SK.st_obj (k := k2) s2; exact Heap.lt_size e1
        · obtain ⟨_, e1, _⟩ := SK.st_obj (k := k3) s3; exact Heap.lt_size e1
      rw [upd_ne (Nat.ne_of_lt hlt)]
      exact (hf c hcm).1
  done := by
    intro X hP hw hK hc i pins s σ H E I hf st hg
    subst hP hw hK
    obtain ⟨hz, hTI, ⟨x0, y0, z0, hTO⟩, s1, s2, s3⟩ := st
    obtain ⟨xs, ys, zs, hqx, hqy, hqz, l1, l2, l3, hend⟩ := hg
    have hh : X.A.in1.handled = none := I.ok.hd hc
    obtain ⟨P1, St1, D1, t1, r1, u1⟩ := SK.draws hh I hqx (fun z => Nat.lt_irrefl _ (h1 _ z)) s1
    obtain ⟨P2, St2, D2, t2, r2, u2⟩ := SK.draws hh I hqy (fun z => absurd (h2 _ z) (by show ¬ (N + 1 < N); omega)) s2
    obtain ⟨P3, St3, D3, t3, r3, u3⟩ := SK.draws hh I hqz (fun z => absurd (h3 _ z) (by show ¬ (N + 2 < N); omega)) s3
    exact wpAny_pyNext_zipD3_end (zip_sep3 h1 h2 h3) D1 D2 D3 hz hTI hTO t1 t2 t3 l1 l2 l3 hend fun h' tk hk => ⟨rfl, I.turnedL (t' := tk) (ch := [N + 5, N + 3, N + 4, N, N + 1, N + 2]) (fun c o hb q =>
      hk c o (fun q' => hb (by simp [q'])) (fun q' => hb (by simp [q'])) (fun q' => hb (by simp [q'])) (fun q' => hb (by simp [q'])) (fun q' => hb (by simp [q'])) q) hf⟩
  self := fun A i s Q E st h => wpAny_pyIter_zip st.1 h
section
variable {X : Cx}
def iZip3 (K : PySem.W.Frag) (ta : TA) : TI := fun σ H R => ta σ H fun vs H1 => ∃ k1 k2 k3 xs ys zs, vs = [SK.v k1, SK.v k2, SK.v k3] ∧ k1.has K H1 xs ∧ k2.has K H1 ys ∧ k3.has K H1 zs ∧ R (Itz3 K k1 k2 k3) H1
theorem vals3 {a b c : V} {us : List Value} (r : Vals [a, b, c] us) : ∃ u1 u2 u3, us = [u1, u2, u3] ∧ RelV a u1 ∧ RelV b u2 ∧ RelV c u3 := by
  cases r with
  | cons r1 r => cases r with
    | cons r2 r => cases r with
      | cons r3 r => cases r; exact ⟨_, _, _, rfl, r1, r2, r3⟩
theorem pi_zip3 {e e2 e3 : Expr} {ta : TA} {p pos tpos : Pos} {elts : List Expr} {kk : Nat} (hg : Gl X "zip") (hm : X.mg "zip" = none) (ha : PA X [e, e2, e3] ta)
    (hs : starEach [e, e2, e3] X.env = (false, eval e X.env) :: starEach [e2, e3] X.env) (hpl : (backTo pos (starEach [e2, e3] X.env)).any (·.1) = false) :
    PI X (.Tuple elts kk tpos) (.Call (.Name "zip" p) [e, e2, e3] [] pos) (iZip3 X.K ta) := by
  refine ⟨fun pins s σ H R I h => ?_⟩
  refine Call_ (ld_blt I hg hm PyProof.Rows.boot_zip (PyProof.Rows.callWith_type1 (thn (ha.run pos pins s σ H _ I h) fun us s1 ⟨vs, H1, I1, r1, q1⟩ => ?_) hs hpl))
  obtain ⟨k1, k2, k3, xs, ys, zs, ex, hqx, hqy, hqz, q⟩ := q1
  subst ex
  obtain ⟨u1, u2, u3, rfl, r, r', r''⟩ := vals3 r1
  obtain ⟨o1, H1c, B1, c1, f1⟩ := SK.begins I1 hqx r
  obtain ⟨o2, H2c, B2, c2, f2⟩ := SK.begins I1 hqy r'
  obtain ⟨o3, H3c, B3, c3, f3⟩ := SK.begins I1 hqz r''
  refine zip_begins3 B1 B2 B3 c1 c2 c3 fun h' hz hTI hTO h1 h2 h3 hsz hk => wpAny_pyIter_zip hz ?_
  have I2 : Inv X pins σ H1 { s1 with heap := h' } := I1.kept (t' := s1.toks) hk
  refine ⟨s1.heap.objs.size + 5, [s1.heap.objs.size + 5, s1.heap.objs.size + 3, s1.heap.objs.size + 4, s1.heap.objs.size, s1.heap.objs.size + 1, s1.heap.objs.size + 2], _, _, H1, rfl, I2, turn_zip3 (SK.cont_lt I1 hqx) (SK.cont_lt I1 hqy) (SK.cont_lt I1 hqz), ⟨hz, hTI, ⟨_, _, _, hTO⟩, f1 _ _ h1, f2 _ _ h2, f3 _ _ h3⟩, fun c hcm => ?_, q⟩
  have hle : s1.heap.objs.size ≤ c := by
    rcases six hcm with z | z | z | z | z | z
    · rw [z]; exact Nat.le_add_right _ _
    · rw [z]; exact Nat.le_add_right _ _
    · rw [z]; exact Nat.le_add_right _ _
    · rw [z]; exact Nat.le_refl _
    · rw [z]; exact Nat.le_add_right _ _
    · rw [z]; exact Nat.le_add_right _ _
  exact I1.fpOk hle (I1.hok.fresh hle)
end
/-! ### enumerate -/
def IteS (K : PySem.W.Frag) (k : SK) : It :=
  ⟨fun i H => ∃ (xs : List V) (x : V), k.has K H xs ∧ xs[i]? = some x,
    fun i H v H' => ∃ T x, v = .ref T ∧ H T = none ∧ H' = upd H T (.tup [.int (i : Nat), x]) ∧ ∀ xs, k.has K H xs → xs[i]? = some x,
    fun i H => ∃ xs : List V, k.has K H xs ∧ i = xs.length⟩
theorem turn_enumS {P : Program} {w : World} {K : PySem.W.Frag} {elts : List Expr} {kk : Nat} {tpos : Pos} {N : Nat} {k : SK} (h1 : ∀ b ∈ k.cont, b < N) :
    Turn P w K (.Tuple elts kk tpos) (IteS K k) [N + 1, N] (N + 1) (fun i h => (∃ old, IsEnum h (N + 1) N ((i : Nat) : Int) old) ∧ k.st N i h) where
  mem := by simp
  obj := fun i h st b hb => by
    obtain ⟨⟨old, he⟩, s1⟩ := st
    have e' : b = N + 1 ∨ b = N := by simpa using hb
    rcases e' with z | z
    · rw [z]; exact ⟨_, he, fun v q => nomatch q⟩
    · rw [z]; exact SK.st_obj (k := k) s1
  keep := fun i h h' st kk => let ⟨⟨old, he⟩, s1⟩ := st; ⟨⟨old, kk (N + 1) (by simp) _ he⟩, SK.st_at (k := k) s1 fun o q => kk N (by simp) o q⟩
  item := by
    intro X hP hw hK hc i pins s σ H E I hf st hg
    subst hP hw hK
    obtain ⟨⟨old, he⟩, s1⟩ := st
    obtain ⟨xs, x, hq, hx⟩ := hg
    have hh : X.A.in1.handled = none := I.ok.hd hc
    obtain ⟨P1, St1, D1, t1, r1, u1⟩ := SK.draws hh I hq (fun z => Nat.lt_irrefl _ (h1 _ z)) s1
    have hel : N + 1 < s.heap.objs.size := Heap.lt_size he
    have hne : (N + 1 : Nat) ≠ N := Nat.succ_ne_self _
    have hef : (N + 1 : Nat) ∉ N :: k.cont := fun z => by
      rcases List.mem_cons.mp z with z | z
      · exact hne z
      · exact absurd (h1 _ z) (by show ¬ (N + 1 < N); omega)
    refine wpAny_pyNext_enum_itemC D1 he t1 (List.getElem?_eq_some_iff.mp hx).1 hne hef fun u h' tk p1 ho d1 hT hsz hk => ?_
    refine ⟨_, rfl, wpAny_letOwnedTupleGo_enum (s := { s with heap := h', toks := tk + 1 }) ho fun h'' he' sb => ?_⟩
    have hT2 : h''.get? s.heap.objs.size = some { cls := .type "tuple", data := .seq #[.int i tk, u] } := (sb.2 _ (Nat.ne_of_gt hel)).trans hT
    have new : ObjOk X.prog X.w (upd H s.heap.objs.size (.tup [.int (i : Nat), x])) h'' s.heap.objs.size (.tup [.int (i : Nat), x]) :=
      ⟨by show 2 ≤ sizeLine; decide, [.int i tk, u], .cons ⟨_, rfl⟩ (.cons (r1 _ _ _ p1 hx) .nil), ⟨_, hT2, rfl, _, rfl⟩⟩
    have I1 : Inv X pins σ (upd H s.heap.objs.size (.tup [.int (i : Nat), x])) { s with heap := h'', toks := tk + 1 } :=
      I.turnedNew (ch := [N + 1, N]) (fun b ob hb q => (sb.2 b (fun z => hb (by simp [z]))).trans (hk b ob (fun z => hb (by simp [z])) (fun z => hb (by simp [z])) q)) hf (Nat.le_refl _) new
    refine ⟨.ref s.heap.objs.size, _, I1, rfl, ⟨_, x, rfl, I.hok.fresh (Nat.le_refl _), rfl, fun ys hy => by rw [SK.inj I hy hq]; exact hx⟩, ⟨⟨u, ?_⟩, SK.st_at (k := k) (u1 _ _ d1) fun o q => (sb.2 _ (Ne.symm hne)).trans q⟩, fun b hb => ?_⟩
    · have e1 : ((i + 1 : Nat) : Int) = (i : Int) + 1 := by omega
      rw [e1]; exact he'
    · have hb' : b < s.heap.objs.size := by
        have e' : b = N + 1 ∨ b = N := by simpa using hb
        rcases e' with z | z
        · rw [z]; exact hel
        · rw [z]; exact Nat.lt_of_succ_lt hel
      rw [upd_ne (Nat.ne_of_lt hb')]
      exact (hf b hb).1
  done := by
    intro X hP hw hK hc i pins s σ H E I hf st hg
    subst hP hw hK
    obtain ⟨⟨old, he⟩, s1⟩ := st
    obtain ⟨xs, hq, rfl⟩ := hg
    have hh : X.A.in1.handled = none := I.ok.hd hc
    obtain ⟨P1, St1, D1, t1, r1, u1⟩ := SK.draws hh I hq (fun z => Nat.lt_irrefl _ (h1 _ z)) s1
    exact wpAny_pyNext_enum_endD D1 he t1 fun h' eb => ⟨rfl, I.turnedL (t' := s.toks) (ch := [N + 1, N]) (fun b o hb q => eb b o (fun z => hb (by simp [z])) q) hf⟩
  self := fun A i s Q E st h => let ⟨⟨_, he⟩, _⟩ := st; wpAny_pyIter_enum he h
theorem meets_enumerate_new1B {v : Value} {o : Obj} {H : Heap → Prop} (B : Begins v o H) :
    Meets (Builtin.«enumerate.__new__» ⟨[.type "enumerate", v], []⟩) (fun _ R s => H s.heap ∧
      R (.ok (.ret (.ref (s.heap.push o).objs.size))) { s with heap := (s.heap.push o).push { cls := .type "enumerate", data := .fields #[.none, .bool false, .ref s.heap.objs.size, rawInt 0, .none, .none] } }) :=
  .of_wp fun prog w A R s h => by
    obtain ⟨hp, g, d, tk, os⟩ := s; obtain ⟨h1, h⟩ := h
    have hsub := sub_enumerate
    have q1 : ∀ {A' : Around} {E : Value → Shared → Prop} {Q : Value → Shared → Prop}, Q (.ref hp.objs.size) ⟨hp.push o, g, d, tk, os⟩ → wpAny (model prog w) A' (pyIter v) Q E ⟨hp, g, d, tk, os⟩ :=
      fun q => B.iter prog w _ _ ⟨hp, g, d, tk, os⟩ _ h1 q
    wp_walk using q1
    refine wpAny_stack_any fun st => wpAny_pure ?_
    split
    · rename_i c _ _ _ _ _
      cases (c == Value.type "enumerate")
      · wp_walk using q1
        exact ⟨_, rfl, h⟩
      · wp_walk using q1
        exact ⟨_, rfl, h⟩
    · wp_walk using q1
      exact ⟨_, rfl, h⟩
theorem enum_begins1 {prog : Program} {w : World} {A : Around} {E : Value → Shared → Prop} {s : Shared} {v : Value} {o : Obj} {H : Heap → Prop} {Q : Value → Shared → Prop} (B : Begins v o H) (h1 : H s.heap)
    (h : ∀ h', IsEnum h' (s.heap.objs.size + 1) s.heap.objs.size 0 .none → h'.get? s.heap.objs.size = some o → h'.objs.size = s.heap.objs.size + 2 →
      (∀ b o, s.heap.get? b = some o → h'.get? b = some o) → Q (.ref (s.heap.objs.size + 1)) { s with heap := h' }) :
    wpAny (model prog w) A (call (.type "enumerate") [v]) Q E s := by
  refine callType_new F.called_enumerate (by decide) (F.typeCall_enumerate_1 _) (F.newCall_enumerate_1 _) (fun obj => F.args_object_init_2 obj _) F.entry_enumerate_new
    (meets_enumerate_new1B B) ⟨h1, ?_⟩
  have hz : (s.heap.push o).objs.size = s.heap.objs.size + 1 := Heap.size_push ..
  show _ ∧ _
  rw [hz]
  have he : IsEnum ((s.heap.push o).push { cls := .type "enumerate", data := .fields #[.none, .bool false, .ref s.heap.objs.size, rawInt 0, .none, .none] }) (s.heap.objs.size + 1) s.heap.objs.size 0 .none := by
    have := Heap.get?_push_size (s.heap.push o) (o := { cls := .type "enumerate", data := .fields #[.none, .bool false, .ref s.heap.objs.size, rawInt 0, .none, .none] }) rfl
    rw [hz] at this; exact this
  refine ⟨⟨_, he, rfl⟩, h _ he (Heap.get?_push_of_some _ (Heap.get?_push_size _ B.free)) (by rw [Heap.size_push, hz]) fun b o x => Heap.get?_push_of_some _ (Heap.get?_push_of_some _ x)⟩
section
variable {X : Cx}
def iEnumS (K : PySem.W.Frag) (ta : TA) : TI := fun σ H R => ta σ H fun vs H1 => ∃ k xs, vs = [SK.v k] ∧ k.has K H1 xs ∧ R (IteS K k) H1
theorem pi_enumS {e : Expr} {ta : TA} {p pos tpos : Pos} {elts : List Expr} {kk : Nat} (hg : Gl X "enumerate") (hm : X.mg "enumerate" = none) (ha : PA X [e] ta) (hs : starEach [e] X.env = [(false, eval e X.env)]) :
    PI X (.Tuple elts kk tpos) (.Call (.Name "enumerate" p) [e] [] pos) (iEnumS X.K ta) := by
  refine ⟨fun pins s σ H R I h => ?_⟩
  refine Call_ (ld_blt I hg hm boot_enumerate (PyProof.Rows.callWith_type1 (thn (ha.run pos pins s σ H _ I h) fun us s1 ⟨vs, H1, I1, r1, q1⟩ => ?_) hs rfl))
  obtain ⟨k, xs, ex, hq, q⟩ := q1
  subst ex
  cases r1 with
  | cons r rr =>
    cases rr
    obtain ⟨o1, H1c, B1, c1, f1⟩ := SK.begins I1 hq r
    refine enum_begins1 B1 c1 fun h' he hit hsz hk => wpAny_pyIter_enum he ?_
    have I2 : Inv X pins σ H1 { s1 with heap := h' } := I1.kept (t' := s1.toks) hk
    refine ⟨s1.heap.objs.size + 1, [s1.heap.objs.size + 1, s1.heap.objs.size], _, _, H1, rfl, I2, turn_enumS (SK.cont_lt I1 hq), ⟨⟨.none, he⟩, f1 _ _ hit⟩, fun b hb => ?_, q⟩
    have e' : b = s1.heap.objs.size + 1 ∨ b = s1.heap.objs.size := by simpa using hb
    have hle : s1.heap.objs.size ≤ b := by
      rcases e' with z | z
      · rw [z]; exact Nat.le_add_right _ _
      · rw [z]; exact Nat.le_refl _
    exact I1.fpOk hle (I1.hok.fresh hle)
end
end LLS

set_option Elab.async false
set_option linter.all false
set_option autoImplicit false
set_option maxRecDepth 100000
set_option maxHeartbeats 4000000
namespace LLS
open PySem PySem.Spec PyProof.Rows L2 PySem.SeqAt

/-! ### targets -/
def gNs : List Nat → TGs
  | [] => gNil
  | i :: is => gCons (gName i) (gNs is)
def gOf (K : PySem.W.Frag) : LL.Tg → TG
  | .n i => gName i
  | .tp is => gTup K is.length (gNs is)
def tgIx : LL.Tg → List Nat
  | .n i => [i]
  | .tp is => is
theorem wipe_in {i : Nat} : ∀ {vs : List Nat} {σ : L2.St}, i ∈ vs → i < σ.length → (L2.wipe σ vs)[i]? = some none
  | v :: vs, σ, h, hl => by
    unfold L2.wipe
    by_cases hv : v = i
    · subst hv
      rw [List.getElem?_set_self (by rw [L2.wipe_length]; exact hl)]
    · rw [List.getElem?_set_ne hv]
      rcases List.mem_cons.mp h with e | h
      · exact absurd e.symm hv
      · exact wipe_in h hl
theorem wipe_set {σ : L2.St} {i : Nat} {x : Option V} {vs : List Nat} (h : i ∈ vs) : L2.wipe (σ.set i x) vs = L2.wipe σ vs := by
  apply List.ext_getElem?
  intro j
  by_cases hj : j ∈ vs
  · by_cases hl : j < σ.length
    · rw [wipe_in hj (by rw [List.length_set]; exact hl), wipe_in hj hl]
    · rw [List.getElem?_eq_none (by rw [L2.wipe_length, List.length_set]; omega), List.getElem?_eq_none (by rw [L2.wipe_length]; omega)]
  · rw [L2.wipe_out hj, L2.wipe_out hj, List.getElem?_set_ne (fun e : i = j => hj (by rw [← e]; exact h))]
theorem ll_wipe_some {σ : LL.Env} {i : Nat} {x : LL.W} : ∀ {vs : List Nat}, (LL.wipe σ vs)[i]? = some (some x) → σ[i]? = some (some x) ∧ i ∉ vs
  | [], h => ⟨h, by simp⟩
  | v :: vs, h => by
    unfold LL.wipe at h
    by_cases hi : v = i
    · subst hi
      by_cases hv : v < (LL.wipe σ vs).length
      · rw [List.getElem?_set_self hv] at h; cases h
      · rw [List.getElem?_eq_none (by simpa using hv)] at h; cases h
    · rw [List.getElem?_set_ne hi] at h
      obtain ⟨h1, h2⟩ := ll_wipe_some h
      exact ⟨h1, by simp [h2, Ne.symm hi]⟩
theorem ll_wipe_length (σ : LL.Env) : ∀ vs, (LL.wipe σ vs).length = σ.length
  | [] => rfl
  | v :: vs => by unfold LL.wipe; rw [List.length_set, ll_wipe_length σ vs]
section
variable {K : PySem.W.Frag} {A : Ad} {G : Hp} {ρ ω : List Addr} {S : LL.Sto} {H : Hp} {σ : LL.Env} {σV : L2.St}
theorem RepE.wipe (e : RepE K A G ρ ω σ σV) (vs : List Nat) : RepE K A G ρ ω (LL.wipe σ vs) (L2.wipe σV vs) := by
  refine ⟨by rw [L2.wipe_length, ll_wipe_length]; exact e.1, fun i w h => ?_⟩
  obtain ⟨h1, h2⟩ := ll_wipe_some h
  obtain ⟨v, q1, q2⟩ := e.2 i w h1
  exact ⟨v, by rw [L2.wipe_out h2]; exact q1, q2⟩
theorem RepE.set (e : RepE K A G ρ ω σ σV) {w : LL.W} {v : V} (r : RepW K A G ρ ω w v) (i : Nat) : RepE K A G ρ ω (σ.set i (some w)) (σV.set i (some v)) := by
  refine ⟨by simp [e.1], fun j x h => ?_⟩
  by_cases hj : i = j
  · subst hj
    have hl : i < σ.length := by
      have := (List.getElem?_eq_some_iff.mp h).1
      simpa using this
    rw [List.getElem?_set_self hl] at h
    cases h
    exact ⟨v, List.getElem?_set_self (by rw [e.1]; exact hl), r⟩
  · rw [List.getElem?_set_ne hj] at h
    obtain ⟨u, q1, q2⟩ := e.2 j x h
    exact ⟨u, by rw [List.getElem?_set_ne hj]; exact q1, q2⟩
theorem gNs_run : ∀ (is : List Nat) (xs : List LL.T) (vs : List V) (σ : LL.Env) (σV : L2.St) (σ' : LL.Env), LL.bindTs is xs σ = some σ' → Reps K A G ω xs vs → RepE K A G ρ ω σ σV → vs.length = is.length ∧ ∀ Q : L2.St → Hp → Prop, (∀ σV', RepE K A G ρ ω σ' σV' → (∀ ws : List Nat, (∀ i ∈ is, i ∈ ws) → L2.wipe σV' ws = L2.wipe σV ws) → Q σV' H) → gNs is vs σV H Q
  | [], [], _, σ, σV, σ', h, r, e => by
    cases r
    have : σ = σ' := by simpa [LL.bindTs] using h
    subst this
    exact ⟨rfl, fun Q q => ⟨rfl, q σV e fun _ _ => rfl⟩⟩
  | i :: is, x :: xs, _, σ, σV, σ', h, r, e => by
    cases r with
    | @cons _ _ v vs r1 r2 =>
      have h' : LL.bindTs is xs (σ.set i (some (.t x))) = some σ' := h
      obtain ⟨l, k⟩ := gNs_run is xs vs _ (σV.set i (some v)) σ' h' r2 (e.set (w := .t x) r1 i)
      refine ⟨by simp [l], fun Q q => ⟨v, vs, rfl, ?_⟩⟩
      exact k Q fun σV' e' w' => q σV' e' fun ws hw => by rw [w' ws fun j hj => hw j (List.mem_cons_of_mem _ hj), wipe_set (hw i (List.mem_cons_self ..))]
  | [], _ :: _, _, σ, σV, σ', h, _, _ => by simp [LL.bindTs] at h
  | _ :: _, [], _, σ, σV, σ', h, _, _ => by simp [LL.bindTs] at h
theorem gOf_run (m : MS K A G ρ ω S H) (e : RepE K A G ρ ω σ σV) {tg : LL.Tg} {x : LL.T} {v : V} (r : Rep K A G ω x v) {S' : LL.Sto} {σ' : LL.Env} (h : LL.bindTg tg x σ S = .ok σ' S') :
    S' = S ∧ ∀ Q : L2.St → Hp → Prop, (∀ σV', RepE K A G ρ ω σ' σV' → (∀ ws : List Nat, (∀ i ∈ tgIx tg, i ∈ ws) → L2.wipe σV' ws = L2.wipe σV ws) → Q σV' H) → gOf K tg v σV H Q := by
  cases tg with
  | n i =>
    have h' : LL.Res.ok (σ.set i (some (.t x))) S = LL.Res.ok σ' S' := h
    cases h'
    exact ⟨rfl, fun Q q => q _ (e.set (w := .t x) r i) fun ws hw => wipe_set (hw i (List.mem_singleton.mpr rfl))⟩
  | tp is =>
    cases x with
    | tup xs =>
      have h' : LL.M.opt (LL.bindTs is xs σ) S = LL.Res.ok σ' S' := h
      cases hb : LL.bindTs is xs σ with
      | none => rw [hb] at h'; cases h'
      | some σ'' =>
        rw [hb] at h'; cases h'
        cases r with
        | @tup _ a vs h1 r1 =>
          obtain ⟨l, k⟩ := gNs_run (H := H) is xs vs σ σV σ' hb r1 e
          exact ⟨rfl, fun Q q => ⟨a, vs, rfl, sqT_ext m.ex h1, l, k Q q⟩⟩
    | _ => cases h
end
def allNames : List Expr → Bool
  | [] => true
  | .Name _ _ :: r => allNames r
  | _ => false
theorem names_each (env : Env) : ∀ es : List Expr, allNames es = true → (assignEach es env).length = es.length ∧ (assignEach es env).findIdx? (·.1) = none
  | [], _ => ⟨rfl, rfl⟩
  | e :: es, h => by
    cases e <;> try (simp [allNames] at h; done)
    rename_i x p
    have h' : allNames es = true := h
    obtain ⟨h1, h2⟩ := names_each env es h'
    have e0 : assignEach (.Name x p :: es) env = (false, assign (.Name x p) env) :: assignEach es env := rfl
    rw [e0]
    refine ⟨by simp [h1], ?_⟩
    rw [List.findIdx?_cons]
    simp [h2]

theorem wipe_wipe (σ : L2.St) (vs : List Nat) : L2.wipe (L2.wipe σ vs) vs = L2.wipe σ vs := by
  apply List.ext_getElem?
  intro j
  by_cases hj : j ∈ vs
  · by_cases hl : j < σ.length
    · rw [wipe_in hj (by rw [L2.wipe_length]; exact hl), wipe_in hj hl]
    · rw [List.getElem?_eq_none (by rw [L2.wipe_length, L2.wipe_length]; omega), List.getElem?_eq_none (by rw [L2.wipe_length]; omega)]
  · rw [L2.wipe_out hj]
/-! ### sources -/
def ItOk (K : PySem.W.Frag) (A : Ad) (G : Hp) (ρ ω : List Addr) (src : LL.Src) (J : It) : Prop := ∀ F G' ρ' ω' S H, Ext G G' → ρ <+: ρ' → ω <+: ω' → MS K (A.at F) G' ρ' ω' S H → LL.watchOk S src.watch = true →
  (∀ i t, src.items[i]? = some t → J.go i H ∧ ∀ x H', J.yld i H x H' → ∃ G'', Ext G' G'' ∧ MS K (A.at F) G'' ρ' ω' S H' ∧ Rep K (A.at F) G'' ω' t x) ∧ J.stop src.items.length H
def SkOk (K : PySem.W.Frag) (A : Ad) (G : Hp) (ρ ω : List Addr) (src : LL.Src) (k : SK) : Prop := ∀ F G' ρ' ω' S H, Ext G G' → ρ <+: ρ' → ω <+: ω' → MS K (A.at F) G' ρ' ω' S H → LL.watchOk S src.watch = true →
  ∃ vs, k.has K H vs ∧ Reps K (A.at F) G' ω' src.items vs
section
variable {K : PySem.W.Frag} {A : Ad} {G G1 : Hp} {ρ ω ω1 : List Addr} {S : LL.Sto} {H : Hp} {W : WA} {β : Type}
theorem SkOk.mono {src : LL.Src} {k : SK} (h : SkOk K A G ρ ω src k) (e : Ext G G1) (p : ω <+: ω1) : SkOk K A G1 ρ ω1 src k :=
  fun F G' ρ' ω' S H e' r' p' m w => h F G' ρ' ω' S H (e.trans e') r' (p.trans p') m w
theorem reps_signs {A : Ad} : ∀ s : LL.Cs, Reps K A G ω (s.map fun c => LL.T.str [c]) (signsV (toS s)) := by
  intro s
  have e : signsV (toS s) = s.map fun c => V.str (toS [c]) := by
    unfold signsV
    rw [toS_tl]
    rfl
  rw [e]
  induction s with
  | nil => exact .nil
  | cons c s ih => exact .cons (.str [c]) (ih (by
      unfold signsV
      rw [toS_tl]
      rfl))
theorem sk_lst {xs : List LL.T} {v : V} (h : Rep K A G ω (.lst xs) v) : ∃ k, v = SK.v k ∧ SkOk K A G ρ ω ⟨xs, []⟩ k := by
  cases h with
  | @lst _ a vs h r =>
    exact ⟨.l a, rfl, fun F G' ρ' ω' S H e r' p m w => ⟨vs, SqL.of (m.ex _ _ (e _ _ h)), (r.mono e p).at⟩⟩
theorem Aft.src {x : LL.Rv} {v : V} {f : LL.Src → LL.M β} {k : β → LL.Sto → Hp → List Addr → Hp → Prop} (m : MS K A G ρ ω S H) (hx : Hold K A G ρ ω x v) (h : Aft K A ρ W G ω k ((LL.srcOf x >>= f) S)) :
    ∃ src k', v = SK.v k' ∧ SkOk K A G ρ ω src k' ∧ LL.watchOk S src.watch = true ∧ Aft K A ρ W G ω k (f src S) := by
  cases x with
  | v t =>
    cases t with
    | str s =>
      cases hx
      exact ⟨_, .s (toS s), rfl, fun F G' ρ' ω' S H e r' p m w => ⟨_, rfl, reps_signs s⟩, rfl, h⟩
    | lst xs => obtain ⟨k', e, q⟩ := sk_lst (ρ := ρ) hx; exact ⟨_, k', e, q, rfl, h⟩
    | tup xs =>
      cases hx with
      | @tup _ a vs h1 r => exact ⟨_, .t a, rfl, fun F G' ρ' ω' S H e r' p m w => ⟨vs, sqT_ext m.ex (sqT_ext e h1), (r.mono e p).at⟩, rfl, h⟩
    | _ => exact h.elim
  | new xs => obtain ⟨k', e, q⟩ := sk_lst (ρ := ρ) hx; exact ⟨_, k', e, q, rfl, h⟩
  | l n =>
    obtain ⟨a, h1, rfl⟩ := hx
    have e0 : (LL.srcOf (.l n) >>= f) S = (LL.M.opt (S.L[n]?) >>= fun xs => f ⟨xs, [(n, xs)]⟩) S := by
      have e1 : LL.srcOf (.l n) S = (LL.M.opt (S.L[n]?) >>= fun xs => LL.M.pure ⟨xs, [(n, xs)]⟩) S := rfl
      rw [M_bind, e1, M_bind, M_bind]
      cases S.L[n]? <;> rfl
    rw [e0] at h
    obtain ⟨xs, ex, h2⟩ := Aft.opt h
    refine ⟨_, .l a, rfl, fun F G' ρ' ω' S' H' e r' p m' w => ?_, by simp [LL.watchOk, ex, beq_refl_all.2 xs], h2⟩
    have w' : (match S'.L[n]? with | some ys => LL.T.beqs ys xs | none => false) = true := by
      have := w
      simp only [LL.watchOk, Bool.and_eq_true] at this
      exact this.1
    cases hn : S'.L[n]? with
    | none => rw [hn] at w'; cases w'
    | some ys =>
      rw [hn] at w'
      have e2 := beqs_eq _ _ w'
      subst e2
      obtain ⟨b, us, q1, q2, q3, q4⟩ := m'.li n ys hn
      rw [pre_get r' h1] at q1; cases q1
      exact ⟨us, SqL.of q3, q4⟩
theorem ItOk.mono {src : LL.Src} {J : It} (h : ItOk K A G ρ ω src J) (e : Ext G G1) (p : ω <+: ω1) : ItOk K A G1 ρ ω1 src J :=
  fun F G' ρ' ω' S H e' r' p' m w => h F G' ρ' ω' S H (e.trans e') r' (p.trans p') m w
theorem it_src {src : LL.Src} {k : SK} (h : SkOk K A G ρ ω src k) : ItOk K A G ρ ω src (k.it K) := by
  intro F G' ρ' ω' S H e r p m w
  obtain ⟨vs, hq, rr⟩ := h F G' ρ' ω' S H e r p m w
  have hl := rr.length
  cases k with
  | l a =>
    refine ⟨fun i t ht => ?_, vs, hq, by omega⟩
    obtain ⟨v, hv, rv⟩ := rr.get ht
    refine ⟨⟨vs, v, hq, hv⟩, fun x H' y => ?_⟩
    obtain ⟨rfl, y⟩ := y
    have := y vs hq
    rw [hv] at this; cases this
    exact ⟨G', Ext.refl _, m, rv⟩
  | t a =>
    refine ⟨fun i t ht => ?_, vs, hq, by omega⟩
    obtain ⟨v, hv, rv⟩ := rr.get ht
    refine ⟨⟨vs, v, hq, hv⟩, fun x H' y => ?_⟩
    obtain ⟨rfl, y⟩ := y
    have := y vs hq
    rw [hv] at this; cases this
    exact ⟨G', Ext.refl _, m, rv⟩
  | s z =>
    have e0 : vs = signsV z := hq
    have hz : z.cps.size = vs.length := by rw [e0]; simp [signsV]
    refine ⟨fun i t ht => ?_, (show z.cps.size ≤ src.items.length by omega)⟩
    obtain ⟨v, hv, rv⟩ := rr.get ht
    refine ⟨(show i < z.cps.size by rw [hz]; exact (List.getElem?_eq_some_iff.mp hv).1), fun x H' y => ?_⟩
    obtain ⟨rfl, c, hc, rfl⟩ := y
    rw [e0, signs_get hc] at hv; cases hv
    exact ⟨G', Ext.refl _, m, rv⟩
theorem watch_app (S : LL.Sto) : ∀ a b : List (Nat × List LL.T), LL.watchOk S (a ++ b) = (LL.watchOk S a && LL.watchOk S b)
  | [], b => by simp [LL.watchOk]
  | (n, xs) :: a, b => by
    show ((match S.L[n]? with | some ys => LL.T.beqs ys xs | none => false) && LL.watchOk S (a ++ b)) = (((match S.L[n]? with | some ys => LL.T.beqs ys xs | none => false) && LL.watchOk S a) && LL.watchOk S b)
    rw [watch_app S a b, Bool.and_assoc]
theorem it_zip2 {p q : LL.Src} {k1 k2 : SK} (h1 : SkOk K A G ρ ω p k1) (h2 : SkOk K A G ρ ω q k2) : ItOk K A G ρ ω ⟨LL.zip2Items p.items q.items, p.watch ++ q.watch⟩ (Itz2 K k1 k2) := by
  intro F G' ρ' ω' S H e r pp m w
  rw [watch_app, Bool.and_eq_true] at w
  obtain ⟨xs, hx, rx⟩ := h1 F G' ρ' ω' S H e r pp m w.1
  obtain ⟨ys, hy, ry⟩ := h2 F G' ρ' ω' S H e r pp m w.2
  have l1 := rx.length
  have l2 := ry.length
  refine ⟨fun i t ht => ?_, xs, ys, hx, hy, ?_⟩
  · unfold LL.zip2Items at ht
    rw [List.getElem?_zipWith] at ht
    cases ha : p.items[i]? with
    | none => rw [ha] at ht; simp at ht
    | some a =>
      cases hb : q.items[i]? with
      | none => rw [ha, hb] at ht; simp at ht
      | some b =>
        rw [ha, hb] at ht
        simp at ht
        subst ht
        obtain ⟨va, e1, r1⟩ := rx.get ha
        obtain ⟨vb, e2, r2⟩ := ry.get hb
        refine ⟨⟨xs, ys, va, vb, hx, hy, e1, e2⟩, fun x H' y => ?_⟩
        obtain ⟨T, x', y', rfl, hT, rfl, f1, f2⟩ := y
        have g1 := f1 xs hx
        have g2 := f2 ys hy
        rw [e1] at g1; cases g1
        rw [e2] at g2; cases g2
        obtain ⟨e3, m3, r3⟩ := m.tup hT (.cons r1 (.cons r2 .nil))
        exact ⟨_, e3, m3, r3⟩
  · have hl : (LL.zip2Items p.items q.items).length = min p.items.length q.items.length := by simp [LL.zip2Items]
    rw [hl, ← l1, ← l2]
    omega
theorem zip3_get : ∀ (xs ys zs : List LL.T) (i : Nat) (t : LL.T), (LL.zip3Items xs ys zs)[i]? = some t → ∃ x y z, xs[i]? = some x ∧ ys[i]? = some y ∧ zs[i]? = some z ∧ t = .tup [x, y, z]
  | x :: xs, y :: ys, z :: zs, 0, t, h => by
    simp only [LL.zip3Items, List.getElem?_cons_zero, Option.some.injEq] at h
    exact ⟨x, y, z, rfl, rfl, rfl, h.symm⟩
  | x :: xs, y :: ys, z :: zs, i + 1, t, h => by
    simp only [LL.zip3Items, List.getElem?_cons_succ] at h
    obtain ⟨a, b, c, h1, h2, h3, e⟩ := zip3_get xs ys zs i t h
    exact ⟨a, b, c, by simpa using h1, by simpa using h2, by simpa using h3, e⟩
  | [], _, _, i, t, h => by simp [LL.zip3Items] at h
  | _ :: _, [], _, i, t, h => by simp [LL.zip3Items] at h
  | _ :: _, _ :: _, [], i, t, h => by simp [LL.zip3Items] at h
theorem zip3_len : ∀ (xs ys zs : List LL.T), (LL.zip3Items xs ys zs).length = min (min xs.length ys.length) zs.length
  | x :: xs, y :: ys, z :: zs => by simp only [LL.zip3Items, List.length_cons, zip3_len xs ys zs]; omega
  | [], _, _ => by simp [LL.zip3Items]
  | _ :: _, [], _ => by simp [LL.zip3Items]
  | _ :: _, _ :: _, [] => by simp [LL.zip3Items]
theorem it_zip3 {p q u : LL.Src} {k1 k2 k3 : SK} (h1 : SkOk K A G ρ ω p k1) (h2 : SkOk K A G ρ ω q k2) (h3 : SkOk K A G ρ ω u k3) : ItOk K A G ρ ω ⟨LL.zip3Items p.items q.items u.items, p.watch ++ q.watch ++ u.watch⟩ (Itz3 K k1 k2 k3) := by
  intro F G' ρ' ω' S H e r pp m w
  rw [watch_app, watch_app, Bool.and_eq_true, Bool.and_eq_true] at w
  obtain ⟨xs, hx, rx⟩ := h1 F G' ρ' ω' S H e r pp m w.1.1
  obtain ⟨ys, hy, ry⟩ := h2 F G' ρ' ω' S H e r pp m w.1.2
  obtain ⟨zs, hz, rz⟩ := h3 F G' ρ' ω' S H e r pp m w.2
  have l1 := rx.length
  have l2 := ry.length
  have l3 := rz.length
  refine ⟨fun i t ht => ?_, xs, ys, zs, hx, hy, hz, ?_⟩
  · obtain ⟨a, b, c, ha, hb, hc, rfl⟩ := zip3_get _ _ _ _ _ ht
    obtain ⟨va, e1, r1⟩ := rx.get ha
    obtain ⟨vb, e2, r2⟩ := ry.get hb
    obtain ⟨vc, e3, r3⟩ := rz.get hc
    refine ⟨⟨xs, ys, zs, va, vb, vc, hx, hy, hz, e1, e2, e3⟩, fun x H' y => ?_⟩
    obtain ⟨T, x', y', z', rfl, hT, rfl, f1, f2, f3⟩ := y
    have g1 := f1 xs hx
    have g2 := f2 ys hy
    have g3 := f3 zs hz
    rw [e1] at g1; cases g1
    rw [e2] at g2; cases g2
    rw [e3] at g3; cases g3
    obtain ⟨e5, m3, r5⟩ := m.tup hT (.cons r1 (.cons r2 (.cons r3 .nil)))
    exact ⟨_, e5, m3, r5⟩
  · have hl := zip3_len p.items q.items u.items
    dsimp only
    rw [hl, ← l1, ← l2, ← l3]
    omega
theorem it_enum {p : LL.Src} {k : SK} (h : SkOk K A G ρ ω p k) : ItOk K A G ρ ω ⟨LL.enumItems p.items, p.watch⟩ (IteS K k) := by
  intro F G' ρ' ω' S H e r pp m w
  obtain ⟨xs, hx, rx⟩ := h F G' ρ' ω' S H e r pp m w
  have l1 := rx.length
  refine ⟨fun i t ht => ?_, xs, hx, ?_⟩
  · unfold LL.enumItems at ht
    rw [List.getElem?_zipWith] at ht
    cases ha : (List.range p.items.length)[i]? with
    | none => rw [ha] at ht; simp at ht
    | some j =>
      cases hb : p.items[i]? with
      | none => rw [ha, hb] at ht; simp at ht
      | some b =>
        rw [ha, hb] at ht
        obtain ⟨hj1, hj2⟩ := List.getElem?_eq_some_iff.mp ha
        simp at hj2
        subst hj2
        simp at ht
        subst ht
        obtain ⟨vb, e2, r2⟩ := rx.get hb
        refine ⟨⟨xs, vb, hx, e2⟩, fun x H' y => ?_⟩
        obtain ⟨T, x', rfl, hT, rfl, f1⟩ := y
        have g1 := f1 xs hx
        rw [e2] at g1; cases g1
        obtain ⟨e5, m3, r5⟩ := m.tup hT (.cons (.int _) (.cons r2 .nil))
        exact ⟨_, e5, m3, r5⟩
  · have hl : (LL.enumItems p.items).length = p.items.length := by simp [LL.enumItems]
    dsimp only
    rw [hl, ← l1]
theorem it_rng {lo : Int} {n : Nat} : ItOk K A G ρ ω ⟨LL.rngItems lo n, []⟩ (Itr lo n) := by
  intro F G' ρ' ω' S H e r p m w
  refine ⟨fun i t ht => ?_, by show n ≤ (LL.rngItems lo n).length; simp [LL.rngItems]⟩
  unfold LL.rngItems at ht
  rw [List.getElem?_map] at ht
  cases hr : (List.range n)[i]? with
  | none => rw [hr] at ht; cases ht
  | some j =>
    rw [hr] at ht
    have hj : j = i ∧ i < n := by
      obtain ⟨h1, h2⟩ := List.getElem?_eq_some_iff.mp hr
      simp at h1 h2
      exact ⟨h2.symm, h1⟩
    obtain ⟨rfl, hlt⟩ := hj
    cases ht
    refine ⟨hlt, fun x H' y => ?_⟩
    obtain ⟨rfl, rfl⟩ := y
    exact ⟨G', Ext.refl _, m, .int _⟩
end
def PI' (K : PySem.W.Frag) (R : It → Hp → Prop) : Post LL.Src := fun A' ρ src _ G ω H => ∀ J, ItOk K A' G ρ ω src J → R J H
def rdI (K : PySem.W.Frag) (A : Ad) (Wx : WX) (M : LL.Env → LL.M LL.Src) : TI := fun σ H R => Run K A Wx M (PI' K R) σ H
section
variable {X : Cx} {A : Ad} {Wx : WX} {tg a b : Expr} {Ma Mb : LL.Env → LL.M LL.Rv} {pos : Pos}
theorem src_id (x : LL.Rv) (S : LL.Sto) : (LL.srcOf x >>= fun s => LL.M.pure s) S = LL.srcOf x S := by
  rw [M_bind]
  cases LL.srcOf x S <;> rfl
theorem ri_e (ha : PE X a (rdE X.K A Wx Ma)) : PI X tg a (rdI X.K A Wx fun σ => Ma σ >>= fun x => LL.srcOf x) := by
  refine pi_imp (pi_src ha) fun σV H R h => (Run.bind h).mp fun v H1 h1 => ?_
  obtain ⟨F, G, ρ, ω, S, σ, x, m, e, hx, aft⟩ := h1
  have aft' : Aft X.K (A.at F) ρ (WC A Wx σV) G ω (PI' X.K R (A.at F) ρ) ((LL.srcOf x >>= fun s => LL.M.pure s) S) := by
    rw [src_id]; exact aft
  obtain ⟨src, k, rfl, sk, w, aft1⟩ := Aft.src m hx aft'
  obtain ⟨vs, hq, rr⟩ := sk F G ρ ω S H1 (Ext.refl G) List.prefix_rfl List.prefix_rfl m w
  exact ⟨k, vs, rfl, hq, aft1 G ω H1 (Ext.refl G) List.prefix_rfl m _ (it_src sk)⟩
def zip2M (Ma Mb : LL.Env → LL.M LL.Rv) : LL.Env → LL.M LL.Src := fun σ => Ma σ >>= fun x => Mb σ >>= fun y => LL.srcOf x >>= fun p => LL.srcOf y >>= fun q => LL.M.pure ⟨LL.zip2Items p.items q.items, p.watch ++ q.watch⟩
theorem ri_zip2 {p tpos : Pos} {elts : List Expr} {kk : Nat} (hg : Gl X "zip") (hm : X.mg "zip" = none) (ha : PE X a (rdE X.K A Wx Ma)) (hb : PE X b (rdE X.K A Wx Mb))
    (hs : starEach [a, b] X.env = (false, eval a X.env) :: starEach [b] X.env) (hs2 : starEach [b] X.env = (false, eval b X.env) :: starEach [] X.env) (hpl : (backTo pos (starEach [b] X.env)).any (·.1) = false) :
    PI X (.Tuple elts kk tpos) (.Call (.Name "zip" p) [a, b] [] pos) (rdI X.K A Wx (zip2M Ma Mb)) := by
  refine pi_imp (pi_zip2 hg hm (pa_cons ha (pa_cons hb pa_nil hs2) hs) hs hpl) fun σV H R h => (Run.bind h).mp fun v H1 h1 => (Run1.bind h1).mp fun w H2 h2 => ?_
  obtain ⟨F, G, ρ, ω, S, σ, x, y, m, e, hx, hy, aft⟩ := h2
  obtain ⟨src1, k1, rfl, sk1, w1, aft1⟩ := Aft.src m hx aft
  obtain ⟨src2, k2, rfl, sk2, w2, aft2⟩ := Aft.src m hy aft1
  obtain ⟨vs, hq, rr⟩ := sk1 F G ρ ω S H2 (Ext.refl G) List.prefix_rfl List.prefix_rfl m w1
  obtain ⟨vs2, hq2, rr2⟩ := sk2 F G ρ ω S H2 (Ext.refl G) List.prefix_rfl List.prefix_rfl m w2
  exact ⟨k1, k2, vs, vs2, rfl, hq, hq2, aft2 G ω H2 (Ext.refl G) List.prefix_rfl m _ (it_zip2 sk1 sk2)⟩
def zip3M (Ma Mb Mc : LL.Env → LL.M LL.Rv) : LL.Env → LL.M LL.Src := fun σ => Ma σ >>= fun x => Mb σ >>= fun y => Mc σ >>= fun z => LL.srcOf x >>= fun p => LL.srcOf y >>= fun q => LL.srcOf z >>= fun r => LL.M.pure ⟨LL.zip3Items p.items q.items r.items, p.watch ++ q.watch ++ r.watch⟩
theorem Run2.bind {K : PySem.W.Frag} {β : Type} {v w : V} {M : LL.Env → LL.M LL.Rv} {f : LL.Env → LL.Rv → LL.Rv → LL.Rv → LL.M β} {P : Post β} {σV : L2.St} {H : Hp} (h : Run2 K A Wx v w (fun σ x y => M σ >>= f σ x y) P σV H) :
    rdE K A Wx M σV H (fun u H1 => ∃ F G ρ ω S σ x y z, MS K (A.at F) G ρ ω S H1 ∧ RepE K (A.at F) G ρ ω σ σV ∧ Hold K (A.at F) G ρ ω x v ∧ Hold K (A.at F) G ρ ω y w ∧ Hold K (A.at F) G ρ ω z u ∧ Aft K (A.at F) ρ (WC A Wx σV) G ω (P (A.at F) ρ) (f σ x y z S)) := by
  obtain ⟨F, G, ρ, ω, S, σ, x, y, m, e, hx, hy, aft⟩ := h
  refine ⟨F, G, ρ, ω, S, σ, m, e, (Aft.bind aft).imp ?_⟩
  intro r S1 G1 ω1 H1 eG p m1 k w rw
  obtain ⟨G2, eG2, m2, hw⟩ := rw.hold m1
  exact ⟨F, G2, ρ, ω1, S1, σ, x, y, r, m2, e.mono (eG.trans eG2) List.prefix_rfl p, hx.mono (eG.trans eG2) List.prefix_rfl p, hy.mono (eG.trans eG2) List.prefix_rfl p, hw, k.mono eG2 List.prefix_rfl⟩
theorem ri_zip3 {c : Expr} {Mc : LL.Env → LL.M LL.Rv} {p tpos : Pos} {elts : List Expr} {kk : Nat} (hg : Gl X "zip") (hm : X.mg "zip" = none) (ha : PE X a (rdE X.K A Wx Ma)) (hb : PE X b (rdE X.K A Wx Mb)) (hc : PE X c (rdE X.K A Wx Mc))
    (hs : starEach [a, b, c] X.env = (false, eval a X.env) :: starEach [b, c] X.env) (hs2 : starEach [b, c] X.env = (false, eval b X.env) :: starEach [c] X.env) (hs3 : starEach [c] X.env = (false, eval c X.env) :: starEach [] X.env) (hpl : (backTo pos (starEach [b, c] X.env)).any (·.1) = false) :
    PI X (.Tuple elts kk tpos) (.Call (.Name "zip" p) [a, b, c] [] pos) (rdI X.K A Wx (zip3M Ma Mb Mc)) := by
  refine pi_imp (pi_zip3 hg hm (pa_cons ha (pa_cons hb (pa_cons hc pa_nil hs3) hs2) hs) hs hpl) fun σV H R h => (Run.bind h).mp fun v H1 h1 => (Run1.bind h1).mp fun w H2 h2 => (Run2.bind h2).mp fun u H3 h3 => ?_
  obtain ⟨F, G, ρ, ω, S, σ, x, y, z, m, e, hx, hy, hz, aft⟩ := h3
  obtain ⟨src1, k1, rfl, sk1, w1, aft1⟩ := Aft.src m hx aft
  obtain ⟨src2, k2, rfl, sk2, w2, aft2⟩ := Aft.src m hy aft1
  obtain ⟨src3, k3, rfl, sk3, w3, aft3⟩ := Aft.src m hz aft2
  obtain ⟨vs, hq, rr⟩ := sk1 F G ρ ω S H3 (Ext.refl G) List.prefix_rfl List.prefix_rfl m w1
  obtain ⟨vs2, hq2, rr2⟩ := sk2 F G ρ ω S H3 (Ext.refl G) List.prefix_rfl List.prefix_rfl m w2
  obtain ⟨vs3, hq3, rr3⟩ := sk3 F G ρ ω S H3 (Ext.refl G) List.prefix_rfl List.prefix_rfl m w3
  exact ⟨k1, k2, k3, vs, vs2, vs3, rfl, hq, hq2, hq3, aft3 G ω H3 (Ext.refl G) List.prefix_rfl m _ (it_zip3 sk1 sk2 sk3)⟩
def enumM (Ma : LL.Env → LL.M LL.Rv) : LL.Env → LL.M LL.Src := fun σ => Ma σ >>= fun x => LL.srcOf x >>= fun p => LL.M.pure ⟨LL.enumItems p.items, p.watch⟩
theorem ri_enum {p tpos : Pos} {elts : List Expr} {kk : Nat} (hg : Gl X "enumerate") (hm : X.mg "enumerate" = none) (ha : PE X a (rdE X.K A Wx Ma)) (hs : starEach [a] X.env = [(false, eval a X.env)]) :
    PI X (.Tuple elts kk tpos) (.Call (.Name "enumerate" p) [a] [] pos) (rdI X.K A Wx (enumM Ma)) := by
  refine pi_imp (pi_enumS hg hm (pa_cons ha pa_nil hs) hs) fun σV H R h => (Run.bind h).mp fun v H1 h1 => ?_
  obtain ⟨F, G, ρ, ω, S, σ, x, m, e, hx, aft⟩ := h1
  obtain ⟨src1, k1, rfl, sk1, w1, aft1⟩ := Aft.src m hx aft
  obtain ⟨vs, hq, rr⟩ := sk1 F G ρ ω S H1 (Ext.refl G) List.prefix_rfl List.prefix_rfl m w1
  exact ⟨k1, vs, rfl, hq, aft1 G ω H1 (Ext.refl G) List.prefix_rfl m _ (it_enum sk1)⟩
def rngM (Ma : LL.Env → LL.M LL.Rv) : LL.Env → LL.M LL.Src := fun σ => Ma σ >>= fun x => x.isI >>= fun j => LL.M.guard (decide (j.natAbs < 2 ^ 62)) >>= fun _ => LL.M.pure ⟨LL.rngItems 0 j.toNat, []⟩
theorem ri_rng {p : Pos} (hg : Gl X "range") (hm : X.mg "range" = none) (ha : PE X a (rdE X.K A Wx Ma)) (hs : starEach [a] X.env = [(false, eval a X.env)]) : PI X tg (.Call (.Name "range" p) [a] [] pos) (rdI X.K A Wx (rngM Ma)) := by
  refine pi_imp (pi_range1 hg hm (pa_cons ha pa_nil hs) hs) fun σV H R h => (Run.bind h).mp fun v H1 h1 => ?_
  obtain ⟨j, rfl, F, G, ρ, ω, S, σ, m, e, aft⟩ := h1.isI
  obtain ⟨g, aft1⟩ := Aft.guard aft
  have g := of_decide_eq_true g
  exact ⟨j, rfl, by omega, by omega, aft1 G ω H1 (Ext.refl G) List.prefix_rfl m _ it_rng⟩
def rng2M (Ma Mb : LL.Env → LL.M LL.Rv) : LL.Env → LL.M LL.Src := fun σ => Ma σ >>= fun x => Mb σ >>= fun y => x.isI >>= fun i => y.isI >>= fun j => LL.M.guard (decide (i.natAbs < 2 ^ 62 ∧ j.natAbs < 2 ^ 62)) >>= fun _ => LL.M.pure ⟨LL.rngItems i (j - i).toNat, []⟩
theorem ri_rng2 {p : Pos} (hg : Gl X "range") (hm : X.mg "range" = none) (ha : PE X a (rdE X.K A Wx Ma)) (hb : PE X b (rdE X.K A Wx Mb)) (hs : starEach [a, b] X.env = [(false, eval a X.env), (false, eval b X.env)]) (hs2 : starEach [b] X.env = [(false, eval b X.env)]) :
    PI X tg (.Call (.Name "range" p) [a, b] [] pos) (rdI X.K A Wx (rng2M Ma Mb)) := by
  refine pi_imp (pi_range2 hg hm (pa_cons ha (pa_cons hb pa_nil hs2) (by rw [hs, hs2])) hs hs2) fun σV H R h => (Run.bind h).mp fun v H1 h1 => (Run1.bind h1).mp fun w H2 h2 => ?_
  obtain ⟨F, G, ρ, ω, S, σ, x, y, m, e, hx, hy, aft⟩ := h2
  obtain ⟨i, rfl, aft1⟩ := Aft.isI aft
  obtain ⟨j, rfl, aft2⟩ := Aft.isI aft1
  obtain ⟨g, aft3⟩ := Aft.guard aft2
  have g := of_decide_eq_true g
  cases hx; cases hy
  exact ⟨i, j, rfl, (by omega : -(2 ^ 62) ≤ i ∧ i < 2 ^ 62 ∧ -(2 ^ 62) ≤ j ∧ j < 2 ^ 62), aft3 G ω H2 (Ext.refl G) List.prefix_rfl m _ it_rng⟩
/-! ### comprehensions -/
def lcStep (own : List Nat) (tg : LL.Tg) (Mc : LL.Env → LL.M Bool) (Me : LL.Env → LL.M LL.Rv) (σ : LL.Env) (x : LL.T) (acc : List LL.T) : LL.M (List LL.T) :=
  LL.bindTg tg x (LL.wipe σ own) >>= fun σ' => Mc σ' >>= fun b => if b then Me σ' >>= fun r => LL.app acc r else LL.M.pure acc
def lcM (own : List Nat) (tg : LL.Tg) (Mi : LL.Env → LL.M LL.Src) (Mc : LL.Env → LL.M Bool) (Me : LL.Env → LL.M LL.Rv) : LL.Env → LL.M LL.Rv := fun σ =>
  Mi σ >>= fun src => LL.M.nox (LL.lcLoop src.watch (lcStep own tg Mc Me σ) src.items []) >>= fun xs => LL.M.pure (.new xs)
theorem nox_ok {α β : Type} {m : LL.M α} {f : α → LL.M β} {S : LL.Sto} {K : PySem.W.Frag} {A : Ad} {ρ : List Addr} {W : WA} {G : Hp} {ω : List Addr} {k : β → LL.Sto → Hp → List Addr → Hp → Prop} (h : Aft K A ρ W G ω k ((LL.M.nox m >>= f) S)) :
    ∃ a S', m S = .ok a S' ∧ Aft K A ρ W G ω k (f a S') := by
  rw [M_bind] at h
  unfold LL.M.nox at h
  cases hm : m S with
  | ok a S' => rw [hm] at h; exact ⟨a, S', rfl, h⟩
  | exc c S' => rw [hm] at h; exact h.elim
  | bad => rw [hm] at h; exact h.elim
theorem bind_ok {α β : Type} {m : LL.M α} {f : α → LL.M β} {S : LL.Sto} {b : β} {S2 : LL.Sto} (h : (m >>= f) S = .ok b S2) : ∃ a S', m S = .ok a S' ∧ f a S' = .ok b S2 := by
  rw [M_bind] at h
  cases hm : m S with
  | ok a S' => rw [hm] at h; exact ⟨a, S', rfl, h⟩
  | exc c S' => rw [hm] at h; cases h
  | bad => rw [hm] at h; cases h
def W0 : WX := fun _ _ _ _ => False
theorem lc_go {K : PySem.W.Frag} {own : List Nat} {tgt : LL.Tg} {Mi : LL.Env → LL.M LL.Src} {Mc : LL.Env → LL.M Bool} {Me : LL.Env → LL.M LL.Rv} (htg : ∀ i ∈ tgIx tgt, i ∈ own) {σV : L2.St} {H : Hp} {Q : VK} (h : rdE K A Wx (lcM own tgt Mi Mc Me) σV H Q) :
    tLc (rdI K A Wx Mi) (gOf K tgt) (rdT K A W0 Mc) (rdE K A W0 Me) own σV H Q := by
  obtain ⟨F, G, ρ, ω, S, σ, m, e, aft⟩ := h
  refine ⟨F, G, ρ, ω, S, σ, m, e, (Aft.bind aft).imp ?_⟩
  intro src S1 G1 ω1 H1 eG p m1 k J itok D hD
  obtain ⟨xs, S2, hrun, aft2⟩ := nox_ok k
  have e1 := e.mono eG List.prefix_rfl p
  refine ⟨fun i n H => n = src.items.length - i ∧ i ≤ src.items.length ∧ ∃ G' ω' S' acc vs, Ext G1 G' ∧ ω1 <+: ω' ∧ MS K (A.at ((D, vs) :: F)) G' ρ ω' S' H ∧ Reps K A G' ω' acc vs ∧ LL.lcLoop src.watch (lcStep (own) tgt Mc Me σ) (src.items.drop i) acc S' = .ok xs S2,
    ⟨_, rfl, Nat.zero_le _, G1, ω1, S1, [], [], Ext.refl _, List.prefix_rfl, m1.frame hD, .nil, hrun⟩, ?_⟩
  rintro i n H2 ⟨rfl, hi2, G', ω', S', acc, vs, eG', p', m', racc, run⟩
  by_cases hlt : i < src.items.length
  · have hx : src.items[i]? = some src.items[i] := List.getElem?_eq_getElem hlt
    generalize src.items[i] = x at hx
    have hd : src.items.drop i = x :: src.items.drop (i + 1) := by
      rw [List.drop_eq_getElem_cons hlt]
      congr 1
      rw [List.getElem?_eq_getElem hlt] at hx
      cases hx; rfl
    rw [hd] at run
    unfold LL.lcLoop at run
    obtain ⟨_, S3, hw, run1⟩ := bind_ok run
    have hw' : LL.watchOk S' src.watch = true ∧ S3 = S' := by
      unfold LL.M.watch at hw
      by_cases z : LL.watchOk S' src.watch = true
      · rw [if_pos z] at hw; cases hw; exact ⟨z, rfl⟩
      · rw [if_neg z] at hw; cases hw
    obtain ⟨wok, rfl⟩ := hw'
    obtain ⟨acc', S4, hstep, run2⟩ := bind_ok run1
    obtain ⟨go, _⟩ := itok ((D, vs) :: F) G' ρ ω' S3 H2 eG' List.prefix_rfl p' m' wok
    obtain ⟨g1, g2⟩ := go i x hx
    refine .inr ⟨g1, fun H => i + 1 ≤ src.items.length ∧ ∃ G' ω' S' acc vs, Ext G1 G' ∧ ω1 <+: ω' ∧ MS K (A.at ((D, vs) :: F)) G' ρ ω' S' H ∧ Reps K A G' ω' acc vs ∧ LL.lcLoop src.watch (lcStep (own) tgt Mc Me σ) (src.items.drop (i + 1)) acc S' = .ok xs S2,
      fun H' ⟨q1, q⟩ => ⟨_, by omega, rfl, q1, q⟩, fun v H3 y => ?_⟩
    obtain ⟨G3, eG3, m3, r3⟩ := g2 v H3 y
    unfold lcStep at hstep
    obtain ⟨σ', S5, hb, hstep1⟩ := bind_ok hstep
    have e3 : RepE K (A.at ((D, vs) :: F)) G3 ρ ω' σ σV := (e1.mono (eG'.trans eG3) List.prefix_rfl p').at (F := (D, vs) :: F)
    obtain ⟨rfl, kg⟩ := gOf_run m3 (e3.wipe (own)) r3 hb
    refine kg _ fun σV' e' w' => ⟨?_, ?_⟩
    · rw [w' _ htg, wipe_wipe]
    · obtain ⟨b, S6, hcnd, hstep2⟩ := bind_ok hstep1
      refine ⟨(D, vs) :: F, G3, ρ, ω', S5, σ', m3, e', ?_⟩
      rw [hcnd]
      intro G4 ω4 H4 eG4 p4 m4
      show (if b = true then _ else _)
      cases b with
      | false =>
        rw [if_neg (by simp)]
        rw [if_neg (by simp)] at hstep2
        cases hstep2
        exact ⟨hlt, G4, ω4, S4, acc, vs, (eG'.trans eG3).trans eG4, p'.trans p4, m4, racc.mono (eG3.trans eG4) p4, run2⟩
      | true =>
        rw [if_pos rfl]
        rw [if_pos rfl] at hstep2
        obtain ⟨r, S7, hel, hstep3⟩ := bind_ok hstep2
        refine ⟨(D, vs) :: F, G4, ρ, ω4, S6, σ', m4, e'.mono eG4 List.prefix_rfl p4, ?_⟩
        rw [hel]
        intro G5 ω5 H5 eG5 p5 m5 y ry
        obtain ⟨G6, eG6, m6, hy⟩ := ry.hold m5
        unfold LL.app at hstep3
        obtain ⟨t, S8, htr, hstep4⟩ := bind_ok hstep3
        obtain ⟨_, S9, hgd, hstep5⟩ := bind_ok hstep4
        cases hstep5
        have ht : (r = .v t ∨ ∃ xs, r = .new xs ∧ t = .lst xs) ∧ S8 = S7 := by
          cases r with
          | v t' => cases htr; exact ⟨.inl rfl, rfl⟩
          | l n => cases htr
          | new xs => cases htr; exact ⟨.inr ⟨xs, rfl, rfl⟩, rfl⟩
        obtain ⟨ht, rfl⟩ := ht
        have hg2 : acc.length < LL.SZ ∧ S4 = S8 := by
          unfold LL.M.guard at hgd
          by_cases z : decide (acc.length < LL.SZ) = true
          · rw [if_pos z] at hgd; cases hgd; exact ⟨of_decide_eq_true z, rfl⟩
          · rw [if_neg z] at hgd; cases hgd
        obtain ⟨hlen, rfl⟩ := hg2
        have rt := hold_tree hy ht
        have racc' := racc.mono (eG3.trans (eG4.trans (eG5.trans eG6))) (p4.trans p5)
        refine ⟨vs, (m6.fr (D, vs) (List.mem_cons_self ..)).1, by rw [← racc.length, sz_eq]; exact hlen, hlt, G6, ω5, S4, acc ++ [t], vs ++ [y], ((eG'.trans eG3).trans eG4).trans (eG5.trans eG6), (p'.trans p4).trans p5, m6.grow, ?_, run2⟩
        exact racc'.append (Reps.one (rt.at (F := A.fr)))
  · have hii : i = src.items.length := by omega
    subst hii
    rw [List.drop_length] at run
    unfold LL.lcLoop at run
    obtain ⟨_, S3, hw, run1⟩ := bind_ok run
    have hw' : LL.watchOk S' src.watch = true ∧ S3 = S' := by
      unfold LL.M.watch at hw
      by_cases z : LL.watchOk S' src.watch = true
      · rw [if_pos z] at hw; cases hw; exact ⟨z, rfl⟩
      · rw [if_neg z] at hw; cases hw
    obtain ⟨wok, rfl⟩ := hw'
    cases run1
    obtain ⟨_, stop⟩ := itok ((D, vs) :: F) G' ρ ω' S2 H2 eG' List.prefix_rfl p' m' wok
    refine .inl ⟨stop, ?_⟩
    obtain ⟨mu, d1, d2, d3, d4, d5⟩ := m'.unframe
    exact aft2 G' ω' H2 eG' p' mu _ ⟨D, vs, rfl, d1, d2, d3, d4, d5, racc.at⟩
theorem re_lc {elt tg iter : Expr} {ifs : List Expr} {scope : Scope} {own : List (Str × Nat)} {tgt : LL.Tg} {Mi : LL.Env → LL.M LL.Src} {Mc : LL.Env → LL.M Bool} {Me : LL.Env → LL.M LL.Rv} (hc : X.calm = true) (hN : X.N.Nodup) (hi : PI X tg iter (rdI X.K A Wx Mi)) (ok : BlkOk X.N X.env.scope scope own)
    (hg : ∀ (s : Shared) (H : Hp) (C : Addr) (cl : List (Str × Addr)) (fp : List Addr), PG (X.blk s H scope (compEnvC scope cl C X.env) fp) tg (gOf X.K tgt)) (ht : ∀ (s : Shared) (H : Hp) (C : Addr) (cl : List (Str × Addr)) (fp : List Addr), PTs (X.blk s H scope (compEnvC scope cl C X.env) fp) ifs (rdT X.K A W0 Mc))
    (he : ∀ (s : Shared) (H : Hp) (C : Addr) (cl : List (Str × Addr)) (fp : List Addr), PE (X.blk s H scope (compEnvC scope cl C X.env) fp) elt (rdE X.K A W0 Me)) (hs : ∀ x, foldedSetIterable iter X.env x = pure x) (htg : ∀ i ∈ tgIx tgt, i ∈ own.map (·.2)) :
    PE X (.ListComp elt [⟨tg, iter, ifs, 0⟩] scope pos) (rdE X.K A Wx (lcM (own.map (·.2)) tgt Mi Mc Me)) :=
  pe_imp (pe_lc hc hN hi ok hg ht he hs) fun σV H Q h => lc_go htg h
end
end LLS

set_option Elab.async false
set_option linter.all false
set_option autoImplicit false
set_option maxRecDepth 100000
set_option maxHeartbeats 4000000
namespace LLS
open PySem PySem.Spec PyProof.Rows L2 PySem.SeqAt
section
variable {X : Cx} {A : Ad} {Wx : WX} {pos : Pos}
/-! ### comprehensions with two for's -/
def lc2Step (own own1 : List Nat) (tg : LL.Tg) (Mc : LL.Env → LL.M Bool) (tg1 : LL.Tg) (Mi1 : LL.Env → LL.M LL.Src) (Mc1 : LL.Env → LL.M Bool) (Me : LL.Env → LL.M LL.Rv) (σ : LL.Env) (x : LL.T) (acc : List LL.T) : LL.M (List LL.T) :=
  LL.bindTg tg x (LL.wipe σ own) >>= fun σ' => Mc σ' >>= fun b => if b then Mi1 σ' >>= fun src1 => LL.lcLoop src1.watch (lcStep own1 tg1 Mc1 Me σ') src1.items acc else LL.M.pure acc
def lc2M (own own1 : List Nat) (tg : LL.Tg) (Mi : LL.Env → LL.M LL.Src) (Mc : LL.Env → LL.M Bool) (tg1 : LL.Tg) (Mi1 : LL.Env → LL.M LL.Src) (Mc1 : LL.Env → LL.M Bool) (Me : LL.Env → LL.M LL.Rv) : LL.Env → LL.M LL.Rv := fun σ =>
  Mi σ >>= fun src => LL.M.nox (LL.lcLoop src.watch (lc2Step own own1 tg Mc tg1 Mi1 Mc1 Me σ) src.items []) >>= fun xs => LL.M.pure (.new xs)
theorem watch_ok {S S2 : LL.Sto} {u : Unit} {ws : List (Nat × List LL.T)} (hw : LL.M.watch ws S = .ok u S2) : LL.watchOk S ws = true ∧ S2 = S := by
  unfold LL.M.watch at hw
  by_cases z : LL.watchOk S ws = true
  · rw [if_pos z] at hw; cases hw; exact ⟨z, rfl⟩
  · rw [if_neg z] at hw; cases hw
theorem drop_at {xs : List LL.T} {i : Nat} (h : i < xs.length) : ∃ x, xs[i]? = some x ∧ xs.drop i = x :: xs.drop (i + 1) := by
  refine ⟨xs[i], List.getElem?_eq_getElem h, ?_⟩
  rw [List.drop_eq_getElem_cons h]
theorem lc2_go {K : PySem.W.Frag} {own own1 : List Nat} {tgt tgt1 : LL.Tg} {Mi Mi1 : LL.Env → LL.M LL.Src} {Mc Mc1 : LL.Env → LL.M Bool} {Me : LL.Env → LL.M LL.Rv} (htg : ∀ i ∈ tgIx tgt, i ∈ own) (htg1 : ∀ i ∈ tgIx tgt1, i ∈ own1) {σV : L2.St} {H : Hp} {Q : VK}
    (h : rdE K A Wx (lc2M own own1 tgt Mi Mc tgt1 Mi1 Mc1 Me) σV H Q) :
    tLc2 (rdI K A Wx Mi) (gOf K tgt) (rdT K A W0 Mc) (rdI K A W0 Mi1) (gOf K tgt1) (rdT K A W0 Mc1) (rdE K A W0 Me) own own1 σV H Q := by
  obtain ⟨F, G, ρ, ω, S, σ, m, e, aft⟩ := h
  refine ⟨F, G, ρ, ω, S, σ, m, e, (Aft.bind aft).imp ?_⟩
  intro src S1 G1 ω1 H1 eG p m1 k J itok D hD
  obtain ⟨xs, S2, hrun, aft2⟩ := nox_ok k
  have e1 := e.mono eG List.prefix_rfl p
  refine ⟨fun i n H => n = src.items.length - i ∧ i ≤ src.items.length ∧ ∃ G' ω' S' acc vs, Ext G1 G' ∧ ω1 <+: ω' ∧ MS K (A.at ((D, vs) :: F)) G' ρ ω' S' H ∧ Reps K A G' ω' acc vs ∧ LL.lcLoop src.watch (lc2Step own own1 tgt Mc tgt1 Mi1 Mc1 Me σ) (src.items.drop i) acc S' = .ok xs S2,
    ⟨_, rfl, Nat.zero_le _, G1, ω1, S1, [], [], Ext.refl _, List.prefix_rfl, m1.frame hD, .nil, hrun⟩, ?_⟩
  rintro i n H2 ⟨rfl, hi2, G', ω', S', acc, vs, eG', p', m', racc, run⟩
  by_cases hlt : i < src.items.length
  · obtain ⟨x, hx, hd⟩ := drop_at hlt
    rw [hd] at run
    unfold LL.lcLoop at run
    obtain ⟨_, S3, hw, run1⟩ := bind_ok run
    obtain ⟨wok, rfl⟩ := watch_ok hw
    obtain ⟨acc', S4, hstep, run2⟩ := bind_ok run1
    obtain ⟨go, _⟩ := itok ((D, vs) :: F) G' ρ ω' S3 H2 eG' List.prefix_rfl p' m' wok
    obtain ⟨g1, g2⟩ := go i x hx
    refine .inr ⟨g1, fun H => i + 1 ≤ src.items.length ∧ ∃ G' ω' S' acc vs, Ext G1 G' ∧ ω1 <+: ω' ∧ MS K (A.at ((D, vs) :: F)) G' ρ ω' S' H ∧ Reps K A G' ω' acc vs ∧ LL.lcLoop src.watch (lc2Step own own1 tgt Mc tgt1 Mi1 Mc1 Me σ) (src.items.drop (i + 1)) acc S' = .ok xs S2,
      fun H' ⟨q1, q⟩ => ⟨_, by omega, rfl, q1, q⟩, fun v H3 y => ?_⟩
    obtain ⟨G3, eG3, m3, r3⟩ := g2 v H3 y
    unfold lc2Step at hstep
    obtain ⟨σ', S5, hb, hstep1⟩ := bind_ok hstep
    have e3 : RepE K (A.at ((D, vs) :: F)) G3 ρ ω' σ σV := (e1.mono (eG'.trans eG3) List.prefix_rfl p').at (F := (D, vs) :: F)
    obtain ⟨rfl, kg⟩ := gOf_run m3 (e3.wipe (own)) r3 hb
    refine kg _ fun σV' e' w' => ⟨?_, ?_⟩
    · rw [w' _ htg, wipe_wipe]
    · obtain ⟨b, S6, hcnd, hstep2⟩ := bind_ok hstep1
      refine ⟨(D, vs) :: F, G3, ρ, ω', S5, σ', m3, e', ?_⟩
      rw [hcnd]
      intro G4 ω4 H4 eG4 p4 m4
      show (if b = true then _ else _)
      cases b with
      | false =>
        rw [if_neg (by simp)]
        rw [if_neg (by simp)] at hstep2
        cases hstep2
        exact ⟨hlt, G4, ω4, S4, acc, vs, (eG'.trans eG3).trans eG4, p'.trans p4, m4, racc.mono (eG3.trans eG4) p4, run2⟩
      | true =>
        rw [if_pos rfl]
        rw [if_pos rfl] at hstep2
        obtain ⟨src1, S7, hsrc, hin⟩ := bind_ok hstep2
        have e4 := e'.mono eG4 List.prefix_rfl p4
        refine ⟨(D, vs) :: F, G4, ρ, ω4, S6, σ', m4, e4, ?_⟩
        rw [hsrc]
        intro G5 ω5 H5 eG5 p5 m5 J1 itok1
        have racc5 := racc.mono (eG3.trans (eG4.trans eG5)) (p4.trans p5)
        refine ⟨fun j n H => n = src1.items.length - j ∧ j ≤ src1.items.length ∧ ∃ G' ω' S' acc1 vs1, Ext G5 G' ∧ ω5 <+: ω' ∧ MS K (A.at ((D, vs1) :: F)) G' ρ ω' S' H ∧ Reps K A G' ω' acc1 vs1 ∧ LL.lcLoop src1.watch (lcStep own1 tgt1 Mc1 Me σ') (src1.items.drop j) acc1 S' = .ok acc' S4,
          ⟨_, rfl, Nat.zero_le _, G5, ω5, S7, acc, vs, Ext.refl _, List.prefix_rfl, m5, racc5, hin⟩, ?_⟩
        rintro j n1 H6 ⟨rfl, hj2, G6, ω6, S8, acc1, vs1, eG6, p6, m6, racc1, runi⟩
        by_cases hltj : j < src1.items.length
        · obtain ⟨x1, hx1, hd1⟩ := drop_at hltj
          rw [hd1] at runi
          unfold LL.lcLoop at runi
          obtain ⟨_, S9, hw1, runi1⟩ := bind_ok runi
          obtain ⟨wok1, rfl⟩ := watch_ok hw1
          obtain ⟨acc2, S10, hstepi, runi2⟩ := bind_ok runi1
          obtain ⟨go1, _⟩ := itok1 ((D, vs1) :: F) G6 ρ ω6 S9 H6 eG6 List.prefix_rfl p6 m6 wok1
          obtain ⟨g11, g12⟩ := go1 j x1 hx1
          refine .inr ⟨g11, fun H => j + 1 ≤ src1.items.length ∧ ∃ G' ω' S' acc1 vs1, Ext G5 G' ∧ ω5 <+: ω' ∧ MS K (A.at ((D, vs1) :: F)) G' ρ ω' S' H ∧ Reps K A G' ω' acc1 vs1 ∧ LL.lcLoop src1.watch (lcStep own1 tgt1 Mc1 Me σ') (src1.items.drop (j + 1)) acc1 S' = .ok acc' S4,
            fun H' ⟨q1, q⟩ => ⟨_, by omega, rfl, q1, q⟩, fun v1 H7 y1 => ?_⟩
          obtain ⟨G7, eG7, m7, r7⟩ := g12 v1 H7 y1
          unfold lcStep at hstepi
          obtain ⟨σ'', S11, hb1, hstepi1⟩ := bind_ok hstepi
          have e7 : RepE K (A.at ((D, vs1) :: F)) G7 ρ ω6 σ' σV' := (e4.mono (eG5.trans (eG6.trans eG7)) List.prefix_rfl (p5.trans p6)).at (F := (D, vs1) :: F)
          obtain ⟨rfl, kg1⟩ := gOf_run m7 (e7.wipe (own1)) r7 hb1
          refine kg1 _ fun σV'' e'' w'' => ⟨?_, ?_⟩
          · rw [w'' _ htg1, wipe_wipe]
          · obtain ⟨b1, S12, hcnd1, hstepi2⟩ := bind_ok hstepi1
            refine ⟨(D, vs1) :: F, G7, ρ, ω6, S11, σ'', m7, e'', ?_⟩
            rw [hcnd1]
            intro G8 ω8 H8 eG8 p8 m8
            show (if b1 = true then _ else _)
            cases b1 with
            | false =>
              rw [if_neg (by simp)]
              rw [if_neg (by simp)] at hstepi2
              cases hstepi2
              exact ⟨hltj, G8, ω8, S10, acc1, vs1, (eG6.trans eG7).trans eG8, p6.trans p8, m8, racc1.mono (eG7.trans eG8) p8, runi2⟩
            | true =>
              rw [if_pos rfl]
              rw [if_pos rfl] at hstepi2
              obtain ⟨r, S13, hel, hstepi3⟩ := bind_ok hstepi2
              refine ⟨(D, vs1) :: F, G8, ρ, ω8, S12, σ'', m8, e''.mono eG8 List.prefix_rfl p8, ?_⟩
              rw [hel]
              intro G9 ω9 H9 eG9 p9 m9 y ry
              obtain ⟨G10, eG10, m10, hy⟩ := ry.hold m9
              unfold LL.app at hstepi3
              obtain ⟨t, S14, htr, hstepi4⟩ := bind_ok hstepi3
              obtain ⟨_, S15, hgd, hstepi5⟩ := bind_ok hstepi4
              cases hstepi5
              have ht : (r = .v t ∨ ∃ xs, r = .new xs ∧ t = .lst xs) ∧ S14 = S13 := by
                cases r with
                | v t' => cases htr; exact ⟨.inl rfl, rfl⟩
                | l n => cases htr
                | new xs => cases htr; exact ⟨.inr ⟨xs, rfl, rfl⟩, rfl⟩
              obtain ⟨ht, rfl⟩ := ht
              have hg2 : acc1.length < LL.SZ ∧ S10 = S14 := by
                unfold LL.M.guard at hgd
                by_cases z : decide (acc1.length < LL.SZ) = true
                · rw [if_pos z] at hgd; cases hgd; exact ⟨of_decide_eq_true z, rfl⟩
                · rw [if_neg z] at hgd; cases hgd
              obtain ⟨hlen, rfl⟩ := hg2
              have rt := hold_tree hy ht
              have racc' := racc1.mono (eG7.trans (eG8.trans (eG9.trans eG10))) (p8.trans p9)
              refine ⟨vs1, (m10.fr (D, vs1) (List.mem_cons_self ..)).1, by rw [← racc1.length, sz_eq]; exact hlen, hltj, G10, ω9, S10, acc1 ++ [t], vs1 ++ [y], ((eG6.trans eG7).trans eG8).trans (eG9.trans eG10), (p6.trans p8).trans p9, m10.grow, ?_, runi2⟩
              exact racc'.append (Reps.one (rt.at (F := A.fr)))
        · have hjj : j = src1.items.length := by omega
          subst hjj
          rw [List.drop_length] at runi
          unfold LL.lcLoop at runi
          obtain ⟨_, S9, hw1, runi1⟩ := bind_ok runi
          obtain ⟨wok1, rfl⟩ := watch_ok hw1
          cases runi1
          obtain ⟨_, stop1⟩ := itok1 ((D, vs1) :: F) G6 ρ ω6 S4 H6 eG6 List.prefix_rfl p6 m6 wok1
          exact .inl ⟨stop1, hlt, G6, ω6, S4, acc', vs1, ((eG'.trans eG3).trans eG4).trans (eG5.trans eG6), (p'.trans p4).trans (p5.trans p6), m6, racc1, run2⟩
  · have hii : i = src.items.length := by omega
    subst hii
    rw [List.drop_length] at run
    unfold LL.lcLoop at run
    obtain ⟨_, S3, hw, run1⟩ := bind_ok run
    obtain ⟨wok, rfl⟩ := watch_ok hw
    cases run1
    obtain ⟨_, stop⟩ := itok ((D, vs) :: F) G' ρ ω' S2 H2 eG' List.prefix_rfl p' m' wok
    refine .inl ⟨stop, ?_⟩
    obtain ⟨mu, d1, d2, d3, d4, d5⟩ := m'.unframe
    exact aft2 G' ω' H2 eG' p' mu _ ⟨D, vs, rfl, d1, d2, d3, d4, d5, racc.at⟩
theorem re_lc2 {elt tg iter tg1 iter1 : Expr} {ifs ifs1 : List Expr} {scope : Scope} {own : List (Str × Nat)} {own1 : List Nat} {tgt tgt1 : LL.Tg} {Mi Mi1 : LL.Env → LL.M LL.Src} {Mc Mc1 : LL.Env → LL.M Bool} {Me : LL.Env → LL.M LL.Rv} (hc : X.calm = true) (hN : X.N.Nodup) (hi : PI X tg iter (rdI X.K A Wx Mi)) (ok : BlkOk X.N X.env.scope scope own) (hv : ∀ i ∈ own1, i ∈ own.map (·.2))
    (hg : ∀ (s : Shared) (H : Hp) (C : Addr) (cl : List (Str × Addr)) (fp : List Addr), PG (X.blk s H scope (compEnvC scope cl C X.env) fp) tg (gOf X.K tgt)) (ht : ∀ (s : Shared) (H : Hp) (C : Addr) (cl : List (Str × Addr)) (fp : List Addr), PTs (X.blk s H scope (compEnvC scope cl C X.env) fp) ifs (rdT X.K A W0 Mc))
    (hi1 : ∀ (s : Shared) (H : Hp) (C : Addr) (cl : List (Str × Addr)) (fp : List Addr), PI (X.blk s H scope (compEnvC scope cl C X.env) fp) tg1 iter1 (rdI X.K A W0 Mi1))
    (hg1 : ∀ (s : Shared) (H : Hp) (C : Addr) (cl : List (Str × Addr)) (fp : List Addr), PG (X.blk s H scope (compEnvC scope cl C X.env) fp) tg1 (gOf X.K tgt1)) (ht1 : ∀ (s : Shared) (H : Hp) (C : Addr) (cl : List (Str × Addr)) (fp : List Addr), PTs (X.blk s H scope (compEnvC scope cl C X.env) fp) ifs1 (rdT X.K A W0 Mc1))
    (he : ∀ (s : Shared) (H : Hp) (C : Addr) (cl : List (Str × Addr)) (fp : List Addr), PE (X.blk s H scope (compEnvC scope cl C X.env) fp) elt (rdE X.K A W0 Me)) (hs : ∀ x, foldedSetIterable iter X.env x = pure x) (hs1 : ∀ env x, foldedSetIterable iter1 env x = pure x) (htg : ∀ i ∈ tgIx tgt, i ∈ own.map (·.2)) (htg1 : ∀ i ∈ tgIx tgt1, i ∈ own1) :
    PE X (.ListComp elt [⟨tg, iter, ifs, 0⟩, ⟨tg1, iter1, ifs1, 0⟩] scope pos) (rdE X.K A Wx (lc2M (own.map (·.2)) own1 tgt Mi Mc tgt1 Mi1 Mc1 Me)) :=
  pe_imp (pe_lc2 hc hN hi ok hv hg ht hi1 hg1 ht1 he hs hs1) fun σV H Q h => lc2_go htg htg1 h
end
end LLS

set_option Elab.async false
set_option linter.all false
set_option autoImplicit false
set_option maxRecDepth 100000
set_option maxHeartbeats 4000000
namespace LLS
open PySem PySem.Spec PyProof.Rows L2 PySem.SeqAt

/-! ### what follows from a statement: the store may have grown -/
def AftS {α : Type} (K : PySem.W.Frag) (A : Ad) (W : WA) (G : Hp) (ρ ω : List Addr) (k : α → LL.Sto → Hp → List Addr → List Addr → Hp → Prop) : LL.Res α → Prop
  | .ok a S => ∀ G' ρ' ω' H, Ext G G' → ρ <+: ρ' → ω <+: ω' → MS K A G' ρ' ω' S H → k a S G' ρ' ω' H
  | .exc c S => ∀ G' ρ' ω' H, Ext G G' → ρ <+: ρ' → ω <+: ω' → MS K A G' ρ' ω' S H → W c H
  | .bad => False
section
variable {K : PySem.W.Frag} {A : Ad} {W : WA} {G G1 : Hp} {ρ ρ1 ω ω1 : List Addr} {α β : Type}
theorem AftS.mono {k : α → LL.Sto → Hp → List Addr → List Addr → Hp → Prop} {r : LL.Res α} (e : Ext G G1) (q : ρ <+: ρ1) (p : ω <+: ω1) (h : AftS K A W G ρ ω k r) : AftS K A W G1 ρ1 ω1 k r := by
  cases r with
  | ok a S => exact fun G' ρ' ω' H e' q' p' m => h G' ρ' ω' H (e.trans e') (q.trans q') (p.trans p') m
  | exc c S => exact fun G' ρ' ω' H e' q' p' m => h G' ρ' ω' H (e.trans e') (q.trans q') (p.trans p') m
  | bad => exact h
theorem AftS.imp {k k' : α → LL.Sto → Hp → List Addr → List Addr → Hp → Prop} {r : LL.Res α} (h : AftS K A W G ρ ω k r) (i : ∀ a S G' ρ' ω' H, Ext G G' → ρ <+: ρ' → ω <+: ω' → MS K A G' ρ' ω' S H → k a S G' ρ' ω' H → k' a S G' ρ' ω' H) : AftS K A W G ρ ω k' r := by
  cases r with
  | ok a S => exact fun G' ρ' ω' H e' q' p' m => i a S G' ρ' ω' H e' q' p' m (h G' ρ' ω' H e' q' p' m)
  | exc c S => exact h
  | bad => exact h
theorem AftS.bind {m : LL.M α} {f : α → LL.M β} {S : LL.Sto} {k : β → LL.Sto → Hp → List Addr → List Addr → Hp → Prop} (h : AftS K A W G ρ ω k ((m >>= f) S)) :
    AftS K A W G ρ ω (fun a S' G' ρ' ω' _ => AftS K A W G' ρ' ω' k (f a S')) (m S) := by
  rw [M_bind] at h
  cases hm : m S with
  | ok a S' => rw [hm] at h; exact fun G' ρ' ω' H e' q' p' _ => AftS.mono e' q' p' h
  | exc c S' => rw [hm] at h; exact h
  | bad => rw [hm] at h; exact h
/-- the first part keeps the store's length -/
theorem AftS.bindE {m : LL.M α} {f : α → LL.M β} {S : LL.Sto} {k : β → LL.Sto → Hp → List Addr → List Addr → Hp → Prop} (h : AftS K A W G ρ ω k ((m >>= f) S)) :
    Aft K A ρ W G ω (fun a S' G' ω' _ => AftS K A W G' ρ ω' k (f a S')) (m S) := by
  rw [M_bind] at h
  cases hm : m S with
  | ok a S' => rw [hm] at h; exact fun G' ω' H e' p' _ => AftS.mono e' List.prefix_rfl p' h
  | exc c S' => rw [hm] at h; exact fun G' ω' H e' p' m => h G' ρ ω' H e' List.prefix_rfl p' m
  | bad => rw [hm] at h; exact h
theorem AftS.tree {r : LL.Rv} {f : LL.T → LL.M β} {S : LL.Sto} {k : β → LL.Sto → Hp → List Addr → List Addr → Hp → Prop} (h : AftS K A W G ρ ω k ((r.tree >>= f) S)) : ∃ t, (r = .v t ∨ ∃ xs, r = .new xs ∧ t = .lst xs) ∧ AftS K A W G ρ ω k (f t S) := by
  cases r with
  | v t => exact ⟨t, .inl rfl, h⟩
  | l n => exact h.elim
  | new xs => exact ⟨.lst xs, .inr ⟨xs, rfl, rfl⟩, h⟩
end
/-- an exception's wish that looks at no slot -/
def WS (E : XK) : WX := fun cls d _ H => E cls d H
def WCE (A : Ad) (E : XK) : WA := fun c H => ∀ C, A.exc c = some C → E (.ref C) none H
abbrev PostS := Ad → (LL.Fl × LL.Env) → LL.Sto → Hp → List Addr → List Addr → Hp → Prop
def PSt (K : PySem.W.Frag) (D : Ends) : PostS := fun A' fe _ G ρ ω H => match fe.1 with
  | .next => ∀ σV, RepE K A' G ρ ω fe.2 σV → D.nx σV H
  | .brk => ∀ σV, RepE K A' G ρ ω fe.2 σV → D.bk σV H
  | .cont => ∀ σV, RepE K A' G ρ ω fe.2 σV → D.ct σV H
  | .ret r => ∀ v, RepR K A' G ρ ω H r v → D.rt v H
def rdS (K : PySem.W.Frag) (A : Ad) (E : XK) (M : LL.Env → LL.M (LL.Fl × LL.Env)) : TS := fun D σV H =>
  ∃ F G ρ ω S σ, MS K (A.at F) G ρ ω S H ∧ RepE K (A.at F) G ρ ω σ σV ∧ AftS K (A.at F) (WCE A E) G ρ ω (PSt K D (A.at F)) (M σ S)
section
variable {X : Cx} {A : Ad} {E : XK} {a b e : Expr} {Ma Mb : LL.Env → LL.M LL.Rv} {Mt : LL.Env → LL.M Bool} {pos : Pos} {st : Stmt} {sts : List Stmt} {M1 M2 : LL.Env → LL.M (LL.Fl × LL.Env)}
/-- a value, then a statement's end -/
theorem eS {K : PySem.W.Frag} {f : LL.Env → LL.Rv → LL.M (LL.Fl × LL.Env)} {D : Ends} {σV : L2.St} {H : Hp} {Q : VK} (h : rdS K A E (fun σ => Ma σ >>= f σ) D σV H)
    (k : ∀ F G ρ ω S σ r v H1, MS K (A.at F) G ρ ω S H1 → RepE K (A.at F) G ρ ω σ σV → RepR K (A.at F) G ρ ω H1 r v → AftS K (A.at F) (WCE A E) G ρ ω (PSt K D (A.at F)) (f σ r S) → Q v H1) : rdE K A (WS E) Ma σV H Q := by
  obtain ⟨F, G, ρ, ω, S, σ, m, e, aft⟩ := h
  refine ⟨F, G, ρ, ω, S, σ, m, e, (AftS.bindE aft).imp ?_⟩
  intro r S1 G1 ω1 H1 eG p m1 h1 v rv
  exact k F G1 ρ ω1 S1 σ r v H1 m1 (e.mono eG List.prefix_rfl p) rv h1
theorem rs_ret (ha : PE X a (rdE X.K A (WS E) Ma)) : PS X (.Return (some a) pos) (rdS X.K A E fun σ => Ma σ >>= fun x => LL.M.pure (.ret x, σ)) := by
  refine ps_imp (ps_ret ha) fun D σV H h => eS h ?_
  intro F G ρ ω S σ r v H1 m e rv aft
  exact aft G ρ ω H1 (Ext.refl G) List.prefix_rfl List.prefix_rfl m v rv
theorem rs_ret0 : PS X (.Return none pos) (rdS X.K A E fun σ => LL.M.pure (.ret (.v .non), σ)) := by
  refine ps_imp ps_retN fun D σV H h => ?_
  obtain ⟨F, G, ρ, ω, S, σ, m, e, aft⟩ := h
  exact aft G ρ ω H (Ext.refl G) List.prefix_rfl List.prefix_rfl m .non .non
theorem rs_pass : PS X (.Pass pos) (rdS X.K A E fun σ => LL.M.pure (.next, σ)) := by
  refine ps_imp ps_pass fun D σV H h => ?_
  obtain ⟨F, G, ρ, ω, S, σ, m, e, aft⟩ := h
  exact aft G ρ ω H (Ext.refl G) List.prefix_rfl List.prefix_rfl m σV e
theorem rs_ex (ha : PE X a (rdE X.K A (WS E) Ma)) (hs : swapsWith a none pos.line X.env = pure false) : PS X (.Expr a pos) (rdS X.K A E fun σ => Ma σ >>= fun _ => LL.M.pure (.next, σ)) := by
  refine ps_imp (ps_expr ha hs) fun D σV H h => eS h ?_
  intro F G ρ ω S σ r v H1 m e rv aft
  exact aft G ρ ω H1 (Ext.refl G) List.prefix_rfl List.prefix_rfl m σV e
def asgM (tg : LL.Tg) (Ma : LL.Env → LL.M LL.Rv) : LL.Env → LL.M (LL.Fl × LL.Env) := fun σ => Ma σ >>= fun x => x.tree >>= fun t => LL.bindTg tg t σ >>= fun σ' => LL.M.pure (.next, σ')
theorem asg_go {K : PySem.W.Frag} {tgt : LL.Tg} {D : Ends} {σV : L2.St} {H : Hp} (h : rdS K A E (asgM tgt Ma) D σV H) : tAsg (rdE K A (WS E) Ma) (gOf K tgt) D σV H := by
  refine eS h ?_
  intro F G ρ ω S σ r v H1 m e rv aft
  obtain ⟨G2, eG2, m2, hv⟩ := rv.hold m
  obtain ⟨t, et, aft1⟩ := AftS.tree aft
  have rt := hold_tree hv et
  rw [M_bind] at aft1
  cases hb : LL.bindTg tgt t σ S with
  | bad => rw [hb] at aft1; exact aft1.elim
  | exc c S' =>
    exfalso
    cases tgt with
    | n i => cases hb
    | tp is =>
      cases t <;> try (cases hb; done)
      rename_i xs
      have h' : LL.M.opt (LL.bindTs is xs σ) S = LL.Res.exc c S' := hb
      cases hq : LL.bindTs is xs σ with
      | none => rw [hq] at h'; cases h'
      | some z => rw [hq] at h'; cases h'
  | ok σ' S' =>
    rw [hb] at aft1
    obtain ⟨rfl, k⟩ := gOf_run m2 (e.mono eG2 List.prefix_rfl List.prefix_rfl) rt hb
    exact k _ fun σV' e' _ => aft1 G2 ρ ω H1 eG2 List.prefix_rfl List.prefix_rfl m2 σV' e'
theorem rs_asg {tg : Expr} {tgt : LL.Tg} (ha : PE X a (rdE X.K A (WS E) Ma)) (hg : PG X tg (gOf X.K tgt)) (hs : swapsWithSole [tg] a pos.line X.env = pure false) (hw : swappedStores [tg] a X.env = pure none) (h1 : (assignEach [tg] X.env).map (·.2) = [assign tg X.env]) :
    PS X (.Assign [tg] a pos) (rdS X.K A E (asgM tgt Ma)) :=
  ps_imp (ps_asg ha hg hs hw h1) fun D σV H h => asg_go h
theorem rs_set {i : Nat} {x : Str} {p : Pos} (hN : X.N.Nodup) (hi : X.N[i]? = some x) (hx : Loc X.env.scope x) (ha : PE X a (rdE X.K A (WS E) Ma)) (hs : swapsWith a (some (.Name x p)) pos.line X.env = pure false) (hf : X.fn x = true ∨ X.env.scope.names.lookup x = some .local) :
    PS X (.Assign [.Name x p] a pos) (rdS X.K A E (asgM (.n i) Ma)) :=
  ps_imp (ps_set hN hi hx ha hs hf) fun D σV H h => asg_go h
def newM (i : Nat) (Ma : LL.Env → LL.M LL.Rv) : LL.Env → LL.M (LL.Fl × LL.Env) := fun σ => Ma σ >>= fun x => match x with
  | .new xs => fun s => .ok (.next, σ.set i (some (.l s.L.length))) { s with L := s.L ++ [xs] }
  | _ => LL.M.bad
theorem new_go {K : PySem.W.Frag} {i : Nat} {D : Ends} {σV : L2.St} {H : Hp} (h : rdS K A E (newM i Ma) D σV H) : tAsg (rdE K A (WS E) Ma) (gName i) D σV H := by
  refine eS h ?_
  intro F G ρ ω S σ r v H1 m e rv aft
  cases r with
  | v t => exact aft.elim
  | l n => exact aft.elim
  | new xs =>
    obtain ⟨p, vs, rfl, h1, h2, h3, h4, h5, h6⟩ := rv
    have m2 := m.push h1 h2 h4 h5 h6
    have pr : ρ <+: ρ ++ [p] := List.prefix_append _ _
    refine aft G (ρ ++ [p]) ω H1 (Ext.refl G) pr List.prefix_rfl m2 _ ((e.mono (Ext.refl G) pr List.prefix_rfl).set (w := .l S.L.length) ?_ i)
    refine ⟨p, ?_, rfl⟩
    rw [← m.ln, List.getElem?_append_right (Nat.le_refl _)]
    simp
theorem rs_new {i : Nat} {x : Str} {p : Pos} (hN : X.N.Nodup) (hi : X.N[i]? = some x) (hx : Loc X.env.scope x) (ha : PE X a (rdE X.K A (WS E) Ma)) (hs : swapsWith a (some (.Name x p)) pos.line X.env = pure false) (hf : X.fn x = true ∨ X.env.scope.names.lookup x = some .local) :
    PS X (.Assign [.Name x p] a pos) (rdS X.K A E (newM i Ma)) :=
  ps_imp (ps_set hN hi hx ha hs hf) fun D σV H h => new_go h
def parM (i j : Nat) (Ma Mb : LL.Env → LL.M LL.Rv) : LL.Env → LL.M (LL.Fl × LL.Env) := fun σ => Ma σ >>= fun x => Mb σ >>= fun y => x.tree >>= fun u => y.tree >>= fun v => LL.M.pure (.next, (σ.set i (some (.t u))).set j (some (.t v)))
theorem rs_par {i j : Nat} {x y : Str} {px py pt : Pos} {kt k2 pt2} (hc : X.calm = true) (hN : X.N.Nodup) (hi : X.N[i]? = some x) (hj : X.N[j]? = some y) (hij : i ≠ j) (hx : X.env.scope.names.lookup x = some .local) (hy : X.env.scope.names.lookup y = some .local)
    (ha : PE X a (rdE X.K A (WS E) Ma)) (hb : PE X b (rdE X.K A (WS E) Mb)) (hs1 : starEach [a, b] X.env = (false, eval a X.env) :: starEach [b] X.env) (hs2 : starEach [b] X.env = (false, eval b X.env) :: starEach [] X.env)
    (hw : swappedStores [.Tuple [.Name x px, .Name y py] kt pt] (.Tuple [a, b] k2 pt2) X.env = pure (some [x, y])) (hs : swapsWithSole [.Tuple [.Name x px, .Name y py] kt pt] (.Tuple [a, b] k2 pt2) pos.line X.env = pure false) :
    PS X (.Assign [.Tuple [.Name x px, .Name y py] kt pt] (.Tuple [a, b] k2 pt2) pos) (rdS X.K A E (parM i j Ma Mb)) := by
  refine ps_imp (ps_par hc hN hi hj hij hx hy (pa_cons ha (pa_cons hb pa_nil hs2) hs1) hw hs) fun D σV H h => ?_
  refine eS h ?_
  intro F G ρ ω S σ r v H1 m e rv aft
  obtain ⟨G2, eG2, m2, hv⟩ := rv.hold m
  have aft2 := AftS.bindE (AftS.mono eG2 List.prefix_rfl List.prefix_rfl aft)
  refine ⟨F, G2, ρ, ω, S, σ, m2, e.mono eG2 List.prefix_rfl List.prefix_rfl, aft2.imp ?_⟩
  intro r2 S3 G3 ω3 H3 eG3 p3 m3 aft3 w rw
  obtain ⟨G4, eG4, m4, hw4⟩ := rw.hold m3
  obtain ⟨t, et, aft4⟩ := AftS.tree aft3
  obtain ⟨u, eu, aft5⟩ := AftS.tree aft4
  have rt := hold_tree (hv.mono (eG3.trans eG4) List.prefix_rfl p3) et
  have ru := hold_tree hw4 eu
  have e4 := e.mono ((eG2.trans eG3).trans eG4) (List.prefix_rfl (l := ρ)) p3
  exact ⟨v, w, rfl, aft5 G4 ρ ω3 H3 eG4 List.prefix_rfl List.prefix_rfl m4 _ ((e4.set (w := .t t) rt i).set (w := .t u) ru j)⟩
theorem rs_raise {c : Nat} {C : Addr} {bmB : List Value} {B newId initId : String} {x m : Str} {j : Nat} {p p2 p3 : Pos} (hc : X.calm = true) (tk : Takes X (WS E)) (F : ExcBaseFacts B newId initId bmB) (q : PySem.W.excIn X.K C bmB newId = true) (gC : X.mg x = some (.ref C)) (kC : PySem.W.keepIn X.K (.ref C) = true) (r : Raises X (.ref C)) (hg : Gl X x)
    (hdb : (x == ("__debug__" : Str)) = false) (hA : A.exc c = some C) : PS X (.Raise (some (.Call (.Name x p) [.Constant (.str m) j p2] [] p3)) none pos) (rdS X.K A E fun _ => LL.M.exc c) := by
  refine ps_imp (ps_raise hc tk (pmk_own F q gC kC r hg hdb)) fun D σV H h => ?_
  obtain ⟨F, G, ρ, ω, S, σ, m, e, aft⟩ := h
  exact aft G ρ ω H (Ext.refl G) List.prefix_rfl List.prefix_rfl m C hA
theorem rs_nil : PSs X [] (rdS X.K A E fun σ => LL.M.pure (.next, σ)) := by
  refine pss_imp pss_nil fun D σV H h => ?_
  obtain ⟨F, G, ρ, ω, S, σ, m, e, aft⟩ := h
  exact aft G ρ ω H (Ext.refl G) List.prefix_rfl List.prefix_rfl m σV e
def seqM (M1 M2 : LL.Env → LL.M (LL.Fl × LL.Env)) : LL.Env → LL.M (LL.Fl × LL.Env) := fun σ => M1 σ >>= fun fe => match fe.1 with
  | .next => M2 fe.2
  | f => LL.M.pure (f, fe.2)
theorem rs_cons (h1 : PS X st (rdS X.K A E M1)) (h2 : PSs X sts (rdS X.K A E M2)) : PSs X (st :: sts) (rdS X.K A E (seqM M1 M2)) := by
  refine pss_imp (pss_cons h1 h2) fun D σV H h => ?_
  obtain ⟨F, G, ρ, ω, S, σ, m, e, aft⟩ := h
  refine ⟨F, G, ρ, ω, S, σ, m, e, (AftS.bind aft).imp ?_⟩
  rintro ⟨f, σ'⟩ S1 G1 ρ1 ω1 H1 eG q p m1 aft1
  cases f with
  | next => exact fun σV' e' => ⟨F, G1, ρ1, ω1, S1, σ', m1, e', aft1⟩
  | brk => exact aft1 G1 ρ1 ω1 H1 (Ext.refl _) List.prefix_rfl List.prefix_rfl m1
  | cont => exact aft1 G1 ρ1 ω1 H1 (Ext.refl _) List.prefix_rfl List.prefix_rfl m1
  | ret r => exact aft1 G1 ρ1 ω1 H1 (Ext.refl _) List.prefix_rfl List.prefix_rfl m1
theorem rs_ite {c : Expr} {p q : List Stmt} (hc : PT X c (rdT X.K A (WS E) Mt)) (h1 : PSs X p (rdS X.K A E M1)) (h2 : PSs X q (rdS X.K A E M2)) : PS X (.If c p q pos) (rdS X.K A E (iteM Mt M1 M2)) := by
  refine ps_imp (ps_if hc h1 h2) fun D σV H h => ?_
  obtain ⟨F, G, ρ, ω, S, σ, m, e, aft⟩ := h
  refine ⟨F, G, ρ, ω, S, σ, m, e, (AftS.bindE aft).imp ?_⟩
  intro b S1 G1 ω1 H1 eG p m1 aft1
  show (if b = true then _ else _)
  cases b with
  | true => rw [if_pos rfl]; exact ⟨F, G1, ρ, ω1, S1, σ, m1, e.mono eG List.prefix_rfl p, aft1⟩
  | false => rw [if_neg (by simp)]; exact ⟨F, G1, ρ, ω1, S1, σ, m1, e.mono eG List.prefix_rfl p, aft1⟩
def loopM (tg : LL.Tg) (Mi : LL.Env → LL.M LL.Src) (M1 : LL.Env → LL.M (LL.Fl × LL.Env)) : LL.Env → LL.M (LL.Fl × LL.Env) := fun σ => Mi σ >>= fun src => LL.forLoop src.watch (fun x σ => LL.bindTg tg x σ >>= fun σ' => M1 σ') src.items σ
theorem aft_watch {β : Type} {K : PySem.W.Frag} {A : Ad} {W : WA} {G : Hp} {ρ ω : List Addr} {ws : List (Nat × List LL.T)} {f : Unit → LL.M β} {S : LL.Sto} {k : β → LL.Sto → Hp → List Addr → List Addr → Hp → Prop} (h : AftS K A W G ρ ω k ((LL.M.watch ws >>= f) S)) : LL.watchOk S ws = true ∧ AftS K A W G ρ ω k (f () S) := by
  rw [M_bind] at h
  unfold LL.M.watch at h
  by_cases z : LL.watchOk S ws = true
  · rw [if_pos z] at h; exact ⟨z, h⟩
  · rw [if_neg z] at h; exact h.elim
theorem rs_loop {tg iter : Expr} {tgt : LL.Tg} {Mi : LL.Env → LL.M LL.Src} {body : List Stmt} (hp : PassesOwn (model X.prog X.w) X.A X.env X.xe) (hc : X.calm = true) (hi : PI X tg iter (rdI X.K A (WS E) Mi)) (hg : PG X tg (gOf X.K tgt)) (hb : PSs X body (rdS X.K A E M1))
    (hs : ∀ x, foldedSetIterable iter X.env x = pure x) : PS X (.For tg iter body [] pos) (rdS X.K A E (loopM tgt Mi M1)) := by
  refine ps_imp (ps_for hp hc hi hg hb hs) fun D σV H h => ?_
  obtain ⟨F, G, ρ, ω, S, σ, m, e, aft⟩ := h
  refine ⟨F, G, ρ, ω, S, σ, m, e, (AftS.bindE aft).imp ?_⟩
  intro src S1 G1 ω1 H1 eG p m1 aft1 J itok
  have e1 := e.mono eG (List.prefix_rfl (l := ρ)) p
  refine ⟨fun i n σV H => n = src.items.length - i ∧ i ≤ src.items.length ∧ ∃ G' ρ' ω' S' σ', Ext G1 G' ∧ ρ <+: ρ' ∧ ω1 <+: ω' ∧ MS X.K (A.at F) G' ρ' ω' S' H ∧ RepE X.K (A.at F) G' ρ' ω' σ' σV ∧
      AftS X.K (A.at F) (WCE A E) G' ρ' ω' (PSt X.K D (A.at F)) (LL.forLoop src.watch (fun x σ => LL.bindTg tgt x σ >>= fun σ' => M1 σ') (src.items.drop i) σ' S'),
    ⟨_, rfl, Nat.zero_le _, G1, ρ, ω1, S1, σ, Ext.refl _, List.prefix_rfl, List.prefix_rfl, m1, e1, aft1⟩, ?_⟩
  rintro i n σV2 H2 ⟨rfl, hi2, G', ρ', ω', S', σ', eG', q', p', m', e', aft'⟩
  by_cases hlt : i < src.items.length
  · have hx : src.items[i]? = some src.items[i] := List.getElem?_eq_getElem hlt
    generalize src.items[i] = x at hx
    have hd : src.items.drop i = x :: src.items.drop (i + 1) := by
      rw [List.drop_eq_getElem_cons hlt]
      congr 1
      rw [List.getElem?_eq_getElem hlt] at hx
      cases hx; rfl
    rw [hd] at aft'
    unfold LL.forLoop at aft'
    obtain ⟨wok, aft2⟩ := aft_watch aft'
    obtain ⟨go, _⟩ := itok F G' ρ' ω' S' H2 eG' q' p' m' wok
    obtain ⟨g1, g2⟩ := go i x hx
    refine .inr ⟨g1, fun σV H => i + 1 ≤ src.items.length ∧ ∃ G' ρ' ω' S' σ', Ext G1 G' ∧ ρ <+: ρ' ∧ ω1 <+: ω' ∧ MS X.K (A.at F) G' ρ' ω' S' H ∧ RepE X.K (A.at F) G' ρ' ω' σ' σV ∧
        AftS X.K (A.at F) (WCE A E) G' ρ' ω' (PSt X.K D (A.at F)) (LL.forLoop src.watch (fun x σ => LL.bindTg tgt x σ >>= fun σ' => M1 σ') (src.items.drop (i + 1)) σ' S'),
      fun σV' H' ⟨q1, q⟩ => ⟨_, by omega, rfl, q1, q⟩, fun v H3 y => ?_⟩
    obtain ⟨G3, eG3, m3, r3⟩ := g2 v H3 y
    have aft3 := AftS.mono eG3 List.prefix_rfl List.prefix_rfl aft2
    rw [M_assoc, M_bind] at aft3
    cases hbd : LL.bindTg tgt x σ' S' with
    | bad => rw [hbd] at aft3; exact aft3.elim
    | exc c S'' =>
      exfalso
      cases tgt with
      | n i => cases hbd
      | tp is =>
        cases x <;> try (cases hbd; done)
        rename_i xs
        have h' : LL.M.opt (LL.bindTs is xs σ') S' = LL.Res.exc c S'' := hbd
        cases hq : LL.bindTs is xs σ' with
        | none => rw [hq] at h'; cases h'
        | some z => rw [hq] at h'; cases h'
    | ok σ'' S'' =>
      rw [hbd] at aft3
      obtain ⟨rfl, kg⟩ := gOf_run m3 (e'.mono eG3 List.prefix_rfl List.prefix_rfl) r3 hbd
      refine kg _ fun σV' e'' _ => ⟨F, G3, ρ', ω', S'', σ'', m3, e'', (AftS.bind aft3).imp ?_⟩
      rintro ⟨f, σ4⟩ S4 G4 ρ4 ω4 H4 eG4 q4 p4 m4 aft4
      cases f with
      | next => exact fun σV5 e5 => ⟨hlt, G4, ρ4, ω4, S4, σ4, (eG'.trans eG3).trans eG4, q'.trans q4, p'.trans p4, m4, e5, aft4⟩
      | cont => exact fun σV5 e5 => ⟨hlt, G4, ρ4, ω4, S4, σ4, (eG'.trans eG3).trans eG4, q'.trans q4, p'.trans p4, m4, e5, aft4⟩
      | brk => exact aft4 G4 ρ4 ω4 H4 (Ext.refl _) List.prefix_rfl List.prefix_rfl m4
      | ret r => exact aft4 G4 ρ4 ω4 H4 (Ext.refl _) List.prefix_rfl List.prefix_rfl m4
  · have hii : i = src.items.length := by omega
    subst hii
    rw [List.drop_length] at aft'
    unfold LL.forLoop at aft'
    obtain ⟨wok, aft2⟩ := aft_watch aft'
    obtain ⟨_, stop⟩ := itok F G' ρ' ω' S' H2 eG' q' p' m' wok
    exact .inl ⟨stop, aft2 G' ρ' ω' H2 (Ext.refl _) List.prefix_rfl List.prefix_rfl m' σV2 e'⟩
theorem rs_while {c : Expr} {body : List Stmt} {n : Nat} (hp : PassesOwn (model X.prog X.w) X.A X.env X.xe) (hc : PT X c (rdT X.K A (WS E) Mt)) (hb : PSs X body (rdS X.K A E M1)) : PS X (.While c body [] pos) (rdS X.K A E fun σ => LL.whileLoop Mt M1 n σ) := by
  refine ps_imp (ps_while hp hc hb) fun D σV H h => ?_
  refine ⟨fun n σV H => rdS X.K A E (fun σ => LL.whileLoop Mt M1 n σ) D σV H, ⟨n, h⟩, ?_⟩
  rintro n σV H ⟨F, G, ρ, ω, S, σ, m, e, aft⟩
  cases n with
  | zero => exact aft.elim
  | succ n =>
    refine ⟨F, G, ρ, ω, S, σ, m, e, ?_⟩
    have aft' : AftS X.K (A.at F) (WCE A E) G ρ ω (PSt X.K D (A.at F)) ((Mt σ >>= fun b => if b then M1 σ >>= fun fe => (match fe.1 with | .next => LL.whileLoop Mt M1 n fe.2 | .cont => LL.whileLoop Mt M1 n fe.2 | .brk => LL.M.pure (.next, fe.2) | .ret v => LL.M.pure (.ret v, fe.2)) else LL.M.pure (.next, σ)) S) := aft
    refine (AftS.bindE aft').imp ?_
    intro b S1 G1 ω1 H1 eG p m1 aft1
    have e1 := e.mono eG (List.prefix_rfl (l := ρ)) p
    show (if b = true then _ else _)
    cases b with
    | false =>
      rw [if_neg (by simp)]
      exact aft1 G1 ρ ω1 H1 (Ext.refl _) List.prefix_rfl List.prefix_rfl m1 σV e1
    | true =>
      rw [if_pos rfl]
      refine ⟨fun σV' H' => rdS X.K A E (fun σ => LL.whileLoop Mt M1 n σ) D σV' H', fun σV' H' q => ⟨n, Nat.lt_succ_self n, q⟩, F, G1, ρ, ω1, S1, σ, m1, e1, (AftS.bind aft1).imp ?_⟩
      rintro ⟨f, σ4⟩ S4 G4 ρ4 ω4 H4 eG4 q4 p4 m4 aft4
      cases f with
      | next => exact fun σV5 e5 => ⟨F, G4, ρ4, ω4, S4, σ4, m4, e5, aft4⟩
      | cont => exact fun σV5 e5 => ⟨F, G4, ρ4, ω4, S4, σ4, m4, e5, aft4⟩
      | brk => exact aft4 G4 ρ4 ω4 H4 (Ext.refl _) List.prefix_rfl List.prefix_rfl m4
      | ret r => exact aft4 G4 ρ4 ω4 H4 (Ext.refl _) List.prefix_rfl List.prefix_rfl m4
end
end LLS

set_option Elab.async false
set_option linter.all false
set_option autoImplicit false
set_option maxRecDepth 100000
set_option maxHeartbeats 4000000
namespace LLS
open PySem PySem.Spec PyProof.Rows L2 PySem.SeqAt

/-! ### forms of syntax -/
def noStar : Expr → Bool
  | .Starred _ _ => false
  | _ => true
def noStars : List Expr → Bool
  | [] => true
  | e :: es => noStar e && noStars es
theorem star_cons {e : Expr} (h : noStar e = true) (es : List Expr) (env : Env) : starEach (e :: es) env = (false, eval e env) :: starEach es env := by
  cases e <;> first | rfl | cases h
theorem star_any (pos : Pos) (env : Env) : ∀ es : List Expr, noStars es = true → (backTo pos (starEach es env)).any (·.1) = false
  | [], _ => rfl
  | e :: es, h => by
    simp only [noStars, Bool.and_eq_true] at h
    rw [star_cons h.1]
    have ih := star_any pos env es h.2
    simp only [backTo, List.map_cons, List.any_cons, Bool.false_or] at ih ⊢
    exact ih
theorem star_all (pos : Pos) (env : Env) : ∀ es : List Expr, noStars es = true → (backTo pos (starEach es env)).all (fun x => !x.1) = true
  | [], _ => rfl
  | e :: es, h => by
    simp only [noStars, Bool.and_eq_true] at h
    rw [star_cons h.1]
    have ih := star_all pos env es h.2
    simp only [backTo, List.map_cons, List.all_cons, Bool.not_false, Bool.true_and] at ih ⊢
    exact ih
def baseOk : Expr → Bool
  | .Call (.Name _ _) [] [] _ => false
  | _ => true
theorem base_ok {o : Expr} (h : baseOk o = true) (name : Str) (env : Env) : attributeBase o name env (eval o env) = eval o env := by
  unfold attributeBase
  split
  · exact absurd h (by simp [baseOk])
  · rfl
def plainIx : Expr → Bool
  | .Slice _ _ _ _ => false
  | _ => true
theorem plain_ix {b : Expr} (h : plainIx b = true) : PlainIx b := by
  intro o i
  cases b <;> first | rfl | cases h
def noSet : Expr → Bool
  | .Set _ _ _ => false
  | _ => true
theorem folded_ok {e : Expr} (h : noSet e = true) (env : Env) : ∀ x, foldedSetIterable e env x = pure x := by
  intro x
  unfold foldedSetIterable
  cases e <;> first | rfl | cases h
theorem behind_ok {e : Expr} (h : noSet e = true) (op : CmpOp) : behindInMarks op e = false := by
  cases e <;> first | rfl | cases h
theorem last_ok {a b : Expr} (h : noSet b = true) (op op' : CmpOp) : lastMarks [op, op'] [a, b] = false := behind_ok h op'
def plainT : Expr → Bool
  | .UnaryOp .Not _ _ => false
  | .BoolOp _ _ _ => false
  | .IfExp _ _ _ _ => false
  | .Compare _ _ _ _ => false
  | _ => true
theorem plain_T {e : Expr} (h : plainT e = true) (env : Env) : ∀ whole, PySem.isTrue e env whole = (do let v ← whole; standAt e.pos; holding [v] (truthy v)) := by
  intro whole
  unfold PySem.isTrue
  split <;> first | rfl | exact absurd h (by simp [plainT])
def noComp : Expr → Bool
  | .ListComp _ _ _ _ => false
  | .SetComp _ _ _ _ => false
  | .DictComp _ _ _ _ _ => false
  | _ => true
theorem swap_ok {e : Expr} (h : noComp e = true) (t : Option Expr) (l : Nat) (env : Env) : swapsWith e t l env = pure false := by
  unfold swapsWith
  cases e <;> first | rfl | cases h
def noTuple : Expr → Bool
  | .Tuple _ _ _ => false
  | _ => true
theorem stores_none {e : Expr} (h : noTuple e = true) (ts : List Expr) (k : Nat) (p : Pos) (env : Env) : swappedStores [.Tuple ts k p] e env = pure none := by
  cases e <;> first | rfl | cases h
theorem stores_folded {vs : List Expr} (h : vs.all (foldedForSure 8) = true) (ts : List Expr) (k : Nat) (p : Pos) (k2 : Nat) (p2 : Pos) (env : Env) : swappedStores [.Tuple ts k p] (.Tuple vs k2 p2) env = pure none := by
  unfold swappedStores
  dsimp only
  rw [if_pos h]
  repeat' split
  all_goals rfl
theorem stores_long {vs ts : List Expr} (h : (ts.length == 2 || ts.length == 3) = false) (k : Nat) (p : Pos) (k2 : Nat) (p2 : Pos) (env : Env) : swappedStores [.Tuple ts k p] (.Tuple vs k2 p2) env = pure none := by
  unfold swappedStores
  dsimp only
  rw [if_pos (by rw [h]; rfl)]
theorem stores_par {x y : Str} {px py pt pt2 : Pos} {kt k2 : Nat} {a b : Expr} {env : Env} (hk : env.scope.kind = .function) (hx : env.scope.names.lookup x = some .local) (hy : env.scope.names.lookup y = some .local) (hl : (py.line == px.line) = true) (hxy : (x == y) = false)
    (ha : noStar a = true) (hb : noStar b = true) (h1 : [a, b].all (foldedForSure 8) = false) (h2 : [a, b].all (constantsAlone 8) = false) : swappedStores [.Tuple [.Name x px, .Name y py] kt pt] (.Tuple [a, b] k2 pt2) env = pure (some [x, y]) := by
  have hbk : env.blockKind = .function := by unfold Env.blockKind; rw [hk]; rfl
  have e1 : ∀ f : Expr → Bool, (∀ e, noStar e = true → f e = false) → ¬ ([a, b].any f = true) := fun f hf => by simp [hf a ha, hf b hb]
  have kx : (env.kindOf x == some NameKind.local) = true := by unfold Env.kindOf; rw [hx]; rfl
  have ky : (env.kindOf y == some NameKind.local) = true := by unfold Env.kindOf; rw [hy]; rfl
  have px1 : ((Expr.Name x px).pos.line) = px.line := rfl
  have ed : [x, y].eraseDups = [x, y] := by
    have hyx : (y == x) = false := by
      rw [beq_eq_false_iff_ne] at hxy ⊢
      exact fun e => hxy e.symm
    simp [List.eraseDups_cons, hyx]
  unfold swappedStores
  dsimp only
  rw [if_neg (by rw [hbk]; show ¬ (false = true); decide), if_neg (e1 _ fun e he => by cases e <;> first | rfl | cases he)]
  simp only [List.filterMap_cons, List.filterMap_nil, kx, ky, List.head?_cons, Option.map_some, Option.getD_some, px1, hl, Bool.and_true, beq_self_eq_true, if_true, h1, h2]
  rw [if_neg (by rw [ed]; show ¬ (false = true); decide)]
  rfl
end LLS

set_option Elab.async false
set_option linter.all false
set_option autoImplicit false
set_option maxRecDepth 100000
set_option maxHeartbeats 4000000
namespace LLS
open PySem PySem.Spec PyProof.Rows L2 PySem.SeqAt

/-! ### the checker: does a def's text say what the resolved syntax says -/
structure Nms where
  fn : List (Option (Str × Nat))
  glo : List (Option Str)
  exc : List (Option Str)
/-- the name of a number -/
def ng? (N : List (Option Str)) (i : Nat) (x : Str) : Bool := match N[i]? with | some (some y) => y == x | _ => false
theorem ng_ok {N : List (Option Str)} {i : Nat} {x : Str} (h : ng? N i x = true) : N[i]? = some (some x) := by
  unfold ng? at h
  split at h
  · rename_i y hy; rw [hy, eq_of_beq h]
  · cases h
def dbg (x : Str) : Bool := (x == ("__debug__" : Str)) || (x == ("__classdict__" : Str))
def isLoc (sc : Scope) (x : Str) : Bool := match sc.names.lookup x with | some .local => true | _ => false
def isCel (sc : Scope) (x : Str) : Bool := match sc.names.lookup x with | some .cell => true | _ => false
def isFre (sc : Scope) (x : Str) : Bool := match sc.names.lookup x with | some .free => true | _ => false
def isGl (sc : Scope) (x : Str) : Bool := match sc.names.lookup x with | some .globalImplicit => true | _ => false
theorem isLoc_ok {sc : Scope} {x : Str} (h : isLoc sc x = true) : sc.names.lookup x = some .local := by
  unfold isLoc at h; split at h <;> first | assumption | cases h
theorem isCel_ok {sc : Scope} {x : Str} (h : isCel sc x = true) : sc.names.lookup x = some .cell := by
  unfold isCel at h; split at h <;> first | assumption | cases h
theorem isFre_ok {sc : Scope} {x : Str} (h : isFre sc x = true) : sc.names.lookup x = some .free := by
  unfold isFre at h; split at h <;> first | assumption | cases h
theorem isGl_ok {sc : Scope} {x : Str} (h : isGl sc x = true) : sc.names.lookup x = some .globalImplicit := by
  unfold isGl at h; split at h <;> first | assumption | cases h
def at? (N : List Str) (i : Nat) (x : Str) : Bool := match N[i]? with | some y => y == x | none => false
theorem at_ok {N : List Str} {i : Nat} {x : Str} (h : at? N i x = true) : N[i]? = some x := by
  unfold at? at h
  split at h
  · rename_i y hy; rw [hy, eq_of_beq h]
  · cases h
def chkVar (N : List Str) (sc : Scope) (i : Nat) : Expr → Bool
  | .Name x _ => at? N i x && (isLoc sc x || isCel sc x || isFre sc x) && !dbg x
  | _ => false
/-- a name that is stored to -/
def chkSt (N : List Str) (sc : Scope) (cel : Option (List (Str × NameKind))) (i : Nat) : Expr → Bool
  | .Name x _ => at? N i x && (isLoc sc x || (isCel sc x && (match cel with | none => true | some ns => ns.lookup x == some .cell)))
  | _ => false
def chkSts (N : List Str) (sc : Scope) (cel : Option (List (Str × NameKind))) : List Nat → List Expr → Bool
  | [], [] => true
  | i :: is, e :: es => chkSt N sc cel i e && chkSts N sc cel is es
  | _, _ => false
def chkTg (N : List Str) (sc : Scope) (cel : Option (List (Str × NameKind))) : LL.Tg → Expr → Bool
  | .n i, e => chkSt N sc cel i e
  | .tp is, .Tuple es _ _ => chkSts N sc cel is es && allNames es
  | .tp _, _ => false
def chkC : LL.T → Expr → Bool
  | .int i, .Constant (.int j) _ _ => i == j
  | .bl i, .Constant (.bool j) _ _ => i == j
  | .non, .Constant .none _ _ => true
  | .str s, .Constant (.str x) _ _ => x == toS s
  | _, _ => false
def isCmp : LL.E → Bool
  | .cmp _ _ _ => true
  | .cmp2 _ _ _ _ _ => true
  | _ => false
def pairsOf (N : List Str) (own : List Nat) : List (Str × Nat) := own.map fun i => (N.getD i Str.empty, i)
def call1 : Expr → Option (Str × Expr)
  | .Call (.Name x _) [y] [] _ => some (x, y)
  | _ => none
def call2 : Expr → Option (Str × Expr × Expr)
  | .Call (.Name x _) [y, z] [] _ => some (x, y, z)
  | _ => none
def call3 : Expr → Option (Str × Expr × Expr × Expr)
  | .Call (.Name x _) [y, z, w] [] _ => some (x, y, z, w)
  | _ => none
theorem call3_ok {e y z w : Expr} {x : Str} (h : call3 e = some (x, y, z, w)) : ∃ p q, e = .Call (.Name x p) [y, z, w] [] q := by
  unfold call3 at h
  split at h
  · cases h; exact ⟨_, _, rfl⟩
  · cases h
def isTup : Expr → Bool
  | .Tuple _ _ _ => true
  | _ => false
theorem call1_ok {e y : Expr} {x : Str} (h : call1 e = some (x, y)) : ∃ p q, e = .Call (.Name x p) [y] [] q := by
  unfold call1 at h
  split at h
  · cases h; exact ⟨_, _, rfl⟩
  · cases h
theorem call2_ok {e y z : Expr} {x : Str} (h : call2 e = some (x, y, z)) : ∃ p q, e = .Call (.Name x p) [y, z] [] q := by
  unfold call2 at h
  split at h
  · cases h; exact ⟨_, _, rfl⟩
  · cases h
theorem isTup_ok {e : Expr} (h : isTup e = true) : ∃ es k p, e = .Tuple es k p := by
  unfold isTup at h
  split at h
  · exact ⟨_, _, _, rfl⟩
  · cases h
mutual
def chkE (n : Nms) (N : List Str) (sc : Scope) : LL.E → Expr → Bool
  | .var i, e => chkVar N sc i e
  | .c t, e => chkC t e
  | .glo g, .Name x _ => ng? n.glo g x && isGl sc x && !dbg x
  | .tup es, .Tuple xs _ _ => chkEs n N sc es xs
  | .lst es, .List xs _ => chkEs n N sc es xs
  | .bin op a b, .BinOp x o y _ => (o == binOp op) && chkE n N sc a x && chkE n N sc b y
  | .neg a, .UnaryOp .USub x _ => chkE n N sc a x
  | .cmp op a b, .Compare x [o] [y] _ => (o == cmpOp op) && chkE n N sc a x && chkE n N sc b y && noSet y
  | .cmp2 op op' a b c, .Compare x [o, o'] [y, z] _ => (o == cmpOp op) && (o' == cmpOp op') && chkE n N sc a x && chkE n N sc b y && chkE n N sc c z && noSet z
  | .and a b, .BoolOp .And (x :: y :: rest) p => chkE n N sc a x && (match rest with | [] => chkE n N sc b y | r :: rest => chkE n N sc b (.BoolOp .And (y :: r :: rest) p))
  | .or a b, .BoolOp .Or (x :: y :: rest) p => chkE n N sc a x && (match rest with | [] => chkE n N sc b y | r :: rest => chkE n N sc b (.BoolOp .Or (y :: r :: rest) p))
  | .not a, .UnaryOp .Not x _ => chkE n N sc a x
  | .ite t a b, .IfExp c x y _ => chkT n N sc t c && chkE n N sc a x && chkE n N sc b y
  | .call f es, .Call (.Name x _) (y :: ys) [] _ => (match n.fn[f]? with | some (some (z, k)) => z == x && k == (y :: ys).length | _ => false) && isGl sc x && !dbg x && chkEs n N sc es (y :: ys) && noStars (y :: ys)
  | .bi b es, .Call (.Name x _) (y :: ys) [] _ => (x == biN b) && isGl sc x && chkEs n N sc es (y :: ys) && noStars (y :: ys)
  | .isi a t, .Call (.Name x _) [y, .Name z _] [] _ => (x == ("isinstance" : Str)) && (z == tyN t) && isGl sc x && isGl sc z && chkE n N sc a y && noStar y
  | .me m o es, .Call (.Attribute ob name apos) (y :: ys) [] cpos => meOk m && (name == (meN m : Str)) && chkE n N sc o ob && baseOk ob && chkEs n N sc es (y :: ys) && noStars (y :: ys) && (apos.endLine == cpos.line) && decide ((y :: ys).length < 20)
  | .ix a b, .Subscript x y _ => chkE n N sc a x && chkE n N sc b y && plainIx y
  | .sl a lo hi, .Subscript x (.Slice l h none _) _ => chkE n N sc a x && chkO n N sc lo l && chkO n N sc hi h
  | .rev a, .Subscript x (.Slice none none (some (.UnaryOp .USub (.Constant (.int j) _ _) _)) _) _ => (j == 1) && chkE n N sc a x
  | .lc own elt tg it cond, .ListComp ex [⟨tx, ix, ifs, 0⟩] scope _ => chkIt n N sc it tx ix && noSet ix && blkC N sc scope (pairsOf N own) && chkTg N (relS scope sc) (some scope.names) tg tx && (tgIx tg).all (fun i => own.contains i) && chkCs n N (relS scope sc) cond ifs && chkE n N (relS scope sc) elt ex
  | .lc2 own own1 elt tg it cond tg1 it1 cond1, .ListComp ex [⟨tx, ix, ifs, 0⟩, ⟨tx1, ix1, ifs1, 0⟩] scope _ => chkIt n N sc it tx ix && noSet ix && blkC N sc scope (pairsOf N own) && chkTg N (relS scope sc) (some scope.names) tg tx && (tgIx tg).all (fun i => own.contains i) && chkCs n N (relS scope sc) cond ifs && chkIt n N (relS scope sc) it1 tx1 ix1 && noSet ix1 && chkTg N (relS scope sc) (some scope.names) tg1 tx1 && (tgIx tg1).all (fun i => own1.contains i) && own1.all (fun i => own.contains i) && chkCs n N (relS scope sc) cond1 ifs1 && chkE n N (relS scope sc) elt ex
  | _, _ => false
def chkEs (n : Nms) (N : List Str) (sc : Scope) : LL.Es → List Expr → Bool
  | .nil, [] => true
  | .cons a r, e :: es => chkE n N sc a e && chkEs n N sc r es && noStar e
  | _, _ => false
def chkO (n : Nms) (N : List Str) (sc : Scope) : LL.Eo → Option Expr → Bool
  | .no, none => true
  | .yes a, some e => chkE n N sc a e
  | _, _ => false
def chkT (n : Nms) (N : List Str) (sc : Scope) : LL.Te → Expr → Bool
  | .val a, e => chkE n N sc a e && (isCmp a || plainT e)
  | .and a b, .BoolOp .And (x :: y :: rest) p => chkT n N sc a x && (match rest with | [] => chkT n N sc b y | r :: rest => chkT n N sc b (.BoolOp .And (y :: r :: rest) p))
  | .or a b, .BoolOp .Or (x :: y :: rest) p => chkT n N sc a x && (match rest with | [] => chkT n N sc b y | r :: rest => chkT n N sc b (.BoolOp .Or (y :: r :: rest) p))
  | .not a, .UnaryOp .Not x _ => chkT n N sc a x
  | _, _ => false
def chkCs (n : Nms) (N : List Str) (sc : Scope) : LL.Tes → List Expr → Bool
  | .no, [] => true
  | .yes t, [e] => chkT n N sc t e
  | _, _ => false
def chkIt (n : Nms) (N : List Str) (sc : Scope) : LL.It → Expr → Expr → Bool
  | .e a, _, e => chkE n N sc a e
  | .rng a, _, e => (match call1 e with | some (x, y) => (x == ("range" : Str)) && isGl sc x && chkE n N sc a y && noStar y | none => false)
  | .rng2 a b, _, e => (match call2 e with | some (x, y, z) => (x == ("range" : Str)) && isGl sc x && chkE n N sc a y && chkE n N sc b z && noStar y && noStar z | none => false)
  | .zip2 a b, tg, e => isTup tg && (match call2 e with | some (x, y, z) => (x == ("zip" : Str)) && isGl sc x && chkE n N sc a y && chkE n N sc b z && noStar y && noStar z | none => false)
  | .zip3 a b c, tg, e => isTup tg && (match call3 e with | some (x, y, z, w) => (x == ("zip" : Str)) && isGl sc x && chkE n N sc a y && chkE n N sc b z && chkE n N sc c w && noStar y && noStar z && noStar w | none => false)
  | .enum a, tg, e => isTup tg && (match call1 e with | some (x, y) => (x == ("enumerate" : Str)) && isGl sc x && chkE n N sc a y && noStar y | none => false)
end
end LLS

set_option Elab.async false
set_option linter.all false
set_option autoImplicit false
set_option maxRecDepth 100000
set_option maxHeartbeats 4000000
namespace LLS
open PySem PySem.Spec PyProof.Rows L2 PySem.SeqAt

def bltNames : List Str := ["len", "all", "any", "max", "int", "str", "bool", "tuple", "list", "sorted", "isinstance", "range", "zip", "enumerate"]
theorem bi_mem (b : LL.Bi) : biN b ∈ bltNames := by cases b <;> decide +kernel
theorem ty_mem (t : LL.Ty) : tyN t ∈ bltNames := by cases t <;> decide +kernel
theorem is_mem : ("isinstance" : Str) ∈ bltNames := by decide +kernel
theorem rng_mem : ("range" : Str) ∈ bltNames := by decide +kernel
theorem enum_mem : ("enumerate" : Str) ∈ bltNames := by decide +kernel
theorem zip_mem : ("zip" : Str) ∈ bltNames := by decide +kernel
structure Gd (X : Cx) (A : Ad) (C : LL.Ctx) (n : Nms) (k : Nat) (N : List Str) (sc : Scope) : Prop where
  eN : X.N = N
  nd : N.Nodup
  es : X.env.scope = sc
  kind : sc.kind = .function
  calm : X.calm = true
  room : Room k X.A
  call : ∀ (f : Nat) (x : Str) (np : Nat), n.fn[f]? = some (some (x, np)) → ∃ (a : Addr) (fd : FuncData) (ps : List Str), X.mg x = some (.ref a) ∧ PySem.W.keepIn X.K (.ref a) = true ∧ Binds X.K fd ps [] ∧ FnOk X.prog X.w X.K X.mg X.base (L2.CX X.prog X.w) k a fd ps (spOf X.K A (C.call f))
  glo : ∀ (g : Nat) (x : Str) (t : LL.T), n.glo[g]? = some (some x) → C.glo g = some t → ∃ v u, X.mg x = some u ∧ RelV v u ∧ ∀ A' G ω, A'.fn = A.fn → Rep X.K A' G ω t v
  blt : ∀ x ∈ bltNames, X.mg x = none
  exc : ∀ (c : Nat) (x : Str), n.exc[c]? = some (some x) → ∃ Cc bmB B newId initId, ExcBaseFacts B newId initId bmB ∧ PySem.W.excIn X.K Cc bmB newId = true ∧ X.mg x = some (.ref Cc) ∧ PySem.W.keepIn X.K (.ref Cc) = true ∧ Raises X (.ref Cc) ∧ A.exc c = some Cc
section
variable {X : Cx} {A : Ad} {C : LL.Ctx} {n : Nms} {k : Nat} {N : List Str} {sc : Scope} {Wx : WX}
theorem Gd.blk (g : Gd X A C n k N sc) {scope : Scope} (hk : scope.kind = .function) (s : Shared) (H : Hp) (Ca : Addr) (cl : List (Str × Addr)) (fp : List Addr) : Gd (X.blk s H scope (compEnvC scope cl Ca X.env) fp) A C n k N (relS scope sc) :=
  ⟨g.eN, g.nd, by rw [← g.es]; rfl, hk, g.calm, g.room, g.call, g.glo, g.blt, g.exc⟩
theorem Gd.gl (g : Gd X A C n k N sc) {x : Str} (h : isGl sc x = true) : Gl X x := by
  show X.env.scope.names.lookup x = _
  rw [g.es]; exact isGl_ok h
theorem Gd.units (g : Gd X A C n k N sc) : X.A.units + 64 < cLine := g.room.units
theorem chkVar_ok (g : Gd X A C n k N sc) {i : Nat} {e : Expr} (h : chkVar N sc i e = true) : PE X e (rdE X.K A Wx fun σ => LL.slotRv σ i) := by
  unfold chkVar at h
  split at h
  · rename_i x p
    simp only [Bool.and_eq_true, Bool.or_eq_true, Bool.not_eq_true', dbg, Bool.or_eq_false_iff] at h
    obtain ⟨⟨h1, h2⟩, h3, h4⟩ := h
    refine re_var (by rw [g.eN]; exact at_ok h1) ?_ h3 h4
    unfold Vis
    rw [g.es]
    rcases h2 with (h2 | h2) | h2
    · exact .inl (isLoc_ok h2)
    · exact .inr (.inl (isCel_ok h2))
    · exact .inr (.inr (isFre_ok h2))
  · cases h
/-- whether stores are kept by the context -/
def FnOk' (X : Cx) (cel : Option (List (Str × NameKind))) : Prop := match cel with
  | none => ∀ x, X.fn x = true
  | some ns => ∀ x, X.fn x = (ns.lookup x == some .cell)
theorem chkSt_ok (g : Gd X A C n k N sc) {cel : Option (List (Str × NameKind))} (f : FnOk' X cel) {i : Nat} {e : Expr} (h : chkSt N sc cel i e = true) : ∃ x p, e = .Name x p ∧ X.N[i]? = some x ∧ L2.Loc X.env.scope x ∧ (X.fn x = true ∨ X.env.scope.names.lookup x = some .local) := by
  unfold chkSt at h
  split at h
  · rename_i x p
    simp only [Bool.and_eq_true, Bool.or_eq_true] at h
    obtain ⟨h1, h2⟩ := h
    refine ⟨x, p, rfl, by rw [g.eN]; exact at_ok h1, ?_, ?_⟩
    · unfold L2.Loc
      rw [g.es]
      rcases h2 with h2 | h2
      · exact .inl (isLoc_ok h2)
      · exact .inr (isCel_ok h2.1)
    · rw [g.es]
      rcases h2 with h2 | h2
      · exact .inr (isLoc_ok h2)
      · left
        cases cel with
        | none => exact f x
        | some ns => exact (f x).trans h2.2
  · cases h
theorem chkSts_ok (g : Gd X A C n k N sc) {cel : Option (List (Str × NameKind))} (f : FnOk' X cel) : ∀ (is : List Nat) (es : List Expr), chkSts N sc cel is es = true → es.length = is.length ∧ PGs X es (gNs is)
  | [], [], _ => ⟨rfl, pgs_nil⟩
  | i :: is, e :: es, h => by
    simp only [chkSts, Bool.and_eq_true] at h
    obtain ⟨x, p, rfl, hi, hx, hf⟩ := chkSt_ok g f h.1
    obtain ⟨l, r⟩ := chkSts_ok g f is es h.2
    exact ⟨by simp [l], pgs_cons (pg_name (by rw [g.eN]; exact g.nd) hi hx hf) r rfl⟩
  | [], _ :: _, h => by simp [chkSts] at h
  | _ :: _, [], h => by simp [chkSts] at h
theorem chkTg_ok (g : Gd X A C n k N sc) {cel : Option (List (Str × NameKind))} (f : FnOk' X cel) {tg : LL.Tg} {e : Expr} (h : chkTg N sc cel tg e = true) : PG X e (gOf X.K tg) := by
  cases tg with
  | n i =>
    obtain ⟨x, p, rfl, hi, hx, hf⟩ := chkSt_ok g f (show chkSt N sc cel i e = true from h)
    exact pg_name (by rw [g.eN]; exact g.nd) hi hx hf
  | tp is =>
    unfold chkTg at h
    split at h
    · rename_i heq; cases heq
    · rename_i es _ _ heq
      cases heq
      simp only [Bool.and_eq_true] at h
      obtain ⟨l, r⟩ := chkSts_ok g f is _ h.1
      obtain ⟨n1, n2⟩ := names_each X.env _ h.2
      exact pg_tup g.calm r (by rw [n1, l]) n2
    · cases h
theorem chkC_ok {t : LL.T} {e : Expr} (h : chkC t e = true) : PE X e (rdE X.K A Wx fun _ => LL.M.pure (.v t)) := by
  unfold chkC at h
  split at h
  · obtain rfl := eq_of_beq h; exact re_const (t := .int _) pe_int fun _ _ _ _ => .int _
  · obtain rfl := eq_of_beq h; exact re_const (t := .bl _) pe_bl fun _ _ _ _ => .bl _
  · exact re_const (t := .non) pe_non fun _ _ _ _ => .non
  · obtain rfl := eq_of_beq h; exact re_const (t := .str _) pe_str fun _ _ _ _ => .str _
  · cases h
theorem glo_ok (g : Gd X A C n k N sc) {i : Nat} {x : Str} {p : Pos} (h1 : n.glo[i]? = some (some x)) (h2 : isGl sc x = true) (h3 : (x == ("__debug__" : Str)) = false) : PE X (.Name x p) (rdE X.K A Wx fun _ => LL.M.opt (C.glo i) >>= fun t => LL.M.pure (.v t)) := by
  cases hq : C.glo i with
  | none =>
    refine ⟨fun pins s σ H Q I h => ?_⟩
    obtain ⟨F, G, ρ, ω, S, σ, m, e, aft⟩ := h
    exact aft.elim
  | some t =>
    obtain ⟨v, u, e1, e2, e3⟩ := g.glo i x t h1 hq
    exact re_const (pe_glob (g.gl h2) e1 e2 h3) e3
theorem own_map (N : List Str) (own : List Nat) : (pairsOf N own).map (·.2) = own := by
  unfold pairsOf
  rw [List.map_map]
  have : ((fun x : Str × Nat => x.2) ∘ fun i => (N.getD i Str.empty, i)) = _root_.id := by funext i; rfl
  rw [this, List.map_id]
theorem blk_fn (g : Gd X A C n k N sc) {scope : Scope} (s : Shared) (H : Hp) (Ca : Addr) (cl : List (Str × Addr)) (fp : List Addr) : FnOk' (X.blk s H scope (compEnvC scope cl Ca X.env) fp) (some scope.names) := fun x => rfl
theorem takes0 (s : Shared) (H : Hp) (scope : Scope) (Ca : Addr) (cl : List (Str × Addr)) (fp : List Addr) : Takes (X.blk s H scope (compEnvC scope cl Ca X.env) fp) W0 := by
  rintro u s' ⟨a, B, sI, pins, σ, H', cls, d, _, _, _, _, _, _, _, _, w⟩
  exact w.elim
end
theorem pw_of_boolop {X : Cx} {op : BoolOp} {es : List Expr} {p : Pos} {t : TT} (h : PT X (.BoolOp op es p) t) : PW X (.BoolOp op es p) t :=
  ⟨fun whole pins s σ H Q I q => h.run pins s σ H Q I q⟩
mutual
theorem chkE_ok {A : Ad} {C : LL.Ctx} {n : Nms} {k : Nat} {N : List Str} : ∀ (m : LL.E) {X : Cx} {sc : Scope} {Wx : WX} (g : Gd X A C n k N sc) (tk : Takes X Wx) (e : Expr), chkE n N sc m e = true → PE X e (rdE X.K A Wx (LL.evE C m))
  | .var i, X, sc, Wx, g, tk, e, h => chkVar_ok g (by simpa only [chkE] using h)
  | .c t, X, sc, Wx, g, tk, e, h => chkC_ok (by simpa only [chkE] using h)
  | .glo i, X, sc, Wx, g, tk, e, h => by
    cases e <;> try (simp [chkE] at h; done)
    simp only [chkE, Bool.and_eq_true, Bool.not_eq_true', dbg, Bool.or_eq_false_iff] at h
    exact glo_ok g (ng_ok h.1.1) h.1.2 h.2.1
  | .bin op a b, X, sc, Wx, g, tk, e, h => by
    cases e <;> try (simp [chkE] at h; done)
    simp only [chkE, Bool.and_eq_true] at h
    obtain ⟨⟨h1, h2⟩, h3⟩ := h
    obtain rfl := eq_of_beq h1
    exact re_bin op (chkE_ok a g tk _ h2) (chkE_ok b g tk _ h3)
  | .tup es, X, sc, Wx, g, tk, e, h => by
    cases e <;> try (simp [chkE] at h; done)
    exact re_tup (chkEs_ok es g tk _ (by simpa only [chkE] using h)).1
  | .lst es, X, sc, Wx, g, tk, e, h => by
    cases e <;> try (simp [chkE] at h; done)
    exact re_lst (chkEs_ok es g tk _ (by simpa only [chkE] using h)).1
  | .neg a, X, sc, Wx, g, tk, e, h => by
    cases e <;> try (simp [chkE] at h; done)
    rename_i o x p
    cases o <;> try (simp [chkE] at h; done)
    exact re_neg (chkE_ok a g tk _ (by simpa only [chkE] using h))
  | .cmp op a b, X, sc, Wx, g, tk, e, h => by
    cases e <;> try (simp [chkE] at h; done)
    rename_i x os ys p
    rcases os with _ | ⟨o, _ | ⟨o2, os⟩⟩ <;> rcases ys with _ | ⟨y, _ | ⟨y2, ys⟩⟩ <;> try (simp [chkE] at h; done)
    · simp only [chkE, Bool.and_eq_true] at h
      obtain ⟨⟨⟨h1, h2⟩, h3⟩, h4⟩ := h
      obtain rfl := eq_of_beq h1
      exact re_cmp g.units op (behind_ok h4 _) (chkE_ok a g tk _ h2) (chkE_ok b g tk _ h3)
  | .cmp2 op op' a b c, X, sc, Wx, g, tk, e, h => by
    cases e <;> try (simp [chkE] at h; done)
    rename_i x os ys p
    rcases os with _ | ⟨o, _ | ⟨o2, _ | ⟨o3, os⟩⟩⟩ <;> rcases ys with _ | ⟨y, _ | ⟨y2, _ | ⟨y3, ys⟩⟩⟩ <;> try (simp [chkE] at h; done)
    · simp only [chkE, Bool.and_eq_true] at h
      obtain ⟨⟨⟨⟨⟨h1, h1'⟩, h2⟩, h3⟩, h4⟩, h5⟩ := h
      obtain rfl := eq_of_beq h1
      obtain rfl := eq_of_beq h1'
      exact re_cmp2 g.units op op' (last_ok h5 _ _) (chkE_ok a g tk _ h2) (chkE_ok b g tk _ h3) (chkE_ok c g tk _ h4)
  | .and a b, X, sc, Wx, g, tk, e, h => by
    cases e <;> try (simp [chkE] at h; done)
    rename_i o es p
    cases o <;> try (simp [chkE] at h; done)
    rcases es with _ | ⟨x, _ | ⟨y, _ | ⟨r, rest⟩⟩⟩ <;> try (simp [chkE] at h; done)
    · simp only [chkE, Bool.and_eq_true] at h
      exact re_and (chkE_ok a g tk _ h.1) (re_one (chkE_ok b g tk _ h.2))
    · simp only [chkE, Bool.and_eq_true] at h
      exact re_and (chkE_ok a g tk _ h.1) (chkE_ok b g tk _ h.2)
  | .or a b, X, sc, Wx, g, tk, e, h => by
    cases e <;> try (simp [chkE] at h; done)
    rename_i o es p
    cases o <;> try (simp [chkE] at h; done)
    rcases es with _ | ⟨x, _ | ⟨y, _ | ⟨r, rest⟩⟩⟩ <;> try (simp [chkE] at h; done)
    · simp only [chkE, Bool.and_eq_true] at h
      exact re_or (chkE_ok a g tk _ h.1) (re_one (chkE_ok b g tk _ h.2))
    · simp only [chkE, Bool.and_eq_true] at h
      exact re_or (chkE_ok a g tk _ h.1) (chkE_ok b g tk _ h.2)
  | .not a, X, sc, Wx, g, tk, e, h => by
    cases e <;> try (simp [chkE] at h; done)
    rename_i o x p
    cases o <;> try (simp [chkE] at h; done)
    exact re_not (chkE_ok a g tk _ (by simpa only [chkE] using h))
  | .ite t a b, X, sc, Wx, g, tk, e, h => by
    cases e <;> try (simp [chkE] at h; done)
    simp only [chkE, Bool.and_eq_true] at h
    obtain ⟨⟨h1, h2⟩, h3⟩ := h
    exact re_ite (chkT_ok t g tk _ h1) (chkE_ok a g tk _ h2) (chkE_ok b g tk _ h3)
  | .call f es, X, sc, Wx, g, tk, e, h => by
    cases e <;> try (simp [chkE] at h; done)
    rename_i fu ys kws p
    cases fu <;> try (simp [chkE] at h; done)
    cases ys <;> try (simp [chkE] at h; done)
    cases kws <;> try (simp [chkE] at h; done)
    rename_i x px y ys
    simp only [chkE, Bool.and_eq_true, Bool.not_eq_true', dbg, Bool.or_eq_false_iff] at h
    obtain ⟨⟨⟨⟨h1, h2⟩, h3, h3'⟩, h4⟩, h5⟩ := h
    obtain ⟨he, hst⟩ := chkEs_ok es g tk _ h4
    rcases hq : n.fn[f]? with _ | _ | zk
    · rw [hq] at h1; cases h1
    · rw [hq] at h1; cases h1
    · obtain ⟨z, np⟩ := zk
      rw [hq] at h1
      simp only [Bool.and_eq_true] at h1
      obtain rfl := eq_of_beq h1.1
      obtain ⟨ad, fd, ps, c1, c2, c3, c4⟩ := g.call f z np hq
      have hn : noStar y = true ∧ noStars ys = true := by simpa only [noStars, Bool.and_eq_true] using h5
      exact re_call tk c4 g.room (g.gl h2) c1 c2 c3 he h3 (star_cons hn.1 _ _) (star_any _ _ _ hn.2)
  | .bi b es, X, sc, Wx, g, tk, e, h => by
    cases e <;> try (simp [chkE] at h; done)
    rename_i fu ys kws p
    cases fu <;> try (simp [chkE] at h; done)
    cases ys <;> try (simp [chkE] at h; done)
    cases kws <;> try (simp [chkE] at h; done)
    rename_i x px y ys
    simp only [chkE, Bool.and_eq_true] at h
    obtain ⟨⟨⟨h1, h2⟩, h4⟩, h5⟩ := h
    obtain ⟨he, hst⟩ := chkEs_ok es g tk _ h4
    obtain rfl := eq_of_beq h1
    have hn : noStar y = true ∧ noStars ys = true := by simpa only [noStars, Bool.and_eq_true] using h5
    exact re_bi b g.calm (g.gl h2) (g.blt _ (bi_mem b)) he (star_cons hn.1 _ _) (star_any _ _ _ hn.2)
  | .isi a t, X, sc, Wx, g, tk, e, h => by
    cases e <;> try (simp [chkE] at h; done)
    rename_i fu ys kws p
    cases fu <;> try (simp [chkE] at h; done)
    cases kws <;> try (simp [chkE] at h; done)
    rcases ys with _ | ⟨y, _ | ⟨z, _ | ⟨y3, ys⟩⟩⟩ <;> try (simp [chkE] at h; done)
    cases z <;> try (simp [chkE] at h; done)
    simp only [chkE, Bool.and_eq_true] at h
    obtain ⟨⟨⟨⟨⟨h1, h2⟩, h3⟩, h4⟩, h5⟩, h6⟩ := h
    obtain rfl := eq_of_beq h1
    obtain rfl := eq_of_beq h2
    exact re_isi t (g.gl h3) (g.blt _ is_mem) (g.gl h4) (g.blt _ (ty_mem t)) (chkE_ok a g tk _ h5) (star_cons h6 _ _)
  | .me m o es, X, sc, Wx, g, tk, e, h => by
    cases e <;> try (simp [chkE] at h; done)
    rename_i fu ys kws p
    cases fu <;> try (simp [chkE] at h; done)
    cases ys <;> try (simp [chkE] at h; done)
    cases kws <;> try (simp [chkE] at h; done)
    rename_i ob name apos y ys
    simp only [chkE, Bool.and_eq_true, decide_eq_true_eq] at h
    obtain ⟨⟨⟨⟨⟨⟨⟨h1, h2⟩, h3⟩, h4⟩, h5⟩, h6⟩, h7⟩, h8⟩ := h
    obtain ⟨he, hst⟩ := chkEs_ok es g tk _ h5
    obtain rfl := eq_of_beq h2
    have hn : noStar y = true ∧ noStars ys = true := by simpa only [noStars, Bool.and_eq_true] using h6
    refine re_me m h1 (chkE_ok o g tk _ h3) he (base_ok h4 _ _) ?_ h7 (star_cons hn.1 _ _) (star_any _ _ _ hn.2)
    rw [star_all _ _ _ h6]
    simp only [Bool.true_and, Bool.and_eq_true, decide_eq_true_eq]
    exact ⟨rfl, by simp only [List.length_nil, List.isEmpty_nil, if_true, Nat.add_zero]; omega⟩
  | .ix a b, X, sc, Wx, g, tk, e, h => by
    cases e <;> try (simp [chkE] at h; done)
    simp only [chkE, Bool.and_eq_true] at h
    obtain ⟨⟨h1, h2⟩, h3⟩ := h
    exact re_ix (plain_ix h3) (chkE_ok a g tk _ h1) (chkE_ok b g tk _ h2)
  | .sl a lo hi, X, sc, Wx, g, tk, e, h => by
    cases e <;> try (simp [chkE] at h; done)
    rename_i x y p
    cases y <;> try (simp [chkE] at h; done)
    rename_i l u st p2
    cases st <;> try (simp [chkE] at h; done)
    simp only [chkE, Bool.and_eq_true] at h
    obtain ⟨⟨h1, h2⟩, h3⟩ := h
    exact re_sl (chkE_ok a g tk _ h1) (chkO_ok lo g tk _ h2) (chkO_ok hi g tk _ h3)
  | .rev a, X, sc, Wx, g, tk, e, h => by
    cases e <;> try (simp [chkE] at h; done)
    rename_i x y p
    cases y <;> try (simp [chkE] at h; done)
    rename_i l u st p2
    cases l <;> try (simp [chkE] at h; done)
    cases u <;> try (simp [chkE] at h; done)
    cases st <;> try (simp [chkE] at h; done)
    rename_i st
    cases st <;> try (simp [chkE] at h; done)
    rename_i o y p3
    cases o <;> try (simp [chkE] at h; done)
    cases y <;> try (simp [chkE] at h; done)
    rename_i cn kk p4
    cases cn <;> try (simp [chkE] at h; done)
    simp only [chkE, Bool.and_eq_true] at h
    obtain rfl := eq_of_beq h.1
    exact re_rev (chkE_ok a g tk _ h.2)
  | .lc own elt tg it cond, X, sc, Wx, g, tk, e, h => by
    cases e <;> try (simp [chkE] at h; done)
    rename_i ex gens scope p
    rcases gens with _ | ⟨⟨tx, ix, ifs, as⟩, _ | ⟨g2, gs⟩⟩ <;> try (simp [chkE] at h; done)
    by_cases has : as = 0
    case neg => simp [chkE, has] at h
    subst has
    simp only [chkE, Bool.and_eq_true, List.all_eq_true] at h
    obtain ⟨⟨⟨⟨⟨⟨h1, h2⟩, h3⟩, h4⟩, h5⟩, h6⟩, h7⟩ := h
    have ok : BlkOk X.N X.env.scope scope (pairsOf N own) := by rw [g.eN, g.es]; exact blkOk_by h3
    have hk := ok.kind
    have key := re_lc (pos := p) g.calm (by rw [g.eN]; exact g.nd) (chkIt_ok it g tk tx ix h1) ok (fun s H Ca cl fp => chkTg_ok (g.blk hk s H Ca cl fp) (blk_fn g s H Ca cl fp) h4) (fun s H Ca cl fp => chkCs_ok cond (g.blk hk s H Ca cl fp) (takes0 s H scope Ca cl fp) ifs h6)
      (fun s H Ca cl fp => chkE_ok elt (g.blk hk s H Ca cl fp) (takes0 s H scope Ca cl fp) ex h7) (folded_ok h2 _) (fun i hi => by rw [own_map]; have := h5 i hi; simpa using this)
    rw [own_map] at key
    exact key
  | .fnr _, X, sc, Wx, g, tk, e, h => by simp [chkE] at h
  | .callv _ _, X, sc, Wx, g, tk, e, h => by simp [chkE] at h
  | .lc2 own own1 elt tg it cond tg1 it1 cond1, X, sc, Wx, g, tk, e, h => by
    cases e <;> try (simp [chkE] at h; done)
    rename_i ex gens scope p
    rcases gens with _ | ⟨⟨tx, ix, ifs, as⟩, _ | ⟨⟨tx1, ix1, ifs1, as1⟩, _ | ⟨g3, gs⟩⟩⟩ <;> try (simp [chkE] at h; done)
    by_cases has : as = 0
    case neg => simp [chkE, has] at h
    by_cases has1 : as1 = 0
    case neg => simp [chkE, has1] at h
    subst has has1
    simp only [chkE, Bool.and_eq_true, List.all_eq_true] at h
    obtain ⟨⟨⟨⟨⟨⟨⟨⟨⟨⟨⟨⟨h1, h2⟩, h3⟩, h4⟩, h5⟩, h6⟩, i1⟩, i2⟩, i4⟩, i5⟩, i3⟩, i6⟩, h7⟩ := h
    have ok : BlkOk X.N X.env.scope scope (pairsOf N own) := by rw [g.eN, g.es]; exact blkOk_by h3
    have hk := ok.kind
    have key := re_lc2 (pos := p) (own1 := own1) g.calm (by rw [g.eN]; exact g.nd) (chkIt_ok it g tk tx ix h1) ok (fun i hi => by rw [own_map]; have := i3 i hi; simpa using this) (fun s H Ca cl fp => chkTg_ok (g.blk hk s H Ca cl fp) (blk_fn g s H Ca cl fp) h4) (fun s H Ca cl fp => chkCs_ok cond (g.blk hk s H Ca cl fp) (takes0 s H scope Ca cl fp) ifs h6)
      (fun s H Ca cl fp => chkIt_ok it1 (g.blk hk s H Ca cl fp) (takes0 s H scope Ca cl fp) tx1 ix1 i1) (fun s H Ca cl fp => chkTg_ok (g.blk hk s H Ca cl fp) (blk_fn g s H Ca cl fp) i4) (fun s H Ca cl fp => chkCs_ok cond1 (g.blk hk s H Ca cl fp) (takes0 s H scope Ca cl fp) ifs1 i6)
      (fun s H Ca cl fp => chkE_ok elt (g.blk hk s H Ca cl fp) (takes0 s H scope Ca cl fp) ex h7) (folded_ok h2 _) (fun env => folded_ok i2 env) (fun i hi => by rw [own_map]; have := h5 i hi; simpa using this) (fun i hi => by have := i5 i hi; simpa using this)
    rw [own_map] at key
    exact key
theorem chkEs_ok {A : Ad} {C : LL.Ctx} {n : Nms} {k : Nat} {N : List Str} : ∀ (m : LL.Es) {X : Cx} {sc : Scope} {Wx : WX} (g : Gd X A C n k N sc) (tk : Takes X Wx) (es : List Expr), chkEs n N sc m es = true → PA X es (rdA X.K A Wx (LL.evRs C m)) ∧ True
  | .nil, X, sc, Wx, g, tk, es, h => by
    cases es <;> try (simp [chkEs] at h; done)
    exact ⟨ra_nil, trivial⟩
  | .cons a r, X, sc, Wx, g, tk, es, h => by
    cases es <;> try (simp [chkEs] at h; done)
    simp only [chkEs, Bool.and_eq_true] at h
    obtain ⟨⟨h1, h2⟩, h3⟩ := h
    exact ⟨ra_cons (chkE_ok a g tk _ h1) (chkEs_ok r g tk _ h2).1 (star_cons h3 _ _), trivial⟩
theorem chkO_ok {A : Ad} {C : LL.Ctx} {n : Nms} {k : Nat} {N : List Str} : ∀ (m : LL.Eo) {X : Cx} {sc : Scope} {Wx : WX} (g : Gd X A C n k N sc) (tk : Takes X Wx) (e : Option Expr), chkO n N sc m e = true → PO X e (rdO X.K A Wx (LL.evO C m))
  | .no, X, sc, Wx, g, tk, e, h => by
    cases e <;> try (simp [chkO] at h; done)
    exact ro_no
  | .yes a, X, sc, Wx, g, tk, e, h => by
    cases e <;> try (simp [chkO] at h; done)
    exact ro_yes (chkE_ok a g tk _ (by simpa only [chkO] using h))
theorem chkT_ok {A : Ad} {C : LL.Ctx} {n : Nms} {k : Nat} {N : List Str} : ∀ (m : LL.Te) {X : Cx} {sc : Scope} {Wx : WX} (g : Gd X A C n k N sc) (tk : Takes X Wx) (e : Expr), chkT n N sc m e = true → PT X e (rdT X.K A Wx (LL.evT C m))
  | .val a, X, sc, Wx, g, tk, e, h => by
    simp only [chkT, Bool.and_eq_true, Bool.or_eq_true] at h
    obtain ⟨h1, h2⟩ := h
    cases hc : isCmp a with
    | false =>
      rw [hc] at h2
      exact rt_val (chkE_ok a g tk _ h1) (plain_T (by simpa using h2) _)
    | true =>
      clear h2
      match a, hc, h1 with
      | .cmp op a b, _, h =>
        cases e <;> try (simp [chkE] at h; done)
        rename_i x os ys p
        rcases os with _ | ⟨o, _ | ⟨o2, os⟩⟩ <;> rcases ys with _ | ⟨y, _ | ⟨y2, ys⟩⟩ <;> try (simp [chkE] at h; done)
        · simp only [chkE, Bool.and_eq_true] at h
          obtain ⟨⟨⟨h1, h2⟩, h3⟩, h4⟩ := h
          obtain rfl := eq_of_beq h1
          exact rt_cmp g.units op (behind_ok h4 _) (chkE_ok a g tk _ h2) (chkE_ok b g tk _ h3)
      | .cmp2 op op' a b c, _, h =>
        cases e <;> try (simp [chkE] at h; done)
        rename_i x os ys p
        rcases os with _ | ⟨o, _ | ⟨o2, _ | ⟨o3, os⟩⟩⟩ <;> rcases ys with _ | ⟨y, _ | ⟨y2, _ | ⟨y3, ys⟩⟩⟩ <;> try (simp [chkE] at h; done)
        · simp only [chkE, Bool.and_eq_true] at h
          obtain ⟨⟨⟨⟨⟨h1, h1'⟩, h2⟩, h3⟩, h4⟩, h5⟩ := h
          obtain rfl := eq_of_beq h1
          obtain rfl := eq_of_beq h1'
          exact rt_cmp2 g.units op op' (last_ok h5 _ _) (chkE_ok a g tk _ h2) (chkE_ok b g tk _ h3) (chkE_ok c g tk _ h4)
  | .and a b, X, sc, Wx, g, tk, e, h => by
    cases e <;> try (simp [chkT] at h; done)
    rename_i o es p
    cases o <;> try (simp [chkT] at h; done)
    rcases es with _ | ⟨x, _ | ⟨y, _ | ⟨r, rest⟩⟩⟩ <;> try (simp [chkT] at h; done)
    · simp only [chkT, Bool.and_eq_true] at h
      exact (rt_and (chkT_ok a g tk _ h.1) (rt_one (chkT_ok b g tk _ h.2))).pt
    · simp only [chkT, Bool.and_eq_true] at h
      exact (rt_and (chkT_ok a g tk _ h.1) (pw_of_boolop (chkT_ok b g tk _ h.2))).pt
  | .or a b, X, sc, Wx, g, tk, e, h => by
    cases e <;> try (simp [chkT] at h; done)
    rename_i o es p
    cases o <;> try (simp [chkT] at h; done)
    rcases es with _ | ⟨x, _ | ⟨y, _ | ⟨r, rest⟩⟩⟩ <;> try (simp [chkT] at h; done)
    · simp only [chkT, Bool.and_eq_true] at h
      exact (rt_or (chkT_ok a g tk _ h.1) (rt_one (chkT_ok b g tk _ h.2))).pt
    · simp only [chkT, Bool.and_eq_true] at h
      exact (rt_or (chkT_ok a g tk _ h.1) (pw_of_boolop (chkT_ok b g tk _ h.2))).pt
  | .not a, X, sc, Wx, g, tk, e, h => by
    cases e <;> try (simp [chkT] at h; done)
    rename_i o x p
    cases o <;> try (simp [chkT] at h; done)
    exact rt_not (chkT_ok a g tk _ (by simpa only [chkT] using h))
theorem chkCs_ok {A : Ad} {C : LL.Ctx} {n : Nms} {k : Nat} {N : List Str} : ∀ (m : LL.Tes) {X : Cx} {sc : Scope} {Wx : WX} (g : Gd X A C n k N sc) (tk : Takes X Wx) (es : List Expr), chkCs n N sc m es = true → PTs X es (rdT X.K A Wx (LL.evC C m))
  | .no, X, sc, Wx, g, tk, es, h => by
    cases es <;> try (simp [chkCs] at h; done)
    refine pts_imp pts_nil fun σV H Q h => ?_
    obtain ⟨F, G, ρ, ω, S, m, q⟩ := Run.pure (a := true) h
    exact q
  | .yes t, X, sc, Wx, g, tk, es, h => by
    rcases es with _ | ⟨e, _ | ⟨e2, es⟩⟩ <;> try (simp [chkCs] at h; done)
    exact pts_one (chkT_ok t g tk _ (by simpa only [chkCs] using h))
theorem chkIt_ok {A : Ad} {C : LL.Ctx} {n : Nms} {k : Nat} {N : List Str} : ∀ (m : LL.It) {X : Cx} {sc : Scope} {Wx : WX} (g : Gd X A C n k N sc) (tk : Takes X Wx) (tg e : Expr), chkIt n N sc m tg e = true → PI X tg e (rdI X.K A Wx (LL.evIt C m))
  | .e a, X, sc, Wx, g, tk, tg, e, h => ri_e (chkE_ok a g tk _ (by simpa only [chkIt] using h))
  | .rng a, X, sc, Wx, g, tk, tg, e, h => by
    simp only [chkIt] at h
    split at h
    · rename_i x y hq
      obtain ⟨p, q, rfl⟩ := call1_ok hq
      simp only [Bool.and_eq_true] at h
      obtain ⟨⟨⟨h1, h2⟩, h3⟩, h4⟩ := h
      obtain rfl := eq_of_beq h1
      exact ri_rng (g.gl h2) (g.blt _ rng_mem) (chkE_ok a g tk _ h3) (star_cons h4 _ _)
    · cases h
  | .rng2 a b, X, sc, Wx, g, tk, tg, e, h => by
    simp only [chkIt] at h
    split at h
    · rename_i x y z hq
      obtain ⟨p, q, rfl⟩ := call2_ok hq
      simp only [Bool.and_eq_true] at h
      obtain ⟨⟨⟨⟨⟨h1, h2⟩, h3⟩, h4⟩, h5⟩, h6⟩ := h
      obtain rfl := eq_of_beq h1
      exact ri_rng2 (g.gl h2) (g.blt _ rng_mem) (chkE_ok a g tk _ h3) (chkE_ok b g tk _ h4) (by rw [star_cons h5, star_cons h6]; rfl) (star_cons h6 _ _)
    · cases h
  | .zip2 a b, X, sc, Wx, g, tk, tg, e, h => by
    simp only [chkIt, Bool.and_eq_true] at h
    obtain ⟨h0, hh⟩ := h
    obtain ⟨es, kk, tp, rfl⟩ := isTup_ok h0
    clear h0
    split at hh
    · rename_i x y z hq
      obtain ⟨p, q, rfl⟩ := call2_ok hq
      simp only [Bool.and_eq_true] at hh
      obtain ⟨⟨⟨⟨⟨h1, h2⟩, h3⟩, h4⟩, h5⟩, h6⟩ := hh
      obtain rfl := eq_of_beq h1
      exact ri_zip2 (g.gl h2) (g.blt _ zip_mem) (chkE_ok a g tk _ h3) (chkE_ok b g tk _ h4) (star_cons h5 _ _) (star_cons h6 _ _) (star_any _ _ _ (by simp [noStars, h6]))
    · cases hh
  | .zip3 a b c, X, sc, Wx, g, tk, tg, e, h => by
    simp only [chkIt, Bool.and_eq_true] at h
    obtain ⟨h0, hh⟩ := h
    obtain ⟨es, kk, tp, rfl⟩ := isTup_ok h0
    clear h0
    split at hh
    · rename_i x y z w hq
      obtain ⟨p, q, rfl⟩ := call3_ok hq
      simp only [Bool.and_eq_true] at hh
      obtain ⟨⟨⟨⟨⟨⟨⟨h1, h2⟩, h3⟩, h4⟩, h5⟩, h6⟩, h7⟩, h8⟩ := hh
      obtain rfl := eq_of_beq h1
      exact ri_zip3 (g.gl h2) (g.blt _ zip_mem) (chkE_ok a g tk _ h3) (chkE_ok b g tk _ h4) (chkE_ok c g tk _ h5) (star_cons h6 _ _) (star_cons h7 _ _) (star_cons h8 _ _) (star_any _ _ _ (by simp [noStars, h7, h8]))
    · cases hh
  | .enum a, X, sc, Wx, g, tk, tg, e, h => by
    simp only [chkIt, Bool.and_eq_true] at h
    obtain ⟨h0, hh⟩ := h
    obtain ⟨es, kk, tp, rfl⟩ := isTup_ok h0
    clear h0
    split at hh
    · rename_i x y hq
      obtain ⟨p, q, rfl⟩ := call1_ok hq
      simp only [Bool.and_eq_true] at hh
      obtain ⟨⟨⟨h1, h2⟩, h3⟩, h4⟩ := hh
      obtain rfl := eq_of_beq h1
      exact ri_enum (g.gl h2) (g.blt _ enum_mem) (chkE_ok a g tk _ h3) (star_cons h4 _ _)
    · cases hh
end
end LLS

set_option Elab.async false
set_option linter.all false
set_option autoImplicit false
set_option maxRecDepth 100000
set_option maxHeartbeats 4000000
namespace LLS
open PySem PySem.Spec PyProof.Rows L2 PySem.SeqAt

/-! ### statements, checked -/
def namesAny (scope : Scope) (y : Str) : Bool := scope.names.any fun (n, k) => n == y && (k == .local || k == .cell)
theorem swap_cel {y : Str} {p : Pos} {ex : Expr} {gens : List Comprehension} {scope : Scope} {q : Pos} {l : Nat} {env : Env} (h : isCel env.scope y = true) : swapsWith (.ListComp ex gens scope q) (some (.Name y p)) l env = pure false := by
  unfold isCel at h
  split at h
  · rename_i e
    unfold swapsWith
    have hc : (NameKind.cell == NameKind.local) = false := rfl
    simp [Env.kindOf, e, hc]
  · cases h
/-- e is put into a name -/
def chkSet (n : Nms) (N : List Str) (sc : Scope) (i : Nat) (m : LL.E) (t e : Expr) : Bool :=
  chkSt N sc none i t && chkE n N sc m e && (match t, e with
    | .Name y p, .ListComp _ _ scope q => isCel sc y || (isLoc sc y && (p.line == q.line) && !namesAny scope y && (match m with | .lc _ _ _ _ _ => true | .lc2 _ _ _ _ _ _ _ _ _ => true | _ => false))
    | .Name _ _, e => noComp e
    | _, _ => false)
def chkTpl (n : Nms) (N : List Str) (sc : Scope) (is : List Nat) (m : LL.E) (t e : Expr) : Bool := match t with
  | .Tuple ts k p => chkTg N sc none (.tp is) (.Tuple ts k p) && chkE n N sc m e && noComp e && (noTuple e || (match e with | .Tuple vs _ _ => vs.all (foldedForSure 8) || !(ts.length == 2 || ts.length == 3) | _ => false))
  | _ => false
def chkAsg (n : Nms) (N : List Str) (sc : Scope) (tg : LL.Tg) (m : LL.E) (t e : Expr) : Bool := match tg with
  | .n i => chkSet n N sc i m t e
  | .tp is => chkTpl n N sc is m t e
def parOf : Expr → Expr → Option (Str × Pos × Str × Pos × Expr × Expr)
  | .Tuple [.Name x px, .Name y py] _ _, .Tuple [u, v] _ _ => some (x, px, y, py, u, v)
  | _, _ => none
theorem parOf_ok {t e u v : Expr} {x y : Str} {px py : Pos} (h : parOf t e = some (x, px, y, py, u, v)) : ∃ k p k2 p2, t = .Tuple [.Name x px, .Name y py] k p ∧ e = .Tuple [u, v] k2 p2 := by
  unfold parOf at h
  split at h
  · cases h; exact ⟨_, _, _, _, rfl, rfl⟩
  · cases h
def raiseOf : Option Expr → Option Expr → Option Str
  | some (.Call (.Name x _) [.Constant (.str _) _ _] [] _), none => some x
  | _, _ => none
theorem raiseOf_ok {e c : Option Expr} {x : Str} (h : raiseOf e c = some x) : ∃ p m j p2 p3, e = some (.Call (.Name x p) [.Constant (.str m) j p2] [] p3) ∧ c = none := by
  unfold raiseOf at h
  split at h
  · cases h; exact ⟨_, _, _, _, _, rfl, rfl⟩
  · cases h
def oneOf : List Expr → Option Expr
  | [t] => some t
  | _ => none
theorem oneOf_ok {ts : List Expr} {t : Expr} (h : oneOf ts = some t) : ts = [t] := by
  unfold oneOf at h
  split at h <;> first | (cases h; rfl) | cases h
mutual
def chkS (n : Nms) (N : List Str) (sc : Scope) : LL.St → Stmt → Bool
  | .asg tg m, .Assign ts e _ => (match oneOf ts with | some t => chkAsg n N sc tg m t e | none => false)
  | .new i m, .Assign ts e _ => (match oneOf ts with | some t => chkSet n N sc i m t e | none => false)
  | .par i j a b, .Assign ts e _ => (match oneOf ts with
    | some t => (match parOf t e with
      | some (x, px, y, py, u, v) => at? N i x && at? N j y && isLoc sc x && isLoc sc y && !(i == j) && !(x == y) && (py.line == px.line) && chkE n N sc a u && chkE n N sc b v && noStar u && noStar v && !([u, v].all (foldedForSure 8)) && !([u, v].all (constantsAlone 8))
      | none => false)
    | none => false)
  | .ex m, .Expr e _ => chkE n N sc m e && noComp e
  | .ite t a b, .If c p q _ => chkT n N sc t c && chkSs n N sc a p && chkSs n N sc b q
  | .loop tg it body, .For t e b oe _ => oe.isEmpty && chkTg N sc none tg t && chkIt n N sc it t e && noSet e && chkSs n N sc body b
  | .while t body, .While c b oe _ => oe.isEmpty && chkT n N sc t c && chkSs n N sc body b
  | .ret m, .Return (some e) _ => chkE n N sc m e
  | .ret0, .Return none _ => true
  | .raise c, .Raise e c2 _ => (match raiseOf e c2 with | some x => ng? n.exc c x && isGl sc x && !dbg x | none => false)
  | .pass, .Pass _ => true
  | _, _ => false
def chkSs (n : Nms) (N : List Str) (sc : Scope) : LL.Sts → List Stmt → Bool
  | .nil, [] => true
  | .cons a r, s :: ss => chkS n N sc a s && chkSs n N sc r ss
  | _, _ => false
end
theorem sole_ok {t e : Expr} (h : noComp e = true) (l : Nat) (env : Env) (_u : Unit) : swapsWithSole [t] e l env = pure false := by
  unfold swapsWithSole
  exact swap_ok h _ _ _
/-- a def's context -/
structure GdS (X : Cx) (A : Ad) (C : LL.Ctx) (n : Nms) (k : Nat) (N : List Str) (sc : Scope) (E : XK) : Prop where
  g : Gd X A C n k N sc
  tk : Takes X (WS E)
  ps : PassesOwn (model X.prog X.w) X.A X.env X.xe
  fn : FnOk' X none
section
variable {X : Cx} {A : Ad} {C : LL.Ctx} {n : Nms} {k : Nat} {N : List Str} {sc : Scope} {E : XK}
theorem tasg_lc {own : List Nat} {tgt : LL.Tg} {Mi : LL.Env → LL.M LL.Src} {Mc : LL.Env → LL.M Bool} {Me : LL.Env → LL.M LL.Rv} {g : TG} {D : Ends} {σV : L2.St} {H : Hp} (htg : ∀ i ∈ tgIx tgt, i ∈ own) (h : tAsg (rdE X.K A (WS E) (lcM own tgt Mi Mc Me)) g D σV H) :
    tAsg (tLc (rdI X.K A (WS E) Mi) (gOf X.K tgt) (rdT X.K A W0 Mc) (rdE X.K A W0 Me) own) g D σV H := lc_go htg h
theorem tasg_lc2 {own own1 : List Nat} {tgt tgt1 : LL.Tg} {Mi Mi1 : LL.Env → LL.M LL.Src} {Mc Mc1 : LL.Env → LL.M Bool} {Me : LL.Env → LL.M LL.Rv} {g : TG} {D : Ends} {σV : L2.St} {H : Hp} (htg : ∀ i ∈ tgIx tgt, i ∈ own) (htg1 : ∀ i ∈ tgIx tgt1, i ∈ own1) (h : tAsg (rdE X.K A (WS E) (lc2M own own1 tgt Mi Mc tgt1 Mi1 Mc1 Me)) g D σV H) :
    tAsg (tLc2 (rdI X.K A (WS E) Mi) (gOf X.K tgt) (rdT X.K A W0 Mc) (rdI X.K A W0 Mi1) (gOf X.K tgt1) (rdT X.K A W0 Mc1) (rdE X.K A W0 Me) own own1) g D σV H := lc2_go htg htg1 h
theorem chkSet_ok (G : GdS X A C n k N sc E) {i : Nat} {m : LL.E} {t e : Expr} {pos : Pos} {M : LL.Env → LL.M (LL.Fl × LL.Env)} (h : chkSet n N sc i m t e = true) (hM : ∀ D σV H, rdS X.K A E M D σV H → tAsg (rdE X.K A (WS E) (LL.evE C m)) (gName i) D σV H) : PS X (.Assign [t] e pos) (rdS X.K A E M) := by
  unfold chkSet at h
  simp only [Bool.and_eq_true] at h
  obtain ⟨⟨h1, h2⟩, h3⟩ := h
  obtain ⟨x, p, rfl, hi, hx, hf⟩ := chkSt_ok G.g G.fn h1
  have hN : X.N.Nodup := by rw [G.g.eN]; exact G.g.nd
  have plain : noComp e = true → PS X (.Assign [.Name x p] e pos) (rdS X.K A E M) := fun hn =>
    ps_imp (ps_set hN hi hx (chkE_ok m G.g G.tk e h2) (swap_ok hn _ _ _) hf) fun D σV H q => hM D σV H q
  cases e <;> try (exact plain h3)
  rename_i ex gens scope q
  rw [Bool.or_eq_true] at h3
  rcases h3 with h3 | h3
  · exact ps_imp (ps_set hN hi hx (chkE_ok m G.g G.tk _ h2) (swap_cel (by rw [G.g.es]; exact h3)) hf) fun D σV H q => hM D σV H q
  simp only [Bool.and_eq_true, Bool.not_eq_true'] at h3
  obtain ⟨⟨⟨h3, h4⟩, h5⟩, h6⟩ := h3
  cases m <;> try (cases h6; done)
  · rename_i own elt tg it cond
    rcases gens with _ | ⟨⟨tx, ix, ifs, as⟩, _ | ⟨g2, gs⟩⟩ <;> try (simp [chkE] at h2; done)
    by_cases has : as = 0
    case neg => simp [chkE, has] at h2
    subst has
    simp only [chkE, Bool.and_eq_true, List.all_eq_true] at h2
    obtain ⟨⟨⟨⟨⟨⟨c1, c2⟩, c3⟩, c4⟩, c5⟩, c6⟩, c7⟩ := h2
    have ok : BlkOk X.N X.env.scope scope (pairsOf N own) := by rw [G.g.eN, G.g.es]; exact blkOk_by c3
    have hk := ok.kind
    have hl : X.env.scope.names.lookup x = some .local := by rw [G.g.es]; exact isLoc_ok h3
    have htg : ∀ i ∈ tgIx tg, i ∈ own := fun i hi => by have := c5 i hi; simpa using this
    have key := ps_setLc (wi := rdI X.K A (WS E) (LL.evIt C it)) (g := gOf X.K tg) (tt := rdT X.K A W0 (LL.evC C cond)) (te := rdE X.K A W0 (LL.evE C elt)) (py := p) (pos := q) (spos := pos) G.g.calm hN hi hl (sw_true (by rw [G.g.es]; exact G.g.kind) hl h4 h5) (chkIt_ok it G.g G.tk tx ix c1) ok (fun s H Ca cl fp => chkTg_ok (G.g.blk hk s H Ca cl fp) (blk_fn G.g s H Ca cl fp) c4)
      (fun s H Ca cl fp => chkCs_ok cond (G.g.blk hk s H Ca cl fp) (takes0 s H scope Ca cl fp) ifs c6) (fun s H Ca cl fp => chkE_ok elt (G.g.blk hk s H Ca cl fp) (takes0 s H scope Ca cl fp) ex c7) (folded_ok c2 _)
    rw [own_map] at key
    exact ps_imp key fun D σV H q => tasg_lc htg (hM D σV H q)
  · rename_i own own1 elt tg it cond tg1 it1 cond1
    rcases gens with _ | ⟨⟨tx, ix, ifs, as⟩, _ | ⟨⟨tx1, ix1, ifs1, as1⟩, _ | ⟨g3, gs⟩⟩⟩ <;> try (simp [chkE] at h2; done)
    by_cases has : as = 0
    case neg => simp [chkE, has] at h2
    by_cases has1 : as1 = 0
    case neg => simp [chkE, has1] at h2
    subst has has1
    simp only [chkE, Bool.and_eq_true, List.all_eq_true] at h2
    obtain ⟨⟨⟨⟨⟨⟨⟨⟨⟨⟨⟨⟨c1, c2⟩, c3⟩, c4⟩, c5⟩, c6⟩, i1⟩, i2⟩, i4⟩, i5⟩, i3⟩, i6⟩, c7⟩ := h2
    have ok : BlkOk X.N X.env.scope scope (pairsOf N own) := by rw [G.g.eN, G.g.es]; exact blkOk_by c3
    have hk := ok.kind
    have hl : X.env.scope.names.lookup x = some .local := by rw [G.g.es]; exact isLoc_ok h3
    have htg : ∀ i ∈ tgIx tg, i ∈ own := fun i hi => by have := c5 i hi; simpa using this
    have htg1 : ∀ i ∈ tgIx tg1, i ∈ own1 := fun i hi => by have := i5 i hi; simpa using this
    have key := ps_setLc2 (vs1 := own1) (wi := rdI X.K A (WS E) (LL.evIt C it)) (g := gOf X.K tg) (tt := rdT X.K A W0 (LL.evC C cond)) (wi1 := rdI X.K A W0 (LL.evIt C it1)) (g1 := gOf X.K tg1) (tt1 := rdT X.K A W0 (LL.evC C cond1)) (te := rdE X.K A W0 (LL.evE C elt)) (py := p) (pos := q) (spos := pos) G.g.calm hN hi hl (sw_true (by rw [G.g.es]; exact G.g.kind) hl h4 h5) (chkIt_ok it G.g G.tk tx ix c1) ok (fun i hi => by rw [own_map]; have := i3 i hi; simpa using this) (fun s H Ca cl fp => chkTg_ok (G.g.blk hk s H Ca cl fp) (blk_fn G.g s H Ca cl fp) c4)
      (fun s H Ca cl fp => chkCs_ok cond (G.g.blk hk s H Ca cl fp) (takes0 s H scope Ca cl fp) ifs c6) (fun s H Ca cl fp => chkIt_ok it1 (G.g.blk hk s H Ca cl fp) (takes0 s H scope Ca cl fp) tx1 ix1 i1) (fun s H Ca cl fp => chkTg_ok (G.g.blk hk s H Ca cl fp) (blk_fn G.g s H Ca cl fp) i4) (fun s H Ca cl fp => chkCs_ok cond1 (G.g.blk hk s H Ca cl fp) (takes0 s H scope Ca cl fp) ifs1 i6) (fun s H Ca cl fp => chkE_ok elt (G.g.blk hk s H Ca cl fp) (takes0 s H scope Ca cl fp) ex c7) (folded_ok c2 _) (fun env => folded_ok i2 env)
    rw [own_map] at key
    exact ps_imp key fun D σV H q => tasg_lc2 htg htg1 (hM D σV H q)
end
mutual
theorem chkS_ok {A : Ad} {C : LL.Ctx} {n : Nms} {k : Nat} {N : List Str} : ∀ (m : LL.St) {X : Cx} {sc : Scope} {E : XK} (G : GdS X A C n k N sc E) (s : Stmt), chkS n N sc m s = true → PS X s (rdS X.K A E (LL.evS C m))
  | .asg tg m, X, sc, E, G, s, h => by
    cases s <;> try (simp [chkS] at h; done)
    rename_i ts e p
    simp only [chkS] at h
    split at h <;> try (cases h; done)
    rename_i t hq
    obtain rfl := oneOf_ok hq
    clear hq
    cases tg with
    | n i => exact chkSet_ok G h fun D σV H q => asg_go (tgt := .n i) q
    | tp is =>
      have h : chkTpl n N sc is m t e = true := h
      unfold chkTpl at h
      cases t <;> try (cases h; done)
      rename_i ts k p2
      simp only [Bool.and_eq_true] at h
      obtain ⟨⟨⟨h1, h2⟩, h3⟩, h4⟩ := h
      refine rs_asg (chkE_ok m G.g G.tk e h2) (chkTg_ok G.g G.fn h1) (sole_ok h3 _ _ ()) ?_ rfl
      cases ht : noTuple e with
      | true => exact stores_none ht _ _ _ _
      | false =>
        rw [ht, Bool.false_or] at h4
        cases e <;> try (cases h4; done)
        simp only [Bool.or_eq_true, Bool.not_eq_true'] at h4
        rcases h4 with h4 | h4
        · exact stores_folded h4 _ _ _ _ _ _
        · exact stores_long h4 _ _ _ _ _
  | .new i m, X, sc, E, G, s, h => by
    cases s <;> try (simp [chkS] at h; done)
    rename_i ts e p
    simp only [chkS] at h
    split at h <;> try (cases h; done)
    rename_i t hq
    obtain rfl := oneOf_ok hq
    exact chkSet_ok G h fun D σV H q => new_go q
  | .par i j a b, X, sc, E, G, s, h => by
    cases s <;> try (simp [chkS] at h; done)
    rename_i ts e p
    simp only [chkS] at h
    split at h <;> try (cases h; done)
    rename_i t hq
    obtain rfl := oneOf_ok hq
    clear hq
    split at h <;> try (cases h; done)
    rename_i x px y py u v hq
    obtain ⟨k1, p1, k2, p2, rfl, rfl⟩ := parOf_ok hq
    clear hq
    simp only [Bool.and_eq_true, Bool.not_eq_true', beq_eq_false_iff_ne] at h
    obtain ⟨⟨⟨⟨⟨⟨⟨⟨⟨⟨⟨⟨h1, h2⟩, h3⟩, h4⟩, h5⟩, h6⟩, h7⟩, h8⟩, h9⟩, h10⟩, h11⟩, h12⟩, h13⟩ := h
    have hx := isLoc_ok h3
    have hy := isLoc_ok h4
    rw [← G.g.es] at hx hy
    exact rs_par G.g.calm (by rw [G.g.eN]; exact G.g.nd) (by rw [G.g.eN]; exact at_ok h1) (by rw [G.g.eN]; exact at_ok h2) h5 hx hy (chkE_ok a G.g G.tk _ h8) (chkE_ok b G.g G.tk _ h9) (star_cons h10 _ _) (star_cons h11 _ _)
      (stores_par (by rw [G.g.es]; exact G.g.kind) hx hy h7 (beq_eq_false_iff_ne.mpr h6) h10 h11 h12 h13) (sole_ok rfl _ _ ())
  | .ex m, X, sc, E, G, s, h => by
    cases s <;> try (simp [chkS] at h; done)
    simp only [chkS, Bool.and_eq_true] at h
    exact rs_ex (chkE_ok m G.g G.tk _ h.1) (swap_ok h.2 _ _ _)
  | .ite t a b, X, sc, E, G, s, h => by
    cases s <;> try (simp [chkS] at h; done)
    simp only [chkS, Bool.and_eq_true] at h
    obtain ⟨⟨h1, h2⟩, h3⟩ := h
    exact rs_ite (chkT_ok t G.g G.tk _ h1) (chkSs_ok a G _ h2) (chkSs_ok b G _ h3)
  | .loop tg it body, X, sc, E, G, s, h => by
    cases s <;> try (simp [chkS] at h; done)
    rename_i t e b oe p
    simp only [chkS, Bool.and_eq_true] at h
    obtain ⟨⟨⟨⟨h0, h1⟩, h2⟩, h3⟩, h4⟩ := h
    obtain rfl := List.isEmpty_iff.mp h0
    exact rs_loop G.ps G.g.calm (chkIt_ok it G.g G.tk _ _ h2) (chkTg_ok G.g G.fn h1) (chkSs_ok body G _ h4) (folded_ok h3 _)
  | .while t body, X, sc, E, G, s, h => by
    cases s <;> try (simp [chkS] at h; done)
    rename_i c b oe p
    simp only [chkS, Bool.and_eq_true] at h
    obtain ⟨⟨h0, h1⟩, h2⟩ := h
    obtain rfl := List.isEmpty_iff.mp h0
    exact rs_while (n := LL.FUEL) G.ps (chkT_ok t G.g G.tk _ h1) (chkSs_ok body G _ h2)
  | .ret m, X, sc, E, G, s, h => by
    cases s <;> try (simp [chkS] at h; done)
    rename_i e p
    cases e <;> try (simp [chkS] at h; done)
    exact rs_ret (chkE_ok m G.g G.tk _ (by simpa only [chkS] using h))
  | .ret0, X, sc, E, G, s, h => by
    cases s <;> try (simp [chkS] at h; done)
    rename_i e p
    cases e <;> try (simp [chkS] at h; done)
    exact rs_ret0
  | .raise c, X, sc, E, G, s, h => by
    cases s <;> try (simp [chkS] at h; done)
    rename_i e cause p
    simp only [chkS] at h
    split at h <;> try (cases h; done)
    rename_i x hq
    obtain ⟨p1, m1, j1, p2, p3, rfl, rfl⟩ := raiseOf_ok hq
    clear hq
    simp only [Bool.and_eq_true, Bool.not_eq_true', dbg, Bool.or_eq_false_iff] at h
    obtain ⟨⟨h1, h2⟩, h3, h4⟩ := h
    obtain ⟨Cc, bmB, B, newId, initId, c1, c2, c3, c4, c5, c6⟩ := G.g.exc c _ (ng_ok h1)
    exact rs_raise G.g.calm G.tk c1 c2 c3 c4 c5 (G.g.gl h2) h3 c6
  | .pass, X, sc, E, G, s, h => by
    cases s <;> try (simp [chkS] at h; done)
    exact rs_pass
  | .sub _ _ _, X, sc, E, G, s, h => by cases s <;> simp [chkS] at h
  | .aug _ _ _, X, sc, E, G, s, h => by cases s <;> simp [chkS] at h
theorem chkSs_ok {A : Ad} {C : LL.Ctx} {n : Nms} {k : Nat} {N : List Str} : ∀ (m : LL.Sts) {X : Cx} {sc : Scope} {E : XK} (G : GdS X A C n k N sc E) (ss : List Stmt), chkSs n N sc m ss = true → PSs X ss (rdS X.K A E (LL.evSs C m))
  | .nil, X, sc, E, G, ss, h => by
    cases ss <;> try (simp [chkSs] at h; done)
    exact rs_nil
  | .cons a r, X, sc, E, G, ss, h => by
    cases ss <;> try (simp [chkSs] at h; done)
    simp only [chkSs, Bool.and_eq_true] at h
    exact rs_cons (chkS_ok a G _ h.1) (chkSs_ok r G _ h.2)
end
end LLS

set_option Elab.async false
set_option linter.all false
set_option autoImplicit false
set_option maxRecDepth 100000
set_option maxHeartbeats 4000000
namespace LLS
open PySem PySem.Spec PyProof.Rows L2 PySem.SeqAt

/-! ### a def keeps its promise -/
def scopeOk (N ps : List Str) (sc : Scope) : Bool := (match sc.kind with | .function => true | _ => false) && !sc.isCoroutine && !sc.isGenerator && decide N.Nodup && (N.take ps.length == ps) && (ps.all fun x => isLoc sc x || isCel sc x) && (sc.names.all fun y => match y.2 with | .free => false | _ => true)
theorem scope_ok {N ps : List Str} {sc : Scope} (h : scopeOk N ps sc = true) : FnScope N ps sc := by
  unfold scopeOk at h
  simp only [Bool.and_eq_true, Bool.not_eq_true', decide_eq_true_eq, List.all_eq_true, Bool.or_eq_true] at h
  obtain ⟨⟨⟨⟨⟨⟨h1, h2⟩, h3⟩, h4⟩, h5⟩, h6⟩, h7⟩ := h
  refine ⟨?_, h2, h3, h4, eq_of_beq h5, fun x hx => ?_, fun y hy e => ?_⟩
  · split at h1 <;> first | assumption | cases h1
  · rcases h6 x hx with z | z
    · exact .inl (isLoc_ok z)
    · exact .inr (isCel_ok z)
  · have z := h7 y hy
    rw [e] at z
    cases z
def chkF (n : Nms) (N ps : List Str) (m : LL.Fun) (body : List Stmt) (sc : Scope) : Bool := chkSs n N sc m.body body && (N.length == m.nv) && (ps.length == m.np) && scopeOk N ps sc
theorem repWs_get {K : PySem.W.Frag} {A : Ad} {G : Hp} {ρ ω : List Addr} : ∀ {ws : List LL.W} {vs : List V} {i : Nat} {w : LL.W}, RepWs K A G ρ ω ws vs → ws[i]? = some w → ∃ v, vs[i]? = some v ∧ RepW K A G ρ ω w v
  | _, _, _, _, .nil, e => by simp at e
  | _, _, 0, _, .cons h _, e => by simp at e; subst e; exact ⟨_, rfl, h⟩
  | _, _, i + 1, _, .cons _ r, e => by
    obtain ⟨v, h1, h2⟩ := repWs_get (i := i) r (by simpa using e)
    exact ⟨v, by simpa using h1, h2⟩
theorem repE_start {K : PySem.W.Frag} {A : Ad} {G : Hp} {ρ ω : List Addr} {ws : List LL.W} {vs : List V} {N : List Str} {m : LL.Fun} (r : RepWs K A G ρ ω ws vs) (hN : N.length = m.nv) (hl : ws.length ≤ m.nv) : RepE K A G ρ ω (LL.start m ws) (L2.start N vs) := by
  have l := RepWs.length r
  refine ⟨by simp [LL.start, L2.start, hN, l], fun i w h => ?_⟩
  unfold LL.start at h
  by_cases hi : i < ws.length
  · rw [List.getElem?_append_left (by simpa using hi), List.getElem?_map] at h
    cases hw : ws[i]? with
    | none => rw [hw] at h; cases h
    | some w' =>
      rw [hw] at h
      have e : w' = w := by simpa using h
      subst e
      obtain ⟨v, h1, h2⟩ := repWs_get r hw
      refine ⟨v, ?_, h2⟩
      unfold L2.start
      rw [List.getElem?_append_left (by rw [List.length_map, ← l]; exact hi), List.getElem?_map, h1]; rfl
  · rw [List.getElem?_append_right (by simp; omega)] at h
    rw [List.getElem?_replicate] at h
    split at h <;> simp at h
theorem aft_leave {K : PySem.W.Frag} {A : Ad} {G : Hp} {ρ ω : List Addr} {S : LL.Sto} {H : Hp} {E : XK} {Q : VK} {r : LL.Res (LL.Fl × LL.Env)} (m : MS K A G ρ ω S H)
    (h : Aft K A ρ (fun c H => ∀ C, A.exc c = some C → E (.ref C) none H) G ω (PV K Q A ρ) (LL.leave S.L.length r)) : AftS K A (WCE A E) G ρ ω (PSt K { nx := fun _ H' => Q .non H', rt := Q } A) r := by
  have tr : ∀ {G' ρ' ω' S' H'}, ρ <+: ρ' → MS K A G' ρ' ω' S' H' → MS K A G' ρ ω' (S'.trunc S.L.length) H' := by
    intro G' ρ' ω' S' H' p m'
    have e : ρ'.take S.L.length = ρ := by
      obtain ⟨t, rfl⟩ := p
      rw [← m.ln]; simp
    have := m'.trunc S.L.length
    rw [e] at this
    exact this
  cases r with
  | bad => exact h
  | exc c S' => exact fun G' ρ' ω' H' eG q p m' => h G' ω' H' eG p (tr q m')
  | ok fe S' =>
    obtain ⟨f, σ'⟩ := fe
    intro G' ρ' ω' H' eG q p m'
    cases f with
    | next => exact fun σV _ => h G' ω' H' eG p (tr q m') .non .non
    | brk => exact h.elim
    | cont => exact h.elim
    | ret r =>
      cases r with
      | v t => exact fun v rv => h G' ω' H' eG p (tr q m') v rv
      | new xs =>
        rintro v ⟨a, vs, rfl, h1, h2, h3, h4, h5, h6⟩
        exact h G' ω' H' eG p (tr q m') _ ⟨a, vs, rfl, h1, fun z => h2 (q.subset z), h3, h4, h5, h6⟩
      | l n =>
        rintro v ⟨a, h1, rfl⟩
        have h' : Aft K A ρ (fun c H => ∀ C, A.exc c = some C → E (.ref C) none H) G ω (PV K Q A ρ) (if S.L.length ≤ n then (match S'.L[n]? with | some xs => .ok (.new xs) (S'.trunc S.L.length) | none => .bad) else .bad) := h
        by_cases hn : S.L.length ≤ n
        · rw [if_pos hn] at h'
          cases hx : S'.L[n]? with
          | none => rw [hx] at h'; exact h'.elim
          | some xs =>
            rw [hx] at h'
            obtain ⟨b, vs, q1, q2, q3, q4⟩ := m'.li n xs hx
            rw [h1] at q1; cases q1
            refine h' G' ω' H' eG p (tr q m') _ ⟨a, vs, rfl, q2, fun z => ?_, fun z => ?_, fun z => ?_, q3, q4⟩
            · obtain ⟨j, hj⟩ := List.getElem?_of_mem z
              have hj2 : j < ρ.length := (List.getElem?_eq_some_iff.mp hj).1
              have hj3 := pre_get q hj
              have := (List.getElem_inj m'.nd).mp ((List.getElem?_eq_some_iff.mp hj3).2.trans (List.getElem?_eq_some_iff.mp h1).2.symm)
              rw [m.ln] at hj2
              omega
            · obtain ⟨j, hj⟩ := List.getElem?_of_mem z
              have hl : j < S'.O.length := by rw [← m'.on]; exact (List.getElem?_eq_some_iff.mp hj).1
              obtain ⟨b, C, dx, fs, z1, z2, z3, z4, z5⟩ := m'.ob j _ (List.getElem?_eq_getElem hl)
              rw [hj] at z1; cases z1
              rw [q3] at z4; cases z4
            · obtain ⟨qq, hq, e⟩ := List.mem_map.mp z
              exact (m'.fr qq hq).2.2.1 (e ▸ List.mem_of_getElem? h1)
        · rw [if_neg hn] at h'; exact h'.elim
/-- what is known of the head -/
structure Hd (K : PySem.W.Frag) (mg : Str → Option Value) (A : Ad) (n : Nms) (prog : LL.Prog) : Prop where
  fn : ∀ (f : Nat) (x : Str) (np : Nat), n.fn[f]? = some (some (x, np)) → ∃ (a : Addr) (fd : FuncData) (ps N : List Str) (params : Arguments) (body : List Stmt) (sc : Scope) (m : LL.Fun),
    mg x = some (.ref a) ∧ FunD K x x params body sc [] [] a fd ∧ Binds K fd ps [] ∧ prog.fn f = some m ∧ chkF n N ps m body sc = true
  glo : ∀ (g : Nat) (x : Str) (t : LL.T), n.glo[g]? = some (some x) → prog.glo g = some t → ∃ v u, mg x = some u ∧ RelV v u ∧ ∀ A' G ω, A'.fn = A.fn → Rep K A' G ω t v
  blt : ∀ x ∈ bltNames, mg x = none
  exc : ∀ (c : Nat) (x : Str), n.exc[c]? = some (some x) → ∃ Cc bmB B newId initId, ExcBaseFacts B newId initId bmB ∧ PySem.W.excIn K Cc bmB newId = true ∧ mg x = some (.ref Cc) ∧ PySem.W.keepIn K (.ref Cc) = true ∧
    PySem.W.subIn K (.ref Cc) (.type "BaseException") = some true ∧ PySem.W.typeIn K (.ref Cc) = some (.type "type") ∧ A.exc c = some Cc
def CallOk (P : Program) (w : World) (K : PySem.W.Frag) (mg : Str → Option Value) (base : Heap) (A : Ad) (n : Nms) (prog : LL.Prog) (k : Nat) : Prop := ∀ (f : Nat) (x : Str) (np : Nat), n.fn[f]? = some (some (x, np)) →
    ∃ (a : Addr) (fd : FuncData) (ps : List Str), mg x = some (.ref a) ∧ PySem.W.keepIn K (.ref a) = true ∧ Binds K fd ps [] ∧ FnOk P w K mg base (L2.CX P w) k a fd ps (spOf K A (LL.run prog k f))
theorem fn_step {P : Program} {w : World} {K : PySem.W.Frag} {mg : Str → Option Value} {base : Heap} {A : Ad} {n : Nms} {prog : LL.Prog} (hd : Hd K mg A n prog) {k f : Nat} {a : Addr} {fd : FuncData} {ps N : List Str} {x : Str} {params : Arguments} {body : List Stmt} {sc : Scope} {m : LL.Fun}
    (hc : CallOk P w K mg base A n prog k) (h2 : FunD K x x params body sc [] [] a fd) (h4 : prog.fn f = some m) (h5 : chkF n N ps m body sc = true) : FnOk P w K mg base (L2.CX P w) (k + 1) a fd ps (spOf K A (LL.run prog (k + 1) f)) := by
  unfold chkF at h5
  simp only [Bool.and_eq_true, beq_iff_eq] at h5
  obtain ⟨⟨⟨c1, c2⟩, c3⟩, c4⟩ := h5
  have S := scope_ok c4
  have step : ∀ {vs : List V} {H : Hp} {Q : VK} {E : XK}, spOf K A (LL.run prog (k + 1) f) vs H Q E → vs.length = ps.length ∧ ∃ F G ρ ω S ws, MS K (A.at F) G ρ ω S H ∧ RepWs K (A.at F) G ρ ω ws vs ∧ ws.length = m.np ∧
      Aft K (A.at F) ρ (fun c H => ∀ C, A.exc c = some C → E (.ref C) none H) G ω (PV K Q (A.at F) ρ) (LL.leave S.L.length (LL.evSs ⟨LL.run prog k, prog.glo⟩ m.body (LL.start m ws) S)) := by
    rintro vs H Q E ⟨F, G, ρ, ω, S, ws, ms, rw, aft⟩
    have aft' : Aft K (A.at F) ρ (fun c H => ∀ C, A.exc c = some C → E (.ref C) none H) G ω (PV K Q (A.at F) ρ) ((match prog.fn f with | none => LL.M.bad | some m => fun s => if ws.length = m.np then LL.leave s.L.length (LL.evSs ⟨LL.run prog k, prog.glo⟩ m.body (LL.start m ws) s) else .bad) S) := aft
    rw [h4] at aft'
    dsimp only at aft'
    by_cases hl : ws.length = m.np
    · rw [if_pos hl] at aft'
      exact ⟨by rw [← RepWs.length rw, hl, c3], F, G, ρ, ω, S, ws, ms, rw, hl, aft'⟩
    · rw [if_neg hl] at aft'; exact aft'.elim
  refine h2.ok S (fun vs H Q E sp => (step sp).1) fun cdv A0 outer s H vs Q E hr sp => ?_
  obtain ⟨_, F, G, ρ, ω, S1, ws, ms, rw, hl, aft⟩ := step sp
  refine ⟨rdS K A E (LL.evSs ⟨LL.run prog k, prog.glo⟩ m.body), ?_, F, G, ρ, ω, S1, LL.start m ws, ms, repE_start rw c2 (by
    rw [hl, ← c3, ← c2]
    have := congrArg List.length S.pre
    rw [List.length_take] at this
    omega), aft_leave (E := E) ms aft⟩
  refine chkSs_ok (C := ⟨LL.run prog k, prog.glo⟩) (n := n) (k := k) (N := N) (sc := sc) m.body ⟨⟨rfl, S.nd, rfl, S.kind, rfl, hr, fun f' x' np' h' => hc f' x' np' h', hd.glo, hd.blt, fun c x hx => ?_⟩, takes_of rfl rfl rfl rfl, passes_of rfl, fun x => rfl⟩ body c1
  obtain ⟨Cc, bmB, B, newId, initId, e1, e2, e3, e4, e5, e6, e7⟩ := hd.exc c x hx
  exact ⟨Cc, bmB, B, newId, initId, e1, e2, e3, e4, raises_own e5 e6, e7⟩
theorem fns_ok {P : Program} {w : World} {K : PySem.W.Frag} {mg : Str → Option Value} {base : Heap} {A : Ad} {n : Nms} {prog : LL.Prog} (hd : Hd K mg A n prog) : ∀ k : Nat, CallOk P w K mg base A n prog k
  | 0, f, x, np, h => by
    obtain ⟨a, fd, ps, N, params, body, sc, m, h1, h2, h3, h4, h5⟩ := hd.fn f x np h
    refine ⟨a, fd, ps, h1, h2.kp, h3, ⟨fun vs H Q E sp => ?_, fun A outer s H args us vs Q E _ _ _ _ sp => ?_⟩⟩
    · obtain ⟨F, G, ρ, ω, S, ws, ms, rw, aft⟩ := sp
      exact aft.elim
    · obtain ⟨F, G, ρ, ω, S, ws, ms, rw, aft⟩ := sp
      exact aft.elim
  | k + 1, f, x, np, h => by
    obtain ⟨a, fd, ps, N, params, body, sc, m, h1, h2, h3, h4, h5⟩ := hd.fn f x np h
    exact ⟨a, fd, ps, h1, h2.kp, h3, fn_step hd (fns_ok hd k) h2 h4 h5⟩
end LLS

set_option Elab.async false
set_option linter.all false
set_option autoImplicit false
set_option maxRecDepth 100000
set_option maxHeartbeats 4000000
namespace LLS
open PySem PySem.Spec PyProof.Rows L2 PySem.SeqAt

/-! ### the head: facts, tuples -/
def tupsB (K : PySem.W.Frag) (ts : List (Str × List He.Dv)) : Bool := ts.all fun t => He.tupB K t.1 t.2
abbrev AlU : Type := He.AlD × Bool
def obsU (fa : List He.Fa) (fn : List He.DefD) (ts : List (Str × List He.Dv)) (K : PySem.W.Frag) : AlU := (He.obsD fa fn K, tupsB K ts)
def valU (fn : List He.DefD) : AlU := (He.valD fn, true)
def obsUG (n : Nat) (fa : List He.Fa) (fn : List He.DefD) (ts : List (Str × List He.Dv)) (g : Addr → Option Obj) : AlU := obsU fa fn ts (He.frG g (He.asD g n))
def SaysU (fa : List He.Fa) (fn : List He.DefD) (ts : List (Str × List He.Dv)) (K : PySem.W.Frag) : Prop := obsU fa fn ts K = valU fn
def hookU (n : Nat) (fa : List He.Fa) (fn : List He.DefD) (ts : List (Str × List He.Dv)) : PySem.W.Hook where
  α := AlU
  obs := fun s => obsUG n fa fn ts s.heap.get?
  val := fun _ => valU fn
  says := fun _ h => ∃ K : PySem.W.Frag, K.In h ∧ SaysU fa fn ts K
  of := fun _ _ e => ⟨_, He.frG_in, e⟩
  keeps := fun _ _ _ ⟨K, hK, c⟩ k => ⟨K, PySem.W.Frag.In.keeps hK k, c⟩
theorem obsUG_eq {n : Nat} {fa : List He.Fa} {fn : List He.DefD} {ts : List (Str × List He.Dv)} {g : Addr → Option Obj} {s : Shared} (h : ∀ a, g a = s.heap.get? a) : obsUG n fa fn ts g = (hookU n fa fn ts).obs s := by
  have e : g = s.heap.get? := funext h
  subst e
  rfl
theorem SaysU.d {fa : List He.Fa} {fn : List He.DefD} {ts : List (Str × List He.Dv)} {K : PySem.W.Frag} (c : SaysU fa fn ts K) : He.SaysD fa fn K := congrArg Prod.fst c
theorem SaysU.t {fa : List He.Fa} {fn : List He.DefD} {ts : List (Str × List He.Dv)} {K : PySem.W.Frag} (c : SaysU fa fn ts K) {i : Nat} {t : Str × List He.Dv} (h : ts[i]? = some t) : He.tupB K t.1 t.2 = true := by
  have h2 : tupsB K ts = true := congrArg Prod.snd c
  unfold tupsB at h2
  exact List.all_eq_true.mp h2 t (List.mem_of_getElem? h)

/-! ### a law's end -/
theorem walk_ofEW {l : PySem.W.OpenLaw} {n k : Nat} {q : Program} {loose : List Str} {XP : (Str → Option Value) → Heap → Prop} {YP : World → Heap → Prop} {d : DefRec} {CX : World → CXT} {x : Str}
    (hn : l.most = some n) (hn2 : n ≤ sizeLine) (hdf : d.params.defaults = []) (hr : Room k callerA)
    (F : ∀ (w : World) (mg : Str → Option Value) (fa : Addr) (h : Heap), YP w h → h.Ns mainGlobals mg → mg d.name = some (.ref fa) →
      ∃ (K : PySem.W.Frag) (fd : FuncData) (sp : Sp), K.In h ∧ (∀ (s : Shared) (u : Value), BindsTo s fd ⟨[u], []⟩ [(x, u)]) ∧
        (∀ (H : Hp) (a : Addr) (ns : List Int), ns.length ≤ n → Only H → SqL K H a (ns.map V.int) → sp [.ref a] H (fun v _ => v = .bl true) fun _ _ _ => False) ∧
        ∀ base : Heap, K.In base → base.Ns mainGlobals mg → FnOk l.prog w K mg base (CX w) k fa fd [x] sp)
    (hCX : ∀ (w : World) (H : Hp) (s : Shared) (e : Value) (s' : Shared), CX w [] H s (fun _ _ _ => False) e s' → False) :
    PySem.W.WalkO q loose XP YP l.row.toRowW d [] (fun f vs => PySem.call f vs) := by
  refine Att.attach_call hn hdf fun w s₀ s₁ mg mb fa o pm cd doc a vs ns G Y ho hd hcd hmg hobj hints hlen hg => ?_
  obtain ⟨K, fd, sp, KX, hb, hsp, hF⟩ := F w mg fa _ Y G.T.g hmg
  exact law_call KX G.T.g G.T.b G.T.builtins G.T.nolimit hg hobj hints (Nat.le_trans hlen hn2) hr hF hb (fun H hO hS => hsp H a ns hlen hO hS) fun H e s' => hCX w H s₁ e s'
theorem cx_false {P : Program} {w : World} (H : Hp) (s : Shared) (e : Value) (s' : Shared) (h : L2.CX P w [] H s (fun _ _ _ => False) e s') : False := by
  obtain ⟨a, B, H', cls, d, _, _, _, _, _, _, _, z⟩ := h
  exact z
/-- the law's promise: the evaluator ends with True -/
theorem sp_law {K : PySem.W.Frag} {A : Ad} {call : List LL.W → LL.M LL.Rv} {H : Hp} {a : Addr} {ns : List Int} {S : LL.Sto} (hA : A.fr = []) (h : call [.t (.scr ns)] ⟨[], []⟩ = .ok (.v (.bl true)) S) (q : SqL K H a (ns.map V.int)) :
    spOf K A call [.ref a] H (fun v _ => v = .bl true) fun _ _ _ => False := by
  refine ⟨[], H, [], [], ⟨[], []⟩, [.t (.scr ns)], ⟨Ext.refl H, rfl, List.nodup_nil, fun n xs e => by simp at e, rfl, List.nodup_nil, fun n i e => by simp at e, fun p hp => by simp at hp, List.nodup_nil⟩, .cons (.scr q) .nil, ?_⟩
  rw [h]
  intro G' ω' H' _ _ _ v rv
  cases rv
  rfl
end LLS

set_option maxRecDepth 100000
namespace LLP
open LL
def F_is_integer : Fun := ⟨3, 3, (.cons (.ret (.and (.isi (.var 0) .int) (.and (.not (.isi (.var 0) .bool)) (.cmp2 .le .le (.var 1) (.var 0) (.var 2))))) .nil)⟩
def F_is_text : Fun := ⟨2, 3, (.cons (.ret (.and (.isi (.var 0) .str) (.and (.cmp .le (.bi .len (.cons (.var 0) .nil)) (.var 1)) (.bi .all (.cons (.lc [2] (.cmp .isin (.var 2) (.glo 0)) (.n 2) (.e (.var 0)) .no) .nil))))) .nil)⟩
def F_is_pair : Fun := ⟨2, 2, (.cons (.ite (.or (.not (.val (.isi (.var 0) .tuple))) (.val (.cmp .ne (.bi .len (.cons (.var 0) .nil)) (.c (.int 2))))) (.cons (.ret (.c (.bl false))) .nil) .nil) (.cons (.ret (.and (.call 0 (.cons (.ix (.var 0) (.c (.int 0))) (.cons (.c (.int 0)) (.cons (.bin .sub (.ix (.var 1) (.c (.int 0))) (.c (.int 1))) .nil)))) (.call 0 (.cons (.ix (.var 0) (.c (.int 1))) (.cons (.c (.int 0)) (.cons (.bin .sub (.ix (.var 1) (.c (.int 1))) (.c (.int 1))) .nil)))))) .nil))⟩
def F_are_sizes : Fun := ⟨1, 2, (.cons (.ret (.and (.isi (.var 0) .tuple) (.and (.cmp .eq (.bi .len (.cons (.var 0) .nil)) (.c (.int 2))) (.bi .all (.cons (.lc [1] (.call 0 (.cons (.var 1) (.cons (.c (.int 1)) (.cons (.c (.int 4)) .nil)))) (.n 1) (.e (.var 0)) .no) .nil))))) .nil)⟩
def F_are_manners : Fun := ⟨1, 2, (.cons (.ite (.or (.not (.val (.isi (.var 0) .tuple))) (.val (.cmp .notin (.bi .len (.cons (.var 0) .nil)) (.tup (.cons (.c (.int 1)) (.cons (.c (.int 2)) .nil)))))) (.cons (.ret (.c (.bl false))) .nil) .nil) (.cons (.ret (.bi .all (.cons (.lc [1] (.and (.isi (.var 1) .str) (.cmp .isin (.var 1) (.glo 1))) (.n 1) (.e (.var 0)) .no) .nil))) .nil))⟩
def F_is_deed : Fun := ⟨2, 2, (.cons (.ite (.or (.not (.val (.isi (.var 0) .str))) (.val (.cmp .notin (.bi .len (.cons (.var 0) .nil)) (.tup (.cons (.c (.int 0)) (.cons (.c (.int 3)) .nil)))))) (.cons (.ret (.c (.bl false))) .nil) .nil) (.cons (.ret (.or (.cmp .eq (.var 0) (.c (.str []))) (.and (.cmp .isin (.ix (.var 0) (.c (.int 0))) (.c (.str [43, 45]))) (.and (.cmp .isin (.ix (.var 0) (.c (.int 1))) (.sl (.c (.str [48, 49])) .no (.yes (.var 1)))) (.cmp .isin (.ix (.var 0) (.c (.int 2))) (.glo 0)))))) .nil))⟩
def F_is_rule : Fun := ⟨3, 4, (.cons (.ite (.or (.not (.val (.isi (.var 0) .tuple))) (.or (.val (.cmp .ne (.bi .len (.cons (.var 0) .nil)) (.c (.int 4)))) (.not (.val (.call 0 (.cons (.ix (.var 0) (.c (.int 0))) (.cons (.c (.int 0)) (.cons (.c (.int 1)) .nil)))))))) (.cons (.ret (.c (.bl false))) .nil) .nil) (.cons (.asg (.n 3) (.bin .sub (.ix (.var 1) (.ix (.var 0) (.c (.int 0)))) (.c (.int 1)))) (.cons (.ret (.and (.call 0 (.cons (.ix (.var 0) (.c (.int 1))) (.cons (.c (.int 0)) (.cons (.var 3) .nil)))) (.and (.call 5 (.cons (.ix (.var 0) (.c (.int 2))) (.cons (.var 2) .nil))) (.call 0 (.cons (.ix (.var 0) (.c (.int 3))) (.cons (.c (.int 0)) (.cons (.var 3) .nil))))))) .nil)))⟩
def F_is_talk : Fun := ⟨1, 5, (.cons (.ite (.or (.not (.val (.isi (.var 0) .tuple))) (.or (.val (.cmp .ne (.bi .len (.cons (.var 0) .nil)) (.c (.int 3)))) (.or (.not (.val (.call 3 (.cons (.ix (.var 0) (.c (.int 0))) .nil)))) (.not (.val (.call 4 (.cons (.ix (.var 0) (.c (.int 1))) .nil))))))) (.cons (.ret (.c (.bl false))) .nil) .nil) (.cons (.asg (.n 1) (.ix (.var 0) (.c (.int 2)))) (.cons (.ite (.or (.not (.val (.isi (.var 1) .tuple))) (.val (.cmp .gt (.bi .len (.cons (.var 1) .nil)) (.c (.int 10))))) (.cons (.ret (.c (.bl false))) .nil) .nil) (.cons (.ite (.not (.val (.bi .all (.cons (.lc [2] (.call 6 (.cons (.var 2) (.cons (.ix (.var 0) (.c (.int 0))) (.cons (.bi .len (.cons (.ix (.var 0) (.c (.int 1))) .nil)) .nil)))) (.n 2) (.e (.var 1)) .no) .nil)))) (.cons (.ret (.c (.bl false))) .nil) .nil) (.cons (.ret (.bi .all (.cons (.lc [3, 4] (.cmp .lt (.var 3) (.var 4)) (.tp [3, 4]) (.zip2 (.var 1) (.sl (.var 1) (.yes (.c (.int 1))) .no)) .no) .nil))) .nil)))))⟩
def F_in_order : Fun := ⟨1, 2, (.cons (.ret (.me .join (.c (.str [])) (.cons (.lc [1] (.bin .mul (.var 1) (.me .count (.var 0) (.cons (.var 1) .nil))) (.n 1) (.e (.glo 0)) .no) .nil))) .nil)⟩
def F_fits_line : Fun := ⟨2, 4, (.cons (.ite (.val (.cmp .eq (.var 0) (.c (.str [104, 101, 97, 112])))) (.cons (.ret (.cmp .eq (.call 8 (.cons (.var 1) .nil)) (.var 1))) .nil) .nil) (.cons (.ret (.or (.cmp .eq (.var 0) (.c (.str [114, 111, 119]))) (.bi .all (.cons (.lc [2, 3] (.cmp .ne (.var 2) (.var 3)) (.tp [2, 3]) (.zip2 (.var 1) (.sl (.var 1) (.yes (.c (.int 1))) .no)) .no) .nil)))) .nil))⟩
def F_is_one : Fun := ⟨2, 5, (.cons (.ite (.or (.not (.val (.isi (.var 1) .tuple))) (.or (.val (.cmp .ne (.bi .len (.cons (.var 1) .nil)) (.c (.int 2)))) (.not (.val (.call 2 (.cons (.ix (.var 1) (.c (.int 0))) (.cons (.ix (.var 0) (.c (.int 0))) .nil))))))) (.cons (.ret (.c (.bl false))) .nil) .nil) (.cons (.asg (.n 2) (.ix (.var 1) (.c (.int 1)))) (.cons (.ite (.or (.not (.val (.isi (.var 2) .tuple))) (.val (.cmp .ne (.bi .len (.cons (.var 2) .nil)) (.bi .len (.cons (.ix (.var 0) (.c (.int 1))) .nil))))) (.cons (.ret (.c (.bl false))) .nil) .nil) (.cons (.ret (.bi .all (.cons (.lc [3, 4] (.and (.call 1 (.cons (.var 4) (.cons (.glo 2) .nil))) (.call 9 (.cons (.var 3) (.cons (.var 4) .nil)))) (.tp [3, 4]) (.zip2 (.ix (.var 0) (.c (.int 1))) (.var 2)) .no) .nil))) .nil))))⟩
def F_need_talk : Fun := ⟨1, 1, (.cons (.ite (.not (.val (.call 7 (.cons (.var 0) .nil)))) (.cons (.raise 1) .nil) .nil) .nil)⟩
def F_is_situation : Fun := ⟨2, 2, (.cons (.ex (.call 11 (.cons (.var 0) .nil))) (.cons (.ret (.call 10 (.cons (.var 0) (.cons (.var 1) .nil)))) .nil))⟩
def F_first_of : Fun := ⟨1, 1, (.cons (.ret (.tup (.cons (.tup (.cons (.c (.int 0)) (.cons (.c (.int 0)) .nil))) (.cons (.bin .mul (.tup (.cons (.c (.str [])) .nil)) (.bi .len (.cons (.ix (.var 0) (.c (.int 1))) .nil))) .nil)))) .nil)⟩
def F_beginning : Fun := ⟨1, 1, (.cons (.ex (.call 11 (.cons (.var 0) .nil))) (.cons (.ret (.call 13 (.cons (.var 0) .nil))) .nil))⟩
def F__law_cell : Fun := ⟨2, 2, (.cons (.ite (.val (.cmp .lt (.var 1) (.bi .len (.cons (.var 0) .nil)))) (.cons (.ret (.ix (.var 0) (.var 1))) .nil) .nil) (.cons (.ite (.val (.cmp .eq (.bi .len (.cons (.var 0) .nil)) (.c (.int 0)))) (.cons (.ret (.bin .add (.bin .mul (.c (.int 7919)) (.var 1)) (.c (.int 101)))) .nil) .nil) (.cons (.ret (.bin .add (.bin .mod (.ix (.var 0) (.bin .mod (.var 1) (.bi .len (.cons (.var 0) .nil)))) (.c (.int 1000003))) (.bin .mul (.c (.int 7919)) (.var 1)))) .nil)))⟩
def F__law_draws : Fun := ⟨4, 10, (.cons (.asg (.n 4) (.tup (.cons (.c (.int 2147483647)) (.cons (.c (.int 2147483629)) (.cons (.c (.int 2147483587)) (.cons (.c (.int 2147483579)) (.cons (.c (.int 2147483563)) (.cons (.c (.int 2147483549)) (.cons (.c (.int 2147483543)) (.cons (.c (.int 2147483497)) .nil)))))))))) (.cons (.asg (.n 5) (.call 15 (.cons (.var 0) (.cons (.var 1) .nil)))) (.cons (.asg (.n 6) (.c (.int 0))) (.cons (.ite (.val (.cmp .ge (.var 5) (.bin .pow (.c (.int 10)) (.c (.int 18))))) (.cons (.asg (.n 6) (.var 5)) .nil) .nil) (.cons (.new 7 (.lst .nil)) (.cons (.loop (.n 8) (.rng (.var 2)) (.cons (.asg (.n 9) (.bin .mul (.bin .mod (.var 5) (.ix (.var 4) (.bin .mod (.var 8) (.c (.int 8))))) (.bin .add (.c (.int 48271)) (.bin .mul (.bin .mul (.c (.int 2)) (.var 8)) (.var 8))))) (.cons (.asg (.n 9) (.bin .add (.bin .add (.var 9) (.bin .mul (.bin .mul (.c (.int 7919)) (.bin .add (.var 8) (.c (.int 1)))) (.bin .add (.var 8) (.c (.int 1))))) (.bin .mul (.c (.int 104729)) (.var 1)))) (.cons (.asg (.n 9) (.bin .mod (.var 9) (.ix (.var 4) (.bin .mod (.bin .add (.bin .mul (.c (.int 3)) (.var 8)) (.var 1)) (.c (.int 8)))))) (.cons (.asg (.n 9) (.bin .mod (.bin .mul (.bin .mul (.var 9) (.var 9)) (.var 9)) (.ix (.var 4) (.bin .mod (.bin .add (.var 8) (.c (.int 5))) (.c (.int 8)))))) (.cons (.ite (.val (.cmp .gt (.var 6) (.c (.int 0)))) (.cons (.asg (.n 9) (.var 6)) .nil) .nil) (.cons (.ex (.me .append (.var 7) (.cons (.bin .mod (.var 9) (.var 3)) .nil))) (.cons (.asg (.n 6) (.bin .fdiv (.var 6) (.var 3))) .nil)))))))) (.cons (.ret (.var 7)) .nil)))))))⟩
def F__law_bag : Fun := ⟨2, 2, (.cons (.ret (.call 16 (.cons (.var 0) (.cons (.var 1) (.cons (.c (.int 150)) (.cons (.c (.int 27720)) .nil)))))) .nil)⟩
def F__law_take : Fun := ⟨2, 3, (.cons (.asg (.n 2) (.ite (.val (.cmp .ne (.var 0) (.lst .nil))) (.me .pop0 (.var 0) (.cons (.c (.int 0)) .nil)) (.c (.int 0)))) (.cons (.ret (.bin .mod (.bi .int (.cons (.var 2) .nil)) (.var 1))) .nil))⟩
def F__law_choice : Fun := ⟨2, 2, (.cons (.ret (.ix (.var 1) (.call 18 (.cons (.var 0) (.cons (.bi .len (.cons (.var 1) .nil)) .nil))))) .nil)⟩
def F__law_ascending : Fun := ⟨1, 5, (.cons (.new 1 (.lst .nil)) (.cons (.loop (.n 2) (.e (.var 0)) (.cons (.ite (.val (.cmp .notin (.var 2) (.var 1))) (.cons (.asg (.n 3) (.bi .len (.cons (.lc [4] (.var 4) (.n 4) (.e (.var 1)) (.yes (.val (.cmp .lt (.var 4) (.var 2))))) .nil))) (.cons (.ex (.me .insert (.var 1) (.cons (.var 3) (.cons (.var 2) .nil)))) .nil)) .nil) .nil)) (.cons (.ret (.var 1)) .nil)))⟩
def F__law_letters : Fun := ⟨1, 1, (.cons (.ret (.call 19 (.cons (.var 0) (.cons (.lst (.cons (.c (.str [97, 98])) (.cons (.c (.str [97, 98])) (.cons (.c (.str [97, 98])) (.cons (.c (.str [98, 97])) (.cons (.c (.str [98, 99])) (.cons (.c (.str [97, 98, 99])) .nil))))))) .nil)))) .nil)⟩
def F__law_sizes : Fun := ⟨1, 1, (.cons (.ret (.call 19 (.cons (.var 0) (.cons (.lst (.cons (.tup (.cons (.c (.int 2)) (.cons (.c (.int 2)) .nil))) (.cons (.tup (.cons (.c (.int 2)) (.cons (.c (.int 1)) .nil))) (.cons (.tup (.cons (.c (.int 2)) (.cons (.c (.int 2)) .nil))) (.cons (.tup (.cons (.c (.int 3)) (.cons (.c (.int 2)) .nil))) (.cons (.tup (.cons (.c (.int 1)) (.cons (.c (.int 2)) .nil))) (.cons (.tup (.cons (.c (.int 2)) (.cons (.c (.int 3)) .nil))) (.cons (.tup (.cons (.c (.int 3)) (.cons (.c (.int 1)) .nil))) (.cons (.tup (.cons (.c (.int 1)) (.cons (.c (.int 1)) .nil))) (.cons (.tup (.cons (.c (.int 3)) (.cons (.c (.int 3)) .nil))) (.cons (.tup (.cons (.c (.int 4)) (.cons (.c (.int 2)) .nil))) (.cons (.tup (.cons (.c (.int 1)) (.cons (.c (.int 4)) .nil))) .nil)))))))))))) .nil)))) .nil)⟩
def F__law_manners : Fun := ⟨1, 3, (.cons (.asg (.n 1) (.call 19 (.cons (.var 0) (.cons (.lst (.cons (.c (.str [114, 111, 119])) (.cons (.c (.str [114, 111, 119])) (.cons (.c (.str [101, 99, 104, 111])) (.cons (.c (.str [104, 101, 97, 112])) .nil))))) .nil)))) (.cons (.asg (.n 2) (.call 19 (.cons (.var 0) (.cons (.lst (.cons (.c (.str [114, 111, 119])) (.cons (.c (.str [101, 99, 104, 111])) (.cons (.c (.str [104, 101, 97, 112])) (.cons (.c (.str [])) .nil))))) .nil)))) (.cons (.ret (.ite (.val (.cmp .eq (.var 2) (.c (.str [])))) (.tup (.cons (.var 1) .nil)) (.tup (.cons (.var 1) (.cons (.var 2) .nil))))) .nil)))⟩
def F__law_rule : Fun := ⟨4, 8, (.cons (.asg (.n 4) (.call 18 (.cons (.var 0) (.cons (.c (.int 2)) .nil)))) (.cons (.par 6 7 (.call 18 (.cons (.var 0) (.cons (.ix (.var 1) (.var 4)) .nil))) (.call 18 (.cons (.var 0) (.cons (.ix (.var 1) (.var 4)) .nil)))) (.cons (.asg (.n 5) (.call 19 (.cons (.var 0) (.cons (.lst (.cons (.c (.str [43])) (.cons (.c (.str [45])) (.cons (.c (.str [45])) (.cons (.c (.str [43])) (.cons (.c (.str [45])) (.cons (.c (.str [])) .nil))))))) .nil)))) (.cons (.ite (.val (.cmp .ne (.var 5) (.c (.str [])))) (.cons (.asg (.n 5) (.bin .add (.bin .add (.var 5) (.bi .str (.cons (.call 18 (.cons (.var 0) (.cons (.var 2) .nil))) .nil))) (.call 19 (.cons (.var 0) (.cons (.var 3) .nil))))) .nil) .nil) (.cons (.ret (.tup (.cons (.var 4) (.cons (.var 6) (.cons (.var 5) (.cons (.var 7) .nil)))))) .nil)))))⟩
def F__law_talk : Fun := ⟨2, 8, (.cons (.par 6 7 (.call 22 (.cons (.var 0) .nil)) (.call 21 (.cons (.var 0) .nil))) (.cons (.asg (.n 2) (.call 23 (.cons (.var 0) .nil))) (.cons (.asg (.n 3) (.call 19 (.cons (.var 0) (.cons (.lst (.cons (.var 1) (.cons (.var 1) (.cons (.bin .add (.c (.int 1)) (.call 18 (.cons (.var 0) (.cons (.var 1) .nil)))) (.cons (.call 18 (.cons (.var 0) (.cons (.c (.int 3)) .nil))) .nil))))) .nil)))) (.cons (.new 4 (.lst .nil)) (.cons (.loop (.n 5) (.rng (.var 3)) (.cons (.ex (.me .append (.var 4) (.cons (.call 24 (.cons (.var 0) (.cons (.var 6) (.cons (.bi .len (.cons (.var 2) .nil)) (.cons (.var 7) .nil))))) .nil))) .nil)) (.cons (.ret (.tup (.cons (.var 6) (.cons (.var 2) (.cons (.bi .tuple (.cons (.call 20 (.cons (.var 4) .nil)) .nil)) .nil))))) .nil))))))⟩
def F__law_fitted : Fun := ⟨2, 4, (.cons (.ite (.val (.cmp .eq (.var 0) (.c (.str [104, 101, 97, 112])))) (.cons (.ret (.me .join (.c (.str [])) (.cons (.bi .sorted (.cons (.lc [3] (.bi .str (.cons (.var 3) .nil)) (.n 3) (.e (.var 1)) .no) .nil)) .nil))) .nil) .nil) (.cons (.asg (.n 2) (.c (.str []))) (.cons (.loop (.n 3) (.e (.var 1)) (.cons (.ite (.or (.val (.cmp .eq (.var 0) (.c (.str [114, 111, 119])))) (.val (.cmp .ne (.sl (.var 2) (.yes (.neg (.c (.int 1)))) .no) (.var 3)))) (.cons (.asg (.n 2) (.bin .add (.var 2) (.var 3))) .nil) .nil) .nil)) (.cons (.ret (.var 2)) .nil))))⟩
def F__law_text : Fun := ⟨3, 5, (.cons (.asg (.n 3) (.call 19 (.cons (.var 0) (.cons (.lst (.cons (.c (.str [97, 98])) (.cons (.c (.str [97, 98])) (.cons (.c (.str [97, 98, 99])) (.cons (.c (.str [97])) .nil))))) .nil)))) (.cons (.ret (.call 26 (.cons (.var 1) (.cons (.lc [4] (.call 19 (.cons (.var 0) (.cons (.var 3) .nil))) (.n 4) (.rng (.call 18 (.cons (.var 0) (.cons (.bin .add (.var 2) (.c (.int 1))) .nil)))) .no) .nil)))) .nil))⟩
def F__law_place : Fun := ⟨3, 5, (.cons (.asg (.n 3) (.tup (.cons (.call 18 (.cons (.var 0) (.cons (.ix (.ix (.var 1) (.c (.int 0))) (.c (.int 0))) .nil))) (.cons (.call 18 (.cons (.var 0) (.cons (.ix (.ix (.var 1) (.c (.int 0))) (.c (.int 1))) .nil))) .nil)))) (.cons (.ret (.tup (.cons (.var 3) (.cons (.bi .tuple (.cons (.lc [4] (.call 27 (.cons (.var 0) (.cons (.var 4) (.cons (.var 2) .nil)))) (.n 4) (.e (.ix (.var 1) (.c (.int 1)))) .no) .nil)) .nil)))) .nil))⟩
def F__law_first : Fun := ⟨1, 1, (.cons (.ret (.tup (.cons (.tup (.cons (.c (.int 0)) (.cons (.c (.int 0)) .nil))) (.cons (.bin .mul (.tup (.cons (.c (.str [])) .nil)) (.bi .len (.cons (.ix (.var 0) (.c (.int 1))) .nil))) .nil)))) .nil)⟩
def F__law_whole : Fun := ⟨3, 3, (.cons (.ret (.and (.isi (.var 0) .int) (.and (.not (.isi (.var 0) .bool)) (.cmp2 .le .le (.var 1) (.var 0) (.var 2))))) .nil)⟩
def F__law_good_modes : Fun := ⟨2, 2, (.cons (.ite (.or (.not (.val (.isi (.var 0) .tuple))) (.val (.cmp .ne (.bi .len (.cons (.var 0) .nil)) (.c (.int 2))))) (.cons (.ret (.c (.bl false))) .nil) .nil) (.cons (.ret (.and (.call 32 (.cons (.ix (.var 0) (.c (.int 0))) (.cons (.c (.int 0)) (.cons (.bin .sub (.ix (.var 1) (.c (.int 0))) (.c (.int 1))) .nil)))) (.call 32 (.cons (.ix (.var 0) (.c (.int 1))) (.cons (.c (.int 0)) (.cons (.bin .sub (.ix (.var 1) (.c (.int 1))) (.c (.int 1))) .nil)))))) .nil))⟩
def F__law_good_rule : Fun := ⟨3, 10, (.cons (.ite (.or (.not (.val (.isi (.var 0) .tuple))) (.or (.val (.cmp .ne (.bi .len (.cons (.var 0) .nil)) (.c (.int 4)))) (.not (.val (.call 32 (.cons (.ix (.var 0) (.c (.int 0))) (.cons (.c (.int 0)) (.cons (.c (.int 1)) .nil)))))))) (.cons (.ret (.c (.bl false))) .nil) .nil) (.cons (.asg (.tp [5, 6, 7, 8]) (.var 0)) (.cons (.ite (.or (.not (.val (.call 32 (.cons (.var 6) (.cons (.c (.int 0)) (.cons (.bin .sub (.ix (.var 1) (.var 5)) (.c (.int 1))) .nil)))))) (.not (.val (.call 32 (.cons (.var 8) (.cons (.c (.int 0)) (.cons (.bin .sub (.ix (.var 1) (.var 5)) (.c (.int 1))) .nil))))))) (.cons (.ret (.c (.bl false))) .nil) .nil) (.cons (.asg (.n 3) (.lst (.cons (.c (.str [])) .nil))) (.cons (.loop (.n 4) (.e (.sl (.lst (.cons (.c (.str [48])) (.cons (.c (.str [49])) .nil))) .no (.yes (.var 2)))) (.cons (.loop (.n 9) (.e (.c (.str [97, 98, 99]))) (.cons (.asg (.n 3) (.bin .add (.var 3) (.lst (.cons (.bin .add (.bin .add (.c (.str [43])) (.var 4)) (.var 9)) (.cons (.bin .add (.bin .add (.c (.str [45])) (.var 4)) (.var 9)) .nil))))) .nil)) .nil)) (.cons (.ret (.and (.isi (.var 7) .str) (.cmp .isin (.var 7) (.var 3)))) .nil))))))⟩
def F__law_good_talk : Fun := ⟨1, 9, (.cons (.ite (.or (.not (.val (.isi (.var 0) .tuple))) (.or (.val (.cmp .ne (.bi .len (.cons (.var 0) .nil)) (.c (.int 3)))) (.val (.cmp .ne (.lc [7] (.c (.int 1)) (.n 7) (.e (.var 0)) (.yes (.not (.val (.isi (.var 7) .tuple))))) (.lst .nil))))) (.cons (.ret (.c (.bl false))) .nil) .nil) (.cons (.asg (.tp [1, 2, 3]) (.var 0)) (.cons (.ite (.or (.val (.cmp .ne (.bi .len (.cons (.var 1) .nil)) (.c (.int 2)))) (.val (.cmp .ne (.lc [8] (.var 8) (.n 8) (.e (.var 1)) (.yes (.not (.val (.call 32 (.cons (.var 8) (.cons (.c (.int 1)) (.cons (.c (.int 4)) .nil)))))))) (.lst .nil)))) (.cons (.ret (.c (.bl false))) .nil) .nil) (.cons (.ite (.or (.not (.val (.cmp2 .le .le (.c (.int 1)) (.bi .len (.cons (.var 2) .nil)) (.c (.int 2))))) (.val (.cmp .gt (.bi .len (.cons (.var 3) .nil)) (.c (.int 10))))) (.cons (.ret (.c (.bl false))) .nil) .nil) (.cons (.ite (.val (.cmp .ne (.lc [4] (.c (.int 1)) (.n 4) (.e (.var 2)) (.yes (.or (.not (.val (.isi (.var 4) .str))) (.val (.cmp .notin (.var 4) (.lst (.cons (.c (.str [114, 111, 119])) (.cons (.c (.str [101, 99, 104, 111])) (.cons (.c (.str [104, 101, 97, 112])) .nil))))))))) (.lst .nil))) (.cons (.ret (.c (.bl false))) .nil) .nil) (.cons (.ite (.val (.cmp .ne (.lc [5] (.var 5) (.n 5) (.e (.var 3)) (.yes (.not (.val (.call 35 (.cons (.var 5) (.cons (.var 1) (.cons (.bi .len (.cons (.var 2) .nil)) .nil)))))))) (.lst .nil))) (.cons (.ret (.c (.bl false))) .nil) .nil) (.cons (.ret (.cmp .eq (.lc [6] (.var 6) (.n 6) (.rng2 (.c (.int 1)) (.bi .len (.cons (.var 3) .nil))) (.yes (.not (.val (.cmp .lt (.ix (.var 3) (.bin .sub (.var 6) (.c (.int 1)))) (.ix (.var 3) (.var 6))))))) (.lst .nil))) .nil)))))))⟩
def F__law_good_place : Fun := ⟨2, 4, (.cons (.ite (.or (.not (.val (.isi (.var 1) .tuple))) (.or (.val (.cmp .ne (.bi .len (.cons (.var 1) .nil)) (.c (.int 2)))) (.not (.val (.call 34 (.cons (.ix (.var 1) (.c (.int 0))) (.cons (.ix (.var 0) (.c (.int 0))) .nil))))))) (.cons (.ret (.c (.bl false))) .nil) .nil) (.cons (.asg (.n 2) (.ix (.var 1) (.c (.int 1)))) (.cons (.ite (.or (.not (.val (.isi (.var 2) .tuple))) (.val (.cmp .ne (.bi .len (.cons (.var 2) .nil)) (.bi .len (.cons (.ix (.var 0) (.c (.int 1))) .nil))))) (.cons (.ret (.c (.bl false))) .nil) .nil) (.cons (.loop (.n 3) (.rng (.bi .len (.cons (.var 2) .nil))) (.cons (.ite (.or (.not (.val (.call 33 (.cons (.ix (.var 2) (.var 3)) (.cons (.c (.int 60)) .nil))))) (.val (.cmp .ne (.call 26 (.cons (.ix (.ix (.var 0) (.c (.int 1))) (.var 3)) (.cons (.ix (.var 2) (.var 3)) .nil))) (.ix (.var 2) (.var 3))))) (.cons (.ret (.c (.bl false))) .nil) .nil) .nil)) (.cons (.ret (.c (.bl true))) .nil)))))⟩
def F__law_spoilt : Fun := ⟨2, 5, (.cons (.ite (.val (.isi (.var 1) .list)) (.cons (.ret (.bi .tuple (.cons (.var 1) .nil))) .nil) .nil) (.cons (.ite (.and (.val (.isi (.var 1) .tuple)) (.and (.val (.cmp .ne (.var 1) (.tup .nil))) (.val (.cmp .gt (.call 18 (.cons (.var 0) (.cons (.c (.int 4)) .nil))) (.c (.int 0)))))) (.cons (.asg (.n 3) (.call 18 (.cons (.var 0) (.cons (.bi .len (.cons (.var 1) .nil)) .nil)))) (.cons (.ret (.bin .add (.bin .add (.sl (.var 1) .no (.yes (.var 3))) (.tup (.cons (.call 38 (.cons (.var 0) (.cons (.ix (.var 1) (.var 3)) .nil))) .nil))) (.sl (.var 1) (.yes (.bin .add (.var 3) (.c (.int 1)))) .no))) .nil)) .nil) (.cons (.asg (.n 2) (.call 18 (.cons (.var 0) (.cons (.c (.int 6)) .nil)))) (.cons (.ite (.val (.isi (.var 1) .tuple)) (.cons (.asg (.n 3) (.call 18 (.cons (.var 0) (.cons (.bin .add (.bi .len (.cons (.var 1) .nil)) (.c (.int 1))) .nil)))) (.cons (.asg (.n 4) (.lst (.cons (.bi .list (.cons (.var 1) .nil)) (.cons (.bin .add (.sl (.var 1) .no (.yes (.var 3))) (.sl (.var 1) (.yes (.bin .add (.var 3) (.c (.int 1)))) .no)) (.cons (.bin .add (.bin .add (.sl (.var 1) .no (.yes (.var 3))) (.sl (.var 1) (.yes (.var 3)) (.yes (.bin .add (.var 3) (.c (.int 1)))))) (.sl (.var 1) (.yes (.var 3)) .no)) .nil))))) (.cons (.ret (.ix (.bin .add (.var 4) (.lst (.cons (.bin .add (.bin .add (.sl (.var 1) .no (.yes (.var 3))) (.tup (.cons (.c (.int 0)) .nil))) (.sl (.var 1) (.yes (.var 3)) .no)) (.cons (.rev (.var 1)) (.cons (.tup .nil) .nil))))) (.var 2))) .nil))) .nil) (.cons (.ite (.val (.isi (.var 1) .str)) (.cons (.asg (.n 3) (.call 18 (.cons (.var 0) (.cons (.bin .add (.bi .len (.cons (.var 1) .nil)) (.c (.int 1))) .nil)))) (.cons (.asg (.n 4) (.lst (.cons (.bin .add (.bin .add (.sl (.var 1) .no (.yes (.var 3))) (.call 19 (.cons (.var 0) (.cons (.lst (.cons (.c (.str [97])) (.cons (.c (.str [98])) (.cons (.c (.str [99])) (.cons (.c (.str [100])) (.cons (.c (.str [65])) (.cons (.c (.str [48])) (.cons (.c (.str [49])) (.cons (.c (.str [43])) (.cons (.c (.str [32])) .nil)))))))))) .nil)))) (.sl (.var 1) (.yes (.var 3)) .no)) .nil))) (.cons (.ret (.ix (.bin .add (.var 4) (.lst (.cons (.sl (.var 1) .no (.yes (.var 3))) (.cons (.sl (.var 1) (.yes (.var 3)) .no) (.cons (.rev (.var 1)) (.cons (.c .non) (.cons (.bin .add (.sl (.var 1) .no (.yes (.var 3))) (.sl (.var 1) (.yes (.bin .add (.var 3) (.c (.int 1)))) .no)) .nil))))))) (.var 2))) .nil))) .nil) (.cons (.ite (.val (.cmp .is (.var 1) (.c .non))) (.cons (.ret (.ix (.lst (.cons (.c (.str [])) (.cons (.tup .nil) (.cons (.c (.int 0)) (.cons (.c (.bl false)) (.cons (.c (.str [97])) (.cons (.c (.str [78, 111, 110, 101])) .nil))))))) (.var 2))) .nil) .nil) (.cons (.ret (.ix (.lst (.cons (.bin .add (.var 1) (.c (.int 1))) (.cons (.bin .sub (.var 1) (.c (.int 1))) (.cons (.bi .bool (.cons (.var 1) .nil)) (.cons (.bi .str (.cons (.var 1) .nil)) (.cons (.c .non) (.cons (.tup (.cons (.var 1) .nil)) .nil))))))) (.var 2))) .nil)))))))⟩
def F__law_truly : Fun := ⟨2, 2, (.cons (.ret (.and (.isi (.var 0) .bool) (.cmp .eq (.var 0) (.var 1)))) .nil)⟩
def F_need_situation : Fun := ⟨2, 2, (.cons (.ite (.not (.val (.call 10 (.cons (.var 0) (.cons (.var 1) .nil))))) (.cons (.raise 2) .nil) .nil) .nil)⟩
def F_with_mode : Fun := ⟨3, 3, (.cons (.ret (.ite (.val (.cmp .eq (.var 1) (.c (.int 0)))) (.tup (.cons (.var 2) (.cons (.ix (.var 0) (.c (.int 1))) .nil))) (.tup (.cons (.ix (.var 0) (.c (.int 0))) (.cons (.var 2) .nil))))) .nil)⟩
def F_behind : Fun := ⟨3, 11, (.cons (.asg (.tp [6, 7, 8, 9]) (.var 2)) (.cons (.asg (.tp [3, 10]) (.var 1)) (.cons (.ite (.val (.cmp .ne (.ix (.var 3) (.var 6)) (.var 7))) (.cons (.ret (.c .non)) .nil) .nil) (.cons (.asg (.n 3) (.call 43 (.cons (.var 3) (.cons (.var 6) (.cons (.var 9) .nil))))) (.cons (.ite (.val (.cmp .eq (.var 8) (.c (.str [])))) (.cons (.ret (.tup (.cons (.var 3) (.cons (.var 10) .nil)))) .nil) .nil) (.cons (.asg (.n 4) (.bi .int (.cons (.ix (.var 8) (.c (.int 1))) .nil))) (.cons (.asg (.n 5) (.call 42 (.cons (.ix (.ix (.var 0) (.c (.int 1))) (.var 4)) (.cons (.ix (.var 10) (.var 4)) (.cons (.ix (.var 8) (.c (.int 0))) (.cons (.ix (.var 8) (.c (.int 2))) .nil)))))) (.cons (.ret (.ite (.val (.cmp .is (.var 5) (.c .non))) (.c .non) (.tup (.cons (.var 3) (.cons (.bin .add (.bin .add (.sl (.var 10) .no (.yes (.var 4))) (.tup (.cons (.var 5) .nil))) (.sl (.var 10) (.yes (.bin .add (.var 4) (.c (.int 1)))) .no)) .nil))))) .nil))))))))⟩
def F_possible : Fun := ⟨2, 4, (.cons (.ex (.call 11 (.cons (.var 0) .nil))) (.cons (.ex (.call 41 (.cons (.var 0) (.cons (.var 1) .nil)))) (.cons (.ret (.lc [2, 3] (.var 2) (.tp [2, 3]) (.enum (.ix (.var 0) (.c (.int 2)))) (.yes (.val (.cmp .isnot (.call 44 (.cons (.var 0) (.cons (.var 1) (.cons (.var 3) .nil)))) (.c .non)))))) .nil)))⟩
def F_after : Fun := ⟨3, 4, (.cons (.ex (.call 11 (.cons (.var 0) .nil))) (.cons (.ex (.call 41 (.cons (.var 0) (.cons (.var 1) .nil)))) (.cons (.ite (.not (.val (.call 0 (.cons (.var 2) (.cons (.c (.int 0)) (.cons (.bin .sub (.bi .len (.cons (.ix (.var 0) (.c (.int 2))) .nil)) (.c (.int 1))) .nil)))))) (.cons (.raise 4) .nil) .nil) (.cons (.asg (.n 3) (.call 44 (.cons (.var 0) (.cons (.var 1) (.cons (.ix (.ix (.var 0) (.c (.int 2))) (.var 2)) .nil))))) (.cons (.ite (.val (.cmp .is (.var 3) (.c .non))) (.cons (.raise 12) .nil) .nil) (.cons (.ret (.var 3)) .nil))))))⟩
def F__law_modes : Fun := ⟨3, 3, (.cons (.ret (.ite (.val (.cmp .eq (.var 1) (.c (.int 0)))) (.tup (.cons (.var 2) (.cons (.ix (.var 0) (.c (.int 1))) .nil))) (.tup (.cons (.ix (.var 0) (.c (.int 0))) (.cons (.var 2) .nil))))) .nil)⟩
def F__law_said : Fun := ⟨3, 3, (.cons (.ite (.and (.val (.cmp .eq (.var 0) (.c (.str [101, 99, 104, 111])))) (.val (.cmp .eq (.sl (.var 1) (.yes (.neg (.c (.int 1)))) .no) (.var 2)))) (.cons (.ret (.var 1)) .nil) .nil) (.cons (.ret (.call 26 (.cons (.var 0) (.cons (.bin .add (.var 1) (.var 2)) .nil)))) .nil))⟩
def F_is_part_of : Fun := ⟨2, 4, (.cons (.asg (.n 2) (.c (.int 0))) (.cons (.loop (.n 3) (.e (.var 0)) (.cons (.asg (.n 2) (.bin .add (.me .find (.var 1) (.cons (.var 3) (.cons (.var 2) .nil))) (.c (.int 1)))) (.cons (.ite (.val (.cmp .eq (.var 2) (.c (.int 0)))) (.cons (.ret (.c (.bl false))) .nil) .nil) .nil))) (.cons (.ret (.c (.bl true))) .nil)))⟩
def F_is_below : Fun := ⟨2, 4, (.cons (.ite (.val (.cmp .ne (.ix (.var 0) (.c (.int 0))) (.ix (.var 1) (.c (.int 0))))) (.cons (.ret (.c (.bl false))) .nil) .nil) (.cons (.ret (.bi .all (.cons (.lc [2, 3] (.call 52 (.cons (.var 2) (.cons (.var 3) .nil))) (.tp [2, 3]) (.zip2 (.ix (.var 0) (.c (.int 1))) (.ix (.var 1) (.c (.int 1)))) .no) .nil))) .nil))⟩
def F_place_in : Fun := ⟨2, 5, (.cons (.par 2 3 (.c (.int 0)) (.bi .len (.cons (.var 0) .nil))) (.cons (.while (.val (.cmp .lt (.var 2) (.var 3))) (.cons (.asg (.n 4) (.bin .fdiv (.bin .add (.var 2) (.var 3)) (.c (.int 2)))) (.cons (.ite (.val (.cmp .lt (.ix (.var 0) (.var 4)) (.var 1))) (.cons (.asg (.n 2) (.bin .add (.var 4) (.c (.int 1)))) .nil) (.cons (.asg (.n 3) (.var 4)) .nil)) .nil))) (.cons (.ret (.var 2)) .nil)))⟩
def F_ascending : Fun := ⟨1, 4, (.cons (.new 1 (.lst .nil)) (.cons (.loop (.n 2) (.e (.var 0)) (.cons (.asg (.n 3) (.call 54 (.cons (.var 1) (.cons (.var 2) .nil)))) (.cons (.ite (.val (.cmp .ne (.sl (.var 1) (.yes (.var 3)) (.yes (.bin .add (.var 3) (.c (.int 1))))) (.lst (.cons (.var 2) .nil)))) (.cons (.ex (.me .insert (.var 1) (.cons (.var 3) (.cons (.var 2) .nil)))) .nil) .nil) .nil))) (.cons (.ret (.var 1)) .nil)))⟩
def F_least_of : Fun := ⟨1, 4, (.cons (.asg (.n 1) (.call 55 (.cons (.var 0) .nil))) (.cons (.ret (.bi .tuple (.cons (.lc [2] (.var 2) (.n 2) (.e (.var 1)) (.yes (.not (.val (.bi .any (.cons (.lc [3] (.and (.cmp .ne (.var 3) (.var 2)) (.call 53 (.cons (.var 3) (.cons (.var 2) .nil)))) (.n 3) (.e (.var 1)) .no) .nil)))))) .nil))) .nil))⟩
def F_is_part : Fun := ⟨3, 3, (.cons (.ex (.call 11 (.cons (.var 0) .nil))) (.cons (.ex (.call 41 (.cons (.var 0) (.cons (.var 1) .nil)))) (.cons (.ex (.call 41 (.cons (.var 0) (.cons (.var 2) .nil)))) (.cons (.ret (.call 53 (.cons (.var 1) (.cons (.var 2) .nil)))) .nil))))⟩
def F_need_rows : Fun := ⟨2, 3, (.cons (.ite (.or (.not (.val (.isi (.var 1) .tuple))) (.val (.cmp .gt (.bi .len (.cons (.var 1) .nil)) (.c (.int 8))))) (.cons (.raise 2) .nil) .nil) (.cons (.ite (.not (.val (.bi .all (.cons (.lc [2] (.call 10 (.cons (.var 0) (.cons (.var 2) .nil))) (.n 2) (.e (.var 1)) .no) .nil)))) (.cons (.raise 2) .nil) .nil) .nil))⟩
def F_least : Fun := ⟨2, 2, (.cons (.ex (.call 11 (.cons (.var 0) .nil))) (.cons (.ex (.call 58 (.cons (.var 0) (.cons (.var 1) .nil)))) (.cons (.ret (.call 56 (.cons (.var 1) .nil))) .nil)))⟩
def F__law_part : Fun := ⟨2, 4, (.cons (.asg (.n 2) (.var 0)) (.cons (.loop (.n 3) (.e (.var 1)) (.cons (.ite (.and (.val (.cmp .ne (.var 2) (.c (.str [])))) (.val (.cmp .eq (.ix (.var 2) (.c (.int 0))) (.var 3)))) (.cons (.asg (.n 2) (.sl (.var 2) (.yes (.c (.int 1))) .no)) .nil) .nil) .nil)) (.cons (.ret (.cmp .eq (.var 2) (.c (.str [])))) .nil)))⟩
def F__law_under : Fun := ⟨2, 3, (.cons (.ite (.val (.cmp .ne (.ix (.var 0) (.c (.int 0))) (.ix (.var 1) (.c (.int 0))))) (.cons (.ret (.c (.bl false))) .nil) .nil) (.cons (.ret (.cmp .eq (.lc [2] (.c (.int 1)) (.n 2) (.rng (.bi .len (.cons (.ix (.var 0) (.c (.int 1))) .nil))) (.yes (.not (.val (.call 60 (.cons (.ix (.ix (.var 0) (.c (.int 1))) (.var 2)) (.cons (.ix (.ix (.var 1) (.c (.int 1))) (.var 2)) .nil))))))) (.lst .nil))) .nil))⟩
def F__law_least : Fun := ⟨1, 4, (.cons (.asg (.n 1) (.call 20 (.cons (.var 0) .nil))) (.cons (.ret (.lc [2] (.var 2) (.n 2) (.e (.var 1)) (.yes (.val (.cmp .eq (.lc [3] (.var 3) (.n 3) (.e (.var 1)) (.yes (.and (.val (.cmp .ne (.var 3) (.var 2))) (.val (.call 61 (.cons (.var 3) (.cons (.var 2) .nil))))))) (.lst .nil)))))) .nil))⟩
def F__law_cut : Fun := ⟨3, 8, (.cons (.new 3 (.lst .nil)) (.cons (.loop (.tp [4, 5]) (.zip2 (.ix (.var 1) (.c (.int 1))) (.ix (.var 2) (.c (.int 1)))) (.cons (.asg (.n 6) (.lc [7] (.var 7) (.n 7) (.e (.var 5)) (.yes (.val (.cmp .gt (.call 18 (.cons (.var 0) (.cons (.c (.int 3)) .nil))) (.c (.int 0))))))) (.cons (.ex (.me .append (.var 3) (.cons (.call 26 (.cons (.var 4) (.cons (.var 6) .nil))) .nil))) .nil))) (.cons (.ret (.tup (.cons (.ix (.var 2) (.c (.int 0))) (.cons (.bi .tuple (.cons (.var 3) .nil)) .nil)))) .nil)))⟩
def F_law_k03 : Fun := ⟨1, 10, (.cons (.loop (.n 1) (.rng (.c (.int 8))) (.cons (.new 2 (.call 17 (.cons (.var 0) (.cons (.var 1) .nil)))) (.cons (.asg (.n 3) (.call 25 (.cons (.var 2) (.cons (.c (.int 4)) .nil)))) (.cons (.new 4 (.lst (.cons (.call 28 (.cons (.var 2) (.cons (.var 3) (.cons (.ix (.lst (.cons (.c (.int 4)) (.cons (.c (.int 9)) .nil))) (.bin .mod (.var 1) (.c (.int 2)))) .nil)))) .nil))) (.cons (.loop (.n 5) (.rng (.call 18 (.cons (.var 2) (.cons (.c (.int 8)) .nil)))) (.cons (.ex (.me .append (.var 4) (.cons (.ite (.val (.cmp .lt (.bin .mod (.var 5) (.c (.int 3))) (.c (.int 2)))) (.call 63 (.cons (.var 2) (.cons (.var 3) (.cons (.call 19 (.cons (.var 2) (.cons (.var 4) .nil))) .nil)))) (.call 28 (.cons (.var 2) (.cons (.var 3) (.cons (.c (.int 4)) .nil))))) .nil))) .nil)) (.cons (.loop (.n 6) (.e (.var 4)) (.cons (.loop (.n 9) (.e (.var 4)) (.cons (.ite (.not (.val (.call 39 (.cons (.call 57 (.cons (.var 3) (.cons (.var 6) (.cons (.var 9) .nil)))) (.cons (.call 61 (.cons (.var 6) (.cons (.var 9) .nil))) .nil))))) (.cons (.ret (.c (.bl false))) .nil) .nil) .nil)) .nil)) (.cons (.asg (.n 7) (.call 59 (.cons (.var 3) (.cons (.bi .tuple (.cons (.var 4) .nil)) .nil)))) (.cons (.ite (.or (.val (.cmp .ne (.var 7) (.bi .tuple (.cons (.call 62 (.cons (.var 4) .nil)) .nil)))) (.val (.cmp .ne (.call 59 (.cons (.var 3) (.cons (.bi .tuple (.cons (.rev (.var 4)) .nil)) .nil))) (.var 7)))) (.cons (.ret (.c (.bl false))) .nil) .nil) (.cons (.ite (.or (.val (.cmp .ne (.call 59 (.cons (.var 3) (.cons (.var 7) .nil))) (.var 7))) (.val (.cmp .ne (.call 59 (.cons (.var 3) (.cons (.tup .nil) .nil))) (.tup .nil)))) (.cons (.ret (.c (.bl false))) .nil) .nil) .nil))))))))) (.cons (.asg (.tp [3, 8]) (.tup (.cons (.tup (.cons (.tup (.cons (.c (.int 1)) (.cons (.c (.int 2)) .nil))) (.cons (.tup (.cons (.c (.str [114, 111, 119])) .nil)) (.cons (.tup .nil) .nil)))) (.cons (.tup (.cons (.c (.int 0)) (.cons (.c (.int 1)) .nil))) .nil)))) (.cons (.ite (.val (.cmp .isnot (.call 57 (.cons (.var 3) (.cons (.tup (.cons (.var 8) (.cons (.tup (.cons (.c (.str [97, 97, 98])) .nil)) .nil))) (.cons (.tup (.cons (.var 8) (.cons (.tup (.cons (.c (.str [97, 98, 97, 98])) .nil)) .nil))) .nil)))) (.c (.bl true)))) (.cons (.ret (.c (.bl false))) .nil) .nil) (.cons (.ite (.val (.cmp .isnot (.call 57 (.cons (.var 3) (.cons (.tup (.cons (.var 8) (.cons (.tup (.cons (.c (.str [98, 97, 97])) .nil)) .nil))) (.cons (.tup (.cons (.var 8) (.cons (.tup (.cons (.c (.str [97, 98, 97, 98])) .nil)) .nil))) .nil)))) (.c (.bl false)))) (.cons (.ret (.c (.bl false))) .nil) .nil) (.cons (.ret (.cmp .is (.call 57 (.cons (.var 3) (.cons (.tup (.cons (.var 8) (.cons (.tup (.cons (.c (.str [])) .nil)) .nil))) (.cons (.tup (.cons (.tup (.cons (.c (.int 0)) (.cons (.c (.int 0)) .nil))) (.cons (.tup (.cons (.c (.str [])) .nil)) .nil))) .nil)))) (.c (.bl false)))) .nil)))))⟩
def F_shortest_over : Fun := ⟨2, 5, (.cons (.ite (.or (.val (.cmp .eq (.var 0) (.c (.str [])))) (.val (.cmp .eq (.var 1) (.c (.str []))))) (.cons (.ret (.lst (.cons (.bin .add (.var 0) (.var 1)) .nil))) .nil) .nil) (.cons (.ite (.val (.cmp .eq (.ix (.var 0) (.c (.int 0))) (.ix (.var 1) (.c (.int 0))))) (.cons (.ret (.lc [3] (.bin .add (.ix (.var 0) (.c (.int 0))) (.var 3)) (.n 3) (.e (.call 65 (.cons (.sl (.var 0) (.yes (.c (.int 1))) .no) (.cons (.sl (.var 1) (.yes (.c (.int 1))) .no) .nil)))) .no)) .nil) .nil) (.cons (.asg (.n 2) (.lc [3] (.bin .add (.ix (.var 0) (.c (.int 0))) (.var 3)) (.n 3) (.e (.call 65 (.cons (.sl (.var 0) (.yes (.c (.int 1))) .no) (.cons (.var 1) .nil)))) .no)) (.cons (.asg (.n 2) (.call 55 (.cons (.bin .add (.var 2) (.lc [3] (.bin .add (.ix (.var 1) (.c (.int 0))) (.var 3)) (.n 3) (.e (.call 65 (.cons (.var 0) (.cons (.sl (.var 1) (.yes (.c (.int 1))) .no) .nil)))) .no)) .nil))) (.cons (.ret (.lc [3] (.var 3) (.n 3) (.e (.var 2)) (.yes (.not (.val (.bi .any (.cons (.lc [4] (.and (.cmp .ne (.var 4) (.var 3)) (.call 52 (.cons (.var 4) (.cons (.var 3) .nil)))) (.n 4) (.e (.var 2)) .no) .nil))))))) .nil)))))⟩
def F_texts_over : Fun := ⟨3, 5, (.cons (.ite (.val (.cmp .ne (.var 0) (.c (.str [104, 101, 97, 112])))) (.cons (.ret (.call 65 (.cons (.var 1) (.cons (.var 2) .nil)))) .nil) .nil) (.cons (.asg (.n 3) (.lc [4] (.bin .mul (.var 4) (.bi .max (.cons (.c (.int 0)) (.cons (.bin .sub (.me .count (.var 2) (.cons (.var 4) .nil)) (.me .count (.var 1) (.cons (.var 4) .nil))) .nil)))) (.n 4) (.e (.c (.str [97, 98, 99]))) .no)) (.cons (.ret (.lst (.cons (.call 8 (.cons (.bin .add (.var 1) (.me .join (.c (.str [])) (.cons (.var 3) .nil))) .nil)) .nil))) .nil)))⟩
def F_common_of : Fun := ⟨3, 9, (.cons (.ite (.val (.cmp .ne (.ix (.var 1) (.c (.int 0))) (.ix (.var 2) (.c (.int 0))))) (.cons (.ret (.tup .nil)) .nil) .nil) (.cons (.asg (.n 3) (.lst (.cons (.tup .nil) .nil))) (.cons (.loop (.tp [4, 5, 6]) (.zip3 (.ix (.var 0) (.c (.int 1))) (.ix (.var 1) (.c (.int 1))) (.ix (.var 2) (.c (.int 1)))) (.cons (.asg (.n 3) (.lc2 [7, 8] [8] (.bin .add (.var 7) (.tup (.cons (.var 8) .nil))) (.n 7) (.e (.var 3)) .no (.n 8) (.e (.call 66 (.cons (.var 4) (.cons (.var 5) (.cons (.var 6) .nil))))) .no)) .nil)) (.cons (.ret (.call 56 (.cons (.lc [7] (.tup (.cons (.ix (.var 1) (.c (.int 0))) (.cons (.var 7) .nil))) (.n 7) (.e (.var 3)) .no) .nil))) .nil))))⟩
def F_common : Fun := ⟨3, 3, (.cons (.ex (.call 11 (.cons (.var 0) .nil))) (.cons (.ex (.call 41 (.cons (.var 0) (.cons (.var 1) .nil)))) (.cons (.ex (.call 41 (.cons (.var 0) (.cons (.var 2) .nil)))) (.cons (.ret (.call 67 (.cons (.var 0) (.cons (.var 1) (.cons (.var 2) .nil))))) .nil))))⟩
def F__law_small_texts : Fun := ⟨2, 6, (.cons (.par 3 4 (.lst (.cons (.c (.str [])) .nil)) (.lst (.cons (.c (.str [])) .nil))) (.cons (.loop (.n 2) (.rng (.var 1)) (.cons (.asg (.n 3) (.bin .add (.lc [5] (.bin .add (.var 5) (.c (.str [97]))) (.n 5) (.e (.var 3)) .no) (.lc [5] (.bin .add (.var 5) (.c (.str [98]))) (.n 5) (.e (.var 3)) .no))) (.cons (.asg (.n 4) (.bin .add (.var 4) (.lc [5] (.var 5) (.n 5) (.e (.var 3)) (.yes (.val (.cmp .eq (.call 26 (.cons (.var 0) (.cons (.var 5) .nil))) (.var 5))))))) .nil))) (.cons (.ret (.var 4)) .nil)))⟩
def F__law_short : Fun := ⟨3, 5, (.cons (.asg (.n 3) (.lst (.cons (.c (.str [])) (.cons (.c (.str [97])) (.cons (.c (.str [98])) (.cons (.c (.str [97, 98])) (.cons (.c (.str [98, 97])) (.cons (.c (.str [97, 97])) (.cons (.c (.str [98, 98])) (.cons (.c (.str [97, 98, 97])) (.cons (.c (.str [97, 98, 98])) (.cons (.c (.str [98, 97, 98])) .nil)))))))))))) (.cons (.ret (.tup (.cons (.var 2) (.cons (.bi .tuple (.cons (.lc [4] (.call 26 (.cons (.var 4) (.cons (.call 19 (.cons (.var 0) (.cons (.var 3) .nil))) .nil))) (.n 4) (.e (.ix (.var 1) (.c (.int 1)))) .no) .nil)) .nil)))) .nil))⟩
def F__law_all_over : Fun := ⟨3, 12, (.cons (.asg (.n 3) (.lst (.cons (.tup .nil) .nil))) (.cons (.loop (.tp [4, 5, 6]) (.zip3 (.ix (.var 0) (.c (.int 1))) (.ix (.var 1) (.c (.int 1))) (.ix (.var 2) (.c (.int 1)))) (.cons (.asg (.n 7) (.call 69 (.cons (.var 4) (.cons (.bin .add (.bi .len (.cons (.var 5) .nil)) (.bi .len (.cons (.var 6) .nil))) .nil)))) (.cons (.asg (.n 7) (.lc [10] (.var 10) (.n 10) (.e (.var 7)) (.yes (.and (.val (.call 60 (.cons (.var 5) (.cons (.var 10) .nil)))) (.val (.call 60 (.cons (.var 6) (.cons (.var 10) .nil)))))))) (.cons (.asg (.n 7) (.lc [10] (.var 10) (.n 10) (.e (.var 7)) (.yes (.val (.cmp .eq (.lc [11] (.c (.int 1)) (.n 11) (.e (.var 7)) (.yes (.and (.val (.cmp .ne (.var 11) (.var 10))) (.val (.call 60 (.cons (.var 11) (.cons (.var 10) .nil))))))) (.lst .nil)))))) (.cons (.asg (.n 8) (.lst .nil)) (.cons (.loop (.n 9) (.e (.var 3)) (.cons (.asg (.n 8) (.bin .add (.var 8) (.lc [10] (.bin .add (.var 9) (.tup (.cons (.var 10) .nil))) (.n 10) (.e (.var 7)) .no))) .nil)) (.cons (.asg (.n 3) (.var 8)) .nil))))))) (.cons (.ret (.call 20 (.cons (.lc [9] (.tup (.cons (.ix (.var 1) (.c (.int 0))) (.cons (.var 9) .nil))) (.n 9) (.e (.var 3)) .no) .nil))) .nil)))⟩
def F_law_k04 : Fun := ⟨1, 13, (.cons (.loop (.n 1) (.rng (.c (.int 6))) (.cons (.new 3 (.call 17 (.cons (.var 0) (.cons (.var 1) .nil)))) (.cons (.asg (.n 4) (.call 25 (.cons (.var 3) (.cons (.c (.int 3)) .nil)))) (.cons (.asg (.n 5) (.tup (.cons (.call 18 (.cons (.var 3) (.cons (.ix (.ix (.var 4) (.c (.int 0))) (.c (.int 0))) .nil))) (.cons (.call 18 (.cons (.var 3) (.cons (.ix (.ix (.var 4) (.c (.int 0))) (.c (.int 1))) .nil))) .nil)))) (.cons (.loop (.n 6) (.rng (.c (.int 3))) (.cons (.par 8 9 (.call 70 (.cons (.var 3) (.cons (.var 4) (.cons (.var 5) .nil)))) (.call 70 (.cons (.var 3) (.cons (.var 4) (.cons (.var 5) .nil))))) (.cons (.asg (.n 2) (.call 68 (.cons (.var 4) (.cons (.var 8) (.cons (.var 9) .nil))))) (.cons (.ite (.or (.val (.cmp .ne (.var 2) (.bi .tuple (.cons (.call 71 (.cons (.var 4) (.cons (.var 8) (.cons (.var 9) .nil)))) .nil)))) (.val (.cmp .ne (.call 68 (.cons (.var 4) (.cons (.var 9) (.cons (.var 8) .nil)))) (.var 2)))) (.cons (.ret (.c (.bl false))) .nil) .nil) (.cons (.ite (.val (.cmp .ne (.call 68 (.cons (.var 4) (.cons (.var 8) (.cons (.var 8) .nil)))) (.tup (.cons (.var 8) .nil)))) (.cons (.ret (.c (.bl false))) .nil) .nil) (.cons (.asg (.n 7) (.tup (.cons (.call 47 (.cons (.var 5) (.cons (.c (.int 0)) (.cons (.bin .mod (.bin .add (.ix (.var 5) (.c (.int 0))) (.c (.int 1))) (.ix (.ix (.var 4) (.c (.int 0))) (.c (.int 0)))) .nil)))) (.cons (.ix (.var 9) (.c (.int 1))) .nil)))) (.cons (.ite (.and (.val (.cmp .gt (.ix (.ix (.var 4) (.c (.int 0))) (.c (.int 0))) (.c (.int 1)))) (.val (.cmp .ne (.call 68 (.cons (.var 4) (.cons (.var 8) (.cons (.var 7) .nil)))) (.tup .nil)))) (.cons (.ret (.c (.bl false))) .nil) .nil) .nil))))))) .nil))))) (.cons (.asg (.tp [4, 5]) (.tup (.cons (.tup (.cons (.tup (.cons (.c (.int 1)) (.cons (.c (.int 1)) .nil))) (.cons (.tup (.cons (.c (.str [114, 111, 119])) .nil)) (.cons (.tup .nil) .nil)))) (.cons (.tup (.cons (.c (.int 0)) (.cons (.c (.int 0)) .nil))) .nil)))) (.cons (.asg (.n 2) (.call 68 (.cons (.var 4) (.cons (.tup (.cons (.var 5) (.cons (.tup (.cons (.c (.str [97, 98, 99, 97])) .nil)) .nil))) (.cons (.tup (.cons (.var 5) (.cons (.tup (.cons (.c (.str [98, 99, 99, 98])) .nil)) .nil))) .nil))))) (.cons (.ite (.val (.cmp .ne (.lc [10] (.var 10) (.n 10) (.e (.var 2)) (.yes (.or (.not (.val (.call 60 (.cons (.c (.str [97, 98, 99, 97])) (.cons (.ix (.ix (.var 10) (.c (.int 1))) (.c (.int 0))) .nil))))) (.not (.val (.call 60 (.cons (.c (.str [98, 99, 99, 98])) (.cons (.ix (.ix (.var 10) (.c (.int 1))) (.c (.int 0))) .nil)))))))) (.lst .nil))) (.cons (.ret (.c (.bl false))) .nil) .nil) (.cons (.ret (.cmp .eq (.lc [11, 12] (.ix (.var 12) (.c (.int 0))) (.tp [11, 12]) (.e (.var 2)) (.yes (.val (.cmp .eq (.bi .len (.cons (.ix (.var 12) (.c (.int 0))) .nil)) (.c (.int 6)))))) (.lst (.cons (.c (.str [97, 98, 99, 97, 99, 98])) (.cons (.c (.str [97, 98, 99, 99, 97, 98])) (.cons (.c (.str [97, 98, 99, 99, 98, 97])) .nil)))))) .nil)))))⟩
def F_source_of : Fun := ⟨3, 11, (.cons (.asg (.tp [6, 7, 8, 9]) (.var 2)) (.cons (.asg (.tp [3, 10]) (.var 1)) (.cons (.ite (.val (.cmp .ne (.ix (.var 3) (.var 6)) (.var 9))) (.cons (.ret (.c .non)) .nil) .nil) (.cons (.asg (.n 3) (.call 43 (.cons (.var 3) (.cons (.var 6) (.cons (.var 7) .nil))))) (.cons (.ite (.val (.cmp .eq (.var 8) (.c (.str [])))) (.cons (.ret (.tup (.cons (.var 3) (.cons (.var 10) .nil)))) .nil) .nil) (.cons (.asg (.n 4) (.bi .int (.cons (.ix (.var 8) (.c (.int 1))) .nil))) (.cons (.asg (.n 5) (.call 73 (.cons (.ix (.ix (.var 0) (.c (.int 1))) (.var 4)) (.cons (.ix (.var 10) (.var 4)) (.cons (.ix (.var 8) (.c (.int 0))) (.cons (.ix (.var 8) (.c (.int 2))) .nil)))))) (.cons (.ret (.tup (.cons (.var 3) (.cons (.bin .add (.bin .add (.sl (.var 10) .no (.yes (.var 4))) (.tup (.cons (.var 5) .nil))) (.sl (.var 10) (.yes (.bin .add (.var 4) (.c (.int 1)))) .no)) .nil)))) .nil))))))))⟩
def F_has_room : Fun := ⟨2, 3, (.cons (.ret (.or (.cmp .is (.var 1) (.c .non)) (.cmp .le (.bi .max (.cons (.lc [2] (.bi .len (.cons (.var 2) .nil)) (.n 2) (.e (.ix (.var 0) (.c (.int 1)))) .no) .nil)) (.var 1)))) .nil)⟩
def F_sources_of : Fun := ⟨3, 7, (.cons (.new 3 (.lst .nil)) (.cons (.loop (.n 4) (.e (.ix (.var 0) (.c (.int 2)))) (.cons (.loop (.n 5) (.e (.var 1)) (.cons (.asg (.n 6) (.call 74 (.cons (.var 0) (.cons (.var 5) (.cons (.var 4) .nil))))) (.cons (.ite (.and (.val (.cmp .isnot (.var 6) (.c .non))) (.and (.val (.call 75 (.cons (.var 6) (.cons (.var 2) .nil)))) (.val (.call 75 (.cons (.call 44 (.cons (.var 0) (.cons (.var 6) (.cons (.var 4) .nil)))) (.cons (.var 2) .nil)))))) (.cons (.ex (.me .append (.var 3) (.cons (.var 6) .nil))) .nil) .nil) .nil))) .nil)) (.cons (.ret (.var 3)) .nil)))⟩
def F_need_aims : Fun := ⟨2, 3, (.cons (.ite (.or (.not (.val (.isi (.var 1) .tuple))) (.or (.not (.val (.cmp2 .le .le (.c (.int 1)) (.bi .len (.cons (.var 1) .nil)) (.c (.int 4))))) (.not (.val (.bi .all (.cons (.lc [2] (.call 10 (.cons (.var 0) (.cons (.var 2) .nil))) (.n 2) (.e (.var 1)) .no) .nil)))))) (.cons (.raise 3) .nil) .nil) .nil)⟩
def F_before : Fun := ⟨2, 2, (.cons (.ex (.call 11 (.cons (.var 0) .nil))) (.cons (.ex (.call 77 (.cons (.var 0) (.cons (.var 1) .nil)))) (.cons (.ret (.call 56 (.cons (.call 76 (.cons (.var 0) (.cons (.var 1) (.cons (.c .non) .nil)))) .nil))) .nil)))⟩
def F__law_aims : Fun := ⟨3, 4, (.cons (.ret (.bi .tuple (.cons (.lc [3] (.call 28 (.cons (.var 0) (.cons (.var 1) (.cons (.var 2) .nil)))) (.n 3) (.rng (.bin .add (.c (.int 1)) (.call 18 (.cons (.var 0) (.cons (.c (.int 2)) .nil))))) .no) .nil))) .nil)⟩
def F__law_over : Fun := ⟨2, 3, (.cons (.ret (.cmp .ne (.lc [2] (.var 2) (.n 2) (.e (.var 1)) (.yes (.val (.call 61 (.cons (.var 2) (.cons (.var 0) .nil)))))) (.lst .nil))) .nil)⟩
def F__law_fits_room : Fun := ⟨2, 3, (.cons (.ret (.or (.cmp .is (.var 1) (.c .non)) (.cmp .eq (.lc [2] (.var 2) (.n 2) (.e (.ix (.var 0) (.c (.int 1)))) (.yes (.val (.cmp .gt (.bi .len (.cons (.var 2) .nil)) (.var 1))))) (.lst .nil)))) .nil)⟩
def F__law_sources : Fun := ⟨3, 7, (.cons (.new 3 (.lst .nil)) (.cons (.loop (.n 4) (.e (.ix (.var 0) (.c (.int 2)))) (.cons (.loop (.n 5) (.e (.var 1)) (.cons (.asg (.n 6) (.call 81 (.cons (.var 0) (.cons (.var 5) (.cons (.var 4) .nil))))) (.cons (.ite (.and (.val (.cmp .isnot (.var 6) (.c .non))) (.val (.call 82 (.cons (.var 6) (.cons (.var 2) .nil))))) (.cons (.ite (.val (.call 82 (.cons (.call 50 (.cons (.var 0) (.cons (.var 6) (.cons (.var 4) .nil)))) (.cons (.var 2) .nil)))) (.cons (.ex (.me .append (.var 3) (.cons (.var 6) .nil))) .nil) .nil) .nil) .nil) .nil))) .nil)) (.cons (.ret (.var 3)) .nil)))⟩
def F__law_pairs : Fun := ⟨1, 4, (.cons (.asg (.n 1) (.lst .nil)) (.cons (.loop (.n 2) (.rng (.ix (.ix (.var 0) (.c (.int 0))) (.c (.int 0)))) (.cons (.asg (.n 1) (.bin .add (.var 1) (.lc [3] (.tup (.cons (.var 2) (.cons (.var 3) .nil))) (.n 3) (.rng (.ix (.ix (.var 0) (.c (.int 0))) (.c (.int 1)))) .no))) .nil)) (.cons (.ret (.var 1)) .nil)))⟩
def F__law_small : Fun := ⟨2, 9, (.cons (.asg (.n 2) (.lst .nil)) (.cons (.loop (.n 3) (.e (.call 84 (.cons (.var 0) .nil))) (.cons (.asg (.n 4) (.lst (.cons (.tup .nil) .nil))) (.cons (.loop (.n 5) (.e (.ix (.var 0) (.c (.int 1)))) (.cons (.asg (.n 6) (.lst .nil)) (.cons (.loop (.n 7) (.e (.var 4)) (.cons (.asg (.n 6) (.bin .add (.var 6) (.lc [8] (.bin .add (.var 7) (.tup (.cons (.var 8) .nil))) (.n 8) (.e (.call 69 (.cons (.var 5) (.cons (.var 1) .nil)))) .no))) .nil)) (.cons (.asg (.n 4) (.var 6)) .nil)))) (.cons (.asg (.n 2) (.bin .add (.var 2) (.lc [7] (.tup (.cons (.var 3) (.cons (.var 7) .nil))) (.n 7) (.e (.var 4)) .no))) .nil)))) (.cons (.ret (.var 2)) .nil)))⟩
def F__law_one_step : Fun := ⟨3, 8, (.cons (.new 3 (.lst .nil)) (.cons (.loop (.n 4) (.e (.var 1)) (.cons (.asg (.n 5) (.lc [6] (.call 50 (.cons (.var 0) (.cons (.var 4) (.cons (.var 6) .nil)))) (.n 6) (.e (.ix (.var 0) (.c (.int 2)))) .no)) (.cons (.ite (.val (.cmp .ne (.lc [7] (.var 7) (.n 7) (.e (.var 5)) (.yes (.and (.val (.cmp .isnot (.var 7) (.c .non))) (.val (.call 80 (.cons (.var 7) (.cons (.var 2) .nil))))))) (.lst .nil))) (.cons (.ex (.me .append (.var 3) (.cons (.var 4) .nil))) .nil) .nil) .nil))) (.cons (.ret (.var 3)) .nil)))⟩
def F_law_k05 : Fun := ⟨1, 10, (.cons (.loop (.n 1) (.rng (.c (.int 6))) (.cons (.new 3 (.call 17 (.cons (.var 0) (.cons (.var 1) .nil)))) (.cons (.asg (.n 2) (.call 25 (.cons (.var 3) (.cons (.ix (.lst (.cons (.c (.int 5)) (.cons (.c (.int 8)) .nil))) (.bin .mod (.var 1) (.c (.int 2)))) .nil)))) (.cons (.loop (.n 4) (.rng (.c (.int 3))) (.cons (.asg (.n 5) (.call 79 (.cons (.var 3) (.cons (.var 2) (.cons (.ix (.lst (.cons (.c (.int 2)) (.cons (.c (.int 1)) (.cons (.c (.int 5)) .nil)))) (.var 4)) .nil))))) (.cons (.asg (.n 6) (.call 78 (.cons (.var 2) (.cons (.var 5) .nil)))) (.cons (.ite (.or (.not (.val (.isi (.var 6) .tuple))) (.val (.cmp .ne (.var 6) (.bi .tuple (.cons (.call 62 (.cons (.call 83 (.cons (.var 2) (.cons (.var 5) (.cons (.c .non) .nil)))) .nil)) .nil))))) (.cons (.ret (.c (.bl false))) .nil) .nil) (.cons (.asg (.n 7) (.call 85 (.cons (.var 2) (.cons (.bin .sub (.c (.int 3)) (.bi .len (.cons (.ix (.var 2) (.c (.int 1))) .nil))) .nil)))) (.cons (.asg (.n 8) (.call 86 (.cons (.var 2) (.cons (.var 7) (.cons (.var 5) .nil))))) (.cons (.ite (.val (.cmp .ne (.lc [9] (.var 9) (.n 9) (.e (.var 7)) (.yes (.val (.cmp .ne (.call 80 (.cons (.var 9) (.cons (.var 8) .nil))) (.call 80 (.cons (.var 9) (.cons (.var 6) .nil))))))) (.lst .nil))) (.cons (.ret (.c (.bl false))) .nil) .nil) .nil))))))) .nil)))) (.cons (.asg (.n 2) (.tup (.cons (.tup (.cons (.c (.int 2)) (.cons (.c (.int 1)) .nil))) (.cons (.tup (.cons (.c (.str [101, 99, 104, 111])) .nil)) (.cons (.tup (.cons (.tup (.cons (.c (.int 0)) (.cons (.c (.int 0)) (.cons (.c (.str [45, 48, 97])) (.cons (.c (.int 1)) .nil))))) (.cons (.tup (.cons (.c (.int 0)) (.cons (.c (.int 1)) (.cons (.c (.str [43, 48, 98])) (.cons (.c (.int 1)) .nil))))) .nil))) .nil))))) (.cons (.ite (.val (.cmp .ne (.call 78 (.cons (.var 2) (.cons (.tup (.cons (.tup (.cons (.tup (.cons (.c (.int 1)) (.cons (.c (.int 0)) .nil))) (.cons (.tup (.cons (.c (.str [97, 98])) .nil)) .nil))) .nil)) .nil))) (.tup (.cons (.tup (.cons (.tup (.cons (.c (.int 0)) (.cons (.c (.int 0)) .nil))) (.cons (.tup (.cons (.c (.str [97, 98])) .nil)) .nil))) (.cons (.tup (.cons (.tup (.cons (.c (.int 1)) (.cons (.c (.int 0)) .nil))) (.cons (.tup (.cons (.c (.str [97])) .nil)) .nil))) .nil))))) (.cons (.ret (.c (.bl false))) .nil) .nil) (.cons (.ret (.cmp .eq (.call 78 (.cons (.var 2) (.cons (.tup (.cons (.tup (.cons (.tup (.cons (.c (.int 1)) (.cons (.c (.int 0)) .nil))) (.cons (.tup (.cons (.c (.str [98, 97])) .nil)) .nil))) .nil)) .nil))) (.tup (.cons (.tup (.cons (.tup (.cons (.c (.int 0)) (.cons (.c (.int 0)) .nil))) (.cons (.tup (.cons (.c (.str [97, 98, 97])) .nil)) .nil))) (.cons (.tup (.cons (.tup (.cons (.c (.int 1)) (.cons (.c (.int 0)) .nil))) (.cons (.tup (.cons (.c (.str [98, 97])) .nil)) .nil))) .nil))))) .nil))))⟩
def F_leads : Fun := ⟨3, 5, (.cons (.ite (.or (.not (.val (.isi (.var 2) .tuple))) (.or (.val (.cmp .ne (.bi .len (.cons (.var 2) .nil)) (.c (.int 2)))) (.not (.val (.call 0 (.cons (.ix (.var 2) (.c (.int 0))) (.cons (.c (.int 0)) (.cons (.bin .sub (.bi .len (.cons (.ix (.var 0) (.c (.int 2))) .nil)) (.c (.int 1))) .nil)))))))) (.cons (.ret (.c (.bl false))) .nil) .nil) (.cons (.ite (.not (.val (.call 10 (.cons (.var 0) (.cons (.ix (.var 2) (.c (.int 1))) .nil))))) (.cons (.ret (.c (.bl false))) .nil) .nil) (.cons (.asg (.n 3) (.ix (.ix (.var 0) (.c (.int 2))) (.ix (.var 2) (.c (.int 0))))) (.cons (.asg (.n 4) (.call 74 (.cons (.var 0) (.cons (.ix (.var 2) (.c (.int 1))) (.cons (.var 3) .nil))))) (.cons (.ret (.and (.cmp .isnot (.var 4) (.c .non)) (.and (.cmp .eq (.call 44 (.cons (.var 0) (.cons (.var 4) (.cons (.var 3) .nil)))) (.ix (.var 2) (.c (.int 1)))) (.call 53 (.cons (.var 4) (.cons (.var 1) .nil)))))) .nil)))))⟩
def F_is_run : Fun := ⟨3, 4, (.cons (.ex (.call 11 (.cons (.var 0) .nil))) (.cons (.ex (.call 41 (.cons (.var 0) (.cons (.var 1) .nil)))) (.cons (.ite (.or (.not (.val (.isi (.var 2) .tuple))) (.val (.cmp .gt (.bi .len (.cons (.var 2) .nil)) (.c (.int 40))))) (.cons (.ret (.c (.bl false))) .nil) .nil) (.cons (.loop (.n 3) (.e (.var 2)) (.cons (.ite (.not (.val (.call 88 (.cons (.var 0) (.cons (.var 1) (.cons (.var 3) .nil)))))) (.cons (.ret (.c (.bl false))) .nil) .nil) (.cons (.asg (.n 1) (.ix (.var 3) (.c (.int 1)))) .nil))) (.cons (.ret (.c (.bl true))) .nil)))))⟩
def F__law_led : Fun := ⟨3, 4, (.cons (.asg (.n 3) (.call 81 (.cons (.var 0) (.cons (.ix (.var 2) (.c (.int 1))) (.cons (.ix (.ix (.var 0) (.c (.int 2))) (.ix (.var 2) (.c (.int 0)))) .nil))))) (.cons (.ite (.or (.val (.cmp .is (.var 3) (.c .non))) (.val (.cmp .ne (.call 50 (.cons (.var 0) (.cons (.var 3) (.cons (.ix (.ix (.var 0) (.c (.int 2))) (.ix (.var 2) (.c (.int 0)))) .nil)))) (.ix (.var 2) (.c (.int 1)))))) (.cons (.ret (.c (.bl false))) .nil) .nil) (.cons (.ret (.call 61 (.cons (.var 3) (.cons (.var 1) .nil)))) .nil)))⟩
def F__law_cut_k08 : Fun := ⟨3, 8, (.cons (.new 3 (.lst .nil)) (.cons (.loop (.tp [4, 5]) (.zip2 (.ix (.var 1) (.c (.int 1))) (.ix (.var 2) (.c (.int 1)))) (.cons (.asg (.n 6) (.lc [7] (.var 7) (.n 7) (.e (.var 5)) (.yes (.val (.cmp .gt (.call 18 (.cons (.var 0) (.cons (.c (.int 4)) .nil))) (.c (.int 0))))))) (.cons (.ex (.me .append (.var 3) (.cons (.call 26 (.cons (.var 4) (.cons (.var 6) .nil))) .nil))) .nil))) (.cons (.ret (.tup (.cons (.ix (.var 2) (.c (.int 0))) (.cons (.bi .tuple (.cons (.var 3) .nil)) .nil)))) .nil)))⟩
def F__law_walk : Fun := ⟨4, 9, (.cons (.asg (.n 4) (.tup .nil)) (.cons (.loop (.n 5) (.rng (.var 3)) (.cons (.asg (.n 6) (.call 91 (.cons (.var 0) (.cons (.var 1) (.cons (.var 2) .nil))))) (.cons (.asg (.n 7) (.lc [8] (.var 8) (.n 8) (.rng (.bi .len (.cons (.ix (.var 1) (.c (.int 2))) .nil))) (.yes (.val (.cmp .isnot (.call 50 (.cons (.var 1) (.cons (.var 6) (.cons (.ix (.ix (.var 1) (.c (.int 2))) (.var 8)) .nil)))) (.c .non)))))) (.cons (.ite (.val (.cmp .ne (.var 7) (.lst .nil))) (.cons (.asg (.n 8) (.call 19 (.cons (.var 0) (.cons (.var 7) .nil)))) (.cons (.asg (.n 2) (.call 50 (.cons (.var 1) (.cons (.var 6) (.cons (.ix (.ix (.var 1) (.c (.int 2))) (.var 8)) .nil))))) (.cons (.asg (.n 4) (.bin .add (.var 4) (.tup (.cons (.tup (.cons (.var 8) (.cons (.var 2) .nil))) .nil)))) .nil))) .nil) .nil)))) (.cons (.ret (.var 4)) .nil)))⟩
def F__law_judged : Fun := ⟨3, 4, (.cons (.loop (.n 3) (.e (.var 2)) (.cons (.ite (.not (.val (.call 90 (.cons (.var 0) (.cons (.var 1) (.cons (.var 3) .nil)))))) (.cons (.ret (.c (.bl false))) .nil) .nil) (.cons (.asg (.n 1) (.ix (.var 3) (.c (.int 1)))) .nil))) (.cons (.ret (.c (.bl true))) .nil))⟩
def F_law_k08 : Fun := ⟨1, 14, (.cons (.loop (.n 1) (.rng (.c (.int 6))) (.cons (.new 2 (.call 17 (.cons (.var 0) (.cons (.var 1) .nil)))) (.cons (.asg (.n 3) (.call 25 (.cons (.var 2) (.cons (.c (.int 8)) .nil)))) (.cons (.asg (.n 4) (.call 28 (.cons (.var 2) (.cons (.var 3) (.cons (.c (.int 4)) .nil))))) (.cons (.asg (.n 5) (.call 92 (.cons (.var 2) (.cons (.var 3) (.cons (.var 4) (.cons (.bin .add (.c (.int 1)) (.call 18 (.cons (.var 2) (.cons (.c (.int 9)) .nil)))) .nil)))))) (.cons (.ite (.or (.val (.cmp .isnot (.call 89 (.cons (.var 3) (.cons (.var 4) (.cons (.var 5) .nil)))) (.c (.bl true)))) (.val (.cmp .isnot (.call 89 (.cons (.var 3) (.cons (.var 4) (.cons (.tup .nil) .nil)))) (.c (.bl true))))) (.cons (.ret (.c (.bl false))) .nil) .nil) (.cons (.loop (.n 6) (.rng (.c (.int 8))) (.cons (.ite (.val (.cmp .ne (.var 5) (.tup .nil))) (.cons (.asg (.n 7) (.call 18 (.cons (.var 2) (.cons (.bi .len (.cons (.var 5) .nil)) .nil)))) (.cons (.asg (.tp [12, 13]) (.ix (.var 5) (.var 7))) (.cons (.asg (.n 8) (.ite (.val (.cmp .eq (.bin .mod (.var 6) (.c (.int 3))) (.c (.int 0)))) (.tup (.cons (.var 12) (.cons (.call 28 (.cons (.var 2) (.cons (.var 3) (.cons (.c (.int 3)) .nil)))) .nil))) (.tup (.cons (.var 12) (.cons (.call 91 (.cons (.var 2) (.cons (.var 3) (.cons (.var 13) .nil)))) .nil))))) (.cons (.ite (.val (.cmp .eq (.bin .mod (.var 6) (.c (.int 3))) (.c (.int 1)))) (.cons (.asg (.n 8) (.tup (.cons (.call 18 (.cons (.var 2) (.cons (.bi .len (.cons (.ix (.var 3) (.c (.int 2))) .nil)) .nil))) (.cons (.var 13) .nil)))) .nil) .nil) (.cons (.asg (.n 9) (.bin .add (.bin .add (.sl (.var 5) .no (.yes (.var 7))) (.tup (.cons (.var 8) .nil))) (.sl (.var 5) (.yes (.bin .add (.var 7) (.c (.int 1)))) .no))) (.cons (.ite (.not (.val (.call 39 (.cons (.call 89 (.cons (.var 3) (.cons (.var 4) (.cons (.var 9) .nil)))) (.cons (.call 93 (.cons (.var 3) (.cons (.var 4) (.cons (.var 9) .nil)))) .nil))))) (.cons (.ret (.c (.bl false))) .nil) .nil) (.cons (.asg (.n 10) (.call 28 (.cons (.var 2) (.cons (.var 3) (.cons (.c (.int 3)) .nil))))) (.cons (.ite (.not (.val (.call 39 (.cons (.call 89 (.cons (.var 3) (.cons (.var 10) (.cons (.var 5) .nil)))) (.cons (.call 93 (.cons (.var 3) (.cons (.var 10) (.cons (.var 5) .nil)))) .nil))))) (.cons (.ret (.c (.bl false))) .nil) .nil) (.cons (.asg (.n 11) (.lst (.cons (.bi .list (.cons (.var 8) .nil)) (.cons (.tup (.cons (.var 12) (.cons (.var 13) (.cons (.c (.int 0)) .nil)))) (.cons (.tup (.cons (.bi .str (.cons (.var 12) .nil)) (.cons (.var 13) .nil))) (.cons (.tup (.cons (.bi .len (.cons (.ix (.var 3) (.c (.int 2))) .nil)) (.cons (.var 13) .nil))) (.cons (.c .non) (.cons (.tup (.cons (.neg (.c (.int 1))) (.cons (.var 13) .nil))) .nil)))))))) (.cons (.ite (.val (.cmp .isnot (.call 89 (.cons (.var 3) (.cons (.var 4) (.cons (.bin .add (.bin .add (.sl (.var 5) .no (.yes (.var 7))) (.tup (.cons (.call 19 (.cons (.var 2) (.cons (.var 11) .nil))) .nil))) (.sl (.var 5) (.yes (.bin .add (.var 7) (.c (.int 1)))) .no)) .nil)))) (.c (.bl false)))) (.cons (.ret (.c (.bl false))) .nil) .nil) .nil)))))))))) .nil) .nil)) (.cons (.ite (.or (.val (.cmp .isnot (.call 89 (.cons (.var 3) (.cons (.var 4) (.cons (.bi .list (.cons (.var 5) .nil)) .nil)))) (.c (.bl false)))) (.val (.cmp .isnot (.call 89 (.cons (.var 3) (.cons (.var 4) (.cons (.c .non) .nil)))) (.c (.bl false))))) (.cons (.ret (.c (.bl false))) .nil) .nil) .nil)))))))) (.cons (.asg (.tp [3, 4]) (.tup (.cons (.tup (.cons (.tup (.cons (.c (.int 1)) (.cons (.c (.int 1)) .nil))) (.cons (.tup (.cons (.c (.str [114, 111, 119])) .nil)) (.cons (.tup (.cons (.tup (.cons (.c (.int 0)) (.cons (.c (.int 0)) (.cons (.c (.str [43, 48, 97])) (.cons (.c (.int 0)) .nil))))) (.cons (.tup (.cons (.c (.int 1)) (.cons (.c (.int 0)) (.cons (.c (.str [])) (.cons (.c (.int 0)) .nil))))) .nil))) .nil)))) (.cons (.tup (.cons (.tup (.cons (.c (.int 0)) (.cons (.c (.int 0)) .nil))) (.cons (.tup (.cons (.c (.str [97, 98])) .nil)) .nil))) .nil)))) (.cons (.ite (.or (.val (.cmp .isnot (.call 89 (.cons (.var 3) (.cons (.var 4) (.cons (.bin .mul (.tup (.cons (.tup (.cons (.c (.int 1)) (.cons (.var 4) .nil))) .nil)) (.c (.int 40))) .nil)))) (.c (.bl true)))) (.val (.cmp .isnot (.call 89 (.cons (.var 3) (.cons (.var 4) (.cons (.bin .mul (.tup (.cons (.tup (.cons (.c (.int 1)) (.cons (.var 4) .nil))) .nil)) (.c (.int 41))) .nil)))) (.c (.bl false))))) (.cons (.ret (.c (.bl false))) .nil) .nil) (.cons (.ret (.and (.cmp .is (.call 89 (.cons (.var 3) (.cons (.var 4) (.cons (.tup (.cons (.tup (.cons (.c (.int 0)) (.cons (.tup (.cons (.tup (.cons (.c (.int 0)) (.cons (.c (.int 0)) .nil))) (.cons (.tup (.cons (.c (.str [98, 97])) .nil)) .nil))) .nil))) .nil)) .nil)))) (.c (.bl true))) (.cmp .is (.call 89 (.cons (.var 3) (.cons (.var 4) (.cons (.tup (.cons (.tup (.cons (.c (.int 0)) (.cons (.var 4) .nil))) .nil)) .nil)))) (.c (.bl false))))) .nil))))⟩
def F_is_above : Fun := ⟨2, 3, (.cons (.ret (.bi .any (.cons (.lc [2] (.call 53 (.cons (.var 2) (.cons (.var 0) .nil))) (.n 2) (.e (.var 1)) .no) .nil))) .nil)⟩
def F_next_level : Fun := ⟨4, 6, (.cons (.asg (.n 4) (.lc [5] (.var 5) (.n 5) (.e (.call 76 (.cons (.var 0) (.cons (.var 2) (.cons (.var 3) .nil))))) (.yes (.not (.val (.call 95 (.cons (.var 5) (.cons (.var 1) .nil)))))))) (.cons (.ret (.bi .list (.cons (.call 56 (.cons (.var 4) .nil)) .nil))) .nil))⟩
def F_levels_of : Fun := ⟨4, 9, (.cons (.asg (.n 4) (.bi .list (.cons (.call 56 (.cons (.lc [7] (.var 7) (.n 7) (.e (.var 1)) (.yes (.val (.call 75 (.cons (.var 7) (.cons (.var 2) .nil)))))) .nil)) .nil))) (.cons (.new 5 (.lst .nil)) (.cons (.asg (.n 6) (.lst .nil)) (.cons (.while (.and (.val (.cmp .ne (.var 4) (.lst .nil))) (.or (.val (.cmp .is (.var 3) (.c .non))) (.val (.cmp .le (.bi .len (.cons (.var 5) .nil)) (.var 3))))) (.cons (.ex (.me .append (.var 5) (.cons (.var 4) .nil))) (.cons (.asg (.n 6) (.bin .add (.lc [8] (.var 8) (.n 8) (.e (.var 6)) (.yes (.not (.val (.call 95 (.cons (.var 8) (.cons (.var 4) .nil))))))) (.var 4))) (.cons (.asg (.n 4) (.call 96 (.cons (.var 0) (.cons (.var 6) (.cons (.var 4) (.cons (.var 2) .nil)))))) .nil)))) (.cons (.ret (.var 5)) .nil)))))⟩
def F_least_known : Fun := ⟨1, 3, (.cons (.asg (.n 1) (.lst .nil)) (.cons (.loop (.n 2) (.e (.var 0)) (.cons (.asg (.n 1) (.bin .add (.var 1) (.var 2))) .nil)) (.cons (.ret (.call 56 (.cons (.var 1) .nil))) .nil)))⟩
def F_all_pairs : Fun := ⟨1, 3, (.cons (.ret (.lc2 [1, 2] [2] (.tup (.cons (.var 1) (.cons (.var 2) .nil))) (.n 1) (.rng (.ix (.ix (.var 0) (.c (.int 0))) (.c (.int 0)))) .no (.n 2) (.rng (.ix (.ix (.var 0) (.c (.int 0))) (.c (.int 1)))) .no)) .nil)⟩
def F_with_text : Fun := ⟨4, 5, (.cons (.ret (.tup (.cons (.var 1) (.cons (.bi .tuple (.cons (.lc [4] (.ite (.val (.cmp .eq (.var 4) (.var 2))) (.var 3) (.c (.str []))) (.n 4) (.rng (.bi .len (.cons (.ix (.var 0) (.c (.int 1))) .nil))) .no) .nil)) .nil)))) .nil)⟩
def F_all_above : Fun := ⟨2, 3, (.cons (.ret (.bi .all (.cons (.lc [2] (.call 95 (.cons (.var 2) (.cons (.var 1) .nil))) (.n 2) (.e (.var 0)) .no) .nil))) .nil)⟩
def F__law_at : Fun := ⟨4, 5, (.cons (.ret (.tup (.cons (.var 1) (.cons (.bi .tuple (.cons (.lc [4] (.ite (.val (.cmp .eq (.var 4) (.var 2))) (.var 3) (.c (.str []))) (.n 4) (.rng (.bi .len (.cons (.ix (.var 0) (.c (.int 1))) .nil))) .no) .nil)) .nil)))) .nil)⟩
def F__law_thing : Fun := ⟨3, 5, (.cons (.asg (.n 3) (.lc [4] (.call 28 (.cons (.var 0) (.cons (.var 1) (.cons (.var 2) .nil)))) (.n 4) (.rng (.call 19 (.cons (.var 0) (.cons (.lst (.cons (.c (.int 1)) (.cons (.c (.int 2)) (.cons (.c (.int 2)) (.cons (.c (.int 3)) (.cons (.c (.int 0)) .nil)))))) .nil)))) .no)) (.cons (.ret (.var 3)) .nil))⟩
def F__law_drawn : Fun := ⟨2, 3, (.cons (.ret (.lc [2] (.call 28 (.cons (.var 0) (.cons (.var 1) (.cons (.c (.int 2)) .nil)))) (.n 2) (.rng (.call 19 (.cons (.var 0) (.cons (.lst (.cons (.c (.int 1)) (.cons (.c (.int 2)) (.cons (.c (.int 1)) (.cons (.c (.int 2)) (.cons (.c (.int 0)) .nil)))))) .nil)))) .no)) .nil)⟩
def F__law_short_k24 : Fun := ⟨1, 2, (.cons (.ret (.and (.cmp .le (.bi .len (.cons (.var 0) .nil)) (.c (.int 6))) (.cmp .eq (.lc [1] (.var 1) (.n 1) (.e (.var 0)) (.yes (.val (.cmp .gt (.bi .len (.cons (.me .join (.c (.str [])) (.cons (.ix (.var 1) (.c (.int 1))) .nil)) .nil)) (.c (.int 4)))))) (.lst .nil)))) .nil)⟩
def F_steps_by : Fun := ⟨2, 4, (.cons (.loop (.tp [2, 3]) (.enum (.var 0)) (.cons (.ite (.val (.call 95 (.cons (.var 1) (.cons (.var 3) .nil)))) (.cons (.ret (.var 2)) .nil) .nil) .nil)) (.cons (.ret (.c .non)) .nil))⟩
def F_steps_to : Fun := ⟨4, 4, (.cons (.ret (.call 118 (.cons (.call 97 (.cons (.var 0) (.cons (.var 2) (.cons (.var 3) (.cons (.c .non) .nil))))) (.cons (.var 1) .nil)))) .nil)⟩
def F__law_way : Fun := ⟨4, 6, (.cons (.new 4 (.lst .nil)) (.cons (.loop (.n 5) (.e (.var 3)) (.cons (.asg (.n 1) (.call 50 (.cons (.var 0) (.cons (.var 1) (.cons (.ix (.ix (.var 0) (.c (.int 2))) (.var 5)) .nil))))) (.cons (.ite (.or (.val (.cmp .is (.var 1) (.c .non))) (.not (.val (.call 82 (.cons (.var 1) (.cons (.var 2) .nil)))))) (.cons (.ret (.c .non)) .nil) .nil) (.cons (.ex (.me .append (.var 4) (.cons (.var 1) .nil))) .nil)))) (.cons (.ret (.bi .tuple (.cons (.var 4) .nil))) .nil)))⟩
def F__law_cut_line : Fun := ⟨3, 5, (.cons (.asg (.n 3) (.lc [4] (.var 4) (.n 4) (.e (.var 2)) (.yes (.val (.cmp .gt (.call 18 (.cons (.var 0) (.cons (.c (.int 3)) .nil))) (.c (.int 0))))))) (.cons (.ret (.call 19 (.cons (.var 0) (.cons (.lst (.cons (.call 26 (.cons (.var 1) (.cons (.var 3) .nil))) (.cons (.me .join (.c (.str [])) (.cons (.var 3) .nil)) (.cons (.var 2) (.cons (.bin .add (.c (.str [97])) (.var 2)) (.cons (.rev (.var 2)) (.cons (.c (.str [])) .nil))))))) .nil)))) .nil))⟩
def F__law_lost : Fun := ⟨4, 8, (.cons (.asg (.n 4) (.call 18 (.cons (.var 0) (.cons (.bi .len (.cons (.ix (.var 1) (.c (.int 1))) .nil)) .nil)))) (.cons (.asg (.n 5) (.call 125 (.cons (.var 0) (.cons (.ix (.ix (.var 1) (.c (.int 1))) (.var 4)) (.cons (.ix (.ix (.var 2) (.c (.int 1))) (.var 4)) .nil))))) (.cons (.asg (.n 6) (.and (.call 60 (.cons (.var 5) (.cons (.ix (.ix (.var 2) (.c (.int 1))) (.var 4)) .nil))) (.cmp .eq (.call 26 (.cons (.ix (.ix (.var 1) (.c (.int 1))) (.var 4)) (.cons (.var 5) .nil))) (.var 5)))) (.cons (.ite (.val (.cmp .ne (.call 124 (.cons (.var 3) (.cons (.var 4) (.cons (.var 5) .nil)))) (.ite (.val (.var 6)) (.c (.str [])) (.c (.str [112, 97, 114, 116, 32, 118, 97, 108, 117, 101]))))) (.cons (.ret (.tup (.cons (.var 2) (.cons (.c (.bl false)) (.cons (.c (.bl false)) .nil))))) .nil) .nil) (.cons (.asg (.n 7) (.tup (.cons (.ix (.var 2) (.c (.int 0))) (.cons (.bin .add (.bin .add (.sl (.ix (.var 2) (.c (.int 1))) .no (.yes (.var 4))) (.tup (.cons (.var 5) .nil))) (.sl (.ix (.var 2) (.c (.int 1))) (.yes (.bin .add (.var 4) (.c (.int 1)))) .no)) .nil)))) (.cons (.ret (.tup (.cons (.ite (.val (.var 6)) (.var 7) (.var 2)) (.cons (.c (.bl true)) (.cons (.var 6) .nil))))) .nil))))))⟩
def F__law_string : Fun := ⟨1, 1, (.cons (.ret (.bin .add (.bin .add (.bin .add (.bin .add (.bi .str (.cons (.ix (.var 0) (.c (.int 0))) .nil)) (.c (.str [32]))) (.sl (.bin .add (.ix (.var 0) (.c (.int 2))) (.c (.str [32, 32, 32]))) .no (.yes (.c (.int 3))))) (.c (.str [32]))) (.bi .str (.cons (.ix (.var 0) (.c (.int 3))) .nil)))) .nil)⟩
def F__law_rows : Fun := ⟨1, 2, (.cons (.ret (.lc [1] (.bin .add (.bin .add (.sl (.bin .add (.c (.str [32, 32])) (.bi .str (.cons (.bin .add (.var 1) (.c (.int 1))) .nil))) (.yes (.neg (.c (.int 3)))) .no) (.c (.str [32]))) (.ix (.var 0) (.var 1))) (.n 1) (.rng (.bi .len (.cons (.var 0) .nil))) .no)) .nil)⟩
def F_deed_text : Fun := ⟨1, 1, (.cons (.ret (.ite (.val (.cmp .eq (.var 0) (.c (.str [])))) (.c (.str [46])) (.var 0))) .nil)⟩
def F_talk_text : Fun := ⟨1, 1, (.cons (.ex (.call 11 (.cons (.var 0) .nil))) (.cons (.ret (.call 134 (.cons (.var 0) .nil))) .nil))⟩
def F__law_written : Fun := ⟨1, 6, (.cons (.new 1 (.lst (.cons (.me .join (.c (.str [32])) (.cons (.bin .add (.lst (.cons (.bi .str (.cons (.ix (.ix (.var 0) (.c (.int 0))) (.c (.int 0))) .nil)) (.cons (.bi .str (.cons (.ix (.ix (.var 0) (.c (.int 0))) (.c (.int 1))) .nil)) .nil))) (.bi .list (.cons (.ix (.var 0) (.c (.int 1))) .nil))) .nil)) .nil))) (.cons (.loop (.tp [2, 3, 4, 5]) (.e (.ix (.var 0) (.c (.int 2)))) (.cons (.ex (.me .append (.var 1) (.cons (.me .join (.c (.str [32])) (.cons (.lst (.cons (.bi .str (.cons (.var 2) .nil)) (.cons (.bi .str (.cons (.var 3) .nil)) (.cons (.ite (.val (.cmp .ne (.var 4) (.c (.str [])))) (.var 4) (.c (.str [46]))) (.cons (.bi .str (.cons (.var 5) .nil)) .nil))))) .nil)) .nil))) .nil)) (.cons (.ret (.me .join (.c (.str [10])) (.cons (.var 1) .nil))) .nil)))⟩
def F__law_bent : Fun := ⟨2, 4, (.cons (.asg (.n 2) (.call 18 (.cons (.var 0) (.cons (.bin .add (.bi .len (.cons (.var 1) .nil)) (.c (.int 1))) .nil)))) (.cons (.asg (.n 3) (.call 19 (.cons (.var 0) (.cons (.lst (.cons (.c (.str [48])) (.cons (.c (.str [49])) (.cons (.c (.str [50])) (.cons (.c (.str [32])) (.cons (.c (.str [10])) (.cons (.c (.str [97])) (.cons (.c (.str [43])) (.cons (.c (.str [46])) (.cons (.c (.str [53])) (.cons (.c (.str [45])) (.cons (.c (.str [])) (.cons (.c (.str [])) .nil))))))))))))) .nil)))) (.cons (.ret (.bin .add (.bin .add (.sl (.var 1) .no (.yes (.var 2))) (.var 3)) (.sl (.var 1) (.yes (.bin .add (.var 2) (.call 18 (.cons (.var 0) (.cons (.c (.int 2)) .nil))))) .no))) .nil)))⟩
def F_comes : Fun := ⟨3, 3, (.cons (.ret (.cmp .isnot (.call 119 (.cons (.var 0) (.cons (.call 13 (.cons (.var 0) .nil)) (.cons (.var 1) (.cons (.var 2) .nil))))) (.c .non))) .nil)⟩
def F_dangers : Fun := ⟨2, 2, (.cons (.ex (.call 11 (.cons (.var 0) .nil))) (.cons (.ex (.call 77 (.cons (.var 0) (.cons (.var 1) .nil)))) (.cons (.ret (.call 98 (.cons (.call 97 (.cons (.var 0) (.cons (.var 1) (.cons (.c .non) (.cons (.c .non) .nil))))) .nil))) .nil)))⟩
def F_is_shut : Fun := ⟨2, 3, (.cons (.ex (.call 11 (.cons (.var 0) .nil))) (.cons (.ex (.call 58 (.cons (.var 0) (.cons (.var 1) .nil)))) (.cons (.ret (.bi .all (.cons (.lc [2] (.call 95 (.cons (.var 2) (.cons (.var 1) .nil))) (.n 2) (.e (.call 76 (.cons (.var 0) (.cons (.var 1) (.cons (.c .non) .nil))))) .no) .nil))) .nil)))⟩
def F_can_come : Fun := ⟨2, 2, (.cons (.ex (.call 11 (.cons (.var 0) .nil))) (.cons (.ex (.call 77 (.cons (.var 0) (.cons (.var 1) .nil)))) (.cons (.ret (.call 145 (.cons (.var 0) (.cons (.var 1) (.cons (.c .non) .nil))))) .nil)))⟩
def F_step_down : Fun := ⟨3, 7, (.cons (.loop (.tp [3, 4]) (.enum (.ix (.var 0) (.c (.int 2)))) (.cons (.loop (.n 5) (.e (.var 2)) (.cons (.asg (.n 6) (.call 74 (.cons (.var 0) (.cons (.var 5) (.cons (.var 4) .nil))))) (.cons (.ite (.and (.val (.cmp .isnot (.var 6) (.c .non))) (.val (.call 53 (.cons (.var 6) (.cons (.var 1) .nil))))) (.cons (.ret (.tup (.cons (.var 3) (.cons (.call 44 (.cons (.var 0) (.cons (.var 6) (.cons (.var 4) .nil)))) .nil)))) .nil) .nil) .nil))) .nil)) (.cons (.ret (.c .non)) .nil))⟩
def F_run_to : Fun := ⟨3, 8, (.cons (.asg (.n 3) (.call 97 (.cons (.var 0) (.cons (.var 2) (.cons (.c .non) (.cons (.c .non) .nil)))))) (.cons (.asg (.n 4) (.call 118 (.cons (.var 3) (.cons (.var 1) .nil)))) (.cons (.ite (.val (.cmp .is (.var 4) (.c .non))) (.cons (.ret (.c .non)) .nil) .nil) (.cons (.asg (.n 5) (.tup .nil)) (.cons (.loop (.n 6) (.e (.rev (.sl (.var 3) .no (.yes (.var 4))))) (.cons (.asg (.n 7) (.call 150 (.cons (.var 0) (.cons (.var 1) (.cons (.var 6) .nil))))) (.cons (.asg (.n 5) (.bin .add (.var 5) (.tup (.cons (.var 7) .nil)))) (.cons (.asg (.n 1) (.ix (.var 7) (.c (.int 1)))) .nil)))) (.cons (.ret (.var 5)) .nil))))))⟩
def F_some_run : Fun := ⟨3, 3, (.cons (.ex (.call 11 (.cons (.var 0) .nil))) (.cons (.ex (.call 41 (.cons (.var 0) (.cons (.var 1) .nil)))) (.cons (.ex (.call 77 (.cons (.var 0) (.cons (.var 2) .nil)))) (.cons (.ret (.call 151 (.cons (.var 0) (.cons (.var 1) (.cons (.var 2) .nil))))) .nil))))⟩
def F_left_out : Fun := ⟨2, 4, (.cons (.ret (.tup (.cons (.ix (.var 0) (.c (.int 0))) (.cons (.ix (.var 0) (.c (.int 1))) (.cons (.bi .tuple (.cons (.lc [2, 3] (.var 3) (.tp [2, 3]) (.enum (.ix (.var 0) (.c (.int 2)))) (.yes (.val (.cmp .notin (.var 2) (.var 1))))) .nil)) .nil))))) .nil)⟩
def F_without : Fun := ⟨2, 5, (.cons (.ex (.call 11 (.cons (.var 0) .nil))) (.cons (.ite (.or (.not (.val (.isi (.var 1) .tuple))) (.not (.val (.bi .all (.cons (.lc [2] (.call 0 (.cons (.var 2) (.cons (.c (.int 0)) (.cons (.bin .sub (.bi .len (.cons (.ix (.var 0) (.c (.int 2))) .nil)) (.c (.int 1))) .nil)))) (.n 2) (.e (.var 1)) .no) .nil))))) (.cons (.raise 4) .nil) .nil) (.cons (.ite (.not (.val (.bi .all (.cons (.lc [3, 4] (.cmp .lt (.var 3) (.var 4)) (.tp [3, 4]) (.zip2 (.var 1) (.sl (.var 1) (.yes (.c (.int 1))) .no)) .no) .nil)))) (.cons (.raise 4) .nil) .nil) (.cons (.ret (.call 153 (.cons (.var 0) (.cons (.var 1) .nil)))) .nil))))⟩
def F_tuples_of : Fun := ⟨2, 6, (.cons (.asg (.n 2) (.lst (.cons (.tup .nil) .nil))) (.cons (.loop (.n 3) (.rng (.var 1)) (.cons (.asg (.n 2) (.lc2 [4, 5] [5] (.bin .add (.var 4) (.tup (.cons (.var 5) .nil))) (.n 4) (.e (.var 2)) .no (.n 5) (.rng (.var 0)) (.yes (.or (.val (.cmp .eq (.var 4) (.tup .nil))) (.val (.cmp .lt (.ix (.var 4) (.neg (.c (.int 1)))) (.var 5))))))) .nil)) (.cons (.ret (.var 2)) .nil)))⟩
def F_all_guards : Fun := ⟨2, 7, (.cons (.new 2 (.lst .nil)) (.cons (.loop (.n 3) (.rng (.bin .add (.bi .len (.cons (.ix (.var 0) (.c (.int 2))) .nil)) (.c (.int 1)))) (.cons (.loop (.n 4) (.e (.call 155 (.cons (.bi .len (.cons (.ix (.var 0) (.c (.int 2))) .nil)) (.cons (.var 3) .nil)))) (.cons (.ite (.not (.val (.bi .any (.cons (.lc [5] (.bi .all (.cons (.lc [6] (.cmp .isin (.var 6) (.var 4)) (.n 6) (.e (.var 5)) .no) .nil)) (.n 5) (.e (.var 2)) .no) .nil)))) (.cons (.ite (.not (.val (.call 145 (.cons (.call 153 (.cons (.var 0) (.cons (.var 4) .nil))) (.cons (.var 1) (.cons (.c .non) .nil)))))) (.cons (.ex (.me .append (.var 2) (.cons (.var 4) .nil))) .nil) .nil) .nil) .nil) .nil)) .nil)) (.cons (.ret (.var 2)) .nil)))⟩
def F_need_few : Fun := ⟨2, 2, (.cons (.ex (.call 11 (.cons (.var 0) .nil))) (.cons (.ex (.call 77 (.cons (.var 0) (.cons (.var 1) .nil)))) (.cons (.ite (.val (.cmp .gt (.bi .len (.cons (.ix (.var 0) (.c (.int 2))) .nil)) (.c (.int 8)))) (.cons (.raise 1) .nil) .nil) .nil)))⟩
def F_guards : Fun := ⟨2, 2, (.cons (.ex (.call 157 (.cons (.var 0) (.cons (.var 1) .nil)))) (.cons (.ret (.call 156 (.cons (.var 0) (.cons (.var 1) .nil)))) .nil))⟩
def F_fewest_guard : Fun := ⟨2, 4, (.cons (.ex (.call 157 (.cons (.var 0) (.cons (.var 1) .nil)))) (.cons (.loop (.n 2) (.rng (.bin .add (.bi .len (.cons (.ix (.var 0) (.c (.int 2))) .nil)) (.c (.int 1)))) (.cons (.loop (.n 3) (.e (.call 155 (.cons (.bi .len (.cons (.ix (.var 0) (.c (.int 2))) .nil)) (.cons (.var 2) .nil)))) (.cons (.ite (.not (.val (.call 145 (.cons (.call 153 (.cons (.var 0) (.cons (.var 3) .nil))) (.cons (.var 1) (.cons (.c .non) .nil)))))) (.cons (.ret (.var 3)) .nil) .nil) .nil)) .nil)) (.cons (.ret (.c .non)) .nil)))⟩
def F_meet : Fun := ⟨2, 2, (.cons (.ret (.call 145 (.cons (.var 0) (.cons (.lst (.cons (.call 100 (.cons (.var 0) (.cons (.var 1) (.cons (.c (.int 0)) (.cons (.c (.str [])) .nil))))) .nil)) (.cons (.c .non) .nil))))) .nil)⟩
def F_pairs_of : Fun := ⟨1, 2, (.cons (.ret (.lc [1] (.var 1) (.n 1) (.e (.call 99 (.cons (.var 0) .nil))) (.yes (.val (.call 160 (.cons (.var 0) (.cons (.var 1) .nil))))))) .nil)⟩
def F_meetings : Fun := ⟨1, 1, (.cons (.ex (.call 11 (.cons (.var 0) .nil))) (.cons (.ret (.call 161 (.cons (.var 0) .nil))) .nil))⟩
def F_is_used : Fun := ⟨2, 9, (.cons (.asg (.tp [2, 3, 4, 5]) (.var 1)) (.cons (.asg (.tp [6, 7]) (.ite (.val (.cmp .eq (.sl (.var 4) .no (.yes (.c (.int 1)))) (.c (.str [45])))) (.tup (.cons (.bi .int (.cons (.ix (.var 4) (.c (.int 1))) .nil)) (.cons (.ix (.var 4) (.c (.int 2))) .nil))) (.tup (.cons (.c (.int 0)) (.cons (.c (.str [])) .nil))))) (.cons (.ret (.call 145 (.cons (.var 0) (.cons (.lc [8] (.call 100 (.cons (.var 0) (.cons (.var 8) (.cons (.var 6) (.cons (.var 7) .nil))))) (.n 8) (.e (.call 99 (.cons (.var 0) .nil))) (.yes (.val (.cmp .eq (.ix (.var 8) (.var 2)) (.var 3))))) (.cons (.c .non) .nil))))) .nil)))⟩
def F_idle_rules : Fun := ⟨1, 3, (.cons (.ex (.call 11 (.cons (.var 0) .nil))) (.cons (.ret (.lc [1, 2] (.var 1) (.tp [1, 2]) (.enum (.ix (.var 0) (.c (.int 2)))) (.yes (.not (.val (.call 163 (.cons (.var 0) (.cons (.var 2) .nil)))))))) .nil))⟩
def F_rules_in : Fun := ⟨2, 6, (.cons (.ret (.lc [2, 3, 4, 5] (.var 4) (.tp [2, 3, 4, 5]) (.e (.ix (.var 0) (.c (.int 2)))) (.yes (.val (.cmp .eq (.ix (.var 1) (.var 2)) (.var 3)))))) .nil)⟩
def F_unheard : Fun := ⟨1, 5, (.cons (.ex (.call 11 (.cons (.var 0) .nil))) (.cons (.new 1 (.lst .nil)) (.cons (.loop (.n 2) (.e (.call 161 (.cons (.var 0) .nil))) (.cons (.loop (.n 3) (.rng (.bi .len (.cons (.ix (.var 0) (.c (.int 1))) .nil))) (.cons (.loop (.n 4) (.e (.glo 0)) (.cons (.ite (.val (.cmp .notin (.bin .add (.bin .add (.c (.str [45])) (.bi .str (.cons (.var 3) .nil))) (.var 4)) (.call 165 (.cons (.var 0) (.cons (.var 2) .nil))))) (.cons (.ite (.val (.call 145 (.cons (.var 0) (.cons (.lst (.cons (.call 100 (.cons (.var 0) (.cons (.var 2) (.cons (.var 3) (.cons (.var 4) .nil))))) .nil)) (.cons (.c .non) .nil))))) (.cons (.ex (.me .append (.var 1) (.cons (.tup (.cons (.var 2) (.cons (.var 3) (.cons (.var 4) .nil)))) .nil))) .nil) .nil) .nil) .nil) .nil)) .nil)) .nil)) (.cons (.ret (.var 1)) .nil))))⟩
def F_halts : Fun := ⟨1, 3, (.cons (.ex (.call 11 (.cons (.var 0) .nil))) (.cons (.ret (.lc [1] (.var 1) (.n 1) (.e (.call 161 (.cons (.var 0) .nil))) (.yes (.val (.bi .all (.cons (.lc [2] (.cmp .eq (.sl (.var 2) .no (.yes (.c (.int 1)))) (.c (.str [45]))) (.n 2) (.e (.call 165 (.cons (.var 0) (.cons (.var 1) .nil)))) .no) .nil)))))) .nil))⟩
def F_may_hold : Fun := ⟨3, 4, (.cons (.ex (.call 11 (.cons (.var 0) .nil))) (.cons (.ite (.not (.val (.call 0 (.cons (.var 1) (.cons (.c (.int 0)) (.cons (.bin .sub (.bi .len (.cons (.ix (.var 0) (.c (.int 1))) .nil)) (.c (.int 1))) .nil)))))) (.cons (.raise 6) .nil) .nil) (.cons (.ite (.not (.val (.call 1 (.cons (.var 2) (.cons (.c (.int 12)) .nil))))) (.cons (.raise 7) .nil) .nil) (.cons (.ite (.not (.val (.call 9 (.cons (.ix (.ix (.var 0) (.c (.int 1))) (.var 1)) (.cons (.var 2) .nil))))) (.cons (.ret (.c (.bl false))) .nil) .nil) (.cons (.ret (.call 145 (.cons (.var 0) (.cons (.lc [3] (.call 100 (.cons (.var 0) (.cons (.var 3) (.cons (.var 1) (.cons (.var 2) .nil))))) (.n 3) (.e (.call 99 (.cons (.var 0) .nil))) .no) (.cons (.c .non) .nil))))) .nil)))))⟩
def F_with_manners : Fun := ⟨2, 2, (.cons (.ex (.call 11 (.cons (.var 0) .nil))) (.cons (.ite (.or (.not (.val (.call 4 (.cons (.var 1) .nil)))) (.val (.cmp .ne (.bi .len (.cons (.var 1) .nil)) (.bi .len (.cons (.ix (.var 0) (.c (.int 1))) .nil))))) (.cons (.raise 8) .nil) .nil) (.cons (.ret (.tup (.cons (.ix (.var 0) (.c (.int 0))) (.cons (.var 1) (.cons (.ix (.var 0) (.c (.int 2))) .nil))))) .nil)))⟩
def F_safe_manners : Fun := ⟨2, 7, (.cons (.ex (.call 11 (.cons (.var 0) .nil))) (.cons (.ite (.or (.not (.val (.isi (.var 1) .tuple))) (.not (.val (.cmp2 .le .le (.c (.int 1)) (.bi .len (.cons (.var 1) .nil)) (.c (.int 4)))))) (.cons (.raise 9) .nil) .nil) (.cons (.ite (.not (.val (.bi .all (.cons (.lc [6] (.call 2 (.cons (.var 6) (.cons (.ix (.var 0) (.c (.int 0))) .nil))) (.n 6) (.e (.var 1)) .no) .nil)))) (.cons (.raise 9) .nil) .nil) (.cons (.asg (.n 2) (.lst (.cons (.tup .nil) .nil))) (.cons (.loop (.n 3) (.e (.ix (.var 0) (.c (.int 1)))) (.cons (.asg (.n 2) (.lc2 [4, 5] [5] (.bin .add (.var 4) (.tup (.cons (.var 5) .nil))) (.n 4) (.e (.var 2)) .no (.n 5) (.e (.glo 1)) .no)) .nil)) (.cons (.ret (.lc [4] (.var 4) (.n 4) (.e (.var 2)) (.yes (.not (.val (.bi .any (.cons (.lc [6] (.call 160 (.cons (.tup (.cons (.ix (.var 0) (.c (.int 0))) (.cons (.var 4) (.cons (.ix (.var 0) (.c (.int 2))) .nil)))) (.cons (.var 6) .nil))) (.n 6) (.e (.var 1)) .no) .nil))))))) .nil))))))⟩
def F_more_pairs : Fun := ⟨2, 5, (.cons (.par 2 3 (.call 161 (.cons (.var 0) .nil)) (.call 161 (.cons (.var 1) .nil))) (.cons (.ret (.lc [4] (.var 4) (.n 4) (.e (.var 2)) (.yes (.val (.cmp .notin (.var 4) (.var 3)))))) .nil))⟩
def F_never_more : Fun := ⟨2, 2, (.cons (.ex (.call 11 (.cons (.var 0) .nil))) (.cons (.ex (.call 11 (.cons (.var 1) .nil))) (.cons (.ret (.cmp .eq (.call 171 (.cons (.var 0) (.cons (.var 1) .nil))) (.lst .nil))) .nil)))⟩
def F_parting : Fun := ⟨2, 3, (.cons (.ex (.call 11 (.cons (.var 0) .nil))) (.cons (.ex (.call 11 (.cons (.var 1) .nil))) (.cons (.loop (.n 2) (.e (.call 171 (.cons (.var 0) (.cons (.var 1) .nil)))) (.cons (.ret (.tup (.cons (.var 2) (.cons (.call 151 (.cons (.var 0) (.cons (.call 13 (.cons (.var 0) .nil)) (.cons (.lst (.cons (.call 100 (.cons (.var 0) (.cons (.var 2) (.cons (.c (.int 0)) (.cons (.c (.str [])) .nil))))) .nil)) .nil)))) .nil)))) .nil)) (.cons (.ret (.c .non)) .nil))))⟩
def F_least_room : Fun := ⟨2, 3, (.cons (.ex (.call 11 (.cons (.var 0) .nil))) (.cons (.ex (.call 77 (.cons (.var 0) (.cons (.var 1) .nil)))) (.cons (.ite (.not (.val (.call 145 (.cons (.var 0) (.cons (.var 1) (.cons (.c .non) .nil)))))) (.cons (.ret (.c .non)) .nil) .nil) (.cons (.asg (.n 2) (.c (.int 0))) (.cons (.while (.not (.val (.call 145 (.cons (.var 0) (.cons (.var 1) (.cons (.var 2) .nil)))))) (.cons (.asg (.n 2) (.bin .add (.var 2) (.c (.int 1)))) .nil)) (.cons (.ret (.var 2)) .nil))))))⟩
def F__law_a : Fun := ⟨0, 1, (.cons (.asg (.n 0) (.tup (.cons (.tup (.cons (.c (.int 0)) (.cons (.c (.int 0)) (.cons (.c (.str [43, 48, 97])) (.cons (.c (.int 0)) .nil))))) (.cons (.tup (.cons (.c (.int 0)) (.cons (.c (.int 0)) (.cons (.c (.str [45, 49, 97])) (.cons (.c (.int 1)) .nil))))) (.cons (.tup (.cons (.c (.int 0)) (.cons (.c (.int 1)) (.cons (.c (.str [43, 48, 98])) (.cons (.c (.int 1)) .nil))))) (.cons (.tup (.cons (.c (.int 0)) (.cons (.c (.int 1)) (.cons (.c (.str [45, 49, 98])) (.cons (.c (.int 0)) .nil))))) .nil)))))) (.cons (.ret (.tup (.cons (.tup (.cons (.c (.int 2)) (.cons (.c (.int 2)) .nil))) (.cons (.tup (.cons (.c (.str [114, 111, 119])) (.cons (.c (.str [114, 111, 119])) .nil))) (.cons (.bin .add (.var 0) (.tup (.cons (.tup (.cons (.c (.int 1)) (.cons (.c (.int 0)) (.cons (.c (.str [43, 49, 98])) (.cons (.c (.int 0)) .nil))))) (.cons (.tup (.cons (.c (.int 1)) (.cons (.c (.int 0)) (.cons (.c (.str [45, 48, 97])) (.cons (.c (.int 1)) .nil))))) (.cons (.tup (.cons (.c (.int 1)) (.cons (.c (.int 1)) (.cons (.c (.str [43, 49, 97])) (.cons (.c (.int 1)) .nil))))) (.cons (.tup (.cons (.c (.int 1)) (.cons (.c (.int 1)) (.cons (.c (.str [45, 48, 98])) (.cons (.c (.int 0)) .nil))))) .nil)))))) .nil))))) .nil))⟩
def F__law_second_part : Fun := ⟨2, 5, (.cons (.ite (.or (.val (.cmp .ne (.call 162 (.cons (.var 0) .nil)) (.lst (.cons (.tup (.cons (.c (.int 0)) (.cons (.c (.int 0)) .nil))) (.cons (.tup (.cons (.c (.int 0)) (.cons (.c (.int 1)) .nil))) (.cons (.tup (.cons (.c (.int 1)) (.cons (.c (.int 0)) .nil))) (.cons (.tup (.cons (.c (.int 1)) (.cons (.c (.int 1)) .nil))) .nil))))))) (.val (.cmp .ne (.call 164 (.cons (.var 0) .nil)) (.lst .nil)))) (.cons (.ret (.c (.bl false))) .nil) .nil) (.cons (.asg (.n 2) (.tup (.cons (.ix (.var 1) (.c (.int 0))) (.cons (.ix (.var 1) (.c (.int 1))) (.cons (.sl (.ix (.var 1) (.c (.int 2))) .no (.yes (.c (.int 1)))) .nil))))) (.cons (.ite (.or (.val (.cmp .ne (.call 162 (.cons (.var 2) .nil)) (.lst (.cons (.tup (.cons (.c (.int 0)) (.cons (.c (.int 0)) .nil))) .nil)))) (.or (.val (.cmp .ne (.call 164 (.cons (.var 2) .nil)) (.lst (.cons (.c (.int 0)) .nil)))) (.or (.val (.cmp .ne (.call 167 (.cons (.var 1) .nil)) (.lst .nil))) (.val (.cmp .ne (.call 167 (.cons (.var 2) .nil)) (.lst (.cons (.tup (.cons (.c (.int 0)) (.cons (.c (.int 0)) .nil))) .nil))))))) (.cons (.ret (.c (.bl false))) .nil) .nil) (.cons (.ite (.or (.val (.cmp .ne (.call 166 (.cons (.var 1) .nil)) (.lst (.cons (.tup (.cons (.tup (.cons (.c (.int 1)) (.cons (.c (.int 0)) .nil))) (.cons (.c (.int 0)) (.cons (.c (.str [97])) .nil)))) .nil)))) (.val (.cmp .ne (.ix (.call 166 (.cons (.var 0) .nil)) (.c (.int 0))) (.tup (.cons (.tup (.cons (.c (.int 0)) (.cons (.c (.int 0)) .nil))) (.cons (.c (.int 0)) (.cons (.c (.str [98])) .nil))))))) (.cons (.ret (.c (.bl false))) .nil) .nil) (.cons (.ite (.or (.val (.cmp .isnot (.call 168 (.cons (.var 0) (.cons (.c (.int 0)) (.cons (.c (.str [97, 97, 98])) .nil)))) (.c (.bl true)))) (.val (.cmp .isnot (.call 168 (.cons (.var 0) (.cons (.c (.int 1)) (.cons (.c (.str [99])) .nil)))) (.c (.bl false))))) (.cons (.ret (.c (.bl false))) .nil) .nil) (.cons (.par 3 4 (.tup (.cons (.tup (.cons (.tup (.cons (.c (.int 1)) (.cons (.c (.int 0)) .nil))) (.cons (.tup (.cons (.c (.str [])) .nil)) .nil))) .nil)) (.tup (.cons (.ix (.var 1) (.c (.int 0))) (.cons (.ix (.var 1) (.c (.int 1))) (.cons (.tup .nil) .nil))))) (.cons (.ite (.or (.val (.cmp .ne (.call 174 (.cons (.var 1) (.cons (.var 3) .nil))) (.c (.int 1)))) (.val (.cmp .ne (.call 174 (.cons (.var 0) (.cons (.tup (.cons (.tup (.cons (.tup (.cons (.c (.int 1)) (.cons (.c (.int 1)) .nil))) (.cons (.tup (.cons (.c (.str [97, 98])) (.cons (.c (.str [])) .nil))) .nil))) .nil)) .nil))) (.c (.int 2))))) (.cons (.ret (.c (.bl false))) .nil) .nil) (.cons (.ite (.or (.val (.cmp .isnot (.call 174 (.cons (.var 0) (.cons (.tup (.cons (.tup (.cons (.tup (.cons (.c (.int 1)) (.cons (.c (.int 0)) .nil))) (.cons (.tup (.cons (.c (.str [97])) (.cons (.c (.str [])) .nil))) .nil))) .nil)) .nil))) (.c .non))) (.val (.cmp .ne (.call 158 (.cons (.var 1) (.cons (.var 3) .nil))) (.lst (.cons (.tup (.cons (.c (.int 0)) .nil)) (.cons (.tup (.cons (.c (.int 1)) .nil)) .nil)))))) (.cons (.ret (.c (.bl false))) .nil) .nil) (.cons (.ite (.or (.val (.cmp .ne (.call 158 (.cons (.var 1) (.cons (.tup (.cons (.tup (.cons (.tup (.cons (.c (.int 0)) (.cons (.c (.int 0)) .nil))) (.cons (.tup (.cons (.c (.str [])) .nil)) .nil))) .nil)) .nil))) (.lst .nil))) (.val (.cmp .ne (.call 158 (.cons (.var 1) (.cons (.tup (.cons (.tup (.cons (.tup (.cons (.c (.int 0)) (.cons (.c (.int 0)) .nil))) (.cons (.tup (.cons (.c (.str [98])) .nil)) .nil))) .nil)) .nil))) (.lst (.cons (.tup .nil) .nil))))) (.cons (.ret (.c (.bl false))) .nil) .nil) (.cons (.ite (.val (.cmp .ne (.call 158 (.cons (.var 0) (.cons (.tup (.cons (.tup (.cons (.tup (.cons (.c (.int 1)) (.cons (.c (.int 1)) .nil))) (.cons (.tup (.cons (.c (.str [])) (.cons (.c (.str [])) .nil))) .nil))) .nil)) .nil))) (.lst (.cons (.tup (.cons (.c (.int 0)) .nil)) (.cons (.tup (.cons (.c (.int 1)) .nil)) (.cons (.tup (.cons (.c (.int 5)) .nil)) (.cons (.tup (.cons (.c (.int 6)) .nil)) .nil))))))) (.cons (.ret (.c (.bl false))) .nil) .nil) (.cons (.ite (.or (.val (.cmp .ne (.call 159 (.cons (.var 0) (.cons (.tup (.cons (.tup (.cons (.tup (.cons (.c (.int 1)) (.cons (.c (.int 1)) .nil))) (.cons (.tup (.cons (.c (.str [])) (.cons (.c (.str [])) .nil))) .nil))) .nil)) .nil))) (.tup (.cons (.c (.int 0)) .nil)))) (.val (.cmp .isnot (.call 172 (.cons (.var 1) (.cons (.var 0) .nil))) (.c (.bl true))))) (.cons (.ret (.c (.bl false))) .nil) .nil) (.cons (.ret (.and (.cmp .is (.call 172 (.cons (.var 4) (.cons (.var 1) .nil))) (.c (.bl true))) (.cmp .eq (.ix (.call 173 (.cons (.var 1) (.cons (.var 4) .nil))) (.c (.int 0))) (.tup (.cons (.c (.int 1)) (.cons (.c (.int 0)) .nil)))))) .nil))))))))))))⟩
def F__law_levels : Fun := ⟨3, 8, (.cons (.asg (.tp [3, 4, 5]) (.tup (.cons (.call 62 (.cons (.lc [6] (.var 6) (.n 6) (.e (.var 1)) (.yes (.val (.call 82 (.cons (.var 6) (.cons (.var 2) .nil)))))) .nil)) (.cons (.lst .nil) (.cons (.lst .nil) .nil))))) (.cons (.while (.val (.cmp .ne (.var 3) (.lst .nil))) (.cons (.ex (.me .append (.var 4) (.cons (.var 3) .nil))) (.cons (.asg (.n 5) (.bin .add (.lc [7] (.var 7) (.n 7) (.e (.var 5)) (.yes (.not (.val (.call 80 (.cons (.var 7) (.cons (.var 3) .nil))))))) (.var 3))) (.cons (.asg (.n 3) (.call 62 (.cons (.lc [7] (.var 7) (.n 7) (.e (.call 83 (.cons (.var 0) (.cons (.var 3) (.cons (.var 2) .nil))))) (.yes (.not (.val (.call 80 (.cons (.var 7) (.cons (.var 5) .nil))))))) .nil))) .nil)))) (.cons (.ret (.var 4)) .nil)))⟩
def F__law_steps : Fun := ⟨2, 5, (.cons (.asg (.n 2) (.lc [3, 4] (.var 3) (.tp [3, 4]) (.enum (.var 0)) (.yes (.val (.call 80 (.cons (.var 1) (.cons (.var 4) .nil))))))) (.cons (.ret (.ite (.val (.cmp .ne (.var 2) (.lst .nil))) (.ix (.var 2) (.c (.int 0))) (.c .non))) .nil))⟩
def F__law_can : Fun := ⟨2, 2, (.cons (.ret (.cmp .isnot (.call 184 (.cons (.call 183 (.cons (.var 0) (.cons (.var 1) (.cons (.c .non) .nil)))) (.cons (.call 29 (.cons (.var 0) .nil)) .nil))) (.c .non))) .nil)⟩
def F__law_run_right : Fun := ⟨4, 5, (.cons (.ite (.not (.val (.isi (.var 2) .tuple))) (.cons (.ret (.c (.bl false))) .nil) .nil) (.cons (.loop (.n 4) (.e (.var 2)) (.cons (.ite (.or (.not (.val (.isi (.var 4) .tuple))) (.not (.val (.call 90 (.cons (.var 0) (.cons (.var 1) (.cons (.var 4) .nil))))))) (.cons (.ret (.c (.bl false))) .nil) .nil) (.cons (.asg (.n 1) (.ix (.var 4) (.c (.int 1)))) .nil))) (.cons (.ret (.call 80 (.cons (.var 1) (.cons (.var 3) .nil)))) .nil)))⟩
def F__law_family : Fun := ⟨2, 7, (.cons (.asg (.n 2) (.sl (.call 19 (.cons (.var 0) (.cons (.lst (.cons (.c (.str [97, 98, 99])) (.cons (.c (.str [98, 99, 97])) (.cons (.c (.str [99, 97, 98])) (.cons (.c (.str [97, 99, 98])) .nil))))) .nil))) .no (.yes (.var 1)))) (.cons (.asg (.n 3) (.sl (.call 19 (.cons (.var 0) (.cons (.lst (.cons (.c (.str [97, 98, 99])) (.cons (.c (.str [98, 97, 99])) (.cons (.c (.str [99, 98, 97])) (.cons (.c (.str [98, 99, 97])) .nil))))) .nil))) .no (.yes (.var 1)))) (.cons (.asg (.n 4) (.lst .nil)) (.cons (.loop (.n 5) (.rng (.var 1)) (.cons (.asg (.n 6) (.bin .mod (.bin .add (.var 5) (.c (.int 1))) (.var 1))) (.cons (.asg (.n 4) (.bin .add (.var 4) (.lst (.cons (.tup (.cons (.c (.int 0)) (.cons (.var 5) (.cons (.bin .add (.c (.str [43, 48])) (.ix (.var 2) (.var 5))) (.cons (.var 5) .nil))))) (.cons (.tup (.cons (.c (.int 0)) (.cons (.var 5) (.cons (.bin .add (.c (.str [45, 49])) (.ix (.var 3) (.var 5))) (.cons (.var 6) .nil))))) .nil))))) (.cons (.asg (.n 4) (.bin .add (.var 4) (.lst (.cons (.tup (.cons (.c (.int 1)) (.cons (.var 5) (.cons (.bin .add (.c (.str [45, 48])) (.ix (.var 2) (.var 5))) (.cons (.var 6) .nil))))) (.cons (.tup (.cons (.c (.int 1)) (.cons (.var 5) (.cons (.bin .add (.c (.str [43, 49])) (.ix (.var 3) (.bin .sub (.var 5) (.c (.int 1))))) (.cons (.var 5) .nil))))) .nil))))) .nil)))) (.cons (.ret (.tup (.cons (.var 2) (.cons (.var 3) (.cons (.var 4) .nil))))) .nil)))))⟩
def F__law_stale : Fun := ⟨3, 4, (.cons (.asg (.n 3) (.lst (.cons (.tup (.cons (.tup (.cons (.c (.int 1)) (.cons (.c (.int 0)) .nil))) (.cons (.tup (.cons (.ix (.var 1) (.c (.int 0))) (.cons (.c (.str [])) .nil))) .nil))) (.cons (.tup (.cons (.tup (.cons (.c (.int 0)) (.cons (.c (.int 1)) .nil))) (.cons (.tup (.cons (.ix (.var 1) (.c (.int 1))) (.cons (.c (.str [])) .nil))) .nil))) .nil)))) (.cons (.ret (.bi .tuple (.cons (.bin .add (.var 3) (.lst (.cons (.tup (.cons (.tup (.cons (.c (.int 0)) (.cons (.c (.int 0)) .nil))) (.cons (.tup (.cons (.c (.str [])) (.cons (.ix (.var 2) (.c (.int 0))) .nil))) .nil))) (.cons (.tup (.cons (.tup (.cons (.c (.int 1)) (.cons (.c (.int 1)) .nil))) (.cons (.tup (.cons (.c (.str [])) (.cons (.ix (.var 2) (.c (.int 1))) .nil))) .nil))) .nil)))) .nil))) .nil))⟩
def F_law_k36 : Fun := ⟨1, 24, (.cons (.loop (.n 1) (.rng (.c (.int 4))) (.cons (.new 2 (.call 17 (.cons (.var 0) (.cons (.var 1) .nil)))) (.cons (.asg (.tp [8, 9, 10]) (.call 187 (.cons (.var 2) (.cons (.c (.int 2)) .nil)))) (.cons (.asg (.n 3) (.tup (.cons (.tup (.cons (.c (.int 2)) (.cons (.c (.int 2)) .nil))) (.cons (.tup (.cons (.c (.str [114, 111, 119])) (.cons (.c (.str [114, 111, 119])) .nil))) (.cons (.bi .tuple (.cons (.call 20 (.cons (.var 10) .nil)) .nil)) .nil))))) (.cons (.par 11 12 (.call 188 (.cons (.var 3) (.cons (.var 8) (.cons (.var 9) .nil)))) (.call 29 (.cons (.var 3) .nil))) (.cons (.loop (.n 4) (.e (.tup (.cons (.c (.str [114, 111, 119])) (.cons (.c (.str [101, 99, 104, 111])) .nil)))) (.cons (.loop (.n 13) (.e (.tup (.cons (.c (.str [114, 111, 119])) (.cons (.c (.str [101, 99, 104, 111])) .nil)))) (.cons (.asg (.n 20) (.call 169 (.cons (.var 3) (.cons (.tup (.cons (.var 4) (.cons (.var 13) .nil))) .nil)))) (.cons (.ite (.or (.val (.cmp .isnot (.call 148 (.cons (.var 20) (.cons (.var 11) .nil))) (.c (.bl false)))) (.val (.cmp .ne (.call 162 (.cons (.var 20) .nil)) (.call 84 (.cons (.var 3) .nil))))) (.cons (.ret (.c (.bl false))) .nil) .nil) (.cons (.ite (.or (.val (.cmp .ne (.call 167 (.cons (.var 20) .nil)) (.lst .nil))) (.or (.val (.cmp .ne (.call 164 (.cons (.var 20) .nil)) (.lst .nil))) (.val (.cmp .isnot (.call 149 (.cons (.var 20) (.cons (.var 12) (.cons (.var 11) .nil)))) (.c .non))))) (.cons (.ret (.c (.bl false))) .nil) .nil) (.cons (.asg (.n 21) (.call 146 (.cons (.var 20) (.cons (.var 11) .nil)))) (.cons (.asg (.n 22) (.lc [23] (.var 23) (.n 23) (.e (.call 83 (.cons (.var 20) (.cons (.var 21) (.cons (.c .non) .nil))))) (.yes (.not (.val (.call 80 (.cons (.var 23) (.cons (.var 21) .nil)))))))) (.cons (.ite (.or (.val (.call 80 (.cons (.var 12) (.cons (.var 21) .nil)))) (.val (.cmp .ne (.var 22) (.lst .nil)))) (.cons (.ret (.c (.bl false))) .nil) .nil) .nil))))))) .nil)) (.cons (.loop (.n 5) (.e (.lst (.cons (.tup (.cons (.c (.str [104, 101, 97, 112])) (.cons (.c (.str [114, 111, 119])) .nil))) (.cons (.tup (.cons (.c (.str [114, 111, 119])) (.cons (.c (.str [104, 101, 97, 112])) .nil))) (.cons (.tup (.cons (.c (.str [104, 101, 97, 112])) (.cons (.c (.str [104, 101, 97, 112])) .nil))) (.cons (.tup (.cons (.c (.str [101, 99, 104, 111])) (.cons (.c (.str [104, 101, 97, 112])) .nil))) (.cons (.tup (.cons (.c (.str [104, 101, 97, 112])) (.cons (.c (.str [101, 99, 104, 111])) .nil))) .nil))))))) (.cons (.asg (.n 14) (.call 169 (.cons (.var 3) (.cons (.var 5) .nil)))) (.cons (.asg (.n 15) (.call 152 (.cons (.var 14) (.cons (.var 12) (.cons (.var 11) .nil))))) (.cons (.ite (.or (.val (.cmp .isnot (.call 148 (.cons (.var 14) (.cons (.var 11) .nil))) (.c (.bl true)))) (.not (.val (.call 186 (.cons (.var 14) (.cons (.var 12) (.cons (.var 15) (.cons (.var 11) .nil)))))))) (.cons (.ret (.c (.bl false))) .nil) .nil) (.cons (.ite (.val (.cmp .ne (.bi .len (.cons (.var 15) .nil)) (.call 184 (.cons (.call 183 (.cons (.var 14) (.cons (.var 11) (.cons (.c .non) .nil)))) (.cons (.var 12) .nil))))) (.cons (.ret (.c (.bl false))) .nil) .nil) .nil))))) (.cons (.ite (.val (.cmp .ne (.call 149 (.cons (.call 169 (.cons (.var 3) (.cons (.tup (.cons (.c (.str [104, 101, 97, 112])) (.cons (.c (.str [114, 111, 119])) .nil))) .nil))) (.cons (.var 12) (.cons (.sl (.var 11) .no (.yes (.c (.int 1)))) .nil)))) (.c (.int 7)))) (.cons (.ret (.c (.bl false))) .nil) .nil) (.cons (.ite (.val (.cmp .ne (.call 159 (.cons (.var 3) (.cons (.tup (.cons (.tup (.cons (.tup (.cons (.c (.int 1)) (.cons (.c (.int 0)) .nil))) (.cons (.tup (.cons (.c (.str [])) (.cons (.c (.str [])) .nil))) .nil))) .nil)) .nil))) (.tup (.cons (.c (.int 0)) .nil)))) (.cons (.ret (.c (.bl false))) .nil) .nil) (.cons (.asg (.n 6) (.call 18 (.cons (.var 2) (.cons (.bi .len (.cons (.var 10) .nil)) .nil)))) (.cons (.asg (.tp [16, 17, 18, 19]) (.ix (.var 10) (.var 6))) (.cons (.asg (.n 7) (.bin .add (.bin .add (.sl (.var 10) .no (.yes (.var 6))) (.lst (.cons (.tup (.cons (.var 16) (.cons (.var 17) (.cons (.var 18) (.cons (.bin .sub (.c (.int 1)) (.var 19)) .nil))))) .nil))) (.sl (.var 10) (.yes (.bin .add (.var 6) (.c (.int 1)))) .no))) (.cons (.asg (.n 7) (.tup (.cons (.tup (.cons (.c (.int 2)) (.cons (.c (.int 2)) .nil))) (.cons (.tup (.cons (.c (.str [114, 111, 119])) (.cons (.c (.str [114, 111, 119])) .nil))) (.cons (.bi .tuple (.cons (.call 20 (.cons (.var 7) .nil)) .nil)) .nil))))) (.cons (.ite (.val (.cmp .ne (.call 148 (.cons (.var 7) (.cons (.var 11) .nil))) (.call 185 (.cons (.var 7) (.cons (.var 11) .nil))))) (.cons (.ret (.c (.bl false))) .nil) .nil) .nil)))))))))))))) (.cons (.ret (.c (.bl true))) .nil))⟩
def funs : List (Option Fun) := [some F_is_integer, some F_is_text, some F_is_pair, some F_are_sizes, some F_are_manners, some F_is_deed, some F_is_rule, some F_is_talk, some F_in_order, some F_fits_line, some F_is_one, some F_need_talk, some F_is_situation, some F_first_of, some F_beginning, some F__law_cell, some F__law_draws, some F__law_bag, some F__law_take, some F__law_choice, some F__law_ascending, some F__law_letters, some F__law_sizes, some F__law_manners, some F__law_rule, some F__law_talk, some F__law_fitted, some F__law_text, some F__law_place, some F__law_first, none, none, some F__law_whole, none, some F__law_good_modes, some F__law_good_rule, some F__law_good_talk, some F__law_good_place, some F__law_spoilt, some F__law_truly, none, some F_need_situation, none, some F_with_mode, some F_behind, some F_possible, some F_after, some F__law_modes, some F__law_said, none, none, none, some F_is_part_of, some F_is_below, some F_place_in, some F_ascending, some F_least_of, some F_is_part, some F_need_rows, some F_least, some F__law_part, some F__law_under, some F__law_least, some F__law_cut, some F_law_k03, some F_shortest_over, some F_texts_over, some F_common_of, some F_common, some F__law_small_texts, some F__law_short, some F__law_all_over, some F_law_k04, none, some F_source_of, some F_has_room, some F_sources_of, some F_need_aims, some F_before, some F__law_aims, some F__law_over, none, some F__law_fits_room, some F__law_sources, some F__law_pairs, some F__law_small, some F__law_one_step, some F_law_k05, some F_leads, some F_is_run, some F__law_led, some F__law_cut_k08, some F__law_walk, some F__law_judged, some F_law_k08, some F_is_above, some F_next_level, some F_levels_of, some F_least_known, some F_all_pairs, some F_with_text, none, none, none, some F_all_above, some F__law_at, none, none, some F__law_thing, none, none, none, none, some F__law_drawn, none, some F__law_short_k24, none, none, some F_steps_by, some F_steps_to, none, none, none, some F__law_way, none, some F__law_cut_line, some F__law_lost, none, none, some F__law_string, none, some F__law_rows, none, some F_deed_text, none, some F_talk_text, none, none, none, none, some F__law_written, none, none, some F__law_bent, none, some F_comes, some F_dangers, some F_is_shut, some F_can_come, none, some F_step_down, some F_run_to, some F_some_run, some F_left_out, some F_without, some F_tuples_of, some F_all_guards, some F_need_few, some F_guards, some F_fewest_guard, some F_meet, some F_pairs_of, some F_meetings, some F_is_used, some F_idle_rules, some F_rules_in, some F_unheard, some F_halts, some F_may_hold, some F_with_manners, some F_safe_manners, some F_more_pairs, some F_never_more, some F_parting, some F_least_room, none, none, none, some F__law_a, none, some F__law_second_part, none, none, some F__law_levels, some F__law_steps, some F__law_can, some F__law_run_right, some F__law_family, some F__law_stale, some F_law_k36]
def prog : Prog := ⟨fun f => funs.getD f none, fun g => ([(.str [97, 98, 99]), (.tup [(.str [101, 99, 104, 111]), (.str [104, 101, 97, 112]), (.str [114, 111, 119])]), (.int 60)] : List T)[g]?⟩
abbrev n_is_integer : Nat := 0
abbrev n_is_text : Nat := 1
abbrev n_is_pair : Nat := 2
abbrev n_are_sizes : Nat := 3
abbrev n_are_manners : Nat := 4
abbrev n_is_deed : Nat := 5
abbrev n_is_rule : Nat := 6
abbrev n_is_talk : Nat := 7
abbrev n_in_order : Nat := 8
abbrev n_fits_line : Nat := 9
abbrev n_is_one : Nat := 10
abbrev n_need_talk : Nat := 11
abbrev n_is_situation : Nat := 12
abbrev n_first_of : Nat := 13
abbrev n_beginning : Nat := 14
abbrev n__law_cell : Nat := 15
abbrev n__law_draws : Nat := 16
abbrev n__law_bag : Nat := 17
abbrev n__law_take : Nat := 18
abbrev n__law_choice : Nat := 19
abbrev n__law_ascending : Nat := 20
abbrev n__law_letters : Nat := 21
abbrev n__law_sizes : Nat := 22
abbrev n__law_manners : Nat := 23
abbrev n__law_rule : Nat := 24
abbrev n__law_talk : Nat := 25
abbrev n__law_fitted : Nat := 26
abbrev n__law_text : Nat := 27
abbrev n__law_place : Nat := 28
abbrev n__law_first : Nat := 29
abbrev n__law_named : Nat := 30
abbrev n__law_error : Nat := 31
abbrev n__law_whole : Nat := 32
abbrev n__law_good_text : Nat := 33
abbrev n__law_good_modes : Nat := 34
abbrev n__law_good_rule : Nat := 35
abbrev n__law_good_talk : Nat := 36
abbrev n__law_good_place : Nat := 37
abbrev n__law_spoilt : Nat := 38
abbrev n__law_truly : Nat := 39
abbrev n_law_k01 : Nat := 40
abbrev n_need_situation : Nat := 41
abbrev n_text_after : Nat := 42
abbrev n_with_mode : Nat := 43
abbrev n_behind : Nat := 44
abbrev n_possible : Nat := 45
abbrev n_after : Nat := 46
abbrev n__law_modes : Nat := 47
abbrev n__law_said : Nat := 48
abbrev n__law_heard : Nat := 49
abbrev n__law_after : Nat := 50
abbrev n_law_k02 : Nat := 51
abbrev n_is_part_of : Nat := 52
abbrev n_is_below : Nat := 53
abbrev n_place_in : Nat := 54
abbrev n_ascending : Nat := 55
abbrev n_least_of : Nat := 56
abbrev n_is_part : Nat := 57
abbrev n_need_rows : Nat := 58
abbrev n_least : Nat := 59
abbrev n__law_part : Nat := 60
abbrev n__law_under : Nat := 61
abbrev n__law_least : Nat := 62
abbrev n__law_cut : Nat := 63
abbrev n_law_k03 : Nat := 64
abbrev n_shortest_over : Nat := 65
abbrev n_texts_over : Nat := 66
abbrev n_common_of : Nat := 67
abbrev n_common : Nat := 68
abbrev n__law_small_texts : Nat := 69
abbrev n__law_short : Nat := 70
abbrev n__law_all_over : Nat := 71
abbrev n_law_k04 : Nat := 72
abbrev n_text_before : Nat := 73
abbrev n_source_of : Nat := 74
abbrev n_has_room : Nat := 75
abbrev n_sources_of : Nat := 76
abbrev n_need_aims : Nat := 77
abbrev n_before : Nat := 78
abbrev n__law_aims : Nat := 79
abbrev n__law_over : Nat := 80
abbrev n__law_source : Nat := 81
abbrev n__law_fits_room : Nat := 82
abbrev n__law_sources : Nat := 83
abbrev n__law_pairs : Nat := 84
abbrev n__law_small : Nat := 85
abbrev n__law_one_step : Nat := 86
abbrev n_law_k05 : Nat := 87
abbrev n_leads : Nat := 88
abbrev n_is_run : Nat := 89
abbrev n__law_led : Nat := 90
abbrev n__law_cut_k08 : Nat := 91
abbrev n__law_walk : Nat := 92
abbrev n__law_judged : Nat := 93
abbrev n_law_k08 : Nat := 94
abbrev n_is_above : Nat := 95
abbrev n_next_level : Nat := 96
abbrev n_levels_of : Nat := 97
abbrev n_least_known : Nat := 98
abbrev n_all_pairs : Nat := 99
abbrev n_with_text : Nat := 100
abbrev n_rows_like : Nat := 101
abbrev n_rows_of_both : Nat := 102
abbrev n_rows_before : Nat := 103
abbrev n_all_above : Nat := 104
abbrev n__law_at : Nat := 105
abbrev n__law_set : Nat := 106
abbrev n__law_near : Nat := 107
abbrev n__law_thing : Nat := 108
abbrev n__law_right : Nat := 109
abbrev n_law_k21 : Nat := 110
abbrev n__law_ordered : Nat := 111
abbrev n__law_others_refused : Nat := 112
abbrev n__law_drawn : Nat := 113
abbrev n_law_k22 : Nat := 114
abbrev n__law_short_k24 : Nat := 115
abbrev n__law_tried : Nat := 116
abbrev n_law_k24 : Nat := 117
abbrev n_steps_by : Nat := 118
abbrev n_steps_to : Nat := 119
abbrev n_told_rule : Nat := 120
abbrev n__law_play : Nat := 121
abbrev n__law_told : Nat := 122
abbrev n__law_way : Nat := 123
abbrev n__law_put : Nat := 124
abbrev n__law_cut_line : Nat := 125
abbrev n__law_lost : Nat := 126
abbrev n__law_seen : Nat := 127
abbrev n_law_k25 : Nat := 128
abbrev n__law_string : Nat := 129
abbrev n__law_both : Nat := 130
abbrev n__law_rows : Nat := 131
abbrev n_law_k27 : Nat := 132
abbrev n_deed_text : Nat := 133
abbrev n_written : Nat := 134
abbrev n_talk_text : Nat := 135
abbrev n_figure : Nat := 136
abbrev n_rule_of : Nat := 137
abbrev n_read_talk : Nat := 138
abbrev n_table : Nat := 139
abbrev n__law_written : Nat := 140
abbrev n__law_small_number : Nat := 141
abbrev n__law_read : Nat := 142
abbrev n__law_bent : Nat := 143
abbrev n_law_k28 : Nat := 144
abbrev n_comes : Nat := 145
abbrev n_dangers : Nat := 146
abbrev n_is_shut : Nat := 147
abbrev n_can_come : Nat := 148
abbrev n_fewest_steps : Nat := 149
abbrev n_step_down : Nat := 150
abbrev n_run_to : Nat := 151
abbrev n_some_run : Nat := 152
abbrev n_left_out : Nat := 153
abbrev n_without : Nat := 154
abbrev n_tuples_of : Nat := 155
abbrev n_all_guards : Nat := 156
abbrev n_need_few : Nat := 157
abbrev n_guards : Nat := 158
abbrev n_fewest_guard : Nat := 159
abbrev n_meet : Nat := 160
abbrev n_pairs_of : Nat := 161
abbrev n_meetings : Nat := 162
abbrev n_is_used : Nat := 163
abbrev n_idle_rules : Nat := 164
abbrev n_rules_in : Nat := 165
abbrev n_unheard : Nat := 166
abbrev n_halts : Nat := 167
abbrev n_may_hold : Nat := 168
abbrev n_with_manners : Nat := 169
abbrev n_safe_manners : Nat := 170
abbrev n_more_pairs : Nat := 171
abbrev n_never_more : Nat := 172
abbrev n_parting : Nat := 173
abbrev n_least_room : Nat := 174
abbrev n__law_one : Nat := 175
abbrev n__law_rest : Nat := 176
abbrev n_law_k29 : Nat := 177
abbrev n__law_a : Nat := 178
abbrev n__law_first_part : Nat := 179
abbrev n__law_second_part : Nat := 180
abbrev n__law_third_part : Nat := 181
abbrev n_law_k30 : Nat := 182
abbrev n__law_levels : Nat := 183
abbrev n__law_steps : Nat := 184
abbrev n__law_can : Nat := 185
abbrev n__law_run_right : Nat := 186
abbrev n__law_family : Nat := 187
abbrev n__law_stale : Nat := 188
abbrev n_law_k36 : Nat := 189
end LLP

set_option Elab.async false
set_option linter.all false
set_option autoImplicit false
set_option maxRecDepth 100000
set_option maxHeartbeats 4000000
namespace LLQ
open LL LLS

/-! ### order -/
mutual
theorem lt_irr : ∀ a : T, T.lt a a = false
  | .int i => by simp [T.lt]
  | .str s => by simp [T.lt, csLt_iff, List.lt_irrefl]
  | .tup xs => by simp [T.lt, lts_irr xs]
  | .non => by simp [T.lt]
  | .bl _ => by simp [T.lt]
  | .lst _ => by simp [T.lt]
  | .obj _ => by simp [T.lt]
  | .fn _ => by simp [T.lt]
  | .scr _ => by simp [T.lt]
theorem lts_irr : ∀ xs : List T, T.lts xs xs = false
  | [] => by simp [T.lts]
  | x :: r => by simp [T.lts, (beq_iff x x).2 rfl, lts_irr r]
end
mutual
theorem lt_tr : ∀ a b c : T, T.lt a b = true → T.lt b c = true → T.lt a c = true
  | .int i, b, c, h, k => by
    cases b <;> simp [T.lt] at h
    cases c <;> simp [T.lt] at k
    simp [T.lt]; omega
  | .str s, b, c, h, k => by
    cases b <;> simp [T.lt, csLt_iff] at h
    cases c <;> simp [T.lt, csLt_iff] at k
    simp [T.lt, csLt_iff]; exact List.lt_trans h k
  | .tup xs, b, c, h, k => by
    cases b <;> simp [T.lt] at h
    cases c <;> simp [T.lt] at k
    simp [T.lt]; exact lts_tr _ _ _ h k
  | .non, b, c, h, k => by simp [T.lt] at h
  | .bl _, b, c, h, k => by simp [T.lt] at h
  | .lst _, b, c, h, k => by simp [T.lt] at h
  | .obj _, b, c, h, k => by simp [T.lt] at h
  | .fn _, b, c, h, k => by simp [T.lt] at h
  | .scr _, b, c, h, k => by simp [T.lt] at h
theorem lts_tr : ∀ xs ys zs : List T, T.lts xs ys = true → T.lts ys zs = true → T.lts xs zs = true
  | [], ys, zs, h, k => by
    cases ys <;> simp [T.lts] at h
    cases zs <;> simp [T.lts] at k ⊢
  | x :: xs, ys, zs, h, k => by
    cases ys with
    | nil => simp [T.lts] at h
    | cons y ys =>
      cases zs with
      | nil => simp [T.lts] at k
      | cons z zs =>
        simp only [T.lts] at h k ⊢
        by_cases e1 : T.beq x y = true
        · have e := (beq_iff x y).1 e1
          subst e
          rw [if_pos e1] at h
          by_cases e2 : T.beq x z = true
          · rw [if_pos e2] at k ⊢
            exact lts_tr xs ys zs h k
          · rw [if_neg e2] at k ⊢
            exact k
        · rw [if_neg e1] at h
          by_cases e2 : T.beq y z = true
          · have e := (beq_iff y z).1 e2
            subst e
            rw [if_neg e1]; exact h
          · rw [if_neg e2] at k
            have r := lt_tr x y z h k
            by_cases e3 : T.beq x z = true
            · have e := (beq_iff x z).1 e3
              subst e
              rw [lt_irr] at r; simp at r
            · rw [if_neg e3]; exact r
end
mutual
theorem lt_tot : ∀ a b : T, T.alike a b = true → T.lt a b = true ∨ a = b ∨ T.lt b a = true
  | .int i, b, h => by
    cases b <;> simp [T.alike] at h
    simp [T.lt]; omega
  | .str s, b, h => by
    cases b <;> simp [T.alike] at h
    rename_i t
    simp [T.lt, csLt_iff]
    by_cases h1 : s < t
    · exact .inl h1
    · by_cases h2 : t < s
      · exact .inr (.inr h2)
      · exact .inr (.inl (List.le_antisymm (List.not_lt.1 h2) (List.not_lt.1 h1)))
  | .tup xs, b, h => by
    cases b <;> simp [T.alike] at h
    simp [T.lt]; exact lts_tot _ _ h
  | .non, b, h => by simp [T.alike] at h
  | .bl _, b, h => by simp [T.alike] at h
  | .lst _, b, h => by simp [T.alike] at h
  | .obj _, b, h => by simp [T.alike] at h
  | .fn _, b, h => by simp [T.alike] at h
  | .scr _, b, h => by simp [T.alike] at h
theorem lts_tot : ∀ xs ys : List T, T.alikes xs ys = true → T.lts xs ys = true ∨ xs = ys ∨ T.lts ys xs = true
  | [], ys, h => by cases ys <;> simp [T.lts]
  | x :: xs, ys, h => by
    cases ys with
    | nil => simp [T.lts]
    | cons y ys =>
      simp [T.alikes] at h
      simp only [T.lts]
      by_cases e1 : T.beq x y = true
      · have e := (beq_iff x y).1 e1
        subst e
        simp only [e1, if_true]
        rcases lts_tot xs ys h.2 with h | h | h
        · exact .inl h
        · exact .inr (.inl (by rw [h]))
        · exact .inr (.inr h)
      · have e2 : ¬ T.beq y x = true := fun k => e1 ((beq_iff _ _).2 ((beq_iff _ _).1 k).symm)
        simp only [if_neg e1, if_neg e2]
        rcases lt_tot x y h.1 with h | h | h
        · exact .inl h
        · exact absurd ((beq_iff _ _).2 h) e1
        · exact .inr (.inr h)
end
theorem lt_asym {a b : T} (h : T.lt a b = true) : T.lt b a = false := by
  cases k : T.lt b a with
  | false => rfl
  | true => have := lt_tr _ _ _ h k; rw [lt_irr] at this; simp at this

/-! ### ascending -/
def cnt (xs : List T) (x : T) : Nat := (xs.filter (T.lt · x)).length
def insAt (xs : List T) (x : T) : List T := xs.take (cnt xs x) ++ [x] ++ xs.drop (cnt xs x)
def stp (xs : List T) (x : T) : List T := if inSeq x xs then xs else insAt xs x
def ascF (rows : List T) : List T := rows.foldl stp []
def Srt (xs : List T) : Prop := xs.Pairwise fun a b => T.lt a b = true
theorem inSeq_iff (x : T) (xs : List T) : inSeq x xs = true ↔ x ∈ xs := by
  rw [inSeq_any, List.any_eq_true]
  constructor
  · rintro ⟨y, h, k⟩; rw [← (beq_iff _ _).1 k]; exact h
  · intro h; exact ⟨x, h, (beq_iff _ _).2 rfl⟩
theorem srt_split {x : T} : ∀ {xs : List T}, Srt xs → xs.take (cnt xs x) = xs.filter (T.lt · x) ∧ xs.drop (cnt xs x) = xs.filter (fun y => !T.lt y x)
  | [], _ => ⟨rfl, rfl⟩
  | y :: r, h => by
    have ih := srt_split (x := x) (List.pairwise_cons.1 h).2
    unfold cnt at *
    cases e : T.lt y x with
    | true => simp [List.filter_cons, e, ih.1, ih.2]
    | false =>
      have z : ∀ z ∈ r, T.lt z x = false := by
        intro z hz
        cases k : T.lt z x with
        | false => rfl
        | true => rw [lt_tr _ _ _ ((List.pairwise_cons.1 h).1 z hz) k] at e; simp at e
      have n1 : r.filter (T.lt · x) = [] := List.filter_eq_nil_iff.2 fun z hz => by simp [*]
      have n2 : r.filter (fun y => !T.lt y x) = r := List.filter_eq_self.2 fun z hz => by simp [*]
      simp [List.filter_cons, e, n1, n2]
theorem cnt_le (xs : List T) (x : T) : cnt xs x ≤ xs.length := List.length_filter_le _ _
theorem srt_at {x : T} {xs : List T} (h : Srt xs) {i : Nat} {y : T} (e : xs[i]? = some y) : T.lt y x = decide (i < cnt xs x) := by
  have s := srt_split (x := x) h
  by_cases k : i < cnt xs x
  · have : (xs.take (cnt xs x))[i]? = some y := by rw [List.getElem?_take]; simp [k, e]
    rw [s.1] at this
    have m := List.mem_of_getElem? this
    rw [List.mem_filter] at m
    simp [k, m.2]
  · have : (xs.drop (cnt xs x))[i - cnt xs x]? = some y := by rw [List.getElem?_drop]; rw [show cnt xs x + (i - cnt xs x) = i by omega]; exact e
    rw [s.2] at this
    have m := List.mem_of_getElem? this
    rw [List.mem_filter] at m
    simp [k] at m ⊢
    exact m.2
theorem slice_iff {x : T} {xs : List T} (h : Srt xs) (ht : ∀ y ∈ xs, T.alike y x = true) : ((xs.drop (cnt xs x)).take 1 = [x]) ↔ x ∈ xs := by
  have s := srt_split (x := x) h
  constructor
  · intro e
    have : x ∈ (xs.drop (cnt xs x)).take 1 := by rw [e]; simp
    exact List.mem_of_mem_drop (List.mem_of_mem_take this)
  · intro m
    have m2 : x ∈ xs.drop (cnt xs x) := by rw [s.2, List.mem_filter]; exact ⟨m, by simp [lt_irr]⟩
    have hs : Srt (xs.drop (cnt xs x)) := List.Pairwise.sublist (List.drop_sublist _ _) h
    have ha : ∀ y ∈ xs.drop (cnt xs x), T.lt y x = false := by
      intro y hy; rw [s.2, List.mem_filter] at hy; simpa using hy.2
    generalize xs.drop (cnt xs x) = l at *
    cases l with
    | nil => simp at m2
    | cons y r =>
      rcases List.mem_cons.1 m2 with e | e
      · simp [e]
      · have := (List.pairwise_cons.1 hs).1 x e
        rw [ha y (by simp)] at this
        simp at this
theorem stp_mem {xs : List T} {x y : T} : y ∈ stp xs x ↔ y ∈ xs ∨ y = x := by
  unfold stp
  split
  · rename_i h
    rw [inSeq_iff] at h
    constructor
    · exact .inl
    · rintro (h | rfl) <;> assumption
  · unfold insAt
    rw [List.append_assoc, List.mem_append, List.mem_append]
    conv => rhs; rw [← List.take_append_drop (cnt xs x) xs, List.mem_append]
    simp only [List.mem_singleton]
    constructor
    · rintro (h | h | h)
      · exact .inl (.inl h)
      · exact .inr h
      · exact .inl (.inr h)
    · rintro ((h | h) | h)
      · exact .inl h
      · exact .inr (.inr h)
      · exact .inr (.inl h)
theorem stp_srt {xs : List T} {x : T} (h : Srt xs) (ht : ∀ y ∈ xs, T.alike y x = true) : Srt (stp xs x) := by
  unfold stp
  split
  · exact h
  · rename_i hn
    rw [inSeq_iff] at hn
    unfold insAt
    have s := srt_split (x := x) h
    rw [s.1, s.2]
    have hd : ∀ y ∈ xs.filter (fun y => !T.lt y x), T.lt x y = true := by
      intro y hy
      rw [List.mem_filter] at hy
      have e : T.lt y x = false := by simpa using hy.2
      rcases lt_tot y x (ht y hy.1) with k | k | k
      · rw [k] at e; simp at e
      · exact absurd (k ▸ hy.1) hn
      · exact k
    have hl : ∀ y ∈ xs.filter (T.lt · x), T.lt y x = true := fun y hy => (List.mem_filter.1 hy).2
    unfold Srt
    rw [List.append_assoc, List.pairwise_append]
    refine ⟨List.Pairwise.filter _ h, ?_, ?_⟩
    · rw [List.singleton_append, List.pairwise_cons]
      exact ⟨hd, List.Pairwise.filter _ h⟩
    · intro a ha b hb
      rw [List.singleton_append, List.mem_cons] at hb
      rcases hb with rfl | hb
      · exact hl a ha
      · exact lt_tr _ _ _ (hl a ha) (hd b hb)
theorem srt_uniq : ∀ {xs ys : List T}, Srt xs → Srt ys → (∀ z, z ∈ xs ↔ z ∈ ys) → xs = ys
  | [], [], _, _, _ => rfl
  | [], y :: ys, _, _, h => by have := (h y).2 (by simp); simp at this
  | x :: xs, [], _, _, h => by have := (h x).1 (by simp); simp at this
  | x :: xs, y :: ys, hx, hy, h => by
    have px := List.pairwise_cons.1 hx
    have py := List.pairwise_cons.1 hy
    have e : x = y := by
      rcases List.mem_cons.1 ((h x).1 (by simp)) with e | e
      · exact e
      · rcases List.mem_cons.1 ((h y).2 (by simp)) with k | k
        · exact k.symm
        · have a := py.1 x e
          have b := px.1 y k
          rw [lt_asym a] at b; simp at b
    subst e
    congr 1
    refine srt_uniq px.2 py.2 fun z => ?_
    constructor
    · intro m
      rcases List.mem_cons.1 ((h z).1 (List.mem_cons_of_mem _ m)) with e | e
      · subst e; have := px.1 z m; rw [lt_irr] at this; simp at this
      · exact e
    · intro m
      rcases List.mem_cons.1 ((h z).2 (List.mem_cons_of_mem _ m)) with e | e
      · subst e; have := py.1 z m; rw [lt_irr] at this; simp at this
      · exact e
theorem foldl_stp {P : T → Prop} (hP : ∀ a b, P a → P b → T.alike a b = true) : ∀ (rows acc : List T), (∀ x ∈ rows, P x) → (∀ x ∈ acc, P x) → Srt acc → Srt (rows.foldl stp acc) ∧ ∀ z, z ∈ rows.foldl stp acc ↔ z ∈ acc ∨ z ∈ rows
  | [], acc, _, _, h => ⟨h, by simp⟩
  | x :: r, acc, h1, h2, h => by
    have hs := stp_srt (x := x) h fun y hy => hP _ _ (h2 y hy) (h1 x (by simp))
    have hm : ∀ z ∈ stp acc x, P z := fun z hz => by
      rcases stp_mem.1 hz with k | rfl
      · exact h2 z k
      · exact h1 z (by simp)
    have ih := foldl_stp hP r (stp acc x) (fun z hz => h1 z (List.mem_cons_of_mem _ hz)) hm hs
    refine ⟨ih.1, fun z => ?_⟩
    rw [List.foldl_cons, ih.2 z, stp_mem, List.mem_cons, or_assoc]
theorem ascF_srt {P : T → Prop} (hP : ∀ a b, P a → P b → T.alike a b = true) {rows : List T} (h : ∀ x ∈ rows, P x) : Srt (ascF rows) := (foldl_stp hP rows [] h (by simp) List.Pairwise.nil).1
theorem ascF_mem {P : T → Prop} (hP : ∀ a b, P a → P b → T.alike a b = true) {rows : List T} (h : ∀ x ∈ rows, P x) (z : T) : z ∈ ascF rows ↔ z ∈ rows := by
  have := (foldl_stp hP rows [] h (by simp) List.Pairwise.nil).2 z
  simpa [ascF] using this
theorem ascF_rev {P : T → Prop} (hP : ∀ a b, P a → P b → T.alike a b = true) {rows : List T} (h : ∀ x ∈ rows, P x) : ascF rows.reverse = ascF rows := by
  have h2 : ∀ x ∈ rows.reverse, P x := fun x hx => h x (List.mem_reverse.1 hx)
  refine srt_uniq (ascF_srt hP h2) (ascF_srt hP h) fun z => ?_
  rw [ascF_mem hP h2, ascF_mem hP h, List.mem_reverse]
theorem ascF_self {P : T → Prop} (hP : ∀ a b, P a → P b → T.alike a b = true) {rows : List T} (h : ∀ x ∈ rows, P x) (hs : Srt rows) : ascF rows = rows :=
  srt_uniq (ascF_srt hP h) hs (ascF_mem hP h)
theorem stp_len (xs : List T) (x : T) : (stp xs x).length ≤ xs.length + 1 := by
  unfold stp
  split
  · omega
  · unfold insAt
    simp only [List.length_append, List.length_take, List.length_drop, List.length_singleton]
    have := cnt_le xs x
    omega
theorem foldl_len : ∀ (rows acc : List T), (rows.foldl stp acc).length ≤ acc.length + rows.length
  | [], acc => by simp
  | x :: r, acc => by
    have := foldl_len r (stp acc x)
    have := stp_len acc x
    simp only [List.foldl_cons, List.length_cons]
    omega
theorem ascF_len (rows : List T) : (ascF rows).length ≤ rows.length := by
  have := foldl_len rows []
  simpa [ascF] using this
/-- the least ones -/
def leastF (bel : T → T → Bool) (rows : List T) : List T := (ascF rows).filter fun r => !(ascF rows).any fun o => (!T.beq o r) && bel o r
theorem leastF_rev {P : T → Prop} (hP : ∀ a b, P a → P b → T.alike a b = true) {rows : List T} (h : ∀ x ∈ rows, P x) (bel : T → T → Bool) : leastF bel rows.reverse = leastF bel rows := by
  unfold leastF; rw [ascF_rev hP h]
theorem leastF_mem {P : T → Prop} (hP : ∀ a b, P a → P b → T.alike a b = true) {rows : List T} (h : ∀ x ∈ rows, P x) (bel : T → T → Bool) {z : T} (hz : z ∈ leastF bel rows) : z ∈ rows := (ascF_mem hP h z).1 (List.mem_filter.1 hz).1
theorem leastF_self {P : T → Prop} (hP : ∀ a b, P a → P b → T.alike a b = true) {rows : List T} (h : ∀ x ∈ rows, P x) (bel : T → T → Bool) : leastF bel (leastF bel rows) = leastF bel rows := by
  have h2 : ∀ x ∈ leastF bel rows, P x := fun x hx => h x (leastF_mem hP h bel hx)
  have hs : Srt (leastF bel rows) := List.Pairwise.filter _ (ascF_srt hP h)
  have e := ascF_self hP h2 hs
  show (ascF (leastF bel rows)).filter (fun r => !(ascF (leastF bel rows)).any fun o => (!T.beq o r) && bel o r) = _
  rw [e]
  refine List.filter_eq_self.2 fun r hr => ?_
  have hr2 := (List.mem_filter.1 hr).2
  simp only [Bool.not_eq_true', List.any_eq_false] at hr2 ⊢
  intro o ho
  exact hr2 o (List.mem_filter.1 ho).1

/-! ### loops -/
theorem for_inv {ws : List (Nat × List T)} {step : T → Env → M (Fl × Env)} (I : List T → Env → Sto → Prop) : ∀ (rest done : List T),
    (∀ d σ s, I d σ s → watchOk s ws = true) →
    (∀ d x r σ s, done ++ rest = d ++ x :: r → I d σ s → ∃ σ' s', step x σ s = .ok (.next, σ') s' ∧ I (d ++ [x]) σ' s') →
    ∀ σ s, I done σ s → ∃ σ' s', forLoop ws step rest σ s = .ok (.next, σ') s' ∧ I (done ++ rest) σ' s'
  | [], done, hw, hs, σ, s, h => ⟨σ, s, by simp [forLoop, Bind.bind, M.bind, M.watch, hw _ _ _ h, M.pure], by simpa using h⟩
  | x :: r, done, hw, hs, σ, s, h => by
    obtain ⟨σ1, s1, e1, h1⟩ := hs done x r σ s rfl h
    obtain ⟨σ2, s2, e2, h2⟩ := for_inv I r (done ++ [x]) hw (fun d y r' σ s he => hs d y r' σ s (by rw [← he]; simp)) σ1 s1 h1
    refine ⟨σ2, s2, ?_, by simpa using h2⟩
    simp [forLoop, Bind.bind, M.bind, M.watch, hw _ _ _ h, e1, e2]
theorem lc_inv {ws : List (Nat × List T)} {step : T → List T → M (List T)} (I : List T → List T → Sto → Prop) : ∀ (rest done : List T),
    (∀ d a s, I d a s → watchOk s ws = true) →
    (∀ d x r a s, done ++ rest = d ++ x :: r → I d a s → ∃ a' s', step x a s = .ok a' s' ∧ I (d ++ [x]) a' s') →
    ∀ a s, I done a s → ∃ a' s', lcLoop ws step rest a s = .ok a' s' ∧ I (done ++ rest) a' s'
  | [], done, hw, hs, a, s, h => ⟨a, s, by simp [lcLoop, Bind.bind, M.bind, M.watch, hw _ _ _ h, M.pure], by simpa using h⟩
  | x :: r, done, hw, hs, a, s, h => by
    obtain ⟨a1, s1, e1, h1⟩ := hs done x r a s rfl h
    obtain ⟨a2, s2, e2, h2⟩ := lc_inv I r (done ++ [x]) hw (fun d y r' a s he => hs d y r' a s (by rw [← he]; simp)) a1 s1 h1
    refine ⟨a2, s2, ?_, by simpa using h2⟩
    simp [lcLoop, Bind.bind, M.bind, M.watch, hw _ _ _ h, e1, e2]
/-- a comprehension that leaves the store: what it makes -/
theorem lc_map {ws : List (Nat × List T)} {step : T → List T → M (List T)} (f : T → T) (s : Sto) (hw : watchOk s ws = true) (xs : List T) (hl : xs.length ≤ 16777216)
    (hs : ∀ x ∈ xs, ∀ a : List T, a.length < 16777216 → step x a s = .ok (a ++ [f x]) s) : lcLoop ws step xs [] s = .ok (xs.map f) s := by
  obtain ⟨a', s', e, h⟩ := lc_inv (ws := ws) (step := step) (fun d a t => a = d.map f ∧ t = s) xs [] (fun d a t h => h.2 ▸ hw) (fun d x r a t he h => by
    obtain ⟨rfl, rfl⟩ := h
    have hx : x ∈ xs := by simp at he; rw [he]; simp
    have hl2 : (d.map f).length < 16777216 := by simp at he; have := congrArg List.length he; simp at this ⊢; omega
    exact ⟨_, _, hs x hx _ hl2, by simp, rfl⟩) [] s ⟨rfl, rfl⟩
  obtain ⟨rfl, rfl⟩ := h
  simpa using e
theorem lc_filt {ws : List (Nat × List T)} {step : T → List T → M (List T)} (p : T → Bool) (f : T → T) (s : Sto) (hw : watchOk s ws = true) (xs : List T) (hl : xs.length ≤ 16777216)
    (hs : ∀ x ∈ xs, ∀ a : List T, a.length < 16777216 → step x a s = .ok (if p x then a ++ [f x] else a) s) : lcLoop ws step xs [] s = .ok ((xs.filter p).map f) s := by
  obtain ⟨a', s', e, h⟩ := lc_inv (ws := ws) (step := step) (fun d a t => a = (d.filter p).map f ∧ t = s) xs [] (fun d a t h => h.2 ▸ hw) (fun d x r a t he h => by
    obtain ⟨rfl, rfl⟩ := h
    have hx : x ∈ xs := by simp at he; rw [he]; simp
    have hl2 : ((d.filter p).map f).length < 16777216 := by
      simp at he; have := congrArg List.length he; have := List.length_filter_le p d; simp at *; omega
    refine ⟨_, _, hs x hx _ hl2, ?_, rfl⟩
    rw [List.filter_append]
    by_cases hp : p x = true
    · simp [hp]
    · simp [hp]) [] s ⟨rfl, rfl⟩
  obtain ⟨rfl, rfl⟩ := h
  simpa using e
end LLQ

set_option Elab.async false
set_option linter.all false
set_option autoImplicit false
set_option maxRecDepth 100000
set_option maxHeartbeats 400000
namespace LLQ
open LL LLS LLP
theorem run_fn {k f : Nat} {ws : List W} {s : Sto} {m : Fun} (h : prog.fn f = some m) : run prog (k + 1) f ws s = if ws.length = m.np then leave s.L.length (evSs ⟨run prog k, prog.glo⟩ m.body (start m ws) s) else .bad := by
  simp only [run, h]
theorem glo0 : prog.glo 0 = some (.str [97, 98, 99]) := rfl
theorem glo1 : prog.glo 1 = some (.tup [.str [101, 99, 104, 111], .str [104, 101, 97, 112], .str [114, 111, 119]]) := rfl
theorem glo2 : prog.glo 2 = some (.int 60) := rfl
theorem mb {α β : Type} (m : M α) (f : α → M β) (s : Sto) : (m >>= f) s = match m s with | .ok a s' => f a s' | .exc c s' => .exc c s' | .bad => .bad := by
  cases h : m s <;> simp [Bind.bind, M.bind, h]
theorem pu {α : Type} (a : α) (s : Sto) : M.pure a s = .ok a s := rfl
theorem gd (b : Bool) (s : Sto) : M.guard b s = if b = true then .ok () s else .bad := by cases b <;> rfl
theorem opt_some {α : Type} (a : α) (s : Sto) : M.opt (some a) s = .ok a s := rfl
theorem bad_app {α : Type} (s : Sto) : (M.bad : M α) s = .bad := rfl
theorem rv_val (t : T) (s : Sto) : Rv.val t s = .ok (.v t) s := rfl
theorem ite_a {α : Type} (c : Prop) [Decidable c] (f g : M α) (s : Sto) : (if c then f else g) s = if c then f s else g s := by split <;> rfl
theorem nox_app {α : Type} (m : M α) (s : Sto) : M.nox m s = match m s with | .exc _ _ => .bad | r => r := by
  cases h : m s <;> simp [M.nox, h]
theorem src1 (s : Cs) : srcOf (.v (.str s)) = M.pure ⟨s.map fun c => .str [c], []⟩ := rfl
theorem src2 (s : List T) : srcOf (.v (.lst s)) = M.pure ⟨s, []⟩ := rfl
theorem src3 (s : List T) : srcOf (.v (.tup s)) = M.pure ⟨s, []⟩ := rfl
theorem src4 (s : List T) : srcOf (.new s) = M.pure ⟨s, []⟩ := rfl
theorem src5 (n : Nat) (s : Sto) : srcOf (.l n) s = match s.L[n]? with | some xs => .ok ⟨xs, [(n, xs)]⟩ s | none => .bad := by
  show (M.opt (s.L[n]?) >>= fun xs => (M.pure (Src.mk xs [(n, xs)]) : M Src)) s = _
  cases s.L[n]? <;> rfl
def rngG (j : Int) : M Src := do
  M.guard (decide (j.natAbs < 2 ^ 62))
  M.pure ⟨rngItems 0 j.toNat, []⟩
theorem evIt_rng (C : Ctx) (σ : Env) (a : E) : evIt C (.rng a) σ = (do let x ← evE C a σ; let j ← x.isI; rngG j) := by simp only [evIt]; rfl
theorem nr2 {p : Prop} (h : p) : p := h
theorem z_evE_1 : type_of% @evE.eq_1 := nr2 @evE.eq_1
theorem z_evE_2 : type_of% @evE.eq_2 := nr2 @evE.eq_2
theorem z_evE_3 : type_of% @evE.eq_3 := nr2 @evE.eq_3
theorem z_evE_4 : type_of% @evE.eq_4 := nr2 @evE.eq_4
theorem z_evE_5 : type_of% @evE.eq_5 := nr2 @evE.eq_5
theorem z_evE_6 : type_of% @evE.eq_6 := nr2 @evE.eq_6
theorem z_evE_7 : type_of% @evE.eq_7 := nr2 @evE.eq_7
theorem z_evE_8 : type_of% @evE.eq_8 := nr2 @evE.eq_8
theorem z_evE_9 : type_of% @evE.eq_9 := nr2 @evE.eq_9
theorem z_evE_10 : type_of% @evE.eq_10 := nr2 @evE.eq_10
theorem z_evE_11 : type_of% @evE.eq_11 := nr2 @evE.eq_11
theorem z_evE_12 : type_of% @evE.eq_12 := nr2 @evE.eq_12
theorem z_evE_13 : type_of% @evE.eq_13 := nr2 @evE.eq_13
theorem z_evE_14 : type_of% @evE.eq_14 := nr2 @evE.eq_14
theorem z_evE_15 : type_of% @evE.eq_15 := nr2 @evE.eq_15
theorem z_evE_16 : type_of% @evE.eq_16 := nr2 @evE.eq_16
theorem z_evE_17 : type_of% @evE.eq_17 := nr2 @evE.eq_17
theorem z_evE_18 : type_of% @evE.eq_18 := nr2 @evE.eq_18
theorem z_evE_19 : type_of% @evE.eq_19 := nr2 @evE.eq_19
theorem z_evE_20 : type_of% @evE.eq_20 := nr2 @evE.eq_20
theorem z_evE_21 : type_of% @evE.eq_21 := nr2 @evE.eq_21
theorem z_evE_22 : type_of% @evE.eq_22 := nr2 @evE.eq_22
theorem z_evE_23 : type_of% @evE.eq_23 := nr2 @evE.eq_23
theorem z_evE_24 : type_of% @evE.eq_24 := nr2 @evE.eq_24
theorem z_evRs_1 : type_of% @evRs.eq_1 := nr2 @evRs.eq_1
theorem z_evRs_2 : type_of% @evRs.eq_2 := nr2 @evRs.eq_2
theorem z_evO_1 : type_of% @evO.eq_1 := nr2 @evO.eq_1
theorem z_evO_2 : type_of% @evO.eq_2 := nr2 @evO.eq_2
theorem z_evT_1 : type_of% @evT.eq_1 := nr2 @evT.eq_1
theorem z_evT_2 : type_of% @evT.eq_2 := nr2 @evT.eq_2
theorem z_evT_3 : type_of% @evT.eq_3 := nr2 @evT.eq_3
theorem z_evT_4 : type_of% @evT.eq_4 := nr2 @evT.eq_4
theorem z_evC_1 : type_of% @evC.eq_1 := nr2 @evC.eq_1
theorem z_evC_2 : type_of% @evC.eq_2 := nr2 @evC.eq_2
theorem z_evIt_1 : type_of% @evIt.eq_1 := nr2 @evIt.eq_1
theorem z_evIt_2 : type_of% @evIt.eq_2 := nr2 @evIt.eq_2
theorem z_evIt_3 : type_of% @evIt.eq_3 := nr2 @evIt.eq_3
theorem z_evIt_4 : type_of% @evIt.eq_4 := nr2 @evIt.eq_4
theorem z_evIt_5 : type_of% @evIt.eq_5 := nr2 @evIt.eq_5
theorem z_evIt_6 : type_of% @evIt.eq_6 := nr2 @evIt.eq_6
theorem z_evS_1 : type_of% @evS.eq_1 := nr2 @evS.eq_1
theorem z_evS_2 : type_of% @evS.eq_2 := nr2 @evS.eq_2
theorem z_evS_3 : type_of% @evS.eq_3 := nr2 @evS.eq_3
theorem z_evS_4 : type_of% @evS.eq_4 := nr2 @evS.eq_4
theorem z_evS_5 : type_of% @evS.eq_5 := nr2 @evS.eq_5
theorem z_evS_6 : type_of% @evS.eq_6 := nr2 @evS.eq_6
theorem z_evS_7 : type_of% @evS.eq_7 := nr2 @evS.eq_7
theorem z_evS_8 : type_of% @evS.eq_8 := nr2 @evS.eq_8
theorem z_evS_9 : type_of% @evS.eq_9 := nr2 @evS.eq_9
theorem z_evS_10 : type_of% @evS.eq_10 := nr2 @evS.eq_10
theorem z_evS_11 : type_of% @evS.eq_11 := nr2 @evS.eq_11
theorem z_evS_12 : type_of% @evS.eq_12 := nr2 @evS.eq_12
theorem z_evS_13 : type_of% @evS.eq_13 := nr2 @evS.eq_13
theorem z_evSs_1 : type_of% @evSs.eq_1 := nr2 @evSs.eq_1
theorem z_evSs_2 : type_of% @evSs.eq_2 := nr2 @evSs.eq_2
theorem rngG_ok {j : Int} {S : Sto} (h0 : 0 ≤ j) (h1 : j ≤ 1000) : rngG j S = .ok ⟨rngItems 0 j.toNat, []⟩ S := by
  have e : decide (j.natAbs < 2 ^ 62) = true := by
    rw [decide_eq_true_iff]; omega
  unfold rngG
  rw [e]; rfl
theorem rngG_nat {n : Nat} {S : Sto} (h1 : n ≤ 1000) : rngG (n : Int) S = .ok ⟨rngItems 0 n, []⟩ S := by
  rw [rngG_ok (by omega) (by omega)]; rfl
theorem sz_le {n : Nat} (h : n ≤ 1000) : n ≤ 16777216 := by omega
theorem allBl_t {α : Type} (g : α → Bool) : ∀ xs : List α, allBl (xs.map fun x => T.bl (g x)) = some (xs.map g)
  | [] => rfl
  | x :: r => by simp [allBl, allBl_t g r]
theorem allBl_c {α : Type} (xs : List α) : allBl (xs.map fun _ => T.bl true) = some (xs.map fun _ => true) := allBl_t (fun _ => true) xs

theorem is_integer_t {k : Nat} {S : Sto} {i a b : Int} (h1 : a ≤ i) (h2 : i ≤ b) : run prog (k + 1) 0 [.t (.int i), .t (.int a), .t (.int b)] S = .ok (.v (.bl true)) S := by
  rw [run_fn (rfl : prog.fn 0 = some F_is_integer)]
  simp [F_is_integer, ↓mb, ↓pu, ↓gd, ↓opt_some, ↓bad_app, ↓rv_val, ↓nox_app, ↓ite_a, ↓z_evE_1, ↓z_evE_2, ↓z_evE_3, ↓z_evE_4, ↓z_evE_5, ↓z_evE_6, ↓z_evE_7, ↓z_evE_8, ↓z_evE_9, ↓z_evE_10, ↓z_evE_11, ↓z_evE_12, ↓z_evE_13, ↓z_evE_14, ↓z_evE_15, ↓z_evE_16, ↓z_evE_17, ↓z_evE_18, ↓z_evE_19, ↓z_evE_20, ↓z_evE_21, ↓z_evE_22, ↓z_evE_23, ↓z_evE_24, ↓z_evRs_1, ↓z_evRs_2, ↓z_evO_1, ↓z_evO_2, ↓z_evT_1, ↓z_evT_2, ↓z_evT_3, ↓z_evT_4, ↓z_evC_1, ↓z_evC_2, ↓z_evIt_1, ↓z_evIt_3, ↓z_evIt_4, ↓z_evIt_5, ↓z_evIt_6, ↓z_evS_1, ↓z_evS_2, ↓z_evS_3, ↓z_evS_4, ↓z_evS_5, ↓z_evS_6, ↓z_evS_7, ↓z_evS_8, ↓z_evS_9, ↓z_evS_10, ↓z_evS_11, ↓z_evS_12, ↓z_evS_13, ↓z_evSs_1, ↓z_evSs_2, ↓evIt_rng, leave, start, slotRv, Rv.tree, Rv.isI, Rv.isB, Rv.isS, T.isI, T.isB, T.isS, Rv.w, Rv.lst, Rv.seq, lstAt, seqAt, Rv.data, binop, cmpop, eqRv, inRv, ltRv, isRv, truth, isTy, isiRv, lenRv, LL.bi, biLen, biAll, biAny, biInt, biStr, biTuple, biList, biSorted, meFind, meCount, meJoin, meS, meL, meAppend, meInsert, mePop0, putL, getL, meRv, meTy, ixRv, slRv, revRv, src1, src2, src3, src4, src5, bindTg, bindTs, wipe, treesOf, tupOf, lstOf, app, Sto.trunc, glo0, glo1, glo2, SZ, -List.map_map, ixOf, T.eqOk, T.data, T.datas, T.calm, T.calms, T.depth, T.depths, T.beq, T.beqs, h1, h2]
theorem is_pair_t {k : Nat} {S : Sto} {i j p q : Int} (h1 : 0 ≤ i) (h2 : i < p) (h3 : 0 ≤ j) (h4 : j < q) : run prog (k + 2) 2 [.t (.tup [.int i, .int j]), .t (.tup [.int p, .int q])] S = .ok (.v (.bl true)) S := by
  have := is_integer_t (k := k) (S := S) h1 (show i ≤ p - 1 by omega)
  have := is_integer_t (k := k) (S := S) h3 (show j ≤ q - 1 by omega)
  rw [run_fn (rfl : prog.fn 2 = some F_is_pair)]
  simp [F_is_pair, ↓mb, ↓pu, ↓gd, ↓opt_some, ↓bad_app, ↓rv_val, ↓nox_app, ↓ite_a, ↓z_evE_1, ↓z_evE_2, ↓z_evE_3, ↓z_evE_4, ↓z_evE_5, ↓z_evE_6, ↓z_evE_7, ↓z_evE_8, ↓z_evE_9, ↓z_evE_10, ↓z_evE_11, ↓z_evE_12, ↓z_evE_13, ↓z_evE_14, ↓z_evE_15, ↓z_evE_16, ↓z_evE_17, ↓z_evE_18, ↓z_evE_19, ↓z_evE_20, ↓z_evE_21, ↓z_evE_22, ↓z_evE_23, ↓z_evE_24, ↓z_evRs_1, ↓z_evRs_2, ↓z_evO_1, ↓z_evO_2, ↓z_evT_1, ↓z_evT_2, ↓z_evT_3, ↓z_evT_4, ↓z_evC_1, ↓z_evC_2, ↓z_evIt_1, ↓z_evIt_3, ↓z_evIt_4, ↓z_evIt_5, ↓z_evIt_6, ↓z_evS_1, ↓z_evS_2, ↓z_evS_3, ↓z_evS_4, ↓z_evS_5, ↓z_evS_6, ↓z_evS_7, ↓z_evS_8, ↓z_evS_9, ↓z_evS_10, ↓z_evS_11, ↓z_evS_12, ↓z_evS_13, ↓z_evSs_1, ↓z_evSs_2, ↓evIt_rng, leave, start, slotRv, Rv.tree, Rv.isI, Rv.isB, Rv.isS, T.isI, T.isB, T.isS, Rv.w, Rv.lst, Rv.seq, lstAt, seqAt, Rv.data, binop, cmpop, eqRv, inRv, ltRv, isRv, truth, isTy, isiRv, lenRv, LL.bi, biLen, biAll, biAny, biInt, biStr, biTuple, biList, biSorted, meFind, meCount, meJoin, meS, meL, meAppend, meInsert, mePop0, putL, getL, meRv, meTy, ixRv, slRv, revRv, src1, src2, src3, src4, src5, bindTg, bindTs, wipe, treesOf, tupOf, lstOf, app, Sto.trunc, glo0, glo1, glo2, SZ, -List.map_map, ixOf, T.eqOk, T.data, T.datas, T.calm, T.calms, T.depth, T.depths, T.beq, T.beqs, *]
theorem is_text_t {k : Nat} {S : Sto} {t : Cs} (h1 : t.length ≤ 60) (h2 : ∀ c ∈ t, c = 97 ∨ c = 98 ∨ c = 99) : run prog (k + 1) 1 [.t (.str t), .t (.int 60)] S = .ok (.v (.bl true)) S := by
  have := sz_le (show t.length ≤ 1000 by omega)
  have e : (t.length : Int) ≤ 60 := by omega
  rw [run_fn (rfl : prog.fn 1 = some F_is_text)]
  simp [F_is_text, ↓mb, ↓pu, ↓gd, ↓opt_some, ↓bad_app, ↓rv_val, ↓nox_app, ↓ite_a, ↓z_evE_1, ↓z_evE_2, ↓z_evE_3, ↓z_evE_4, ↓z_evE_5, ↓z_evE_6, ↓z_evE_7, ↓z_evE_8, ↓z_evE_9, ↓z_evE_10, ↓z_evE_11, ↓z_evE_12, ↓z_evE_13, ↓z_evE_14, ↓z_evE_15, ↓z_evE_16, ↓z_evE_17, ↓z_evE_18, ↓z_evE_19, ↓z_evE_20, ↓z_evE_21, ↓z_evE_22, ↓z_evE_23, ↓z_evE_24, ↓z_evRs_1, ↓z_evRs_2, ↓z_evO_1, ↓z_evO_2, ↓z_evT_1, ↓z_evT_2, ↓z_evT_3, ↓z_evT_4, ↓z_evC_1, ↓z_evC_2, ↓z_evIt_1, ↓z_evIt_3, ↓z_evIt_4, ↓z_evIt_5, ↓z_evIt_6, ↓z_evS_1, ↓z_evS_2, ↓z_evS_3, ↓z_evS_4, ↓z_evS_5, ↓z_evS_6, ↓z_evS_7, ↓z_evS_8, ↓z_evS_9, ↓z_evS_10, ↓z_evS_11, ↓z_evS_12, ↓z_evS_13, ↓z_evSs_1, ↓z_evSs_2, ↓evIt_rng, leave, start, slotRv, Rv.tree, Rv.isI, Rv.isB, Rv.isS, T.isI, T.isB, T.isS, Rv.w, Rv.lst, Rv.seq, lstAt, seqAt, Rv.data, binop, cmpop, eqRv, inRv, ltRv, isRv, truth, isTy, isiRv, lenRv, LL.bi, biLen, biAll, biAny, biInt, biStr, biTuple, biList, biSorted, meFind, meCount, meJoin, meS, meL, meAppend, meInsert, mePop0, putL, getL, meRv, meTy, ixRv, slRv, revRv, src1, src2, src3, src4, src5, bindTg, bindTs, wipe, treesOf, tupOf, lstOf, app, Sto.trunc, glo0, glo1, glo2, SZ, -List.map_map, ixOf, T.eqOk, T.data, T.datas, T.calm, T.calms, T.depth, T.depths, T.beq, T.beqs, *]
  rw [lc_map (fun _ => .bl true) S rfl _ (by simpa using this)]
  · simp [↓mb, ↓pu, ↓gd, ↓opt_some, ↓bad_app, ↓rv_val, ↓nox_app, ↓ite_a, ↓z_evE_1, ↓z_evE_2, ↓z_evE_3, ↓z_evE_4, ↓z_evE_5, ↓z_evE_6, ↓z_evE_7, ↓z_evE_8, ↓z_evE_9, ↓z_evE_10, ↓z_evE_11, ↓z_evE_12, ↓z_evE_13, ↓z_evE_14, ↓z_evE_15, ↓z_evE_16, ↓z_evE_17, ↓z_evE_18, ↓z_evE_19, ↓z_evE_20, ↓z_evE_21, ↓z_evE_22, ↓z_evE_23, ↓z_evE_24, ↓z_evRs_1, ↓z_evRs_2, ↓z_evO_1, ↓z_evO_2, ↓z_evT_1, ↓z_evT_2, ↓z_evT_3, ↓z_evT_4, ↓z_evC_1, ↓z_evC_2, ↓z_evIt_1, ↓z_evIt_3, ↓z_evIt_4, ↓z_evIt_5, ↓z_evIt_6, ↓z_evS_1, ↓z_evS_2, ↓z_evS_3, ↓z_evS_4, ↓z_evS_5, ↓z_evS_6, ↓z_evS_7, ↓z_evS_8, ↓z_evS_9, ↓z_evS_10, ↓z_evS_11, ↓z_evS_12, ↓z_evS_13, ↓z_evSs_1, ↓z_evSs_2, ↓evIt_rng, leave, start, slotRv, Rv.tree, Rv.isI, Rv.isB, Rv.isS, T.isI, T.isB, T.isS, Rv.w, Rv.lst, Rv.seq, lstAt, seqAt, Rv.data, binop, cmpop, eqRv, inRv, ltRv, isRv, truth, isTy, isiRv, lenRv, LL.bi, biLen, biAll, biAny, biInt, biStr, biTuple, biList, biSorted, meFind, meCount, meJoin, meS, meL, meAppend, meInsert, mePop0, putL, getL, meRv, meTy, ixRv, slRv, revRv, src1, src2, src3, src4, src5, bindTg, bindTs, wipe, treesOf, tupOf, lstOf, app, Sto.trunc, glo0, glo1, glo2, SZ, -List.map_map, ixOf, T.eqOk, T.data, T.datas, T.calm, T.calms, T.depth, T.depths, T.beq, T.beqs, allBl_c]
  · intro x hx a ha
    obtain ⟨c, hc, rfl⟩ := List.mem_map.1 hx
    have := h2 c hc
    simp [↓mb, ↓pu, ↓gd, ↓opt_some, ↓bad_app, ↓rv_val, ↓nox_app, ↓ite_a, ↓z_evE_1, ↓z_evE_2, ↓z_evE_3, ↓z_evE_4, ↓z_evE_5, ↓z_evE_6, ↓z_evE_7, ↓z_evE_8, ↓z_evE_9, ↓z_evE_10, ↓z_evE_11, ↓z_evE_12, ↓z_evE_13, ↓z_evE_14, ↓z_evE_15, ↓z_evE_16, ↓z_evE_17, ↓z_evE_18, ↓z_evE_19, ↓z_evE_20, ↓z_evE_21, ↓z_evE_22, ↓z_evE_23, ↓z_evE_24, ↓z_evRs_1, ↓z_evRs_2, ↓z_evO_1, ↓z_evO_2, ↓z_evT_1, ↓z_evT_2, ↓z_evT_3, ↓z_evT_4, ↓z_evC_1, ↓z_evC_2, ↓z_evIt_1, ↓z_evIt_3, ↓z_evIt_4, ↓z_evIt_5, ↓z_evIt_6, ↓z_evS_1, ↓z_evS_2, ↓z_evS_3, ↓z_evS_4, ↓z_evS_5, ↓z_evS_6, ↓z_evS_7, ↓z_evS_8, ↓z_evS_9, ↓z_evS_10, ↓z_evS_11, ↓z_evS_12, ↓z_evS_13, ↓z_evSs_1, ↓z_evSs_2, ↓evIt_rng, leave, start, slotRv, Rv.tree, Rv.isI, Rv.isB, Rv.isS, T.isI, T.isB, T.isS, Rv.w, Rv.lst, Rv.seq, lstAt, seqAt, Rv.data, binop, cmpop, eqRv, inRv, ltRv, isRv, truth, isTy, isiRv, lenRv, LL.bi, biLen, biAll, biAny, biInt, biStr, biTuple, biList, biSorted, meFind, meCount, meJoin, meS, meL, meAppend, meInsert, mePop0, putL, getL, meRv, meTy, ixRv, slRv, revRv, src1, src2, src3, src4, src5, bindTg, bindTs, wipe, treesOf, tupOf, lstOf, app, Sto.trunc, glo0, glo1, glo2, SZ, -List.map_map, ixOf, T.eqOk, T.data, T.datas, T.calm, T.calms, T.depth, T.depths, T.beq, T.beqs, *]
theorem are_sizes_t {k : Nat} {S : Sto} {p q : Int} (h1 : 1 ≤ p) (h2 : p ≤ 4) (h3 : 1 ≤ q) (h4 : q ≤ 4) : run prog (k + 2) 3 [.t (.tup [.int p, .int q])] S = .ok (.v (.bl true)) S := by
  have := is_integer_t (k := k) (S := S) h1 h2
  have := is_integer_t (k := k) (S := S) h3 h4
  rw [run_fn (rfl : prog.fn 3 = some F_are_sizes)]
  simp [F_are_sizes, ↓mb, ↓pu, ↓gd, ↓opt_some, ↓bad_app, ↓rv_val, ↓nox_app, ↓ite_a, ↓z_evE_1, ↓z_evE_2, ↓z_evE_3, ↓z_evE_4, ↓z_evE_5, ↓z_evE_6, ↓z_evE_7, ↓z_evE_8, ↓z_evE_9, ↓z_evE_10, ↓z_evE_11, ↓z_evE_12, ↓z_evE_13, ↓z_evE_14, ↓z_evE_15, ↓z_evE_16, ↓z_evE_17, ↓z_evE_18, ↓z_evE_19, ↓z_evE_20, ↓z_evE_21, ↓z_evE_22, ↓z_evE_23, ↓z_evE_24, ↓z_evRs_1, ↓z_evRs_2, ↓z_evO_1, ↓z_evO_2, ↓z_evT_1, ↓z_evT_2, ↓z_evT_3, ↓z_evT_4, ↓z_evC_1, ↓z_evC_2, ↓z_evIt_1, ↓z_evIt_3, ↓z_evIt_4, ↓z_evIt_5, ↓z_evIt_6, ↓z_evS_1, ↓z_evS_2, ↓z_evS_3, ↓z_evS_4, ↓z_evS_5, ↓z_evS_6, ↓z_evS_7, ↓z_evS_8, ↓z_evS_9, ↓z_evS_10, ↓z_evS_11, ↓z_evS_12, ↓z_evS_13, ↓z_evSs_1, ↓z_evSs_2, ↓evIt_rng, leave, start, slotRv, Rv.tree, Rv.isI, Rv.isB, Rv.isS, T.isI, T.isB, T.isS, Rv.w, Rv.lst, Rv.seq, lstAt, seqAt, Rv.data, binop, cmpop, eqRv, inRv, ltRv, isRv, truth, isTy, isiRv, lenRv, LL.bi, biLen, biAll, biAny, biInt, biStr, biTuple, biList, biSorted, meFind, meCount, meJoin, meS, meL, meAppend, meInsert, mePop0, putL, getL, meRv, meTy, ixRv, slRv, revRv, src1, src2, src3, src4, src5, bindTg, bindTs, wipe, treesOf, tupOf, lstOf, app, Sto.trunc, glo0, glo1, glo2, SZ, -List.map_map, ixOf, T.eqOk, T.data, T.datas, T.calm, T.calms, T.depth, T.depths, T.beq, T.beqs, *]
  rw [lc_map (fun _ => .bl true) S rfl _ (by simp)]
  · simp [↓mb, ↓pu, ↓gd, ↓opt_some, ↓bad_app, ↓rv_val, ↓nox_app, ↓ite_a, ↓z_evE_1, ↓z_evE_2, ↓z_evE_3, ↓z_evE_4, ↓z_evE_5, ↓z_evE_6, ↓z_evE_7, ↓z_evE_8, ↓z_evE_9, ↓z_evE_10, ↓z_evE_11, ↓z_evE_12, ↓z_evE_13, ↓z_evE_14, ↓z_evE_15, ↓z_evE_16, ↓z_evE_17, ↓z_evE_18, ↓z_evE_19, ↓z_evE_20, ↓z_evE_21, ↓z_evE_22, ↓z_evE_23, ↓z_evE_24, ↓z_evRs_1, ↓z_evRs_2, ↓z_evO_1, ↓z_evO_2, ↓z_evT_1, ↓z_evT_2, ↓z_evT_3, ↓z_evT_4, ↓z_evC_1, ↓z_evC_2, ↓z_evIt_1, ↓z_evIt_3, ↓z_evIt_4, ↓z_evIt_5, ↓z_evIt_6, ↓z_evS_1, ↓z_evS_2, ↓z_evS_3, ↓z_evS_4, ↓z_evS_5, ↓z_evS_6, ↓z_evS_7, ↓z_evS_8, ↓z_evS_9, ↓z_evS_10, ↓z_evS_11, ↓z_evS_12, ↓z_evS_13, ↓z_evSs_1, ↓z_evSs_2, ↓evIt_rng, leave, start, slotRv, Rv.tree, Rv.isI, Rv.isB, Rv.isS, T.isI, T.isB, T.isS, Rv.w, Rv.lst, Rv.seq, lstAt, seqAt, Rv.data, binop, cmpop, eqRv, inRv, ltRv, isRv, truth, isTy, isiRv, lenRv, LL.bi, biLen, biAll, biAny, biInt, biStr, biTuple, biList, biSorted, meFind, meCount, meJoin, meS, meL, meAppend, meInsert, mePop0, putL, getL, meRv, meTy, ixRv, slRv, revRv, src1, src2, src3, src4, src5, bindTg, bindTs, wipe, treesOf, tupOf, lstOf, app, Sto.trunc, glo0, glo1, glo2, SZ, -List.map_map, ixOf, T.eqOk, T.data, T.datas, T.calm, T.calms, T.depth, T.depths, T.beq, T.beqs, allBl]
  · intro x hx a ha
    simp at hx
    rcases hx with rfl | rfl <;> simp [↓mb, ↓pu, ↓gd, ↓opt_some, ↓bad_app, ↓rv_val, ↓nox_app, ↓ite_a, ↓z_evE_1, ↓z_evE_2, ↓z_evE_3, ↓z_evE_4, ↓z_evE_5, ↓z_evE_6, ↓z_evE_7, ↓z_evE_8, ↓z_evE_9, ↓z_evE_10, ↓z_evE_11, ↓z_evE_12, ↓z_evE_13, ↓z_evE_14, ↓z_evE_15, ↓z_evE_16, ↓z_evE_17, ↓z_evE_18, ↓z_evE_19, ↓z_evE_20, ↓z_evE_21, ↓z_evE_22, ↓z_evE_23, ↓z_evE_24, ↓z_evRs_1, ↓z_evRs_2, ↓z_evO_1, ↓z_evO_2, ↓z_evT_1, ↓z_evT_2, ↓z_evT_3, ↓z_evT_4, ↓z_evC_1, ↓z_evC_2, ↓z_evIt_1, ↓z_evIt_3, ↓z_evIt_4, ↓z_evIt_5, ↓z_evIt_6, ↓z_evS_1, ↓z_evS_2, ↓z_evS_3, ↓z_evS_4, ↓z_evS_5, ↓z_evS_6, ↓z_evS_7, ↓z_evS_8, ↓z_evS_9, ↓z_evS_10, ↓z_evS_11, ↓z_evS_12, ↓z_evS_13, ↓z_evSs_1, ↓z_evSs_2, ↓evIt_rng, leave, start, slotRv, Rv.tree, Rv.isI, Rv.isB, Rv.isS, T.isI, T.isB, T.isS, Rv.w, Rv.lst, Rv.seq, lstAt, seqAt, Rv.data, binop, cmpop, eqRv, inRv, ltRv, isRv, truth, isTy, isiRv, lenRv, LL.bi, biLen, biAll, biAny, biInt, biStr, biTuple, biList, biSorted, meFind, meCount, meJoin, meS, meL, meAppend, meInsert, mePop0, putL, getL, meRv, meTy, ixRv, slRv, revRv, src1, src2, src3, src4, src5, bindTg, bindTs, wipe, treesOf, tupOf, lstOf, app, Sto.trunc, glo0, glo1, glo2, SZ, -List.map_map, ixOf, T.eqOk, T.data, T.datas, T.calm, T.calms, T.depth, T.depths, T.beq, T.beqs, *]
abbrev row : Cs := [114, 111, 119]
abbrev echo : Cs := [101, 99, 104, 111]
abbrev heap : Cs := [104, 101, 97, 112]
def Man (m : Cs) : Prop := m = row ∨ m = echo ∨ m = heap
def Mans (ms : List Cs) : Prop := (ms.length = 1 ∨ ms.length = 2) ∧ ∀ m ∈ ms, Man m
theorem are_manners_t {k : Nat} {S : Sto} {ms : List Cs} (h : Mans ms) : run prog (k + 1) 4 [.t (.tup (ms.map T.str))] S = .ok (.v (.bl true)) S := by
  rw [run_fn (rfl : prog.fn 4 = some F_are_manners)]
  obtain ⟨hl, hm⟩ := h
  have hl2 : (ms.length : Int) = 1 ∨ (ms.length : Int) = 2 := by omega
  have hl3 : (1 : Int) = ms.length ∨ (2 : Int) = ms.length := by omega
  have hz : ms.length ≤ 16777216 := sz_le (by omega)
  have hd : inSeqOk (.int ms.length) [.int 1, .int 2] = true := by simp [inSeqOk, T.eqOk, T.data, T.calm, T.depth]
  have hd2 : inSeq (.int ms.length) [.int 1, .int 2] = true := by rw [inSeq_iff]; rcases hl2 with h | h <;> simp [h]
  simp [F_are_manners, ↓mb, ↓pu, ↓gd, ↓opt_some, ↓bad_app, ↓rv_val, ↓nox_app, ↓ite_a, ↓z_evE_1, ↓z_evE_2, ↓z_evE_3, ↓z_evE_4, ↓z_evE_5, ↓z_evE_6, ↓z_evE_7, ↓z_evE_8, ↓z_evE_9, ↓z_evE_10, ↓z_evE_11, ↓z_evE_12, ↓z_evE_13, ↓z_evE_14, ↓z_evE_15, ↓z_evE_16, ↓z_evE_17, ↓z_evE_18, ↓z_evE_19, ↓z_evE_20, ↓z_evE_21, ↓z_evE_22, ↓z_evE_23, ↓z_evE_24, ↓z_evRs_1, ↓z_evRs_2, ↓z_evO_1, ↓z_evO_2, ↓z_evT_1, ↓z_evT_2, ↓z_evT_3, ↓z_evT_4, ↓z_evC_1, ↓z_evC_2, ↓z_evIt_1, ↓z_evIt_3, ↓z_evIt_4, ↓z_evIt_5, ↓z_evIt_6, ↓z_evS_1, ↓z_evS_2, ↓z_evS_3, ↓z_evS_4, ↓z_evS_5, ↓z_evS_6, ↓z_evS_7, ↓z_evS_8, ↓z_evS_9, ↓z_evS_10, ↓z_evS_11, ↓z_evS_12, ↓z_evS_13, ↓z_evSs_1, ↓z_evSs_2, ↓evIt_rng, leave, start, slotRv, Rv.tree, Rv.isI, Rv.isB, Rv.isS, T.isI, T.isB, T.isS, Rv.w, Rv.lst, Rv.seq, lstAt, seqAt, Rv.data, binop, cmpop, eqRv, inRv, ltRv, isRv, truth, isTy, isiRv, lenRv, LL.bi, biLen, biAll, biAny, biInt, biStr, biTuple, biList, biSorted, meFind, meCount, meJoin, meS, meL, meAppend, meInsert, mePop0, putL, getL, meRv, meTy, ixRv, slRv, revRv, src1, src2, src3, src4, src5, bindTg, bindTs, wipe, treesOf, tupOf, lstOf, app, Sto.trunc, glo0, glo1, glo2, SZ, -List.map_map, ixOf, T.eqOk, T.data, T.datas, T.calm, T.calms, T.depth, T.depths, T.beq, T.beqs, hz, hd, hd2]
  rw [lc_map (fun _ => .bl true) S rfl _ (by simpa using hz)]
  · simp [↓mb, ↓pu, ↓gd, ↓opt_some, ↓bad_app, ↓rv_val, ↓nox_app, ↓ite_a, ↓z_evE_1, ↓z_evE_2, ↓z_evE_3, ↓z_evE_4, ↓z_evE_5, ↓z_evE_6, ↓z_evE_7, ↓z_evE_8, ↓z_evE_9, ↓z_evE_10, ↓z_evE_11, ↓z_evE_12, ↓z_evE_13, ↓z_evE_14, ↓z_evE_15, ↓z_evE_16, ↓z_evE_17, ↓z_evE_18, ↓z_evE_19, ↓z_evE_20, ↓z_evE_21, ↓z_evE_22, ↓z_evE_23, ↓z_evE_24, ↓z_evRs_1, ↓z_evRs_2, ↓z_evO_1, ↓z_evO_2, ↓z_evT_1, ↓z_evT_2, ↓z_evT_3, ↓z_evT_4, ↓z_evC_1, ↓z_evC_2, ↓z_evIt_1, ↓z_evIt_3, ↓z_evIt_4, ↓z_evIt_5, ↓z_evIt_6, ↓z_evS_1, ↓z_evS_2, ↓z_evS_3, ↓z_evS_4, ↓z_evS_5, ↓z_evS_6, ↓z_evS_7, ↓z_evS_8, ↓z_evS_9, ↓z_evS_10, ↓z_evS_11, ↓z_evS_12, ↓z_evS_13, ↓z_evSs_1, ↓z_evSs_2, ↓evIt_rng, leave, start, slotRv, Rv.tree, Rv.isI, Rv.isB, Rv.isS, T.isI, T.isB, T.isS, Rv.w, Rv.lst, Rv.seq, lstAt, seqAt, Rv.data, binop, cmpop, eqRv, inRv, ltRv, isRv, truth, isTy, isiRv, lenRv, LL.bi, biLen, biAll, biAny, biInt, biStr, biTuple, biList, biSorted, meFind, meCount, meJoin, meS, meL, meAppend, meInsert, mePop0, putL, getL, meRv, meTy, ixRv, slRv, revRv, src1, src2, src3, src4, src5, bindTg, bindTs, wipe, treesOf, tupOf, lstOf, app, Sto.trunc, glo0, glo1, glo2, SZ, -List.map_map, ixOf, T.eqOk, T.data, T.datas, T.calm, T.calms, T.depth, T.depths, T.beq, T.beqs, allBl_c]
  · intro x hx a ha
    obtain ⟨c, hc, rfl⟩ := List.mem_map.1 hx
    rcases hm c hc with rfl | rfl | rfl <;> simp [↓mb, ↓pu, ↓gd, ↓opt_some, ↓bad_app, ↓rv_val, ↓nox_app, ↓ite_a, ↓z_evE_1, ↓z_evE_2, ↓z_evE_3, ↓z_evE_4, ↓z_evE_5, ↓z_evE_6, ↓z_evE_7, ↓z_evE_8, ↓z_evE_9, ↓z_evE_10, ↓z_evE_11, ↓z_evE_12, ↓z_evE_13, ↓z_evE_14, ↓z_evE_15, ↓z_evE_16, ↓z_evE_17, ↓z_evE_18, ↓z_evE_19, ↓z_evE_20, ↓z_evE_21, ↓z_evE_22, ↓z_evE_23, ↓z_evE_24, ↓z_evRs_1, ↓z_evRs_2, ↓z_evO_1, ↓z_evO_2, ↓z_evT_1, ↓z_evT_2, ↓z_evT_3, ↓z_evT_4, ↓z_evC_1, ↓z_evC_2, ↓z_evIt_1, ↓z_evIt_3, ↓z_evIt_4, ↓z_evIt_5, ↓z_evIt_6, ↓z_evS_1, ↓z_evS_2, ↓z_evS_3, ↓z_evS_4, ↓z_evS_5, ↓z_evS_6, ↓z_evS_7, ↓z_evS_8, ↓z_evS_9, ↓z_evS_10, ↓z_evS_11, ↓z_evS_12, ↓z_evS_13, ↓z_evSs_1, ↓z_evSs_2, ↓evIt_rng, leave, start, slotRv, Rv.tree, Rv.isI, Rv.isB, Rv.isS, T.isI, T.isB, T.isS, Rv.w, Rv.lst, Rv.seq, lstAt, seqAt, Rv.data, binop, cmpop, eqRv, inRv, ltRv, isRv, truth, isTy, isiRv, lenRv, LL.bi, biLen, biAll, biAny, biInt, biStr, biTuple, biList, biSorted, meFind, meCount, meJoin, meS, meL, meAppend, meInsert, mePop0, putL, getL, meRv, meTy, ixRv, slRv, revRv, src1, src2, src3, src4, src5, bindTg, bindTs, wipe, treesOf, tupOf, lstOf, app, Sto.trunc, glo0, glo1, glo2, SZ, -List.map_map, ixOf, T.eqOk, T.data, T.datas, T.calm, T.calms, T.depth, T.depths, T.beq, T.beqs, inSeq, inSeqOk, ha]
theorem is_deed_t {k : Nat} {S : Sto} {d : Cs} {n : Nat} (h : d = [] ∨ ∃ a b c, d = [a, b, c] ∧ (a = 43 ∨ a = 45) ∧ (b = 48 ∧ 1 ≤ n ∨ b = 49 ∧ 2 ≤ n) ∧ (c = 97 ∨ c = 98 ∨ c = 99)) : run prog (k + 1) 5 [.t (.str d), .t (.int n)] S = .ok (.v (.bl true)) S := by
  rw [run_fn (rfl : prog.fn 5 = some F_is_deed)]
  rcases h with rfl | ⟨a, b, c, rfl, ha, hb, hc⟩
  · simp [F_is_deed, ↓mb, ↓pu, ↓gd, ↓opt_some, ↓bad_app, ↓rv_val, ↓nox_app, ↓ite_a, ↓z_evE_1, ↓z_evE_2, ↓z_evE_3, ↓z_evE_4, ↓z_evE_5, ↓z_evE_6, ↓z_evE_7, ↓z_evE_8, ↓z_evE_9, ↓z_evE_10, ↓z_evE_11, ↓z_evE_12, ↓z_evE_13, ↓z_evE_14, ↓z_evE_15, ↓z_evE_16, ↓z_evE_17, ↓z_evE_18, ↓z_evE_19, ↓z_evE_20, ↓z_evE_21, ↓z_evE_22, ↓z_evE_23, ↓z_evE_24, ↓z_evRs_1, ↓z_evRs_2, ↓z_evO_1, ↓z_evO_2, ↓z_evT_1, ↓z_evT_2, ↓z_evT_3, ↓z_evT_4, ↓z_evC_1, ↓z_evC_2, ↓z_evIt_1, ↓z_evIt_3, ↓z_evIt_4, ↓z_evIt_5, ↓z_evIt_6, ↓z_evS_1, ↓z_evS_2, ↓z_evS_3, ↓z_evS_4, ↓z_evS_5, ↓z_evS_6, ↓z_evS_7, ↓z_evS_8, ↓z_evS_9, ↓z_evS_10, ↓z_evS_11, ↓z_evS_12, ↓z_evS_13, ↓z_evSs_1, ↓z_evSs_2, ↓evIt_rng, leave, start, slotRv, Rv.tree, Rv.isI, Rv.isB, Rv.isS, T.isI, T.isB, T.isS, Rv.w, Rv.lst, Rv.seq, lstAt, seqAt, Rv.data, binop, cmpop, eqRv, inRv, ltRv, isRv, truth, isTy, isiRv, lenRv, LL.bi, biLen, biAll, biAny, biInt, biStr, biTuple, biList, biSorted, meFind, meCount, meJoin, meS, meL, meAppend, meInsert, mePop0, putL, getL, meRv, meTy, ixRv, slRv, revRv, src1, src2, src3, src4, src5, bindTg, bindTs, wipe, treesOf, tupOf, lstOf, app, Sto.trunc, glo0, glo1, glo2, SZ, -List.map_map, ixOf, T.eqOk, T.data, T.datas, T.calm, T.calms, T.depth, T.depths, T.beq, T.beqs, inSeq, inSeqOk]
  · have hcut : b ∈ cut [48, 49] none (some (n : Int)) := by
      have e : cut [48, 49] none (some (n : Int)) = [48, 49].take n := by
        unfold cut sIx
        simp
        have h0 : ¬ ((n : Int) < 0) := by omega
        simp only [h0, if_false]
        omega
      rw [e]
      rcases hb with ⟨rfl, h⟩ | ⟨rfl, h⟩
      · obtain ⟨m, rfl⟩ := Nat.exists_eq_add_of_le h; rw [Nat.add_comm]; simp
      · obtain ⟨m, rfl⟩ := Nat.exists_eq_add_of_le h; rw [Nat.add_comm]; simp
    rcases ha with rfl | rfl <;> simp [F_is_deed, ↓mb, ↓pu, ↓gd, ↓opt_some, ↓bad_app, ↓rv_val, ↓nox_app, ↓ite_a, ↓z_evE_1, ↓z_evE_2, ↓z_evE_3, ↓z_evE_4, ↓z_evE_5, ↓z_evE_6, ↓z_evE_7, ↓z_evE_8, ↓z_evE_9, ↓z_evE_10, ↓z_evE_11, ↓z_evE_12, ↓z_evE_13, ↓z_evE_14, ↓z_evE_15, ↓z_evE_16, ↓z_evE_17, ↓z_evE_18, ↓z_evE_19, ↓z_evE_20, ↓z_evE_21, ↓z_evE_22, ↓z_evE_23, ↓z_evE_24, ↓z_evRs_1, ↓z_evRs_2, ↓z_evO_1, ↓z_evO_2, ↓z_evT_1, ↓z_evT_2, ↓z_evT_3, ↓z_evT_4, ↓z_evC_1, ↓z_evC_2, ↓z_evIt_1, ↓z_evIt_3, ↓z_evIt_4, ↓z_evIt_5, ↓z_evIt_6, ↓z_evS_1, ↓z_evS_2, ↓z_evS_3, ↓z_evS_4, ↓z_evS_5, ↓z_evS_6, ↓z_evS_7, ↓z_evS_8, ↓z_evS_9, ↓z_evS_10, ↓z_evS_11, ↓z_evS_12, ↓z_evS_13, ↓z_evSs_1, ↓z_evSs_2, ↓evIt_rng, leave, start, slotRv, Rv.tree, Rv.isI, Rv.isB, Rv.isS, T.isI, T.isB, T.isS, Rv.w, Rv.lst, Rv.seq, lstAt, seqAt, Rv.data, binop, cmpop, eqRv, inRv, ltRv, isRv, truth, isTy, isiRv, lenRv, LL.bi, biLen, biAll, biAny, biInt, biStr, biTuple, biList, biSorted, meFind, meCount, meJoin, meS, meL, meAppend, meInsert, mePop0, putL, getL, meRv, meTy, ixRv, slRv, revRv, src1, src2, src3, src4, src5, bindTg, bindTs, wipe, treesOf, tupOf, lstOf, app, Sto.trunc, glo0, glo1, glo2, SZ, -List.map_map, ixOf, T.eqOk, T.data, T.datas, T.calm, T.calms, T.depth, T.depths, T.beq, T.beqs, inSeq, inSeqOk, hcut, hc]
theorem is_rule_t {k : Nat} {S : Sto} {p q e i j : Int} {d : Cs} {n : Nat} (he : e = 0 ∨ e = 1) (h : d = [] ∨ ∃ a b c, d = [a, b, c] ∧ (a = 43 ∨ a = 45) ∧ (b = 48 ∧ 1 ≤ n ∨ b = 49 ∧ 2 ≤ n) ∧ (c = 97 ∨ c = 98 ∨ c = 99)) (h1 : 0 ≤ i) (h2 : i < if e = 0 then p else q) (h3 : 0 ≤ j) (h4 : j < if e = 0 then p else q) :
    run prog (k + 2) 6 [.t (.tup [.int e, .int i, .str d, .int j]), .t (.tup [.int p, .int q]), .t (.int n)] S = .ok (.v (.bl true)) S := by
  have w1 : ∀ m, i < m → run prog (k + 1) 0 [.t (.int i), .t (.int 0), .t (.int (m - 1))] S = .ok (.v (.bl true)) S := fun m h => is_integer_t h1 (by omega)
  have w2 : ∀ m, j < m → run prog (k + 1) 0 [.t (.int j), .t (.int 0), .t (.int (m - 1))] S = .ok (.v (.bl true)) S := fun m h => is_integer_t h3 (by omega)
  have w3 := is_deed_t (k := k) (S := S) h
  rw [run_fn (rfl : prog.fn 6 = some F_is_rule)]
  rcases he with rfl | rfl
  · have w0 := is_integer_t (k := k) (S := S) (i := 0) (a := 0) (b := 1) (by omega) (by omega)
    have w1 := w1 p (by simpa using h2)
    have w2 := w2 p (by simpa using h4)
    simp [F_is_rule, ↓mb, ↓pu, ↓gd, ↓opt_some, ↓bad_app, ↓rv_val, ↓nox_app, ↓ite_a, ↓z_evE_1, ↓z_evE_2, ↓z_evE_3, ↓z_evE_4, ↓z_evE_5, ↓z_evE_6, ↓z_evE_7, ↓z_evE_8, ↓z_evE_9, ↓z_evE_10, ↓z_evE_11, ↓z_evE_12, ↓z_evE_13, ↓z_evE_14, ↓z_evE_15, ↓z_evE_16, ↓z_evE_17, ↓z_evE_18, ↓z_evE_19, ↓z_evE_20, ↓z_evE_21, ↓z_evE_22, ↓z_evE_23, ↓z_evE_24, ↓z_evRs_1, ↓z_evRs_2, ↓z_evO_1, ↓z_evO_2, ↓z_evT_1, ↓z_evT_2, ↓z_evT_3, ↓z_evT_4, ↓z_evC_1, ↓z_evC_2, ↓z_evIt_1, ↓z_evIt_3, ↓z_evIt_4, ↓z_evIt_5, ↓z_evIt_6, ↓z_evS_1, ↓z_evS_2, ↓z_evS_3, ↓z_evS_4, ↓z_evS_5, ↓z_evS_6, ↓z_evS_7, ↓z_evS_8, ↓z_evS_9, ↓z_evS_10, ↓z_evS_11, ↓z_evS_12, ↓z_evS_13, ↓z_evSs_1, ↓z_evSs_2, ↓evIt_rng, leave, start, slotRv, Rv.tree, Rv.isI, Rv.isB, Rv.isS, T.isI, T.isB, T.isS, Rv.w, Rv.lst, Rv.seq, lstAt, seqAt, Rv.data, binop, cmpop, eqRv, inRv, ltRv, isRv, truth, isTy, isiRv, lenRv, LL.bi, biLen, biAll, biAny, biInt, biStr, biTuple, biList, biSorted, meFind, meCount, meJoin, meS, meL, meAppend, meInsert, mePop0, putL, getL, meRv, meTy, ixRv, slRv, revRv, src1, src2, src3, src4, src5, bindTg, bindTs, wipe, treesOf, tupOf, lstOf, app, Sto.trunc, glo0, glo1, glo2, SZ, -List.map_map, ixOf, T.eqOk, T.data, T.datas, T.calm, T.calms, T.depth, T.depths, T.beq, T.beqs, w0, w1, w2, w3]
  · have w0 := is_integer_t (k := k) (S := S) (i := 1) (a := 0) (b := 1) (by omega) (by omega)
    have w1 := w1 q (by simpa using h2)
    have w2 := w2 q (by simpa using h4)
    simp [F_is_rule, ↓mb, ↓pu, ↓gd, ↓opt_some, ↓bad_app, ↓rv_val, ↓nox_app, ↓ite_a, ↓z_evE_1, ↓z_evE_2, ↓z_evE_3, ↓z_evE_4, ↓z_evE_5, ↓z_evE_6, ↓z_evE_7, ↓z_evE_8, ↓z_evE_9, ↓z_evE_10, ↓z_evE_11, ↓z_evE_12, ↓z_evE_13, ↓z_evE_14, ↓z_evE_15, ↓z_evE_16, ↓z_evE_17, ↓z_evE_18, ↓z_evE_19, ↓z_evE_20, ↓z_evE_21, ↓z_evE_22, ↓z_evE_23, ↓z_evE_24, ↓z_evRs_1, ↓z_evRs_2, ↓z_evO_1, ↓z_evO_2, ↓z_evT_1, ↓z_evT_2, ↓z_evT_3, ↓z_evT_4, ↓z_evC_1, ↓z_evC_2, ↓z_evIt_1, ↓z_evIt_3, ↓z_evIt_4, ↓z_evIt_5, ↓z_evIt_6, ↓z_evS_1, ↓z_evS_2, ↓z_evS_3, ↓z_evS_4, ↓z_evS_5, ↓z_evS_6, ↓z_evS_7, ↓z_evS_8, ↓z_evS_9, ↓z_evS_10, ↓z_evS_11, ↓z_evS_12, ↓z_evS_13, ↓z_evSs_1, ↓z_evSs_2, ↓evIt_rng, leave, start, slotRv, Rv.tree, Rv.isI, Rv.isB, Rv.isS, T.isI, T.isB, T.isS, Rv.w, Rv.lst, Rv.seq, lstAt, seqAt, Rv.data, binop, cmpop, eqRv, inRv, ltRv, isRv, truth, isTy, isiRv, lenRv, LL.bi, biLen, biAll, biAny, biInt, biStr, biTuple, biList, biSorted, meFind, meCount, meJoin, meS, meL, meAppend, meInsert, mePop0, putL, getL, meRv, meTy, ixRv, slRv, revRv, src1, src2, src3, src4, src5, bindTg, bindTs, wipe, treesOf, tupOf, lstOf, app, Sto.trunc, glo0, glo1, glo2, SZ, -List.map_map, ixOf, T.eqOk, T.data, T.datas, T.calm, T.calms, T.depth, T.depths, T.beq, T.beqs, w0, w1, w2, w3]
/-- texts of single signs put together -/
theorem join_nil : ∀ ss : List Cs, joinCs [] ss = ss.flatten
  | [] => rfl
  | [x] => by simp [joinCs]
  | x :: y :: r => by simp [joinCs, join_nil (y :: r)]
theorem rep_one (c : Nat) : ∀ n, repeatCs [c] n = List.replicate n c
  | 0 => rfl
  | n + 1 => by simp [repeatCs, rep_one c n, List.replicate_succ]
def Abc (t : Cs) : Prop := t.length ≤ 60 ∧ ∀ c ∈ t, c = 97 ∨ c = 98 ∨ c = 99
def ordd (t : Cs) : Cs := List.replicate (t.count 97) 97 ++ (List.replicate (t.count 98) 98 ++ List.replicate (t.count 99) 99)
theorem in_order_t {k : Nat} {S : Sto} {t : Cs} (h : t.length ≤ 60) : run prog (k + 1) 8 [.t (.str t)] S = .ok (.v (.str (ordd t))) S := by
  rw [run_fn (rfl : prog.fn 8 = some F_in_order)]
  have c1 : t.count 97 ≤ 60 := Nat.le_trans List.count_le_length h
  have c2 : t.count 98 ≤ 60 := Nat.le_trans List.count_le_length h
  have c3 : t.count 99 ≤ 60 := Nat.le_trans List.count_le_length h
  have d1 : ((t.count 97 : Int)) ≤ 1000 := by omega
  have d2 : ((t.count 98 : Int)) ≤ 1000 := by omega
  have d3 : ((t.count 99 : Int)) ≤ 1000 := by omega
  have e : t.count 97 + (t.count 98 + t.count 99) ≤ 16777216 := by omega
  simp [F_in_order, ↓mb, ↓pu, ↓gd, ↓opt_some, ↓bad_app, ↓rv_val, ↓nox_app, ↓ite_a, ↓z_evE_1, ↓z_evE_2, ↓z_evE_3, ↓z_evE_4, ↓z_evE_5, ↓z_evE_6, ↓z_evE_7, ↓z_evE_8, ↓z_evE_9, ↓z_evE_10, ↓z_evE_11, ↓z_evE_12, ↓z_evE_13, ↓z_evE_14, ↓z_evE_15, ↓z_evE_16, ↓z_evE_17, ↓z_evE_18, ↓z_evE_19, ↓z_evE_20, ↓z_evE_21, ↓z_evE_22, ↓z_evE_23, ↓z_evE_24, ↓z_evRs_1, ↓z_evRs_2, ↓z_evO_1, ↓z_evO_2, ↓z_evT_1, ↓z_evT_2, ↓z_evT_3, ↓z_evT_4, ↓z_evC_1, ↓z_evC_2, ↓z_evIt_1, ↓z_evIt_3, ↓z_evIt_4, ↓z_evIt_5, ↓z_evIt_6, ↓z_evS_1, ↓z_evS_2, ↓z_evS_3, ↓z_evS_4, ↓z_evS_5, ↓z_evS_6, ↓z_evS_7, ↓z_evS_8, ↓z_evS_9, ↓z_evS_10, ↓z_evS_11, ↓z_evS_12, ↓z_evS_13, ↓z_evSs_1, ↓z_evSs_2, ↓evIt_rng, leave, start, slotRv, Rv.tree, Rv.isI, Rv.isB, Rv.isS, T.isI, T.isB, T.isS, Rv.w, Rv.lst, Rv.seq, lstAt, seqAt, Rv.data, binop, cmpop, eqRv, inRv, ltRv, isRv, truth, isTy, isiRv, lenRv, LL.bi, biLen, biAll, biAny, biInt, biStr, biTuple, biList, biSorted, meFind, meCount, meJoin, meS, meL, meAppend, meInsert, mePop0, putL, getL, meRv, meTy, ixRv, slRv, revRv, src1, src2, src3, src4, src5, bindTg, bindTs, wipe, treesOf, tupOf, lstOf, app, Sto.trunc, glo0, glo1, glo2, SZ, -List.map_map, ixOf, T.eqOk, T.data, T.datas, T.calm, T.calms, T.depth, T.depths, T.beq, T.beqs, lcLoop, M.watch, watchOk, d1, d2, d3, allStr, rep_one, join_nil, e, ordd]
def NoTwo : Cs → Prop
  | [] => True
  | [_] => True
  | a :: b :: r => a ≠ b ∧ NoTwo (b :: r)
theorem noTwo_zip : ∀ t : Cs, NoTwo t → ∀ x ∈ zip2Items (t.map fun c => T.str [c]) ((t.drop 1).map fun c => T.str [c]), ∃ a b : Nat, a ≠ b ∧ x = .tup [.str [a], .str [b]]
  | [], _, x, h => by simp [zip2Items] at h
  | [a], _, x, h => by simp [zip2Items] at h
  | a :: b :: r, hn, x, h => by
    simp only [zip2Items, List.map_cons, List.drop_succ_cons, List.drop_zero, List.zipWith_cons_cons, List.mem_cons] at h
    rcases h with rfl | h
    · exact ⟨a, b, hn.1, rfl⟩
    · exact noTwo_zip (b :: r) hn.2 x (by simpa [zip2Items] using h)
def Fit (m : Cs) (t : Cs) : Prop := (m = heap → ordd t = t) ∧ (m = echo → NoTwo t)
theorem cut_one {α : Type} (t : List α) : cut t (some 1) none = t.drop 1 := by
  unfold cut sIx
  simp
  cases t with
  | nil => simp
  | cons a r => simp
theorem cut_tail {α : Type} (t : List α) : (cut t (some 1) none) = t.tail := by rw [cut_one]; simp
theorem fits_line_t {k : Nat} {S : Sto} {m t : Cs} (hm : Man m) (h : t.length ≤ 60) (hf : Fit m t) : run prog (k + 2) 9 [.t (.str m), .t (.str t)] S = .ok (.v (.bl true)) S := by
  have io := in_order_t (k := k) (S := S) h
  have hz : t.length ≤ 16777216 := by omega
  rw [run_fn (rfl : prog.fn 9 = some F_fits_line)]
  rcases hm with rfl | rfl | rfl
  · simp [F_fits_line, ↓mb, ↓pu, ↓gd, ↓opt_some, ↓bad_app, ↓rv_val, ↓nox_app, ↓ite_a, ↓z_evE_1, ↓z_evE_2, ↓z_evE_3, ↓z_evE_4, ↓z_evE_5, ↓z_evE_6, ↓z_evE_7, ↓z_evE_8, ↓z_evE_9, ↓z_evE_10, ↓z_evE_11, ↓z_evE_12, ↓z_evE_13, ↓z_evE_14, ↓z_evE_15, ↓z_evE_16, ↓z_evE_17, ↓z_evE_18, ↓z_evE_19, ↓z_evE_20, ↓z_evE_21, ↓z_evE_22, ↓z_evE_23, ↓z_evE_24, ↓z_evRs_1, ↓z_evRs_2, ↓z_evO_1, ↓z_evO_2, ↓z_evT_1, ↓z_evT_2, ↓z_evT_3, ↓z_evT_4, ↓z_evC_1, ↓z_evC_2, ↓z_evIt_1, ↓z_evIt_3, ↓z_evIt_4, ↓z_evIt_5, ↓z_evIt_6, ↓z_evS_1, ↓z_evS_2, ↓z_evS_3, ↓z_evS_4, ↓z_evS_5, ↓z_evS_6, ↓z_evS_7, ↓z_evS_8, ↓z_evS_9, ↓z_evS_10, ↓z_evS_11, ↓z_evS_12, ↓z_evS_13, ↓z_evSs_1, ↓z_evSs_2, ↓evIt_rng, leave, start, slotRv, Rv.tree, Rv.isI, Rv.isB, Rv.isS, T.isI, T.isB, T.isS, Rv.w, Rv.lst, Rv.seq, lstAt, seqAt, Rv.data, binop, cmpop, eqRv, inRv, ltRv, isRv, truth, isTy, isiRv, lenRv, LL.bi, biLen, biAll, biAny, biInt, biStr, biTuple, biList, biSorted, meFind, meCount, meJoin, meS, meL, meAppend, meInsert, mePop0, putL, getL, meRv, meTy, ixRv, slRv, revRv, src1, src2, src3, src4, src5, bindTg, bindTs, wipe, treesOf, tupOf, lstOf, app, Sto.trunc, glo0, glo1, glo2, SZ, -List.map_map, ixOf, T.eqOk, T.data, T.datas, T.calm, T.calms, T.depth, T.depths, T.beq, T.beqs]
  · simp [F_fits_line, ↓mb, ↓pu, ↓gd, ↓opt_some, ↓bad_app, ↓rv_val, ↓nox_app, ↓ite_a, ↓z_evE_1, ↓z_evE_2, ↓z_evE_3, ↓z_evE_4, ↓z_evE_5, ↓z_evE_6, ↓z_evE_7, ↓z_evE_8, ↓z_evE_9, ↓z_evE_10, ↓z_evE_11, ↓z_evE_12, ↓z_evE_13, ↓z_evE_14, ↓z_evE_15, ↓z_evE_16, ↓z_evE_17, ↓z_evE_18, ↓z_evE_19, ↓z_evE_20, ↓z_evE_21, ↓z_evE_22, ↓z_evE_23, ↓z_evE_24, ↓z_evRs_1, ↓z_evRs_2, ↓z_evO_1, ↓z_evO_2, ↓z_evT_1, ↓z_evT_2, ↓z_evT_3, ↓z_evT_4, ↓z_evC_1, ↓z_evC_2, ↓z_evIt_1, ↓z_evIt_3, ↓z_evIt_4, ↓z_evIt_5, ↓z_evIt_6, ↓z_evS_1, ↓z_evS_2, ↓z_evS_3, ↓z_evS_4, ↓z_evS_5, ↓z_evS_6, ↓z_evS_7, ↓z_evS_8, ↓z_evS_9, ↓z_evS_10, ↓z_evS_11, ↓z_evS_12, ↓z_evS_13, ↓z_evSs_1, ↓z_evSs_2, ↓evIt_rng, leave, start, slotRv, Rv.tree, Rv.isI, Rv.isB, Rv.isS, T.isI, T.isB, T.isS, Rv.w, Rv.lst, Rv.seq, lstAt, seqAt, Rv.data, binop, cmpop, eqRv, inRv, ltRv, isRv, truth, isTy, isiRv, lenRv, LL.bi, biLen, biAll, biAny, biInt, biStr, biTuple, biList, biSorted, meFind, meCount, meJoin, meS, meL, meAppend, meInsert, mePop0, putL, getL, meRv, meTy, ixRv, slRv, revRv, src1, src2, src3, src4, src5, bindTg, bindTs, wipe, treesOf, tupOf, lstOf, app, Sto.trunc, glo0, glo1, glo2, SZ, -List.map_map, ixOf, T.eqOk, T.data, T.datas, T.calm, T.calms, T.depth, T.depths, T.beq, T.beqs, hz, cut_one]
    rw [lc_map (fun _ => .bl true) S rfl _ ?hl]
    · simp [↓mb, ↓pu, ↓gd, ↓opt_some, ↓bad_app, ↓rv_val, ↓nox_app, ↓ite_a, ↓z_evE_1, ↓z_evE_2, ↓z_evE_3, ↓z_evE_4, ↓z_evE_5, ↓z_evE_6, ↓z_evE_7, ↓z_evE_8, ↓z_evE_9, ↓z_evE_10, ↓z_evE_11, ↓z_evE_12, ↓z_evE_13, ↓z_evE_14, ↓z_evE_15, ↓z_evE_16, ↓z_evE_17, ↓z_evE_18, ↓z_evE_19, ↓z_evE_20, ↓z_evE_21, ↓z_evE_22, ↓z_evE_23, ↓z_evE_24, ↓z_evRs_1, ↓z_evRs_2, ↓z_evO_1, ↓z_evO_2, ↓z_evT_1, ↓z_evT_2, ↓z_evT_3, ↓z_evT_4, ↓z_evC_1, ↓z_evC_2, ↓z_evIt_1, ↓z_evIt_3, ↓z_evIt_4, ↓z_evIt_5, ↓z_evIt_6, ↓z_evS_1, ↓z_evS_2, ↓z_evS_3, ↓z_evS_4, ↓z_evS_5, ↓z_evS_6, ↓z_evS_7, ↓z_evS_8, ↓z_evS_9, ↓z_evS_10, ↓z_evS_11, ↓z_evS_12, ↓z_evS_13, ↓z_evSs_1, ↓z_evSs_2, ↓evIt_rng, leave, start, slotRv, Rv.tree, Rv.isI, Rv.isB, Rv.isS, T.isI, T.isB, T.isS, Rv.w, Rv.lst, Rv.seq, lstAt, seqAt, Rv.data, binop, cmpop, eqRv, inRv, ltRv, isRv, truth, isTy, isiRv, lenRv, LL.bi, biLen, biAll, biAny, biInt, biStr, biTuple, biList, biSorted, meFind, meCount, meJoin, meS, meL, meAppend, meInsert, mePop0, putL, getL, meRv, meTy, ixRv, slRv, revRv, src1, src2, src3, src4, src5, bindTg, bindTs, wipe, treesOf, tupOf, lstOf, app, Sto.trunc, glo0, glo1, glo2, SZ, -List.map_map, ixOf, T.eqOk, T.data, T.datas, T.calm, T.calms, T.depth, T.depths, T.beq, T.beqs, allBl_c]
    · intro x hx a ha
      obtain ⟨p, q, hpq, rfl⟩ := noTwo_zip t (hf.2 rfl) x (by simpa using hx)
      simp [↓mb, ↓pu, ↓gd, ↓opt_some, ↓bad_app, ↓rv_val, ↓nox_app, ↓ite_a, ↓z_evE_1, ↓z_evE_2, ↓z_evE_3, ↓z_evE_4, ↓z_evE_5, ↓z_evE_6, ↓z_evE_7, ↓z_evE_8, ↓z_evE_9, ↓z_evE_10, ↓z_evE_11, ↓z_evE_12, ↓z_evE_13, ↓z_evE_14, ↓z_evE_15, ↓z_evE_16, ↓z_evE_17, ↓z_evE_18, ↓z_evE_19, ↓z_evE_20, ↓z_evE_21, ↓z_evE_22, ↓z_evE_23, ↓z_evE_24, ↓z_evRs_1, ↓z_evRs_2, ↓z_evO_1, ↓z_evO_2, ↓z_evT_1, ↓z_evT_2, ↓z_evT_3, ↓z_evT_4, ↓z_evC_1, ↓z_evC_2, ↓z_evIt_1, ↓z_evIt_3, ↓z_evIt_4, ↓z_evIt_5, ↓z_evIt_6, ↓z_evS_1, ↓z_evS_2, ↓z_evS_3, ↓z_evS_4, ↓z_evS_5, ↓z_evS_6, ↓z_evS_7, ↓z_evS_8, ↓z_evS_9, ↓z_evS_10, ↓z_evS_11, ↓z_evS_12, ↓z_evS_13, ↓z_evSs_1, ↓z_evSs_2, ↓evIt_rng, leave, start, slotRv, Rv.tree, Rv.isI, Rv.isB, Rv.isS, T.isI, T.isB, T.isS, Rv.w, Rv.lst, Rv.seq, lstAt, seqAt, Rv.data, binop, cmpop, eqRv, inRv, ltRv, isRv, truth, isTy, isiRv, lenRv, LL.bi, biLen, biAll, biAny, biInt, biStr, biTuple, biList, biSorted, meFind, meCount, meJoin, meS, meL, meAppend, meInsert, mePop0, putL, getL, meRv, meTy, ixRv, slRv, revRv, src1, src2, src3, src4, src5, bindTg, bindTs, wipe, treesOf, tupOf, lstOf, app, Sto.trunc, glo0, glo1, glo2, SZ, -List.map_map, ixOf, T.eqOk, T.data, T.datas, T.calm, T.calms, T.depth, T.depths, T.beq, T.beqs, hpq, ha]
    case hl => simp only [zip2Items, List.length_zipWith, List.length_map]; omega
  · have e := hf.1 rfl
    simp [F_fits_line, ↓mb, ↓pu, ↓gd, ↓opt_some, ↓bad_app, ↓rv_val, ↓nox_app, ↓ite_a, ↓z_evE_1, ↓z_evE_2, ↓z_evE_3, ↓z_evE_4, ↓z_evE_5, ↓z_evE_6, ↓z_evE_7, ↓z_evE_8, ↓z_evE_9, ↓z_evE_10, ↓z_evE_11, ↓z_evE_12, ↓z_evE_13, ↓z_evE_14, ↓z_evE_15, ↓z_evE_16, ↓z_evE_17, ↓z_evE_18, ↓z_evE_19, ↓z_evE_20, ↓z_evE_21, ↓z_evE_22, ↓z_evE_23, ↓z_evE_24, ↓z_evRs_1, ↓z_evRs_2, ↓z_evO_1, ↓z_evO_2, ↓z_evT_1, ↓z_evT_2, ↓z_evT_3, ↓z_evT_4, ↓z_evC_1, ↓z_evC_2, ↓z_evIt_1, ↓z_evIt_3, ↓z_evIt_4, ↓z_evIt_5, ↓z_evIt_6, ↓z_evS_1, ↓z_evS_2, ↓z_evS_3, ↓z_evS_4, ↓z_evS_5, ↓z_evS_6, ↓z_evS_7, ↓z_evS_8, ↓z_evS_9, ↓z_evS_10, ↓z_evS_11, ↓z_evS_12, ↓z_evS_13, ↓z_evSs_1, ↓z_evSs_2, ↓evIt_rng, leave, start, slotRv, Rv.tree, Rv.isI, Rv.isB, Rv.isS, T.isI, T.isB, T.isS, Rv.w, Rv.lst, Rv.seq, lstAt, seqAt, Rv.data, binop, cmpop, eqRv, inRv, ltRv, isRv, truth, isTy, isiRv, lenRv, LL.bi, biLen, biAll, biAny, biInt, biStr, biTuple, biList, biSorted, meFind, meCount, meJoin, meS, meL, meAppend, meInsert, mePop0, putL, getL, meRv, meTy, ixRv, slRv, revRv, src1, src2, src3, src4, src5, bindTg, bindTs, wipe, treesOf, tupOf, lstOf, app, Sto.trunc, glo0, glo1, glo2, SZ, -List.map_map, ixOf, T.eqOk, T.data, T.datas, T.calm, T.calms, T.depth, T.depths, T.beq, T.beqs, io, e]
/-! ### places -/
structure Pl where
  i : Int
  j : Int
  ts : List Cs
def Pl.t (p : Pl) : T := .tup [.tup [.int p.i, .int p.j], .tup (p.ts.map T.str)]
structure Tk where
  p : Int
  q : Int
  ms : List Cs
  rs : List T
def Tk.t (a : Tk) : T := .tup [.tup [.int a.p, .int a.q], .tup (a.ms.map T.str), .tup a.rs]
def RuleOk (a : Tk) (r : T) : Prop := ∃ (e i j : Int) (d : Cs), r = .tup [.int e, .int i, .str d, .int j] ∧ (e = 0 ∨ e = 1) ∧ (d = [] ∨ ∃ x b c, d = [x, b, c] ∧ (x = 43 ∨ x = 45) ∧ (b = 48 ∧ 1 ≤ a.ms.length ∨ b = 49 ∧ 2 ≤ a.ms.length) ∧ (c = 97 ∨ c = 98 ∨ c = 99)) ∧ 0 ≤ i ∧ (i < if e = 0 then a.p else a.q) ∧ 0 ≤ j ∧ (j < if e = 0 then a.p else a.q)
structure TkOk (a : Tk) : Prop where
  p1 : 1 ≤ a.p
  p4 : a.p ≤ 4
  q1 : 1 ≤ a.q
  q4 : a.q ≤ 4
  ms : Mans a.ms
  rs : ∀ r ∈ a.rs, RuleOk a r
  rl : a.rs.length ≤ 10
  so : Srt a.rs
structure PlOk (a : Tk) (x : Pl) : Prop where
  i0 : 0 ≤ x.i
  i1 : x.i < a.p
  j0 : 0 ≤ x.j
  j1 : x.j < a.q
  len : x.ts.length = a.ms.length
  fit : ∀ z ∈ List.zip a.ms x.ts, z.2.length ≤ 60 ∧ (∀ c ∈ z.2, c = 97 ∨ c = 98 ∨ c = 99) ∧ Fit z.1 z.2
theorem zip_items : ∀ (a b : List Cs) (x : T), x ∈ zip2Items (a.map T.str) (b.map T.str) → ∃ z ∈ List.zip a b, x = .tup [.str z.1, .str z.2]
  | [], b, x, h => by simp [zip2Items] at h
  | a :: r, [], x, h => by simp [zip2Items] at h
  | a :: r, b :: s, x, h => by
    simp only [zip2Items, List.map_cons, List.zipWith_cons_cons, List.mem_cons] at h
    rcases h with rfl | h
    · exact ⟨(a, b), by simp, rfl⟩
    · obtain ⟨z, hz, e⟩ := zip_items r s x h
      exact ⟨z, by simp [hz], e⟩
theorem is_one_t {k : Nat} {S : Sto} {a : Tk} {x : Pl} (ha : TkOk a) (hx : PlOk a x) : run prog (k + 3) 10 [.t a.t, .t x.t] S = .ok (.v (.bl true)) S := by
  have ip := is_pair_t (k := k) (S := S) hx.i0 hx.i1 hx.j0 hx.j1
  have hl := hx.len
  have hl2 : (a.ms.length : Int) ≤ 2 := by have := ha.ms.1; omega
  rw [run_fn (rfl : prog.fn 10 = some F_is_one)]
  simp [F_is_one, Pl.t, Tk.t, ↓mb, ↓pu, ↓gd, ↓opt_some, ↓bad_app, ↓rv_val, ↓nox_app, ↓ite_a, ↓z_evE_1, ↓z_evE_2, ↓z_evE_3, ↓z_evE_4, ↓z_evE_5, ↓z_evE_6, ↓z_evE_7, ↓z_evE_8, ↓z_evE_9, ↓z_evE_10, ↓z_evE_11, ↓z_evE_12, ↓z_evE_13, ↓z_evE_14, ↓z_evE_15, ↓z_evE_16, ↓z_evE_17, ↓z_evE_18, ↓z_evE_19, ↓z_evE_20, ↓z_evE_21, ↓z_evE_22, ↓z_evE_23, ↓z_evE_24, ↓z_evRs_1, ↓z_evRs_2, ↓z_evO_1, ↓z_evO_2, ↓z_evT_1, ↓z_evT_2, ↓z_evT_3, ↓z_evT_4, ↓z_evC_1, ↓z_evC_2, ↓z_evIt_1, ↓z_evIt_3, ↓z_evIt_4, ↓z_evIt_5, ↓z_evIt_6, ↓z_evS_1, ↓z_evS_2, ↓z_evS_3, ↓z_evS_4, ↓z_evS_5, ↓z_evS_6, ↓z_evS_7, ↓z_evS_8, ↓z_evS_9, ↓z_evS_10, ↓z_evS_11, ↓z_evS_12, ↓z_evS_13, ↓z_evSs_1, ↓z_evSs_2, ↓evIt_rng, leave, start, slotRv, Rv.tree, Rv.isI, Rv.isB, Rv.isS, T.isI, T.isB, T.isS, Rv.w, Rv.lst, Rv.seq, lstAt, seqAt, Rv.data, binop, cmpop, eqRv, inRv, ltRv, isRv, truth, isTy, isiRv, lenRv, LL.bi, biLen, biAll, biAny, biInt, biStr, biTuple, biList, biSorted, meFind, meCount, meJoin, meS, meL, meAppend, meInsert, mePop0, putL, getL, meRv, meTy, ixRv, slRv, revRv, src1, src2, src3, src4, src5, bindTg, bindTs, wipe, treesOf, tupOf, lstOf, app, Sto.trunc, glo0, glo1, glo2, SZ, -List.map_map, ixOf, T.eqOk, T.data, T.datas, T.calm, T.calms, T.depth, T.depths, T.beq, T.beqs, ip, hl]
  rw [lc_map (fun _ => .bl true) S rfl _ ?hl]
  · simp [↓mb, ↓pu, ↓gd, ↓opt_some, ↓bad_app, ↓rv_val, ↓nox_app, ↓ite_a, ↓z_evE_1, ↓z_evE_2, ↓z_evE_3, ↓z_evE_4, ↓z_evE_5, ↓z_evE_6, ↓z_evE_7, ↓z_evE_8, ↓z_evE_9, ↓z_evE_10, ↓z_evE_11, ↓z_evE_12, ↓z_evE_13, ↓z_evE_14, ↓z_evE_15, ↓z_evE_16, ↓z_evE_17, ↓z_evE_18, ↓z_evE_19, ↓z_evE_20, ↓z_evE_21, ↓z_evE_22, ↓z_evE_23, ↓z_evE_24, ↓z_evRs_1, ↓z_evRs_2, ↓z_evO_1, ↓z_evO_2, ↓z_evT_1, ↓z_evT_2, ↓z_evT_3, ↓z_evT_4, ↓z_evC_1, ↓z_evC_2, ↓z_evIt_1, ↓z_evIt_3, ↓z_evIt_4, ↓z_evIt_5, ↓z_evIt_6, ↓z_evS_1, ↓z_evS_2, ↓z_evS_3, ↓z_evS_4, ↓z_evS_5, ↓z_evS_6, ↓z_evS_7, ↓z_evS_8, ↓z_evS_9, ↓z_evS_10, ↓z_evS_11, ↓z_evS_12, ↓z_evS_13, ↓z_evSs_1, ↓z_evSs_2, ↓evIt_rng, leave, start, slotRv, Rv.tree, Rv.isI, Rv.isB, Rv.isS, T.isI, T.isB, T.isS, Rv.w, Rv.lst, Rv.seq, lstAt, seqAt, Rv.data, binop, cmpop, eqRv, inRv, ltRv, isRv, truth, isTy, isiRv, lenRv, LL.bi, biLen, biAll, biAny, biInt, biStr, biTuple, biList, biSorted, meFind, meCount, meJoin, meS, meL, meAppend, meInsert, mePop0, putL, getL, meRv, meTy, ixRv, slRv, revRv, src1, src2, src3, src4, src5, bindTg, bindTs, wipe, treesOf, tupOf, lstOf, app, Sto.trunc, glo0, glo1, glo2, SZ, -List.map_map, ixOf, T.eqOk, T.data, T.datas, T.calm, T.calms, T.depth, T.depths, T.beq, T.beqs, allBl_c]
  · intro y hy b hb
    obtain ⟨z, hz, rfl⟩ := zip_items _ _ y hy
    obtain ⟨f1, f2, f3⟩ := hx.fit z hz
    have it := is_text_t (k := k + 1) (S := S) f1 f2
    have fl := fits_line_t (k := k) (S := S) (ha.ms.2 z.1 (List.of_mem_zip hz).1) f1 f3
    simp [↓mb, ↓pu, ↓gd, ↓opt_some, ↓bad_app, ↓rv_val, ↓nox_app, ↓ite_a, ↓z_evE_1, ↓z_evE_2, ↓z_evE_3, ↓z_evE_4, ↓z_evE_5, ↓z_evE_6, ↓z_evE_7, ↓z_evE_8, ↓z_evE_9, ↓z_evE_10, ↓z_evE_11, ↓z_evE_12, ↓z_evE_13, ↓z_evE_14, ↓z_evE_15, ↓z_evE_16, ↓z_evE_17, ↓z_evE_18, ↓z_evE_19, ↓z_evE_20, ↓z_evE_21, ↓z_evE_22, ↓z_evE_23, ↓z_evE_24, ↓z_evRs_1, ↓z_evRs_2, ↓z_evO_1, ↓z_evO_2, ↓z_evT_1, ↓z_evT_2, ↓z_evT_3, ↓z_evT_4, ↓z_evC_1, ↓z_evC_2, ↓z_evIt_1, ↓z_evIt_3, ↓z_evIt_4, ↓z_evIt_5, ↓z_evIt_6, ↓z_evS_1, ↓z_evS_2, ↓z_evS_3, ↓z_evS_4, ↓z_evS_5, ↓z_evS_6, ↓z_evS_7, ↓z_evS_8, ↓z_evS_9, ↓z_evS_10, ↓z_evS_11, ↓z_evS_12, ↓z_evS_13, ↓z_evSs_1, ↓z_evSs_2, ↓evIt_rng, leave, start, slotRv, Rv.tree, Rv.isI, Rv.isB, Rv.isS, T.isI, T.isB, T.isS, Rv.w, Rv.lst, Rv.seq, lstAt, seqAt, Rv.data, binop, cmpop, eqRv, inRv, ltRv, isRv, truth, isTy, isiRv, lenRv, LL.bi, biLen, biAll, biAny, biInt, biStr, biTuple, biList, biSorted, meFind, meCount, meJoin, meS, meL, meAppend, meInsert, mePop0, putL, getL, meRv, meTy, ixRv, slRv, revRv, src1, src2, src3, src4, src5, bindTg, bindTs, wipe, treesOf, tupOf, lstOf, app, Sto.trunc, glo0, glo1, glo2, SZ, -List.map_map, ixOf, T.eqOk, T.data, T.datas, T.calm, T.calms, T.depth, T.depths, T.beq, T.beqs, it, fl, hb]
  case hl => simp only [zip2Items, List.length_zipWith, List.length_map]; omega
end LLQ

set_option Elab.async false
set_option linter.all false
set_option autoImplicit false
set_option maxRecDepth 100000
set_option maxHeartbeats 400000
namespace LLQ
open LL LLS LLP
theorem strs_data : ∀ ts : List Cs, T.datas (ts.map T.str) = true
  | [] => rfl
  | a :: r => by simp [T.datas, T.data, strs_data r]
theorem strs_depth : ∀ ts : List Cs, T.depths (ts.map T.str) = 0
  | [] => rfl
  | a :: r => by simp [T.depths, T.depth, strs_depth r]
theorem strs_calm : ∀ ts us : List Cs, T.calms (ts.map T.str) (us.map T.str) = true
  | [], us => by simp [T.calms]
  | a :: r, [] => by simp [T.calms]
  | a :: r, b :: s => by simp [T.calms, T.calm, strs_calm r s]
theorem strs_alike : ∀ ts us : List Cs, T.alikes (ts.map T.str) (us.map T.str) = true
  | [], us => by simp [T.alikes]
  | a :: r, [] => by simp [T.alikes]
  | a :: r, b :: s => by simp [T.alikes, T.alike, strs_alike r s]
structure Fam (P : T → Prop) : Prop where
  alike : ∀ a b, P a → P b → T.alike a b = true
  calm : ∀ a b, P a → P b → T.calm a b = true
  data : ∀ a, P a → a.data = true
  depth : ∀ a, P a → a.depth ≤ 10
def PlP (a : Tk) (x : T) : Prop := ∃ p, PlOk a p ∧ x = p.t
theorem pl_fam (a : Tk) : Fam (PlP a) := by
  refine ⟨?_, ?_, ?_, ?_⟩
  · rintro _ _ ⟨p, _, rfl⟩ ⟨q, _, rfl⟩; simp [Pl.t, T.alike, T.alikes, strs_alike]
  · rintro _ _ ⟨p, _, rfl⟩ ⟨q, _, rfl⟩; simp [Pl.t, T.calm, T.calms, strs_calm]
  · rintro _ ⟨p, _, rfl⟩; simp [Pl.t, T.data, T.datas, strs_data]
  · rintro _ ⟨p, _, rfl⟩; simp [Pl.t, T.depth, T.depths, strs_depth]
theorem rl_fam (a : Tk) : Fam (RuleOk a) := by
  refine ⟨?_, ?_, ?_, ?_⟩
  · rintro _ _ ⟨e, i, j, d, rfl, _⟩ ⟨e', i', j', d', rfl, _⟩; simp [T.alike, T.alikes]
  · rintro _ _ ⟨e, i, j, d, rfl, _⟩ ⟨e', i', j', d', rfl, _⟩; simp [T.calm, T.calms]
  · rintro _ ⟨e, i, j, d, rfl, _⟩; simp [T.data, T.datas]
  · rintro _ ⟨e, i, j, d, rfl, _⟩; simp [T.depth, T.depths]
theorem Fam.ltOk {P : T → Prop} (F : Fam P) {a b : T} (ha : P a) (hb : P b) : T.ltOk a b = true := by
  have := F.depth a ha
  simp [T.ltOk, F.alike a b ha hb, F.data a ha, F.data b hb]; omega
theorem Fam.eqOk {P : T → Prop} (F : Fam P) {a b : T} (ha : P a) (hb : P b) : T.eqOk a b = true := by
  have := F.depth a ha
  simp [T.eqOk, F.calm a b ha hb, F.data a ha, F.data b hb]; omega
theorem srt_zip : ∀ xs : List T, Srt xs → ∀ x ∈ zip2Items xs (xs.drop 1), ∃ a b, x = .tup [a, b] ∧ a ∈ xs ∧ b ∈ xs ∧ T.lt a b = true
  | [], _, x, h => by simp [zip2Items] at h
  | [a], _, x, h => by simp [zip2Items] at h
  | a :: b :: r, hs, x, h => by
    have hp := List.pairwise_cons.1 hs
    simp only [zip2Items, List.drop_succ_cons, List.drop_zero, List.zipWith_cons_cons, List.mem_cons] at h
    rcases h with rfl | h
    · exact ⟨a, b, rfl, by simp, by simp, hp.1 b (by simp)⟩
    · obtain ⟨u, v, e, h1, h2, h3⟩ := srt_zip (b :: r) hp.2 x (by simpa [zip2Items] using h)
      exact ⟨u, v, e, List.mem_cons_of_mem _ h1, List.mem_cons_of_mem _ h2, h3⟩
theorem is_talk_t {k : Nat} {S : Sto} {a : Tk} (ha : TkOk a) : run prog (k + 3) 7 [.t a.t] S = .ok (.v (.bl true)) S := by
  have iz := are_sizes_t (k := k) (S := S) ha.p1 ha.p4 ha.q1 ha.q4
  have im := are_manners_t (k := k + 1) (S := S) ha.ms
  have hl : ¬ (10 : Int) < (a.rs.length : Int) := by have := ha.rl; omega
  have hr := ha.rl
  have hc : cut a.rs (some 1) none = a.rs.drop 1 := cut_one _
  rw [run_fn (rfl : prog.fn 7 = some F_is_talk)]
  simp [F_is_talk, Tk.t, ↓mb, ↓pu, ↓gd, ↓opt_some, ↓bad_app, ↓rv_val, ↓nox_app, ↓ite_a, ↓z_evE_1, ↓z_evE_2, ↓z_evE_3, ↓z_evE_4, ↓z_evE_5, ↓z_evE_6, ↓z_evE_7, ↓z_evE_8, ↓z_evE_9, ↓z_evE_10, ↓z_evE_11, ↓z_evE_12, ↓z_evE_13, ↓z_evE_14, ↓z_evE_15, ↓z_evE_16, ↓z_evE_17, ↓z_evE_18, ↓z_evE_19, ↓z_evE_20, ↓z_evE_21, ↓z_evE_22, ↓z_evE_23, ↓z_evE_24, ↓z_evRs_1, ↓z_evRs_2, ↓z_evO_1, ↓z_evO_2, ↓z_evT_1, ↓z_evT_2, ↓z_evT_3, ↓z_evT_4, ↓z_evC_1, ↓z_evC_2, ↓z_evIt_1, ↓z_evIt_3, ↓z_evIt_4, ↓z_evIt_5, ↓z_evIt_6, ↓z_evS_1, ↓z_evS_2, ↓z_evS_3, ↓z_evS_4, ↓z_evS_5, ↓z_evS_6, ↓z_evS_7, ↓z_evS_8, ↓z_evS_9, ↓z_evS_10, ↓z_evS_11, ↓z_evS_12, ↓z_evS_13, ↓z_evSs_1, ↓z_evSs_2, ↓evIt_rng, leave, start, slotRv, Rv.tree, Rv.isI, Rv.isB, Rv.isS, T.isI, T.isB, T.isS, Rv.w, Rv.lst, Rv.seq, lstAt, seqAt, Rv.data, binop, cmpop, eqRv, inRv, ltRv, isRv, truth, isTy, isiRv, lenRv, LL.bi, biLen, biAll, biAny, biInt, biStr, biTuple, biList, biSorted, meFind, meCount, meJoin, meS, meL, meAppend, meInsert, mePop0, putL, getL, meRv, meTy, ixRv, slRv, revRv, src1, src2, src3, src4, src5, bindTg, bindTs, wipe, treesOf, tupOf, lstOf, app, Sto.trunc, glo0, glo1, glo2, SZ, -List.map_map, ixOf, T.eqOk, T.data, T.datas, T.calm, T.calms, T.depth, T.depths, T.beq, T.beqs, iz, im, hl]
  rw [lc_map (fun _ => .bl true) S rfl _ (by omega)]
  · simp [↓mb, ↓pu, ↓gd, ↓opt_some, ↓bad_app, ↓rv_val, ↓nox_app, ↓ite_a, ↓z_evE_1, ↓z_evE_2, ↓z_evE_3, ↓z_evE_4, ↓z_evE_5, ↓z_evE_6, ↓z_evE_7, ↓z_evE_8, ↓z_evE_9, ↓z_evE_10, ↓z_evE_11, ↓z_evE_12, ↓z_evE_13, ↓z_evE_14, ↓z_evE_15, ↓z_evE_16, ↓z_evE_17, ↓z_evE_18, ↓z_evE_19, ↓z_evE_20, ↓z_evE_21, ↓z_evE_22, ↓z_evE_23, ↓z_evE_24, ↓z_evRs_1, ↓z_evRs_2, ↓z_evO_1, ↓z_evO_2, ↓z_evT_1, ↓z_evT_2, ↓z_evT_3, ↓z_evT_4, ↓z_evC_1, ↓z_evC_2, ↓z_evIt_1, ↓z_evIt_3, ↓z_evIt_4, ↓z_evIt_5, ↓z_evIt_6, ↓z_evS_1, ↓z_evS_2, ↓z_evS_3, ↓z_evS_4, ↓z_evS_5, ↓z_evS_6, ↓z_evS_7, ↓z_evS_8, ↓z_evS_9, ↓z_evS_10, ↓z_evS_11, ↓z_evS_12, ↓z_evS_13, ↓z_evSs_1, ↓z_evSs_2, ↓evIt_rng, leave, start, slotRv, Rv.tree, Rv.isI, Rv.isB, Rv.isS, T.isI, T.isB, T.isS, Rv.w, Rv.lst, Rv.seq, lstAt, seqAt, Rv.data, binop, cmpop, eqRv, inRv, ltRv, isRv, truth, isTy, isiRv, lenRv, LL.bi, biLen, biAll, biAny, biInt, biStr, biTuple, biList, biSorted, meFind, meCount, meJoin, meS, meL, meAppend, meInsert, mePop0, putL, getL, meRv, meTy, ixRv, slRv, revRv, src1, src2, src3, src4, src5, bindTg, bindTs, wipe, treesOf, tupOf, lstOf, app, Sto.trunc, glo0, glo1, glo2, SZ, -List.map_map, ixOf, T.eqOk, T.data, T.datas, T.calm, T.calms, T.depth, T.depths, T.beq, T.beqs, allBl_c, hc]
    rw [lc_map (fun _ => .bl true) S rfl _ ?hl]
    · simp [↓mb, ↓pu, ↓gd, ↓opt_some, ↓bad_app, ↓rv_val, ↓nox_app, ↓ite_a, ↓z_evE_1, ↓z_evE_2, ↓z_evE_3, ↓z_evE_4, ↓z_evE_5, ↓z_evE_6, ↓z_evE_7, ↓z_evE_8, ↓z_evE_9, ↓z_evE_10, ↓z_evE_11, ↓z_evE_12, ↓z_evE_13, ↓z_evE_14, ↓z_evE_15, ↓z_evE_16, ↓z_evE_17, ↓z_evE_18, ↓z_evE_19, ↓z_evE_20, ↓z_evE_21, ↓z_evE_22, ↓z_evE_23, ↓z_evE_24, ↓z_evRs_1, ↓z_evRs_2, ↓z_evO_1, ↓z_evO_2, ↓z_evT_1, ↓z_evT_2, ↓z_evT_3, ↓z_evT_4, ↓z_evC_1, ↓z_evC_2, ↓z_evIt_1, ↓z_evIt_3, ↓z_evIt_4, ↓z_evIt_5, ↓z_evIt_6, ↓z_evS_1, ↓z_evS_2, ↓z_evS_3, ↓z_evS_4, ↓z_evS_5, ↓z_evS_6, ↓z_evS_7, ↓z_evS_8, ↓z_evS_9, ↓z_evS_10, ↓z_evS_11, ↓z_evS_12, ↓z_evS_13, ↓z_evSs_1, ↓z_evSs_2, ↓evIt_rng, leave, start, slotRv, Rv.tree, Rv.isI, Rv.isB, Rv.isS, T.isI, T.isB, T.isS, Rv.w, Rv.lst, Rv.seq, lstAt, seqAt, Rv.data, binop, cmpop, eqRv, inRv, ltRv, isRv, truth, isTy, isiRv, lenRv, LL.bi, biLen, biAll, biAny, biInt, biStr, biTuple, biList, biSorted, meFind, meCount, meJoin, meS, meL, meAppend, meInsert, mePop0, putL, getL, meRv, meTy, ixRv, slRv, revRv, src1, src2, src3, src4, src5, bindTg, bindTs, wipe, treesOf, tupOf, lstOf, app, Sto.trunc, glo0, glo1, glo2, SZ, -List.map_map, ixOf, T.eqOk, T.data, T.datas, T.calm, T.calms, T.depth, T.depths, T.beq, T.beqs, allBl_c]
    · intro y hy b hb
      obtain ⟨u, v, rfl, h1, h2, h3⟩ := srt_zip a.rs ha.so y (by simpa using hy)
      simp [↓mb, ↓pu, ↓gd, ↓opt_some, ↓bad_app, ↓rv_val, ↓nox_app, ↓ite_a, ↓z_evE_1, ↓z_evE_2, ↓z_evE_3, ↓z_evE_4, ↓z_evE_5, ↓z_evE_6, ↓z_evE_7, ↓z_evE_8, ↓z_evE_9, ↓z_evE_10, ↓z_evE_11, ↓z_evE_12, ↓z_evE_13, ↓z_evE_14, ↓z_evE_15, ↓z_evE_16, ↓z_evE_17, ↓z_evE_18, ↓z_evE_19, ↓z_evE_20, ↓z_evE_21, ↓z_evE_22, ↓z_evE_23, ↓z_evE_24, ↓z_evRs_1, ↓z_evRs_2, ↓z_evO_1, ↓z_evO_2, ↓z_evT_1, ↓z_evT_2, ↓z_evT_3, ↓z_evT_4, ↓z_evC_1, ↓z_evC_2, ↓z_evIt_1, ↓z_evIt_3, ↓z_evIt_4, ↓z_evIt_5, ↓z_evIt_6, ↓z_evS_1, ↓z_evS_2, ↓z_evS_3, ↓z_evS_4, ↓z_evS_5, ↓z_evS_6, ↓z_evS_7, ↓z_evS_8, ↓z_evS_9, ↓z_evS_10, ↓z_evS_11, ↓z_evS_12, ↓z_evS_13, ↓z_evSs_1, ↓z_evSs_2, ↓evIt_rng, leave, start, slotRv, Rv.tree, Rv.isI, Rv.isB, Rv.isS, T.isI, T.isB, T.isS, Rv.w, Rv.lst, Rv.seq, lstAt, seqAt, Rv.data, binop, cmpop, eqRv, inRv, ltRv, isRv, truth, isTy, isiRv, lenRv, LL.bi, biLen, biAll, biAny, biInt, biStr, biTuple, biList, biSorted, meFind, meCount, meJoin, meS, meL, meAppend, meInsert, mePop0, putL, getL, meRv, meTy, ixRv, slRv, revRv, src1, src2, src3, src4, src5, bindTg, bindTs, wipe, treesOf, tupOf, lstOf, app, Sto.trunc, glo0, glo1, glo2, SZ, -List.map_map, ixOf, T.eqOk, T.data, T.datas, T.calm, T.calms, T.depth, T.depths, T.beq, T.beqs, (rl_fam a).ltOk (ha.rs u h1) (ha.rs v h2), h3, hb]
    case hl => simp only [zip2Items, List.length_zipWith]; omega
  · intro y hy b hb
    obtain ⟨e, i, j, d, rfl, he, hd, h1, h2, h3, h4⟩ := ha.rs y hy
    have ir := is_rule_t (k := k) (S := S) he hd h1 h2 h3 h4
    simp [↓mb, ↓pu, ↓gd, ↓opt_some, ↓bad_app, ↓rv_val, ↓nox_app, ↓ite_a, ↓z_evE_1, ↓z_evE_2, ↓z_evE_3, ↓z_evE_4, ↓z_evE_5, ↓z_evE_6, ↓z_evE_7, ↓z_evE_8, ↓z_evE_9, ↓z_evE_10, ↓z_evE_11, ↓z_evE_12, ↓z_evE_13, ↓z_evE_14, ↓z_evE_15, ↓z_evE_16, ↓z_evE_17, ↓z_evE_18, ↓z_evE_19, ↓z_evE_20, ↓z_evE_21, ↓z_evE_22, ↓z_evE_23, ↓z_evE_24, ↓z_evRs_1, ↓z_evRs_2, ↓z_evO_1, ↓z_evO_2, ↓z_evT_1, ↓z_evT_2, ↓z_evT_3, ↓z_evT_4, ↓z_evC_1, ↓z_evC_2, ↓z_evIt_1, ↓z_evIt_3, ↓z_evIt_4, ↓z_evIt_5, ↓z_evIt_6, ↓z_evS_1, ↓z_evS_2, ↓z_evS_3, ↓z_evS_4, ↓z_evS_5, ↓z_evS_6, ↓z_evS_7, ↓z_evS_8, ↓z_evS_9, ↓z_evS_10, ↓z_evS_11, ↓z_evS_12, ↓z_evS_13, ↓z_evSs_1, ↓z_evSs_2, ↓evIt_rng, leave, start, slotRv, Rv.tree, Rv.isI, Rv.isB, Rv.isS, T.isI, T.isB, T.isS, Rv.w, Rv.lst, Rv.seq, lstAt, seqAt, Rv.data, binop, cmpop, eqRv, inRv, ltRv, isRv, truth, isTy, isiRv, lenRv, LL.bi, biLen, biAll, biAny, biInt, biStr, biTuple, biList, biSorted, meFind, meCount, meJoin, meS, meL, meAppend, meInsert, mePop0, putL, getL, meRv, meTy, ixRv, slRv, revRv, src1, src2, src3, src4, src5, bindTg, bindTs, wipe, treesOf, tupOf, lstOf, app, Sto.trunc, glo0, glo1, glo2, SZ, -List.map_map, ixOf, T.eqOk, T.data, T.datas, T.calm, T.calms, T.depth, T.depths, T.beq, T.beqs, ir, hb]
theorem need_talk_t {k : Nat} {S : Sto} {a : Tk} (ha : TkOk a) : run prog (k + 4) 11 [.t a.t] S = .ok (.v .non) S := by
  have it := is_talk_t (k := k) (S := S) ha
  rw [run_fn (rfl : prog.fn 11 = some F_need_talk)]
  simp [F_need_talk, ↓mb, ↓pu, ↓gd, ↓opt_some, ↓bad_app, ↓rv_val, ↓nox_app, ↓ite_a, ↓z_evE_1, ↓z_evE_2, ↓z_evE_3, ↓z_evE_4, ↓z_evE_5, ↓z_evE_6, ↓z_evE_7, ↓z_evE_8, ↓z_evE_9, ↓z_evE_10, ↓z_evE_11, ↓z_evE_12, ↓z_evE_13, ↓z_evE_14, ↓z_evE_15, ↓z_evE_16, ↓z_evE_17, ↓z_evE_18, ↓z_evE_19, ↓z_evE_20, ↓z_evE_21, ↓z_evE_22, ↓z_evE_23, ↓z_evE_24, ↓z_evRs_1, ↓z_evRs_2, ↓z_evO_1, ↓z_evO_2, ↓z_evT_1, ↓z_evT_2, ↓z_evT_3, ↓z_evT_4, ↓z_evC_1, ↓z_evC_2, ↓z_evIt_1, ↓z_evIt_3, ↓z_evIt_4, ↓z_evIt_5, ↓z_evIt_6, ↓z_evS_1, ↓z_evS_2, ↓z_evS_3, ↓z_evS_4, ↓z_evS_5, ↓z_evS_6, ↓z_evS_7, ↓z_evS_8, ↓z_evS_9, ↓z_evS_10, ↓z_evS_11, ↓z_evS_12, ↓z_evS_13, ↓z_evSs_1, ↓z_evSs_2, ↓evIt_rng, leave, start, slotRv, Rv.tree, Rv.isI, Rv.isB, Rv.isS, T.isI, T.isB, T.isS, Rv.w, Rv.lst, Rv.seq, lstAt, seqAt, Rv.data, binop, cmpop, eqRv, inRv, ltRv, isRv, truth, isTy, isiRv, lenRv, LL.bi, biLen, biAll, biAny, biInt, biStr, biTuple, biList, biSorted, meFind, meCount, meJoin, meS, meL, meAppend, meInsert, mePop0, putL, getL, meRv, meTy, ixRv, slRv, revRv, src1, src2, src3, src4, src5, bindTg, bindTs, wipe, treesOf, tupOf, lstOf, app, Sto.trunc, glo0, glo1, glo2, SZ, -List.map_map, ixOf, T.eqOk, T.data, T.datas, T.calm, T.calms, T.depth, T.depths, T.beq, T.beqs, it]
theorem need_situation_t {k : Nat} {S : Sto} {a : Tk} {x : Pl} (ha : TkOk a) (hx : PlOk a x) : run prog (k + 4) 41 [.t a.t, .t x.t] S = .ok (.v .non) S := by
  have it := is_one_t (k := k) (S := S) ha hx
  rw [run_fn (rfl : prog.fn 41 = some F_need_situation)]
  simp [F_need_situation, ↓mb, ↓pu, ↓gd, ↓opt_some, ↓bad_app, ↓rv_val, ↓nox_app, ↓ite_a, ↓z_evE_1, ↓z_evE_2, ↓z_evE_3, ↓z_evE_4, ↓z_evE_5, ↓z_evE_6, ↓z_evE_7, ↓z_evE_8, ↓z_evE_9, ↓z_evE_10, ↓z_evE_11, ↓z_evE_12, ↓z_evE_13, ↓z_evE_14, ↓z_evE_15, ↓z_evE_16, ↓z_evE_17, ↓z_evE_18, ↓z_evE_19, ↓z_evE_20, ↓z_evE_21, ↓z_evE_22, ↓z_evE_23, ↓z_evE_24, ↓z_evRs_1, ↓z_evRs_2, ↓z_evO_1, ↓z_evO_2, ↓z_evT_1, ↓z_evT_2, ↓z_evT_3, ↓z_evT_4, ↓z_evC_1, ↓z_evC_2, ↓z_evIt_1, ↓z_evIt_3, ↓z_evIt_4, ↓z_evIt_5, ↓z_evIt_6, ↓z_evS_1, ↓z_evS_2, ↓z_evS_3, ↓z_evS_4, ↓z_evS_5, ↓z_evS_6, ↓z_evS_7, ↓z_evS_8, ↓z_evS_9, ↓z_evS_10, ↓z_evS_11, ↓z_evS_12, ↓z_evS_13, ↓z_evSs_1, ↓z_evSs_2, ↓evIt_rng, leave, start, slotRv, Rv.tree, Rv.isI, Rv.isB, Rv.isS, T.isI, T.isB, T.isS, Rv.w, Rv.lst, Rv.seq, lstAt, seqAt, Rv.data, binop, cmpop, eqRv, inRv, ltRv, isRv, truth, isTy, isiRv, lenRv, LL.bi, biLen, biAll, biAny, biInt, biStr, biTuple, biList, biSorted, meFind, meCount, meJoin, meS, meL, meAppend, meInsert, mePop0, putL, getL, meRv, meTy, ixRv, slRv, revRv, src1, src2, src3, src4, src5, bindTg, bindTs, wipe, treesOf, tupOf, lstOf, app, Sto.trunc, glo0, glo1, glo2, SZ, -List.map_map, ixOf, T.eqOk, T.data, T.datas, T.calm, T.calms, T.depth, T.depths, T.beq, T.beqs, it]
/-! ### parts -/
def sub : Cs → Cs → Bool
  | [], _ => true
  | _ :: _, [] => false
  | a :: s, b :: t => if a = b then sub s t else sub (a :: s) t
theorem sub_find (c : Nat) (r : Cs) : ∀ (l : Cs) (i : Nat), match findFrom c l i with | some j => i ≤ j ∧ sub (c :: r) l = sub r (l.drop (j + 1 - i)) | none => sub (c :: r) l = false
  | [], i => by simp [findFrom, sub]
  | d :: l, i => by
    unfold findFrom
    by_cases h : d = c
    · subst h; simp [sub]
    · have h2 : ¬ c = d := fun e => h e.symm
      have ih := sub_find c r l (i + 1)
      simp only [h, if_false]
      cases e : findFrom c l (i + 1) with
      | none => rw [e] at ih; simpa [sub, h2] using ih
      | some j =>
        rw [e] at ih
        simp only at ih ⊢
        refine ⟨by omega, ?_⟩
        have : j + 1 - i = (j + 1 - (i + 1)) + 1 := by omega
        rw [this, List.drop_succ_cons]
        simpa [sub, h2] using ih.2
theorem part_loop {step : T → Env → M (Fl × Env)} {other : Cs} {w1 w2 : Option W} {S : Sto}
    (hs : ∀ (c i : Nat) (x : Option W), step (.str [c]) [w1, w2, some (.t (.int i)), x] S = match findFrom c (other.drop i) i with
      | some j => .ok (.next, [w1, w2, some (.t (.int ((j + 1 : Nat) : Int))), some (.t (.str [c]))]) S
      | none => .ok (.ret (.v (.bl false)), [w1, w2, some (.t (.int ((0 : Nat) : Int))), some (.t (.str [c]))]) S) :
    ∀ (rest : Cs) (i : Nat) (x : Option W), ∃ σ, forLoop [] step (rest.map fun c => .str [c]) [w1, w2, some (.t (.int i)), x] S = .ok (if sub rest (other.drop i) then .next else .ret (.v (.bl false)), σ) S
  | [], i, x => ⟨[w1, w2, some (.t (.int i)), x], by simp [forLoop, Bind.bind, M.bind, M.watch, watchOk, M.pure, sub]⟩
  | c :: r, i, x => by
    have h := hs c i x
    have f := sub_find c r (other.drop i) i
    cases e : findFrom c (other.drop i) i with
    | none =>
      rw [e] at h f
      simp only at h f
      exact ⟨_, by simp [forLoop, Bind.bind, M.bind, M.watch, watchOk, M.pure, h, f]; rfl⟩
    | some j =>
      rw [e] at h f
      simp only at h f
      obtain ⟨σ, g⟩ := part_loop hs r (j + 1) (some (.t (.str [c])))
      refine ⟨σ, ?_⟩
      have : (other.drop i).drop (j + 1 - i) = other.drop (j + 1) := by rw [List.drop_drop]; congr 1; omega
      simp only [List.map_cons, forLoop, Bind.bind, M.bind, M.watch, watchOk, if_true, h, g, f.2, this]
theorem is_part_of_t {k : Nat} {S : Sto} {s t : Cs} (h : t.length ≤ 60) : run prog (k + 1) 52 [.t (.str s), .t (.str t)] S = .ok (.v (.bl (sub s t))) S := by
  rw [run_fn (rfl : prog.fn 52 = some F_is_part_of)]
  simp [F_is_part_of, ↓mb, ↓pu, ↓gd, ↓opt_some, ↓bad_app, ↓rv_val, ↓nox_app, ↓ite_a, ↓z_evE_1, ↓z_evE_2, ↓z_evE_3, ↓z_evE_4, ↓z_evE_5, ↓z_evE_6, ↓z_evE_7, ↓z_evE_8, ↓z_evE_9, ↓z_evE_10, ↓z_evE_11, ↓z_evE_12, ↓z_evE_13, ↓z_evE_14, ↓z_evE_15, ↓z_evE_16, ↓z_evE_17, ↓z_evE_18, ↓z_evE_19, ↓z_evE_20, ↓z_evE_21, ↓z_evE_22, ↓z_evE_23, ↓z_evE_24, ↓z_evRs_1, ↓z_evRs_2, ↓z_evO_1, ↓z_evO_2, ↓z_evT_1, ↓z_evT_2, ↓z_evT_3, ↓z_evT_4, ↓z_evC_1, ↓z_evC_2, ↓z_evIt_1, ↓z_evIt_3, ↓z_evIt_4, ↓z_evIt_5, ↓z_evIt_6, ↓z_evS_1, ↓z_evS_2, ↓z_evS_3, ↓z_evS_4, ↓z_evS_5, ↓z_evS_6, ↓z_evS_7, ↓z_evS_8, ↓z_evS_9, ↓z_evS_10, ↓z_evS_11, ↓z_evS_12, ↓z_evS_13, ↓z_evSs_1, ↓z_evSs_2, ↓evIt_rng, leave, start, slotRv, Rv.tree, Rv.isI, Rv.isB, Rv.isS, T.isI, T.isB, T.isS, Rv.w, Rv.lst, Rv.seq, lstAt, seqAt, Rv.data, binop, cmpop, eqRv, inRv, ltRv, isRv, truth, isTy, isiRv, lenRv, LL.bi, biLen, biAll, biAny, biInt, biStr, biTuple, biList, biSorted, meFind, meCount, meJoin, meS, meL, meAppend, meInsert, mePop0, putL, getL, meRv, meTy, ixRv, slRv, revRv, src1, src2, src3, src4, src5, bindTg, bindTs, wipe, treesOf, tupOf, lstOf, app, Sto.trunc, glo0, glo1, glo2, SZ, -List.map_map, ixOf, T.eqOk, T.data, T.datas, T.calm, T.calms, T.depth, T.depths, T.beq, T.beqs]
  obtain ⟨σ, g⟩ := part_loop (other := t) (w1 := some (.t (.str s))) (w2 := some (.t (.str t))) (S := S) (step := fun x σ => do
      let σ' ← bindTg (.n 3) x σ
      evSs ⟨run prog k, prog.glo⟩ (.cons (.asg (.n 2) (.bin .add (.me .find (.var 1) (.cons (.var 3) (.cons (.var 2) .nil))) (.c (.int 1)))) (.cons (.ite (.val (.cmp .eq (.var 2) (.c (.int 0)))) (.cons (.ret (.c (.bl false))) .nil) .nil) .nil)) σ') (by
    intro c i x
    simp only [↓mb, ↓pu, ↓gd, ↓opt_some, ↓bad_app, ↓rv_val, ↓nox_app, ↓ite_a, ↓z_evE_1, ↓z_evE_2, ↓z_evE_3, ↓z_evE_4, ↓z_evE_5, ↓z_evE_6, ↓z_evE_7, ↓z_evE_8, ↓z_evE_9, ↓z_evE_10, ↓z_evE_11, ↓z_evE_12, ↓z_evE_13, ↓z_evE_14, ↓z_evE_15, ↓z_evE_16, ↓z_evE_17, ↓z_evE_18, ↓z_evE_19, ↓z_evE_20, ↓z_evE_21, ↓z_evE_22, ↓z_evE_23, ↓z_evE_24, ↓z_evRs_1, ↓z_evRs_2, ↓z_evO_1, ↓z_evO_2, ↓z_evT_1, ↓z_evT_2, ↓z_evT_3, ↓z_evT_4, ↓z_evC_1, ↓z_evC_2, ↓z_evIt_1, ↓z_evIt_3, ↓z_evIt_4, ↓z_evIt_5, ↓z_evIt_6, ↓z_evS_1, ↓z_evS_2, ↓z_evS_3, ↓z_evS_4, ↓z_evS_5, ↓z_evS_6, ↓z_evS_7, ↓z_evS_8, ↓z_evS_9, ↓z_evS_10, ↓z_evS_11, ↓z_evS_12, ↓z_evS_13, ↓z_evSs_1, ↓z_evSs_2, ↓evIt_rng, leave, start, slotRv, Rv.tree, Rv.isI, Rv.isB, Rv.isS, T.isI, T.isB, T.isS, Rv.w, Rv.lst, Rv.seq, lstAt, seqAt, Rv.data, binop, cmpop, eqRv, inRv, ltRv, isRv, truth, isTy, isiRv, lenRv, LL.bi, biLen, biAll, biAny, biInt, biStr, biTuple, biList, biSorted, meFind, meCount, meJoin, meS, meL, meAppend, meInsert, mePop0, putL, getL, meRv, meTy, ixRv, slRv, revRv, src1, src2, src3, src4, src5, bindTg, bindTs, wipe, treesOf, tupOf, lstOf, app, Sto.trunc, glo0, glo1, glo2, SZ, -List.map_map, ixOf, T.eqOk, T.data, T.datas, T.calm, T.calms, T.depth, T.depths, T.beq, T.beqs]
    cases e : findFrom c (t.drop i) i with
    | none => simp [↓mb, ↓pu, ↓gd, ↓opt_some, ↓bad_app, ↓rv_val, ↓nox_app, ↓ite_a, ↓z_evE_1, ↓z_evE_2, ↓z_evE_3, ↓z_evE_4, ↓z_evE_5, ↓z_evE_6, ↓z_evE_7, ↓z_evE_8, ↓z_evE_9, ↓z_evE_10, ↓z_evE_11, ↓z_evE_12, ↓z_evE_13, ↓z_evE_14, ↓z_evE_15, ↓z_evE_16, ↓z_evE_17, ↓z_evE_18, ↓z_evE_19, ↓z_evE_20, ↓z_evE_21, ↓z_evE_22, ↓z_evE_23, ↓z_evE_24, ↓z_evRs_1, ↓z_evRs_2, ↓z_evO_1, ↓z_evO_2, ↓z_evT_1, ↓z_evT_2, ↓z_evT_3, ↓z_evT_4, ↓z_evC_1, ↓z_evC_2, ↓z_evIt_1, ↓z_evIt_3, ↓z_evIt_4, ↓z_evIt_5, ↓z_evIt_6, ↓z_evS_1, ↓z_evS_2, ↓z_evS_3, ↓z_evS_4, ↓z_evS_5, ↓z_evS_6, ↓z_evS_7, ↓z_evS_8, ↓z_evS_9, ↓z_evS_10, ↓z_evS_11, ↓z_evS_12, ↓z_evS_13, ↓z_evSs_1, ↓z_evSs_2, ↓evIt_rng, leave, start, slotRv, Rv.tree, Rv.isI, Rv.isB, Rv.isS, T.isI, T.isB, T.isS, Rv.w, Rv.lst, Rv.seq, lstAt, seqAt, Rv.data, binop, cmpop, eqRv, inRv, ltRv, isRv, truth, isTy, isiRv, lenRv, LL.bi, biLen, biAll, biAny, biInt, biStr, biTuple, biList, biSorted, meFind, meCount, meJoin, meS, meL, meAppend, meInsert, mePop0, putL, getL, meRv, meTy, ixRv, slRv, revRv, src1, src2, src3, src4, src5, bindTg, bindTs, wipe, treesOf, tupOf, lstOf, app, Sto.trunc, glo0, glo1, glo2, SZ, -List.map_map, ixOf, T.eqOk, T.data, T.datas, T.calm, T.calms, T.depth, T.depths, T.beq, T.beqs, findAt, e]
    | some j =>
      have : ¬ ((j : Int) + 1 = 0) := by omega
      simp [↓mb, ↓pu, ↓gd, ↓opt_some, ↓bad_app, ↓rv_val, ↓nox_app, ↓ite_a, ↓z_evE_1, ↓z_evE_2, ↓z_evE_3, ↓z_evE_4, ↓z_evE_5, ↓z_evE_6, ↓z_evE_7, ↓z_evE_8, ↓z_evE_9, ↓z_evE_10, ↓z_evE_11, ↓z_evE_12, ↓z_evE_13, ↓z_evE_14, ↓z_evE_15, ↓z_evE_16, ↓z_evE_17, ↓z_evE_18, ↓z_evE_19, ↓z_evE_20, ↓z_evE_21, ↓z_evE_22, ↓z_evE_23, ↓z_evE_24, ↓z_evRs_1, ↓z_evRs_2, ↓z_evO_1, ↓z_evO_2, ↓z_evT_1, ↓z_evT_2, ↓z_evT_3, ↓z_evT_4, ↓z_evC_1, ↓z_evC_2, ↓z_evIt_1, ↓z_evIt_3, ↓z_evIt_4, ↓z_evIt_5, ↓z_evIt_6, ↓z_evS_1, ↓z_evS_2, ↓z_evS_3, ↓z_evS_4, ↓z_evS_5, ↓z_evS_6, ↓z_evS_7, ↓z_evS_8, ↓z_evS_9, ↓z_evS_10, ↓z_evS_11, ↓z_evS_12, ↓z_evS_13, ↓z_evSs_1, ↓z_evSs_2, ↓evIt_rng, leave, start, slotRv, Rv.tree, Rv.isI, Rv.isB, Rv.isS, T.isI, T.isB, T.isS, Rv.w, Rv.lst, Rv.seq, lstAt, seqAt, Rv.data, binop, cmpop, eqRv, inRv, ltRv, isRv, truth, isTy, isiRv, lenRv, LL.bi, biLen, biAll, biAny, biInt, biStr, biTuple, biList, biSorted, meFind, meCount, meJoin, meS, meL, meAppend, meInsert, mePop0, putL, getL, meRv, meTy, ixRv, slRv, revRv, src1, src2, src3, src4, src5, bindTg, bindTs, wipe, treesOf, tupOf, lstOf, app, Sto.trunc, glo0, glo1, glo2, SZ, -List.map_map, ixOf, T.eqOk, T.data, T.datas, T.calm, T.calms, T.depth, T.depths, T.beq, T.beqs, findAt, e, this]) s 0 none
  · simp [↓mb, ↓pu, ↓gd, ↓opt_some, ↓bad_app, ↓rv_val, ↓nox_app, ↓ite_a, ↓z_evE_1, ↓z_evE_2, ↓z_evE_3, ↓z_evE_4, ↓z_evE_5, ↓z_evE_6, ↓z_evE_7, ↓z_evE_8, ↓z_evE_9, ↓z_evE_10, ↓z_evE_11, ↓z_evE_12, ↓z_evE_13, ↓z_evE_14, ↓z_evE_15, ↓z_evE_16, ↓z_evE_17, ↓z_evE_18, ↓z_evE_19, ↓z_evE_20, ↓z_evE_21, ↓z_evE_22, ↓z_evE_23, ↓z_evE_24, ↓z_evRs_1, ↓z_evRs_2, ↓z_evO_1, ↓z_evO_2, ↓z_evT_1, ↓z_evT_2, ↓z_evT_3, ↓z_evT_4, ↓z_evC_1, ↓z_evC_2, ↓z_evIt_1, ↓z_evIt_3, ↓z_evIt_4, ↓z_evIt_5, ↓z_evIt_6, ↓z_evS_1, ↓z_evS_2, ↓z_evS_3, ↓z_evS_4, ↓z_evS_5, ↓z_evS_6, ↓z_evS_7, ↓z_evS_8, ↓z_evS_9, ↓z_evS_10, ↓z_evS_11, ↓z_evS_12, ↓z_evS_13, ↓z_evSs_1, ↓z_evSs_2, ↓evIt_rng, leave, start, slotRv, Rv.tree, Rv.isI, Rv.isB, Rv.isS, T.isI, T.isB, T.isS, Rv.w, Rv.lst, Rv.seq, lstAt, seqAt, Rv.data, binop, cmpop, eqRv, inRv, ltRv, isRv, truth, isTy, isiRv, lenRv, LL.bi, biLen, biAll, biAny, biInt, biStr, biTuple, biList, biSorted, meFind, meCount, meJoin, meS, meL, meAppend, meInsert, mePop0, putL, getL, meRv, meTy, ixRv, slRv, revRv, src1, src2, src3, src4, src5, bindTg, bindTs, wipe, treesOf, tupOf, lstOf, app, Sto.trunc, glo0, glo1, glo2, SZ, -List.map_map, ixOf, T.eqOk, T.data, T.datas, T.calm, T.calms, T.depth, T.depths, T.beq, T.beqs] at g
    rw [g]
    cases sub s t <;> simp [↓mb, ↓pu, ↓gd, ↓opt_some, ↓bad_app, ↓rv_val, ↓nox_app, ↓ite_a, ↓z_evE_1, ↓z_evE_2, ↓z_evE_3, ↓z_evE_4, ↓z_evE_5, ↓z_evE_6, ↓z_evE_7, ↓z_evE_8, ↓z_evE_9, ↓z_evE_10, ↓z_evE_11, ↓z_evE_12, ↓z_evE_13, ↓z_evE_14, ↓z_evE_15, ↓z_evE_16, ↓z_evE_17, ↓z_evE_18, ↓z_evE_19, ↓z_evE_20, ↓z_evE_21, ↓z_evE_22, ↓z_evE_23, ↓z_evE_24, ↓z_evRs_1, ↓z_evRs_2, ↓z_evO_1, ↓z_evO_2, ↓z_evT_1, ↓z_evT_2, ↓z_evT_3, ↓z_evT_4, ↓z_evC_1, ↓z_evC_2, ↓z_evIt_1, ↓z_evIt_3, ↓z_evIt_4, ↓z_evIt_5, ↓z_evIt_6, ↓z_evS_1, ↓z_evS_2, ↓z_evS_3, ↓z_evS_4, ↓z_evS_5, ↓z_evS_6, ↓z_evS_7, ↓z_evS_8, ↓z_evS_9, ↓z_evS_10, ↓z_evS_11, ↓z_evS_12, ↓z_evS_13, ↓z_evSs_1, ↓z_evSs_2, ↓evIt_rng, leave, start, slotRv, Rv.tree, Rv.isI, Rv.isB, Rv.isS, T.isI, T.isB, T.isS, Rv.w, Rv.lst, Rv.seq, lstAt, seqAt, Rv.data, binop, cmpop, eqRv, inRv, ltRv, isRv, truth, isTy, isiRv, lenRv, LL.bi, biLen, biAll, biAny, biInt, biStr, biTuple, biList, biSorted, meFind, meCount, meJoin, meS, meL, meAppend, meInsert, mePop0, putL, getL, meRv, meTy, ixRv, slRv, revRv, src1, src2, src3, src4, src5, bindTg, bindTs, wipe, treesOf, tupOf, lstOf, app, Sto.trunc, glo0, glo1, glo2, SZ, -List.map_map, ixOf, T.eqOk, T.data, T.datas, T.calm, T.calms, T.depth, T.depths, T.beq, T.beqs]
end LLQ

set_option Elab.async false
set_option linter.all false
set_option autoImplicit false
set_option maxRecDepth 100000
set_option maxHeartbeats 400000
namespace LLQ
open LL LLS LLP
def subs : List Cs → List Cs → Bool
  | a :: r, b :: s => sub a b && subs r s
  | _, _ => true
def bel (x y : Pl) : Bool := (decide (x.i = y.i) && decide (x.j = y.j)) && subs x.ts y.ts
def strOf : T → Cs
  | .str s => s
  | _ => []
def belT : T → T → Bool
  | .tup [.tup [.int i, .int j], .tup ts], .tup [.tup [.int i', .int j'], .tup us] => bel ⟨i, j, ts.map strOf⟩ ⟨i', j', us.map strOf⟩
  | _, _ => false
theorem strOf_map : ∀ ts : List Cs, (ts.map T.str).map strOf = ts
  | [] => rfl
  | a :: r => by simp [strOf, strOf_map r]
theorem belT_t (x y : Pl) : belT x.t y.t = bel x y := by simp only [Pl.t, belT, strOf_map]
theorem zip_subs : ∀ ts us : List Cs, (zip2Items (ts.map T.str) (us.map T.str)).map (fun x => T.bl (match x with | .tup [.str a, .str b] => sub a b | _ => true)) = (List.zip ts us).map (fun z => T.bl (sub z.1 z.2))
  | [], us => by simp [zip2Items]
  | a :: r, [] => by simp [zip2Items]
  | a :: r, b :: s => by
    have ih := zip_subs r s
    simp only [zip2Items] at ih
    simp only [zip2Items, List.map_cons, List.zipWith_cons_cons, List.zip_cons_cons, ih]
theorem zip_all : ∀ ts us : List Cs, ((List.zip ts us).map (fun z => sub z.1 z.2)).all id = subs ts us
  | [], us => by cases us <;> simp [subs]
  | a :: r, [] => by simp [subs]
  | a :: r, b :: s => by
    have ih := zip_all r s
    simp [subs] at ih ⊢
    rw [ih]
def short (y : Pl) : Prop := y.ts.length ≤ 2 ∧ ∀ t ∈ y.ts, t.length ≤ 60
theorem PlOk.short {a : Tk} {x : Pl} (ha : TkOk a) (h : PlOk a x) : short x := by
  have := h.len
  refine ⟨by have := ha.ms.1; omega, fun t ht => ?_⟩
  obtain ⟨n, hn, e⟩ := List.getElem_of_mem ht
  have hz : (a.ms[n]'(by omega), t) ∈ List.zip a.ms x.ts := by
    rw [← e]
    exact List.mem_iff_getElem.2 ⟨n, by simp; omega, by simp⟩
  exact (h.fit _ hz).1
theorem is_below_t {k : Nat} {S : Sto} {x y : Pl} (h : short y) : run prog (k + 2) 53 [.t x.t, .t y.t] S = .ok (.v (.bl (bel x y))) S := by
  rw [run_fn (rfl : prog.fn 53 = some F_is_below)]
  by_cases e : x.i = y.i ∧ x.j = y.j
  · simp [F_is_below, Pl.t, ↓mb, ↓pu, ↓gd, ↓opt_some, ↓bad_app, ↓rv_val, ↓nox_app, ↓ite_a, ↓z_evE_1, ↓z_evE_2, ↓z_evE_3, ↓z_evE_4, ↓z_evE_5, ↓z_evE_6, ↓z_evE_7, ↓z_evE_8, ↓z_evE_9, ↓z_evE_10, ↓z_evE_11, ↓z_evE_12, ↓z_evE_13, ↓z_evE_14, ↓z_evE_15, ↓z_evE_16, ↓z_evE_17, ↓z_evE_18, ↓z_evE_19, ↓z_evE_20, ↓z_evE_21, ↓z_evE_22, ↓z_evE_23, ↓z_evE_24, ↓z_evRs_1, ↓z_evRs_2, ↓z_evO_1, ↓z_evO_2, ↓z_evT_1, ↓z_evT_2, ↓z_evT_3, ↓z_evT_4, ↓z_evC_1, ↓z_evC_2, ↓z_evIt_1, ↓z_evIt_3, ↓z_evIt_4, ↓z_evIt_5, ↓z_evIt_6, ↓z_evS_1, ↓z_evS_2, ↓z_evS_3, ↓z_evS_4, ↓z_evS_5, ↓z_evS_6, ↓z_evS_7, ↓z_evS_8, ↓z_evS_9, ↓z_evS_10, ↓z_evS_11, ↓z_evS_12, ↓z_evS_13, ↓z_evSs_1, ↓z_evSs_2, ↓evIt_rng, leave, start, slotRv, Rv.tree, Rv.isI, Rv.isB, Rv.isS, T.isI, T.isB, T.isS, Rv.w, Rv.lst, Rv.seq, lstAt, seqAt, Rv.data, binop, cmpop, eqRv, inRv, ltRv, isRv, truth, isTy, isiRv, lenRv, LL.bi, biLen, biAll, biAny, biInt, biStr, biTuple, biList, biSorted, meFind, meCount, meJoin, meS, meL, meAppend, meInsert, mePop0, putL, getL, meRv, meTy, ixRv, slRv, revRv, src1, src2, src3, src4, src5, bindTg, bindTs, wipe, treesOf, tupOf, lstOf, app, Sto.trunc, glo0, glo1, glo2, SZ, -List.map_map, ixOf, T.eqOk, T.data, T.datas, T.calm, T.calms, T.depth, T.depths, T.beq, T.beqs, e.1, e.2]
    rw [lc_map (fun x => T.bl (match x with | .tup [.str a, .str b] => sub a b | _ => true)) S rfl _ ?hl, zip_subs]
    · simp [↓mb, ↓pu, ↓gd, ↓opt_some, ↓bad_app, ↓rv_val, ↓nox_app, ↓ite_a, ↓z_evE_1, ↓z_evE_2, ↓z_evE_3, ↓z_evE_4, ↓z_evE_5, ↓z_evE_6, ↓z_evE_7, ↓z_evE_8, ↓z_evE_9, ↓z_evE_10, ↓z_evE_11, ↓z_evE_12, ↓z_evE_13, ↓z_evE_14, ↓z_evE_15, ↓z_evE_16, ↓z_evE_17, ↓z_evE_18, ↓z_evE_19, ↓z_evE_20, ↓z_evE_21, ↓z_evE_22, ↓z_evE_23, ↓z_evE_24, ↓z_evRs_1, ↓z_evRs_2, ↓z_evO_1, ↓z_evO_2, ↓z_evT_1, ↓z_evT_2, ↓z_evT_3, ↓z_evT_4, ↓z_evC_1, ↓z_evC_2, ↓z_evIt_1, ↓z_evIt_3, ↓z_evIt_4, ↓z_evIt_5, ↓z_evIt_6, ↓z_evS_1, ↓z_evS_2, ↓z_evS_3, ↓z_evS_4, ↓z_evS_5, ↓z_evS_6, ↓z_evS_7, ↓z_evS_8, ↓z_evS_9, ↓z_evS_10, ↓z_evS_11, ↓z_evS_12, ↓z_evS_13, ↓z_evSs_1, ↓z_evSs_2, ↓evIt_rng, leave, start, slotRv, Rv.tree, Rv.isI, Rv.isB, Rv.isS, T.isI, T.isB, T.isS, Rv.w, Rv.lst, Rv.seq, lstAt, seqAt, Rv.data, binop, cmpop, eqRv, inRv, ltRv, isRv, truth, isTy, isiRv, lenRv, LL.bi, biLen, biAll, biAny, biInt, biStr, biTuple, biList, biSorted, meFind, meCount, meJoin, meS, meL, meAppend, meInsert, mePop0, putL, getL, meRv, meTy, ixRv, slRv, revRv, src1, src2, src3, src4, src5, bindTg, bindTs, wipe, treesOf, tupOf, lstOf, app, Sto.trunc, glo0, glo1, glo2, SZ, -List.map_map, ixOf, T.eqOk, T.data, T.datas, T.calm, T.calms, T.depth, T.depths, T.beq, T.beqs, allBl_t (fun z : Cs × Cs => sub z.1 z.2)]
      simp [bel, e.1, e.2]
      have := zip_all x.ts y.ts
      simpa using this
    · intro z hz b hb
      obtain ⟨w, hw, rfl⟩ := zip_items _ _ z hz
      have it := is_part_of_t (k := k) (S := S) (s := w.1) (t := w.2) (h.2 w.2 (List.of_mem_zip hw).2)
      simp [↓mb, ↓pu, ↓gd, ↓opt_some, ↓bad_app, ↓rv_val, ↓nox_app, ↓ite_a, ↓z_evE_1, ↓z_evE_2, ↓z_evE_3, ↓z_evE_4, ↓z_evE_5, ↓z_evE_6, ↓z_evE_7, ↓z_evE_8, ↓z_evE_9, ↓z_evE_10, ↓z_evE_11, ↓z_evE_12, ↓z_evE_13, ↓z_evE_14, ↓z_evE_15, ↓z_evE_16, ↓z_evE_17, ↓z_evE_18, ↓z_evE_19, ↓z_evE_20, ↓z_evE_21, ↓z_evE_22, ↓z_evE_23, ↓z_evE_24, ↓z_evRs_1, ↓z_evRs_2, ↓z_evO_1, ↓z_evO_2, ↓z_evT_1, ↓z_evT_2, ↓z_evT_3, ↓z_evT_4, ↓z_evC_1, ↓z_evC_2, ↓z_evIt_1, ↓z_evIt_3, ↓z_evIt_4, ↓z_evIt_5, ↓z_evIt_6, ↓z_evS_1, ↓z_evS_2, ↓z_evS_3, ↓z_evS_4, ↓z_evS_5, ↓z_evS_6, ↓z_evS_7, ↓z_evS_8, ↓z_evS_9, ↓z_evS_10, ↓z_evS_11, ↓z_evS_12, ↓z_evS_13, ↓z_evSs_1, ↓z_evSs_2, ↓evIt_rng, leave, start, slotRv, Rv.tree, Rv.isI, Rv.isB, Rv.isS, T.isI, T.isB, T.isS, Rv.w, Rv.lst, Rv.seq, lstAt, seqAt, Rv.data, binop, cmpop, eqRv, inRv, ltRv, isRv, truth, isTy, isiRv, lenRv, LL.bi, biLen, biAll, biAny, biInt, biStr, biTuple, biList, biSorted, meFind, meCount, meJoin, meS, meL, meAppend, meInsert, mePop0, putL, getL, meRv, meTy, ixRv, slRv, revRv, src1, src2, src3, src4, src5, bindTg, bindTs, wipe, treesOf, tupOf, lstOf, app, Sto.trunc, glo0, glo1, glo2, SZ, -List.map_map, ixOf, T.eqOk, T.data, T.datas, T.calm, T.calms, T.depth, T.depths, T.beq, T.beqs, it, hb]
    case hl => have := h.1; simp only [zip2Items, List.length_zipWith, List.length_map]; omega
  · have : ¬ (x.i = y.i ∧ x.j = y.j) := e
    have b : bel x y = false := by
      cases hb : bel x y with
      | false => rfl
      | true => simp [bel] at hb; exact absurd hb.1 e
    rw [b]
    by_cases e1 : x.i = y.i
    · have e2 : ¬ x.j = y.j := fun h => e ⟨e1, h⟩
      simp [F_is_below, Pl.t, ↓mb, ↓pu, ↓gd, ↓opt_some, ↓bad_app, ↓rv_val, ↓nox_app, ↓ite_a, ↓z_evE_1, ↓z_evE_2, ↓z_evE_3, ↓z_evE_4, ↓z_evE_5, ↓z_evE_6, ↓z_evE_7, ↓z_evE_8, ↓z_evE_9, ↓z_evE_10, ↓z_evE_11, ↓z_evE_12, ↓z_evE_13, ↓z_evE_14, ↓z_evE_15, ↓z_evE_16, ↓z_evE_17, ↓z_evE_18, ↓z_evE_19, ↓z_evE_20, ↓z_evE_21, ↓z_evE_22, ↓z_evE_23, ↓z_evE_24, ↓z_evRs_1, ↓z_evRs_2, ↓z_evO_1, ↓z_evO_2, ↓z_evT_1, ↓z_evT_2, ↓z_evT_3, ↓z_evT_4, ↓z_evC_1, ↓z_evC_2, ↓z_evIt_1, ↓z_evIt_3, ↓z_evIt_4, ↓z_evIt_5, ↓z_evIt_6, ↓z_evS_1, ↓z_evS_2, ↓z_evS_3, ↓z_evS_4, ↓z_evS_5, ↓z_evS_6, ↓z_evS_7, ↓z_evS_8, ↓z_evS_9, ↓z_evS_10, ↓z_evS_11, ↓z_evS_12, ↓z_evS_13, ↓z_evSs_1, ↓z_evSs_2, ↓evIt_rng, leave, start, slotRv, Rv.tree, Rv.isI, Rv.isB, Rv.isS, T.isI, T.isB, T.isS, Rv.w, Rv.lst, Rv.seq, lstAt, seqAt, Rv.data, binop, cmpop, eqRv, inRv, ltRv, isRv, truth, isTy, isiRv, lenRv, LL.bi, biLen, biAll, biAny, biInt, biStr, biTuple, biList, biSorted, meFind, meCount, meJoin, meS, meL, meAppend, meInsert, mePop0, putL, getL, meRv, meTy, ixRv, slRv, revRv, src1, src2, src3, src4, src5, bindTg, bindTs, wipe, treesOf, tupOf, lstOf, app, Sto.trunc, glo0, glo1, glo2, SZ, -List.map_map, ixOf, T.eqOk, T.data, T.datas, T.calm, T.calms, T.depth, T.depths, T.beq, T.beqs, e1, e2]
    · simp [F_is_below, Pl.t, ↓mb, ↓pu, ↓gd, ↓opt_some, ↓bad_app, ↓rv_val, ↓nox_app, ↓ite_a, ↓z_evE_1, ↓z_evE_2, ↓z_evE_3, ↓z_evE_4, ↓z_evE_5, ↓z_evE_6, ↓z_evE_7, ↓z_evE_8, ↓z_evE_9, ↓z_evE_10, ↓z_evE_11, ↓z_evE_12, ↓z_evE_13, ↓z_evE_14, ↓z_evE_15, ↓z_evE_16, ↓z_evE_17, ↓z_evE_18, ↓z_evE_19, ↓z_evE_20, ↓z_evE_21, ↓z_evE_22, ↓z_evE_23, ↓z_evE_24, ↓z_evRs_1, ↓z_evRs_2, ↓z_evO_1, ↓z_evO_2, ↓z_evT_1, ↓z_evT_2, ↓z_evT_3, ↓z_evT_4, ↓z_evC_1, ↓z_evC_2, ↓z_evIt_1, ↓z_evIt_3, ↓z_evIt_4, ↓z_evIt_5, ↓z_evIt_6, ↓z_evS_1, ↓z_evS_2, ↓z_evS_3, ↓z_evS_4, ↓z_evS_5, ↓z_evS_6, ↓z_evS_7, ↓z_evS_8, ↓z_evS_9, ↓z_evS_10, ↓z_evS_11, ↓z_evS_12, ↓z_evS_13, ↓z_evSs_1, ↓z_evSs_2, ↓evIt_rng, leave, start, slotRv, Rv.tree, Rv.isI, Rv.isB, Rv.isS, T.isI, T.isB, T.isS, Rv.w, Rv.lst, Rv.seq, lstAt, seqAt, Rv.data, binop, cmpop, eqRv, inRv, ltRv, isRv, truth, isTy, isiRv, lenRv, LL.bi, biLen, biAll, biAny, biInt, biStr, biTuple, biList, biSorted, meFind, meCount, meJoin, meS, meL, meAppend, meInsert, mePop0, putL, getL, meRv, meTy, ixRv, slRv, revRv, src1, src2, src3, src4, src5, bindTg, bindTs, wipe, treesOf, tupOf, lstOf, app, Sto.trunc, glo0, glo1, glo2, SZ, -List.map_map, ixOf, T.eqOk, T.data, T.datas, T.calm, T.calms, T.depth, T.depths, T.beq, T.beqs, e1]
theorem place_loop {test : Env → M Bool} {body : Env → M (Fl × Env)} {xs : List T} {w1 w2 : Option W} {S : Sto} {c : Nat}
    (ht : ∀ (lo hi : Nat) (m : Option W), test [w1, w2, some (.t (.int lo)), some (.t (.int hi)), m] S = .ok (decide (lo < hi)) S)
    (hb : ∀ (lo hi : Nat) (m : Option W), lo < hi → hi ≤ xs.length → body [w1, w2, some (.t (.int lo)), some (.t (.int hi)), m] S = .ok (.next, [w1, w2, some (.t (.int ((if (lo + hi) / 2 < c then (lo + hi) / 2 + 1 else lo : Nat) : Int))), some (.t (.int ((if (lo + hi) / 2 < c then hi else (lo + hi) / 2 : Nat) : Int))), some (.t (.int (((lo + hi) / 2 : Nat) : Int)))]) S) :
    ∀ (n lo hi : Nat) (m : Option W), lo ≤ c → c ≤ hi → hi ≤ xs.length → hi - lo < n → ∃ v m', whileLoop test body n [w1, w2, some (.t (.int lo)), some (.t (.int hi)), m] S = .ok (.next, [w1, w2, some (.t (.int c)), v, m']) S
  | 0, lo, hi, m, _, _, _, h => by omega
  | n + 1, lo, hi, m, h1, h2, h3, h4 => by
    by_cases h : lo < hi
    · obtain ⟨v, m', e⟩ := place_loop ht hb n (if (lo + hi) / 2 < c then (lo + hi) / 2 + 1 else lo) (if (lo + hi) / 2 < c then hi else (lo + hi) / 2) (some (.t (.int (((lo + hi) / 2 : Nat) : Int)))) (by split <;> omega) (by split <;> omega) (by split <;> omega) (by split <;> omega)
      refine ⟨v, m', ?_⟩
      simp only [whileLoop, Bind.bind, M.bind, ht, h, decide_true, if_true, hb lo hi m h h3, e]
    · have : lo = c := by omega
      subst this
      exact ⟨_, _, by simp [whileLoop, Bind.bind, M.bind, ht, h, M.pure]; exact ⟨rfl, rfl⟩⟩
theorem place_in_t {k : Nat} {S : Sto} {n : Nat} {xs : List T} {x : T} {P : T → Prop} (F : Fam P) (hx : P x) (hp : ∀ y ∈ xs, P y) (hs : Srt xs) (hl : xs.length ≤ 1000000) (hn : S.L[n]? = some xs) :
    run prog (k + 1) 54 [.l n, .t x] S = .ok (.v (.int (cnt xs x))) S := by
  rw [run_fn (rfl : prog.fn 54 = some F_place_in)]
  simp [F_place_in, ↓mb, ↓pu, ↓gd, ↓opt_some, ↓bad_app, ↓rv_val, ↓nox_app, ↓ite_a, ↓z_evE_1, ↓z_evE_2, ↓z_evE_3, ↓z_evE_4, ↓z_evE_5, ↓z_evE_6, ↓z_evE_7, ↓z_evE_8, ↓z_evE_9, ↓z_evE_10, ↓z_evE_11, ↓z_evE_12, ↓z_evE_13, ↓z_evE_14, ↓z_evE_15, ↓z_evE_16, ↓z_evE_17, ↓z_evE_18, ↓z_evE_19, ↓z_evE_20, ↓z_evE_21, ↓z_evE_22, ↓z_evE_23, ↓z_evE_24, ↓z_evRs_1, ↓z_evRs_2, ↓z_evO_1, ↓z_evO_2, ↓z_evT_1, ↓z_evT_2, ↓z_evT_3, ↓z_evT_4, ↓z_evC_1, ↓z_evC_2, ↓z_evIt_1, ↓z_evIt_3, ↓z_evIt_4, ↓z_evIt_5, ↓z_evIt_6, ↓z_evS_1, ↓z_evS_2, ↓z_evS_3, ↓z_evS_4, ↓z_evS_5, ↓z_evS_6, ↓z_evS_7, ↓z_evS_8, ↓z_evS_9, ↓z_evS_10, ↓z_evS_11, ↓z_evS_12, ↓z_evS_13, ↓z_evSs_1, ↓z_evSs_2, ↓evIt_rng, leave, start, slotRv, Rv.tree, Rv.isI, Rv.isB, Rv.isS, T.isI, T.isB, T.isS, Rv.w, Rv.lst, Rv.seq, lstAt, seqAt, Rv.data, binop, cmpop, eqRv, inRv, ltRv, isRv, truth, isTy, isiRv, lenRv, LL.bi, biLen, biAll, biAny, biInt, biStr, biTuple, biList, biSorted, meFind, meCount, meJoin, meS, meL, meAppend, meInsert, mePop0, putL, getL, meRv, meTy, ixRv, slRv, revRv, src1, src2, src3, src4, src5, bindTg, bindTs, wipe, treesOf, tupOf, lstOf, app, Sto.trunc, glo0, glo1, glo2, SZ, -List.map_map, ixOf, T.eqOk, T.data, T.datas, T.calm, T.calms, T.depth, T.depths, T.beq, T.beqs, hn]
  obtain ⟨v, m', e⟩ := place_loop (xs := xs) (w1 := some (.l n)) (w2 := some (.t x)) (S := S) (c := cnt xs x)
    (test := evT ⟨run prog k, prog.glo⟩ (.val (.cmp .lt (.var 2) (.var 3))))
    (body := evSs ⟨run prog k, prog.glo⟩ (.cons (.asg (.n 4) (.bin .fdiv (.bin .add (.var 2) (.var 3)) (.c (.int 2)))) (.cons (.ite (.val (.cmp .lt (.ix (.var 0) (.var 4)) (.var 1))) (.cons (.asg (.n 2) (.bin .add (.var 4) (.c (.int 1)))) .nil) (.cons (.asg (.n 3) (.var 4)) .nil)) .nil)))
    (by intro lo hi m; simp [↓mb, ↓pu, ↓gd, ↓opt_some, ↓bad_app, ↓rv_val, ↓nox_app, ↓ite_a, ↓z_evE_1, ↓z_evE_2, ↓z_evE_3, ↓z_evE_4, ↓z_evE_5, ↓z_evE_6, ↓z_evE_7, ↓z_evE_8, ↓z_evE_9, ↓z_evE_10, ↓z_evE_11, ↓z_evE_12, ↓z_evE_13, ↓z_evE_14, ↓z_evE_15, ↓z_evE_16, ↓z_evE_17, ↓z_evE_18, ↓z_evE_19, ↓z_evE_20, ↓z_evE_21, ↓z_evE_22, ↓z_evE_23, ↓z_evE_24, ↓z_evRs_1, ↓z_evRs_2, ↓z_evO_1, ↓z_evO_2, ↓z_evT_1, ↓z_evT_2, ↓z_evT_3, ↓z_evT_4, ↓z_evC_1, ↓z_evC_2, ↓z_evIt_1, ↓z_evIt_3, ↓z_evIt_4, ↓z_evIt_5, ↓z_evIt_6, ↓z_evS_1, ↓z_evS_2, ↓z_evS_3, ↓z_evS_4, ↓z_evS_5, ↓z_evS_6, ↓z_evS_7, ↓z_evS_8, ↓z_evS_9, ↓z_evS_10, ↓z_evS_11, ↓z_evS_12, ↓z_evS_13, ↓z_evSs_1, ↓z_evSs_2, ↓evIt_rng, leave, start, slotRv, Rv.tree, Rv.isI, Rv.isB, Rv.isS, T.isI, T.isB, T.isS, Rv.w, Rv.lst, Rv.seq, lstAt, seqAt, Rv.data, binop, cmpop, eqRv, inRv, ltRv, isRv, truth, isTy, isiRv, lenRv, LL.bi, biLen, biAll, biAny, biInt, biStr, biTuple, biList, biSorted, meFind, meCount, meJoin, meS, meL, meAppend, meInsert, mePop0, putL, getL, meRv, meTy, ixRv, slRv, revRv, src1, src2, src3, src4, src5, bindTg, bindTs, wipe, treesOf, tupOf, lstOf, app, Sto.trunc, glo0, glo1, glo2, SZ, -List.map_map, ixOf, T.eqOk, T.data, T.datas, T.calm, T.calms, T.depth, T.depths, T.beq, T.beqs, T.ltOk, T.lt, T.alike])
    (by
      intro lo hi m h1 h2
      have hm : (lo + hi) / 2 < xs.length := by omega
      have hq : ((lo : Int) + (hi : Int)) / 2 = (((lo + hi) / 2 : Nat) : Int) := by omega
      obtain ⟨y, hy⟩ : ∃ y, xs[(lo + hi) / 2]? = some y := ⟨_, List.getElem?_eq_getElem hm⟩
      have hlt := srt_at (x := x) hs hy
      have hok := F.ltOk (hp y (List.mem_of_getElem? hy)) hx
      have hm2 : (((lo + hi) / 2 : Nat) : Int) < xs.length := by omega
      have hm0 : (0 : Int) ≤ (((lo + hi) / 2 : Nat) : Int) := by omega
      have hm3 : (((lo + hi) / 2 : Nat) : Int).toNat = (lo + hi) / 2 := by omega
      generalize (lo + hi) / 2 = mid at *
      by_cases hc : mid < cnt xs x
      · simp [↓mb, ↓pu, ↓gd, ↓opt_some, ↓bad_app, ↓rv_val, ↓nox_app, ↓ite_a, ↓z_evE_1, ↓z_evE_2, ↓z_evE_3, ↓z_evE_4, ↓z_evE_5, ↓z_evE_6, ↓z_evE_7, ↓z_evE_8, ↓z_evE_9, ↓z_evE_10, ↓z_evE_11, ↓z_evE_12, ↓z_evE_13, ↓z_evE_14, ↓z_evE_15, ↓z_evE_16, ↓z_evE_17, ↓z_evE_18, ↓z_evE_19, ↓z_evE_20, ↓z_evE_21, ↓z_evE_22, ↓z_evE_23, ↓z_evE_24, ↓z_evRs_1, ↓z_evRs_2, ↓z_evO_1, ↓z_evO_2, ↓z_evT_1, ↓z_evT_2, ↓z_evT_3, ↓z_evT_4, ↓z_evC_1, ↓z_evC_2, ↓z_evIt_1, ↓z_evIt_3, ↓z_evIt_4, ↓z_evIt_5, ↓z_evIt_6, ↓z_evS_1, ↓z_evS_2, ↓z_evS_3, ↓z_evS_4, ↓z_evS_5, ↓z_evS_6, ↓z_evS_7, ↓z_evS_8, ↓z_evS_9, ↓z_evS_10, ↓z_evS_11, ↓z_evS_12, ↓z_evS_13, ↓z_evSs_1, ↓z_evSs_2, ↓evIt_rng, leave, start, slotRv, Rv.tree, Rv.isI, Rv.isB, Rv.isS, T.isI, T.isB, T.isS, Rv.w, Rv.lst, Rv.seq, lstAt, seqAt, Rv.data, binop, cmpop, eqRv, inRv, ltRv, isRv, truth, isTy, isiRv, lenRv, LL.bi, biLen, biAll, biAny, biInt, biStr, biTuple, biList, biSorted, meFind, meCount, meJoin, meS, meL, meAppend, meInsert, mePop0, putL, getL, meRv, meTy, ixRv, slRv, revRv, src1, src2, src3, src4, src5, bindTg, bindTs, wipe, treesOf, tupOf, lstOf, app, Sto.trunc, glo0, glo1, glo2, SZ, -List.map_map, ixOf, T.eqOk, T.data, T.datas, T.calm, T.calms, T.depth, T.depths, T.beq, T.beqs, hq, hn, hm2, hm0, hm3, hy, hlt, hok, hc]
      · simp [↓mb, ↓pu, ↓gd, ↓opt_some, ↓bad_app, ↓rv_val, ↓nox_app, ↓ite_a, ↓z_evE_1, ↓z_evE_2, ↓z_evE_3, ↓z_evE_4, ↓z_evE_5, ↓z_evE_6, ↓z_evE_7, ↓z_evE_8, ↓z_evE_9, ↓z_evE_10, ↓z_evE_11, ↓z_evE_12, ↓z_evE_13, ↓z_evE_14, ↓z_evE_15, ↓z_evE_16, ↓z_evE_17, ↓z_evE_18, ↓z_evE_19, ↓z_evE_20, ↓z_evE_21, ↓z_evE_22, ↓z_evE_23, ↓z_evE_24, ↓z_evRs_1, ↓z_evRs_2, ↓z_evO_1, ↓z_evO_2, ↓z_evT_1, ↓z_evT_2, ↓z_evT_3, ↓z_evT_4, ↓z_evC_1, ↓z_evC_2, ↓z_evIt_1, ↓z_evIt_3, ↓z_evIt_4, ↓z_evIt_5, ↓z_evIt_6, ↓z_evS_1, ↓z_evS_2, ↓z_evS_3, ↓z_evS_4, ↓z_evS_5, ↓z_evS_6, ↓z_evS_7, ↓z_evS_8, ↓z_evS_9, ↓z_evS_10, ↓z_evS_11, ↓z_evS_12, ↓z_evS_13, ↓z_evSs_1, ↓z_evSs_2, ↓evIt_rng, leave, start, slotRv, Rv.tree, Rv.isI, Rv.isB, Rv.isS, T.isI, T.isB, T.isS, Rv.w, Rv.lst, Rv.seq, lstAt, seqAt, Rv.data, binop, cmpop, eqRv, inRv, ltRv, isRv, truth, isTy, isiRv, lenRv, LL.bi, biLen, biAll, biAny, biInt, biStr, biTuple, biList, biSorted, meFind, meCount, meJoin, meS, meL, meAppend, meInsert, mePop0, putL, getL, meRv, meTy, ixRv, slRv, revRv, src1, src2, src3, src4, src5, bindTg, bindTs, wipe, treesOf, tupOf, lstOf, app, Sto.trunc, glo0, glo1, glo2, SZ, -List.map_map, ixOf, T.eqOk, T.data, T.datas, T.calm, T.calms, T.depth, T.depths, T.beq, T.beqs, hq, hn, hm2, hm0, hm3, hy, hlt, hok, hc])
    FUEL 0 xs.length none (by omega) (cnt_le xs x) (by omega) (by unfold FUEL; omega)
  rw [show ((0 : Nat) : Int) = 0 from rfl] at e
  rw [e]
  simp [↓mb, ↓pu, ↓gd, ↓opt_some, ↓bad_app, ↓rv_val, ↓nox_app, ↓ite_a, ↓z_evE_1, ↓z_evE_2, ↓z_evE_3, ↓z_evE_4, ↓z_evE_5, ↓z_evE_6, ↓z_evE_7, ↓z_evE_8, ↓z_evE_9, ↓z_evE_10, ↓z_evE_11, ↓z_evE_12, ↓z_evE_13, ↓z_evE_14, ↓z_evE_15, ↓z_evE_16, ↓z_evE_17, ↓z_evE_18, ↓z_evE_19, ↓z_evE_20, ↓z_evE_21, ↓z_evE_22, ↓z_evE_23, ↓z_evE_24, ↓z_evRs_1, ↓z_evRs_2, ↓z_evO_1, ↓z_evO_2, ↓z_evT_1, ↓z_evT_2, ↓z_evT_3, ↓z_evT_4, ↓z_evC_1, ↓z_evC_2, ↓z_evIt_1, ↓z_evIt_3, ↓z_evIt_4, ↓z_evIt_5, ↓z_evIt_6, ↓z_evS_1, ↓z_evS_2, ↓z_evS_3, ↓z_evS_4, ↓z_evS_5, ↓z_evS_6, ↓z_evS_7, ↓z_evS_8, ↓z_evS_9, ↓z_evS_10, ↓z_evS_11, ↓z_evS_12, ↓z_evS_13, ↓z_evSs_1, ↓z_evSs_2, ↓evIt_rng, leave, start, slotRv, Rv.tree, Rv.isI, Rv.isB, Rv.isS, T.isI, T.isB, T.isS, Rv.w, Rv.lst, Rv.seq, lstAt, seqAt, Rv.data, binop, cmpop, eqRv, inRv, ltRv, isRv, truth, isTy, isiRv, lenRv, LL.bi, biLen, biAll, biAny, biInt, biStr, biTuple, biList, biSorted, meFind, meCount, meJoin, meS, meL, meAppend, meInsert, mePop0, putL, getL, meRv, meTy, ixRv, slRv, revRv, src1, src2, src3, src4, src5, bindTg, bindTs, wipe, treesOf, tupOf, lstOf, app, Sto.trunc, glo0, glo1, glo2, SZ, -List.map_map, ixOf, T.eqOk, T.data, T.datas, T.calm, T.calms, T.depth, T.depths, T.beq, T.beqs]
theorem ascending_x {k : Nat} {S : Sto} {rows : List T} {wr : T} {P : T → Prop} (hw0 : srcOf (.v wr) = M.pure ⟨rows, []⟩) (F : Fam P) (hp : ∀ y ∈ rows, P y) (hl : rows.length ≤ 1000000) : run prog (k + 2) 55 [.t wr] S = .ok (.new (ascF rows)) S := by
  rw [run_fn (rfl : prog.fn 55 = some F_ascending)]
  simp [F_ascending, ↓mb, ↓pu, ↓gd, ↓opt_some, ↓bad_app, ↓rv_val, ↓nox_app, ↓ite_a, ↓z_evE_1, ↓z_evE_2, ↓z_evE_3, ↓z_evE_4, ↓z_evE_5, ↓z_evE_6, ↓z_evE_7, ↓z_evE_8, ↓z_evE_9, ↓z_evE_10, ↓z_evE_11, ↓z_evE_12, ↓z_evE_13, ↓z_evE_14, ↓z_evE_15, ↓z_evE_16, ↓z_evE_17, ↓z_evE_18, ↓z_evE_19, ↓z_evE_20, ↓z_evE_21, ↓z_evE_22, ↓z_evE_23, ↓z_evE_24, ↓z_evRs_1, ↓z_evRs_2, ↓z_evO_1, ↓z_evO_2, ↓z_evT_1, ↓z_evT_2, ↓z_evT_3, ↓z_evT_4, ↓z_evC_1, ↓z_evC_2, ↓z_evIt_1, ↓z_evIt_3, ↓z_evIt_4, ↓z_evIt_5, ↓z_evIt_6, ↓z_evS_1, ↓z_evS_2, ↓z_evS_3, ↓z_evS_4, ↓z_evS_5, ↓z_evS_6, ↓z_evS_7, ↓z_evS_8, ↓z_evS_9, ↓z_evS_10, ↓z_evS_11, ↓z_evS_12, ↓z_evS_13, ↓z_evSs_1, ↓z_evSs_2, ↓evIt_rng, leave, start, slotRv, Rv.tree, Rv.isI, Rv.isB, Rv.isS, T.isI, T.isB, T.isS, Rv.w, Rv.lst, Rv.seq, lstAt, seqAt, Rv.data, binop, cmpop, eqRv, inRv, ltRv, isRv, truth, isTy, isiRv, lenRv, LL.bi, biLen, biAll, biAny, biInt, biStr, biTuple, biList, biSorted, meFind, meCount, meJoin, meS, meL, meAppend, meInsert, mePop0, putL, getL, meRv, meTy, ixRv, slRv, revRv, src1, src2, src3, src4, src5, bindTg, bindTs, wipe, treesOf, tupOf, lstOf, app, Sto.trunc, glo0, glo1, glo2, SZ, -List.map_map, ixOf, T.eqOk, T.data, T.datas, T.calm, T.calms, T.depth, T.depths, T.beq, T.beqs, hw0]
  have FI := for_inv (ws := []) (step := fun x σ => (do
      let σ' ← bindTg (.n 2) x σ
      evSs ⟨run prog (k + 1), prog.glo⟩ (.cons (.asg (.n 3) (.call 54 (.cons (.var 1) (.cons (.var 2) .nil)))) (.cons (.ite (.val (.cmp .ne (.sl (.var 1) (.yes (.var 3)) (.yes (.bin .add (.var 3) (.c (.int 1))))) (.lst (.cons (.var 2) .nil)))) (.cons (.ex (.me .insert (.var 1) (.cons (.var 3) (.cons (.var 2) .nil)))) .nil) .nil) .nil)) σ' : M (Fl × Env)))
      (fun d σ s => s = ⟨S.L ++ [d.foldl stp []], S.O⟩ ∧ ∃ u v, σ = [some (.t wr), some (.l S.L.length), u, v]) rows []
      (fun d σ s h => by simp [watchOk])
      (by
        intro d x r σ s he ⟨hs, u, v, hσ⟩
        subst hs hσ
        have hd : ∀ y ∈ d, P y := fun y hy => hp y (by simp at he; rw [he]; simp [hy])
        have hx : P x := hp x (by simp at he; rw [he]; simp)
        have FS := foldl_stp F.alike d [] hd (by simp) List.Pairwise.nil
        have ha : ∀ y ∈ d.foldl stp [], P y := fun y hy => hd y (by simpa using (FS.2 y).1 hy)
        have hl2 : (d.foldl stp []).length < 1000000 := by
          have := foldl_len d []
          have h2 := congrArg List.length he
          simp at this h2
          omega
        rw [List.foldl_append]
        generalize hw : d.foldl stp [] = w at *
        have pl := place_in_t (k := k) (S := ⟨S.L ++ [w], S.O⟩) (n := S.L.length) F hx ha FS.1 (by omega) (by simp)
        have hcut : cut w (some (cnt w x : Int)) (some ((cnt w x : Int) + 1)) = (w.drop (cnt w x)).take 1 := by
          have hc := cnt_le w x
          unfold cut sIx
          have a1 : ¬ ((cnt w x : Int) < 0) := by omega
          have a2 : ¬ ((cnt w x : Int) + 1 < 0) := by omega
          have a3 : ((cnt w x : Int) + 1).toNat = cnt w x + 1 := by omega
          have a4 : (cnt w x : Int).toNat = cnt w x := by omega
          simp only [a1, a2, a3, a4, if_false]
          rw [Nat.min_eq_left hc]
          rcases Nat.lt_or_ge (cnt w x) w.length with h | h
          · rw [Nat.min_eq_left (by omega)]
            congr 1; omega
          · rw [List.drop_of_length_le h]; simp
        have hsl := slice_iff (x := x) FS.1 (fun y hy => F.alike y x (ha y hy) hx)
        have hm := inSeq_iff x w
        have hdt : T.datas ((w.drop (cnt w x)).take 1) = true ∧ T.calms ((w.drop (cnt w x)).take 1) [x] = true ∧ T.depths ((w.drop (cnt w x)).take 1) ≤ 10 := by
          cases hq : w.drop (cnt w x) with
          | nil => simp [T.datas, T.calms, T.depths]
          | cons y r =>
            have hy : P y := ha y (List.mem_of_mem_drop (by rw [hq]; simp))
            have := F.depth y hy
            simp [T.datas, T.calms, T.depths, F.data y hy, F.calm y x hy hx]; omega
        have hdx := F.data x hx
        have hb : (if T.beqs ((w.drop (cnt w x)).take 1) [x] = true then w else insAt w x) = stp w x := by
          unfold stp
          by_cases h : x ∈ w
          · rw [if_pos ((beqs_iff _ _).2 (hsl.2 h)), if_pos (hm.2 h)]
          · rw [if_neg (fun k => h (hsl.1 ((beqs_iff _ _).1 k))), if_neg (fun k => h (hm.1 k))]
        have hcz : (0 : Int) ≤ (cnt w x : Int) := by omega
        have hcb : cnt w x < 4611686018427387904 := by have := cnt_le w x; omega
        have hmin : min (T.depths ((w.drop (cnt w x)).take 1)) x.depth ≤ 59 := by have := hdt.2.2; omega
        have hlw : w.length < 16777216 := by omega
        rw [List.foldl_cons, List.foldl_nil, ← hb]
        cases hbq : T.beqs ((w.drop (cnt w x)).take 1) [x] with
        | true => exact ⟨[some (.t wr), some (.l S.L.length), some (.t x), some (.t (.int (cnt w x)))], ⟨S.L ++ [w], S.O⟩, by simp [↓mb, ↓pu, ↓gd, ↓opt_some, ↓bad_app, ↓rv_val, ↓nox_app, ↓ite_a, ↓z_evE_1, ↓z_evE_2, ↓z_evE_3, ↓z_evE_4, ↓z_evE_5, ↓z_evE_6, ↓z_evE_7, ↓z_evE_8, ↓z_evE_9, ↓z_evE_10, ↓z_evE_11, ↓z_evE_12, ↓z_evE_13, ↓z_evE_14, ↓z_evE_15, ↓z_evE_16, ↓z_evE_17, ↓z_evE_18, ↓z_evE_19, ↓z_evE_20, ↓z_evE_21, ↓z_evE_22, ↓z_evE_23, ↓z_evE_24, ↓z_evRs_1, ↓z_evRs_2, ↓z_evO_1, ↓z_evO_2, ↓z_evT_1, ↓z_evT_2, ↓z_evT_3, ↓z_evT_4, ↓z_evC_1, ↓z_evC_2, ↓z_evIt_1, ↓z_evIt_3, ↓z_evIt_4, ↓z_evIt_5, ↓z_evIt_6, ↓z_evS_1, ↓z_evS_2, ↓z_evS_3, ↓z_evS_4, ↓z_evS_5, ↓z_evS_6, ↓z_evS_7, ↓z_evS_8, ↓z_evS_9, ↓z_evS_10, ↓z_evS_11, ↓z_evS_12, ↓z_evS_13, ↓z_evSs_1, ↓z_evSs_2, ↓evIt_rng, leave, start, slotRv, Rv.tree, Rv.isI, Rv.isB, Rv.isS, T.isI, T.isB, T.isS, Rv.w, Rv.lst, Rv.seq, lstAt, seqAt, Rv.data, binop, cmpop, eqRv, inRv, ltRv, isRv, truth, isTy, isiRv, lenRv, LL.bi, biLen, biAll, biAny, biInt, biStr, biTuple, biList, biSorted, meFind, meCount, meJoin, meS, meL, meAppend, meInsert, mePop0, putL, getL, meRv, meTy, ixRv, slRv, revRv, src1, src2, src3, src4, src5, bindTg, bindTs, wipe, treesOf, tupOf, lstOf, app, Sto.trunc, glo0, glo1, glo2, SZ, -List.map_map, ixOf, T.eqOk, T.data, T.datas, T.calm, T.calms, T.depth, T.depths, T.beq, T.beqs, pl, hcut, hdt.1, hdt.2.1, hdx, hmin, hbq], by simp⟩
        | false => exact ⟨[some (.t wr), some (.l S.L.length), some (.t x), some (.t (.int (cnt w x)))], ⟨S.L ++ [insAt w x], S.O⟩, by simp [↓mb, ↓pu, ↓gd, ↓opt_some, ↓bad_app, ↓rv_val, ↓nox_app, ↓ite_a, ↓z_evE_1, ↓z_evE_2, ↓z_evE_3, ↓z_evE_4, ↓z_evE_5, ↓z_evE_6, ↓z_evE_7, ↓z_evE_8, ↓z_evE_9, ↓z_evE_10, ↓z_evE_11, ↓z_evE_12, ↓z_evE_13, ↓z_evE_14, ↓z_evE_15, ↓z_evE_16, ↓z_evE_17, ↓z_evE_18, ↓z_evE_19, ↓z_evE_20, ↓z_evE_21, ↓z_evE_22, ↓z_evE_23, ↓z_evE_24, ↓z_evRs_1, ↓z_evRs_2, ↓z_evO_1, ↓z_evO_2, ↓z_evT_1, ↓z_evT_2, ↓z_evT_3, ↓z_evT_4, ↓z_evC_1, ↓z_evC_2, ↓z_evIt_1, ↓z_evIt_3, ↓z_evIt_4, ↓z_evIt_5, ↓z_evIt_6, ↓z_evS_1, ↓z_evS_2, ↓z_evS_3, ↓z_evS_4, ↓z_evS_5, ↓z_evS_6, ↓z_evS_7, ↓z_evS_8, ↓z_evS_9, ↓z_evS_10, ↓z_evS_11, ↓z_evS_12, ↓z_evS_13, ↓z_evSs_1, ↓z_evSs_2, ↓evIt_rng, leave, start, slotRv, Rv.tree, Rv.isI, Rv.isB, Rv.isS, T.isI, T.isB, T.isS, Rv.w, Rv.lst, Rv.seq, lstAt, seqAt, Rv.data, binop, cmpop, eqRv, inRv, ltRv, isRv, truth, isTy, isiRv, lenRv, LL.bi, biLen, biAll, biAny, biInt, biStr, biTuple, biList, biSorted, meFind, meCount, meJoin, meS, meL, meAppend, meInsert, mePop0, putL, getL, meRv, meTy, ixRv, slRv, revRv, src1, src2, src3, src4, src5, bindTg, bindTs, wipe, treesOf, tupOf, lstOf, app, Sto.trunc, glo0, glo1, glo2, SZ, -List.map_map, ixOf, T.eqOk, T.data, T.datas, T.calm, T.calms, T.depth, T.depths, T.beq, T.beqs, pl, hcut, hdt.1, hdt.2.1, hdx, hmin, hbq, hlw, hcb, insAt], by simp⟩)
      [some (.t wr), some (.l S.L.length), none, none] ⟨S.L ++ [[]], S.O⟩ ⟨rfl, _, _, rfl⟩
  obtain ⟨σ', s', e, hs, u, v, hσ⟩ := FI
  subst hs hσ
  simp [↓mb, ↓pu, ↓gd, ↓opt_some, ↓bad_app, ↓rv_val, ↓nox_app, ↓ite_a, ↓z_evE_1, ↓z_evE_2, ↓z_evE_3, ↓z_evE_4, ↓z_evE_5, ↓z_evE_6, ↓z_evE_7, ↓z_evE_8, ↓z_evE_9, ↓z_evE_10, ↓z_evE_11, ↓z_evE_12, ↓z_evE_13, ↓z_evE_14, ↓z_evE_15, ↓z_evE_16, ↓z_evE_17, ↓z_evE_18, ↓z_evE_19, ↓z_evE_20, ↓z_evE_21, ↓z_evE_22, ↓z_evE_23, ↓z_evE_24, ↓z_evRs_1, ↓z_evRs_2, ↓z_evO_1, ↓z_evO_2, ↓z_evT_1, ↓z_evT_2, ↓z_evT_3, ↓z_evT_4, ↓z_evC_1, ↓z_evC_2, ↓z_evIt_1, ↓z_evIt_3, ↓z_evIt_4, ↓z_evIt_5, ↓z_evIt_6, ↓z_evS_1, ↓z_evS_2, ↓z_evS_3, ↓z_evS_4, ↓z_evS_5, ↓z_evS_6, ↓z_evS_7, ↓z_evS_8, ↓z_evS_9, ↓z_evS_10, ↓z_evS_11, ↓z_evS_12, ↓z_evS_13, ↓z_evSs_1, ↓z_evSs_2, ↓evIt_rng, leave, start, slotRv, Rv.tree, Rv.isI, Rv.isB, Rv.isS, T.isI, T.isB, T.isS, Rv.w, Rv.lst, Rv.seq, lstAt, seqAt, Rv.data, binop, cmpop, eqRv, inRv, ltRv, isRv, truth, isTy, isiRv, lenRv, LL.bi, biLen, biAll, biAny, biInt, biStr, biTuple, biList, biSorted, meFind, meCount, meJoin, meS, meL, meAppend, meInsert, mePop0, putL, getL, meRv, meTy, ixRv, slRv, revRv, src1, src2, src3, src4, src5, bindTg, bindTs, wipe, treesOf, tupOf, lstOf, app, Sto.trunc, glo0, glo1, glo2, SZ, -List.map_map, ixOf, T.eqOk, T.data, T.datas, T.calm, T.calms, T.depth, T.depths, T.beq, T.beqs] at e
  rw [e]
  simp [↓mb, ↓pu, ↓gd, ↓opt_some, ↓bad_app, ↓rv_val, ↓nox_app, ↓ite_a, ↓z_evE_1, ↓z_evE_2, ↓z_evE_3, ↓z_evE_4, ↓z_evE_5, ↓z_evE_6, ↓z_evE_7, ↓z_evE_8, ↓z_evE_9, ↓z_evE_10, ↓z_evE_11, ↓z_evE_12, ↓z_evE_13, ↓z_evE_14, ↓z_evE_15, ↓z_evE_16, ↓z_evE_17, ↓z_evE_18, ↓z_evE_19, ↓z_evE_20, ↓z_evE_21, ↓z_evE_22, ↓z_evE_23, ↓z_evE_24, ↓z_evRs_1, ↓z_evRs_2, ↓z_evO_1, ↓z_evO_2, ↓z_evT_1, ↓z_evT_2, ↓z_evT_3, ↓z_evT_4, ↓z_evC_1, ↓z_evC_2, ↓z_evIt_1, ↓z_evIt_3, ↓z_evIt_4, ↓z_evIt_5, ↓z_evIt_6, ↓z_evS_1, ↓z_evS_2, ↓z_evS_3, ↓z_evS_4, ↓z_evS_5, ↓z_evS_6, ↓z_evS_7, ↓z_evS_8, ↓z_evS_9, ↓z_evS_10, ↓z_evS_11, ↓z_evS_12, ↓z_evS_13, ↓z_evSs_1, ↓z_evSs_2, ↓evIt_rng, leave, start, slotRv, Rv.tree, Rv.isI, Rv.isB, Rv.isS, T.isI, T.isB, T.isS, Rv.w, Rv.lst, Rv.seq, lstAt, seqAt, Rv.data, binop, cmpop, eqRv, inRv, ltRv, isRv, truth, isTy, isiRv, lenRv, LL.bi, biLen, biAll, biAny, biInt, biStr, biTuple, biList, biSorted, meFind, meCount, meJoin, meS, meL, meAppend, meInsert, mePop0, putL, getL, meRv, meTy, ixRv, slRv, revRv, src1, src2, src3, src4, src5, bindTg, bindTs, wipe, treesOf, tupOf, lstOf, app, Sto.trunc, glo0, glo1, glo2, SZ, -List.map_map, ixOf, T.eqOk, T.data, T.datas, T.calm, T.calms, T.depth, T.depths, T.beq, T.beqs, ascF]
theorem ascending_t {k : Nat} {S : Sto} {rows : List T} {P : T → Prop} (F : Fam P) (hp : ∀ y ∈ rows, P y) (hl : rows.length ≤ 1000000) : run prog (k + 2) 55 [.t (.tup rows)] S = .ok (.new (ascF rows)) S := ascending_x (src3 _) F hp hl
theorem leastF_len (bel : T → T → Bool) (rows : List T) : (leastF bel rows).length ≤ rows.length := Nat.le_trans (List.length_filter_le _ _) (ascF_len rows)
theorem belT_pl {a : Tk} {x y : T} (ha : TkOk a) (hx : PlP a x) (hy : PlP a y) {k : Nat} {S : Sto} : run prog (k + 2) 53 [.t x, .t y] S = .ok (.v (.bl (belT x y))) S := by
  obtain ⟨p, hp, rfl⟩ := hx
  obtain ⟨q, hq, rfl⟩ := hy
  rw [belT_t]
  exact is_below_t (hq.short ha)
theorem any_t (g : T → Bool) (xs : List T) : (xs.map g).any id = xs.any g := by simp
theorem least_of_x {k : Nat} {S : Sto} {a : Tk} {rows : List T} {wr : T} (hw0 : srcOf (.v wr) = M.pure ⟨rows, []⟩) (ha : TkOk a) (hp : ∀ y ∈ rows, PlP a y) (hl : rows.length ≤ 1000000) : run prog (k + 3) 56 [.t wr] S = .ok (.v (.tup (leastF belT rows))) S := by
  have F := pl_fam a
  have as := ascending_x (k := k) (S := S) hw0 F hp hl
  have he : ∀ y ∈ ascF rows, PlP a y := fun y hy => hp y ((ascF_mem F.alike hp y).1 hy)
  have hel := ascF_len rows
  rw [run_fn (rfl : prog.fn 56 = some F_least_of)]
  simp [F_least_of, ↓mb, ↓pu, ↓gd, ↓opt_some, ↓bad_app, ↓rv_val, ↓nox_app, ↓ite_a, ↓z_evE_1, ↓z_evE_2, ↓z_evE_3, ↓z_evE_4, ↓z_evE_5, ↓z_evE_6, ↓z_evE_7, ↓z_evE_8, ↓z_evE_9, ↓z_evE_10, ↓z_evE_11, ↓z_evE_12, ↓z_evE_13, ↓z_evE_14, ↓z_evE_15, ↓z_evE_16, ↓z_evE_17, ↓z_evE_18, ↓z_evE_19, ↓z_evE_20, ↓z_evE_21, ↓z_evE_22, ↓z_evE_23, ↓z_evE_24, ↓z_evRs_1, ↓z_evRs_2, ↓z_evO_1, ↓z_evO_2, ↓z_evT_1, ↓z_evT_2, ↓z_evT_3, ↓z_evT_4, ↓z_evC_1, ↓z_evC_2, ↓z_evIt_1, ↓z_evIt_3, ↓z_evIt_4, ↓z_evIt_5, ↓z_evIt_6, ↓z_evS_1, ↓z_evS_2, ↓z_evS_3, ↓z_evS_4, ↓z_evS_5, ↓z_evS_6, ↓z_evS_7, ↓z_evS_8, ↓z_evS_9, ↓z_evS_10, ↓z_evS_11, ↓z_evS_12, ↓z_evS_13, ↓z_evSs_1, ↓z_evSs_2, ↓evIt_rng, leave, start, slotRv, Rv.tree, Rv.isI, Rv.isB, Rv.isS, T.isI, T.isB, T.isS, Rv.w, Rv.lst, Rv.seq, lstAt, seqAt, Rv.data, binop, cmpop, eqRv, inRv, ltRv, isRv, truth, isTy, isiRv, lenRv, LL.bi, biLen, biAll, biAny, biInt, biStr, biTuple, biList, biSorted, meFind, meCount, meJoin, meS, meL, meAppend, meInsert, mePop0, putL, getL, meRv, meTy, ixRv, slRv, revRv, src1, src2, src3, src4, src5, bindTg, bindTs, wipe, treesOf, tupOf, lstOf, app, Sto.trunc, glo0, glo1, glo2, SZ, -List.map_map, ixOf, T.eqOk, T.data, T.datas, T.calm, T.calms, T.depth, T.depths, T.beq, T.beqs, as]
  generalize hw : ascF rows = w at *
  rw [lc_filt (fun r => !w.any fun o => (!T.beq o r) && belT o r) (fun r => r) S rfl _ (by omega)]
  · simp [↓mb, ↓pu, ↓gd, ↓opt_some, ↓bad_app, ↓rv_val, ↓nox_app, ↓ite_a, ↓z_evE_1, ↓z_evE_2, ↓z_evE_3, ↓z_evE_4, ↓z_evE_5, ↓z_evE_6, ↓z_evE_7, ↓z_evE_8, ↓z_evE_9, ↓z_evE_10, ↓z_evE_11, ↓z_evE_12, ↓z_evE_13, ↓z_evE_14, ↓z_evE_15, ↓z_evE_16, ↓z_evE_17, ↓z_evE_18, ↓z_evE_19, ↓z_evE_20, ↓z_evE_21, ↓z_evE_22, ↓z_evE_23, ↓z_evE_24, ↓z_evRs_1, ↓z_evRs_2, ↓z_evO_1, ↓z_evO_2, ↓z_evT_1, ↓z_evT_2, ↓z_evT_3, ↓z_evT_4, ↓z_evC_1, ↓z_evC_2, ↓z_evIt_1, ↓z_evIt_3, ↓z_evIt_4, ↓z_evIt_5, ↓z_evIt_6, ↓z_evS_1, ↓z_evS_2, ↓z_evS_3, ↓z_evS_4, ↓z_evS_5, ↓z_evS_6, ↓z_evS_7, ↓z_evS_8, ↓z_evS_9, ↓z_evS_10, ↓z_evS_11, ↓z_evS_12, ↓z_evS_13, ↓z_evSs_1, ↓z_evSs_2, ↓evIt_rng, leave, start, slotRv, Rv.tree, Rv.isI, Rv.isB, Rv.isS, T.isI, T.isB, T.isS, Rv.w, Rv.lst, Rv.seq, lstAt, seqAt, Rv.data, binop, cmpop, eqRv, inRv, ltRv, isRv, truth, isTy, isiRv, lenRv, LL.bi, biLen, biAll, biAny, biInt, biStr, biTuple, biList, biSorted, meFind, meCount, meJoin, meS, meL, meAppend, meInsert, mePop0, putL, getL, meRv, meTy, ixRv, slRv, revRv, src1, src2, src3, src4, src5, bindTg, bindTs, wipe, treesOf, tupOf, lstOf, app, Sto.trunc, glo0, glo1, glo2, SZ, -List.map_map, ixOf, T.eqOk, T.data, T.datas, T.calm, T.calms, T.depth, T.depths, T.beq, T.beqs, leastF, hw]
  · intro r hr acc hacc
    simp only [↓mb, ↓pu, ↓gd, ↓opt_some, ↓bad_app, ↓rv_val, ↓nox_app, ↓ite_a, ↓z_evE_1, ↓z_evE_2, ↓z_evE_3, ↓z_evE_4, ↓z_evE_5, ↓z_evE_6, ↓z_evE_7, ↓z_evE_8, ↓z_evE_9, ↓z_evE_10, ↓z_evE_11, ↓z_evE_12, ↓z_evE_13, ↓z_evE_14, ↓z_evE_15, ↓z_evE_16, ↓z_evE_17, ↓z_evE_18, ↓z_evE_19, ↓z_evE_20, ↓z_evE_21, ↓z_evE_22, ↓z_evE_23, ↓z_evE_24, ↓z_evRs_1, ↓z_evRs_2, ↓z_evO_1, ↓z_evO_2, ↓z_evT_1, ↓z_evT_2, ↓z_evT_3, ↓z_evT_4, ↓z_evC_1, ↓z_evC_2, ↓z_evIt_1, ↓z_evIt_3, ↓z_evIt_4, ↓z_evIt_5, ↓z_evIt_6, ↓z_evS_1, ↓z_evS_2, ↓z_evS_3, ↓z_evS_4, ↓z_evS_5, ↓z_evS_6, ↓z_evS_7, ↓z_evS_8, ↓z_evS_9, ↓z_evS_10, ↓z_evS_11, ↓z_evS_12, ↓z_evS_13, ↓z_evSs_1, ↓z_evSs_2, ↓evIt_rng, leave, start, slotRv, Rv.tree, Rv.isI, Rv.isB, Rv.isS, T.isI, T.isB, T.isS, Rv.w, Rv.lst, Rv.seq, lstAt, seqAt, Rv.data, binop, cmpop, eqRv, inRv, ltRv, isRv, truth, isTy, isiRv, lenRv, LL.bi, biLen, biAll, biAny, biInt, biStr, biTuple, biList, biSorted, meFind, meCount, meJoin, meS, meL, meAppend, meInsert, mePop0, putL, getL, meRv, meTy, ixRv, slRv, revRv, src1, src2, src3, src4, src5, bindTg, bindTs, wipe, treesOf, tupOf, lstOf, app, Sto.trunc, glo0, glo1, glo2, SZ, -List.map_map, ixOf, T.eqOk, T.data, T.datas, T.calm, T.calms, T.depth, T.depths, T.beq, T.beqs, List.set_cons_zero, List.set_cons_succ, List.getElem?_cons_succ, List.getElem?_cons_zero, List.map_cons, List.map_nil]
    rw [lc_map (fun o => .bl ((!T.beq o r) && belT o r)) S rfl _ (by omega)]
    · simp only [↓mb, ↓pu, ↓gd, ↓opt_some, ↓bad_app, ↓rv_val, ↓nox_app, ↓ite_a, ↓z_evE_1, ↓z_evE_2, ↓z_evE_3, ↓z_evE_4, ↓z_evE_5, ↓z_evE_6, ↓z_evE_7, ↓z_evE_8, ↓z_evE_9, ↓z_evE_10, ↓z_evE_11, ↓z_evE_12, ↓z_evE_13, ↓z_evE_14, ↓z_evE_15, ↓z_evE_16, ↓z_evE_17, ↓z_evE_18, ↓z_evE_19, ↓z_evE_20, ↓z_evE_21, ↓z_evE_22, ↓z_evE_23, ↓z_evE_24, ↓z_evRs_1, ↓z_evRs_2, ↓z_evO_1, ↓z_evO_2, ↓z_evT_1, ↓z_evT_2, ↓z_evT_3, ↓z_evT_4, ↓z_evC_1, ↓z_evC_2, ↓z_evIt_1, ↓z_evIt_3, ↓z_evIt_4, ↓z_evIt_5, ↓z_evIt_6, ↓z_evS_1, ↓z_evS_2, ↓z_evS_3, ↓z_evS_4, ↓z_evS_5, ↓z_evS_6, ↓z_evS_7, ↓z_evS_8, ↓z_evS_9, ↓z_evS_10, ↓z_evS_11, ↓z_evS_12, ↓z_evS_13, ↓z_evSs_1, ↓z_evSs_2, ↓evIt_rng, leave, start, slotRv, Rv.tree, Rv.isI, Rv.isB, Rv.isS, T.isI, T.isB, T.isS, Rv.w, Rv.lst, Rv.seq, lstAt, seqAt, Rv.data, binop, cmpop, eqRv, inRv, ltRv, isRv, truth, isTy, isiRv, lenRv, LL.bi, biLen, biAll, biAny, biInt, biStr, biTuple, biList, biSorted, meFind, meCount, meJoin, meS, meL, meAppend, meInsert, mePop0, putL, getL, meRv, meTy, ixRv, slRv, revRv, src1, src2, src3, src4, src5, bindTg, bindTs, wipe, treesOf, tupOf, lstOf, app, Sto.trunc, glo0, glo1, glo2, SZ, -List.map_map, ixOf, T.eqOk, T.data, T.datas, T.calm, T.calms, T.depth, T.depths, T.beq, T.beqs, allBl_t (fun o : T => (!T.beq o r) && belT o r), any_t]
      cases (w.any fun o => (!T.beq o r) && belT o r) <;> simp [↓mb, ↓pu, ↓gd, ↓opt_some, ↓bad_app, ↓rv_val, ↓nox_app, ↓ite_a, ↓z_evE_1, ↓z_evE_2, ↓z_evE_3, ↓z_evE_4, ↓z_evE_5, ↓z_evE_6, ↓z_evE_7, ↓z_evE_8, ↓z_evE_9, ↓z_evE_10, ↓z_evE_11, ↓z_evE_12, ↓z_evE_13, ↓z_evE_14, ↓z_evE_15, ↓z_evE_16, ↓z_evE_17, ↓z_evE_18, ↓z_evE_19, ↓z_evE_20, ↓z_evE_21, ↓z_evE_22, ↓z_evE_23, ↓z_evE_24, ↓z_evRs_1, ↓z_evRs_2, ↓z_evO_1, ↓z_evO_2, ↓z_evT_1, ↓z_evT_2, ↓z_evT_3, ↓z_evT_4, ↓z_evC_1, ↓z_evC_2, ↓z_evIt_1, ↓z_evIt_3, ↓z_evIt_4, ↓z_evIt_5, ↓z_evIt_6, ↓z_evS_1, ↓z_evS_2, ↓z_evS_3, ↓z_evS_4, ↓z_evS_5, ↓z_evS_6, ↓z_evS_7, ↓z_evS_8, ↓z_evS_9, ↓z_evS_10, ↓z_evS_11, ↓z_evS_12, ↓z_evS_13, ↓z_evSs_1, ↓z_evSs_2, ↓evIt_rng, leave, start, slotRv, Rv.tree, Rv.isI, Rv.isB, Rv.isS, T.isI, T.isB, T.isS, Rv.w, Rv.lst, Rv.seq, lstAt, seqAt, Rv.data, binop, cmpop, eqRv, inRv, ltRv, isRv, truth, isTy, isiRv, lenRv, LL.bi, biLen, biAll, biAny, biInt, biStr, biTuple, biList, biSorted, meFind, meCount, meJoin, meS, meL, meAppend, meInsert, mePop0, putL, getL, meRv, meTy, ixRv, slRv, revRv, src1, src2, src3, src4, src5, bindTg, bindTs, wipe, treesOf, tupOf, lstOf, app, Sto.trunc, glo0, glo1, glo2, SZ, -List.map_map, ixOf, T.eqOk, T.data, T.datas, T.calm, T.calms, T.depth, T.depths, T.beq, T.beqs, hacc]
    · intro o ho acc hacc
      have h1 := F.eqOk (he o ho) (he r hr)
      have h2 := belT_pl (k := k) (S := S) ha (he o ho) (he r hr)
      rw [T.eqOk] at h1
      cases hb : T.beq o r <;> simp_all [↓mb, ↓pu, ↓gd, ↓opt_some, ↓bad_app, ↓rv_val, ↓nox_app, ↓ite_a, ↓z_evE_1, ↓z_evE_2, ↓z_evE_3, ↓z_evE_4, ↓z_evE_5, ↓z_evE_6, ↓z_evE_7, ↓z_evE_8, ↓z_evE_9, ↓z_evE_10, ↓z_evE_11, ↓z_evE_12, ↓z_evE_13, ↓z_evE_14, ↓z_evE_15, ↓z_evE_16, ↓z_evE_17, ↓z_evE_18, ↓z_evE_19, ↓z_evE_20, ↓z_evE_21, ↓z_evE_22, ↓z_evE_23, ↓z_evE_24, ↓z_evRs_1, ↓z_evRs_2, ↓z_evO_1, ↓z_evO_2, ↓z_evT_1, ↓z_evT_2, ↓z_evT_3, ↓z_evT_4, ↓z_evC_1, ↓z_evC_2, ↓z_evIt_1, ↓z_evIt_3, ↓z_evIt_4, ↓z_evIt_5, ↓z_evIt_6, ↓z_evS_1, ↓z_evS_2, ↓z_evS_3, ↓z_evS_4, ↓z_evS_5, ↓z_evS_6, ↓z_evS_7, ↓z_evS_8, ↓z_evS_9, ↓z_evS_10, ↓z_evS_11, ↓z_evS_12, ↓z_evS_13, ↓z_evSs_1, ↓z_evSs_2, ↓evIt_rng, leave, start, slotRv, Rv.tree, Rv.isI, Rv.isB, Rv.isS, T.isI, T.isB, T.isS, Rv.w, Rv.lst, Rv.seq, lstAt, seqAt, Rv.data, binop, cmpop, eqRv, inRv, ltRv, isRv, truth, isTy, isiRv, lenRv, LL.bi, biLen, biAll, biAny, biInt, biStr, biTuple, biList, biSorted, meFind, meCount, meJoin, meS, meL, meAppend, meInsert, mePop0, putL, getL, meRv, meTy, ixRv, slRv, revRv, src1, src2, src3, src4, src5, bindTg, bindTs, wipe, treesOf, tupOf, lstOf, app, Sto.trunc, glo0, glo1, glo2, SZ, -List.map_map, ixOf, T.eqOk, T.data, T.datas, T.calm, T.calms, T.depth, T.depths, T.beq, T.beqs]
theorem least_of_t {k : Nat} {S : Sto} {a : Tk} {rows : List T} (ha : TkOk a) (hp : ∀ y ∈ rows, PlP a y) (hl : rows.length ≤ 1000000) : run prog (k + 3) 56 [.t (.tup rows)] S = .ok (.v (.tup (leastF belT rows))) S := least_of_x (src3 _) ha hp hl
theorem is_part_t {k : Nat} {S : Sto} {a : Tk} {x y : Pl} (ha : TkOk a) (hx : PlOk a x) (hy : PlOk a y) : run prog (k + 5) 57 [.t a.t, .t x.t, .t y.t] S = .ok (.v (.bl (bel x y))) S := by
  have h1 := need_talk_t (k := k) (S := S) ha
  have h2 := need_situation_t (k := k) (S := S) ha hx
  have h3 := need_situation_t (k := k) (S := S) ha hy
  have h4 := is_below_t (k := k + 2) (S := S) (x := x) (hy.short ha)
  rw [run_fn (rfl : prog.fn 57 = some F_is_part)]
  simp [F_is_part, ↓mb, ↓pu, ↓gd, ↓opt_some, ↓bad_app, ↓rv_val, ↓nox_app, ↓ite_a, ↓z_evE_1, ↓z_evE_2, ↓z_evE_3, ↓z_evE_4, ↓z_evE_5, ↓z_evE_6, ↓z_evE_7, ↓z_evE_8, ↓z_evE_9, ↓z_evE_10, ↓z_evE_11, ↓z_evE_12, ↓z_evE_13, ↓z_evE_14, ↓z_evE_15, ↓z_evE_16, ↓z_evE_17, ↓z_evE_18, ↓z_evE_19, ↓z_evE_20, ↓z_evE_21, ↓z_evE_22, ↓z_evE_23, ↓z_evE_24, ↓z_evRs_1, ↓z_evRs_2, ↓z_evO_1, ↓z_evO_2, ↓z_evT_1, ↓z_evT_2, ↓z_evT_3, ↓z_evT_4, ↓z_evC_1, ↓z_evC_2, ↓z_evIt_1, ↓z_evIt_3, ↓z_evIt_4, ↓z_evIt_5, ↓z_evIt_6, ↓z_evS_1, ↓z_evS_2, ↓z_evS_3, ↓z_evS_4, ↓z_evS_5, ↓z_evS_6, ↓z_evS_7, ↓z_evS_8, ↓z_evS_9, ↓z_evS_10, ↓z_evS_11, ↓z_evS_12, ↓z_evS_13, ↓z_evSs_1, ↓z_evSs_2, ↓evIt_rng, leave, start, slotRv, Rv.tree, Rv.isI, Rv.isB, Rv.isS, T.isI, T.isB, T.isS, Rv.w, Rv.lst, Rv.seq, lstAt, seqAt, Rv.data, binop, cmpop, eqRv, inRv, ltRv, isRv, truth, isTy, isiRv, lenRv, LL.bi, biLen, biAll, biAny, biInt, biStr, biTuple, biList, biSorted, meFind, meCount, meJoin, meS, meL, meAppend, meInsert, mePop0, putL, getL, meRv, meTy, ixRv, slRv, revRv, src1, src2, src3, src4, src5, bindTg, bindTs, wipe, treesOf, tupOf, lstOf, app, Sto.trunc, glo0, glo1, glo2, SZ, -List.map_map, ixOf, T.eqOk, T.data, T.datas, T.calm, T.calms, T.depth, T.depths, T.beq, T.beqs, h1, h2, h3, h4]
theorem need_rows_t {k : Nat} {S : Sto} {a : Tk} {rows : List T} (ha : TkOk a) (hp : ∀ y ∈ rows, PlP a y) (hl : rows.length ≤ 8) : run prog (k + 4) 58 [.t a.t, .t (.tup rows)] S = .ok (.v .non) S := by
  have h : ¬ (8 : Int) < (rows.length : Int) := by omega
  rw [run_fn (rfl : prog.fn 58 = some F_need_rows)]
  simp [F_need_rows, ↓mb, ↓pu, ↓gd, ↓opt_some, ↓bad_app, ↓rv_val, ↓nox_app, ↓ite_a, ↓z_evE_1, ↓z_evE_2, ↓z_evE_3, ↓z_evE_4, ↓z_evE_5, ↓z_evE_6, ↓z_evE_7, ↓z_evE_8, ↓z_evE_9, ↓z_evE_10, ↓z_evE_11, ↓z_evE_12, ↓z_evE_13, ↓z_evE_14, ↓z_evE_15, ↓z_evE_16, ↓z_evE_17, ↓z_evE_18, ↓z_evE_19, ↓z_evE_20, ↓z_evE_21, ↓z_evE_22, ↓z_evE_23, ↓z_evE_24, ↓z_evRs_1, ↓z_evRs_2, ↓z_evO_1, ↓z_evO_2, ↓z_evT_1, ↓z_evT_2, ↓z_evT_3, ↓z_evT_4, ↓z_evC_1, ↓z_evC_2, ↓z_evIt_1, ↓z_evIt_3, ↓z_evIt_4, ↓z_evIt_5, ↓z_evIt_6, ↓z_evS_1, ↓z_evS_2, ↓z_evS_3, ↓z_evS_4, ↓z_evS_5, ↓z_evS_6, ↓z_evS_7, ↓z_evS_8, ↓z_evS_9, ↓z_evS_10, ↓z_evS_11, ↓z_evS_12, ↓z_evS_13, ↓z_evSs_1, ↓z_evSs_2, ↓evIt_rng, leave, start, slotRv, Rv.tree, Rv.isI, Rv.isB, Rv.isS, T.isI, T.isB, T.isS, Rv.w, Rv.lst, Rv.seq, lstAt, seqAt, Rv.data, binop, cmpop, eqRv, inRv, ltRv, isRv, truth, isTy, isiRv, lenRv, LL.bi, biLen, biAll, biAny, biInt, biStr, biTuple, biList, biSorted, meFind, meCount, meJoin, meS, meL, meAppend, meInsert, mePop0, putL, getL, meRv, meTy, ixRv, slRv, revRv, src1, src2, src3, src4, src5, bindTg, bindTs, wipe, treesOf, tupOf, lstOf, app, Sto.trunc, glo0, glo1, glo2, SZ, -List.map_map, ixOf, T.eqOk, T.data, T.datas, T.calm, T.calms, T.depth, T.depths, T.beq, T.beqs, h]
  rw [lc_map (fun _ => .bl true) S rfl _ (by omega)]
  · simp [↓mb, ↓pu, ↓gd, ↓opt_some, ↓bad_app, ↓rv_val, ↓nox_app, ↓ite_a, ↓z_evE_1, ↓z_evE_2, ↓z_evE_3, ↓z_evE_4, ↓z_evE_5, ↓z_evE_6, ↓z_evE_7, ↓z_evE_8, ↓z_evE_9, ↓z_evE_10, ↓z_evE_11, ↓z_evE_12, ↓z_evE_13, ↓z_evE_14, ↓z_evE_15, ↓z_evE_16, ↓z_evE_17, ↓z_evE_18, ↓z_evE_19, ↓z_evE_20, ↓z_evE_21, ↓z_evE_22, ↓z_evE_23, ↓z_evE_24, ↓z_evRs_1, ↓z_evRs_2, ↓z_evO_1, ↓z_evO_2, ↓z_evT_1, ↓z_evT_2, ↓z_evT_3, ↓z_evT_4, ↓z_evC_1, ↓z_evC_2, ↓z_evIt_1, ↓z_evIt_3, ↓z_evIt_4, ↓z_evIt_5, ↓z_evIt_6, ↓z_evS_1, ↓z_evS_2, ↓z_evS_3, ↓z_evS_4, ↓z_evS_5, ↓z_evS_6, ↓z_evS_7, ↓z_evS_8, ↓z_evS_9, ↓z_evS_10, ↓z_evS_11, ↓z_evS_12, ↓z_evS_13, ↓z_evSs_1, ↓z_evSs_2, ↓evIt_rng, leave, start, slotRv, Rv.tree, Rv.isI, Rv.isB, Rv.isS, T.isI, T.isB, T.isS, Rv.w, Rv.lst, Rv.seq, lstAt, seqAt, Rv.data, binop, cmpop, eqRv, inRv, ltRv, isRv, truth, isTy, isiRv, lenRv, LL.bi, biLen, biAll, biAny, biInt, biStr, biTuple, biList, biSorted, meFind, meCount, meJoin, meS, meL, meAppend, meInsert, mePop0, putL, getL, meRv, meTy, ixRv, slRv, revRv, src1, src2, src3, src4, src5, bindTg, bindTs, wipe, treesOf, tupOf, lstOf, app, Sto.trunc, glo0, glo1, glo2, SZ, -List.map_map, ixOf, T.eqOk, T.data, T.datas, T.calm, T.calms, T.depth, T.depths, T.beq, T.beqs, allBl_c]
  · intro x hx acc hacc
    obtain ⟨p, hp, rfl⟩ := hp x hx
    have := is_one_t (k := k) (S := S) ha hp
    simp [↓mb, ↓pu, ↓gd, ↓opt_some, ↓bad_app, ↓rv_val, ↓nox_app, ↓ite_a, ↓z_evE_1, ↓z_evE_2, ↓z_evE_3, ↓z_evE_4, ↓z_evE_5, ↓z_evE_6, ↓z_evE_7, ↓z_evE_8, ↓z_evE_9, ↓z_evE_10, ↓z_evE_11, ↓z_evE_12, ↓z_evE_13, ↓z_evE_14, ↓z_evE_15, ↓z_evE_16, ↓z_evE_17, ↓z_evE_18, ↓z_evE_19, ↓z_evE_20, ↓z_evE_21, ↓z_evE_22, ↓z_evE_23, ↓z_evE_24, ↓z_evRs_1, ↓z_evRs_2, ↓z_evO_1, ↓z_evO_2, ↓z_evT_1, ↓z_evT_2, ↓z_evT_3, ↓z_evT_4, ↓z_evC_1, ↓z_evC_2, ↓z_evIt_1, ↓z_evIt_3, ↓z_evIt_4, ↓z_evIt_5, ↓z_evIt_6, ↓z_evS_1, ↓z_evS_2, ↓z_evS_3, ↓z_evS_4, ↓z_evS_5, ↓z_evS_6, ↓z_evS_7, ↓z_evS_8, ↓z_evS_9, ↓z_evS_10, ↓z_evS_11, ↓z_evS_12, ↓z_evS_13, ↓z_evSs_1, ↓z_evSs_2, ↓evIt_rng, leave, start, slotRv, Rv.tree, Rv.isI, Rv.isB, Rv.isS, T.isI, T.isB, T.isS, Rv.w, Rv.lst, Rv.seq, lstAt, seqAt, Rv.data, binop, cmpop, eqRv, inRv, ltRv, isRv, truth, isTy, isiRv, lenRv, LL.bi, biLen, biAll, biAny, biInt, biStr, biTuple, biList, biSorted, meFind, meCount, meJoin, meS, meL, meAppend, meInsert, mePop0, putL, getL, meRv, meTy, ixRv, slRv, revRv, src1, src2, src3, src4, src5, bindTg, bindTs, wipe, treesOf, tupOf, lstOf, app, Sto.trunc, glo0, glo1, glo2, SZ, -List.map_map, ixOf, T.eqOk, T.data, T.datas, T.calm, T.calms, T.depth, T.depths, T.beq, T.beqs, this, hacc]
theorem least_t {k : Nat} {S : Sto} {a : Tk} {rows : List T} (ha : TkOk a) (hp : ∀ y ∈ rows, PlP a y) (hl : rows.length ≤ 8) : run prog (k + 5) 59 [.t a.t, .t (.tup rows)] S = .ok (.v (.tup (leastF belT rows))) S := by
  have h1 := need_talk_t (k := k) (S := S) ha
  have h2 := need_rows_t (k := k) (S := S) ha hp hl
  have h3 := least_of_t (k := k + 1) (S := S) ha hp (by omega)
  rw [run_fn (rfl : prog.fn 59 = some F_least)]
  simp [F_least, ↓mb, ↓pu, ↓gd, ↓opt_some, ↓bad_app, ↓rv_val, ↓nox_app, ↓ite_a, ↓z_evE_1, ↓z_evE_2, ↓z_evE_3, ↓z_evE_4, ↓z_evE_5, ↓z_evE_6, ↓z_evE_7, ↓z_evE_8, ↓z_evE_9, ↓z_evE_10, ↓z_evE_11, ↓z_evE_12, ↓z_evE_13, ↓z_evE_14, ↓z_evE_15, ↓z_evE_16, ↓z_evE_17, ↓z_evE_18, ↓z_evE_19, ↓z_evE_20, ↓z_evE_21, ↓z_evE_22, ↓z_evE_23, ↓z_evE_24, ↓z_evRs_1, ↓z_evRs_2, ↓z_evO_1, ↓z_evO_2, ↓z_evT_1, ↓z_evT_2, ↓z_evT_3, ↓z_evT_4, ↓z_evC_1, ↓z_evC_2, ↓z_evIt_1, ↓z_evIt_3, ↓z_evIt_4, ↓z_evIt_5, ↓z_evIt_6, ↓z_evS_1, ↓z_evS_2, ↓z_evS_3, ↓z_evS_4, ↓z_evS_5, ↓z_evS_6, ↓z_evS_7, ↓z_evS_8, ↓z_evS_9, ↓z_evS_10, ↓z_evS_11, ↓z_evS_12, ↓z_evS_13, ↓z_evSs_1, ↓z_evSs_2, ↓evIt_rng, leave, start, slotRv, Rv.tree, Rv.isI, Rv.isB, Rv.isS, T.isI, T.isB, T.isS, Rv.w, Rv.lst, Rv.seq, lstAt, seqAt, Rv.data, binop, cmpop, eqRv, inRv, ltRv, isRv, truth, isTy, isiRv, lenRv, LL.bi, biLen, biAll, biAny, biInt, biStr, biTuple, biList, biSorted, meFind, meCount, meJoin, meS, meL, meAppend, meInsert, mePop0, putL, getL, meRv, meTy, ixRv, slRv, revRv, src1, src2, src3, src4, src5, bindTg, bindTs, wipe, treesOf, tupOf, lstOf, app, Sto.trunc, glo0, glo1, glo2, SZ, -List.map_map, ixOf, T.eqOk, T.data, T.datas, T.calm, T.calms, T.depth, T.depths, T.beq, T.beqs, h1, h2, h3]
end LLQ

set_option Elab.async false
set_option linter.all false
set_option autoImplicit false
set_option maxRecDepth 100000
set_option maxHeartbeats 400000
namespace LLQ
open LL LLS LLP
def eat : Cs → Nat → Cs
  | [], _ => []
  | a :: s, c => if a = c then s else a :: s
theorem eat_nil : ∀ t : Cs, t.foldl eat [] = []
  | [] => rfl
  | c :: r => by simp [eat, eat_nil r]
theorem sub_eat : ∀ (t s : Cs), sub s t = (t.foldl eat s).isEmpty
  | [], [] => rfl
  | [], a :: s => rfl
  | c :: r, [] => by simp [sub, eat, eat_nil]
  | c :: r, a :: s => by
    simp only [sub, List.foldl_cons, eat]
    split <;> exact sub_eat r _
theorem eat_len (s : Cs) (c : Nat) : (eat s c).length ≤ s.length := by
  cases s with
  | nil => simp [eat]
  | cons a s => simp only [eat]; split <;> simp
theorem eats_len : ∀ (t s : Cs), (t.foldl eat s).length ≤ s.length
  | [], s => Nat.le_refl _
  | c :: r, s => Nat.le_trans (eats_len r _) (eat_len s c)
theorem law_part_t {k : Nat} {S : Sto} {s t : Cs} (hs : s.length ≤ 60) (ht : t.length ≤ 60) : run prog (k + 1) 60 [.t (.str s), .t (.str t)] S = .ok (.v (.bl (sub s t))) S := by
  rw [run_fn (rfl : prog.fn 60 = some F__law_part)]
  simp [F__law_part, ↓mb, ↓pu, ↓gd, ↓opt_some, ↓bad_app, ↓rv_val, ↓nox_app, ↓ite_a, ↓z_evE_1, ↓z_evE_2, ↓z_evE_3, ↓z_evE_4, ↓z_evE_5, ↓z_evE_6, ↓z_evE_7, ↓z_evE_8, ↓z_evE_9, ↓z_evE_10, ↓z_evE_11, ↓z_evE_12, ↓z_evE_13, ↓z_evE_14, ↓z_evE_15, ↓z_evE_16, ↓z_evE_17, ↓z_evE_18, ↓z_evE_19, ↓z_evE_20, ↓z_evE_21, ↓z_evE_22, ↓z_evE_23, ↓z_evE_24, ↓z_evRs_1, ↓z_evRs_2, ↓z_evO_1, ↓z_evO_2, ↓z_evT_1, ↓z_evT_2, ↓z_evT_3, ↓z_evT_4, ↓z_evC_1, ↓z_evC_2, ↓z_evIt_1, ↓z_evIt_3, ↓z_evIt_4, ↓z_evIt_5, ↓z_evIt_6, ↓z_evS_1, ↓z_evS_2, ↓z_evS_3, ↓z_evS_4, ↓z_evS_5, ↓z_evS_6, ↓z_evS_7, ↓z_evS_8, ↓z_evS_9, ↓z_evS_10, ↓z_evS_11, ↓z_evS_12, ↓z_evS_13, ↓z_evSs_1, ↓z_evSs_2, ↓evIt_rng, leave, start, slotRv, Rv.tree, Rv.isI, Rv.isB, Rv.isS, T.isI, T.isB, T.isS, Rv.w, Rv.lst, Rv.seq, lstAt, seqAt, Rv.data, binop, cmpop, eqRv, inRv, ltRv, isRv, truth, isTy, isiRv, lenRv, LL.bi, biLen, biAll, biAny, biInt, biStr, biTuple, biList, biSorted, meFind, meCount, meJoin, meS, meL, meAppend, meInsert, mePop0, putL, getL, meRv, meTy, ixRv, slRv, revRv, src1, src2, src3, src4, src5, bindTg, bindTs, wipe, treesOf, tupOf, lstOf, app, Sto.trunc, glo0, glo1, glo2, SZ, -List.map_map, ixOf, T.eqOk, T.data, T.datas, T.calm, T.calms, T.depth, T.depths, T.beq, T.beqs]
  obtain ⟨σ', s', e, rfl, v, hσ⟩ := for_inv (ws := []) (step := fun x σ => (do
      let σ' ← bindTg (.n 3) x σ
      evSs ⟨run prog k, prog.glo⟩ (.cons (.ite (.and (.val (.cmp .ne (.var 2) (.c (.str [])))) (.val (.cmp .eq (.ix (.var 2) (.c (.int 0))) (.var 3)))) (.cons (.asg (.n 2) (.sl (.var 2) (.yes (.c (.int 1))) .no)) .nil) .nil) .nil) σ' : M (Fl × Env)))
      (fun d σ s' => s' = S ∧ ∃ v, σ = [some (.t (.str s)), some (.t (.str t)), some (.t (.str ((d.map strOf).flatten.foldl eat s))), v]) (t.map fun c => T.str [c]) []
      (fun d σ s h => by simp [watchOk])
      (by
        intro d x r σ s' he ⟨hs', v, hσ⟩
        subst hs' hσ
        have hx : x ∈ t.map fun c => T.str [c] := by simp at he; rw [he]; simp
        obtain ⟨c, hc, rfl⟩ := List.mem_map.1 hx
        have hl := eats_len (d.map strOf).flatten s
        refine ⟨[some (.t (.str s)), some (.t (.str t)), some (.t (.str ((((d ++ [T.str [c]]).map strOf).flatten).foldl eat s))), some (.t (.str [c]))], s', ?_, rfl, _, rfl⟩
        simp only [List.map_append, List.flatten_append, List.foldl_append, List.map_cons, List.map_nil, strOf, List.flatten_cons, List.flatten_nil, List.append_nil, List.foldl_cons, List.foldl_nil]
        generalize (d.map strOf).flatten.foldl eat s = w at *
        cases w with
        | nil => simp [↓mb, ↓pu, ↓gd, ↓opt_some, ↓bad_app, ↓rv_val, ↓nox_app, ↓ite_a, ↓z_evE_1, ↓z_evE_2, ↓z_evE_3, ↓z_evE_4, ↓z_evE_5, ↓z_evE_6, ↓z_evE_7, ↓z_evE_8, ↓z_evE_9, ↓z_evE_10, ↓z_evE_11, ↓z_evE_12, ↓z_evE_13, ↓z_evE_14, ↓z_evE_15, ↓z_evE_16, ↓z_evE_17, ↓z_evE_18, ↓z_evE_19, ↓z_evE_20, ↓z_evE_21, ↓z_evE_22, ↓z_evE_23, ↓z_evE_24, ↓z_evRs_1, ↓z_evRs_2, ↓z_evO_1, ↓z_evO_2, ↓z_evT_1, ↓z_evT_2, ↓z_evT_3, ↓z_evT_4, ↓z_evC_1, ↓z_evC_2, ↓z_evIt_1, ↓z_evIt_3, ↓z_evIt_4, ↓z_evIt_5, ↓z_evIt_6, ↓z_evS_1, ↓z_evS_2, ↓z_evS_3, ↓z_evS_4, ↓z_evS_5, ↓z_evS_6, ↓z_evS_7, ↓z_evS_8, ↓z_evS_9, ↓z_evS_10, ↓z_evS_11, ↓z_evS_12, ↓z_evS_13, ↓z_evSs_1, ↓z_evSs_2, ↓evIt_rng, leave, start, slotRv, Rv.tree, Rv.isI, Rv.isB, Rv.isS, T.isI, T.isB, T.isS, Rv.w, Rv.lst, Rv.seq, lstAt, seqAt, Rv.data, binop, cmpop, eqRv, inRv, ltRv, isRv, truth, isTy, isiRv, lenRv, LL.bi, biLen, biAll, biAny, biInt, biStr, biTuple, biList, biSorted, meFind, meCount, meJoin, meS, meL, meAppend, meInsert, mePop0, putL, getL, meRv, meTy, ixRv, slRv, revRv, src1, src2, src3, src4, src5, bindTg, bindTs, wipe, treesOf, tupOf, lstOf, app, Sto.trunc, glo0, glo1, glo2, SZ, -List.map_map, ixOf, T.eqOk, T.data, T.datas, T.calm, T.calms, T.depth, T.depths, T.beq, T.beqs, eat]
        | cons a w =>
          have h1 : w.length + 1 ≤ 16777216 := by simp at hl; omega
          have hcut : cut (a :: w) (some 1) none = w := by rw [cut_one]; rfl
          by_cases hac : a = c
          · simp [↓mb, ↓pu, ↓gd, ↓opt_some, ↓bad_app, ↓rv_val, ↓nox_app, ↓ite_a, ↓z_evE_1, ↓z_evE_2, ↓z_evE_3, ↓z_evE_4, ↓z_evE_5, ↓z_evE_6, ↓z_evE_7, ↓z_evE_8, ↓z_evE_9, ↓z_evE_10, ↓z_evE_11, ↓z_evE_12, ↓z_evE_13, ↓z_evE_14, ↓z_evE_15, ↓z_evE_16, ↓z_evE_17, ↓z_evE_18, ↓z_evE_19, ↓z_evE_20, ↓z_evE_21, ↓z_evE_22, ↓z_evE_23, ↓z_evE_24, ↓z_evRs_1, ↓z_evRs_2, ↓z_evO_1, ↓z_evO_2, ↓z_evT_1, ↓z_evT_2, ↓z_evT_3, ↓z_evT_4, ↓z_evC_1, ↓z_evC_2, ↓z_evIt_1, ↓z_evIt_3, ↓z_evIt_4, ↓z_evIt_5, ↓z_evIt_6, ↓z_evS_1, ↓z_evS_2, ↓z_evS_3, ↓z_evS_4, ↓z_evS_5, ↓z_evS_6, ↓z_evS_7, ↓z_evS_8, ↓z_evS_9, ↓z_evS_10, ↓z_evS_11, ↓z_evS_12, ↓z_evS_13, ↓z_evSs_1, ↓z_evSs_2, ↓evIt_rng, leave, start, slotRv, Rv.tree, Rv.isI, Rv.isB, Rv.isS, T.isI, T.isB, T.isS, Rv.w, Rv.lst, Rv.seq, lstAt, seqAt, Rv.data, binop, cmpop, eqRv, inRv, ltRv, isRv, truth, isTy, isiRv, lenRv, LL.bi, biLen, biAll, biAny, biInt, biStr, biTuple, biList, biSorted, meFind, meCount, meJoin, meS, meL, meAppend, meInsert, mePop0, putL, getL, meRv, meTy, ixRv, slRv, revRv, src1, src2, src3, src4, src5, bindTg, bindTs, wipe, treesOf, tupOf, lstOf, app, Sto.trunc, glo0, glo1, glo2, SZ, -List.map_map, ixOf, T.eqOk, T.data, T.datas, T.calm, T.calms, T.depth, T.depths, T.beq, T.beqs, eat, hac, h1, hcut]; rw [← hac, hcut]
          · simp [↓mb, ↓pu, ↓gd, ↓opt_some, ↓bad_app, ↓rv_val, ↓nox_app, ↓ite_a, ↓z_evE_1, ↓z_evE_2, ↓z_evE_3, ↓z_evE_4, ↓z_evE_5, ↓z_evE_6, ↓z_evE_7, ↓z_evE_8, ↓z_evE_9, ↓z_evE_10, ↓z_evE_11, ↓z_evE_12, ↓z_evE_13, ↓z_evE_14, ↓z_evE_15, ↓z_evE_16, ↓z_evE_17, ↓z_evE_18, ↓z_evE_19, ↓z_evE_20, ↓z_evE_21, ↓z_evE_22, ↓z_evE_23, ↓z_evE_24, ↓z_evRs_1, ↓z_evRs_2, ↓z_evO_1, ↓z_evO_2, ↓z_evT_1, ↓z_evT_2, ↓z_evT_3, ↓z_evT_4, ↓z_evC_1, ↓z_evC_2, ↓z_evIt_1, ↓z_evIt_3, ↓z_evIt_4, ↓z_evIt_5, ↓z_evIt_6, ↓z_evS_1, ↓z_evS_2, ↓z_evS_3, ↓z_evS_4, ↓z_evS_5, ↓z_evS_6, ↓z_evS_7, ↓z_evS_8, ↓z_evS_9, ↓z_evS_10, ↓z_evS_11, ↓z_evS_12, ↓z_evS_13, ↓z_evSs_1, ↓z_evSs_2, ↓evIt_rng, leave, start, slotRv, Rv.tree, Rv.isI, Rv.isB, Rv.isS, T.isI, T.isB, T.isS, Rv.w, Rv.lst, Rv.seq, lstAt, seqAt, Rv.data, binop, cmpop, eqRv, inRv, ltRv, isRv, truth, isTy, isiRv, lenRv, LL.bi, biLen, biAll, biAny, biInt, biStr, biTuple, biList, biSorted, meFind, meCount, meJoin, meS, meL, meAppend, meInsert, mePop0, putL, getL, meRv, meTy, ixRv, slRv, revRv, src1, src2, src3, src4, src5, bindTg, bindTs, wipe, treesOf, tupOf, lstOf, app, Sto.trunc, glo0, glo1, glo2, SZ, -List.map_map, ixOf, T.eqOk, T.data, T.datas, T.calm, T.calms, T.depth, T.depths, T.beq, T.beqs, eat, hac, h1, hcut])
      [some (.t (.str s)), some (.t (.str t)), some (.t (.str s)), none] S ⟨rfl, _, rfl⟩
  subst hσ
  simp [↓mb, ↓pu, ↓gd, ↓opt_some, ↓bad_app, ↓rv_val, ↓nox_app, ↓ite_a, ↓z_evE_1, ↓z_evE_2, ↓z_evE_3, ↓z_evE_4, ↓z_evE_5, ↓z_evE_6, ↓z_evE_7, ↓z_evE_8, ↓z_evE_9, ↓z_evE_10, ↓z_evE_11, ↓z_evE_12, ↓z_evE_13, ↓z_evE_14, ↓z_evE_15, ↓z_evE_16, ↓z_evE_17, ↓z_evE_18, ↓z_evE_19, ↓z_evE_20, ↓z_evE_21, ↓z_evE_22, ↓z_evE_23, ↓z_evE_24, ↓z_evRs_1, ↓z_evRs_2, ↓z_evO_1, ↓z_evO_2, ↓z_evT_1, ↓z_evT_2, ↓z_evT_3, ↓z_evT_4, ↓z_evC_1, ↓z_evC_2, ↓z_evIt_1, ↓z_evIt_3, ↓z_evIt_4, ↓z_evIt_5, ↓z_evIt_6, ↓z_evS_1, ↓z_evS_2, ↓z_evS_3, ↓z_evS_4, ↓z_evS_5, ↓z_evS_6, ↓z_evS_7, ↓z_evS_8, ↓z_evS_9, ↓z_evS_10, ↓z_evS_11, ↓z_evS_12, ↓z_evS_13, ↓z_evSs_1, ↓z_evSs_2, ↓evIt_rng, leave, start, slotRv, Rv.tree, Rv.isI, Rv.isB, Rv.isS, T.isI, T.isB, T.isS, Rv.w, Rv.lst, Rv.seq, lstAt, seqAt, Rv.data, binop, cmpop, eqRv, inRv, ltRv, isRv, truth, isTy, isiRv, lenRv, LL.bi, biLen, biAll, biAny, biInt, biStr, biTuple, biList, biSorted, meFind, meCount, meJoin, meS, meL, meAppend, meInsert, mePop0, putL, getL, meRv, meTy, ixRv, slRv, revRv, src1, src2, src3, src4, src5, bindTg, bindTs, wipe, treesOf, tupOf, lstOf, app, Sto.trunc, glo0, glo1, glo2, SZ, -List.map_map, ixOf, T.eqOk, T.data, T.datas, T.calm, T.calms, T.depth, T.depths, T.beq, T.beqs] at e
  rw [e]
  have hf : (List.map strOf (List.map (fun c => T.str [c]) t)).flatten = t := by
    clear e
    induction t with
    | nil => rfl
    | cons a t ih => simp [strOf]; simp at ih; exact ih (by simp at ht; omega)
  simp [↓mb, ↓pu, ↓gd, ↓opt_some, ↓bad_app, ↓rv_val, ↓nox_app, ↓ite_a, ↓z_evE_1, ↓z_evE_2, ↓z_evE_3, ↓z_evE_4, ↓z_evE_5, ↓z_evE_6, ↓z_evE_7, ↓z_evE_8, ↓z_evE_9, ↓z_evE_10, ↓z_evE_11, ↓z_evE_12, ↓z_evE_13, ↓z_evE_14, ↓z_evE_15, ↓z_evE_16, ↓z_evE_17, ↓z_evE_18, ↓z_evE_19, ↓z_evE_20, ↓z_evE_21, ↓z_evE_22, ↓z_evE_23, ↓z_evE_24, ↓z_evRs_1, ↓z_evRs_2, ↓z_evO_1, ↓z_evO_2, ↓z_evT_1, ↓z_evT_2, ↓z_evT_3, ↓z_evT_4, ↓z_evC_1, ↓z_evC_2, ↓z_evIt_1, ↓z_evIt_3, ↓z_evIt_4, ↓z_evIt_5, ↓z_evIt_6, ↓z_evS_1, ↓z_evS_2, ↓z_evS_3, ↓z_evS_4, ↓z_evS_5, ↓z_evS_6, ↓z_evS_7, ↓z_evS_8, ↓z_evS_9, ↓z_evS_10, ↓z_evS_11, ↓z_evS_12, ↓z_evS_13, ↓z_evSs_1, ↓z_evSs_2, ↓evIt_rng, leave, start, slotRv, Rv.tree, Rv.isI, Rv.isB, Rv.isS, T.isI, T.isB, T.isS, Rv.w, Rv.lst, Rv.seq, lstAt, seqAt, Rv.data, binop, cmpop, eqRv, inRv, ltRv, isRv, truth, isTy, isiRv, lenRv, LL.bi, biLen, biAll, biAny, biInt, biStr, biTuple, biList, biSorted, meFind, meCount, meJoin, meS, meL, meAppend, meInsert, mePop0, putL, getL, meRv, meTy, ixRv, slRv, revRv, src1, src2, src3, src4, src5, bindTg, bindTs, wipe, treesOf, tupOf, lstOf, app, Sto.trunc, glo0, glo1, glo2, SZ, -List.map_map, ixOf, T.eqOk, T.data, T.datas, T.calm, T.calms, T.depth, T.depths, T.beq, T.beqs, hf, sub_eat]
theorem subs_range : ∀ (ts us : List Cs), ts.length = us.length → ((List.range ts.length).all fun n => sub (ts.getD n []) (us.getD n [])) = subs ts us
  | [], [], _ => rfl
  | a :: r, b :: s, h => by
    have ih := subs_range r s (by simpa using h)
    rw [List.length_cons, List.range_succ_eq_map]
    simp only [List.all_cons, List.all_map, Function.comp_def, List.getD_cons_zero, List.getD_cons_succ]
    rw [subs, ih]
def natOf : T → Nat
  | .int i => i.toNat
  | _ => 0
theorem ones_data : ∀ xs : List T, T.datas (xs.map fun _ => T.int 1) = true
  | [] => rfl
  | a :: r => by simp [T.datas, T.data, ones_data r]
theorem ones_depth : ∀ xs : List T, T.depths (xs.map fun _ => T.int 1) = 0
  | [] => rfl
  | a :: r => by simp [T.depths, T.depth, ones_depth r]
theorem law_under_t {k : Nat} {S : Sto} {x y : Pl} (hx : short x) (hy : short y) (hl : x.ts.length = y.ts.length) : run prog (k + 2) 61 [.t x.t, .t y.t] S = .ok (.v (.bl (bel x y))) S := by
  rw [run_fn (rfl : prog.fn 61 = some F__law_under)]
  by_cases e : x.i = y.i ∧ x.j = y.j
  · have hxl := hx.1
    have hb := rngG_nat (S := S) (show x.ts.length ≤ 1000 by omega)
    simp [F__law_under, Pl.t, ↓mb, ↓pu, ↓gd, ↓opt_some, ↓bad_app, ↓rv_val, ↓nox_app, ↓ite_a, ↓z_evE_1, ↓z_evE_2, ↓z_evE_3, ↓z_evE_4, ↓z_evE_5, ↓z_evE_6, ↓z_evE_7, ↓z_evE_8, ↓z_evE_9, ↓z_evE_10, ↓z_evE_11, ↓z_evE_12, ↓z_evE_13, ↓z_evE_14, ↓z_evE_15, ↓z_evE_16, ↓z_evE_17, ↓z_evE_18, ↓z_evE_19, ↓z_evE_20, ↓z_evE_21, ↓z_evE_22, ↓z_evE_23, ↓z_evE_24, ↓z_evRs_1, ↓z_evRs_2, ↓z_evO_1, ↓z_evO_2, ↓z_evT_1, ↓z_evT_2, ↓z_evT_3, ↓z_evT_4, ↓z_evC_1, ↓z_evC_2, ↓z_evIt_1, ↓z_evIt_3, ↓z_evIt_4, ↓z_evIt_5, ↓z_evIt_6, ↓z_evS_1, ↓z_evS_2, ↓z_evS_3, ↓z_evS_4, ↓z_evS_5, ↓z_evS_6, ↓z_evS_7, ↓z_evS_8, ↓z_evS_9, ↓z_evS_10, ↓z_evS_11, ↓z_evS_12, ↓z_evS_13, ↓z_evSs_1, ↓z_evSs_2, ↓evIt_rng, leave, start, slotRv, Rv.tree, Rv.isI, Rv.isB, Rv.isS, T.isI, T.isB, T.isS, Rv.w, Rv.lst, Rv.seq, lstAt, seqAt, Rv.data, binop, cmpop, eqRv, inRv, ltRv, isRv, truth, isTy, isiRv, lenRv, LL.bi, biLen, biAll, biAny, biInt, biStr, biTuple, biList, biSorted, meFind, meCount, meJoin, meS, meL, meAppend, meInsert, mePop0, putL, getL, meRv, meTy, ixRv, slRv, revRv, src1, src2, src3, src4, src5, bindTg, bindTs, wipe, treesOf, tupOf, lstOf, app, Sto.trunc, glo0, glo1, glo2, SZ, -List.map_map, ixOf, T.eqOk, T.data, T.datas, T.calm, T.calms, T.depth, T.depths, T.beq, T.beqs, e.1, e.2, hb]
    rw [lc_filt (fun z => !sub (x.ts.getD (natOf z) []) (y.ts.getD (natOf z) [])) (fun _ => T.int 1) S rfl _ ?hl]
    · have hbel : bel x y = (List.filter (fun z => !sub (x.ts.getD (natOf z) []) (y.ts.getD (natOf z) [])) (rngItems 0 x.ts.length)).isEmpty := by
        rw [bel, e.1, e.2, ← subs_range x.ts y.ts hl, rngItems, List.filter_map, List.isEmpty_map]
        simp only [decide_true, Bool.true_and, Function.comp_def, natOf]
        rw [Bool.eq_iff_iff, List.all_eq_true, List.isEmpty_iff, List.filter_eq_nil_iff]
        simp
      rw [hbel]
      generalize List.filter (fun z => !sub (x.ts.getD (natOf z) []) (y.ts.getD (natOf z) [])) (rngItems 0 x.ts.length) = w
      have h1 := ones_data w
      have h2 := ones_depth w
      have h3 : T.calms (w.map fun _ => T.int 1) [] = true := by cases w <;> rfl
      have h4 : T.beqs (w.map fun _ => T.int 1) [] = w.isEmpty := by cases w <;> rfl
      simp [↓mb, ↓pu, ↓gd, ↓opt_some, ↓bad_app, ↓rv_val, ↓nox_app, ↓ite_a, ↓z_evE_1, ↓z_evE_2, ↓z_evE_3, ↓z_evE_4, ↓z_evE_5, ↓z_evE_6, ↓z_evE_7, ↓z_evE_8, ↓z_evE_9, ↓z_evE_10, ↓z_evE_11, ↓z_evE_12, ↓z_evE_13, ↓z_evE_14, ↓z_evE_15, ↓z_evE_16, ↓z_evE_17, ↓z_evE_18, ↓z_evE_19, ↓z_evE_20, ↓z_evE_21, ↓z_evE_22, ↓z_evE_23, ↓z_evE_24, ↓z_evRs_1, ↓z_evRs_2, ↓z_evO_1, ↓z_evO_2, ↓z_evT_1, ↓z_evT_2, ↓z_evT_3, ↓z_evT_4, ↓z_evC_1, ↓z_evC_2, ↓z_evIt_1, ↓z_evIt_3, ↓z_evIt_4, ↓z_evIt_5, ↓z_evIt_6, ↓z_evS_1, ↓z_evS_2, ↓z_evS_3, ↓z_evS_4, ↓z_evS_5, ↓z_evS_6, ↓z_evS_7, ↓z_evS_8, ↓z_evS_9, ↓z_evS_10, ↓z_evS_11, ↓z_evS_12, ↓z_evS_13, ↓z_evSs_1, ↓z_evSs_2, ↓evIt_rng, leave, start, slotRv, Rv.tree, Rv.isI, Rv.isB, Rv.isS, T.isI, T.isB, T.isS, Rv.w, Rv.lst, Rv.seq, lstAt, seqAt, Rv.data, binop, cmpop, eqRv, inRv, ltRv, isRv, truth, isTy, isiRv, lenRv, LL.bi, biLen, biAll, biAny, biInt, biStr, biTuple, biList, biSorted, meFind, meCount, meJoin, meS, meL, meAppend, meInsert, mePop0, putL, getL, meRv, meTy, ixRv, slRv, revRv, src1, src2, src3, src4, src5, bindTg, bindTs, wipe, treesOf, tupOf, lstOf, app, Sto.trunc, glo0, glo1, glo2, SZ, -List.map_map, ixOf, T.eqOk, T.data, T.datas, T.calm, T.calms, T.depth, T.depths, T.beq, T.beqs, h1, h2, h3, h4]
    · intro z hz acc hacc
      obtain ⟨n, hn, rfl⟩ : ∃ n, n < x.ts.length ∧ z = .int n := by
        simp [rngItems] at hz
        obtain ⟨n, hn, rfl⟩ := hz
        exact ⟨n, hn, rfl⟩
      have hn2 : n < y.ts.length := by omega
      have q1 : ((n : Int) < (x.ts.length : Int)) := by omega
      have q2 : ((n : Int) < (y.ts.length : Int)) := by omega
      have p := law_part_t (k := k) (S := S) (hx.2 _ (List.getElem_mem hn)) (hy.2 _ (List.getElem_mem hn2))
      simp [↓mb, ↓pu, ↓gd, ↓opt_some, ↓bad_app, ↓rv_val, ↓nox_app, ↓ite_a, ↓z_evE_1, ↓z_evE_2, ↓z_evE_3, ↓z_evE_4, ↓z_evE_5, ↓z_evE_6, ↓z_evE_7, ↓z_evE_8, ↓z_evE_9, ↓z_evE_10, ↓z_evE_11, ↓z_evE_12, ↓z_evE_13, ↓z_evE_14, ↓z_evE_15, ↓z_evE_16, ↓z_evE_17, ↓z_evE_18, ↓z_evE_19, ↓z_evE_20, ↓z_evE_21, ↓z_evE_22, ↓z_evE_23, ↓z_evE_24, ↓z_evRs_1, ↓z_evRs_2, ↓z_evO_1, ↓z_evO_2, ↓z_evT_1, ↓z_evT_2, ↓z_evT_3, ↓z_evT_4, ↓z_evC_1, ↓z_evC_2, ↓z_evIt_1, ↓z_evIt_3, ↓z_evIt_4, ↓z_evIt_5, ↓z_evIt_6, ↓z_evS_1, ↓z_evS_2, ↓z_evS_3, ↓z_evS_4, ↓z_evS_5, ↓z_evS_6, ↓z_evS_7, ↓z_evS_8, ↓z_evS_9, ↓z_evS_10, ↓z_evS_11, ↓z_evS_12, ↓z_evS_13, ↓z_evSs_1, ↓z_evSs_2, ↓evIt_rng, leave, start, slotRv, Rv.tree, Rv.isI, Rv.isB, Rv.isS, T.isI, T.isB, T.isS, Rv.w, Rv.lst, Rv.seq, lstAt, seqAt, Rv.data, binop, cmpop, eqRv, inRv, ltRv, isRv, truth, isTy, isiRv, lenRv, LL.bi, biLen, biAll, biAny, biInt, biStr, biTuple, biList, biSorted, meFind, meCount, meJoin, meS, meL, meAppend, meInsert, mePop0, putL, getL, meRv, meTy, ixRv, slRv, revRv, src1, src2, src3, src4, src5, bindTg, bindTs, wipe, treesOf, tupOf, lstOf, app, Sto.trunc, glo0, glo1, glo2, SZ, -List.map_map, ixOf, T.eqOk, T.data, T.datas, T.calm, T.calms, T.depth, T.depths, T.beq, T.beqs, q1, q2, hn, hn2, p, natOf, List.getD_eq_getElem?_getD]
      cases sub x.ts[n] y.ts[n] <;> simp [↓mb, ↓pu, ↓gd, ↓opt_some, ↓bad_app, ↓rv_val, ↓nox_app, ↓ite_a, ↓z_evE_1, ↓z_evE_2, ↓z_evE_3, ↓z_evE_4, ↓z_evE_5, ↓z_evE_6, ↓z_evE_7, ↓z_evE_8, ↓z_evE_9, ↓z_evE_10, ↓z_evE_11, ↓z_evE_12, ↓z_evE_13, ↓z_evE_14, ↓z_evE_15, ↓z_evE_16, ↓z_evE_17, ↓z_evE_18, ↓z_evE_19, ↓z_evE_20, ↓z_evE_21, ↓z_evE_22, ↓z_evE_23, ↓z_evE_24, ↓z_evRs_1, ↓z_evRs_2, ↓z_evO_1, ↓z_evO_2, ↓z_evT_1, ↓z_evT_2, ↓z_evT_3, ↓z_evT_4, ↓z_evC_1, ↓z_evC_2, ↓z_evIt_1, ↓z_evIt_3, ↓z_evIt_4, ↓z_evIt_5, ↓z_evIt_6, ↓z_evS_1, ↓z_evS_2, ↓z_evS_3, ↓z_evS_4, ↓z_evS_5, ↓z_evS_6, ↓z_evS_7, ↓z_evS_8, ↓z_evS_9, ↓z_evS_10, ↓z_evS_11, ↓z_evS_12, ↓z_evS_13, ↓z_evSs_1, ↓z_evSs_2, ↓evIt_rng, leave, start, slotRv, Rv.tree, Rv.isI, Rv.isB, Rv.isS, T.isI, T.isB, T.isS, Rv.w, Rv.lst, Rv.seq, lstAt, seqAt, Rv.data, binop, cmpop, eqRv, inRv, ltRv, isRv, truth, isTy, isiRv, lenRv, LL.bi, biLen, biAll, biAny, biInt, biStr, biTuple, biList, biSorted, meFind, meCount, meJoin, meS, meL, meAppend, meInsert, mePop0, putL, getL, meRv, meTy, ixRv, slRv, revRv, src1, src2, src3, src4, src5, bindTg, bindTs, wipe, treesOf, tupOf, lstOf, app, Sto.trunc, glo0, glo1, glo2, SZ, -List.map_map, ixOf, T.eqOk, T.data, T.datas, T.calm, T.calms, T.depth, T.depths, T.beq, T.beqs, hacc]
    case hl => simp [rngItems]; omega
  · have b : bel x y = false := by
      cases hb : bel x y with
      | false => rfl
      | true => simp [bel] at hb; exact absurd hb.1 e
    rw [b]
    by_cases e1 : x.i = y.i
    · have e2 : ¬ x.j = y.j := fun h => e ⟨e1, h⟩
      simp [F__law_under, Pl.t, ↓mb, ↓pu, ↓gd, ↓opt_some, ↓bad_app, ↓rv_val, ↓nox_app, ↓ite_a, ↓z_evE_1, ↓z_evE_2, ↓z_evE_3, ↓z_evE_4, ↓z_evE_5, ↓z_evE_6, ↓z_evE_7, ↓z_evE_8, ↓z_evE_9, ↓z_evE_10, ↓z_evE_11, ↓z_evE_12, ↓z_evE_13, ↓z_evE_14, ↓z_evE_15, ↓z_evE_16, ↓z_evE_17, ↓z_evE_18, ↓z_evE_19, ↓z_evE_20, ↓z_evE_21, ↓z_evE_22, ↓z_evE_23, ↓z_evE_24, ↓z_evRs_1, ↓z_evRs_2, ↓z_evO_1, ↓z_evO_2, ↓z_evT_1, ↓z_evT_2, ↓z_evT_3, ↓z_evT_4, ↓z_evC_1, ↓z_evC_2, ↓z_evIt_1, ↓z_evIt_3, ↓z_evIt_4, ↓z_evIt_5, ↓z_evIt_6, ↓z_evS_1, ↓z_evS_2, ↓z_evS_3, ↓z_evS_4, ↓z_evS_5, ↓z_evS_6, ↓z_evS_7, ↓z_evS_8, ↓z_evS_9, ↓z_evS_10, ↓z_evS_11, ↓z_evS_12, ↓z_evS_13, ↓z_evSs_1, ↓z_evSs_2, ↓evIt_rng, leave, start, slotRv, Rv.tree, Rv.isI, Rv.isB, Rv.isS, T.isI, T.isB, T.isS, Rv.w, Rv.lst, Rv.seq, lstAt, seqAt, Rv.data, binop, cmpop, eqRv, inRv, ltRv, isRv, truth, isTy, isiRv, lenRv, LL.bi, biLen, biAll, biAny, biInt, biStr, biTuple, biList, biSorted, meFind, meCount, meJoin, meS, meL, meAppend, meInsert, mePop0, putL, getL, meRv, meTy, ixRv, slRv, revRv, src1, src2, src3, src4, src5, bindTg, bindTs, wipe, treesOf, tupOf, lstOf, app, Sto.trunc, glo0, glo1, glo2, SZ, -List.map_map, ixOf, T.eqOk, T.data, T.datas, T.calm, T.calms, T.depth, T.depths, T.beq, T.beqs, e1, e2]
    · simp [F__law_under, Pl.t, ↓mb, ↓pu, ↓gd, ↓opt_some, ↓bad_app, ↓rv_val, ↓nox_app, ↓ite_a, ↓z_evE_1, ↓z_evE_2, ↓z_evE_3, ↓z_evE_4, ↓z_evE_5, ↓z_evE_6, ↓z_evE_7, ↓z_evE_8, ↓z_evE_9, ↓z_evE_10, ↓z_evE_11, ↓z_evE_12, ↓z_evE_13, ↓z_evE_14, ↓z_evE_15, ↓z_evE_16, ↓z_evE_17, ↓z_evE_18, ↓z_evE_19, ↓z_evE_20, ↓z_evE_21, ↓z_evE_22, ↓z_evE_23, ↓z_evE_24, ↓z_evRs_1, ↓z_evRs_2, ↓z_evO_1, ↓z_evO_2, ↓z_evT_1, ↓z_evT_2, ↓z_evT_3, ↓z_evT_4, ↓z_evC_1, ↓z_evC_2, ↓z_evIt_1, ↓z_evIt_3, ↓z_evIt_4, ↓z_evIt_5, ↓z_evIt_6, ↓z_evS_1, ↓z_evS_2, ↓z_evS_3, ↓z_evS_4, ↓z_evS_5, ↓z_evS_6, ↓z_evS_7, ↓z_evS_8, ↓z_evS_9, ↓z_evS_10, ↓z_evS_11, ↓z_evS_12, ↓z_evS_13, ↓z_evSs_1, ↓z_evSs_2, ↓evIt_rng, leave, start, slotRv, Rv.tree, Rv.isI, Rv.isB, Rv.isS, T.isI, T.isB, T.isS, Rv.w, Rv.lst, Rv.seq, lstAt, seqAt, Rv.data, binop, cmpop, eqRv, inRv, ltRv, isRv, truth, isTy, isiRv, lenRv, LL.bi, biLen, biAll, biAny, biInt, biStr, biTuple, biList, biSorted, meFind, meCount, meJoin, meS, meL, meAppend, meInsert, mePop0, putL, getL, meRv, meTy, ixRv, slRv, revRv, src1, src2, src3, src4, src5, bindTg, bindTs, wipe, treesOf, tupOf, lstOf, app, Sto.trunc, glo0, glo1, glo2, SZ, -List.map_map, ixOf, T.eqOk, T.data, T.datas, T.calm, T.calms, T.depth, T.depths, T.beq, T.beqs, e1]
end LLQ

set_option Elab.async false
set_option linter.all false
set_option autoImplicit false
set_option maxRecDepth 100000
set_option maxHeartbeats 400000
namespace LLQ
open LL LLS LLP
theorem tk_set {α : Type} (L : List α) (n : Nat) (x : α) : (L.set n x).take L.length = L.set n x := List.take_of_length_le (by simp)
theorem ints_data : ∀ b : List Int, T.datas (b.map T.int) = true
  | [] => rfl
  | a :: r => by simp [T.datas, T.data, ints_data r]
theorem ints_depth : ∀ b : List Int, T.depths (b.map T.int) = 0
  | [] => rfl
  | a :: r => by simp [T.depths, T.depth, ints_depth r]
theorem take_t {k n : Nat} {L : List (List T)} {b : List Int} {O : List Inst} {m : Int} (hn : n < L.length) (hm : 0 < m) : ∃ (i : Int) (b' : List Int), run prog (k + 1) 18 [.l n, .t (.int m)] ⟨L.set n (b.map T.int), O⟩ = .ok (.v (.int i)) ⟨L.set n (b'.map T.int), O⟩ ∧ 0 ≤ i ∧ i < m := by
  cases b with
  | nil =>
    refine ⟨0, [], ?_, by omega, hm⟩
    rw [run_fn (rfl : prog.fn 18 = some F__law_take)]
    simp [F__law_take, ↓mb, ↓pu, ↓gd, ↓opt_some, ↓bad_app, ↓rv_val, ↓nox_app, ↓ite_a, ↓z_evE_1, ↓z_evE_2, ↓z_evE_3, ↓z_evE_4, ↓z_evE_5, ↓z_evE_6, ↓z_evE_7, ↓z_evE_8, ↓z_evE_9, ↓z_evE_10, ↓z_evE_11, ↓z_evE_12, ↓z_evE_13, ↓z_evE_14, ↓z_evE_15, ↓z_evE_16, ↓z_evE_17, ↓z_evE_18, ↓z_evE_19, ↓z_evE_20, ↓z_evE_21, ↓z_evE_22, ↓z_evE_23, ↓z_evE_24, ↓z_evRs_1, ↓z_evRs_2, ↓z_evO_1, ↓z_evO_2, ↓z_evT_1, ↓z_evT_2, ↓z_evT_3, ↓z_evT_4, ↓z_evC_1, ↓z_evC_2, ↓z_evIt_1, ↓z_evIt_3, ↓z_evIt_4, ↓z_evIt_5, ↓z_evIt_6, ↓z_evS_1, ↓z_evS_2, ↓z_evS_3, ↓z_evS_4, ↓z_evS_5, ↓z_evS_6, ↓z_evS_7, ↓z_evS_8, ↓z_evS_9, ↓z_evS_10, ↓z_evS_11, ↓z_evS_12, ↓z_evS_13, ↓z_evSs_1, ↓z_evSs_2, ↓evIt_rng, leave, start, slotRv, Rv.tree, Rv.isI, Rv.isB, Rv.isS, T.isI, T.isB, T.isS, Rv.w, Rv.lst, Rv.seq, lstAt, seqAt, Rv.data, binop, cmpop, eqRv, inRv, ltRv, isRv, truth, isTy, isiRv, lenRv, LL.bi, biLen, biAll, biAny, biInt, biStr, biTuple, biList, biSorted, meFind, meCount, meJoin, meS, meL, meAppend, meInsert, mePop0, putL, getL, meRv, meTy, ixRv, slRv, revRv, src1, src2, src3, src4, src5, bindTg, bindTs, wipe, treesOf, tupOf, lstOf, app, Sto.trunc, glo0, glo1, glo2, SZ, -List.map_map, ixOf, T.eqOk, T.data, T.datas, T.calm, T.calms, T.depth, T.depths, T.beq, T.beqs, hn, hm, tk_set]
  | cons i r =>
    refine ⟨i % m, r, ?_, Int.emod_nonneg _ (by omega), Int.emod_lt_of_pos _ hm⟩
    rw [run_fn (rfl : prog.fn 18 = some F__law_take)]
    simp [F__law_take, ↓mb, ↓pu, ↓gd, ↓opt_some, ↓bad_app, ↓rv_val, ↓nox_app, ↓ite_a, ↓z_evE_1, ↓z_evE_2, ↓z_evE_3, ↓z_evE_4, ↓z_evE_5, ↓z_evE_6, ↓z_evE_7, ↓z_evE_8, ↓z_evE_9, ↓z_evE_10, ↓z_evE_11, ↓z_evE_12, ↓z_evE_13, ↓z_evE_14, ↓z_evE_15, ↓z_evE_16, ↓z_evE_17, ↓z_evE_18, ↓z_evE_19, ↓z_evE_20, ↓z_evE_21, ↓z_evE_22, ↓z_evE_23, ↓z_evE_24, ↓z_evRs_1, ↓z_evRs_2, ↓z_evO_1, ↓z_evO_2, ↓z_evT_1, ↓z_evT_2, ↓z_evT_3, ↓z_evT_4, ↓z_evC_1, ↓z_evC_2, ↓z_evIt_1, ↓z_evIt_3, ↓z_evIt_4, ↓z_evIt_5, ↓z_evIt_6, ↓z_evS_1, ↓z_evS_2, ↓z_evS_3, ↓z_evS_4, ↓z_evS_5, ↓z_evS_6, ↓z_evS_7, ↓z_evS_8, ↓z_evS_9, ↓z_evS_10, ↓z_evS_11, ↓z_evS_12, ↓z_evS_13, ↓z_evSs_1, ↓z_evSs_2, ↓evIt_rng, leave, start, slotRv, Rv.tree, Rv.isI, Rv.isB, Rv.isS, T.isI, T.isB, T.isS, Rv.w, Rv.lst, Rv.seq, lstAt, seqAt, Rv.data, binop, cmpop, eqRv, inRv, ltRv, isRv, truth, isTy, isiRv, lenRv, LL.bi, biLen, biAll, biAny, biInt, biStr, biTuple, biList, biSorted, meFind, meCount, meJoin, meS, meL, meAppend, meInsert, mePop0, putL, getL, meRv, meTy, ixRv, slRv, revRv, src1, src2, src3, src4, src5, bindTg, bindTs, wipe, treesOf, tupOf, lstOf, app, Sto.trunc, glo0, glo1, glo2, SZ, -List.map_map, ixOf, T.eqOk, T.data, T.datas, T.calm, T.calms, T.depth, T.depths, T.beq, T.beqs, hn, hm, tk_set, ints_data, ints_depth]
theorem choice_lst {k n : Nat} {L : List (List T)} {b : List Int} {O : List Inst} {xs : List T} (hn : n < L.length) (hx : xs ≠ []) : ∃ (x : T) (b' : List Int), run prog (k + 2) 19 [.l n, .t (.lst xs)] ⟨L.set n (b.map T.int), O⟩ = .ok (.v x) ⟨L.set n (b'.map T.int), O⟩ ∧ x ∈ xs := by
  have hp := List.length_pos_iff.2 hx
  obtain ⟨i, b', e, h0, h1⟩ := take_t (k := k) (L := L) (b := b) (O := O) (m := xs.length) hn (by omega)
  have hj : i.toNat < xs.length := by omega
  refine ⟨xs[i.toNat], b', ?_, List.getElem_mem _⟩
  rw [run_fn (rfl : prog.fn 19 = some F__law_choice)]
  simp [F__law_choice, ↓mb, ↓pu, ↓gd, ↓opt_some, ↓bad_app, ↓rv_val, ↓nox_app, ↓ite_a, ↓z_evE_1, ↓z_evE_2, ↓z_evE_3, ↓z_evE_4, ↓z_evE_5, ↓z_evE_6, ↓z_evE_7, ↓z_evE_8, ↓z_evE_9, ↓z_evE_10, ↓z_evE_11, ↓z_evE_12, ↓z_evE_13, ↓z_evE_14, ↓z_evE_15, ↓z_evE_16, ↓z_evE_17, ↓z_evE_18, ↓z_evE_19, ↓z_evE_20, ↓z_evE_21, ↓z_evE_22, ↓z_evE_23, ↓z_evE_24, ↓z_evRs_1, ↓z_evRs_2, ↓z_evO_1, ↓z_evO_2, ↓z_evT_1, ↓z_evT_2, ↓z_evT_3, ↓z_evT_4, ↓z_evC_1, ↓z_evC_2, ↓z_evIt_1, ↓z_evIt_3, ↓z_evIt_4, ↓z_evIt_5, ↓z_evIt_6, ↓z_evS_1, ↓z_evS_2, ↓z_evS_3, ↓z_evS_4, ↓z_evS_5, ↓z_evS_6, ↓z_evS_7, ↓z_evS_8, ↓z_evS_9, ↓z_evS_10, ↓z_evS_11, ↓z_evS_12, ↓z_evS_13, ↓z_evSs_1, ↓z_evSs_2, ↓evIt_rng, leave, start, slotRv, Rv.tree, Rv.isI, Rv.isB, Rv.isS, T.isI, T.isB, T.isS, Rv.w, Rv.lst, Rv.seq, lstAt, seqAt, Rv.data, binop, cmpop, eqRv, inRv, ltRv, isRv, truth, isTy, isiRv, lenRv, LL.bi, biLen, biAll, biAny, biInt, biStr, biTuple, biList, biSorted, meFind, meCount, meJoin, meS, meL, meAppend, meInsert, mePop0, putL, getL, meRv, meTy, ixRv, slRv, revRv, src1, src2, src3, src4, src5, bindTg, bindTs, wipe, treesOf, tupOf, lstOf, app, Sto.trunc, glo0, glo1, glo2, SZ, -List.map_map, ixOf, T.eqOk, T.data, T.datas, T.calm, T.calms, T.depth, T.depths, T.beq, T.beqs, e, h0, h1, hj, tk_set]
theorem choice_l {k n m : Nat} {L : List (List T)} {b : List Int} {O : List Inst} {xs : List T} (hn : n < L.length) (hx : xs ≠ []) (hnm : n ≠ m) (hm : L[m]? = some xs) : ∃ (x : T) (b' : List Int), run prog (k + 2) 19 [.l n, .l m] ⟨L.set n (b.map T.int), O⟩ = .ok (.v x) ⟨L.set n (b'.map T.int), O⟩ ∧ x ∈ xs := by
  have hp := List.length_pos_iff.2 hx
  obtain ⟨i, b', e, h0, h1⟩ := take_t (k := k) (L := L) (b := b) (O := O) (m := xs.length) hn (by omega)
  have hj : i.toNat < xs.length := by omega
  refine ⟨xs[i.toNat], b', ?_, List.getElem_mem _⟩
  rw [run_fn (rfl : prog.fn 19 = some F__law_choice)]
  simp [F__law_choice, ↓mb, ↓pu, ↓gd, ↓opt_some, ↓bad_app, ↓rv_val, ↓nox_app, ↓ite_a, ↓z_evE_1, ↓z_evE_2, ↓z_evE_3, ↓z_evE_4, ↓z_evE_5, ↓z_evE_6, ↓z_evE_7, ↓z_evE_8, ↓z_evE_9, ↓z_evE_10, ↓z_evE_11, ↓z_evE_12, ↓z_evE_13, ↓z_evE_14, ↓z_evE_15, ↓z_evE_16, ↓z_evE_17, ↓z_evE_18, ↓z_evE_19, ↓z_evE_20, ↓z_evE_21, ↓z_evE_22, ↓z_evE_23, ↓z_evE_24, ↓z_evRs_1, ↓z_evRs_2, ↓z_evO_1, ↓z_evO_2, ↓z_evT_1, ↓z_evT_2, ↓z_evT_3, ↓z_evT_4, ↓z_evC_1, ↓z_evC_2, ↓z_evIt_1, ↓z_evIt_3, ↓z_evIt_4, ↓z_evIt_5, ↓z_evIt_6, ↓z_evS_1, ↓z_evS_2, ↓z_evS_3, ↓z_evS_4, ↓z_evS_5, ↓z_evS_6, ↓z_evS_7, ↓z_evS_8, ↓z_evS_9, ↓z_evS_10, ↓z_evS_11, ↓z_evS_12, ↓z_evS_13, ↓z_evSs_1, ↓z_evSs_2, ↓evIt_rng, leave, start, slotRv, Rv.tree, Rv.isI, Rv.isB, Rv.isS, T.isI, T.isB, T.isS, Rv.w, Rv.lst, Rv.seq, lstAt, seqAt, Rv.data, binop, cmpop, eqRv, inRv, ltRv, isRv, truth, isTy, isiRv, lenRv, LL.bi, biLen, biAll, biAny, biInt, biStr, biTuple, biList, biSorted, meFind, meCount, meJoin, meS, meL, meAppend, meInsert, mePop0, putL, getL, meRv, meTy, ixRv, slRv, revRv, src1, src2, src3, src4, src5, bindTg, bindTs, wipe, treesOf, tupOf, lstOf, app, Sto.trunc, glo0, glo1, glo2, SZ, -List.map_map, ixOf, T.eqOk, T.data, T.datas, T.calm, T.calms, T.depth, T.depths, T.beq, T.beqs, e, h0, h1, hj, tk_set, List.getElem?_set_ne hnm, hm]
theorem choice_s {k n : Nat} {L : List (List T)} {b : List Int} {O : List Inst} {s : Cs} (hn : n < L.length) (hx : s ≠ []) (hs : s.length ≤ 60) : ∃ (c : Nat) (b' : List Int), run prog (k + 2) 19 [.l n, .t (.str s)] ⟨L.set n (b.map T.int), O⟩ = .ok (.v (.str [c])) ⟨L.set n (b'.map T.int), O⟩ ∧ c ∈ s := by
  have hp := List.length_pos_iff.2 hx
  obtain ⟨i, b', e, h0, h1⟩ := take_t (k := k) (L := L) (b := b) (O := O) (m := s.length) hn (by omega)
  have hj : i.toNat < s.length := by omega
  have hz : s.length ≤ 16777216 := by omega
  refine ⟨s[i.toNat], b', ?_, List.getElem_mem _⟩
  rw [run_fn (rfl : prog.fn 19 = some F__law_choice)]
  simp [F__law_choice, ↓mb, ↓pu, ↓gd, ↓opt_some, ↓bad_app, ↓rv_val, ↓nox_app, ↓ite_a, ↓z_evE_1, ↓z_evE_2, ↓z_evE_3, ↓z_evE_4, ↓z_evE_5, ↓z_evE_6, ↓z_evE_7, ↓z_evE_8, ↓z_evE_9, ↓z_evE_10, ↓z_evE_11, ↓z_evE_12, ↓z_evE_13, ↓z_evE_14, ↓z_evE_15, ↓z_evE_16, ↓z_evE_17, ↓z_evE_18, ↓z_evE_19, ↓z_evE_20, ↓z_evE_21, ↓z_evE_22, ↓z_evE_23, ↓z_evE_24, ↓z_evRs_1, ↓z_evRs_2, ↓z_evO_1, ↓z_evO_2, ↓z_evT_1, ↓z_evT_2, ↓z_evT_3, ↓z_evT_4, ↓z_evC_1, ↓z_evC_2, ↓z_evIt_1, ↓z_evIt_3, ↓z_evIt_4, ↓z_evIt_5, ↓z_evIt_6, ↓z_evS_1, ↓z_evS_2, ↓z_evS_3, ↓z_evS_4, ↓z_evS_5, ↓z_evS_6, ↓z_evS_7, ↓z_evS_8, ↓z_evS_9, ↓z_evS_10, ↓z_evS_11, ↓z_evS_12, ↓z_evS_13, ↓z_evSs_1, ↓z_evSs_2, ↓evIt_rng, leave, start, slotRv, Rv.tree, Rv.isI, Rv.isB, Rv.isS, T.isI, T.isB, T.isS, Rv.w, Rv.lst, Rv.seq, lstAt, seqAt, Rv.data, binop, cmpop, eqRv, inRv, ltRv, isRv, truth, isTy, isiRv, lenRv, LL.bi, biLen, biAll, biAny, biInt, biStr, biTuple, biList, biSorted, meFind, meCount, meJoin, meS, meL, meAppend, meInsert, mePop0, putL, getL, meRv, meTy, ixRv, slRv, revRv, src1, src2, src3, src4, src5, bindTg, bindTs, wipe, treesOf, tupOf, lstOf, app, Sto.trunc, glo0, glo1, glo2, SZ, -List.map_map, ixOf, T.eqOk, T.data, T.datas, T.calm, T.calms, T.depth, T.depths, T.beq, T.beqs, e, h0, h1, hj, tk_set, hz]
def Ltr (s : Cs) : Prop := s ≠ [] ∧ s.length ≤ 60 ∧ ∀ c ∈ s, c = 97 ∨ c = 98 ∨ c = 99
theorem letters_t {k n : Nat} {L : List (List T)} {b : List Int} {O : List Inst} (hn : n < L.length) : ∃ (s : Cs) (b' : List Int), run prog (k + 3) 21 [.l n] ⟨L.set n (b.map T.int), O⟩ = .ok (.v (.str s)) ⟨L.set n (b'.map T.int), O⟩ ∧ Ltr s := by
  obtain ⟨x, b', e, hx⟩ := choice_lst (k := k) (L := L) (b := b) (O := O) (xs := [.str [97, 98], .str [97, 98], .str [97, 98], .str [98, 97], .str [98, 99], .str [97, 98, 99]]) hn (by simp)
  obtain ⟨s, rfl, hs⟩ : ∃ s, x = .str s ∧ Ltr s := by
    simp at hx
    rcases hx with rfl | rfl | rfl | rfl <;> exact ⟨_, rfl, by simp [Ltr]⟩
  refine ⟨s, b', ?_, hs⟩
  rw [run_fn (rfl : prog.fn 21 = some F__law_letters)]
  simp [F__law_letters, ↓mb, ↓pu, ↓gd, ↓opt_some, ↓bad_app, ↓rv_val, ↓nox_app, ↓ite_a, ↓z_evE_1, ↓z_evE_2, ↓z_evE_3, ↓z_evE_4, ↓z_evE_5, ↓z_evE_6, ↓z_evE_7, ↓z_evE_8, ↓z_evE_9, ↓z_evE_10, ↓z_evE_11, ↓z_evE_12, ↓z_evE_13, ↓z_evE_14, ↓z_evE_15, ↓z_evE_16, ↓z_evE_17, ↓z_evE_18, ↓z_evE_19, ↓z_evE_20, ↓z_evE_21, ↓z_evE_22, ↓z_evE_23, ↓z_evE_24, ↓z_evRs_1, ↓z_evRs_2, ↓z_evO_1, ↓z_evO_2, ↓z_evT_1, ↓z_evT_2, ↓z_evT_3, ↓z_evT_4, ↓z_evC_1, ↓z_evC_2, ↓z_evIt_1, ↓z_evIt_3, ↓z_evIt_4, ↓z_evIt_5, ↓z_evIt_6, ↓z_evS_1, ↓z_evS_2, ↓z_evS_3, ↓z_evS_4, ↓z_evS_5, ↓z_evS_6, ↓z_evS_7, ↓z_evS_8, ↓z_evS_9, ↓z_evS_10, ↓z_evS_11, ↓z_evS_12, ↓z_evS_13, ↓z_evSs_1, ↓z_evSs_2, ↓evIt_rng, leave, start, slotRv, Rv.tree, Rv.isI, Rv.isB, Rv.isS, T.isI, T.isB, T.isS, Rv.w, Rv.lst, Rv.seq, lstAt, seqAt, Rv.data, binop, cmpop, eqRv, inRv, ltRv, isRv, truth, isTy, isiRv, lenRv, LL.bi, biLen, biAll, biAny, biInt, biStr, biTuple, biList, biSorted, meFind, meCount, meJoin, meS, meL, meAppend, meInsert, mePop0, putL, getL, meRv, meTy, ixRv, slRv, revRv, src1, src2, src3, src4, src5, bindTg, bindTs, wipe, treesOf, tupOf, lstOf, app, Sto.trunc, glo0, glo1, glo2, SZ, -List.map_map, ixOf, T.eqOk, T.data, T.datas, T.calm, T.calms, T.depth, T.depths, T.beq, T.beqs, e, tk_set]
theorem sizes_t {k n : Nat} {L : List (List T)} {b : List Int} {O : List Inst} (hn : n < L.length) : ∃ (p q : Int) (b' : List Int), run prog (k + 3) 22 [.l n] ⟨L.set n (b.map T.int), O⟩ = .ok (.v (.tup [.int p, .int q])) ⟨L.set n (b'.map T.int), O⟩ ∧ 1 ≤ p ∧ p ≤ 4 ∧ 1 ≤ q ∧ q ≤ 4 := by
  obtain ⟨x, b', e, hx⟩ := choice_lst (k := k) (L := L) (b := b) (O := O) (xs := [.tup [.int 2, .int 2], .tup [.int 2, .int 1], .tup [.int 2, .int 2], .tup [.int 3, .int 2], .tup [.int 1, .int 2], .tup [.int 2, .int 3], .tup [.int 3, .int 1], .tup [.int 1, .int 1], .tup [.int 3, .int 3], .tup [.int 4, .int 2], .tup [.int 1, .int 4]]) hn (by simp)
  obtain ⟨p, q, rfl, hs⟩ : ∃ p q, x = .tup [.int p, .int q] ∧ 1 ≤ p ∧ p ≤ 4 ∧ 1 ≤ q ∧ q ≤ 4 := by
    simp at hx
    rcases hx with rfl | rfl | rfl | rfl | rfl | rfl | rfl | rfl | rfl | rfl | rfl <;> exact ⟨_, _, rfl, by omega⟩
  refine ⟨p, q, b', ?_, hs⟩
  rw [run_fn (rfl : prog.fn 22 = some F__law_sizes)]
  simp [F__law_sizes, ↓mb, ↓pu, ↓gd, ↓opt_some, ↓bad_app, ↓rv_val, ↓nox_app, ↓ite_a, ↓z_evE_1, ↓z_evE_2, ↓z_evE_3, ↓z_evE_4, ↓z_evE_5, ↓z_evE_6, ↓z_evE_7, ↓z_evE_8, ↓z_evE_9, ↓z_evE_10, ↓z_evE_11, ↓z_evE_12, ↓z_evE_13, ↓z_evE_14, ↓z_evE_15, ↓z_evE_16, ↓z_evE_17, ↓z_evE_18, ↓z_evE_19, ↓z_evE_20, ↓z_evE_21, ↓z_evE_22, ↓z_evE_23, ↓z_evE_24, ↓z_evRs_1, ↓z_evRs_2, ↓z_evO_1, ↓z_evO_2, ↓z_evT_1, ↓z_evT_2, ↓z_evT_3, ↓z_evT_4, ↓z_evC_1, ↓z_evC_2, ↓z_evIt_1, ↓z_evIt_3, ↓z_evIt_4, ↓z_evIt_5, ↓z_evIt_6, ↓z_evS_1, ↓z_evS_2, ↓z_evS_3, ↓z_evS_4, ↓z_evS_5, ↓z_evS_6, ↓z_evS_7, ↓z_evS_8, ↓z_evS_9, ↓z_evS_10, ↓z_evS_11, ↓z_evS_12, ↓z_evS_13, ↓z_evSs_1, ↓z_evSs_2, ↓evIt_rng, leave, start, slotRv, Rv.tree, Rv.isI, Rv.isB, Rv.isS, T.isI, T.isB, T.isS, Rv.w, Rv.lst, Rv.seq, lstAt, seqAt, Rv.data, binop, cmpop, eqRv, inRv, ltRv, isRv, truth, isTy, isiRv, lenRv, LL.bi, biLen, biAll, biAny, biInt, biStr, biTuple, biList, biSorted, meFind, meCount, meJoin, meS, meL, meAppend, meInsert, mePop0, putL, getL, meRv, meTy, ixRv, slRv, revRv, src1, src2, src3, src4, src5, bindTg, bindTs, wipe, treesOf, tupOf, lstOf, app, Sto.trunc, glo0, glo1, glo2, SZ, -List.map_map, ixOf, T.eqOk, T.data, T.datas, T.calm, T.calms, T.depth, T.depths, T.beq, T.beqs, e, tk_set]
theorem manners_t {k n : Nat} {L : List (List T)} {b : List Int} {O : List Inst} (hn : n < L.length) : ∃ (ms : List Cs) (b' : List Int), run prog (k + 3) 23 [.l n] ⟨L.set n (b.map T.int), O⟩ = .ok (.v (.tup (ms.map T.str))) ⟨L.set n (b'.map T.int), O⟩ ∧ Mans ms := by
  obtain ⟨x, b1, e1, hx⟩ := choice_lst (k := k) (L := L) (b := b) (O := O) (xs := [.str row, .str row, .str echo, .str heap]) hn (by simp)
  obtain ⟨y, b2, e2, hy⟩ := choice_lst (k := k) (L := L) (b := b1) (O := O) (xs := [.str row, .str echo, .str heap, .str []]) hn (by simp)
  obtain ⟨s, rfl, hs⟩ : ∃ s, x = .str s ∧ Man s := by
    simp at hx
    rcases hx with rfl | rfl | rfl <;> exact ⟨_, rfl, by simp [Man]⟩
  obtain ⟨t, rfl, ht⟩ : ∃ s, y = .str s ∧ (s = [] ∨ Man s) := by
    simp at hy
    rcases hy with rfl | rfl | rfl | rfl <;> exact ⟨_, rfl, by simp [Man]⟩
  rcases ht with rfl | ht
  · refine ⟨[s], b2, ?_, by simp, by simpa using hs⟩
    rw [run_fn (rfl : prog.fn 23 = some F__law_manners)]
    simp [F__law_manners, ↓mb, ↓pu, ↓gd, ↓opt_some, ↓bad_app, ↓rv_val, ↓nox_app, ↓ite_a, ↓z_evE_1, ↓z_evE_2, ↓z_evE_3, ↓z_evE_4, ↓z_evE_5, ↓z_evE_6, ↓z_evE_7, ↓z_evE_8, ↓z_evE_9, ↓z_evE_10, ↓z_evE_11, ↓z_evE_12, ↓z_evE_13, ↓z_evE_14, ↓z_evE_15, ↓z_evE_16, ↓z_evE_17, ↓z_evE_18, ↓z_evE_19, ↓z_evE_20, ↓z_evE_21, ↓z_evE_22, ↓z_evE_23, ↓z_evE_24, ↓z_evRs_1, ↓z_evRs_2, ↓z_evO_1, ↓z_evO_2, ↓z_evT_1, ↓z_evT_2, ↓z_evT_3, ↓z_evT_4, ↓z_evC_1, ↓z_evC_2, ↓z_evIt_1, ↓z_evIt_3, ↓z_evIt_4, ↓z_evIt_5, ↓z_evIt_6, ↓z_evS_1, ↓z_evS_2, ↓z_evS_3, ↓z_evS_4, ↓z_evS_5, ↓z_evS_6, ↓z_evS_7, ↓z_evS_8, ↓z_evS_9, ↓z_evS_10, ↓z_evS_11, ↓z_evS_12, ↓z_evS_13, ↓z_evSs_1, ↓z_evSs_2, ↓evIt_rng, leave, start, slotRv, Rv.tree, Rv.isI, Rv.isB, Rv.isS, T.isI, T.isB, T.isS, Rv.w, Rv.lst, Rv.seq, lstAt, seqAt, Rv.data, binop, cmpop, eqRv, inRv, ltRv, isRv, truth, isTy, isiRv, lenRv, LL.bi, biLen, biAll, biAny, biInt, biStr, biTuple, biList, biSorted, meFind, meCount, meJoin, meS, meL, meAppend, meInsert, mePop0, putL, getL, meRv, meTy, ixRv, slRv, revRv, src1, src2, src3, src4, src5, bindTg, bindTs, wipe, treesOf, tupOf, lstOf, app, Sto.trunc, glo0, glo1, glo2, SZ, -List.map_map, ixOf, T.eqOk, T.data, T.datas, T.calm, T.calms, T.depth, T.depths, T.beq, T.beqs, e1, e2, tk_set]
  · have h0 : t ≠ [] := by rcases ht with rfl | rfl | rfl <;> simp
    refine ⟨[s, t], b2, ?_, by simp, by simp [hs, ht]⟩
    rw [run_fn (rfl : prog.fn 23 = some F__law_manners)]
    simp [F__law_manners, ↓mb, ↓pu, ↓gd, ↓opt_some, ↓bad_app, ↓rv_val, ↓nox_app, ↓ite_a, ↓z_evE_1, ↓z_evE_2, ↓z_evE_3, ↓z_evE_4, ↓z_evE_5, ↓z_evE_6, ↓z_evE_7, ↓z_evE_8, ↓z_evE_9, ↓z_evE_10, ↓z_evE_11, ↓z_evE_12, ↓z_evE_13, ↓z_evE_14, ↓z_evE_15, ↓z_evE_16, ↓z_evE_17, ↓z_evE_18, ↓z_evE_19, ↓z_evE_20, ↓z_evE_21, ↓z_evE_22, ↓z_evE_23, ↓z_evE_24, ↓z_evRs_1, ↓z_evRs_2, ↓z_evO_1, ↓z_evO_2, ↓z_evT_1, ↓z_evT_2, ↓z_evT_3, ↓z_evT_4, ↓z_evC_1, ↓z_evC_2, ↓z_evIt_1, ↓z_evIt_3, ↓z_evIt_4, ↓z_evIt_5, ↓z_evIt_6, ↓z_evS_1, ↓z_evS_2, ↓z_evS_3, ↓z_evS_4, ↓z_evS_5, ↓z_evS_6, ↓z_evS_7, ↓z_evS_8, ↓z_evS_9, ↓z_evS_10, ↓z_evS_11, ↓z_evS_12, ↓z_evS_13, ↓z_evSs_1, ↓z_evSs_2, ↓evIt_rng, leave, start, slotRv, Rv.tree, Rv.isI, Rv.isB, Rv.isS, T.isI, T.isB, T.isS, Rv.w, Rv.lst, Rv.seq, lstAt, seqAt, Rv.data, binop, cmpop, eqRv, inRv, ltRv, isRv, truth, isTy, isiRv, lenRv, LL.bi, biLen, biAll, biAny, biInt, biStr, biTuple, biList, biSorted, meFind, meCount, meJoin, meS, meL, meAppend, meInsert, mePop0, putL, getL, meRv, meTy, ixRv, slRv, revRv, src1, src2, src3, src4, src5, bindTg, bindTs, wipe, treesOf, tupOf, lstOf, app, Sto.trunc, glo0, glo1, glo2, SZ, -List.map_map, ixOf, T.eqOk, T.data, T.datas, T.calm, T.calms, T.depth, T.depths, T.beq, T.beqs, e1, e2, tk_set, h0]
end LLQ

set_option Elab.async false
set_option linter.all false
set_option autoImplicit false
set_option maxRecDepth 100000
set_option maxHeartbeats 400000
namespace LLQ
open LL LLS LLP
def DeedOk (d : Cs) (n : Nat) : Prop := d = [] ∨ ∃ x b c, d = [x, b, c] ∧ (x = 43 ∨ x = 45) ∧ (b = 48 ∧ 1 ≤ n ∨ b = 49 ∧ 2 ≤ n) ∧ (c = 97 ∨ c = 98 ∨ c = 99)
theorem rule_t {k n : Nat} {L : List (List T)} {b : List Int} {O : List Inst} {p q : Int} {m : Nat} {s : Cs} (hn : n < L.length) (hp : 1 ≤ p) (hq : 1 ≤ q) (hm : m = 1 ∨ m = 2) (hs : Ltr s) :
    ∃ (e i j : Int) (d : Cs) (b' : List Int), run prog (k + 3) 24 [.l n, .t (.tup [.int p, .int q]), .t (.int m), .t (.str s)] ⟨L.set n (b.map T.int), O⟩ = .ok (.v (.tup [.int e, .int i, .str d, .int j])) ⟨L.set n (b'.map T.int), O⟩ ∧
      (e = 0 ∨ e = 1) ∧ DeedOk d m ∧ 0 ≤ i ∧ (i < if e = 0 then p else q) ∧ 0 ≤ j ∧ (j < if e = 0 then p else q) := by
  obtain ⟨e, b1, e1, he0, he1⟩ := take_t (k := k + 1) (L := L) (b := b) (O := O) (m := 2) hn (by omega)
  have he : e = 0 ∨ e = 1 := by omega
  obtain ⟨i, b2, e2, hi0, hi1⟩ := take_t (k := k + 1) (L := L) (b := b1) (O := O) (m := if e = 0 then p else q) hn (by split <;> omega)
  obtain ⟨j, b3, e3, hj0, hj1⟩ := take_t (k := k + 1) (L := L) (b := b2) (O := O) (m := if e = 0 then p else q) hn (by split <;> omega)
  obtain ⟨x, b4, e4, hx⟩ := choice_lst (k := k) (L := L) (b := b3) (O := O) (xs := [.str [43], .str [45], .str [45], .str [43], .str [45], .str []]) hn (by simp)
  obtain ⟨d, rfl, hd⟩ : ∃ d, x = .str d ∧ (d = [] ∨ d = [43] ∨ d = [45]) := by
    simp at hx
    rcases hx with rfl | rfl | rfl | rfl | rfl | rfl <;> exact ⟨_, rfl, by simp⟩
  obtain ⟨w, b5, e5, hw0, hw1⟩ := take_t (k := k + 1) (L := L) (b := b4) (O := O) (m := (m : Int)) hn (by omega)
  obtain ⟨c, b6, e6, hc⟩ := choice_s (k := k) (L := L) (b := b5) (O := O) (s := s) hn hs.1 hs.2.1
  have hc := hs.2.2 c hc
  have hw : w = 0 ∨ (w = 1 ∧ m = 2) := by omega
  rcases hd with rfl | hd
  · refine ⟨e, i, j, [], b4, ?_, he, Or.inl rfl, hi0, hi1, hj0, hj1⟩
    rw [run_fn (rfl : prog.fn 24 = some F__law_rule)]
    rcases he with rfl | rfl <;> simp at e2 e3 <;> simp [F__law_rule, ↓mb, ↓pu, ↓gd, ↓opt_some, ↓bad_app, ↓rv_val, ↓nox_app, ↓ite_a, ↓z_evE_1, ↓z_evE_2, ↓z_evE_3, ↓z_evE_4, ↓z_evE_5, ↓z_evE_6, ↓z_evE_7, ↓z_evE_8, ↓z_evE_9, ↓z_evE_10, ↓z_evE_11, ↓z_evE_12, ↓z_evE_13, ↓z_evE_14, ↓z_evE_15, ↓z_evE_16, ↓z_evE_17, ↓z_evE_18, ↓z_evE_19, ↓z_evE_20, ↓z_evE_21, ↓z_evE_22, ↓z_evE_23, ↓z_evE_24, ↓z_evRs_1, ↓z_evRs_2, ↓z_evO_1, ↓z_evO_2, ↓z_evT_1, ↓z_evT_2, ↓z_evT_3, ↓z_evT_4, ↓z_evC_1, ↓z_evC_2, ↓z_evIt_1, ↓z_evIt_3, ↓z_evIt_4, ↓z_evIt_5, ↓z_evIt_6, ↓z_evS_1, ↓z_evS_2, ↓z_evS_3, ↓z_evS_4, ↓z_evS_5, ↓z_evS_6, ↓z_evS_7, ↓z_evS_8, ↓z_evS_9, ↓z_evS_10, ↓z_evS_11, ↓z_evS_12, ↓z_evS_13, ↓z_evSs_1, ↓z_evSs_2, ↓evIt_rng, leave, start, slotRv, Rv.tree, Rv.isI, Rv.isB, Rv.isS, T.isI, T.isB, T.isS, Rv.w, Rv.lst, Rv.seq, lstAt, seqAt, Rv.data, binop, cmpop, eqRv, inRv, ltRv, isRv, truth, isTy, isiRv, lenRv, LL.bi, biLen, biAll, biAny, biInt, biStr, biTuple, biList, biSorted, meFind, meCount, meJoin, meS, meL, meAppend, meInsert, mePop0, putL, getL, meRv, meTy, ixRv, slRv, revRv, src1, src2, src3, src4, src5, bindTg, bindTs, wipe, treesOf, tupOf, lstOf, app, Sto.trunc, glo0, glo1, glo2, SZ, -List.map_map, ixOf, T.eqOk, T.data, T.datas, T.calm, T.calms, T.depth, T.depths, T.beq, T.beqs, e1, e2, e3, e4, tk_set]
  · obtain ⟨x, rfl, hxx⟩ : ∃ x, d = [x] ∧ (x = 43 ∨ x = 45) := by rcases hd with rfl | rfl <;> exact ⟨_, rfl, by simp⟩
    have hdec : decInt w = [if w = 0 then 48 else 49] := by
      rcases hw with rfl | ⟨rfl, _⟩ <;> rfl
    have hsm : w.natAbs < 18446744073709551616 := by omega
    refine ⟨e, i, j, [x, if w = 0 then 48 else 49, c], b6, ?_, he, Or.inr ⟨_, _, _, rfl, hxx, ?_, hc⟩, hi0, hi1, hj0, hj1⟩
    · rw [run_fn (rfl : prog.fn 24 = some F__law_rule)]
      rcases he with rfl | rfl <;> simp at e2 e3 <;> simp [F__law_rule, ↓mb, ↓pu, ↓gd, ↓opt_some, ↓bad_app, ↓rv_val, ↓nox_app, ↓ite_a, ↓z_evE_1, ↓z_evE_2, ↓z_evE_3, ↓z_evE_4, ↓z_evE_5, ↓z_evE_6, ↓z_evE_7, ↓z_evE_8, ↓z_evE_9, ↓z_evE_10, ↓z_evE_11, ↓z_evE_12, ↓z_evE_13, ↓z_evE_14, ↓z_evE_15, ↓z_evE_16, ↓z_evE_17, ↓z_evE_18, ↓z_evE_19, ↓z_evE_20, ↓z_evE_21, ↓z_evE_22, ↓z_evE_23, ↓z_evE_24, ↓z_evRs_1, ↓z_evRs_2, ↓z_evO_1, ↓z_evO_2, ↓z_evT_1, ↓z_evT_2, ↓z_evT_3, ↓z_evT_4, ↓z_evC_1, ↓z_evC_2, ↓z_evIt_1, ↓z_evIt_3, ↓z_evIt_4, ↓z_evIt_5, ↓z_evIt_6, ↓z_evS_1, ↓z_evS_2, ↓z_evS_3, ↓z_evS_4, ↓z_evS_5, ↓z_evS_6, ↓z_evS_7, ↓z_evS_8, ↓z_evS_9, ↓z_evS_10, ↓z_evS_11, ↓z_evS_12, ↓z_evS_13, ↓z_evSs_1, ↓z_evSs_2, ↓evIt_rng, leave, start, slotRv, Rv.tree, Rv.isI, Rv.isB, Rv.isS, T.isI, T.isB, T.isS, Rv.w, Rv.lst, Rv.seq, lstAt, seqAt, Rv.data, binop, cmpop, eqRv, inRv, ltRv, isRv, truth, isTy, isiRv, lenRv, LL.bi, biLen, biAll, biAny, biInt, biStr, biTuple, biList, biSorted, meFind, meCount, meJoin, meS, meL, meAppend, meInsert, mePop0, putL, getL, meRv, meTy, ixRv, slRv, revRv, src1, src2, src3, src4, src5, bindTg, bindTs, wipe, treesOf, tupOf, lstOf, app, Sto.trunc, glo0, glo1, glo2, SZ, -List.map_map, ixOf, T.eqOk, T.data, T.datas, T.calm, T.calms, T.depth, T.depths, T.beq, T.beqs, e1, e2, e3, e4, e5, e6, hdec, hsm, tk_set]
    · rcases hw with rfl | ⟨rfl, h2⟩
      · left; simp; omega
      · right; simp; omega
/-! ### texts -/
theorem noTwo_snoc : ∀ (t : Cs) (c : Nat), NoTwo t → t.getLast? ≠ some c → NoTwo (t ++ [c])
  | [], c, _, _ => trivial
  | [a], c, _, h => ⟨by simpa using h, trivial⟩
  | a :: b :: r, c, hn, h => ⟨hn.1, noTwo_snoc (b :: r) c hn.2 (by simpa [List.getLast?_cons_cons] using h)⟩
theorem sort_abc : ∀ (ls : List Nat), (∀ c ∈ ls, c = 97 ∨ c = 98 ∨ c = 99) → sortCs (ls.map fun c => [c]) = (ordd ls).map fun c => [c]
  | [], _ => rfl
  | a :: r, h => by
    have ih := sort_abc r fun c hc => h c (List.mem_cons_of_mem _ hc)
    simp only [List.map_cons, sortCs, ih]
    have insA : ∀ (n m o : Nat), insCs [97] ((List.replicate n 97 ++ (List.replicate m 98 ++ List.replicate o 99)).map fun c => [c]) = ((List.replicate (n + 1) 97 ++ (List.replicate m 98 ++ List.replicate o 99)).map fun c => [c]) := by
      intro n m o
      induction n with
      | zero =>
        cases m with
        | zero =>
          cases o with
          | zero => rfl
          | succ n => simp [List.replicate_succ, insCs, csLt]
        | succ n => simp [List.replicate_succ, insCs, csLt]
      | succ n ih => simp [List.replicate_succ, insCs, csLt] at ih ⊢; simpa using ih
    have insB : ∀ (n m o : Nat), insCs [98] ((List.replicate n 97 ++ (List.replicate m 98 ++ List.replicate o 99)).map fun c => [c]) = ((List.replicate n 97 ++ (List.replicate (m + 1) 98 ++ List.replicate o 99)).map fun c => [c]) := by
      intro n m o
      induction n with
      | zero =>
        induction m with
        | zero =>
          cases o with
          | zero => rfl
          | succ n => simp [List.replicate_succ, insCs, csLt]
        | succ n ih => simp [List.replicate_succ, insCs, csLt] at ih ⊢; simpa using ih
      | succ n ih => simp [List.replicate_succ, insCs, csLt] at ih ⊢; simpa using ih
    have insC : ∀ (n m o : Nat), insCs [99] ((List.replicate n 97 ++ (List.replicate m 98 ++ List.replicate o 99)).map fun c => [c]) = ((List.replicate n 97 ++ (List.replicate m 98 ++ List.replicate (o + 1) 99)).map fun c => [c]) := by
      intro n m o
      induction n with
      | zero =>
        induction m with
        | zero =>
          induction o with
          | zero => rfl
          | succ n ih => simp [List.replicate_succ, insCs, csLt] at ih ⊢; simpa using ih
        | succ n ih => simp [List.replicate_succ, insCs, csLt] at ih ⊢; simpa using ih
      | succ n ih => simp [List.replicate_succ, insCs, csLt] at ih ⊢; simpa using ih
    unfold ordd
    rcases h a (by simp) with rfl | rfl | rfl
    · rw [insA]; simp
    · rw [insB]; simp
    · rw [insC]; simp
theorem flat_one : ∀ t : Cs, (t.map fun c => [c]).flatten = t
  | [] => rfl
  | a :: r => by simp; exact flat_one r
theorem allStr_map (g : Nat → Cs) : ∀ t : Cs, allStr (t.map fun c => T.str (g c)) = some (t.map g)
  | [] => rfl
  | a :: r => by simp [allStr, allStr_map g r]
theorem allStr_str : ∀ t : List Cs, allStr (t.map T.str) = some t
  | [] => rfl
  | a :: r => by simp [allStr, allStr_str r]
theorem ordd_mem {t : Cs} {c : Nat} (h : c ∈ ordd t) : c = 97 ∨ c = 98 ∨ c = 99 := by
  simp [ordd] at h
  omega
theorem ordd_len (t : Cs) (ht : ∀ c ∈ t, c = 97 ∨ c = 98 ∨ c = 99) : (ordd t).length = t.length := by
  have h := congrArg List.length (sort_abc t ht)
  simp only [List.length_map] at h
  rw [← h]
  have : ∀ xs : List Cs, (sortCs xs).length = xs.length := by
    intro xs
    induction xs with
    | nil => rfl
    | cons a r ih =>
      have : ∀ (x : Cs) (ys : List Cs), (insCs x ys).length = ys.length + 1 := by
        intro x ys
        induction ys with
        | nil => rfl
        | cons b s ih => simp only [insCs]; split <;> simp [ih]
      simp [sortCs, this, ih]
  rw [this]; simp
theorem ordd_ordd (t : Cs) : ordd (ordd t) = ordd t := by
  simp [ordd, List.count_append, List.count_replicate]
structure TxOk (m t : Cs) (n : Nat) : Prop where
  len : t.length ≤ n
  abc : ∀ c ∈ t, c = 97 ∨ c = 98 ∨ c = 99
  fit : Fit m t
theorem one_sum : ∀ t : Cs, ((t.map fun c => [c]).map List.length).sum = t.length
  | [] => rfl
  | a :: r => by
    have := one_sum r
    simp at this ⊢
    omega
theorem cut_last (w : Cs) (c : Nat) : (cut w (some (-1)) none = [c]) ↔ w.getLast? = some c := by
  unfold cut sIx
  rcases List.eq_nil_or_concat w with rfl | ⟨r, a, rfl⟩
  · simp
  · have h : ((-1 : Int) + ((r.length : Int) + 1)).toNat = r.length := by omega
    simp [h]
def stepF (m : Cs) (w : Cs) (c : Nat) : Cs := if m = row then w ++ [c] else if w.getLast? = some c then w else w ++ [c]
/-- the text of a line of a manner with some letters -/
def fitF (m t : Cs) : Cs := if m = heap then ordd t else t.foldl (stepF m) []
theorem foldl_row (t w : Cs) : t.foldl (stepF row) w = w ++ t := by
  induction t generalizing w with
  | nil => simp
  | cons c r ih => rw [List.foldl_cons, ih]; simp [stepF]
theorem fold_len (m : Cs) (t w : Cs) : (t.foldl (stepF m) w).length ≤ w.length + t.length := by
  induction t generalizing w with
  | nil => simp
  | cons c r ih =>
    rw [List.foldl_cons]
    refine Nat.le_trans (ih _) ?_
    unfold stepF
    split
    · simp; omega
    · split <;> simp <;> omega
theorem fold_mem (m : Cs) (t w : Cs) {c : Nat} (h : c ∈ t.foldl (stepF m) w) : c ∈ w ∨ c ∈ t := by
  induction t generalizing w with
  | nil => exact .inl h
  | cons a r ih =>
    rw [List.foldl_cons] at h
    rcases ih _ h with h | h
    · unfold stepF at h
      split at h
      · rcases List.mem_append.1 h with h | h
        · exact .inl h
        · rw [List.mem_singleton] at h; subst h; exact .inr (by simp)
      · split at h
        · exact .inl h
        · rcases List.mem_append.1 h with h | h
          · exact .inl h
          · rw [List.mem_singleton] at h; subst h; exact .inr (by simp)
    · exact .inr (by simp [h])
theorem fold_echo (t w : Cs) (h : NoTwo w) : NoTwo (t.foldl (stepF echo) w) := by
  induction t generalizing w with
  | nil => exact h
  | cons c r ih =>
    rw [List.foldl_cons]
    apply ih
    unfold stepF
    rw [if_neg (by decide)]
    split
    · exact h
    · rename_i hg; exact noTwo_snoc w c h hg
theorem fitF_ok {m t : Cs} (hm : Man m) (ht : ∀ c ∈ t, c = 97 ∨ c = 98 ∨ c = 99) : TxOk m (fitF m t) t.length := by
  unfold fitF
  rcases hm with rfl | rfl | rfl
  · rw [if_neg (by decide)]
    refine ⟨by have := fold_len row t []; simpa using this, fun c h => ?_, fun h => by simp at h, fun h => by simp at h⟩
    rcases fold_mem row t [] h with h | h
    · simp at h
    · exact ht c h
  · rw [if_neg (by decide)]
    refine ⟨by have := fold_len echo t []; simpa using this, fun c h => ?_, fun h => by simp at h, fun _ => fold_echo t [] trivial⟩
    rcases fold_mem echo t [] h with h | h
    · simp at h
    · exact ht c h
  · rw [if_pos rfl]
    exact ⟨by rw [ordd_len t ht]; omega, fun c h => ordd_mem h, fun _ => ordd_ordd t, fun h => by simp at h⟩
theorem flat_strs (t : Cs) : ((t.map fun c => T.str [c]).map strOf).flatten = t := by
  induction t with
  | nil => rfl
  | cons a r ih => simp [strOf] at ih ⊢; exact ih
theorem fitted_x {k : Nat} {S : Sto} {m t : Cs} {wl : T} (hw : srcOf (.v wl) = M.pure ⟨t.map fun c => .str [c], []⟩) (hm : Man m) (ht : ∀ c ∈ t, c = 97 ∨ c = 98 ∨ c = 99) (hl : t.length ≤ 60) :
    run prog (k + 1) 26 [.t (.str m), .t wl] S = .ok (.v (.str (fitF m t))) S := by
  by_cases hh : m = heap
  · subst hh
    rw [run_fn (rfl : prog.fn 26 = some F__law_fitted)]
    have h64 : t.length < 64 := by omega
    have hol := ordd_len t ht
    have hsz : (ordd t).length ≤ 16777216 := by omega
    simp [F__law_fitted, ↓mb, ↓pu, ↓gd, ↓opt_some, ↓bad_app, ↓rv_val, ↓nox_app, ↓ite_a, ↓z_evE_1, ↓z_evE_2, ↓z_evE_3, ↓z_evE_4, ↓z_evE_5, ↓z_evE_6, ↓z_evE_7, ↓z_evE_8, ↓z_evE_9, ↓z_evE_10, ↓z_evE_11, ↓z_evE_12, ↓z_evE_13, ↓z_evE_14, ↓z_evE_15, ↓z_evE_16, ↓z_evE_17, ↓z_evE_18, ↓z_evE_19, ↓z_evE_20, ↓z_evE_21, ↓z_evE_22, ↓z_evE_23, ↓z_evE_24, ↓z_evRs_1, ↓z_evRs_2, ↓z_evO_1, ↓z_evO_2, ↓z_evT_1, ↓z_evT_2, ↓z_evT_3, ↓z_evT_4, ↓z_evC_1, ↓z_evC_2, ↓z_evIt_1, ↓z_evIt_3, ↓z_evIt_4, ↓z_evIt_5, ↓z_evIt_6, ↓z_evS_1, ↓z_evS_2, ↓z_evS_3, ↓z_evS_4, ↓z_evS_5, ↓z_evS_6, ↓z_evS_7, ↓z_evS_8, ↓z_evS_9, ↓z_evS_10, ↓z_evS_11, ↓z_evS_12, ↓z_evS_13, ↓z_evSs_1, ↓z_evSs_2, ↓evIt_rng, leave, start, slotRv, Rv.tree, Rv.isI, Rv.isB, Rv.isS, T.isI, T.isB, T.isS, Rv.w, Rv.lst, Rv.seq, lstAt, seqAt, Rv.data, binop, cmpop, eqRv, inRv, ltRv, isRv, truth, isTy, isiRv, lenRv, LL.bi, biLen, biAll, biAny, biInt, biStr, biTuple, biList, biSorted, meFind, meCount, meJoin, meS, meL, meAppend, meInsert, mePop0, putL, getL, meRv, meTy, ixRv, slRv, revRv, src1, src2, src3, src4, src5, bindTg, bindTs, wipe, treesOf, tupOf, lstOf, app, Sto.trunc, glo0, glo1, glo2, SZ, -List.map_map, ixOf, T.eqOk, T.data, T.datas, T.calm, T.calms, T.depth, T.depths, T.beq, T.beqs, hw]
    rw [lc_map (fun x => x) S rfl _ (by simp; omega)]
    · simp [↓mb, ↓pu, ↓gd, ↓opt_some, ↓bad_app, ↓rv_val, ↓nox_app, ↓ite_a, ↓z_evE_1, ↓z_evE_2, ↓z_evE_3, ↓z_evE_4, ↓z_evE_5, ↓z_evE_6, ↓z_evE_7, ↓z_evE_8, ↓z_evE_9, ↓z_evE_10, ↓z_evE_11, ↓z_evE_12, ↓z_evE_13, ↓z_evE_14, ↓z_evE_15, ↓z_evE_16, ↓z_evE_17, ↓z_evE_18, ↓z_evE_19, ↓z_evE_20, ↓z_evE_21, ↓z_evE_22, ↓z_evE_23, ↓z_evE_24, ↓z_evRs_1, ↓z_evRs_2, ↓z_evO_1, ↓z_evO_2, ↓z_evT_1, ↓z_evT_2, ↓z_evT_3, ↓z_evT_4, ↓z_evC_1, ↓z_evC_2, ↓z_evIt_1, ↓z_evIt_3, ↓z_evIt_4, ↓z_evIt_5, ↓z_evIt_6, ↓z_evS_1, ↓z_evS_2, ↓z_evS_3, ↓z_evS_4, ↓z_evS_5, ↓z_evS_6, ↓z_evS_7, ↓z_evS_8, ↓z_evS_9, ↓z_evS_10, ↓z_evS_11, ↓z_evS_12, ↓z_evS_13, ↓z_evSs_1, ↓z_evSs_2, ↓evIt_rng, leave, start, slotRv, Rv.tree, Rv.isI, Rv.isB, Rv.isS, T.isI, T.isB, T.isS, Rv.w, Rv.lst, Rv.seq, lstAt, seqAt, Rv.data, binop, cmpop, eqRv, inRv, ltRv, isRv, truth, isTy, isiRv, lenRv, LL.bi, biLen, biAll, biAny, biInt, biStr, biTuple, biList, biSorted, meFind, meCount, meJoin, meS, meL, meAppend, meInsert, mePop0, putL, getL, meRv, meTy, ixRv, slRv, revRv, src1, src2, src3, src4, src5, bindTg, bindTs, wipe, treesOf, tupOf, lstOf, app, Sto.trunc, glo0, glo1, glo2, SZ, -List.map_map, ixOf, T.eqOk, T.data, T.datas, T.calm, T.calms, T.depth, T.depths, T.beq, T.beqs, allStr_map, h64, sort_abc t ht, allStr_str, join_nil, flat_one, one_sum, hsz, fitF]
    · intro x hx acc hacc
      obtain ⟨c, hc, rfl⟩ := List.mem_map.1 hx
      simp [↓mb, ↓pu, ↓gd, ↓opt_some, ↓bad_app, ↓rv_val, ↓nox_app, ↓ite_a, ↓z_evE_1, ↓z_evE_2, ↓z_evE_3, ↓z_evE_4, ↓z_evE_5, ↓z_evE_6, ↓z_evE_7, ↓z_evE_8, ↓z_evE_9, ↓z_evE_10, ↓z_evE_11, ↓z_evE_12, ↓z_evE_13, ↓z_evE_14, ↓z_evE_15, ↓z_evE_16, ↓z_evE_17, ↓z_evE_18, ↓z_evE_19, ↓z_evE_20, ↓z_evE_21, ↓z_evE_22, ↓z_evE_23, ↓z_evE_24, ↓z_evRs_1, ↓z_evRs_2, ↓z_evO_1, ↓z_evO_2, ↓z_evT_1, ↓z_evT_2, ↓z_evT_3, ↓z_evT_4, ↓z_evC_1, ↓z_evC_2, ↓z_evIt_1, ↓z_evIt_3, ↓z_evIt_4, ↓z_evIt_5, ↓z_evIt_6, ↓z_evS_1, ↓z_evS_2, ↓z_evS_3, ↓z_evS_4, ↓z_evS_5, ↓z_evS_6, ↓z_evS_7, ↓z_evS_8, ↓z_evS_9, ↓z_evS_10, ↓z_evS_11, ↓z_evS_12, ↓z_evS_13, ↓z_evSs_1, ↓z_evSs_2, ↓evIt_rng, leave, start, slotRv, Rv.tree, Rv.isI, Rv.isB, Rv.isS, T.isI, T.isB, T.isS, Rv.w, Rv.lst, Rv.seq, lstAt, seqAt, Rv.data, binop, cmpop, eqRv, inRv, ltRv, isRv, truth, isTy, isiRv, lenRv, LL.bi, biLen, biAll, biAny, biInt, biStr, biTuple, biList, biSorted, meFind, meCount, meJoin, meS, meL, meAppend, meInsert, mePop0, putL, getL, meRv, meTy, ixRv, slRv, revRv, src1, src2, src3, src4, src5, bindTg, bindTs, wipe, treesOf, tupOf, lstOf, app, Sto.trunc, glo0, glo1, glo2, SZ, -List.map_map, ixOf, T.eqOk, T.data, T.datas, T.calm, T.calms, T.depth, T.depths, T.beq, T.beqs, hacc]
  obtain ⟨σ', s', e, rfl, v, hσ⟩ := for_inv (ws := []) (step := fun x σ => (do
      let σ' ← bindTg (.n 3) x σ
      evSs ⟨run prog k, prog.glo⟩ (.cons (.ite (.or (.val (.cmp .eq (.var 0) (.c (.str [114, 111, 119])))) (.val (.cmp .ne (.sl (.var 2) (.yes (.neg (.c (.int 1)))) .no) (.var 3)))) (.cons (.asg (.n 2) (.bin .add (.var 2) (.var 3))) .nil) .nil) .nil) σ' : M (Fl × Env)))
      (fun d σ s' => s' = S ∧ ∃ (v : Option W), σ = [some (.t (.str m)), some (.t wl), some (.t (.str ((d.map strOf).flatten.foldl (stepF m) []))), v]) (t.map fun c => T.str [c]) []
      (fun d σ s h => by simp [watchOk])
      (by
        intro d x r σ s' he ⟨hs', v, hσ⟩
        subst hs' hσ
        have hx : x ∈ t.map fun c => T.str [c] := by simp at he; rw [he]; simp
        obtain ⟨c, hc, rfl⟩ := List.mem_map.1 hx
        have hdt : ((d.map strOf).flatten).length ≤ 60 := by
          have := congrArg (fun l => ((l.map strOf).flatten).length) he
          simp only [List.nil_append, List.map_append, List.flatten_append, List.length_append] at this
          rw [flat_strs] at this
          omega
        have hw1 := fold_len m (d.map strOf).flatten []
        refine ⟨[some (.t (.str m)), some (.t wl), some (.t (.str ((((d ++ [T.str [c]]).map strOf).flatten).foldl (stepF m) []))), some (.t (.str [c]))], s', ?_, rfl, _, rfl⟩
        simp only [List.map_append, List.flatten_append, List.foldl_append, List.map_cons, List.map_nil, strOf, List.flatten_cons, List.flatten_nil, List.append_nil, List.foldl_cons, List.foldl_nil]
        generalize (d.map strOf).flatten.foldl (stepF m) [] = w at *
        have h1 : w.length + 1 ≤ 16777216 := by rw [List.length_nil] at hw1; omega
        have h2 : w.length ≤ 16777216 := by omega
        have hcl := cut_last w c
        by_cases hr : m = row
        · subst hr
          simp [↓mb, ↓pu, ↓gd, ↓opt_some, ↓bad_app, ↓rv_val, ↓nox_app, ↓ite_a, ↓z_evE_1, ↓z_evE_2, ↓z_evE_3, ↓z_evE_4, ↓z_evE_5, ↓z_evE_6, ↓z_evE_7, ↓z_evE_8, ↓z_evE_9, ↓z_evE_10, ↓z_evE_11, ↓z_evE_12, ↓z_evE_13, ↓z_evE_14, ↓z_evE_15, ↓z_evE_16, ↓z_evE_17, ↓z_evE_18, ↓z_evE_19, ↓z_evE_20, ↓z_evE_21, ↓z_evE_22, ↓z_evE_23, ↓z_evE_24, ↓z_evRs_1, ↓z_evRs_2, ↓z_evO_1, ↓z_evO_2, ↓z_evT_1, ↓z_evT_2, ↓z_evT_3, ↓z_evT_4, ↓z_evC_1, ↓z_evC_2, ↓z_evIt_1, ↓z_evIt_3, ↓z_evIt_4, ↓z_evIt_5, ↓z_evIt_6, ↓z_evS_1, ↓z_evS_2, ↓z_evS_3, ↓z_evS_4, ↓z_evS_5, ↓z_evS_6, ↓z_evS_7, ↓z_evS_8, ↓z_evS_9, ↓z_evS_10, ↓z_evS_11, ↓z_evS_12, ↓z_evS_13, ↓z_evSs_1, ↓z_evSs_2, ↓evIt_rng, leave, start, slotRv, Rv.tree, Rv.isI, Rv.isB, Rv.isS, T.isI, T.isB, T.isS, Rv.w, Rv.lst, Rv.seq, lstAt, seqAt, Rv.data, binop, cmpop, eqRv, inRv, ltRv, isRv, truth, isTy, isiRv, lenRv, LL.bi, biLen, biAll, biAny, biInt, biStr, biTuple, biList, biSorted, meFind, meCount, meJoin, meS, meL, meAppend, meInsert, mePop0, putL, getL, meRv, meTy, ixRv, slRv, revRv, src1, src2, src3, src4, src5, bindTg, bindTs, wipe, treesOf, tupOf, lstOf, app, Sto.trunc, glo0, glo1, glo2, SZ, -List.map_map, ixOf, T.eqOk, T.data, T.datas, T.calm, T.calms, T.depth, T.depths, T.beq, T.beqs, h1, stepF]
        · by_cases hg : w.getLast? = some c
          · have hcut := hcl.2 hg
            simp [↓mb, ↓pu, ↓gd, ↓opt_some, ↓bad_app, ↓rv_val, ↓nox_app, ↓ite_a, ↓z_evE_1, ↓z_evE_2, ↓z_evE_3, ↓z_evE_4, ↓z_evE_5, ↓z_evE_6, ↓z_evE_7, ↓z_evE_8, ↓z_evE_9, ↓z_evE_10, ↓z_evE_11, ↓z_evE_12, ↓z_evE_13, ↓z_evE_14, ↓z_evE_15, ↓z_evE_16, ↓z_evE_17, ↓z_evE_18, ↓z_evE_19, ↓z_evE_20, ↓z_evE_21, ↓z_evE_22, ↓z_evE_23, ↓z_evE_24, ↓z_evRs_1, ↓z_evRs_2, ↓z_evO_1, ↓z_evO_2, ↓z_evT_1, ↓z_evT_2, ↓z_evT_3, ↓z_evT_4, ↓z_evC_1, ↓z_evC_2, ↓z_evIt_1, ↓z_evIt_3, ↓z_evIt_4, ↓z_evIt_5, ↓z_evIt_6, ↓z_evS_1, ↓z_evS_2, ↓z_evS_3, ↓z_evS_4, ↓z_evS_5, ↓z_evS_6, ↓z_evS_7, ↓z_evS_8, ↓z_evS_9, ↓z_evS_10, ↓z_evS_11, ↓z_evS_12, ↓z_evS_13, ↓z_evSs_1, ↓z_evSs_2, ↓evIt_rng, leave, start, slotRv, Rv.tree, Rv.isI, Rv.isB, Rv.isS, T.isI, T.isB, T.isS, Rv.w, Rv.lst, Rv.seq, lstAt, seqAt, Rv.data, binop, cmpop, eqRv, inRv, ltRv, isRv, truth, isTy, isiRv, lenRv, LL.bi, biLen, biAll, biAny, biInt, biStr, biTuple, biList, biSorted, meFind, meCount, meJoin, meS, meL, meAppend, meInsert, mePop0, putL, getL, meRv, meTy, ixRv, slRv, revRv, src1, src2, src3, src4, src5, bindTg, bindTs, wipe, treesOf, tupOf, lstOf, app, Sto.trunc, glo0, glo1, glo2, SZ, -List.map_map, ixOf, T.eqOk, T.data, T.datas, T.calm, T.calms, T.depth, T.depths, T.beq, T.beqs, h1, h2, hcut, stepF, hg, hr]
          · have hcut : ¬ cut w (some (-1)) none = [c] := fun h => hg (hcl.1 h)
            simp [↓mb, ↓pu, ↓gd, ↓opt_some, ↓bad_app, ↓rv_val, ↓nox_app, ↓ite_a, ↓z_evE_1, ↓z_evE_2, ↓z_evE_3, ↓z_evE_4, ↓z_evE_5, ↓z_evE_6, ↓z_evE_7, ↓z_evE_8, ↓z_evE_9, ↓z_evE_10, ↓z_evE_11, ↓z_evE_12, ↓z_evE_13, ↓z_evE_14, ↓z_evE_15, ↓z_evE_16, ↓z_evE_17, ↓z_evE_18, ↓z_evE_19, ↓z_evE_20, ↓z_evE_21, ↓z_evE_22, ↓z_evE_23, ↓z_evE_24, ↓z_evRs_1, ↓z_evRs_2, ↓z_evO_1, ↓z_evO_2, ↓z_evT_1, ↓z_evT_2, ↓z_evT_3, ↓z_evT_4, ↓z_evC_1, ↓z_evC_2, ↓z_evIt_1, ↓z_evIt_3, ↓z_evIt_4, ↓z_evIt_5, ↓z_evIt_6, ↓z_evS_1, ↓z_evS_2, ↓z_evS_3, ↓z_evS_4, ↓z_evS_5, ↓z_evS_6, ↓z_evS_7, ↓z_evS_8, ↓z_evS_9, ↓z_evS_10, ↓z_evS_11, ↓z_evS_12, ↓z_evS_13, ↓z_evSs_1, ↓z_evSs_2, ↓evIt_rng, leave, start, slotRv, Rv.tree, Rv.isI, Rv.isB, Rv.isS, T.isI, T.isB, T.isS, Rv.w, Rv.lst, Rv.seq, lstAt, seqAt, Rv.data, binop, cmpop, eqRv, inRv, ltRv, isRv, truth, isTy, isiRv, lenRv, LL.bi, biLen, biAll, biAny, biInt, biStr, biTuple, biList, biSorted, meFind, meCount, meJoin, meS, meL, meAppend, meInsert, mePop0, putL, getL, meRv, meTy, ixRv, slRv, revRv, src1, src2, src3, src4, src5, bindTg, bindTs, wipe, treesOf, tupOf, lstOf, app, Sto.trunc, glo0, glo1, glo2, SZ, -List.map_map, ixOf, T.eqOk, T.data, T.datas, T.calm, T.calms, T.depth, T.depths, T.beq, T.beqs, h1, h2, hcut, stepF, hg, hr])
      [some (.t (.str m)), some (.t wl), some (.t (.str [])), none] S ⟨rfl, none, rfl⟩
  subst hσ
  rw [run_fn (rfl : prog.fn 26 = some F__law_fitted)]
  simp [F__law_fitted, ↓mb, ↓pu, ↓gd, ↓opt_some, ↓bad_app, ↓rv_val, ↓nox_app, ↓ite_a, ↓z_evE_1, ↓z_evE_2, ↓z_evE_3, ↓z_evE_4, ↓z_evE_5, ↓z_evE_6, ↓z_evE_7, ↓z_evE_8, ↓z_evE_9, ↓z_evE_10, ↓z_evE_11, ↓z_evE_12, ↓z_evE_13, ↓z_evE_14, ↓z_evE_15, ↓z_evE_16, ↓z_evE_17, ↓z_evE_18, ↓z_evE_19, ↓z_evE_20, ↓z_evE_21, ↓z_evE_22, ↓z_evE_23, ↓z_evE_24, ↓z_evRs_1, ↓z_evRs_2, ↓z_evO_1, ↓z_evO_2, ↓z_evT_1, ↓z_evT_2, ↓z_evT_3, ↓z_evT_4, ↓z_evC_1, ↓z_evC_2, ↓z_evIt_1, ↓z_evIt_3, ↓z_evIt_4, ↓z_evIt_5, ↓z_evIt_6, ↓z_evS_1, ↓z_evS_2, ↓z_evS_3, ↓z_evS_4, ↓z_evS_5, ↓z_evS_6, ↓z_evS_7, ↓z_evS_8, ↓z_evS_9, ↓z_evS_10, ↓z_evS_11, ↓z_evS_12, ↓z_evS_13, ↓z_evSs_1, ↓z_evSs_2, ↓evIt_rng, leave, start, slotRv, Rv.tree, Rv.isI, Rv.isB, Rv.isS, T.isI, T.isB, T.isS, Rv.w, Rv.lst, Rv.seq, lstAt, seqAt, Rv.data, binop, cmpop, eqRv, inRv, ltRv, isRv, truth, isTy, isiRv, lenRv, LL.bi, biLen, biAll, biAny, biInt, biStr, biTuple, biList, biSorted, meFind, meCount, meJoin, meS, meL, meAppend, meInsert, mePop0, putL, getL, meRv, meTy, ixRv, slRv, revRv, src1, src2, src3, src4, src5, bindTg, bindTs, wipe, treesOf, tupOf, lstOf, app, Sto.trunc, glo0, glo1, glo2, SZ, -List.map_map, ixOf, T.eqOk, T.data, T.datas, T.calm, T.calms, T.depth, T.depths, T.beq, T.beqs, hh, hw]
  simp [↓mb, ↓pu, ↓gd, ↓opt_some, ↓bad_app, ↓rv_val, ↓nox_app, ↓ite_a, ↓z_evE_1, ↓z_evE_2, ↓z_evE_3, ↓z_evE_4, ↓z_evE_5, ↓z_evE_6, ↓z_evE_7, ↓z_evE_8, ↓z_evE_9, ↓z_evE_10, ↓z_evE_11, ↓z_evE_12, ↓z_evE_13, ↓z_evE_14, ↓z_evE_15, ↓z_evE_16, ↓z_evE_17, ↓z_evE_18, ↓z_evE_19, ↓z_evE_20, ↓z_evE_21, ↓z_evE_22, ↓z_evE_23, ↓z_evE_24, ↓z_evRs_1, ↓z_evRs_2, ↓z_evO_1, ↓z_evO_2, ↓z_evT_1, ↓z_evT_2, ↓z_evT_3, ↓z_evT_4, ↓z_evC_1, ↓z_evC_2, ↓z_evIt_1, ↓z_evIt_3, ↓z_evIt_4, ↓z_evIt_5, ↓z_evIt_6, ↓z_evS_1, ↓z_evS_2, ↓z_evS_3, ↓z_evS_4, ↓z_evS_5, ↓z_evS_6, ↓z_evS_7, ↓z_evS_8, ↓z_evS_9, ↓z_evS_10, ↓z_evS_11, ↓z_evS_12, ↓z_evS_13, ↓z_evSs_1, ↓z_evSs_2, ↓evIt_rng, leave, start, slotRv, Rv.tree, Rv.isI, Rv.isB, Rv.isS, T.isI, T.isB, T.isS, Rv.w, Rv.lst, Rv.seq, lstAt, seqAt, Rv.data, binop, cmpop, eqRv, inRv, ltRv, isRv, truth, isTy, isiRv, lenRv, LL.bi, biLen, biAll, biAny, biInt, biStr, biTuple, biList, biSorted, meFind, meCount, meJoin, meS, meL, meAppend, meInsert, mePop0, putL, getL, meRv, meTy, ixRv, slRv, revRv, src1, src2, src3, src4, src5, bindTg, bindTs, wipe, treesOf, tupOf, lstOf, app, Sto.trunc, glo0, glo1, glo2, SZ, -List.map_map, ixOf, T.eqOk, T.data, T.datas, T.calm, T.calms, T.depth, T.depths, T.beq, T.beqs] at e
  rw [e]
  simp [↓mb, ↓pu, ↓gd, ↓opt_some, ↓bad_app, ↓rv_val, ↓nox_app, ↓ite_a, ↓z_evE_1, ↓z_evE_2, ↓z_evE_3, ↓z_evE_4, ↓z_evE_5, ↓z_evE_6, ↓z_evE_7, ↓z_evE_8, ↓z_evE_9, ↓z_evE_10, ↓z_evE_11, ↓z_evE_12, ↓z_evE_13, ↓z_evE_14, ↓z_evE_15, ↓z_evE_16, ↓z_evE_17, ↓z_evE_18, ↓z_evE_19, ↓z_evE_20, ↓z_evE_21, ↓z_evE_22, ↓z_evE_23, ↓z_evE_24, ↓z_evRs_1, ↓z_evRs_2, ↓z_evO_1, ↓z_evO_2, ↓z_evT_1, ↓z_evT_2, ↓z_evT_3, ↓z_evT_4, ↓z_evC_1, ↓z_evC_2, ↓z_evIt_1, ↓z_evIt_3, ↓z_evIt_4, ↓z_evIt_5, ↓z_evIt_6, ↓z_evS_1, ↓z_evS_2, ↓z_evS_3, ↓z_evS_4, ↓z_evS_5, ↓z_evS_6, ↓z_evS_7, ↓z_evS_8, ↓z_evS_9, ↓z_evS_10, ↓z_evS_11, ↓z_evS_12, ↓z_evS_13, ↓z_evSs_1, ↓z_evSs_2, ↓evIt_rng, leave, start, slotRv, Rv.tree, Rv.isI, Rv.isB, Rv.isS, T.isI, T.isB, T.isS, Rv.w, Rv.lst, Rv.seq, lstAt, seqAt, Rv.data, binop, cmpop, eqRv, inRv, ltRv, isRv, truth, isTy, isiRv, lenRv, LL.bi, biLen, biAll, biAny, biInt, biStr, biTuple, biList, biSorted, meFind, meCount, meJoin, meS, meL, meAppend, meInsert, mePop0, putL, getL, meRv, meTy, ixRv, slRv, revRv, src1, src2, src3, src4, src5, bindTg, bindTs, wipe, treesOf, tupOf, lstOf, app, Sto.trunc, glo0, glo1, glo2, SZ, -List.map_map, ixOf, T.eqOk, T.data, T.datas, T.calm, T.calms, T.depth, T.depths, T.beq, T.beqs, fitF, hh]
  rw [flat_strs]
theorem fitted_t {k : Nat} {S : Sto} {m t : Cs} (hm : Man m) (ht : ∀ c ∈ t, c = 97 ∨ c = 98 ∨ c = 99) (hl : t.length ≤ 60) :
    ∃ u, run prog (k + 1) 26 [.t (.str m), .t (.lst (t.map fun c => T.str [c]))] S = .ok (.v (.str u)) S ∧ TxOk m u t.length :=
  ⟨fitF m t, fitted_x (src2 _) hm ht hl, fitF_ok hm ht⟩
theorem text_t {k n : Nat} {L : List (List T)} {b : List Int} {O : List Inst} {m : Cs} {q : Nat} (hn : n < L.length) (hm : Man m) (hq : q ≤ 50) :
    ∃ (u : Cs) (b' : List Int), run prog (k + 3) 27 [.l n, .t (.str m), .t (.int (q : Int))] ⟨L.set n (b.map T.int), O⟩ = .ok (.v (.str u)) ⟨L.set n (b'.map T.int), O⟩ ∧ TxOk m u 60 := by
  obtain ⟨x, b1, e1, hx⟩ := choice_lst (k := k) (L := L) (b := b) (O := O) (xs := [.str [97, 98], .str [97, 98], .str [97, 98, 99], .str [97]]) hn (by simp)
  obtain ⟨s, rfl, hs⟩ : ∃ s, x = .str s ∧ Ltr s := by
    simp at hx
    rcases hx with rfl | rfl | rfl <;> exact ⟨_, rfl, by simp [Ltr]⟩
  obtain ⟨w, b2, e2, hw0, hw1⟩ := take_t (k := k + 1) (L := L) (b := b1) (O := O) (m := (q : Int) + 1) hn (by omega)
  have hr := rngG_ok (j := w) (S := ⟨L.set n (b2.map T.int), O⟩) hw0 (by omega)
  obtain ⟨ys, s', e3, t, hys, hlen, habc, b3, hs'⟩ := lc_inv (ws := []) (step := fun x acc => do
      let σ' ← bindTg (.n 4) x (wipe [some (.l n), some (.t (.str m)), some (.t (.int (q : Int))), some (.t (.str s)), none] [4])
      let b ← evC ⟨run prog (k + 2), prog.glo⟩ .no σ'
      if b then do let r ← evE ⟨run prog (k + 2), prog.glo⟩ (.call 19 (.cons (.var 0) (.cons (.var 3) .nil))) σ'; app acc r else M.pure acc)
    (fun d acc s' => ∃ t : Cs, acc = t.map (fun c => T.str [c]) ∧ t.length = d.length ∧ (∀ c ∈ t, c = 97 ∨ c = 98 ∨ c = 99) ∧ ∃ b3 : List Int, s' = ⟨L.set n (b3.map T.int), O⟩) (rngItems 0 w.toNat) []
    (fun d acc s h => by simp [watchOk])
    (by
      intro d x r acc s' he ⟨t, hacc, hlen, habc, b3, hs'⟩
      subst hacc hs'
      obtain ⟨c, b4, e4, hc⟩ := choice_s (k := k) (L := L) (b := b3) (O := O) (s := s) hn hs.1 hs.2.1
      have hd : d.length < 16777216 := by have := congrArg List.length he; simp [rngItems] at this; omega
      refine ⟨(t ++ [c]).map (fun c => T.str [c]), ⟨L.set n (b4.map T.int), O⟩, by simp [↓mb, ↓pu, ↓gd, ↓opt_some, ↓bad_app, ↓rv_val, ↓nox_app, ↓ite_a, ↓z_evE_1, ↓z_evE_2, ↓z_evE_3, ↓z_evE_4, ↓z_evE_5, ↓z_evE_6, ↓z_evE_7, ↓z_evE_8, ↓z_evE_9, ↓z_evE_10, ↓z_evE_11, ↓z_evE_12, ↓z_evE_13, ↓z_evE_14, ↓z_evE_15, ↓z_evE_16, ↓z_evE_17, ↓z_evE_18, ↓z_evE_19, ↓z_evE_20, ↓z_evE_21, ↓z_evE_22, ↓z_evE_23, ↓z_evE_24, ↓z_evRs_1, ↓z_evRs_2, ↓z_evO_1, ↓z_evO_2, ↓z_evT_1, ↓z_evT_2, ↓z_evT_3, ↓z_evT_4, ↓z_evC_1, ↓z_evC_2, ↓z_evIt_1, ↓z_evIt_3, ↓z_evIt_4, ↓z_evIt_5, ↓z_evIt_6, ↓z_evS_1, ↓z_evS_2, ↓z_evS_3, ↓z_evS_4, ↓z_evS_5, ↓z_evS_6, ↓z_evS_7, ↓z_evS_8, ↓z_evS_9, ↓z_evS_10, ↓z_evS_11, ↓z_evS_12, ↓z_evS_13, ↓z_evSs_1, ↓z_evSs_2, ↓evIt_rng, leave, start, slotRv, Rv.tree, Rv.isI, Rv.isB, Rv.isS, T.isI, T.isB, T.isS, Rv.w, Rv.lst, Rv.seq, lstAt, seqAt, Rv.data, binop, cmpop, eqRv, inRv, ltRv, isRv, truth, isTy, isiRv, lenRv, LL.bi, biLen, biAll, biAny, biInt, biStr, biTuple, biList, biSorted, meFind, meCount, meJoin, meS, meL, meAppend, meInsert, mePop0, putL, getL, meRv, meTy, ixRv, slRv, revRv, src1, src2, src3, src4, src5, bindTg, bindTs, wipe, treesOf, tupOf, lstOf, app, Sto.trunc, glo0, glo1, glo2, SZ, -List.map_map, ixOf, T.eqOk, T.data, T.datas, T.calm, T.calms, T.depth, T.depths, T.beq, T.beqs, e4, hlen, hd], t ++ [c], rfl, by simp [hlen], ?_, b4, rfl⟩
      intro y hy
      rcases List.mem_append.1 hy with h | h
      · exact habc y h
      · rw [List.mem_singleton] at h; subst h; exact hs.2.2 y hc)
    [] ⟨L.set n (b2.map T.int), O⟩ ⟨[], rfl, rfl, by simp, b2, rfl⟩
  subst hys hs'
  have hl : t.length ≤ 60 := by simp [rngItems] at hlen; omega
  obtain ⟨u, e5, hu⟩ := fitted_t (k := k + 1) (S := ⟨L.set n (b3.map T.int), O⟩) hm habc hl
  refine ⟨u, b3, ?_, ⟨Nat.le_trans hu.len hl, hu.abc, hu.fit⟩⟩
  rw [run_fn (rfl : prog.fn 27 = some F__law_text)]
  simp [F__law_text, ↓mb, ↓pu, ↓gd, ↓opt_some, ↓bad_app, ↓rv_val, ↓nox_app, ↓ite_a, ↓z_evE_1, ↓z_evE_2, ↓z_evE_3, ↓z_evE_4, ↓z_evE_5, ↓z_evE_6, ↓z_evE_7, ↓z_evE_8, ↓z_evE_9, ↓z_evE_10, ↓z_evE_11, ↓z_evE_12, ↓z_evE_13, ↓z_evE_14, ↓z_evE_15, ↓z_evE_16, ↓z_evE_17, ↓z_evE_18, ↓z_evE_19, ↓z_evE_20, ↓z_evE_21, ↓z_evE_22, ↓z_evE_23, ↓z_evE_24, ↓z_evRs_1, ↓z_evRs_2, ↓z_evO_1, ↓z_evO_2, ↓z_evT_1, ↓z_evT_2, ↓z_evT_3, ↓z_evT_4, ↓z_evC_1, ↓z_evC_2, ↓z_evIt_1, ↓z_evIt_3, ↓z_evIt_4, ↓z_evIt_5, ↓z_evIt_6, ↓z_evS_1, ↓z_evS_2, ↓z_evS_3, ↓z_evS_4, ↓z_evS_5, ↓z_evS_6, ↓z_evS_7, ↓z_evS_8, ↓z_evS_9, ↓z_evS_10, ↓z_evS_11, ↓z_evS_12, ↓z_evS_13, ↓z_evSs_1, ↓z_evSs_2, ↓evIt_rng, leave, start, slotRv, Rv.tree, Rv.isI, Rv.isB, Rv.isS, T.isI, T.isB, T.isS, Rv.w, Rv.lst, Rv.seq, lstAt, seqAt, Rv.data, binop, cmpop, eqRv, inRv, ltRv, isRv, truth, isTy, isiRv, lenRv, LL.bi, biLen, biAll, biAny, biInt, biStr, biTuple, biList, biSorted, meFind, meCount, meJoin, meS, meL, meAppend, meInsert, mePop0, putL, getL, meRv, meTy, ixRv, slRv, revRv, src1, src2, src3, src4, src5, bindTg, bindTs, wipe, treesOf, tupOf, lstOf, app, Sto.trunc, glo0, glo1, glo2, SZ, -List.map_map, ixOf, T.eqOk, T.data, T.datas, T.calm, T.calms, T.depth, T.depths, T.beq, T.beqs, e1, e2, hr]
  simp [↓mb, ↓pu, ↓gd, ↓opt_some, ↓bad_app, ↓rv_val, ↓nox_app, ↓ite_a, ↓z_evE_1, ↓z_evE_2, ↓z_evE_3, ↓z_evE_4, ↓z_evE_5, ↓z_evE_6, ↓z_evE_7, ↓z_evE_8, ↓z_evE_9, ↓z_evE_10, ↓z_evE_11, ↓z_evE_12, ↓z_evE_13, ↓z_evE_14, ↓z_evE_15, ↓z_evE_16, ↓z_evE_17, ↓z_evE_18, ↓z_evE_19, ↓z_evE_20, ↓z_evE_21, ↓z_evE_22, ↓z_evE_23, ↓z_evE_24, ↓z_evRs_1, ↓z_evRs_2, ↓z_evO_1, ↓z_evO_2, ↓z_evT_1, ↓z_evT_2, ↓z_evT_3, ↓z_evT_4, ↓z_evC_1, ↓z_evC_2, ↓z_evIt_1, ↓z_evIt_3, ↓z_evIt_4, ↓z_evIt_5, ↓z_evIt_6, ↓z_evS_1, ↓z_evS_2, ↓z_evS_3, ↓z_evS_4, ↓z_evS_5, ↓z_evS_6, ↓z_evS_7, ↓z_evS_8, ↓z_evS_9, ↓z_evS_10, ↓z_evS_11, ↓z_evS_12, ↓z_evS_13, ↓z_evSs_1, ↓z_evSs_2, ↓evIt_rng, leave, start, slotRv, Rv.tree, Rv.isI, Rv.isB, Rv.isS, T.isI, T.isB, T.isS, Rv.w, Rv.lst, Rv.seq, lstAt, seqAt, Rv.data, binop, cmpop, eqRv, inRv, ltRv, isRv, truth, isTy, isiRv, lenRv, LL.bi, biLen, biAll, biAny, biInt, biStr, biTuple, biList, biSorted, meFind, meCount, meJoin, meS, meL, meAppend, meInsert, mePop0, putL, getL, meRv, meTy, ixRv, slRv, revRv, src1, src2, src3, src4, src5, bindTg, bindTs, wipe, treesOf, tupOf, lstOf, app, Sto.trunc, glo0, glo1, glo2, SZ, -List.map_map, ixOf, T.eqOk, T.data, T.datas, T.calm, T.calms, T.depth, T.depths, T.beq, T.beqs] at e3
  rw [e3]
  simp [↓mb, ↓pu, ↓gd, ↓opt_some, ↓bad_app, ↓rv_val, ↓nox_app, ↓ite_a, ↓z_evE_1, ↓z_evE_2, ↓z_evE_3, ↓z_evE_4, ↓z_evE_5, ↓z_evE_6, ↓z_evE_7, ↓z_evE_8, ↓z_evE_9, ↓z_evE_10, ↓z_evE_11, ↓z_evE_12, ↓z_evE_13, ↓z_evE_14, ↓z_evE_15, ↓z_evE_16, ↓z_evE_17, ↓z_evE_18, ↓z_evE_19, ↓z_evE_20, ↓z_evE_21, ↓z_evE_22, ↓z_evE_23, ↓z_evE_24, ↓z_evRs_1, ↓z_evRs_2, ↓z_evO_1, ↓z_evO_2, ↓z_evT_1, ↓z_evT_2, ↓z_evT_3, ↓z_evT_4, ↓z_evC_1, ↓z_evC_2, ↓z_evIt_1, ↓z_evIt_3, ↓z_evIt_4, ↓z_evIt_5, ↓z_evIt_6, ↓z_evS_1, ↓z_evS_2, ↓z_evS_3, ↓z_evS_4, ↓z_evS_5, ↓z_evS_6, ↓z_evS_7, ↓z_evS_8, ↓z_evS_9, ↓z_evS_10, ↓z_evS_11, ↓z_evS_12, ↓z_evS_13, ↓z_evSs_1, ↓z_evSs_2, ↓evIt_rng, leave, start, slotRv, Rv.tree, Rv.isI, Rv.isB, Rv.isS, T.isI, T.isB, T.isS, Rv.w, Rv.lst, Rv.seq, lstAt, seqAt, Rv.data, binop, cmpop, eqRv, inRv, ltRv, isRv, truth, isTy, isiRv, lenRv, LL.bi, biLen, biAll, biAny, biInt, biStr, biTuple, biList, biSorted, meFind, meCount, meJoin, meS, meL, meAppend, meInsert, mePop0, putL, getL, meRv, meTy, ixRv, slRv, revRv, src1, src2, src3, src4, src5, bindTg, bindTs, wipe, treesOf, tupOf, lstOf, app, Sto.trunc, glo0, glo1, glo2, SZ, -List.map_map, ixOf, T.eqOk, T.data, T.datas, T.calm, T.calms, T.depth, T.depths, T.beq, T.beqs, e5, tk_set]
end LLQ
set_option Elab.async false
set_option linter.all false
set_option autoImplicit false
set_option maxRecDepth 100000
set_option maxHeartbeats 400000
namespace LLQ
open LL LLS LLP
theorem place_t {k n : Nat} {L : List (List T)} {b : List Int} {O : List Inst} {a : Tk} {q : Nat} (hn : n < L.length) (ha : TkOk a) (hq : q ≤ 50) :
    ∃ (x : Pl) (b' : List Int), run prog (k + 4) 28 [.l n, .t a.t, .t (.int (q : Int))] ⟨L.set n (b.map T.int), O⟩ = .ok (.v x.t) ⟨L.set n (b'.map T.int), O⟩ ∧ PlOk a x := by
  have hp1 := ha.p1
  have hq1 := ha.q1
  obtain ⟨i, b1, e1, hi0, hi1⟩ := take_t (k := k + 2) (L := L) (b := b) (O := O) (m := a.p) hn (by omega)
  obtain ⟨j, b2, e2, hj0, hj1⟩ := take_t (k := k + 2) (L := L) (b := b1) (O := O) (m := a.q) hn (by omega)
  have hml : a.ms.length ≤ 2 := by have := ha.ms.1; omega
  obtain ⟨ys, s', e3, ts, b3, hys, hs', hlen, hfit⟩ := lc_inv (ws := []) (step := fun x acc => do
      let σ' ← bindTg (.n 4) x (wipe [some (.l n), some (.t a.t), some (.t (.int (q : Int))), some (.t (.tup [.int i, .int j])), none] [4])
      let b ← evC ⟨run prog (k + 3), prog.glo⟩ .no σ'
      if b then do let r ← evE ⟨run prog (k + 3), prog.glo⟩ (.call 27 (.cons (.var 0) (.cons (.var 4) (.cons (.var 2) .nil)))) σ'; app acc r else M.pure acc)
    (fun d acc s' => ∃ (ts : List Cs) (b3 : List Int), acc = ts.map T.str ∧ s' = ⟨L.set n (b3.map T.int), O⟩ ∧ ts.length = d.length ∧ ∀ z ∈ List.zip (d.map strOf) ts, TxOk z.1 z.2 60) (a.ms.map T.str) []
    (fun d acc s h => by simp [watchOk])
    (by
      intro d x r acc s' he ⟨ts, b3, hacc, hs', hlen, hfit⟩
      subst hacc hs'
      have hx : x ∈ a.ms.map T.str := by simp at he; rw [he]; simp
      obtain ⟨m, hm, rfl⟩ := List.mem_map.1 hx
      obtain ⟨u, b4, e4, hu⟩ := text_t (k := k) (L := L) (b := b3) (O := O) (q := q) hn (ha.ms.2 m hm) hq
      have hd : d.length < 16777216 := by have := congrArg List.length he; simp at this; omega
      refine ⟨(ts ++ [u]).map T.str, ⟨L.set n (b4.map T.int), O⟩, by simp [↓mb, ↓pu, ↓gd, ↓opt_some, ↓bad_app, ↓rv_val, ↓nox_app, ↓ite_a, ↓z_evE_1, ↓z_evE_2, ↓z_evE_3, ↓z_evE_4, ↓z_evE_5, ↓z_evE_6, ↓z_evE_7, ↓z_evE_8, ↓z_evE_9, ↓z_evE_10, ↓z_evE_11, ↓z_evE_12, ↓z_evE_13, ↓z_evE_14, ↓z_evE_15, ↓z_evE_16, ↓z_evE_17, ↓z_evE_18, ↓z_evE_19, ↓z_evE_20, ↓z_evE_21, ↓z_evE_22, ↓z_evE_23, ↓z_evE_24, ↓z_evRs_1, ↓z_evRs_2, ↓z_evO_1, ↓z_evO_2, ↓z_evT_1, ↓z_evT_2, ↓z_evT_3, ↓z_evT_4, ↓z_evC_1, ↓z_evC_2, ↓z_evIt_1, ↓z_evIt_3, ↓z_evIt_4, ↓z_evIt_5, ↓z_evIt_6, ↓z_evS_1, ↓z_evS_2, ↓z_evS_3, ↓z_evS_4, ↓z_evS_5, ↓z_evS_6, ↓z_evS_7, ↓z_evS_8, ↓z_evS_9, ↓z_evS_10, ↓z_evS_11, ↓z_evS_12, ↓z_evS_13, ↓z_evSs_1, ↓z_evSs_2, ↓evIt_rng, leave, start, slotRv, Rv.tree, Rv.isI, Rv.isB, Rv.isS, T.isI, T.isB, T.isS, Rv.w, Rv.lst, Rv.seq, lstAt, seqAt, Rv.data, binop, cmpop, eqRv, inRv, ltRv, isRv, truth, isTy, isiRv, lenRv, LL.bi, biLen, biAll, biAny, biInt, biStr, biTuple, biList, biSorted, meFind, meCount, meJoin, meS, meL, meAppend, meInsert, mePop0, putL, getL, meRv, meTy, ixRv, slRv, revRv, src1, src2, src3, src4, src5, bindTg, bindTs, wipe, treesOf, tupOf, lstOf, app, Sto.trunc, glo0, glo1, glo2, SZ, -List.map_map, ixOf, T.eqOk, T.data, T.datas, T.calm, T.calms, T.depth, T.depths, T.beq, T.beqs, e4, hlen, hd], ts ++ [u], b4, rfl, rfl, by simp [hlen], ?_⟩
      intro z hz
      rw [List.map_append, List.zip_append (by simp [hlen])] at hz
      rcases List.mem_append.1 hz with h | h
      · exact hfit z h
      · simp [strOf] at h; subst h; exact hu)
    [] ⟨L.set n (b2.map T.int), O⟩ ⟨[], b2, rfl, rfl, rfl, by simp⟩
  subst hys hs'
  refine ⟨⟨i, j, ts⟩, b3, ?_, ⟨hi0, hi1, hj0, hj1, by simpa using hlen, fun z hz => ?_⟩⟩
  · rw [run_fn (rfl : prog.fn 28 = some F__law_place)]
    simp [F__law_place, Tk.t, Pl.t, ↓mb, ↓pu, ↓gd, ↓opt_some, ↓bad_app, ↓rv_val, ↓nox_app, ↓ite_a, ↓z_evE_1, ↓z_evE_2, ↓z_evE_3, ↓z_evE_4, ↓z_evE_5, ↓z_evE_6, ↓z_evE_7, ↓z_evE_8, ↓z_evE_9, ↓z_evE_10, ↓z_evE_11, ↓z_evE_12, ↓z_evE_13, ↓z_evE_14, ↓z_evE_15, ↓z_evE_16, ↓z_evE_17, ↓z_evE_18, ↓z_evE_19, ↓z_evE_20, ↓z_evE_21, ↓z_evE_22, ↓z_evE_23, ↓z_evE_24, ↓z_evRs_1, ↓z_evRs_2, ↓z_evO_1, ↓z_evO_2, ↓z_evT_1, ↓z_evT_2, ↓z_evT_3, ↓z_evT_4, ↓z_evC_1, ↓z_evC_2, ↓z_evIt_1, ↓z_evIt_3, ↓z_evIt_4, ↓z_evIt_5, ↓z_evIt_6, ↓z_evS_1, ↓z_evS_2, ↓z_evS_3, ↓z_evS_4, ↓z_evS_5, ↓z_evS_6, ↓z_evS_7, ↓z_evS_8, ↓z_evS_9, ↓z_evS_10, ↓z_evS_11, ↓z_evS_12, ↓z_evS_13, ↓z_evSs_1, ↓z_evSs_2, ↓evIt_rng, leave, start, slotRv, Rv.tree, Rv.isI, Rv.isB, Rv.isS, T.isI, T.isB, T.isS, Rv.w, Rv.lst, Rv.seq, lstAt, seqAt, Rv.data, binop, cmpop, eqRv, inRv, ltRv, isRv, truth, isTy, isiRv, lenRv, LL.bi, biLen, biAll, biAny, biInt, biStr, biTuple, biList, biSorted, meFind, meCount, meJoin, meS, meL, meAppend, meInsert, mePop0, putL, getL, meRv, meTy, ixRv, slRv, revRv, src1, src2, src3, src4, src5, bindTg, bindTs, wipe, treesOf, tupOf, lstOf, app, Sto.trunc, glo0, glo1, glo2, SZ, -List.map_map, ixOf, T.eqOk, T.data, T.datas, T.calm, T.calms, T.depth, T.depths, T.beq, T.beqs, e1, e2]
    simp [↓mb, ↓pu, ↓gd, ↓opt_some, ↓bad_app, ↓rv_val, ↓nox_app, ↓ite_a, ↓z_evE_1, ↓z_evE_2, ↓z_evE_3, ↓z_evE_4, ↓z_evE_5, ↓z_evE_6, ↓z_evE_7, ↓z_evE_8, ↓z_evE_9, ↓z_evE_10, ↓z_evE_11, ↓z_evE_12, ↓z_evE_13, ↓z_evE_14, ↓z_evE_15, ↓z_evE_16, ↓z_evE_17, ↓z_evE_18, ↓z_evE_19, ↓z_evE_20, ↓z_evE_21, ↓z_evE_22, ↓z_evE_23, ↓z_evE_24, ↓z_evRs_1, ↓z_evRs_2, ↓z_evO_1, ↓z_evO_2, ↓z_evT_1, ↓z_evT_2, ↓z_evT_3, ↓z_evT_4, ↓z_evC_1, ↓z_evC_2, ↓z_evIt_1, ↓z_evIt_3, ↓z_evIt_4, ↓z_evIt_5, ↓z_evIt_6, ↓z_evS_1, ↓z_evS_2, ↓z_evS_3, ↓z_evS_4, ↓z_evS_5, ↓z_evS_6, ↓z_evS_7, ↓z_evS_8, ↓z_evS_9, ↓z_evS_10, ↓z_evS_11, ↓z_evS_12, ↓z_evS_13, ↓z_evSs_1, ↓z_evSs_2, ↓evIt_rng, leave, start, slotRv, Rv.tree, Rv.isI, Rv.isB, Rv.isS, T.isI, T.isB, T.isS, Rv.w, Rv.lst, Rv.seq, lstAt, seqAt, Rv.data, binop, cmpop, eqRv, inRv, ltRv, isRv, truth, isTy, isiRv, lenRv, LL.bi, biLen, biAll, biAny, biInt, biStr, biTuple, biList, biSorted, meFind, meCount, meJoin, meS, meL, meAppend, meInsert, mePop0, putL, getL, meRv, meTy, ixRv, slRv, revRv, src1, src2, src3, src4, src5, bindTg, bindTs, wipe, treesOf, tupOf, lstOf, app, Sto.trunc, glo0, glo1, glo2, SZ, -List.map_map, ixOf, T.eqOk, T.data, T.datas, T.calm, T.calms, T.depth, T.depths, T.beq, T.beqs, Tk.t] at e3
    rw [e3]
    simp [↓mb, ↓pu, ↓gd, ↓opt_some, ↓bad_app, ↓rv_val, ↓nox_app, ↓ite_a, ↓z_evE_1, ↓z_evE_2, ↓z_evE_3, ↓z_evE_4, ↓z_evE_5, ↓z_evE_6, ↓z_evE_7, ↓z_evE_8, ↓z_evE_9, ↓z_evE_10, ↓z_evE_11, ↓z_evE_12, ↓z_evE_13, ↓z_evE_14, ↓z_evE_15, ↓z_evE_16, ↓z_evE_17, ↓z_evE_18, ↓z_evE_19, ↓z_evE_20, ↓z_evE_21, ↓z_evE_22, ↓z_evE_23, ↓z_evE_24, ↓z_evRs_1, ↓z_evRs_2, ↓z_evO_1, ↓z_evO_2, ↓z_evT_1, ↓z_evT_2, ↓z_evT_3, ↓z_evT_4, ↓z_evC_1, ↓z_evC_2, ↓z_evIt_1, ↓z_evIt_3, ↓z_evIt_4, ↓z_evIt_5, ↓z_evIt_6, ↓z_evS_1, ↓z_evS_2, ↓z_evS_3, ↓z_evS_4, ↓z_evS_5, ↓z_evS_6, ↓z_evS_7, ↓z_evS_8, ↓z_evS_9, ↓z_evS_10, ↓z_evS_11, ↓z_evS_12, ↓z_evS_13, ↓z_evSs_1, ↓z_evSs_2, ↓evIt_rng, leave, start, slotRv, Rv.tree, Rv.isI, Rv.isB, Rv.isS, T.isI, T.isB, T.isS, Rv.w, Rv.lst, Rv.seq, lstAt, seqAt, Rv.data, binop, cmpop, eqRv, inRv, ltRv, isRv, truth, isTy, isiRv, lenRv, LL.bi, biLen, biAll, biAny, biInt, biStr, biTuple, biList, biSorted, meFind, meCount, meJoin, meS, meL, meAppend, meInsert, mePop0, putL, getL, meRv, meTy, ixRv, slRv, revRv, src1, src2, src3, src4, src5, bindTg, bindTs, wipe, treesOf, tupOf, lstOf, app, Sto.trunc, glo0, glo1, glo2, SZ, -List.map_map, ixOf, T.eqOk, T.data, T.datas, T.calm, T.calms, T.depth, T.depths, T.beq, T.beqs, tk_set]
  · have := hfit z (by rw [List.nil_append, strOf_map]; exact hz)
    exact ⟨this.len, this.abc, this.fit⟩
theorem law_ascending_t {k n : Nat} {S : Sto} {rows : List T} {P : T → Prop} (F : Fam P) (hp : ∀ y ∈ rows, P y) (hl : rows.length ≤ 1000000) (hn : S.L[n]? = some rows) : run prog (k + 1) 20 [.l n] S = .ok (.new (ascF rows)) S := by
  have hnl : n < S.L.length := by
    rcases Nat.lt_or_ge n S.L.length with h | h
    · exact h
    · rw [List.getElem?_eq_none h] at hn; simp at hn
  obtain ⟨σ', s', e, hs, u, v, w, hσ⟩ := for_inv (ws := [(n, rows)]) (step := fun x σ => (do
      let σ' ← bindTg (.n 2) x σ
      evSs ⟨run prog k, prog.glo⟩ (.cons (.ite (.val (.cmp .notin (.var 2) (.var 1))) (.cons (.asg (.n 3) (.bi .len (.cons (.lc [4] (.var 4) (.n 4) (.e (.var 1)) (.yes (.val (.cmp .lt (.var 4) (.var 2))))) .nil))) (.cons (.ex (.me .insert (.var 1) (.cons (.var 3) (.cons (.var 2) .nil)))) .nil)) .nil) .nil) σ' : M (Fl × Env)))
      (fun d σ s => s = ⟨S.L ++ [d.foldl stp []], S.O⟩ ∧ ∃ u v w, σ = [some (.l n), some (.l S.L.length), u, v, w]) rows []
      (fun d σ s h => by
        rw [h.1]
        simp only [watchOk, List.getElem?_append_left hnl, hn]
        simp [beqs_iff])
      (by
        intro d x r σ s he ⟨hs, u, v, o, hσ⟩
        subst hs hσ
        have hd : ∀ y ∈ d, P y := fun y hy => hp y (by simp at he; rw [he]; simp [hy])
        have hx : P x := hp x (by simp at he; rw [he]; simp)
        have FS := foldl_stp F.alike d [] hd (by simp) List.Pairwise.nil
        have ha : ∀ y ∈ d.foldl stp [], P y := fun y hy => hd y (by simpa using (FS.2 y).1 hy)
        have hl2 : (d.foldl stp []).length < 1000000 := by
          have := foldl_len d []
          have h2 := congrArg List.length he
          simp at this h2
          omega
        rw [List.foldl_append]
        generalize hw : d.foldl stp [] = w at *
        have hok : inSeqOk x w = true := by
          have : ∀ w : List T, (∀ y ∈ w, P y) → inSeqOk x w = true := by
            intro w
            induction w with
            | nil => intro _; rfl
            | cons y r ih =>
              intro h
              simp only [inSeqOk, F.eqOk (h y (by simp)) hx, Bool.true_and]
              exact ih fun z hz => h z (List.mem_cons_of_mem _ hz)
          exact this w ha
        have hib : (if inSeq x w = true then w else insAt w x) = stp w x := rfl
        have hcb : cnt w x < 4611686018427387904 := by have := cnt_le w x; omega
        have hlw : w.length < 16777216 := by omega
        rw [List.foldl_cons, List.foldl_nil, ← hib]
        have hwl : S.L ++ [w] = S.L ++ [w] := rfl
        cases hbq : inSeq x w with
        | true => exact ⟨[some (.l n), some (.l S.L.length), some (.t x), v, o], ⟨S.L ++ [w], S.O⟩, by simp [↓mb, ↓pu, ↓gd, ↓opt_some, ↓bad_app, ↓rv_val, ↓nox_app, ↓ite_a, ↓z_evE_1, ↓z_evE_2, ↓z_evE_3, ↓z_evE_4, ↓z_evE_5, ↓z_evE_6, ↓z_evE_7, ↓z_evE_8, ↓z_evE_9, ↓z_evE_10, ↓z_evE_11, ↓z_evE_12, ↓z_evE_13, ↓z_evE_14, ↓z_evE_15, ↓z_evE_16, ↓z_evE_17, ↓z_evE_18, ↓z_evE_19, ↓z_evE_20, ↓z_evE_21, ↓z_evE_22, ↓z_evE_23, ↓z_evE_24, ↓z_evRs_1, ↓z_evRs_2, ↓z_evO_1, ↓z_evO_2, ↓z_evT_1, ↓z_evT_2, ↓z_evT_3, ↓z_evT_4, ↓z_evC_1, ↓z_evC_2, ↓z_evIt_1, ↓z_evIt_3, ↓z_evIt_4, ↓z_evIt_5, ↓z_evIt_6, ↓z_evS_1, ↓z_evS_2, ↓z_evS_3, ↓z_evS_4, ↓z_evS_5, ↓z_evS_6, ↓z_evS_7, ↓z_evS_8, ↓z_evS_9, ↓z_evS_10, ↓z_evS_11, ↓z_evS_12, ↓z_evS_13, ↓z_evSs_1, ↓z_evSs_2, ↓evIt_rng, leave, start, slotRv, Rv.tree, Rv.isI, Rv.isB, Rv.isS, T.isI, T.isB, T.isS, Rv.w, Rv.lst, Rv.seq, lstAt, seqAt, Rv.data, binop, cmpop, eqRv, inRv, ltRv, isRv, truth, isTy, isiRv, lenRv, LL.bi, biLen, biAll, biAny, biInt, biStr, biTuple, biList, biSorted, meFind, meCount, meJoin, meS, meL, meAppend, meInsert, mePop0, putL, getL, meRv, meTy, ixRv, slRv, revRv, src1, src2, src3, src4, src5, bindTg, bindTs, wipe, treesOf, tupOf, lstOf, app, Sto.trunc, glo0, glo1, glo2, SZ, -List.map_map, ixOf, T.eqOk, T.data, T.datas, T.calm, T.calms, T.depth, T.depths, T.beq, T.beqs, hok, hbq], by simp⟩
        | false =>
          refine ⟨[some (.l n), some (.l S.L.length), some (.t x), some (.t (.int (cnt w x))), o], ⟨S.L ++ [insAt w x], S.O⟩, ?_, by simp⟩
          simp [↓mb, ↓pu, ↓gd, ↓opt_some, ↓bad_app, ↓rv_val, ↓nox_app, ↓ite_a, ↓z_evE_1, ↓z_evE_2, ↓z_evE_3, ↓z_evE_4, ↓z_evE_5, ↓z_evE_6, ↓z_evE_7, ↓z_evE_8, ↓z_evE_9, ↓z_evE_10, ↓z_evE_11, ↓z_evE_12, ↓z_evE_13, ↓z_evE_14, ↓z_evE_15, ↓z_evE_16, ↓z_evE_17, ↓z_evE_18, ↓z_evE_19, ↓z_evE_20, ↓z_evE_21, ↓z_evE_22, ↓z_evE_23, ↓z_evE_24, ↓z_evRs_1, ↓z_evRs_2, ↓z_evO_1, ↓z_evO_2, ↓z_evT_1, ↓z_evT_2, ↓z_evT_3, ↓z_evT_4, ↓z_evC_1, ↓z_evC_2, ↓z_evIt_1, ↓z_evIt_3, ↓z_evIt_4, ↓z_evIt_5, ↓z_evIt_6, ↓z_evS_1, ↓z_evS_2, ↓z_evS_3, ↓z_evS_4, ↓z_evS_5, ↓z_evS_6, ↓z_evS_7, ↓z_evS_8, ↓z_evS_9, ↓z_evS_10, ↓z_evS_11, ↓z_evS_12, ↓z_evS_13, ↓z_evSs_1, ↓z_evSs_2, ↓evIt_rng, leave, start, slotRv, Rv.tree, Rv.isI, Rv.isB, Rv.isS, T.isI, T.isB, T.isS, Rv.w, Rv.lst, Rv.seq, lstAt, seqAt, Rv.data, binop, cmpop, eqRv, inRv, ltRv, isRv, truth, isTy, isiRv, lenRv, LL.bi, biLen, biAll, biAny, biInt, biStr, biTuple, biList, biSorted, meFind, meCount, meJoin, meS, meL, meAppend, meInsert, mePop0, putL, getL, meRv, meTy, ixRv, slRv, revRv, src1, src2, src3, src4, src5, bindTg, bindTs, wipe, treesOf, tupOf, lstOf, app, Sto.trunc, glo0, glo1, glo2, SZ, -List.map_map, ixOf, T.eqOk, T.data, T.datas, T.calm, T.calms, T.depth, T.depths, T.beq, T.beqs, hok, hbq]
          rw [lc_filt (fun y => T.lt y x) (fun y => y) ⟨S.L ++ [w], S.O⟩ (by simp [watchOk, beqs_iff]) _ (by omega)]
          · have hcn : ((w.filter fun y => T.lt y x).map fun y => y).length = cnt w x := by rw [List.length_map]; rfl
            have hcf : (w.filter fun y => T.lt y x).length = cnt w x := rfl
            simp [↓mb, ↓pu, ↓gd, ↓opt_some, ↓bad_app, ↓rv_val, ↓nox_app, ↓ite_a, ↓z_evE_1, ↓z_evE_2, ↓z_evE_3, ↓z_evE_4, ↓z_evE_5, ↓z_evE_6, ↓z_evE_7, ↓z_evE_8, ↓z_evE_9, ↓z_evE_10, ↓z_evE_11, ↓z_evE_12, ↓z_evE_13, ↓z_evE_14, ↓z_evE_15, ↓z_evE_16, ↓z_evE_17, ↓z_evE_18, ↓z_evE_19, ↓z_evE_20, ↓z_evE_21, ↓z_evE_22, ↓z_evE_23, ↓z_evE_24, ↓z_evRs_1, ↓z_evRs_2, ↓z_evO_1, ↓z_evO_2, ↓z_evT_1, ↓z_evT_2, ↓z_evT_3, ↓z_evT_4, ↓z_evC_1, ↓z_evC_2, ↓z_evIt_1, ↓z_evIt_3, ↓z_evIt_4, ↓z_evIt_5, ↓z_evIt_6, ↓z_evS_1, ↓z_evS_2, ↓z_evS_3, ↓z_evS_4, ↓z_evS_5, ↓z_evS_6, ↓z_evS_7, ↓z_evS_8, ↓z_evS_9, ↓z_evS_10, ↓z_evS_11, ↓z_evS_12, ↓z_evS_13, ↓z_evSs_1, ↓z_evSs_2, ↓evIt_rng, leave, start, slotRv, Rv.tree, Rv.isI, Rv.isB, Rv.isS, T.isI, T.isB, T.isS, Rv.w, Rv.lst, Rv.seq, lstAt, seqAt, Rv.data, binop, cmpop, eqRv, inRv, ltRv, isRv, truth, isTy, isiRv, lenRv, LL.bi, biLen, biAll, biAny, biInt, biStr, biTuple, biList, biSorted, meFind, meCount, meJoin, meS, meL, meAppend, meInsert, mePop0, putL, getL, meRv, meTy, ixRv, slRv, revRv, src1, src2, src3, src4, src5, bindTg, bindTs, wipe, treesOf, tupOf, lstOf, app, Sto.trunc, glo0, glo1, glo2, SZ, -List.map_map, ixOf, T.eqOk, T.data, T.datas, T.calm, T.calms, T.depth, T.depths, T.beq, T.beqs, hcf, hlw, hcb, insAt]
          · intro y hy acc hacc
            have h1 := F.ltOk (ha y hy) hx
            cases hyx : T.lt y x <;> simp [↓mb, ↓pu, ↓gd, ↓opt_some, ↓bad_app, ↓rv_val, ↓nox_app, ↓ite_a, ↓z_evE_1, ↓z_evE_2, ↓z_evE_3, ↓z_evE_4, ↓z_evE_5, ↓z_evE_6, ↓z_evE_7, ↓z_evE_8, ↓z_evE_9, ↓z_evE_10, ↓z_evE_11, ↓z_evE_12, ↓z_evE_13, ↓z_evE_14, ↓z_evE_15, ↓z_evE_16, ↓z_evE_17, ↓z_evE_18, ↓z_evE_19, ↓z_evE_20, ↓z_evE_21, ↓z_evE_22, ↓z_evE_23, ↓z_evE_24, ↓z_evRs_1, ↓z_evRs_2, ↓z_evO_1, ↓z_evO_2, ↓z_evT_1, ↓z_evT_2, ↓z_evT_3, ↓z_evT_4, ↓z_evC_1, ↓z_evC_2, ↓z_evIt_1, ↓z_evIt_3, ↓z_evIt_4, ↓z_evIt_5, ↓z_evIt_6, ↓z_evS_1, ↓z_evS_2, ↓z_evS_3, ↓z_evS_4, ↓z_evS_5, ↓z_evS_6, ↓z_evS_7, ↓z_evS_8, ↓z_evS_9, ↓z_evS_10, ↓z_evS_11, ↓z_evS_12, ↓z_evS_13, ↓z_evSs_1, ↓z_evSs_2, ↓evIt_rng, leave, start, slotRv, Rv.tree, Rv.isI, Rv.isB, Rv.isS, T.isI, T.isB, T.isS, Rv.w, Rv.lst, Rv.seq, lstAt, seqAt, Rv.data, binop, cmpop, eqRv, inRv, ltRv, isRv, truth, isTy, isiRv, lenRv, LL.bi, biLen, biAll, biAny, biInt, biStr, biTuple, biList, biSorted, meFind, meCount, meJoin, meS, meL, meAppend, meInsert, mePop0, putL, getL, meRv, meTy, ixRv, slRv, revRv, src1, src2, src3, src4, src5, bindTg, bindTs, wipe, treesOf, tupOf, lstOf, app, Sto.trunc, glo0, glo1, glo2, SZ, -List.map_map, ixOf, T.eqOk, T.data, T.datas, T.calm, T.calms, T.depth, T.depths, T.beq, T.beqs, h1, hyx, hacc])
      [some (.l n), some (.l S.L.length), none, none, none] ⟨S.L ++ [[]], S.O⟩ ⟨rfl, _, _, _, rfl⟩
  subst hs hσ
  rw [run_fn (rfl : prog.fn 20 = some F__law_ascending)]
  simp [F__law_ascending, ↓mb, ↓pu, ↓gd, ↓opt_some, ↓bad_app, ↓rv_val, ↓nox_app, ↓ite_a, ↓z_evE_1, ↓z_evE_2, ↓z_evE_3, ↓z_evE_4, ↓z_evE_5, ↓z_evE_6, ↓z_evE_7, ↓z_evE_8, ↓z_evE_9, ↓z_evE_10, ↓z_evE_11, ↓z_evE_12, ↓z_evE_13, ↓z_evE_14, ↓z_evE_15, ↓z_evE_16, ↓z_evE_17, ↓z_evE_18, ↓z_evE_19, ↓z_evE_20, ↓z_evE_21, ↓z_evE_22, ↓z_evE_23, ↓z_evE_24, ↓z_evRs_1, ↓z_evRs_2, ↓z_evO_1, ↓z_evO_2, ↓z_evT_1, ↓z_evT_2, ↓z_evT_3, ↓z_evT_4, ↓z_evC_1, ↓z_evC_2, ↓z_evIt_1, ↓z_evIt_3, ↓z_evIt_4, ↓z_evIt_5, ↓z_evIt_6, ↓z_evS_1, ↓z_evS_2, ↓z_evS_3, ↓z_evS_4, ↓z_evS_5, ↓z_evS_6, ↓z_evS_7, ↓z_evS_8, ↓z_evS_9, ↓z_evS_10, ↓z_evS_11, ↓z_evS_12, ↓z_evS_13, ↓z_evSs_1, ↓z_evSs_2, ↓evIt_rng, leave, start, slotRv, Rv.tree, Rv.isI, Rv.isB, Rv.isS, T.isI, T.isB, T.isS, Rv.w, Rv.lst, Rv.seq, lstAt, seqAt, Rv.data, binop, cmpop, eqRv, inRv, ltRv, isRv, truth, isTy, isiRv, lenRv, LL.bi, biLen, biAll, biAny, biInt, biStr, biTuple, biList, biSorted, meFind, meCount, meJoin, meS, meL, meAppend, meInsert, mePop0, putL, getL, meRv, meTy, ixRv, slRv, revRv, src1, src2, src3, src4, src5, bindTg, bindTs, wipe, treesOf, tupOf, lstOf, app, Sto.trunc, glo0, glo1, glo2, SZ, -List.map_map, ixOf, T.eqOk, T.data, T.datas, T.calm, T.calms, T.depth, T.depths, T.beq, T.beqs, List.getElem?_append_left hnl, hn]
  simp [↓mb, ↓pu, ↓gd, ↓opt_some, ↓bad_app, ↓rv_val, ↓nox_app, ↓ite_a, ↓z_evE_1, ↓z_evE_2, ↓z_evE_3, ↓z_evE_4, ↓z_evE_5, ↓z_evE_6, ↓z_evE_7, ↓z_evE_8, ↓z_evE_9, ↓z_evE_10, ↓z_evE_11, ↓z_evE_12, ↓z_evE_13, ↓z_evE_14, ↓z_evE_15, ↓z_evE_16, ↓z_evE_17, ↓z_evE_18, ↓z_evE_19, ↓z_evE_20, ↓z_evE_21, ↓z_evE_22, ↓z_evE_23, ↓z_evE_24, ↓z_evRs_1, ↓z_evRs_2, ↓z_evO_1, ↓z_evO_2, ↓z_evT_1, ↓z_evT_2, ↓z_evT_3, ↓z_evT_4, ↓z_evC_1, ↓z_evC_2, ↓z_evIt_1, ↓z_evIt_3, ↓z_evIt_4, ↓z_evIt_5, ↓z_evIt_6, ↓z_evS_1, ↓z_evS_2, ↓z_evS_3, ↓z_evS_4, ↓z_evS_5, ↓z_evS_6, ↓z_evS_7, ↓z_evS_8, ↓z_evS_9, ↓z_evS_10, ↓z_evS_11, ↓z_evS_12, ↓z_evS_13, ↓z_evSs_1, ↓z_evSs_2, ↓evIt_rng, leave, start, slotRv, Rv.tree, Rv.isI, Rv.isB, Rv.isS, T.isI, T.isB, T.isS, Rv.w, Rv.lst, Rv.seq, lstAt, seqAt, Rv.data, binop, cmpop, eqRv, inRv, ltRv, isRv, truth, isTy, isiRv, lenRv, LL.bi, biLen, biAll, biAny, biInt, biStr, biTuple, biList, biSorted, meFind, meCount, meJoin, meS, meL, meAppend, meInsert, mePop0, putL, getL, meRv, meTy, ixRv, slRv, revRv, src1, src2, src3, src4, src5, bindTg, bindTs, wipe, treesOf, tupOf, lstOf, app, Sto.trunc, glo0, glo1, glo2, SZ, -List.map_map, ixOf, T.eqOk, T.data, T.datas, T.calm, T.calms, T.depth, T.depths, T.beq, T.beqs] at e
  rw [e]
  simp [↓mb, ↓pu, ↓gd, ↓opt_some, ↓bad_app, ↓rv_val, ↓nox_app, ↓ite_a, ↓z_evE_1, ↓z_evE_2, ↓z_evE_3, ↓z_evE_4, ↓z_evE_5, ↓z_evE_6, ↓z_evE_7, ↓z_evE_8, ↓z_evE_9, ↓z_evE_10, ↓z_evE_11, ↓z_evE_12, ↓z_evE_13, ↓z_evE_14, ↓z_evE_15, ↓z_evE_16, ↓z_evE_17, ↓z_evE_18, ↓z_evE_19, ↓z_evE_20, ↓z_evE_21, ↓z_evE_22, ↓z_evE_23, ↓z_evE_24, ↓z_evRs_1, ↓z_evRs_2, ↓z_evO_1, ↓z_evO_2, ↓z_evT_1, ↓z_evT_2, ↓z_evT_3, ↓z_evT_4, ↓z_evC_1, ↓z_evC_2, ↓z_evIt_1, ↓z_evIt_3, ↓z_evIt_4, ↓z_evIt_5, ↓z_evIt_6, ↓z_evS_1, ↓z_evS_2, ↓z_evS_3, ↓z_evS_4, ↓z_evS_5, ↓z_evS_6, ↓z_evS_7, ↓z_evS_8, ↓z_evS_9, ↓z_evS_10, ↓z_evS_11, ↓z_evS_12, ↓z_evS_13, ↓z_evSs_1, ↓z_evSs_2, ↓evIt_rng, leave, start, slotRv, Rv.tree, Rv.isI, Rv.isB, Rv.isS, T.isI, T.isB, T.isS, Rv.w, Rv.lst, Rv.seq, lstAt, seqAt, Rv.data, binop, cmpop, eqRv, inRv, ltRv, isRv, truth, isTy, isiRv, lenRv, LL.bi, biLen, biAll, biAny, biInt, biStr, biTuple, biList, biSorted, meFind, meCount, meJoin, meS, meL, meAppend, meInsert, mePop0, putL, getL, meRv, meTy, ixRv, slRv, revRv, src1, src2, src3, src4, src5, bindTg, bindTs, wipe, treesOf, tupOf, lstOf, app, Sto.trunc, glo0, glo1, glo2, SZ, -List.map_map, ixOf, T.eqOk, T.data, T.datas, T.calm, T.calms, T.depth, T.depths, T.beq, T.beqs, ascF]
theorem law_ascending_x {k : Nat} {S : Sto} {rows : List T} {wr : T} {P : T → Prop} (hw0 : srcOf (.v wr) = M.pure ⟨rows, []⟩) (F : Fam P) (hp : ∀ y ∈ rows, P y) (hl : rows.length ≤ 1000000) : run prog (k + 1) 20 [.t wr] S = .ok (.new (ascF rows)) S := by
  obtain ⟨σ', s', e, hs, u, v, w, hσ⟩ := for_inv (ws := []) (step := fun x σ => (do
      let σ' ← bindTg (.n 2) x σ
      evSs ⟨run prog k, prog.glo⟩ (.cons (.ite (.val (.cmp .notin (.var 2) (.var 1))) (.cons (.asg (.n 3) (.bi .len (.cons (.lc [4] (.var 4) (.n 4) (.e (.var 1)) (.yes (.val (.cmp .lt (.var 4) (.var 2))))) .nil))) (.cons (.ex (.me .insert (.var 1) (.cons (.var 3) (.cons (.var 2) .nil)))) .nil)) .nil) .nil) σ' : M (Fl × Env)))
      (fun d σ s => s = ⟨S.L ++ [d.foldl stp []], S.O⟩ ∧ ∃ u v w, σ = [some (.t wr), some (.l S.L.length), u, v, w]) rows []
      (fun d σ s h => by simp [watchOk])
      (by
        intro d x r σ s he ⟨hs, u, v, o, hσ⟩
        subst hs hσ
        have hd : ∀ y ∈ d, P y := fun y hy => hp y (by simp at he; rw [he]; simp [hy])
        have hx : P x := hp x (by simp at he; rw [he]; simp)
        have FS := foldl_stp F.alike d [] hd (by simp) List.Pairwise.nil
        have ha : ∀ y ∈ d.foldl stp [], P y := fun y hy => hd y (by simpa using (FS.2 y).1 hy)
        have hl2 : (d.foldl stp []).length < 1000000 := by
          have := foldl_len d []
          have h2 := congrArg List.length he
          simp at this h2
          omega
        rw [List.foldl_append]
        generalize hw : d.foldl stp [] = w at *
        have hok : inSeqOk x w = true := by
          have : ∀ w : List T, (∀ y ∈ w, P y) → inSeqOk x w = true := by
            intro w
            induction w with
            | nil => intro _; rfl
            | cons y r ih =>
              intro h
              simp only [inSeqOk, F.eqOk (h y (by simp)) hx, Bool.true_and]
              exact ih fun z hz => h z (List.mem_cons_of_mem _ hz)
          exact this w ha
        have hib : (if inSeq x w = true then w else insAt w x) = stp w x := rfl
        have hcb : cnt w x < 4611686018427387904 := by have := cnt_le w x; omega
        have hlw : w.length < 16777216 := by omega
        rw [List.foldl_cons, List.foldl_nil, ← hib]
        have hwl : S.L ++ [w] = S.L ++ [w] := rfl
        cases hbq : inSeq x w with
        | true => exact ⟨[some (.t wr), some (.l S.L.length), some (.t x), v, o], ⟨S.L ++ [w], S.O⟩, by simp [↓mb, ↓pu, ↓gd, ↓opt_some, ↓bad_app, ↓rv_val, ↓nox_app, ↓ite_a, ↓z_evE_1, ↓z_evE_2, ↓z_evE_3, ↓z_evE_4, ↓z_evE_5, ↓z_evE_6, ↓z_evE_7, ↓z_evE_8, ↓z_evE_9, ↓z_evE_10, ↓z_evE_11, ↓z_evE_12, ↓z_evE_13, ↓z_evE_14, ↓z_evE_15, ↓z_evE_16, ↓z_evE_17, ↓z_evE_18, ↓z_evE_19, ↓z_evE_20, ↓z_evE_21, ↓z_evE_22, ↓z_evE_23, ↓z_evE_24, ↓z_evRs_1, ↓z_evRs_2, ↓z_evO_1, ↓z_evO_2, ↓z_evT_1, ↓z_evT_2, ↓z_evT_3, ↓z_evT_4, ↓z_evC_1, ↓z_evC_2, ↓z_evIt_1, ↓z_evIt_3, ↓z_evIt_4, ↓z_evIt_5, ↓z_evIt_6, ↓z_evS_1, ↓z_evS_2, ↓z_evS_3, ↓z_evS_4, ↓z_evS_5, ↓z_evS_6, ↓z_evS_7, ↓z_evS_8, ↓z_evS_9, ↓z_evS_10, ↓z_evS_11, ↓z_evS_12, ↓z_evS_13, ↓z_evSs_1, ↓z_evSs_2, ↓evIt_rng, leave, start, slotRv, Rv.tree, Rv.isI, Rv.isB, Rv.isS, T.isI, T.isB, T.isS, Rv.w, Rv.lst, Rv.seq, lstAt, seqAt, Rv.data, binop, cmpop, eqRv, inRv, ltRv, isRv, truth, isTy, isiRv, lenRv, LL.bi, biLen, biAll, biAny, biInt, biStr, biTuple, biList, biSorted, meFind, meCount, meJoin, meS, meL, meAppend, meInsert, mePop0, putL, getL, meRv, meTy, ixRv, slRv, revRv, src1, src2, src3, src4, src5, bindTg, bindTs, wipe, treesOf, tupOf, lstOf, app, Sto.trunc, glo0, glo1, glo2, SZ, -List.map_map, ixOf, T.eqOk, T.data, T.datas, T.calm, T.calms, T.depth, T.depths, T.beq, T.beqs, hok, hbq], by simp⟩
        | false =>
          refine ⟨[some (.t wr), some (.l S.L.length), some (.t x), some (.t (.int (cnt w x))), o], ⟨S.L ++ [insAt w x], S.O⟩, ?_, by simp⟩
          simp [↓mb, ↓pu, ↓gd, ↓opt_some, ↓bad_app, ↓rv_val, ↓nox_app, ↓ite_a, ↓z_evE_1, ↓z_evE_2, ↓z_evE_3, ↓z_evE_4, ↓z_evE_5, ↓z_evE_6, ↓z_evE_7, ↓z_evE_8, ↓z_evE_9, ↓z_evE_10, ↓z_evE_11, ↓z_evE_12, ↓z_evE_13, ↓z_evE_14, ↓z_evE_15, ↓z_evE_16, ↓z_evE_17, ↓z_evE_18, ↓z_evE_19, ↓z_evE_20, ↓z_evE_21, ↓z_evE_22, ↓z_evE_23, ↓z_evE_24, ↓z_evRs_1, ↓z_evRs_2, ↓z_evO_1, ↓z_evO_2, ↓z_evT_1, ↓z_evT_2, ↓z_evT_3, ↓z_evT_4, ↓z_evC_1, ↓z_evC_2, ↓z_evIt_1, ↓z_evIt_3, ↓z_evIt_4, ↓z_evIt_5, ↓z_evIt_6, ↓z_evS_1, ↓z_evS_2, ↓z_evS_3, ↓z_evS_4, ↓z_evS_5, ↓z_evS_6, ↓z_evS_7, ↓z_evS_8, ↓z_evS_9, ↓z_evS_10, ↓z_evS_11, ↓z_evS_12, ↓z_evS_13, ↓z_evSs_1, ↓z_evSs_2, ↓evIt_rng, leave, start, slotRv, Rv.tree, Rv.isI, Rv.isB, Rv.isS, T.isI, T.isB, T.isS, Rv.w, Rv.lst, Rv.seq, lstAt, seqAt, Rv.data, binop, cmpop, eqRv, inRv, ltRv, isRv, truth, isTy, isiRv, lenRv, LL.bi, biLen, biAll, biAny, biInt, biStr, biTuple, biList, biSorted, meFind, meCount, meJoin, meS, meL, meAppend, meInsert, mePop0, putL, getL, meRv, meTy, ixRv, slRv, revRv, src1, src2, src3, src4, src5, bindTg, bindTs, wipe, treesOf, tupOf, lstOf, app, Sto.trunc, glo0, glo1, glo2, SZ, -List.map_map, ixOf, T.eqOk, T.data, T.datas, T.calm, T.calms, T.depth, T.depths, T.beq, T.beqs, hok, hbq]
          rw [lc_filt (fun y => T.lt y x) (fun y => y) ⟨S.L ++ [w], S.O⟩ (by simp [watchOk, beqs_iff]) _ (by omega)]
          · have hcn : ((w.filter fun y => T.lt y x).map fun y => y).length = cnt w x := by rw [List.length_map]; rfl
            have hcf : (w.filter fun y => T.lt y x).length = cnt w x := rfl
            simp [↓mb, ↓pu, ↓gd, ↓opt_some, ↓bad_app, ↓rv_val, ↓nox_app, ↓ite_a, ↓z_evE_1, ↓z_evE_2, ↓z_evE_3, ↓z_evE_4, ↓z_evE_5, ↓z_evE_6, ↓z_evE_7, ↓z_evE_8, ↓z_evE_9, ↓z_evE_10, ↓z_evE_11, ↓z_evE_12, ↓z_evE_13, ↓z_evE_14, ↓z_evE_15, ↓z_evE_16, ↓z_evE_17, ↓z_evE_18, ↓z_evE_19, ↓z_evE_20, ↓z_evE_21, ↓z_evE_22, ↓z_evE_23, ↓z_evE_24, ↓z_evRs_1, ↓z_evRs_2, ↓z_evO_1, ↓z_evO_2, ↓z_evT_1, ↓z_evT_2, ↓z_evT_3, ↓z_evT_4, ↓z_evC_1, ↓z_evC_2, ↓z_evIt_1, ↓z_evIt_3, ↓z_evIt_4, ↓z_evIt_5, ↓z_evIt_6, ↓z_evS_1, ↓z_evS_2, ↓z_evS_3, ↓z_evS_4, ↓z_evS_5, ↓z_evS_6, ↓z_evS_7, ↓z_evS_8, ↓z_evS_9, ↓z_evS_10, ↓z_evS_11, ↓z_evS_12, ↓z_evS_13, ↓z_evSs_1, ↓z_evSs_2, ↓evIt_rng, leave, start, slotRv, Rv.tree, Rv.isI, Rv.isB, Rv.isS, T.isI, T.isB, T.isS, Rv.w, Rv.lst, Rv.seq, lstAt, seqAt, Rv.data, binop, cmpop, eqRv, inRv, ltRv, isRv, truth, isTy, isiRv, lenRv, LL.bi, biLen, biAll, biAny, biInt, biStr, biTuple, biList, biSorted, meFind, meCount, meJoin, meS, meL, meAppend, meInsert, mePop0, putL, getL, meRv, meTy, ixRv, slRv, revRv, src1, src2, src3, src4, src5, bindTg, bindTs, wipe, treesOf, tupOf, lstOf, app, Sto.trunc, glo0, glo1, glo2, SZ, -List.map_map, ixOf, T.eqOk, T.data, T.datas, T.calm, T.calms, T.depth, T.depths, T.beq, T.beqs, hcf, hlw, hcb, insAt]
          · intro y hy acc hacc
            have h1 := F.ltOk (ha y hy) hx
            cases hyx : T.lt y x <;> simp [↓mb, ↓pu, ↓gd, ↓opt_some, ↓bad_app, ↓rv_val, ↓nox_app, ↓ite_a, ↓z_evE_1, ↓z_evE_2, ↓z_evE_3, ↓z_evE_4, ↓z_evE_5, ↓z_evE_6, ↓z_evE_7, ↓z_evE_8, ↓z_evE_9, ↓z_evE_10, ↓z_evE_11, ↓z_evE_12, ↓z_evE_13, ↓z_evE_14, ↓z_evE_15, ↓z_evE_16, ↓z_evE_17, ↓z_evE_18, ↓z_evE_19, ↓z_evE_20, ↓z_evE_21, ↓z_evE_22, ↓z_evE_23, ↓z_evE_24, ↓z_evRs_1, ↓z_evRs_2, ↓z_evO_1, ↓z_evO_2, ↓z_evT_1, ↓z_evT_2, ↓z_evT_3, ↓z_evT_4, ↓z_evC_1, ↓z_evC_2, ↓z_evIt_1, ↓z_evIt_3, ↓z_evIt_4, ↓z_evIt_5, ↓z_evIt_6, ↓z_evS_1, ↓z_evS_2, ↓z_evS_3, ↓z_evS_4, ↓z_evS_5, ↓z_evS_6, ↓z_evS_7, ↓z_evS_8, ↓z_evS_9, ↓z_evS_10, ↓z_evS_11, ↓z_evS_12, ↓z_evS_13, ↓z_evSs_1, ↓z_evSs_2, ↓evIt_rng, leave, start, slotRv, Rv.tree, Rv.isI, Rv.isB, Rv.isS, T.isI, T.isB, T.isS, Rv.w, Rv.lst, Rv.seq, lstAt, seqAt, Rv.data, binop, cmpop, eqRv, inRv, ltRv, isRv, truth, isTy, isiRv, lenRv, LL.bi, biLen, biAll, biAny, biInt, biStr, biTuple, biList, biSorted, meFind, meCount, meJoin, meS, meL, meAppend, meInsert, mePop0, putL, getL, meRv, meTy, ixRv, slRv, revRv, src1, src2, src3, src4, src5, bindTg, bindTs, wipe, treesOf, tupOf, lstOf, app, Sto.trunc, glo0, glo1, glo2, SZ, -List.map_map, ixOf, T.eqOk, T.data, T.datas, T.calm, T.calms, T.depth, T.depths, T.beq, T.beqs, h1, hyx, hacc])
      [some (.t wr), some (.l S.L.length), none, none, none] ⟨S.L ++ [[]], S.O⟩ ⟨rfl, _, _, _, rfl⟩
  subst hs hσ
  rw [run_fn (rfl : prog.fn 20 = some F__law_ascending)]
  simp [F__law_ascending, ↓mb, ↓pu, ↓gd, ↓opt_some, ↓bad_app, ↓rv_val, ↓nox_app, ↓ite_a, ↓z_evE_1, ↓z_evE_2, ↓z_evE_3, ↓z_evE_4, ↓z_evE_5, ↓z_evE_6, ↓z_evE_7, ↓z_evE_8, ↓z_evE_9, ↓z_evE_10, ↓z_evE_11, ↓z_evE_12, ↓z_evE_13, ↓z_evE_14, ↓z_evE_15, ↓z_evE_16, ↓z_evE_17, ↓z_evE_18, ↓z_evE_19, ↓z_evE_20, ↓z_evE_21, ↓z_evE_22, ↓z_evE_23, ↓z_evE_24, ↓z_evRs_1, ↓z_evRs_2, ↓z_evO_1, ↓z_evO_2, ↓z_evT_1, ↓z_evT_2, ↓z_evT_3, ↓z_evT_4, ↓z_evC_1, ↓z_evC_2, ↓z_evIt_1, ↓z_evIt_3, ↓z_evIt_4, ↓z_evIt_5, ↓z_evIt_6, ↓z_evS_1, ↓z_evS_2, ↓z_evS_3, ↓z_evS_4, ↓z_evS_5, ↓z_evS_6, ↓z_evS_7, ↓z_evS_8, ↓z_evS_9, ↓z_evS_10, ↓z_evS_11, ↓z_evS_12, ↓z_evS_13, ↓z_evSs_1, ↓z_evSs_2, ↓evIt_rng, leave, start, slotRv, Rv.tree, Rv.isI, Rv.isB, Rv.isS, T.isI, T.isB, T.isS, Rv.w, Rv.lst, Rv.seq, lstAt, seqAt, Rv.data, binop, cmpop, eqRv, inRv, ltRv, isRv, truth, isTy, isiRv, lenRv, LL.bi, biLen, biAll, biAny, biInt, biStr, biTuple, biList, biSorted, meFind, meCount, meJoin, meS, meL, meAppend, meInsert, mePop0, putL, getL, meRv, meTy, ixRv, slRv, revRv, src1, src2, src3, src4, src5, bindTg, bindTs, wipe, treesOf, tupOf, lstOf, app, Sto.trunc, glo0, glo1, glo2, SZ, -List.map_map, ixOf, T.eqOk, T.data, T.datas, T.calm, T.calms, T.depth, T.depths, T.beq, T.beqs, hw0]
  simp [↓mb, ↓pu, ↓gd, ↓opt_some, ↓bad_app, ↓rv_val, ↓nox_app, ↓ite_a, ↓z_evE_1, ↓z_evE_2, ↓z_evE_3, ↓z_evE_4, ↓z_evE_5, ↓z_evE_6, ↓z_evE_7, ↓z_evE_8, ↓z_evE_9, ↓z_evE_10, ↓z_evE_11, ↓z_evE_12, ↓z_evE_13, ↓z_evE_14, ↓z_evE_15, ↓z_evE_16, ↓z_evE_17, ↓z_evE_18, ↓z_evE_19, ↓z_evE_20, ↓z_evE_21, ↓z_evE_22, ↓z_evE_23, ↓z_evE_24, ↓z_evRs_1, ↓z_evRs_2, ↓z_evO_1, ↓z_evO_2, ↓z_evT_1, ↓z_evT_2, ↓z_evT_3, ↓z_evT_4, ↓z_evC_1, ↓z_evC_2, ↓z_evIt_1, ↓z_evIt_3, ↓z_evIt_4, ↓z_evIt_5, ↓z_evIt_6, ↓z_evS_1, ↓z_evS_2, ↓z_evS_3, ↓z_evS_4, ↓z_evS_5, ↓z_evS_6, ↓z_evS_7, ↓z_evS_8, ↓z_evS_9, ↓z_evS_10, ↓z_evS_11, ↓z_evS_12, ↓z_evS_13, ↓z_evSs_1, ↓z_evSs_2, ↓evIt_rng, leave, start, slotRv, Rv.tree, Rv.isI, Rv.isB, Rv.isS, T.isI, T.isB, T.isS, Rv.w, Rv.lst, Rv.seq, lstAt, seqAt, Rv.data, binop, cmpop, eqRv, inRv, ltRv, isRv, truth, isTy, isiRv, lenRv, LL.bi, biLen, biAll, biAny, biInt, biStr, biTuple, biList, biSorted, meFind, meCount, meJoin, meS, meL, meAppend, meInsert, mePop0, putL, getL, meRv, meTy, ixRv, slRv, revRv, src1, src2, src3, src4, src5, bindTg, bindTs, wipe, treesOf, tupOf, lstOf, app, Sto.trunc, glo0, glo1, glo2, SZ, -List.map_map, ixOf, T.eqOk, T.data, T.datas, T.calm, T.calms, T.depth, T.depths, T.beq, T.beqs] at e
  rw [e]
  simp [↓mb, ↓pu, ↓gd, ↓opt_some, ↓bad_app, ↓rv_val, ↓nox_app, ↓ite_a, ↓z_evE_1, ↓z_evE_2, ↓z_evE_3, ↓z_evE_4, ↓z_evE_5, ↓z_evE_6, ↓z_evE_7, ↓z_evE_8, ↓z_evE_9, ↓z_evE_10, ↓z_evE_11, ↓z_evE_12, ↓z_evE_13, ↓z_evE_14, ↓z_evE_15, ↓z_evE_16, ↓z_evE_17, ↓z_evE_18, ↓z_evE_19, ↓z_evE_20, ↓z_evE_21, ↓z_evE_22, ↓z_evE_23, ↓z_evE_24, ↓z_evRs_1, ↓z_evRs_2, ↓z_evO_1, ↓z_evO_2, ↓z_evT_1, ↓z_evT_2, ↓z_evT_3, ↓z_evT_4, ↓z_evC_1, ↓z_evC_2, ↓z_evIt_1, ↓z_evIt_3, ↓z_evIt_4, ↓z_evIt_5, ↓z_evIt_6, ↓z_evS_1, ↓z_evS_2, ↓z_evS_3, ↓z_evS_4, ↓z_evS_5, ↓z_evS_6, ↓z_evS_7, ↓z_evS_8, ↓z_evS_9, ↓z_evS_10, ↓z_evS_11, ↓z_evS_12, ↓z_evS_13, ↓z_evSs_1, ↓z_evSs_2, ↓evIt_rng, leave, start, slotRv, Rv.tree, Rv.isI, Rv.isB, Rv.isS, T.isI, T.isB, T.isS, Rv.w, Rv.lst, Rv.seq, lstAt, seqAt, Rv.data, binop, cmpop, eqRv, inRv, ltRv, isRv, truth, isTy, isiRv, lenRv, LL.bi, biLen, biAll, biAny, biInt, biStr, biTuple, biList, biSorted, meFind, meCount, meJoin, meS, meL, meAppend, meInsert, mePop0, putL, getL, meRv, meTy, ixRv, slRv, revRv, src1, src2, src3, src4, src5, bindTg, bindTs, wipe, treesOf, tupOf, lstOf, app, Sto.trunc, glo0, glo1, glo2, SZ, -List.map_map, ixOf, T.eqOk, T.data, T.datas, T.calm, T.calms, T.depth, T.depths, T.beq, T.beqs, ascF]
theorem lsts_nil {P : T → Prop} (F : Fam P) : ∀ w : List T, (∀ y ∈ w, P y) → T.datas w = true ∧ T.depths w ≤ 10 ∧ T.calms w [] = true ∧ T.beqs w [] = w.isEmpty
  | [], _ => by simp [T.datas, T.depths, T.calms, T.beqs]
  | y :: r, h => by
    have ih := lsts_nil F r fun z hz => h z (List.mem_cons_of_mem _ hz)
    have h1 := F.data y (h y (by simp))
    have h2 := F.depth y (h y (by simp))
    simp [T.datas, T.depths, T.calms, T.beqs, ih.1, h1]
    omega
theorem under_pl {a : Tk} {x y : T} (ha : TkOk a) (hx : PlP a x) (hy : PlP a y) {k : Nat} {S : Sto} : run prog (k + 2) 61 [.t x, .t y] S = .ok (.v (.bl (belT x y))) S := by
  obtain ⟨p, hp, rfl⟩ := hx
  obtain ⟨q, hq, rfl⟩ := hy
  rw [belT_t]
  exact law_under_t (hp.short ha) (hq.short ha) (by rw [hp.len, hq.len])
theorem law_least_t {k n : Nat} {S : Sto} {a : Tk} {rows : List T} (ha : TkOk a) (hp : ∀ y ∈ rows, PlP a y) (hl : rows.length ≤ 1000000) (hn : S.L[n]? = some rows) : run prog (k + 3) 62 [.l n] S = .ok (.new (leastF belT rows)) S := by
  have F := pl_fam a
  have as := law_ascending_t (k := k + 1) (S := S) F hp hl hn
  have he : ∀ y ∈ ascF rows, PlP a y := fun y hy => hp y ((ascF_mem F.alike hp y).1 hy)
  have hel := ascF_len rows
  rw [run_fn (rfl : prog.fn 62 = some F__law_least)]
  simp [F__law_least, ↓mb, ↓pu, ↓gd, ↓opt_some, ↓bad_app, ↓rv_val, ↓nox_app, ↓ite_a, ↓z_evE_1, ↓z_evE_2, ↓z_evE_3, ↓z_evE_4, ↓z_evE_5, ↓z_evE_6, ↓z_evE_7, ↓z_evE_8, ↓z_evE_9, ↓z_evE_10, ↓z_evE_11, ↓z_evE_12, ↓z_evE_13, ↓z_evE_14, ↓z_evE_15, ↓z_evE_16, ↓z_evE_17, ↓z_evE_18, ↓z_evE_19, ↓z_evE_20, ↓z_evE_21, ↓z_evE_22, ↓z_evE_23, ↓z_evE_24, ↓z_evRs_1, ↓z_evRs_2, ↓z_evO_1, ↓z_evO_2, ↓z_evT_1, ↓z_evT_2, ↓z_evT_3, ↓z_evT_4, ↓z_evC_1, ↓z_evC_2, ↓z_evIt_1, ↓z_evIt_3, ↓z_evIt_4, ↓z_evIt_5, ↓z_evIt_6, ↓z_evS_1, ↓z_evS_2, ↓z_evS_3, ↓z_evS_4, ↓z_evS_5, ↓z_evS_6, ↓z_evS_7, ↓z_evS_8, ↓z_evS_9, ↓z_evS_10, ↓z_evS_11, ↓z_evS_12, ↓z_evS_13, ↓z_evSs_1, ↓z_evSs_2, ↓evIt_rng, leave, start, slotRv, Rv.tree, Rv.isI, Rv.isB, Rv.isS, T.isI, T.isB, T.isS, Rv.w, Rv.lst, Rv.seq, lstAt, seqAt, Rv.data, binop, cmpop, eqRv, inRv, ltRv, isRv, truth, isTy, isiRv, lenRv, LL.bi, biLen, biAll, biAny, biInt, biStr, biTuple, biList, biSorted, meFind, meCount, meJoin, meS, meL, meAppend, meInsert, mePop0, putL, getL, meRv, meTy, ixRv, slRv, revRv, src1, src2, src3, src4, src5, bindTg, bindTs, wipe, treesOf, tupOf, lstOf, app, Sto.trunc, glo0, glo1, glo2, SZ, -List.map_map, ixOf, T.eqOk, T.data, T.datas, T.calm, T.calms, T.depth, T.depths, T.beq, T.beqs, as]
  generalize hw : ascF rows = w at *
  rw [lc_filt (fun r => !w.any fun o => (!T.beq o r) && belT o r) (fun r => r) S rfl _ (by omega)]
  · simp [↓mb, ↓pu, ↓gd, ↓opt_some, ↓bad_app, ↓rv_val, ↓nox_app, ↓ite_a, ↓z_evE_1, ↓z_evE_2, ↓z_evE_3, ↓z_evE_4, ↓z_evE_5, ↓z_evE_6, ↓z_evE_7, ↓z_evE_8, ↓z_evE_9, ↓z_evE_10, ↓z_evE_11, ↓z_evE_12, ↓z_evE_13, ↓z_evE_14, ↓z_evE_15, ↓z_evE_16, ↓z_evE_17, ↓z_evE_18, ↓z_evE_19, ↓z_evE_20, ↓z_evE_21, ↓z_evE_22, ↓z_evE_23, ↓z_evE_24, ↓z_evRs_1, ↓z_evRs_2, ↓z_evO_1, ↓z_evO_2, ↓z_evT_1, ↓z_evT_2, ↓z_evT_3, ↓z_evT_4, ↓z_evC_1, ↓z_evC_2, ↓z_evIt_1, ↓z_evIt_3, ↓z_evIt_4, ↓z_evIt_5, ↓z_evIt_6, ↓z_evS_1, ↓z_evS_2, ↓z_evS_3, ↓z_evS_4, ↓z_evS_5, ↓z_evS_6, ↓z_evS_7, ↓z_evS_8, ↓z_evS_9, ↓z_evS_10, ↓z_evS_11, ↓z_evS_12, ↓z_evS_13, ↓z_evSs_1, ↓z_evSs_2, ↓evIt_rng, leave, start, slotRv, Rv.tree, Rv.isI, Rv.isB, Rv.isS, T.isI, T.isB, T.isS, Rv.w, Rv.lst, Rv.seq, lstAt, seqAt, Rv.data, binop, cmpop, eqRv, inRv, ltRv, isRv, truth, isTy, isiRv, lenRv, LL.bi, biLen, biAll, biAny, biInt, biStr, biTuple, biList, biSorted, meFind, meCount, meJoin, meS, meL, meAppend, meInsert, mePop0, putL, getL, meRv, meTy, ixRv, slRv, revRv, src1, src2, src3, src4, src5, bindTg, bindTs, wipe, treesOf, tupOf, lstOf, app, Sto.trunc, glo0, glo1, glo2, SZ, -List.map_map, ixOf, T.eqOk, T.data, T.datas, T.calm, T.calms, T.depth, T.depths, T.beq, T.beqs, leastF, hw]
  · intro r hr acc hacc
    simp only [↓mb, ↓pu, ↓gd, ↓opt_some, ↓bad_app, ↓rv_val, ↓nox_app, ↓ite_a, ↓z_evE_1, ↓z_evE_2, ↓z_evE_3, ↓z_evE_4, ↓z_evE_5, ↓z_evE_6, ↓z_evE_7, ↓z_evE_8, ↓z_evE_9, ↓z_evE_10, ↓z_evE_11, ↓z_evE_12, ↓z_evE_13, ↓z_evE_14, ↓z_evE_15, ↓z_evE_16, ↓z_evE_17, ↓z_evE_18, ↓z_evE_19, ↓z_evE_20, ↓z_evE_21, ↓z_evE_22, ↓z_evE_23, ↓z_evE_24, ↓z_evRs_1, ↓z_evRs_2, ↓z_evO_1, ↓z_evO_2, ↓z_evT_1, ↓z_evT_2, ↓z_evT_3, ↓z_evT_4, ↓z_evC_1, ↓z_evC_2, ↓z_evIt_1, ↓z_evIt_3, ↓z_evIt_4, ↓z_evIt_5, ↓z_evIt_6, ↓z_evS_1, ↓z_evS_2, ↓z_evS_3, ↓z_evS_4, ↓z_evS_5, ↓z_evS_6, ↓z_evS_7, ↓z_evS_8, ↓z_evS_9, ↓z_evS_10, ↓z_evS_11, ↓z_evS_12, ↓z_evS_13, ↓z_evSs_1, ↓z_evSs_2, ↓evIt_rng, leave, start, slotRv, Rv.tree, Rv.isI, Rv.isB, Rv.isS, T.isI, T.isB, T.isS, Rv.w, Rv.lst, Rv.seq, lstAt, seqAt, Rv.data, binop, cmpop, eqRv, inRv, ltRv, isRv, truth, isTy, isiRv, lenRv, LL.bi, biLen, biAll, biAny, biInt, biStr, biTuple, biList, biSorted, meFind, meCount, meJoin, meS, meL, meAppend, meInsert, mePop0, putL, getL, meRv, meTy, ixRv, slRv, revRv, src1, src2, src3, src4, src5, bindTg, bindTs, wipe, treesOf, tupOf, lstOf, app, Sto.trunc, glo0, glo1, glo2, SZ, -List.map_map, ixOf, T.eqOk, T.data, T.datas, T.calm, T.calms, T.depth, T.depths, T.beq, T.beqs, List.set_cons_zero, List.set_cons_succ, List.getElem?_cons_succ, List.getElem?_cons_zero, List.map_cons, List.map_nil]
    rw [lc_filt (fun o => (!T.beq o r) && belT o r) (fun o => o) S rfl _ (by omega)]
    · have hf := lsts_nil F (w.filter fun o => (!T.beq o r) && belT o r) fun y hy => he y (List.mem_filter.1 hy).1
      have hany : (w.filter fun o => (!T.beq o r) && belT o r).isEmpty = !w.any fun o => (!T.beq o r) && belT o r := by
        rw [Bool.eq_iff_iff, List.isEmpty_iff, List.filter_eq_nil_iff]
        simp
      rw [← hany]
      have hid : (w.filter fun o => (!T.beq o r) && belT o r).map (fun o => o) = w.filter fun o => (!T.beq o r) && belT o r := by simp
      rw [hid]
      generalize (w.filter fun o => (!T.beq o r) && belT o r) = f at *
      have hd : min (T.depths f) 0 ≤ 59 := by omega
      simp [↓mb, ↓pu, ↓gd, ↓opt_some, ↓bad_app, ↓rv_val, ↓nox_app, ↓ite_a, ↓z_evE_1, ↓z_evE_2, ↓z_evE_3, ↓z_evE_4, ↓z_evE_5, ↓z_evE_6, ↓z_evE_7, ↓z_evE_8, ↓z_evE_9, ↓z_evE_10, ↓z_evE_11, ↓z_evE_12, ↓z_evE_13, ↓z_evE_14, ↓z_evE_15, ↓z_evE_16, ↓z_evE_17, ↓z_evE_18, ↓z_evE_19, ↓z_evE_20, ↓z_evE_21, ↓z_evE_22, ↓z_evE_23, ↓z_evE_24, ↓z_evRs_1, ↓z_evRs_2, ↓z_evO_1, ↓z_evO_2, ↓z_evT_1, ↓z_evT_2, ↓z_evT_3, ↓z_evT_4, ↓z_evC_1, ↓z_evC_2, ↓z_evIt_1, ↓z_evIt_3, ↓z_evIt_4, ↓z_evIt_5, ↓z_evIt_6, ↓z_evS_1, ↓z_evS_2, ↓z_evS_3, ↓z_evS_4, ↓z_evS_5, ↓z_evS_6, ↓z_evS_7, ↓z_evS_8, ↓z_evS_9, ↓z_evS_10, ↓z_evS_11, ↓z_evS_12, ↓z_evS_13, ↓z_evSs_1, ↓z_evSs_2, ↓evIt_rng, leave, start, slotRv, Rv.tree, Rv.isI, Rv.isB, Rv.isS, T.isI, T.isB, T.isS, Rv.w, Rv.lst, Rv.seq, lstAt, seqAt, Rv.data, binop, cmpop, eqRv, inRv, ltRv, isRv, truth, isTy, isiRv, lenRv, LL.bi, biLen, biAll, biAny, biInt, biStr, biTuple, biList, biSorted, meFind, meCount, meJoin, meS, meL, meAppend, meInsert, mePop0, putL, getL, meRv, meTy, ixRv, slRv, revRv, src1, src2, src3, src4, src5, bindTg, bindTs, wipe, treesOf, tupOf, lstOf, app, Sto.trunc, glo0, glo1, glo2, SZ, -List.map_map, ixOf, T.eqOk, T.data, T.datas, T.calm, T.calms, T.depth, T.depths, T.beq, T.beqs, hf.1, hf.2.2.1, hf.2.2.2, hd]
      by_cases hfe : f = [] <;> simp [↓mb, ↓pu, ↓gd, ↓opt_some, ↓bad_app, ↓rv_val, ↓nox_app, ↓ite_a, ↓z_evE_1, ↓z_evE_2, ↓z_evE_3, ↓z_evE_4, ↓z_evE_5, ↓z_evE_6, ↓z_evE_7, ↓z_evE_8, ↓z_evE_9, ↓z_evE_10, ↓z_evE_11, ↓z_evE_12, ↓z_evE_13, ↓z_evE_14, ↓z_evE_15, ↓z_evE_16, ↓z_evE_17, ↓z_evE_18, ↓z_evE_19, ↓z_evE_20, ↓z_evE_21, ↓z_evE_22, ↓z_evE_23, ↓z_evE_24, ↓z_evRs_1, ↓z_evRs_2, ↓z_evO_1, ↓z_evO_2, ↓z_evT_1, ↓z_evT_2, ↓z_evT_3, ↓z_evT_4, ↓z_evC_1, ↓z_evC_2, ↓z_evIt_1, ↓z_evIt_3, ↓z_evIt_4, ↓z_evIt_5, ↓z_evIt_6, ↓z_evS_1, ↓z_evS_2, ↓z_evS_3, ↓z_evS_4, ↓z_evS_5, ↓z_evS_6, ↓z_evS_7, ↓z_evS_8, ↓z_evS_9, ↓z_evS_10, ↓z_evS_11, ↓z_evS_12, ↓z_evS_13, ↓z_evSs_1, ↓z_evSs_2, ↓evIt_rng, leave, start, slotRv, Rv.tree, Rv.isI, Rv.isB, Rv.isS, T.isI, T.isB, T.isS, Rv.w, Rv.lst, Rv.seq, lstAt, seqAt, Rv.data, binop, cmpop, eqRv, inRv, ltRv, isRv, truth, isTy, isiRv, lenRv, LL.bi, biLen, biAll, biAny, biInt, biStr, biTuple, biList, biSorted, meFind, meCount, meJoin, meS, meL, meAppend, meInsert, mePop0, putL, getL, meRv, meTy, ixRv, slRv, revRv, src1, src2, src3, src4, src5, bindTg, bindTs, wipe, treesOf, tupOf, lstOf, app, Sto.trunc, glo0, glo1, glo2, SZ, -List.map_map, ixOf, T.eqOk, T.data, T.datas, T.calm, T.calms, T.depth, T.depths, T.beq, T.beqs, hfe, hacc]
    · intro o ho acc hacc
      have h1 := F.eqOk (he o ho) (he r hr)
      have h2 := under_pl (k := k) (S := S) ha (he o ho) (he r hr)
      rw [T.eqOk] at h1
      cases hb : T.beq o r <;> simp_all [↓mb, ↓pu, ↓gd, ↓opt_some, ↓bad_app, ↓rv_val, ↓nox_app, ↓ite_a, ↓z_evE_1, ↓z_evE_2, ↓z_evE_3, ↓z_evE_4, ↓z_evE_5, ↓z_evE_6, ↓z_evE_7, ↓z_evE_8, ↓z_evE_9, ↓z_evE_10, ↓z_evE_11, ↓z_evE_12, ↓z_evE_13, ↓z_evE_14, ↓z_evE_15, ↓z_evE_16, ↓z_evE_17, ↓z_evE_18, ↓z_evE_19, ↓z_evE_20, ↓z_evE_21, ↓z_evE_22, ↓z_evE_23, ↓z_evE_24, ↓z_evRs_1, ↓z_evRs_2, ↓z_evO_1, ↓z_evO_2, ↓z_evT_1, ↓z_evT_2, ↓z_evT_3, ↓z_evT_4, ↓z_evC_1, ↓z_evC_2, ↓z_evIt_1, ↓z_evIt_3, ↓z_evIt_4, ↓z_evIt_5, ↓z_evIt_6, ↓z_evS_1, ↓z_evS_2, ↓z_evS_3, ↓z_evS_4, ↓z_evS_5, ↓z_evS_6, ↓z_evS_7, ↓z_evS_8, ↓z_evS_9, ↓z_evS_10, ↓z_evS_11, ↓z_evS_12, ↓z_evS_13, ↓z_evSs_1, ↓z_evSs_2, ↓evIt_rng, leave, start, slotRv, Rv.tree, Rv.isI, Rv.isB, Rv.isS, T.isI, T.isB, T.isS, Rv.w, Rv.lst, Rv.seq, lstAt, seqAt, Rv.data, binop, cmpop, eqRv, inRv, ltRv, isRv, truth, isTy, isiRv, lenRv, LL.bi, biLen, biAll, biAny, biInt, biStr, biTuple, biList, biSorted, meFind, meCount, meJoin, meS, meL, meAppend, meInsert, mePop0, putL, getL, meRv, meTy, ixRv, slRv, revRv, src1, src2, src3, src4, src5, bindTg, bindTs, wipe, treesOf, tupOf, lstOf, app, Sto.trunc, glo0, glo1, glo2, SZ, -List.map_map, ixOf, T.eqOk, T.data, T.datas, T.calm, T.calms, T.depth, T.depths, T.beq, T.beqs]
      cases hc : belT o r <;> simp_all [↓mb, ↓pu, ↓gd, ↓opt_some, ↓bad_app, ↓rv_val, ↓nox_app, ↓ite_a, ↓z_evE_1, ↓z_evE_2, ↓z_evE_3, ↓z_evE_4, ↓z_evE_5, ↓z_evE_6, ↓z_evE_7, ↓z_evE_8, ↓z_evE_9, ↓z_evE_10, ↓z_evE_11, ↓z_evE_12, ↓z_evE_13, ↓z_evE_14, ↓z_evE_15, ↓z_evE_16, ↓z_evE_17, ↓z_evE_18, ↓z_evE_19, ↓z_evE_20, ↓z_evE_21, ↓z_evE_22, ↓z_evE_23, ↓z_evE_24, ↓z_evRs_1, ↓z_evRs_2, ↓z_evO_1, ↓z_evO_2, ↓z_evT_1, ↓z_evT_2, ↓z_evT_3, ↓z_evT_4, ↓z_evC_1, ↓z_evC_2, ↓z_evIt_1, ↓z_evIt_3, ↓z_evIt_4, ↓z_evIt_5, ↓z_evIt_6, ↓z_evS_1, ↓z_evS_2, ↓z_evS_3, ↓z_evS_4, ↓z_evS_5, ↓z_evS_6, ↓z_evS_7, ↓z_evS_8, ↓z_evS_9, ↓z_evS_10, ↓z_evS_11, ↓z_evS_12, ↓z_evS_13, ↓z_evSs_1, ↓z_evSs_2, ↓evIt_rng, leave, start, slotRv, Rv.tree, Rv.isI, Rv.isB, Rv.isS, T.isI, T.isB, T.isS, Rv.w, Rv.lst, Rv.seq, lstAt, seqAt, Rv.data, binop, cmpop, eqRv, inRv, ltRv, isRv, truth, isTy, isiRv, lenRv, LL.bi, biLen, biAll, biAny, biInt, biStr, biTuple, biList, biSorted, meFind, meCount, meJoin, meS, meL, meAppend, meInsert, mePop0, putL, getL, meRv, meTy, ixRv, slRv, revRv, src1, src2, src3, src4, src5, bindTg, bindTs, wipe, treesOf, tupOf, lstOf, app, Sto.trunc, glo0, glo1, glo2, SZ, -List.map_map, ixOf, T.eqOk, T.data, T.datas, T.calm, T.calms, T.depth, T.depths, T.beq, T.beqs]
theorem truly_t {k : Nat} {S : Sto} {b c : Bool} : run prog (k + 1) 39 [.t (.bl b), .t (.bl c)] S = .ok (.v (.bl (b == c))) S := by
  rw [run_fn (rfl : prog.fn 39 = some F__law_truly)]
  simp [F__law_truly, ↓mb, ↓pu, ↓gd, ↓opt_some, ↓bad_app, ↓rv_val, ↓nox_app, ↓ite_a, ↓z_evE_1, ↓z_evE_2, ↓z_evE_3, ↓z_evE_4, ↓z_evE_5, ↓z_evE_6, ↓z_evE_7, ↓z_evE_8, ↓z_evE_9, ↓z_evE_10, ↓z_evE_11, ↓z_evE_12, ↓z_evE_13, ↓z_evE_14, ↓z_evE_15, ↓z_evE_16, ↓z_evE_17, ↓z_evE_18, ↓z_evE_19, ↓z_evE_20, ↓z_evE_21, ↓z_evE_22, ↓z_evE_23, ↓z_evE_24, ↓z_evRs_1, ↓z_evRs_2, ↓z_evO_1, ↓z_evO_2, ↓z_evT_1, ↓z_evT_2, ↓z_evT_3, ↓z_evT_4, ↓z_evC_1, ↓z_evC_2, ↓z_evIt_1, ↓z_evIt_3, ↓z_evIt_4, ↓z_evIt_5, ↓z_evIt_6, ↓z_evS_1, ↓z_evS_2, ↓z_evS_3, ↓z_evS_4, ↓z_evS_5, ↓z_evS_6, ↓z_evS_7, ↓z_evS_8, ↓z_evS_9, ↓z_evS_10, ↓z_evS_11, ↓z_evS_12, ↓z_evS_13, ↓z_evSs_1, ↓z_evSs_2, ↓evIt_rng, leave, start, slotRv, Rv.tree, Rv.isI, Rv.isB, Rv.isS, T.isI, T.isB, T.isS, Rv.w, Rv.lst, Rv.seq, lstAt, seqAt, Rv.data, binop, cmpop, eqRv, inRv, ltRv, isRv, truth, isTy, isiRv, lenRv, LL.bi, biLen, biAll, biAny, biInt, biStr, biTuple, biList, biSorted, meFind, meCount, meJoin, meS, meL, meAppend, meInsert, mePop0, putL, getL, meRv, meTy, ixRv, slRv, revRv, src1, src2, src3, src4, src5, bindTg, bindTs, wipe, treesOf, tupOf, lstOf, app, Sto.trunc, glo0, glo1, glo2, SZ, -List.map_map, ixOf, T.eqOk, T.data, T.datas, T.calm, T.calms, T.depth, T.depths, T.beq, T.beqs]
end LLQ

set_option Elab.async false
set_option linter.all false
set_option autoImplicit false
set_option maxRecDepth 100000
set_option maxHeartbeats 400000
namespace LLQ
open LL LLS LLP
theorem cell_t {k : Nat} {S : Sto} {ns : List Int} {i : Nat} : ∃ c : Int, run prog (k + 1) 15 [.t (.scr ns), .t (.int (i : Int))] S = .ok (.v (.int c)) S := by
  by_cases h : i < ns.length
  · have h2 : (i : Int) < (ns.length : Int) := by omega
    refine ⟨ns[i], ?_⟩
    rw [run_fn (rfl : prog.fn 15 = some F__law_cell)]
    simp [F__law_cell, ↓mb, ↓pu, ↓gd, ↓opt_some, ↓bad_app, ↓rv_val, ↓nox_app, ↓ite_a, ↓z_evE_1, ↓z_evE_2, ↓z_evE_3, ↓z_evE_4, ↓z_evE_5, ↓z_evE_6, ↓z_evE_7, ↓z_evE_8, ↓z_evE_9, ↓z_evE_10, ↓z_evE_11, ↓z_evE_12, ↓z_evE_13, ↓z_evE_14, ↓z_evE_15, ↓z_evE_16, ↓z_evE_17, ↓z_evE_18, ↓z_evE_19, ↓z_evE_20, ↓z_evE_21, ↓z_evE_22, ↓z_evE_23, ↓z_evE_24, ↓z_evRs_1, ↓z_evRs_2, ↓z_evO_1, ↓z_evO_2, ↓z_evT_1, ↓z_evT_2, ↓z_evT_3, ↓z_evT_4, ↓z_evC_1, ↓z_evC_2, ↓z_evIt_1, ↓z_evIt_3, ↓z_evIt_4, ↓z_evIt_5, ↓z_evIt_6, ↓z_evS_1, ↓z_evS_2, ↓z_evS_3, ↓z_evS_4, ↓z_evS_5, ↓z_evS_6, ↓z_evS_7, ↓z_evS_8, ↓z_evS_9, ↓z_evS_10, ↓z_evS_11, ↓z_evS_12, ↓z_evS_13, ↓z_evSs_1, ↓z_evSs_2, ↓evIt_rng, leave, start, slotRv, Rv.tree, Rv.isI, Rv.isB, Rv.isS, T.isI, T.isB, T.isS, Rv.w, Rv.lst, Rv.seq, lstAt, seqAt, Rv.data, binop, cmpop, eqRv, inRv, ltRv, isRv, truth, isTy, isiRv, lenRv, LL.bi, biLen, biAll, biAny, biInt, biStr, biTuple, biList, biSorted, meFind, meCount, meJoin, meS, meL, meAppend, meInsert, mePop0, putL, getL, meRv, meTy, ixRv, slRv, revRv, src1, src2, src3, src4, src5, bindTg, bindTs, wipe, treesOf, tupOf, lstOf, app, Sto.trunc, glo0, glo1, glo2, SZ, -List.map_map, ixOf, T.eqOk, T.data, T.datas, T.calm, T.calms, T.depth, T.depths, T.beq, T.beqs, T.ltOk, T.alike, T.lt, h, h2]
  · by_cases h0 : ns = []
    · subst h0
      refine ⟨7919 * i + 101, ?_⟩
      rw [run_fn (rfl : prog.fn 15 = some F__law_cell)]
      have h3 : ¬ ((i : Int) < 0) := by omega
      simp [F__law_cell, ↓mb, ↓pu, ↓gd, ↓opt_some, ↓bad_app, ↓rv_val, ↓nox_app, ↓ite_a, ↓z_evE_1, ↓z_evE_2, ↓z_evE_3, ↓z_evE_4, ↓z_evE_5, ↓z_evE_6, ↓z_evE_7, ↓z_evE_8, ↓z_evE_9, ↓z_evE_10, ↓z_evE_11, ↓z_evE_12, ↓z_evE_13, ↓z_evE_14, ↓z_evE_15, ↓z_evE_16, ↓z_evE_17, ↓z_evE_18, ↓z_evE_19, ↓z_evE_20, ↓z_evE_21, ↓z_evE_22, ↓z_evE_23, ↓z_evE_24, ↓z_evRs_1, ↓z_evRs_2, ↓z_evO_1, ↓z_evO_2, ↓z_evT_1, ↓z_evT_2, ↓z_evT_3, ↓z_evT_4, ↓z_evC_1, ↓z_evC_2, ↓z_evIt_1, ↓z_evIt_3, ↓z_evIt_4, ↓z_evIt_5, ↓z_evIt_6, ↓z_evS_1, ↓z_evS_2, ↓z_evS_3, ↓z_evS_4, ↓z_evS_5, ↓z_evS_6, ↓z_evS_7, ↓z_evS_8, ↓z_evS_9, ↓z_evS_10, ↓z_evS_11, ↓z_evS_12, ↓z_evS_13, ↓z_evSs_1, ↓z_evSs_2, ↓evIt_rng, leave, start, slotRv, Rv.tree, Rv.isI, Rv.isB, Rv.isS, T.isI, T.isB, T.isS, Rv.w, Rv.lst, Rv.seq, lstAt, seqAt, Rv.data, binop, cmpop, eqRv, inRv, ltRv, isRv, truth, isTy, isiRv, lenRv, LL.bi, biLen, biAll, biAny, biInt, biStr, biTuple, biList, biSorted, meFind, meCount, meJoin, meS, meL, meAppend, meInsert, mePop0, putL, getL, meRv, meTy, ixRv, slRv, revRv, src1, src2, src3, src4, src5, bindTg, bindTs, wipe, treesOf, tupOf, lstOf, app, Sto.trunc, glo0, glo1, glo2, SZ, -List.map_map, ixOf, T.eqOk, T.data, T.datas, T.calm, T.calms, T.depth, T.depths, T.beq, T.beqs, T.ltOk, T.alike, T.lt, h3]
    · have hp : 0 < ns.length := List.length_pos_iff.2 h0
      have hp2 : (0 : Int) < (ns.length : Int) := by omega
      have hm0 : (0 : Int) ≤ (i : Int) % (ns.length : Int) := Int.emod_nonneg _ (by omega)
      have hm1 : (i : Int) % (ns.length : Int) < (ns.length : Int) := Int.emod_lt_of_pos _ hp2
      have hm2 : ((i : Int) % (ns.length : Int)).toNat < ns.length := by omega
      have h3 : ¬ ((i : Int) < (ns.length : Int)) := by omega
      refine ⟨ns[((i : Int) % (ns.length : Int)).toNat] % 1000003 + 7919 * i, ?_⟩
      rw [run_fn (rfl : prog.fn 15 = some F__law_cell)]
      simp [F__law_cell, ↓mb, ↓pu, ↓gd, ↓opt_some, ↓bad_app, ↓rv_val, ↓nox_app, ↓ite_a, ↓z_evE_1, ↓z_evE_2, ↓z_evE_3, ↓z_evE_4, ↓z_evE_5, ↓z_evE_6, ↓z_evE_7, ↓z_evE_8, ↓z_evE_9, ↓z_evE_10, ↓z_evE_11, ↓z_evE_12, ↓z_evE_13, ↓z_evE_14, ↓z_evE_15, ↓z_evE_16, ↓z_evE_17, ↓z_evE_18, ↓z_evE_19, ↓z_evE_20, ↓z_evE_21, ↓z_evE_22, ↓z_evE_23, ↓z_evE_24, ↓z_evRs_1, ↓z_evRs_2, ↓z_evO_1, ↓z_evO_2, ↓z_evT_1, ↓z_evT_2, ↓z_evT_3, ↓z_evT_4, ↓z_evC_1, ↓z_evC_2, ↓z_evIt_1, ↓z_evIt_3, ↓z_evIt_4, ↓z_evIt_5, ↓z_evIt_6, ↓z_evS_1, ↓z_evS_2, ↓z_evS_3, ↓z_evS_4, ↓z_evS_5, ↓z_evS_6, ↓z_evS_7, ↓z_evS_8, ↓z_evS_9, ↓z_evS_10, ↓z_evS_11, ↓z_evS_12, ↓z_evS_13, ↓z_evSs_1, ↓z_evSs_2, ↓evIt_rng, leave, start, slotRv, Rv.tree, Rv.isI, Rv.isB, Rv.isS, T.isI, T.isB, T.isS, Rv.w, Rv.lst, Rv.seq, lstAt, seqAt, Rv.data, binop, cmpop, eqRv, inRv, ltRv, isRv, truth, isTy, isiRv, lenRv, LL.bi, biLen, biAll, biAny, biInt, biStr, biTuple, biList, biSorted, meFind, meCount, meJoin, meS, meL, meAppend, meInsert, mePop0, putL, getL, meRv, meTy, ixRv, slRv, revRv, src1, src2, src3, src4, src5, bindTg, bindTs, wipe, treesOf, tupOf, lstOf, app, Sto.trunc, glo0, glo1, glo2, SZ, -List.map_map, ixOf, T.eqOk, T.data, T.datas, T.calm, T.calms, T.depth, T.depths, T.beq, T.beqs, T.ltOk, T.alike, T.lt, h, h3, h0, hp, hp2]
      generalize hg : ((i : Int) % (ns.length : Int)) = g at *
      simp [↓mb, ↓pu, ↓gd, ↓opt_some, ↓bad_app, ↓rv_val, ↓nox_app, ↓ite_a, ↓z_evE_1, ↓z_evE_2, ↓z_evE_3, ↓z_evE_4, ↓z_evE_5, ↓z_evE_6, ↓z_evE_7, ↓z_evE_8, ↓z_evE_9, ↓z_evE_10, ↓z_evE_11, ↓z_evE_12, ↓z_evE_13, ↓z_evE_14, ↓z_evE_15, ↓z_evE_16, ↓z_evE_17, ↓z_evE_18, ↓z_evE_19, ↓z_evE_20, ↓z_evE_21, ↓z_evE_22, ↓z_evE_23, ↓z_evE_24, ↓z_evRs_1, ↓z_evRs_2, ↓z_evO_1, ↓z_evO_2, ↓z_evT_1, ↓z_evT_2, ↓z_evT_3, ↓z_evT_4, ↓z_evC_1, ↓z_evC_2, ↓z_evIt_1, ↓z_evIt_3, ↓z_evIt_4, ↓z_evIt_5, ↓z_evIt_6, ↓z_evS_1, ↓z_evS_2, ↓z_evS_3, ↓z_evS_4, ↓z_evS_5, ↓z_evS_6, ↓z_evS_7, ↓z_evS_8, ↓z_evS_9, ↓z_evS_10, ↓z_evS_11, ↓z_evS_12, ↓z_evS_13, ↓z_evSs_1, ↓z_evSs_2, ↓evIt_rng, leave, start, slotRv, Rv.tree, Rv.isI, Rv.isB, Rv.isS, T.isI, T.isB, T.isS, Rv.w, Rv.lst, Rv.seq, lstAt, seqAt, Rv.data, binop, cmpop, eqRv, inRv, ltRv, isRv, truth, isTy, isiRv, lenRv, LL.bi, biLen, biAll, biAny, biInt, biStr, biTuple, biList, biSorted, meFind, meCount, meJoin, meS, meL, meAppend, meInsert, mePop0, putL, getL, meRv, meTy, ixRv, slRv, revRv, src1, src2, src3, src4, src5, bindTg, bindTs, wipe, treesOf, tupOf, lstOf, app, Sto.trunc, glo0, glo1, glo2, SZ, -List.map_map, ixOf, T.eqOk, T.data, T.datas, T.calm, T.calms, T.depth, T.depths, T.beq, T.beqs, hm0, hm1, hm2]
abbrev PR : List T := [.int 2147483647, .int 2147483629, .int 2147483587, .int 2147483579, .int 2147483563, .int 2147483549, .int 2147483543, .int 2147483497]
theorem pr_at : ∀ n : Nat, n < 8 → ∃ p : Int, PR[n]? = some (.int p) ∧ 0 < p ∧ p < 4294967296
  | 0, _ => ⟨_, rfl, by omega, by omega⟩
  | 1, _ => ⟨_, rfl, by omega, by omega⟩
  | 2, _ => ⟨_, rfl, by omega, by omega⟩
  | 3, _ => ⟨_, rfl, by omega, by omega⟩
  | 4, _ => ⟨_, rfl, by omega, by omega⟩
  | 5, _ => ⟨_, rfl, by omega, by omega⟩
  | 6, _ => ⟨_, rfl, by omega, by omega⟩
  | 7, _ => ⟨_, rfl, by omega, by omega⟩
  | n + 8, h => absurd h (by omega)
theorem mod_small {x p : Int} (h : 0 < p) (h2 : p < 4294967296) : (x % p).natAbs < 18446744073709551616 := by
  have := Int.emod_nonneg x (show p ≠ 0 by omega)
  have := Int.emod_lt_of_pos x h
  omega
theorem draws_step {k : Nat} {S : Sto} {ns : List Int} {i j c rest : Int} {b : List Int} {v8 v9 : Option W} (hj0 : 0 ≤ j) (hj : j < 150) (hb : b.length < 1000) :
    ∃ (x r y : Int), evSs ⟨run prog k, prog.glo⟩ (.cons (.asg (.n 9) (.bin .mul (.bin .mod (.var 5) (.ix (.var 4) (.bin .mod (.var 8) (.c (.int 8))))) (.bin .add (.c (.int 48271)) (.bin .mul (.bin .mul (.c (.int 2)) (.var 8)) (.var 8))))) (.cons (.asg (.n 9) (.bin .add (.bin .add (.var 9) (.bin .mul (.bin .mul (.c (.int 7919)) (.bin .add (.var 8) (.c (.int 1)))) (.bin .add (.var 8) (.c (.int 1))))) (.bin .mul (.c (.int 104729)) (.var 1)))) (.cons (.asg (.n 9) (.bin .mod (.var 9) (.ix (.var 4) (.bin .mod (.bin .add (.bin .mul (.c (.int 3)) (.var 8)) (.var 1)) (.c (.int 8)))))) (.cons (.asg (.n 9) (.bin .mod (.bin .mul (.bin .mul (.var 9) (.var 9)) (.var 9)) (.ix (.var 4) (.bin .mod (.bin .add (.var 8) (.c (.int 5))) (.c (.int 8)))))) (.cons (.ite (.val (.cmp .gt (.var 6) (.c (.int 0)))) (.cons (.asg (.n 9) (.var 6)) .nil) .nil) (.cons (.ex (.me .append (.var 7) (.cons (.bin .mod (.var 9) (.var 3)) .nil))) (.cons (.asg (.n 6) (.bin .fdiv (.var 6) (.var 3))) .nil))))))) [some (.t (.scr ns)), some (.t (.int i)), some (.t (.int 150)), some (.t (.int 27720)), some (.t (.tup PR)), some (.t (.int c)), some (.t (.int rest)), some (.l S.L.length), some (.t (.int j)), v9] ⟨S.L ++ [b.map T.int], S.O⟩
      = .ok (.next, [some (.t (.scr ns)), some (.t (.int i)), some (.t (.int 150)), some (.t (.int 27720)), some (.t (.tup PR)), some (.t (.int c)), some (.t (.int r)), some (.l S.L.length), some (.t (.int j)), some (.t (.int y))]) ⟨S.L ++ [(b ++ [x]).map T.int], S.O⟩ := by
  have a0 : 0 ≤ j % 8 := Int.emod_nonneg _ (by omega)
  have a1 : j % 8 < 8 := Int.emod_lt_of_pos _ (by omega)
  have b0 : 0 ≤ (3 * j + i) % 8 := Int.emod_nonneg _ (by omega)
  have b1 : (3 * j + i) % 8 < 8 := Int.emod_lt_of_pos _ (by omega)
  have c0 : 0 ≤ (j + 5) % 8 := Int.emod_nonneg _ (by omega)
  have c1 : (j + 5) % 8 < 8 := Int.emod_lt_of_pos _ (by omega)
  obtain ⟨p1, e1, f1, g1⟩ := pr_at (j % 8).toNat (by omega)
  obtain ⟨p2, e2, f2, g2⟩ := pr_at ((3 * j + i) % 8).toNat (by omega)
  obtain ⟨p3, e3, f3, g3⟩ := pr_at ((j + 5) % 8).toNat (by omega)
  have h1 : j.natAbs < 18446744073709551616 := by omega
  have h2 : (j + 1).natAbs < 18446744073709551616 := by omega
  have h3 := fun x => mod_small (x := x) f1 g1
  have h4 := fun x => mod_small (x := x) f2 g2
  have hb2 : b.length < 16777216 := by omega
  generalize hm1 : j % 8 = m1 at *
  generalize hm2 : (3 * j + i) % 8 = m2 at *
  generalize hm3 : (j + 5) % 8 = m3 at *
  obtain ⟨l1, e1⟩ := List.getElem?_eq_some_iff.1 e1
  obtain ⟨l2, e2⟩ := List.getElem?_eq_some_iff.1 e2
  obtain ⟨l3, e3⟩ := List.getElem?_eq_some_iff.1 e3
  simp only [PR] at *
  by_cases hr : 0 < rest
  · refine ⟨rest % 27720, rest / 27720, rest, ?_⟩
    simp [↓mb, ↓pu, ↓gd, ↓opt_some, ↓bad_app, ↓rv_val, ↓nox_app, ↓ite_a, ↓z_evE_1, ↓z_evE_2, ↓z_evE_3, ↓z_evE_4, ↓z_evE_5, ↓z_evE_6, ↓z_evE_7, ↓z_evE_8, ↓z_evE_9, ↓z_evE_10, ↓z_evE_11, ↓z_evE_12, ↓z_evE_13, ↓z_evE_14, ↓z_evE_15, ↓z_evE_16, ↓z_evE_17, ↓z_evE_18, ↓z_evE_19, ↓z_evE_20, ↓z_evE_21, ↓z_evE_22, ↓z_evE_23, ↓z_evE_24, ↓z_evRs_1, ↓z_evRs_2, ↓z_evO_1, ↓z_evO_2, ↓z_evT_1, ↓z_evT_2, ↓z_evT_3, ↓z_evT_4, ↓z_evC_1, ↓z_evC_2, ↓z_evIt_1, ↓z_evIt_3, ↓z_evIt_4, ↓z_evIt_5, ↓z_evIt_6, ↓z_evS_1, ↓z_evS_2, ↓z_evS_3, ↓z_evS_4, ↓z_evS_5, ↓z_evS_6, ↓z_evS_7, ↓z_evS_8, ↓z_evS_9, ↓z_evS_10, ↓z_evS_11, ↓z_evS_12, ↓z_evS_13, ↓z_evSs_1, ↓z_evSs_2, ↓evIt_rng, leave, start, slotRv, Rv.tree, Rv.isI, Rv.isB, Rv.isS, T.isI, T.isB, T.isS, Rv.w, Rv.lst, Rv.seq, lstAt, seqAt, Rv.data, binop, cmpop, eqRv, inRv, ltRv, isRv, truth, isTy, isiRv, lenRv, LL.bi, biLen, biAll, biAny, biInt, biStr, biTuple, biList, biSorted, meFind, meCount, meJoin, meS, meL, meAppend, meInsert, mePop0, putL, getL, meRv, meTy, ixRv, slRv, revRv, src1, src2, src3, src4, src5, bindTg, bindTs, wipe, treesOf, tupOf, lstOf, app, Sto.trunc, glo0, glo1, glo2, SZ, -List.map_map, ixOf, T.eqOk, T.data, T.datas, T.calm, T.calms, T.depth, T.depths, T.beq, T.beqs, *]
  · refine ⟨((c % p1 * (48271 + 2 * j * j) + 7919 * (j + 1) * (j + 1) + 104729 * i) % p2 * ((c % p1 * (48271 + 2 * j * j) + 7919 * (j + 1) * (j + 1) + 104729 * i) % p2) * ((c % p1 * (48271 + 2 * j * j) + 7919 * (j + 1) * (j + 1) + 104729 * i) % p2) % p3) % 27720, rest / 27720, ((c % p1 * (48271 + 2 * j * j) + 7919 * (j + 1) * (j + 1) + 104729 * i) % p2 * ((c % p1 * (48271 + 2 * j * j) + 7919 * (j + 1) * (j + 1) + 104729 * i) % p2) * ((c % p1 * (48271 + 2 * j * j) + 7919 * (j + 1) * (j + 1) + 104729 * i) % p2) % p3), ?_⟩
    simp [↓mb, ↓pu, ↓gd, ↓opt_some, ↓bad_app, ↓rv_val, ↓nox_app, ↓ite_a, ↓z_evE_1, ↓z_evE_2, ↓z_evE_3, ↓z_evE_4, ↓z_evE_5, ↓z_evE_6, ↓z_evE_7, ↓z_evE_8, ↓z_evE_9, ↓z_evE_10, ↓z_evE_11, ↓z_evE_12, ↓z_evE_13, ↓z_evE_14, ↓z_evE_15, ↓z_evE_16, ↓z_evE_17, ↓z_evE_18, ↓z_evE_19, ↓z_evE_20, ↓z_evE_21, ↓z_evE_22, ↓z_evE_23, ↓z_evE_24, ↓z_evRs_1, ↓z_evRs_2, ↓z_evO_1, ↓z_evO_2, ↓z_evT_1, ↓z_evT_2, ↓z_evT_3, ↓z_evT_4, ↓z_evC_1, ↓z_evC_2, ↓z_evIt_1, ↓z_evIt_3, ↓z_evIt_4, ↓z_evIt_5, ↓z_evIt_6, ↓z_evS_1, ↓z_evS_2, ↓z_evS_3, ↓z_evS_4, ↓z_evS_5, ↓z_evS_6, ↓z_evS_7, ↓z_evS_8, ↓z_evS_9, ↓z_evS_10, ↓z_evS_11, ↓z_evS_12, ↓z_evS_13, ↓z_evSs_1, ↓z_evSs_2, ↓evIt_rng, leave, start, slotRv, Rv.tree, Rv.isI, Rv.isB, Rv.isS, T.isI, T.isB, T.isS, Rv.w, Rv.lst, Rv.seq, lstAt, seqAt, Rv.data, binop, cmpop, eqRv, inRv, ltRv, isRv, truth, isTy, isiRv, lenRv, LL.bi, biLen, biAll, biAny, biInt, biStr, biTuple, biList, biSorted, meFind, meCount, meJoin, meS, meL, meAppend, meInsert, mePop0, putL, getL, meRv, meTy, ixRv, slRv, revRv, src1, src2, src3, src4, src5, bindTg, bindTs, wipe, treesOf, tupOf, lstOf, app, Sto.trunc, glo0, glo1, glo2, SZ, -List.map_map, ixOf, T.eqOk, T.data, T.datas, T.calm, T.calms, T.depth, T.depths, T.beq, T.beqs, *]
theorem draws_loop {k : Nat} {S : Sto} {ns : List Int} {i c : Int} (rest : Int) : ∃ (b : List Int) (σ' : Env) (u v w : Option W), forLoop [] (fun x σ => (do
      let σ' ← bindTg (.n 8) x σ
      evSs ⟨run prog k, prog.glo⟩ (.cons (.asg (.n 9) (.bin .mul (.bin .mod (.var 5) (.ix (.var 4) (.bin .mod (.var 8) (.c (.int 8))))) (.bin .add (.c (.int 48271)) (.bin .mul (.bin .mul (.c (.int 2)) (.var 8)) (.var 8))))) (.cons (.asg (.n 9) (.bin .add (.bin .add (.var 9) (.bin .mul (.bin .mul (.c (.int 7919)) (.bin .add (.var 8) (.c (.int 1)))) (.bin .add (.var 8) (.c (.int 1))))) (.bin .mul (.c (.int 104729)) (.var 1)))) (.cons (.asg (.n 9) (.bin .mod (.var 9) (.ix (.var 4) (.bin .mod (.bin .add (.bin .mul (.c (.int 3)) (.var 8)) (.var 1)) (.c (.int 8)))))) (.cons (.asg (.n 9) (.bin .mod (.bin .mul (.bin .mul (.var 9) (.var 9)) (.var 9)) (.ix (.var 4) (.bin .mod (.bin .add (.var 8) (.c (.int 5))) (.c (.int 8)))))) (.cons (.ite (.val (.cmp .gt (.var 6) (.c (.int 0)))) (.cons (.asg (.n 9) (.var 6)) .nil) .nil) (.cons (.ex (.me .append (.var 7) (.cons (.bin .mod (.var 9) (.var 3)) .nil))) (.cons (.asg (.n 6) (.bin .fdiv (.var 6) (.var 3))) .nil))))))) σ' : M (Fl × Env))) (rngItems 0 150) [some (.t (.scr ns)), some (.t (.int i)), some (.t (.int 150)), some (.t (.int 27720)), some (.t (.tup PR)), some (.t (.int c)), some (.t (.int rest)), some (.l S.L.length), none, none] ⟨S.L ++ [[]], S.O⟩
      = .ok (.next, [some (.t (.scr ns)), some (.t (.int i)), some (.t (.int 150)), some (.t (.int 27720)), some (.t (.tup PR)), some (.t (.int c)), u, some (.l S.L.length), v, w]) ⟨S.L ++ [b.map T.int], S.O⟩ := by
  obtain ⟨σ', s', e, r, b, v, w, hs, hσ, _⟩ := for_inv (ws := []) (step := fun x σ => (do
      let σ' ← bindTg (.n 8) x σ
      evSs ⟨run prog k, prog.glo⟩ (.cons (.asg (.n 9) (.bin .mul (.bin .mod (.var 5) (.ix (.var 4) (.bin .mod (.var 8) (.c (.int 8))))) (.bin .add (.c (.int 48271)) (.bin .mul (.bin .mul (.c (.int 2)) (.var 8)) (.var 8))))) (.cons (.asg (.n 9) (.bin .add (.bin .add (.var 9) (.bin .mul (.bin .mul (.c (.int 7919)) (.bin .add (.var 8) (.c (.int 1)))) (.bin .add (.var 8) (.c (.int 1))))) (.bin .mul (.c (.int 104729)) (.var 1)))) (.cons (.asg (.n 9) (.bin .mod (.var 9) (.ix (.var 4) (.bin .mod (.bin .add (.bin .mul (.c (.int 3)) (.var 8)) (.var 1)) (.c (.int 8)))))) (.cons (.asg (.n 9) (.bin .mod (.bin .mul (.bin .mul (.var 9) (.var 9)) (.var 9)) (.ix (.var 4) (.bin .mod (.bin .add (.var 8) (.c (.int 5))) (.c (.int 8)))))) (.cons (.ite (.val (.cmp .gt (.var 6) (.c (.int 0)))) (.cons (.asg (.n 9) (.var 6)) .nil) .nil) (.cons (.ex (.me .append (.var 7) (.cons (.bin .mod (.var 9) (.var 3)) .nil))) (.cons (.asg (.n 6) (.bin .fdiv (.var 6) (.var 3))) .nil))))))) σ' : M (Fl × Env)))
    (fun d σ s => ∃ (r : Int) (b : List Int) (v w : Option W), s = ⟨S.L ++ [b.map T.int], S.O⟩ ∧ σ = [some (.t (.scr ns)), some (.t (.int i)), some (.t (.int 150)), some (.t (.int 27720)), some (.t (.tup PR)), some (.t (.int c)), some (.t (.int r)), some (.l S.L.length), v, w] ∧ b.length = d.length) (rngItems 0 150) []
    (fun d σ s h => by simp [watchOk])
    (by
      intro d x r σ s he ⟨q, b, v, w, hs, hσ, hl⟩
      subst hs hσ
      obtain ⟨j, hj, rfl⟩ : ∃ j : Nat, j < 150 ∧ x = .int j := by
        have hx : x ∈ rngItems 0 150 := by rw [List.nil_append] at he; rw [he]; simp
        unfold rngItems at hx
        obtain ⟨j, hj, rfl⟩ := List.mem_map.1 hx
        exact ⟨j, List.mem_range.1 hj, by simp⟩
      have hd : d.length < 1000 := by
        have h2 := congrArg List.length he
        rw [List.nil_append] at h2
        have : (rngItems 0 150).length = 150 := by unfold rngItems; simp
        rw [this] at h2
        simp at h2
        omega
      obtain ⟨x, q', y, e⟩ := draws_step (k := k) (S := S) (ns := ns) (i := i) (j := j) (c := c) (rest := q) (b := b) (v8 := v) (v9 := w) (by omega) (by omega) (by omega)
      exact ⟨[some (.t (.scr ns)), some (.t (.int i)), some (.t (.int 150)), some (.t (.int 27720)), some (.t (.tup PR)), some (.t (.int c)), some (.t (.int q')), some (.l S.L.length), some (.t (.int (j : Int))), some (.t (.int y))], ⟨S.L ++ [(b ++ [x]).map T.int], S.O⟩, by simp only [bindTg, ↓mb, ↓pu, List.set_cons_zero, List.set_cons_succ, e], q', b ++ [x], some (.t (.int (j : Int))), some (.t (.int y)), rfl, rfl, by simp [hl]⟩)
    [some (.t (.scr ns)), some (.t (.int i)), some (.t (.int 150)), some (.t (.int 27720)), some (.t (.tup PR)), some (.t (.int c)), some (.t (.int rest)), some (.l S.L.length), none, none] ⟨S.L ++ [[]], S.O⟩ ⟨rest, [], none, none, rfl, rfl, rfl⟩
  subst hs hσ
  exact ⟨b, [], _, _, _, e⟩
theorem draws_t {k : Nat} {S : Sto} {ns : List Int} {i : Nat} : ∃ b : List Int, run prog (k + 2) 16 [.t (.scr ns), .t (.int (i : Int)), .t (.int 150), .t (.int 27720)] S = .ok (.new (b.map T.int)) S := by
  obtain ⟨c, e1⟩ := cell_t (k := k) (S := S) (ns := ns) (i := i)
  have hr : ∀ s, rngG 150 s = .ok ⟨rngItems 0 150, []⟩ s := fun s => rngG_ok (by omega) (by omega)
  by_cases h : (1000000000000000000 : Int) ≤ c
  · obtain ⟨b, _, u, v, w, e⟩ := draws_loop (k := k + 1) (S := S) (ns := ns) (i := (i : Int)) (c := c) c
    refine ⟨b, ?_⟩
    rw [run_fn (rfl : prog.fn 16 = some F__law_draws)]
    simp [F__law_draws, ↓mb, ↓pu, ↓gd, ↓opt_some, ↓bad_app, ↓rv_val, ↓nox_app, ↓ite_a, ↓z_evE_1, ↓z_evE_2, ↓z_evE_3, ↓z_evE_4, ↓z_evE_5, ↓z_evE_6, ↓z_evE_7, ↓z_evE_8, ↓z_evE_9, ↓z_evE_10, ↓z_evE_11, ↓z_evE_12, ↓z_evE_13, ↓z_evE_14, ↓z_evE_15, ↓z_evE_16, ↓z_evE_17, ↓z_evE_18, ↓z_evE_19, ↓z_evE_20, ↓z_evE_21, ↓z_evE_22, ↓z_evE_23, ↓z_evE_24, ↓z_evRs_1, ↓z_evRs_2, ↓z_evO_1, ↓z_evO_2, ↓z_evT_1, ↓z_evT_2, ↓z_evT_3, ↓z_evT_4, ↓z_evC_1, ↓z_evC_2, ↓z_evIt_1, ↓z_evIt_3, ↓z_evIt_4, ↓z_evIt_5, ↓z_evIt_6, ↓z_evS_1, ↓z_evS_2, ↓z_evS_3, ↓z_evS_4, ↓z_evS_5, ↓z_evS_6, ↓z_evS_7, ↓z_evS_8, ↓z_evS_9, ↓z_evS_10, ↓z_evS_11, ↓z_evS_12, ↓z_evS_13, ↓z_evSs_1, ↓z_evSs_2, ↓evIt_rng, leave, start, slotRv, Rv.tree, Rv.isI, Rv.isB, Rv.isS, T.isI, T.isB, T.isS, Rv.w, Rv.lst, Rv.seq, lstAt, seqAt, Rv.data, binop, cmpop, eqRv, inRv, ltRv, isRv, truth, isTy, isiRv, lenRv, LL.bi, biLen, biAll, biAny, biInt, biStr, biTuple, biList, biSorted, meFind, meCount, meJoin, meS, meL, meAppend, meInsert, mePop0, putL, getL, meRv, meTy, ixRv, slRv, revRv, src1, src2, src3, src4, src5, bindTg, bindTs, wipe, treesOf, tupOf, lstOf, app, Sto.trunc, glo0, glo1, glo2, SZ, -List.map_map, ixOf, T.eqOk, T.data, T.datas, T.calm, T.calms, T.depth, T.depths, T.beq, T.beqs, e1, h, hr]
    simp [↓mb, ↓pu, ↓gd, ↓opt_some, ↓bad_app, ↓rv_val, ↓nox_app, ↓ite_a, ↓z_evE_1, ↓z_evE_2, ↓z_evE_3, ↓z_evE_4, ↓z_evE_5, ↓z_evE_6, ↓z_evE_7, ↓z_evE_8, ↓z_evE_9, ↓z_evE_10, ↓z_evE_11, ↓z_evE_12, ↓z_evE_13, ↓z_evE_14, ↓z_evE_15, ↓z_evE_16, ↓z_evE_17, ↓z_evE_18, ↓z_evE_19, ↓z_evE_20, ↓z_evE_21, ↓z_evE_22, ↓z_evE_23, ↓z_evE_24, ↓z_evRs_1, ↓z_evRs_2, ↓z_evO_1, ↓z_evO_2, ↓z_evT_1, ↓z_evT_2, ↓z_evT_3, ↓z_evT_4, ↓z_evC_1, ↓z_evC_2, ↓z_evIt_1, ↓z_evIt_3, ↓z_evIt_4, ↓z_evIt_5, ↓z_evIt_6, ↓z_evS_1, ↓z_evS_2, ↓z_evS_3, ↓z_evS_4, ↓z_evS_5, ↓z_evS_6, ↓z_evS_7, ↓z_evS_8, ↓z_evS_9, ↓z_evS_10, ↓z_evS_11, ↓z_evS_12, ↓z_evS_13, ↓z_evSs_1, ↓z_evSs_2, ↓evIt_rng, leave, start, slotRv, Rv.tree, Rv.isI, Rv.isB, Rv.isS, T.isI, T.isB, T.isS, Rv.w, Rv.lst, Rv.seq, lstAt, seqAt, Rv.data, binop, cmpop, eqRv, inRv, ltRv, isRv, truth, isTy, isiRv, lenRv, LL.bi, biLen, biAll, biAny, biInt, biStr, biTuple, biList, biSorted, meFind, meCount, meJoin, meS, meL, meAppend, meInsert, mePop0, putL, getL, meRv, meTy, ixRv, slRv, revRv, src1, src2, src3, src4, src5, bindTg, bindTs, wipe, treesOf, tupOf, lstOf, app, Sto.trunc, glo0, glo1, glo2, SZ, -List.map_map, ixOf, T.eqOk, T.data, T.datas, T.calm, T.calms, T.depth, T.depths, T.beq, T.beqs] at e
    rw [e]
    simp [↓mb, ↓pu, ↓gd, ↓opt_some, ↓bad_app, ↓rv_val, ↓nox_app, ↓ite_a, ↓z_evE_1, ↓z_evE_2, ↓z_evE_3, ↓z_evE_4, ↓z_evE_5, ↓z_evE_6, ↓z_evE_7, ↓z_evE_8, ↓z_evE_9, ↓z_evE_10, ↓z_evE_11, ↓z_evE_12, ↓z_evE_13, ↓z_evE_14, ↓z_evE_15, ↓z_evE_16, ↓z_evE_17, ↓z_evE_18, ↓z_evE_19, ↓z_evE_20, ↓z_evE_21, ↓z_evE_22, ↓z_evE_23, ↓z_evE_24, ↓z_evRs_1, ↓z_evRs_2, ↓z_evO_1, ↓z_evO_2, ↓z_evT_1, ↓z_evT_2, ↓z_evT_3, ↓z_evT_4, ↓z_evC_1, ↓z_evC_2, ↓z_evIt_1, ↓z_evIt_3, ↓z_evIt_4, ↓z_evIt_5, ↓z_evIt_6, ↓z_evS_1, ↓z_evS_2, ↓z_evS_3, ↓z_evS_4, ↓z_evS_5, ↓z_evS_6, ↓z_evS_7, ↓z_evS_8, ↓z_evS_9, ↓z_evS_10, ↓z_evS_11, ↓z_evS_12, ↓z_evS_13, ↓z_evSs_1, ↓z_evSs_2, ↓evIt_rng, leave, start, slotRv, Rv.tree, Rv.isI, Rv.isB, Rv.isS, T.isI, T.isB, T.isS, Rv.w, Rv.lst, Rv.seq, lstAt, seqAt, Rv.data, binop, cmpop, eqRv, inRv, ltRv, isRv, truth, isTy, isiRv, lenRv, LL.bi, biLen, biAll, biAny, biInt, biStr, biTuple, biList, biSorted, meFind, meCount, meJoin, meS, meL, meAppend, meInsert, mePop0, putL, getL, meRv, meTy, ixRv, slRv, revRv, src1, src2, src3, src4, src5, bindTg, bindTs, wipe, treesOf, tupOf, lstOf, app, Sto.trunc, glo0, glo1, glo2, SZ, -List.map_map, ixOf, T.eqOk, T.data, T.datas, T.calm, T.calms, T.depth, T.depths, T.beq, T.beqs]
  · obtain ⟨b, _, u, v, w, e⟩ := draws_loop (k := k + 1) (S := S) (ns := ns) (i := (i : Int)) (c := c) 0
    refine ⟨b, ?_⟩
    rw [run_fn (rfl : prog.fn 16 = some F__law_draws)]
    simp [F__law_draws, ↓mb, ↓pu, ↓gd, ↓opt_some, ↓bad_app, ↓rv_val, ↓nox_app, ↓ite_a, ↓z_evE_1, ↓z_evE_2, ↓z_evE_3, ↓z_evE_4, ↓z_evE_5, ↓z_evE_6, ↓z_evE_7, ↓z_evE_8, ↓z_evE_9, ↓z_evE_10, ↓z_evE_11, ↓z_evE_12, ↓z_evE_13, ↓z_evE_14, ↓z_evE_15, ↓z_evE_16, ↓z_evE_17, ↓z_evE_18, ↓z_evE_19, ↓z_evE_20, ↓z_evE_21, ↓z_evE_22, ↓z_evE_23, ↓z_evE_24, ↓z_evRs_1, ↓z_evRs_2, ↓z_evO_1, ↓z_evO_2, ↓z_evT_1, ↓z_evT_2, ↓z_evT_3, ↓z_evT_4, ↓z_evC_1, ↓z_evC_2, ↓z_evIt_1, ↓z_evIt_3, ↓z_evIt_4, ↓z_evIt_5, ↓z_evIt_6, ↓z_evS_1, ↓z_evS_2, ↓z_evS_3, ↓z_evS_4, ↓z_evS_5, ↓z_evS_6, ↓z_evS_7, ↓z_evS_8, ↓z_evS_9, ↓z_evS_10, ↓z_evS_11, ↓z_evS_12, ↓z_evS_13, ↓z_evSs_1, ↓z_evSs_2, ↓evIt_rng, leave, start, slotRv, Rv.tree, Rv.isI, Rv.isB, Rv.isS, T.isI, T.isB, T.isS, Rv.w, Rv.lst, Rv.seq, lstAt, seqAt, Rv.data, binop, cmpop, eqRv, inRv, ltRv, isRv, truth, isTy, isiRv, lenRv, LL.bi, biLen, biAll, biAny, biInt, biStr, biTuple, biList, biSorted, meFind, meCount, meJoin, meS, meL, meAppend, meInsert, mePop0, putL, getL, meRv, meTy, ixRv, slRv, revRv, src1, src2, src3, src4, src5, bindTg, bindTs, wipe, treesOf, tupOf, lstOf, app, Sto.trunc, glo0, glo1, glo2, SZ, -List.map_map, ixOf, T.eqOk, T.data, T.datas, T.calm, T.calms, T.depth, T.depths, T.beq, T.beqs, e1, h, hr]
    simp [↓mb, ↓pu, ↓gd, ↓opt_some, ↓bad_app, ↓rv_val, ↓nox_app, ↓ite_a, ↓z_evE_1, ↓z_evE_2, ↓z_evE_3, ↓z_evE_4, ↓z_evE_5, ↓z_evE_6, ↓z_evE_7, ↓z_evE_8, ↓z_evE_9, ↓z_evE_10, ↓z_evE_11, ↓z_evE_12, ↓z_evE_13, ↓z_evE_14, ↓z_evE_15, ↓z_evE_16, ↓z_evE_17, ↓z_evE_18, ↓z_evE_19, ↓z_evE_20, ↓z_evE_21, ↓z_evE_22, ↓z_evE_23, ↓z_evE_24, ↓z_evRs_1, ↓z_evRs_2, ↓z_evO_1, ↓z_evO_2, ↓z_evT_1, ↓z_evT_2, ↓z_evT_3, ↓z_evT_4, ↓z_evC_1, ↓z_evC_2, ↓z_evIt_1, ↓z_evIt_3, ↓z_evIt_4, ↓z_evIt_5, ↓z_evIt_6, ↓z_evS_1, ↓z_evS_2, ↓z_evS_3, ↓z_evS_4, ↓z_evS_5, ↓z_evS_6, ↓z_evS_7, ↓z_evS_8, ↓z_evS_9, ↓z_evS_10, ↓z_evS_11, ↓z_evS_12, ↓z_evS_13, ↓z_evSs_1, ↓z_evSs_2, ↓evIt_rng, leave, start, slotRv, Rv.tree, Rv.isI, Rv.isB, Rv.isS, T.isI, T.isB, T.isS, Rv.w, Rv.lst, Rv.seq, lstAt, seqAt, Rv.data, binop, cmpop, eqRv, inRv, ltRv, isRv, truth, isTy, isiRv, lenRv, LL.bi, biLen, biAll, biAny, biInt, biStr, biTuple, biList, biSorted, meFind, meCount, meJoin, meS, meL, meAppend, meInsert, mePop0, putL, getL, meRv, meTy, ixRv, slRv, revRv, src1, src2, src3, src4, src5, bindTg, bindTs, wipe, treesOf, tupOf, lstOf, app, Sto.trunc, glo0, glo1, glo2, SZ, -List.map_map, ixOf, T.eqOk, T.data, T.datas, T.calm, T.calms, T.depth, T.depths, T.beq, T.beqs] at e
    rw [e]
    simp [↓mb, ↓pu, ↓gd, ↓opt_some, ↓bad_app, ↓rv_val, ↓nox_app, ↓ite_a, ↓z_evE_1, ↓z_evE_2, ↓z_evE_3, ↓z_evE_4, ↓z_evE_5, ↓z_evE_6, ↓z_evE_7, ↓z_evE_8, ↓z_evE_9, ↓z_evE_10, ↓z_evE_11, ↓z_evE_12, ↓z_evE_13, ↓z_evE_14, ↓z_evE_15, ↓z_evE_16, ↓z_evE_17, ↓z_evE_18, ↓z_evE_19, ↓z_evE_20, ↓z_evE_21, ↓z_evE_22, ↓z_evE_23, ↓z_evE_24, ↓z_evRs_1, ↓z_evRs_2, ↓z_evO_1, ↓z_evO_2, ↓z_evT_1, ↓z_evT_2, ↓z_evT_3, ↓z_evT_4, ↓z_evC_1, ↓z_evC_2, ↓z_evIt_1, ↓z_evIt_3, ↓z_evIt_4, ↓z_evIt_5, ↓z_evIt_6, ↓z_evS_1, ↓z_evS_2, ↓z_evS_3, ↓z_evS_4, ↓z_evS_5, ↓z_evS_6, ↓z_evS_7, ↓z_evS_8, ↓z_evS_9, ↓z_evS_10, ↓z_evS_11, ↓z_evS_12, ↓z_evS_13, ↓z_evSs_1, ↓z_evSs_2, ↓evIt_rng, leave, start, slotRv, Rv.tree, Rv.isI, Rv.isB, Rv.isS, T.isI, T.isB, T.isS, Rv.w, Rv.lst, Rv.seq, lstAt, seqAt, Rv.data, binop, cmpop, eqRv, inRv, ltRv, isRv, truth, isTy, isiRv, lenRv, LL.bi, biLen, biAll, biAny, biInt, biStr, biTuple, biList, biSorted, meFind, meCount, meJoin, meS, meL, meAppend, meInsert, mePop0, putL, getL, meRv, meTy, ixRv, slRv, revRv, src1, src2, src3, src4, src5, bindTg, bindTs, wipe, treesOf, tupOf, lstOf, app, Sto.trunc, glo0, glo1, glo2, SZ, -List.map_map, ixOf, T.eqOk, T.data, T.datas, T.calm, T.calms, T.depth, T.depths, T.beq, T.beqs]
theorem bag_t {k : Nat} {S : Sto} {ns : List Int} {i : Nat} : ∃ b : List Int, run prog (k + 3) 17 [.t (.scr ns), .t (.int (i : Int))] S = .ok (.new (b.map T.int)) S := by
  obtain ⟨b, e⟩ := draws_t (k := k) (S := S) (ns := ns) (i := i)
  refine ⟨b, ?_⟩
  rw [run_fn (rfl : prog.fn 17 = some F__law_bag)]
  simp [F__law_bag, ↓mb, ↓pu, ↓gd, ↓opt_some, ↓bad_app, ↓rv_val, ↓nox_app, ↓ite_a, ↓z_evE_1, ↓z_evE_2, ↓z_evE_3, ↓z_evE_4, ↓z_evE_5, ↓z_evE_6, ↓z_evE_7, ↓z_evE_8, ↓z_evE_9, ↓z_evE_10, ↓z_evE_11, ↓z_evE_12, ↓z_evE_13, ↓z_evE_14, ↓z_evE_15, ↓z_evE_16, ↓z_evE_17, ↓z_evE_18, ↓z_evE_19, ↓z_evE_20, ↓z_evE_21, ↓z_evE_22, ↓z_evE_23, ↓z_evE_24, ↓z_evRs_1, ↓z_evRs_2, ↓z_evO_1, ↓z_evO_2, ↓z_evT_1, ↓z_evT_2, ↓z_evT_3, ↓z_evT_4, ↓z_evC_1, ↓z_evC_2, ↓z_evIt_1, ↓z_evIt_3, ↓z_evIt_4, ↓z_evIt_5, ↓z_evIt_6, ↓z_evS_1, ↓z_evS_2, ↓z_evS_3, ↓z_evS_4, ↓z_evS_5, ↓z_evS_6, ↓z_evS_7, ↓z_evS_8, ↓z_evS_9, ↓z_evS_10, ↓z_evS_11, ↓z_evS_12, ↓z_evS_13, ↓z_evSs_1, ↓z_evSs_2, ↓evIt_rng, leave, start, slotRv, Rv.tree, Rv.isI, Rv.isB, Rv.isS, T.isI, T.isB, T.isS, Rv.w, Rv.lst, Rv.seq, lstAt, seqAt, Rv.data, binop, cmpop, eqRv, inRv, ltRv, isRv, truth, isTy, isiRv, lenRv, LL.bi, biLen, biAll, biAny, biInt, biStr, biTuple, biList, biSorted, meFind, meCount, meJoin, meS, meL, meAppend, meInsert, mePop0, putL, getL, meRv, meTy, ixRv, slRv, revRv, src1, src2, src3, src4, src5, bindTg, bindTs, wipe, treesOf, tupOf, lstOf, app, Sto.trunc, glo0, glo1, glo2, SZ, -List.map_map, ixOf, T.eqOk, T.data, T.datas, T.calm, T.calms, T.depth, T.depths, T.beq, T.beqs, e]
end LLQ

set_option Elab.async false
set_option linter.all false
set_option autoImplicit false
set_option maxRecDepth 100000
set_option maxHeartbeats 400000
namespace LLQ
open LL LLS LLP
theorem cut_step {k n : Nat} {L : List (List T)} {b : List Int} {O : List Inst} {m t : Cs} {xs : List T} {tk pl : T} {v6 v7 : Option W} (hn : n < L.length) (hm : Man m) (ht : ∀ c ∈ t, c = 97 ∨ c = 98 ∨ c = 99) (hl : t.length ≤ 60) (hx : xs.length < 1000) :
    ∃ (u : Cs) (b' : List Int) (w : Option W), evSs ⟨run prog (k + 2), prog.glo⟩ (.cons (.asg (.n 6) (.lc [7] (.var 7) (.n 7) (.e (.var 5)) (.yes (.val (.cmp .gt (.call 18 (.cons (.var 0) (.cons (.c (.int 3)) .nil))) (.c (.int 0))))))) (.cons (.ex (.me .append (.var 3) (.cons (.call 26 (.cons (.var 4) (.cons (.var 6) .nil))) .nil))) .nil)) [some (.l n), some (.t tk), some (.t pl), some (.l L.length), some (.t (.str m)), some (.t (.str t)), v6, v7] ⟨L.set n (b.map T.int) ++ [xs], O⟩
      = .ok (.next, [some (.l n), some (.t tk), some (.t pl), some (.l L.length), some (.t (.str m)), some (.t (.str t)), w, v7]) ⟨L.set n (b'.map T.int) ++ [xs ++ [.str u]], O⟩ ∧ TxOk m u 60 := by
  have hset : ∀ (y x : List T), (L ++ [y]).set n x = L.set n x ++ [y] := fun y x => List.set_append_left _ _ hn
  obtain ⟨ys, s', e3, u, b3, hys, hs', hlen, habc⟩ := lc_inv (ws := []) (step := fun x acc => do
      let σ' ← bindTg (.n 7) x (wipe [some (.l n), some (.t tk), some (.t pl), some (.l L.length), some (.t (.str m)), some (.t (.str t)), v6, v7] [7])
      let b ← evC ⟨run prog (k + 2), prog.glo⟩ (.yes (.val (.cmp .gt (.call 18 (.cons (.var 0) (.cons (.c (.int 3)) .nil))) (.c (.int 0))))) σ'
      if b then do let r ← evE ⟨run prog (k + 2), prog.glo⟩ (.var 7) σ'; app acc r else M.pure acc)
    (fun d acc s' => ∃ (u : Cs) (b3 : List Int), acc = u.map (fun c => T.str [c]) ∧ s' = ⟨L.set n (b3.map T.int) ++ [xs], O⟩ ∧ u.length ≤ d.length ∧ ∀ c ∈ u, c = 97 ∨ c = 98 ∨ c = 99) (t.map fun c => T.str [c]) []
    (fun d acc s h => by simp [watchOk])
    (by
      intro d x r acc s' he ⟨u, b3, hacc, hs', hlen, habc⟩
      subst hacc hs'
      have hx : x ∈ t.map fun c => T.str [c] := by simp at he; rw [he]; simp
      obtain ⟨c, hc, rfl⟩ := List.mem_map.1 hx
      obtain ⟨w, b4, e4, hw0, hw1⟩ := take_t (k := k + 1) (L := L ++ [xs]) (b := b3) (O := O) (m := 3) (n := n) (by simp; omega) (by omega)
      simp only [hset] at e4
      have hd : u.length < 16777216 := by have := congrArg List.length he; simp at this; omega
      by_cases hw : 0 < w
      · refine ⟨(u ++ [c]).map (fun c => T.str [c]), ⟨L.set n (b4.map T.int) ++ [xs], O⟩, by simp [↓mb, ↓pu, ↓gd, ↓opt_some, ↓bad_app, ↓rv_val, ↓nox_app, ↓ite_a, ↓z_evE_1, ↓z_evE_2, ↓z_evE_3, ↓z_evE_4, ↓z_evE_5, ↓z_evE_6, ↓z_evE_7, ↓z_evE_8, ↓z_evE_9, ↓z_evE_10, ↓z_evE_11, ↓z_evE_12, ↓z_evE_13, ↓z_evE_14, ↓z_evE_15, ↓z_evE_16, ↓z_evE_17, ↓z_evE_18, ↓z_evE_19, ↓z_evE_20, ↓z_evE_21, ↓z_evE_22, ↓z_evE_23, ↓z_evE_24, ↓z_evRs_1, ↓z_evRs_2, ↓z_evO_1, ↓z_evO_2, ↓z_evT_1, ↓z_evT_2, ↓z_evT_3, ↓z_evT_4, ↓z_evC_1, ↓z_evC_2, ↓z_evIt_1, ↓z_evIt_3, ↓z_evIt_4, ↓z_evIt_5, ↓z_evIt_6, ↓z_evS_1, ↓z_evS_2, ↓z_evS_3, ↓z_evS_4, ↓z_evS_5, ↓z_evS_6, ↓z_evS_7, ↓z_evS_8, ↓z_evS_9, ↓z_evS_10, ↓z_evS_11, ↓z_evS_12, ↓z_evS_13, ↓z_evSs_1, ↓z_evSs_2, ↓evIt_rng, leave, start, slotRv, Rv.tree, Rv.isI, Rv.isB, Rv.isS, T.isI, T.isB, T.isS, Rv.w, Rv.lst, Rv.seq, lstAt, seqAt, Rv.data, binop, cmpop, eqRv, inRv, ltRv, isRv, truth, isTy, isiRv, lenRv, LL.bi, biLen, biAll, biAny, biInt, biStr, biTuple, biList, biSorted, meFind, meCount, meJoin, meS, meL, meAppend, meInsert, mePop0, putL, getL, meRv, meTy, ixRv, slRv, revRv, src1, src2, src3, src4, src5, bindTg, bindTs, wipe, treesOf, tupOf, lstOf, app, Sto.trunc, glo0, glo1, glo2, SZ, -List.map_map, ixOf, T.eqOk, T.data, T.datas, T.calm, T.calms, T.depth, T.depths, T.beq, T.beqs, e4, hw, hd], u ++ [c], b4, rfl, rfl, by simp; omega, ?_⟩
        intro y hy
        rcases List.mem_append.1 hy with h | h
        · exact habc y h
        · rw [List.mem_singleton] at h; subst h; exact ht y hc
      · exact ⟨u.map (fun c => T.str [c]), ⟨L.set n (b4.map T.int) ++ [xs], O⟩, by simp [↓mb, ↓pu, ↓gd, ↓opt_some, ↓bad_app, ↓rv_val, ↓nox_app, ↓ite_a, ↓z_evE_1, ↓z_evE_2, ↓z_evE_3, ↓z_evE_4, ↓z_evE_5, ↓z_evE_6, ↓z_evE_7, ↓z_evE_8, ↓z_evE_9, ↓z_evE_10, ↓z_evE_11, ↓z_evE_12, ↓z_evE_13, ↓z_evE_14, ↓z_evE_15, ↓z_evE_16, ↓z_evE_17, ↓z_evE_18, ↓z_evE_19, ↓z_evE_20, ↓z_evE_21, ↓z_evE_22, ↓z_evE_23, ↓z_evE_24, ↓z_evRs_1, ↓z_evRs_2, ↓z_evO_1, ↓z_evO_2, ↓z_evT_1, ↓z_evT_2, ↓z_evT_3, ↓z_evT_4, ↓z_evC_1, ↓z_evC_2, ↓z_evIt_1, ↓z_evIt_3, ↓z_evIt_4, ↓z_evIt_5, ↓z_evIt_6, ↓z_evS_1, ↓z_evS_2, ↓z_evS_3, ↓z_evS_4, ↓z_evS_5, ↓z_evS_6, ↓z_evS_7, ↓z_evS_8, ↓z_evS_9, ↓z_evS_10, ↓z_evS_11, ↓z_evS_12, ↓z_evS_13, ↓z_evSs_1, ↓z_evSs_2, ↓evIt_rng, leave, start, slotRv, Rv.tree, Rv.isI, Rv.isB, Rv.isS, T.isI, T.isB, T.isS, Rv.w, Rv.lst, Rv.seq, lstAt, seqAt, Rv.data, binop, cmpop, eqRv, inRv, ltRv, isRv, truth, isTy, isiRv, lenRv, LL.bi, biLen, biAll, biAny, biInt, biStr, biTuple, biList, biSorted, meFind, meCount, meJoin, meS, meL, meAppend, meInsert, mePop0, putL, getL, meRv, meTy, ixRv, slRv, revRv, src1, src2, src3, src4, src5, bindTg, bindTs, wipe, treesOf, tupOf, lstOf, app, Sto.trunc, glo0, glo1, glo2, SZ, -List.map_map, ixOf, T.eqOk, T.data, T.datas, T.calm, T.calms, T.depth, T.depths, T.beq, T.beqs, e4, hw], u, b4, rfl, rfl, by simp; omega, habc⟩)
    [] ⟨L.set n (b.map T.int) ++ [xs], O⟩ ⟨[], b, rfl, rfl, by simp, by simp⟩
  subst hys hs'
  have hul : u.length ≤ 60 := by simp at hlen; omega
  obtain ⟨v, e5, hv⟩ := fitted_t (k := k + 1) (S := ⟨L.set n (b3.map T.int) ++ [xs], O⟩) hm habc hul
  refine ⟨v, b3, some (.t (.lst (u.map fun c => T.str [c]))), ?_, ⟨Nat.le_trans hv.len hul, hv.abc, hv.fit⟩⟩
  simp [↓mb, ↓pu, ↓gd, ↓opt_some, ↓bad_app, ↓rv_val, ↓nox_app, ↓ite_a, ↓z_evE_1, ↓z_evE_2, ↓z_evE_3, ↓z_evE_4, ↓z_evE_5, ↓z_evE_6, ↓z_evE_7, ↓z_evE_8, ↓z_evE_9, ↓z_evE_10, ↓z_evE_11, ↓z_evE_12, ↓z_evE_13, ↓z_evE_14, ↓z_evE_15, ↓z_evE_16, ↓z_evE_17, ↓z_evE_18, ↓z_evE_19, ↓z_evE_20, ↓z_evE_21, ↓z_evE_22, ↓z_evE_23, ↓z_evE_24, ↓z_evRs_1, ↓z_evRs_2, ↓z_evO_1, ↓z_evO_2, ↓z_evT_1, ↓z_evT_2, ↓z_evT_3, ↓z_evT_4, ↓z_evC_1, ↓z_evC_2, ↓z_evIt_1, ↓z_evIt_3, ↓z_evIt_4, ↓z_evIt_5, ↓z_evIt_6, ↓z_evS_1, ↓z_evS_2, ↓z_evS_3, ↓z_evS_4, ↓z_evS_5, ↓z_evS_6, ↓z_evS_7, ↓z_evS_8, ↓z_evS_9, ↓z_evS_10, ↓z_evS_11, ↓z_evS_12, ↓z_evS_13, ↓z_evSs_1, ↓z_evSs_2, ↓evIt_rng, leave, start, slotRv, Rv.tree, Rv.isI, Rv.isB, Rv.isS, T.isI, T.isB, T.isS, Rv.w, Rv.lst, Rv.seq, lstAt, seqAt, Rv.data, binop, cmpop, eqRv, inRv, ltRv, isRv, truth, isTy, isiRv, lenRv, LL.bi, biLen, biAll, biAny, biInt, biStr, biTuple, biList, biSorted, meFind, meCount, meJoin, meS, meL, meAppend, meInsert, mePop0, putL, getL, meRv, meTy, ixRv, slRv, revRv, src1, src2, src3, src4, src5, bindTg, bindTs, wipe, treesOf, tupOf, lstOf, app, Sto.trunc, glo0, glo1, glo2, SZ, -List.map_map, ixOf, T.eqOk, T.data, T.datas, T.calm, T.calms, T.depth, T.depths, T.beq, T.beqs]
  simp [↓mb, ↓pu, ↓gd, ↓opt_some, ↓bad_app, ↓rv_val, ↓nox_app, ↓ite_a, ↓z_evE_1, ↓z_evE_2, ↓z_evE_3, ↓z_evE_4, ↓z_evE_5, ↓z_evE_6, ↓z_evE_7, ↓z_evE_8, ↓z_evE_9, ↓z_evE_10, ↓z_evE_11, ↓z_evE_12, ↓z_evE_13, ↓z_evE_14, ↓z_evE_15, ↓z_evE_16, ↓z_evE_17, ↓z_evE_18, ↓z_evE_19, ↓z_evE_20, ↓z_evE_21, ↓z_evE_22, ↓z_evE_23, ↓z_evE_24, ↓z_evRs_1, ↓z_evRs_2, ↓z_evO_1, ↓z_evO_2, ↓z_evT_1, ↓z_evT_2, ↓z_evT_3, ↓z_evT_4, ↓z_evC_1, ↓z_evC_2, ↓z_evIt_1, ↓z_evIt_3, ↓z_evIt_4, ↓z_evIt_5, ↓z_evIt_6, ↓z_evS_1, ↓z_evS_2, ↓z_evS_3, ↓z_evS_4, ↓z_evS_5, ↓z_evS_6, ↓z_evS_7, ↓z_evS_8, ↓z_evS_9, ↓z_evS_10, ↓z_evS_11, ↓z_evS_12, ↓z_evS_13, ↓z_evSs_1, ↓z_evSs_2, ↓evIt_rng, leave, start, slotRv, Rv.tree, Rv.isI, Rv.isB, Rv.isS, T.isI, T.isB, T.isS, Rv.w, Rv.lst, Rv.seq, lstAt, seqAt, Rv.data, binop, cmpop, eqRv, inRv, ltRv, isRv, truth, isTy, isiRv, lenRv, LL.bi, biLen, biAll, biAny, biInt, biStr, biTuple, biList, biSorted, meFind, meCount, meJoin, meS, meL, meAppend, meInsert, mePop0, putL, getL, meRv, meTy, ixRv, slRv, revRv, src1, src2, src3, src4, src5, bindTg, bindTs, wipe, treesOf, tupOf, lstOf, app, Sto.trunc, glo0, glo1, glo2, SZ, -List.map_map, ixOf, T.eqOk, T.data, T.datas, T.calm, T.calms, T.depth, T.depths, T.beq, T.beqs] at e3
  rw [e3]
  have hx2 : xs.length < 16777216 := by omega
  simp [↓mb, ↓pu, ↓gd, ↓opt_some, ↓bad_app, ↓rv_val, ↓nox_app, ↓ite_a, ↓z_evE_1, ↓z_evE_2, ↓z_evE_3, ↓z_evE_4, ↓z_evE_5, ↓z_evE_6, ↓z_evE_7, ↓z_evE_8, ↓z_evE_9, ↓z_evE_10, ↓z_evE_11, ↓z_evE_12, ↓z_evE_13, ↓z_evE_14, ↓z_evE_15, ↓z_evE_16, ↓z_evE_17, ↓z_evE_18, ↓z_evE_19, ↓z_evE_20, ↓z_evE_21, ↓z_evE_22, ↓z_evE_23, ↓z_evE_24, ↓z_evRs_1, ↓z_evRs_2, ↓z_evO_1, ↓z_evO_2, ↓z_evT_1, ↓z_evT_2, ↓z_evT_3, ↓z_evT_4, ↓z_evC_1, ↓z_evC_2, ↓z_evIt_1, ↓z_evIt_3, ↓z_evIt_4, ↓z_evIt_5, ↓z_evIt_6, ↓z_evS_1, ↓z_evS_2, ↓z_evS_3, ↓z_evS_4, ↓z_evS_5, ↓z_evS_6, ↓z_evS_7, ↓z_evS_8, ↓z_evS_9, ↓z_evS_10, ↓z_evS_11, ↓z_evS_12, ↓z_evS_13, ↓z_evSs_1, ↓z_evSs_2, ↓evIt_rng, leave, start, slotRv, Rv.tree, Rv.isI, Rv.isB, Rv.isS, T.isI, T.isB, T.isS, Rv.w, Rv.lst, Rv.seq, lstAt, seqAt, Rv.data, binop, cmpop, eqRv, inRv, ltRv, isRv, truth, isTy, isiRv, lenRv, LL.bi, biLen, biAll, biAny, biInt, biStr, biTuple, biList, biSorted, meFind, meCount, meJoin, meS, meL, meAppend, meInsert, mePop0, putL, getL, meRv, meTy, ixRv, slRv, revRv, src1, src2, src3, src4, src5, bindTg, bindTs, wipe, treesOf, tupOf, lstOf, app, Sto.trunc, glo0, glo1, glo2, SZ, -List.map_map, ixOf, T.eqOk, T.data, T.datas, T.calm, T.calms, T.depth, T.depths, T.beq, T.beqs, e5, hx2]
theorem law_cut_t {k n : Nat} {L : List (List T)} {b : List Int} {O : List Inst} {a : Tk} {x : Pl} (hn : n < L.length) (ha : TkOk a) (hx : PlOk a x) :
    ∃ (y : Pl) (b' : List Int), run prog (k + 3) 63 [.l n, .t a.t, .t x.t] ⟨L.set n (b.map T.int), O⟩ = .ok (.v y.t) ⟨L.set n (b'.map T.int), O⟩ ∧ PlOk a y := by
  have hml : a.ms.length ≤ 2 := by have := ha.ms.1; omega
  have hxl := hx.len
  obtain ⟨σ', s', e, ts, b3, v4, v5, v6, hs, hσ, hlen, hfit⟩ := for_inv (ws := []) (step := fun z σ => (do
      let σ' ← bindTg (.tp [4, 5]) z σ
      evSs ⟨run prog (k + 2), prog.glo⟩ (.cons (.asg (.n 6) (.lc [7] (.var 7) (.n 7) (.e (.var 5)) (.yes (.val (.cmp .gt (.call 18 (.cons (.var 0) (.cons (.c (.int 3)) .nil))) (.c (.int 0))))))) (.cons (.ex (.me .append (.var 3) (.cons (.call 26 (.cons (.var 4) (.cons (.var 6) .nil))) .nil))) .nil)) σ' : M (Fl × Env)))
    (fun d σ s => ∃ (ts : List Cs) (b3 : List Int) (v4 v5 v6 : Option W), s = ⟨L.set n (b3.map T.int) ++ [ts.map T.str], O⟩ ∧ σ = [some (.l n), some (.t a.t), some (.t x.t), some (.l L.length), v4, v5, v6, none] ∧ ts.length = d.length ∧ ∀ z ∈ List.zip (a.ms.take d.length) ts, TxOk z.1 z.2 60) (zip2Items (a.ms.map T.str) (x.ts.map T.str)) []
    (fun d σ s h => by simp [watchOk])
    (by
      intro d z r σ s he ⟨ts, b3, v4, v5, v6, hs, hσ, hlen, hfit⟩
      subst hs hσ
      have hdl : d.length < a.ms.length := by
        have := congrArg List.length he
        simp [zip2Items, hxl] at this
        omega
      have hz : z = .tup [.str (a.ms[d.length]), .str (x.ts[d.length]'(by omega))] := by
        have : (zip2Items (a.ms.map T.str) (x.ts.map T.str))[d.length]? = some z := by rw [List.nil_append] at he; rw [he]; simp
        simp [zip2Items, hdl, hxl] at this
        exact this.symm
      subst hz
      have hmem : (a.ms[d.length], x.ts[d.length]'(by omega)) ∈ List.zip a.ms x.ts := List.mem_iff_getElem.2 ⟨d.length, by simp; omega, by simp⟩
      have hf := hx.fit _ hmem
      obtain ⟨u, b4, w, e4, hu⟩ := cut_step (k := k) (L := L) (b := b3) (O := O) (xs := ts.map T.str) (tk := a.t) (pl := x.t) (v6 := v6) (v7 := none) hn (ha.ms.2 _ (List.getElem_mem hdl)) hf.2.1 hf.1 (by simp; omega)
      refine ⟨[some (.l n), some (.t a.t), some (.t x.t), some (.l L.length), some (.t (.str (a.ms[d.length]))), some (.t (.str (x.ts[d.length]'(by omega)))), w, none], ⟨L.set n (b4.map T.int) ++ [(ts ++ [u]).map T.str], O⟩, ?_, ts ++ [u], b4, _, _, _, rfl, rfl, by simp [hlen], ?_⟩
      · simp only [bindTg, bindTs, ↓mb, ↓opt_some, List.set_cons_zero, List.set_cons_succ, e4, List.map_append, List.map_cons, List.map_nil]
      · intro z hz
        rw [List.length_append, List.length_singleton, List.take_succ, List.getElem?_eq_getElem hdl, Option.toList_some, List.zip_append (by simp; omega)] at hz
        rcases List.mem_append.1 hz with h | h
        · exact hfit z h
        · simp at h; subst h; exact hu)
    [some (.l n), some (.t a.t), some (.t x.t), some (.l L.length), none, none, none, none] ⟨L.set n (b.map T.int) ++ [[]], O⟩ ⟨[], b, none, none, none, rfl, rfl, rfl, by simp⟩
  subst hs hσ
  have hl2 : ts.length = a.ms.length := by simp [zip2Items, hxl] at hlen; omega
  refine ⟨⟨x.i, x.j, ts⟩, b3, ?_, ⟨hx.i0, hx.i1, hx.j0, hx.j1, hl2, fun z hz => ?_⟩⟩
  · rw [run_fn (rfl : prog.fn 63 = some F__law_cut)]
    simp [F__law_cut, Tk.t, Pl.t, ↓mb, ↓pu, ↓gd, ↓opt_some, ↓bad_app, ↓rv_val, ↓nox_app, ↓ite_a, ↓z_evE_1, ↓z_evE_2, ↓z_evE_3, ↓z_evE_4, ↓z_evE_5, ↓z_evE_6, ↓z_evE_7, ↓z_evE_8, ↓z_evE_9, ↓z_evE_10, ↓z_evE_11, ↓z_evE_12, ↓z_evE_13, ↓z_evE_14, ↓z_evE_15, ↓z_evE_16, ↓z_evE_17, ↓z_evE_18, ↓z_evE_19, ↓z_evE_20, ↓z_evE_21, ↓z_evE_22, ↓z_evE_23, ↓z_evE_24, ↓z_evRs_1, ↓z_evRs_2, ↓z_evO_1, ↓z_evO_2, ↓z_evT_1, ↓z_evT_2, ↓z_evT_3, ↓z_evT_4, ↓z_evC_1, ↓z_evC_2, ↓z_evIt_1, ↓z_evIt_3, ↓z_evIt_4, ↓z_evIt_5, ↓z_evIt_6, ↓z_evS_1, ↓z_evS_2, ↓z_evS_3, ↓z_evS_4, ↓z_evS_5, ↓z_evS_6, ↓z_evS_7, ↓z_evS_8, ↓z_evS_9, ↓z_evS_10, ↓z_evS_11, ↓z_evS_12, ↓z_evS_13, ↓z_evSs_1, ↓z_evSs_2, ↓evIt_rng, leave, start, slotRv, Rv.tree, Rv.isI, Rv.isB, Rv.isS, T.isI, T.isB, T.isS, Rv.w, Rv.lst, Rv.seq, lstAt, seqAt, Rv.data, binop, cmpop, eqRv, inRv, ltRv, isRv, truth, isTy, isiRv, lenRv, LL.bi, biLen, biAll, biAny, biInt, biStr, biTuple, biList, biSorted, meFind, meCount, meJoin, meS, meL, meAppend, meInsert, mePop0, putL, getL, meRv, meTy, ixRv, slRv, revRv, src1, src2, src3, src4, src5, bindTg, bindTs, wipe, treesOf, tupOf, lstOf, app, Sto.trunc, glo0, glo1, glo2, SZ, -List.map_map, ixOf, T.eqOk, T.data, T.datas, T.calm, T.calms, T.depth, T.depths, T.beq, T.beqs]
    simp [↓mb, ↓pu, ↓gd, ↓opt_some, ↓bad_app, ↓rv_val, ↓nox_app, ↓ite_a, ↓z_evE_1, ↓z_evE_2, ↓z_evE_3, ↓z_evE_4, ↓z_evE_5, ↓z_evE_6, ↓z_evE_7, ↓z_evE_8, ↓z_evE_9, ↓z_evE_10, ↓z_evE_11, ↓z_evE_12, ↓z_evE_13, ↓z_evE_14, ↓z_evE_15, ↓z_evE_16, ↓z_evE_17, ↓z_evE_18, ↓z_evE_19, ↓z_evE_20, ↓z_evE_21, ↓z_evE_22, ↓z_evE_23, ↓z_evE_24, ↓z_evRs_1, ↓z_evRs_2, ↓z_evO_1, ↓z_evO_2, ↓z_evT_1, ↓z_evT_2, ↓z_evT_3, ↓z_evT_4, ↓z_evC_1, ↓z_evC_2, ↓z_evIt_1, ↓z_evIt_3, ↓z_evIt_4, ↓z_evIt_5, ↓z_evIt_6, ↓z_evS_1, ↓z_evS_2, ↓z_evS_3, ↓z_evS_4, ↓z_evS_5, ↓z_evS_6, ↓z_evS_7, ↓z_evS_8, ↓z_evS_9, ↓z_evS_10, ↓z_evS_11, ↓z_evS_12, ↓z_evS_13, ↓z_evSs_1, ↓z_evSs_2, ↓evIt_rng, leave, start, slotRv, Rv.tree, Rv.isI, Rv.isB, Rv.isS, T.isI, T.isB, T.isS, Rv.w, Rv.lst, Rv.seq, lstAt, seqAt, Rv.data, binop, cmpop, eqRv, inRv, ltRv, isRv, truth, isTy, isiRv, lenRv, LL.bi, biLen, biAll, biAny, biInt, biStr, biTuple, biList, biSorted, meFind, meCount, meJoin, meS, meL, meAppend, meInsert, mePop0, putL, getL, meRv, meTy, ixRv, slRv, revRv, src1, src2, src3, src4, src5, bindTg, bindTs, wipe, treesOf, tupOf, lstOf, app, Sto.trunc, glo0, glo1, glo2, SZ, -List.map_map, ixOf, T.eqOk, T.data, T.datas, T.calm, T.calms, T.depth, T.depths, T.beq, T.beqs, Tk.t, Pl.t] at e
    rw [e]
    simp [↓mb, ↓pu, ↓gd, ↓opt_some, ↓bad_app, ↓rv_val, ↓nox_app, ↓ite_a, ↓z_evE_1, ↓z_evE_2, ↓z_evE_3, ↓z_evE_4, ↓z_evE_5, ↓z_evE_6, ↓z_evE_7, ↓z_evE_8, ↓z_evE_9, ↓z_evE_10, ↓z_evE_11, ↓z_evE_12, ↓z_evE_13, ↓z_evE_14, ↓z_evE_15, ↓z_evE_16, ↓z_evE_17, ↓z_evE_18, ↓z_evE_19, ↓z_evE_20, ↓z_evE_21, ↓z_evE_22, ↓z_evE_23, ↓z_evE_24, ↓z_evRs_1, ↓z_evRs_2, ↓z_evO_1, ↓z_evO_2, ↓z_evT_1, ↓z_evT_2, ↓z_evT_3, ↓z_evT_4, ↓z_evC_1, ↓z_evC_2, ↓z_evIt_1, ↓z_evIt_3, ↓z_evIt_4, ↓z_evIt_5, ↓z_evIt_6, ↓z_evS_1, ↓z_evS_2, ↓z_evS_3, ↓z_evS_4, ↓z_evS_5, ↓z_evS_6, ↓z_evS_7, ↓z_evS_8, ↓z_evS_9, ↓z_evS_10, ↓z_evS_11, ↓z_evS_12, ↓z_evS_13, ↓z_evSs_1, ↓z_evSs_2, ↓evIt_rng, leave, start, slotRv, Rv.tree, Rv.isI, Rv.isB, Rv.isS, T.isI, T.isB, T.isS, Rv.w, Rv.lst, Rv.seq, lstAt, seqAt, Rv.data, binop, cmpop, eqRv, inRv, ltRv, isRv, truth, isTy, isiRv, lenRv, LL.bi, biLen, biAll, biAny, biInt, biStr, biTuple, biList, biSorted, meFind, meCount, meJoin, meS, meL, meAppend, meInsert, mePop0, putL, getL, meRv, meTy, ixRv, slRv, revRv, src1, src2, src3, src4, src5, bindTg, bindTs, wipe, treesOf, tupOf, lstOf, app, Sto.trunc, glo0, glo1, glo2, SZ, -List.map_map, ixOf, T.eqOk, T.data, T.datas, T.calm, T.calms, T.depth, T.depths, T.beq, T.beqs, tk_set]
  · have := hfit z (by rw [List.nil_append, show (zip2Items (a.ms.map T.str) (x.ts.map T.str)).length = a.ms.length by simp [zip2Items, hxl], List.take_length]; exact hz)
    exact ⟨this.len, this.abc, this.fit⟩
end LLQ

set_option Elab.async false
set_option linter.all false
set_option autoImplicit false
set_option maxRecDepth 100000
set_option maxHeartbeats 400000
namespace LLQ
open LL LLS LLP
theorem law_talk_t {k n q : Nat} {L : List (List T)} {b : List Int} {O : List Inst} (hn : n < L.length) (h1q : 1 ≤ q) (hq10 : q ≤ 10) :
    ∃ (a : Tk) (b' : List Int), run prog (k + 4) 25 [.l n, .t (.int (q : Int))] ⟨L.set n (b.map T.int), O⟩ = .ok (.v a.t) ⟨L.set n (b'.map T.int), O⟩ ∧ TkOk a ∧ a.rs.length ≤ max q 2 := by
  have hset : ∀ (y x : List T), (L ++ [y]).set n x = L.set n x ++ [y] := fun y x => List.set_append_left _ _ hn
  obtain ⟨p, q', b1, e1, hp1, hp4, hq1, hq4⟩ := sizes_t (k := k) (L := L) (b := b) (O := O) hn
  obtain ⟨s, b2, e2, hs⟩ := letters_t (k := k) (L := L) (b := b1) (O := O) hn
  obtain ⟨ms, b3, e3, hms⟩ := manners_t (k := k) (L := L) (b := b2) (O := O) hn
  obtain ⟨r1, b4, e4, hr0, hr1⟩ := take_t (k := k + 2) (L := L) (b := b3) (O := O) (m := (q : Int)) hn (by omega)
  obtain ⟨r2, b5, e5, hr2, hr3⟩ := take_t (k := k + 2) (L := L) (b := b4) (O := O) (m := 3) hn (by omega)
  obtain ⟨x, b6, e6, hx⟩ := choice_lst (k := k + 1) (L := L) (b := b5) (O := O) (xs := [.int (q : Int), .int (q : Int), .int (1 + r1), .int r2]) hn (by simp)
  obtain ⟨m, rfl, hm0, hm4⟩ : ∃ m : Int, x = .int m ∧ 0 ≤ m ∧ m ≤ max q 2 := by
    simp at hx
    rcases hx with rfl | rfl | rfl | rfl <;> exact ⟨_, rfl, by omega, by omega⟩
  have hml : ms.length = 1 ∨ ms.length = 2 := hms.1
  have hg : ∀ s, rngG m s = .ok ⟨rngItems 0 m.toNat, []⟩ s := fun s => rngG_ok hm0 (by omega)
  obtain ⟨σ', s', e, xs, b7, v5, hs', hσ, hlen, hok⟩ := for_inv (ws := []) (step := fun z σ => (do
      let σ' ← bindTg (.n 5) z σ
      evSs ⟨run prog (k + 3), prog.glo⟩ (.cons (.ex (.me .append (.var 4) (.cons (.call 24 (.cons (.var 0) (.cons (.var 6) (.cons (.bi .len (.cons (.var 2) .nil)) (.cons (.var 7) .nil))))) .nil))) .nil) σ' : M (Fl × Env)))
    (fun d σ s' => ∃ (xs : List T) (b7 : List Int) (v5 : Option W), s' = ⟨L.set n (b7.map T.int) ++ [xs], O⟩ ∧ σ = [some (.l n), some (.t (.int (q : Int))), some (.t (.tup (ms.map T.str))), some (.t (.int m)), some (.l L.length), v5, some (.t (.tup [.int p, .int q'])), some (.t (.str s))] ∧ xs.length = d.length ∧ ∀ r ∈ xs, RuleOk ⟨p, q', ms, []⟩ r) (rngItems 0 m.toNat) []
    (fun d σ s h => by simp [watchOk])
    (by
      intro d z r σ s' he ⟨xs, b7, v5, hs', hσ, hlen, hok⟩
      subst hs' hσ
      have hd : d.length < 1000 := by
        have := congrArg List.length he
        simp [rngItems] at this
        omega
      obtain ⟨ee, i, j, dd, b8, e7, h1, h2, h3, h4, h5, h6⟩ := rule_t (k := k) (L := L ++ [xs]) (b := b7) (O := O) (p := p) (q := q') (m := ms.length) (s := s) (n := n) (by simp; omega) hp1 hq1 hml hs
      simp only [hset] at e7
      have hxl : xs.length < 16777216 := by omega
      refine ⟨[some (.l n), some (.t (.int (q : Int))), some (.t (.tup (ms.map T.str))), some (.t (.int m)), some (.l L.length), some (.t z), some (.t (.tup [.int p, .int q'])), some (.t (.str s))], ⟨L.set n (b8.map T.int) ++ [xs ++ [.tup [.int ee, .int i, .str dd, .int j]]], O⟩, by simp [↓mb, ↓pu, ↓gd, ↓opt_some, ↓bad_app, ↓rv_val, ↓nox_app, ↓ite_a, ↓z_evE_1, ↓z_evE_2, ↓z_evE_3, ↓z_evE_4, ↓z_evE_5, ↓z_evE_6, ↓z_evE_7, ↓z_evE_8, ↓z_evE_9, ↓z_evE_10, ↓z_evE_11, ↓z_evE_12, ↓z_evE_13, ↓z_evE_14, ↓z_evE_15, ↓z_evE_16, ↓z_evE_17, ↓z_evE_18, ↓z_evE_19, ↓z_evE_20, ↓z_evE_21, ↓z_evE_22, ↓z_evE_23, ↓z_evE_24, ↓z_evRs_1, ↓z_evRs_2, ↓z_evO_1, ↓z_evO_2, ↓z_evT_1, ↓z_evT_2, ↓z_evT_3, ↓z_evT_4, ↓z_evC_1, ↓z_evC_2, ↓z_evIt_1, ↓z_evIt_3, ↓z_evIt_4, ↓z_evIt_5, ↓z_evIt_6, ↓z_evS_1, ↓z_evS_2, ↓z_evS_3, ↓z_evS_4, ↓z_evS_5, ↓z_evS_6, ↓z_evS_7, ↓z_evS_8, ↓z_evS_9, ↓z_evS_10, ↓z_evS_11, ↓z_evS_12, ↓z_evS_13, ↓z_evSs_1, ↓z_evSs_2, ↓evIt_rng, leave, start, slotRv, Rv.tree, Rv.isI, Rv.isB, Rv.isS, T.isI, T.isB, T.isS, Rv.w, Rv.lst, Rv.seq, lstAt, seqAt, Rv.data, binop, cmpop, eqRv, inRv, ltRv, isRv, truth, isTy, isiRv, lenRv, LL.bi, biLen, biAll, biAny, biInt, biStr, biTuple, biList, biSorted, meFind, meCount, meJoin, meS, meL, meAppend, meInsert, mePop0, putL, getL, meRv, meTy, ixRv, slRv, revRv, src1, src2, src3, src4, src5, bindTg, bindTs, wipe, treesOf, tupOf, lstOf, app, Sto.trunc, glo0, glo1, glo2, SZ, -List.map_map, ixOf, T.eqOk, T.data, T.datas, T.calm, T.calms, T.depth, T.depths, T.beq, T.beqs, e7, hxl], _, b8, _, rfl, rfl, by simp [hlen], ?_⟩
      intro r hr
      rcases List.mem_append.1 hr with h | h
      · exact hok r h
      · rw [List.mem_singleton] at h; subst h; exact ⟨ee, i, j, dd, rfl, h1, h2, h3, h4, h5, h6⟩)
    [some (.l n), some (.t (.int (q : Int))), some (.t (.tup (ms.map T.str))), some (.t (.int m)), some (.l L.length), none, some (.t (.tup [.int p, .int q'])), some (.t (.str s))] ⟨L.set n (b6.map T.int) ++ [[]], O⟩ ⟨[], b6, none, rfl, rfl, rfl, by simp⟩
  subst hs' hσ
  have hxl : xs.length ≤ max q 2 := by simp [rngItems] at hlen; omega
  have F := rl_fam ⟨p, q', ms, []⟩
  have ea := law_ascending_t (k := k + 2) (n := L.length) (S := ⟨L.set n (b7.map T.int) ++ [xs], O⟩) F hok (by omega) (by simp)
  have hal := ascF_len xs
  refine ⟨⟨p, q', ms, ascF xs⟩, b7, ?_, ⟨hp1, hp4, hq1, hq4, hms, fun r hr => hok r ((ascF_mem F.alike hok r).1 hr), by show (ascF xs).length ≤ 10; omega, ascF_srt F.alike hok⟩, by show (ascF xs).length ≤ max q 2; omega⟩
  rw [run_fn (rfl : prog.fn 25 = some F__law_talk)]
  simp [F__law_talk, Tk.t, ↓mb, ↓pu, ↓gd, ↓opt_some, ↓bad_app, ↓rv_val, ↓nox_app, ↓ite_a, ↓z_evE_1, ↓z_evE_2, ↓z_evE_3, ↓z_evE_4, ↓z_evE_5, ↓z_evE_6, ↓z_evE_7, ↓z_evE_8, ↓z_evE_9, ↓z_evE_10, ↓z_evE_11, ↓z_evE_12, ↓z_evE_13, ↓z_evE_14, ↓z_evE_15, ↓z_evE_16, ↓z_evE_17, ↓z_evE_18, ↓z_evE_19, ↓z_evE_20, ↓z_evE_21, ↓z_evE_22, ↓z_evE_23, ↓z_evE_24, ↓z_evRs_1, ↓z_evRs_2, ↓z_evO_1, ↓z_evO_2, ↓z_evT_1, ↓z_evT_2, ↓z_evT_3, ↓z_evT_4, ↓z_evC_1, ↓z_evC_2, ↓z_evIt_1, ↓z_evIt_3, ↓z_evIt_4, ↓z_evIt_5, ↓z_evIt_6, ↓z_evS_1, ↓z_evS_2, ↓z_evS_3, ↓z_evS_4, ↓z_evS_5, ↓z_evS_6, ↓z_evS_7, ↓z_evS_8, ↓z_evS_9, ↓z_evS_10, ↓z_evS_11, ↓z_evS_12, ↓z_evS_13, ↓z_evSs_1, ↓z_evSs_2, ↓evIt_rng, leave, start, slotRv, Rv.tree, Rv.isI, Rv.isB, Rv.isS, T.isI, T.isB, T.isS, Rv.w, Rv.lst, Rv.seq, lstAt, seqAt, Rv.data, binop, cmpop, eqRv, inRv, ltRv, isRv, truth, isTy, isiRv, lenRv, LL.bi, biLen, biAll, biAny, biInt, biStr, biTuple, biList, biSorted, meFind, meCount, meJoin, meS, meL, meAppend, meInsert, mePop0, putL, getL, meRv, meTy, ixRv, slRv, revRv, src1, src2, src3, src4, src5, bindTg, bindTs, wipe, treesOf, tupOf, lstOf, app, Sto.trunc, glo0, glo1, glo2, SZ, -List.map_map, ixOf, T.eqOk, T.data, T.datas, T.calm, T.calms, T.depth, T.depths, T.beq, T.beqs, e1, e2, e3, e4, e5, e6, hg]
  simp [↓mb, ↓pu, ↓gd, ↓opt_some, ↓bad_app, ↓rv_val, ↓nox_app, ↓ite_a, ↓z_evE_1, ↓z_evE_2, ↓z_evE_3, ↓z_evE_4, ↓z_evE_5, ↓z_evE_6, ↓z_evE_7, ↓z_evE_8, ↓z_evE_9, ↓z_evE_10, ↓z_evE_11, ↓z_evE_12, ↓z_evE_13, ↓z_evE_14, ↓z_evE_15, ↓z_evE_16, ↓z_evE_17, ↓z_evE_18, ↓z_evE_19, ↓z_evE_20, ↓z_evE_21, ↓z_evE_22, ↓z_evE_23, ↓z_evE_24, ↓z_evRs_1, ↓z_evRs_2, ↓z_evO_1, ↓z_evO_2, ↓z_evT_1, ↓z_evT_2, ↓z_evT_3, ↓z_evT_4, ↓z_evC_1, ↓z_evC_2, ↓z_evIt_1, ↓z_evIt_3, ↓z_evIt_4, ↓z_evIt_5, ↓z_evIt_6, ↓z_evS_1, ↓z_evS_2, ↓z_evS_3, ↓z_evS_4, ↓z_evS_5, ↓z_evS_6, ↓z_evS_7, ↓z_evS_8, ↓z_evS_9, ↓z_evS_10, ↓z_evS_11, ↓z_evS_12, ↓z_evS_13, ↓z_evSs_1, ↓z_evSs_2, ↓evIt_rng, leave, start, slotRv, Rv.tree, Rv.isI, Rv.isB, Rv.isS, T.isI, T.isB, T.isS, Rv.w, Rv.lst, Rv.seq, lstAt, seqAt, Rv.data, binop, cmpop, eqRv, inRv, ltRv, isRv, truth, isTy, isiRv, lenRv, LL.bi, biLen, biAll, biAny, biInt, biStr, biTuple, biList, biSorted, meFind, meCount, meJoin, meS, meL, meAppend, meInsert, mePop0, putL, getL, meRv, meTy, ixRv, slRv, revRv, src1, src2, src3, src4, src5, bindTg, bindTs, wipe, treesOf, tupOf, lstOf, app, Sto.trunc, glo0, glo1, glo2, SZ, -List.map_map, ixOf, T.eqOk, T.data, T.datas, T.calm, T.calms, T.depth, T.depths, T.beq, T.beqs] at e
  rw [e]
  simp [↓mb, ↓pu, ↓gd, ↓opt_some, ↓bad_app, ↓rv_val, ↓nox_app, ↓ite_a, ↓z_evE_1, ↓z_evE_2, ↓z_evE_3, ↓z_evE_4, ↓z_evE_5, ↓z_evE_6, ↓z_evE_7, ↓z_evE_8, ↓z_evE_9, ↓z_evE_10, ↓z_evE_11, ↓z_evE_12, ↓z_evE_13, ↓z_evE_14, ↓z_evE_15, ↓z_evE_16, ↓z_evE_17, ↓z_evE_18, ↓z_evE_19, ↓z_evE_20, ↓z_evE_21, ↓z_evE_22, ↓z_evE_23, ↓z_evE_24, ↓z_evRs_1, ↓z_evRs_2, ↓z_evO_1, ↓z_evO_2, ↓z_evT_1, ↓z_evT_2, ↓z_evT_3, ↓z_evT_4, ↓z_evC_1, ↓z_evC_2, ↓z_evIt_1, ↓z_evIt_3, ↓z_evIt_4, ↓z_evIt_5, ↓z_evIt_6, ↓z_evS_1, ↓z_evS_2, ↓z_evS_3, ↓z_evS_4, ↓z_evS_5, ↓z_evS_6, ↓z_evS_7, ↓z_evS_8, ↓z_evS_9, ↓z_evS_10, ↓z_evS_11, ↓z_evS_12, ↓z_evS_13, ↓z_evSs_1, ↓z_evSs_2, ↓evIt_rng, leave, start, slotRv, Rv.tree, Rv.isI, Rv.isB, Rv.isS, T.isI, T.isB, T.isS, Rv.w, Rv.lst, Rv.seq, lstAt, seqAt, Rv.data, binop, cmpop, eqRv, inRv, ltRv, isRv, truth, isTy, isiRv, lenRv, LL.bi, biLen, biAll, biAny, biInt, biStr, biTuple, biList, biSorted, meFind, meCount, meJoin, meS, meL, meAppend, meInsert, mePop0, putL, getL, meRv, meTy, ixRv, slRv, revRv, src1, src2, src3, src4, src5, bindTg, bindTs, wipe, treesOf, tupOf, lstOf, app, Sto.trunc, glo0, glo1, glo2, SZ, -List.map_map, ixOf, T.eqOk, T.data, T.datas, T.calm, T.calms, T.depth, T.depths, T.beq, T.beqs, ea, tk_set]
end LLQ

set_option Elab.async false
set_option linter.all false
set_option autoImplicit false
set_option maxRecDepth 100000
set_option maxHeartbeats 1000000
namespace LLQ
open LL LLS LLP
/-! ### least texts above two -/
def StrP (x : T) : Prop := ∃ s : Cs, x = .str s
theorem str_fam : Fam StrP := by
  refine ⟨?_, ?_, ?_, ?_⟩
  · rintro _ _ ⟨p, rfl⟩ ⟨q, rfl⟩; simp [T.alike]
  · rintro _ _ ⟨p, rfl⟩ ⟨q, rfl⟩; simp [T.calm]
  · rintro _ ⟨p, rfl⟩; simp [T.data]
  · rintro _ ⟨p, rfl⟩; simp [T.depth]
theorem strP_map (rows : List Cs) : ∀ y ∈ rows.map T.str, StrP y := by
  intro y hy
  obtain ⟨s, _, rfl⟩ := List.mem_map.1 hy
  exact ⟨s, rfl⟩
def strsAsc (rows : List Cs) : List Cs := (ascF (rows.map T.str)).map strOf
theorem asc_strs (rows : List Cs) : ascF (rows.map T.str) = (strsAsc rows).map T.str := by
  unfold strsAsc
  rw [List.map_map]
  have : ∀ y ∈ ascF (rows.map T.str), (T.str ∘ strOf) y = y := by
    intro y hy
    obtain ⟨s, rfl⟩ := strP_map rows y ((ascF_mem str_fam.alike (strP_map rows) y).1 hy)
    rfl
  rw [List.map_congr_left this]; simp
theorem strsAsc_mem (rows : List Cs) (s : Cs) : s ∈ strsAsc rows ↔ s ∈ rows := by
  have h := ascF_mem str_fam.alike (strP_map rows) (.str s)
  rw [asc_strs] at h
  simpa using h
theorem strsAsc_len (rows : List Cs) : (strsAsc rows).length ≤ rows.length := by
  have := ascF_len (rows.map T.str)
  rw [asc_strs] at this
  simpa using this
def overF : Nat → Cs → Cs → List Cs
  | 0, _, _ => []
  | _ + 1, [], b => [b]
  | _ + 1, x :: a, [] => [x :: a]
  | n + 1, x :: a, y :: b => if x = y then (overF n a b).map (x :: ·) else
    let rows := strsAsc ((overF n a (y :: b)).map (x :: ·) ++ (overF n (x :: a) b).map (y :: ·))
    rows.filter fun t => !rows.any fun p => !(p == t) && sub p t
theorem over_len : ∀ (n : Nat) (a b : Cs), (overF n a b).length ≤ 2 ^ n ∧ ∀ s ∈ overF n a b, s.length ≤ a.length + b.length ∧ ∀ c ∈ s, c ∈ a ∨ c ∈ b
  | 0, a, b => by simp [overF]
  | n + 1, [], b => by
    refine ⟨by simp [overF]; exact Nat.one_le_two_pow, fun s hs => ?_⟩
    simp [overF] at hs; subst hs; simp
  | n + 1, x :: a, [] => by
    refine ⟨by simp [overF]; exact Nat.one_le_two_pow, fun s hs => ?_⟩
    simp [overF] at hs; subst hs; simp
  | n + 1, x :: a, y :: b => by
    have h1 := over_len n a b
    have h2 := over_len n a (y :: b)
    have h3 := over_len n (x :: a) b
    have hp : 2 ^ (n + 1) = 2 ^ n + 2 ^ n := by rw [Nat.pow_succ]; omega
    unfold overF
    by_cases e : x = y
    · rw [if_pos e]
      refine ⟨by simp; omega, fun s hs => ?_⟩
      obtain ⟨t, ht, rfl⟩ := List.mem_map.1 hs
      have := h1.2 t ht
      refine ⟨by simp; omega, fun c hc => ?_⟩
      rcases List.mem_cons.1 hc with rfl | hc
      · exact .inl (by simp)
      · rcases this.2 c hc with h | h
        · exact .inl (by simp [h])
        · exact .inr (by simp [h])
    · rw [if_neg e]
      refine ⟨?_, fun s hs => ?_⟩
      · have l1 := strsAsc_len ((overF n a (y :: b)).map (x :: ·) ++ (overF n (x :: a) b).map (y :: ·))
        refine Nat.le_trans (List.length_filter_le _ _) (Nat.le_trans l1 ?_)
        simp; omega
      · have hs := (List.mem_filter.1 hs).1
        rw [strsAsc_mem] at hs
        rcases List.mem_append.1 hs with hs | hs
        · obtain ⟨t, ht, rfl⟩ := List.mem_map.1 hs
          have := h2.2 t ht
          refine ⟨by simp at this ⊢; omega, fun c hc => ?_⟩
          rcases List.mem_cons.1 hc with rfl | hc
          · exact .inl (by simp)
          · rcases this.2 c hc with h | h
            · exact .inl (by simp [h])
            · exact .inr h
        · obtain ⟨t, ht, rfl⟩ := List.mem_map.1 hs
          have := h3.2 t ht
          refine ⟨by simp at this ⊢; omega, fun c hc => ?_⟩
          rcases List.mem_cons.1 hc with rfl | hc
          · exact .inr (by simp)
          · rcases this.2 c hc with h | h
            · exact .inl h
            · exact .inr (by simp [h])
theorem cut1 (x : Nat) (a : Cs) : cut (x :: a) (some 1) none = a := by rw [cut_one]; rfl
theorem over_t {k : Nat} {S : Sto} : ∀ (n : Nat) (a b : Cs), a.length + b.length < n → n ≤ 9 → run prog (k + n + 1) 65 [.t (.str a), .t (.str b)] S = .ok (.new ((overF n a b).map T.str)) S
  | 0, a, b, h, _ => by omega
  | n + 1, [], b, h, hn => by
    rw [show k + (n + 1) + 1 = (k + n + 1) + 1 by omega, run_fn (rfl : prog.fn 65 = some F_shortest_over)]
    have hb : b.length ≤ 16777216 := by simp at h; omega
    simp [F_shortest_over, ↓mb, ↓pu, ↓gd, ↓opt_some, ↓bad_app, ↓rv_val, ↓nox_app, ↓ite_a, ↓z_evE_1, ↓z_evE_2, ↓z_evE_3, ↓z_evE_4, ↓z_evE_5, ↓z_evE_6, ↓z_evE_7, ↓z_evE_8, ↓z_evE_9, ↓z_evE_10, ↓z_evE_11, ↓z_evE_12, ↓z_evE_13, ↓z_evE_14, ↓z_evE_15, ↓z_evE_16, ↓z_evE_17, ↓z_evE_18, ↓z_evE_19, ↓z_evE_20, ↓z_evE_21, ↓z_evE_22, ↓z_evE_23, ↓z_evE_24, ↓z_evRs_1, ↓z_evRs_2, ↓z_evO_1, ↓z_evO_2, ↓z_evT_1, ↓z_evT_2, ↓z_evT_3, ↓z_evT_4, ↓z_evC_1, ↓z_evC_2, ↓z_evIt_1, ↓z_evIt_3, ↓z_evIt_4, ↓z_evIt_5, ↓z_evIt_6, ↓z_evS_1, ↓z_evS_2, ↓z_evS_3, ↓z_evS_4, ↓z_evS_5, ↓z_evS_6, ↓z_evS_7, ↓z_evS_8, ↓z_evS_9, ↓z_evS_10, ↓z_evS_11, ↓z_evS_12, ↓z_evS_13, ↓z_evSs_1, ↓z_evSs_2, ↓evIt_rng, leave, start, slotRv, Rv.tree, Rv.isI, Rv.isB, Rv.isS, T.isI, T.isB, T.isS, Rv.w, Rv.lst, Rv.seq, lstAt, seqAt, Rv.data, binop, cmpop, eqRv, inRv, ltRv, isRv, truth, isTy, isiRv, lenRv, LL.bi, biLen, biAll, biAny, biInt, biStr, biTuple, biList, biSorted, meFind, meCount, meJoin, meS, meL, meAppend, meInsert, mePop0, putL, getL, meRv, meTy, ixRv, slRv, revRv, src1, src2, src3, src4, src5, bindTg, bindTs, wipe, treesOf, tupOf, lstOf, app, Sto.trunc, glo0, glo1, glo2, SZ, -List.map_map, ixOf, T.eqOk, T.data, T.datas, T.calm, T.calms, T.depth, T.depths, T.beq, T.beqs, overF, hb]
  | n + 1, x :: a, [], h, hn => by
    rw [show k + (n + 1) + 1 = (k + n + 1) + 1 by omega, run_fn (rfl : prog.fn 65 = some F_shortest_over)]
    have hb : a.length + 1 ≤ 16777216 := by simp at h; omega
    simp [F_shortest_over, ↓mb, ↓pu, ↓gd, ↓opt_some, ↓bad_app, ↓rv_val, ↓nox_app, ↓ite_a, ↓z_evE_1, ↓z_evE_2, ↓z_evE_3, ↓z_evE_4, ↓z_evE_5, ↓z_evE_6, ↓z_evE_7, ↓z_evE_8, ↓z_evE_9, ↓z_evE_10, ↓z_evE_11, ↓z_evE_12, ↓z_evE_13, ↓z_evE_14, ↓z_evE_15, ↓z_evE_16, ↓z_evE_17, ↓z_evE_18, ↓z_evE_19, ↓z_evE_20, ↓z_evE_21, ↓z_evE_22, ↓z_evE_23, ↓z_evE_24, ↓z_evRs_1, ↓z_evRs_2, ↓z_evO_1, ↓z_evO_2, ↓z_evT_1, ↓z_evT_2, ↓z_evT_3, ↓z_evT_4, ↓z_evC_1, ↓z_evC_2, ↓z_evIt_1, ↓z_evIt_3, ↓z_evIt_4, ↓z_evIt_5, ↓z_evIt_6, ↓z_evS_1, ↓z_evS_2, ↓z_evS_3, ↓z_evS_4, ↓z_evS_5, ↓z_evS_6, ↓z_evS_7, ↓z_evS_8, ↓z_evS_9, ↓z_evS_10, ↓z_evS_11, ↓z_evS_12, ↓z_evS_13, ↓z_evSs_1, ↓z_evSs_2, ↓evIt_rng, leave, start, slotRv, Rv.tree, Rv.isI, Rv.isB, Rv.isS, T.isI, T.isB, T.isS, Rv.w, Rv.lst, Rv.seq, lstAt, seqAt, Rv.data, binop, cmpop, eqRv, inRv, ltRv, isRv, truth, isTy, isiRv, lenRv, LL.bi, biLen, biAll, biAny, biInt, biStr, biTuple, biList, biSorted, meFind, meCount, meJoin, meS, meL, meAppend, meInsert, mePop0, putL, getL, meRv, meTy, ixRv, slRv, revRv, src1, src2, src3, src4, src5, bindTg, bindTs, wipe, treesOf, tupOf, lstOf, app, Sto.trunc, glo0, glo1, glo2, SZ, -List.map_map, ixOf, T.eqOk, T.data, T.datas, T.calm, T.calms, T.depth, T.depths, T.beq, T.beqs, overF, hb]
  | n + 1, x :: a, y :: b, h, hn => by
    simp only [List.length_cons] at h
    have hp2 : 2 ^ n ≤ 256 := by
      have : 2 ^ n ≤ 2 ^ 8 := Nat.pow_le_pow_right (by omega) (by omega)
      simpa using this
    have ha : a.length + 1 ≤ 16777216 := by omega
    have hb : b.length + 1 ≤ 16777216 := by omega
    rw [show k + (n + 1) + 1 = (k + n + 1) + 1 by omega, run_fn (rfl : prog.fn 65 = some F_shortest_over)]
    by_cases e : x = y
    · subst e
      have ih := over_t (k := k) (S := S) n a b (by omega) (by omega)
      have ol := over_len n a b
      simp [F_shortest_over, ↓mb, ↓pu, ↓gd, ↓opt_some, ↓bad_app, ↓rv_val, ↓nox_app, ↓ite_a, ↓z_evE_1, ↓z_evE_2, ↓z_evE_3, ↓z_evE_4, ↓z_evE_5, ↓z_evE_6, ↓z_evE_7, ↓z_evE_8, ↓z_evE_9, ↓z_evE_10, ↓z_evE_11, ↓z_evE_12, ↓z_evE_13, ↓z_evE_14, ↓z_evE_15, ↓z_evE_16, ↓z_evE_17, ↓z_evE_18, ↓z_evE_19, ↓z_evE_20, ↓z_evE_21, ↓z_evE_22, ↓z_evE_23, ↓z_evE_24, ↓z_evRs_1, ↓z_evRs_2, ↓z_evO_1, ↓z_evO_2, ↓z_evT_1, ↓z_evT_2, ↓z_evT_3, ↓z_evT_4, ↓z_evC_1, ↓z_evC_2, ↓z_evIt_1, ↓z_evIt_3, ↓z_evIt_4, ↓z_evIt_5, ↓z_evIt_6, ↓z_evS_1, ↓z_evS_2, ↓z_evS_3, ↓z_evS_4, ↓z_evS_5, ↓z_evS_6, ↓z_evS_7, ↓z_evS_8, ↓z_evS_9, ↓z_evS_10, ↓z_evS_11, ↓z_evS_12, ↓z_evS_13, ↓z_evSs_1, ↓z_evSs_2, ↓evIt_rng, leave, start, slotRv, Rv.tree, Rv.isI, Rv.isB, Rv.isS, T.isI, T.isB, T.isS, Rv.w, Rv.lst, Rv.seq, lstAt, seqAt, Rv.data, binop, cmpop, eqRv, inRv, ltRv, isRv, truth, isTy, isiRv, lenRv, LL.bi, biLen, biAll, biAny, biInt, biStr, biTuple, biList, biSorted, meFind, meCount, meJoin, meS, meL, meAppend, meInsert, mePop0, putL, getL, meRv, meTy, ixRv, slRv, revRv, src1, src2, src3, src4, src5, bindTg, bindTs, wipe, treesOf, tupOf, lstOf, app, Sto.trunc, glo0, glo1, glo2, SZ, -List.map_map, ixOf, T.eqOk, T.data, T.datas, T.calm, T.calms, T.depth, T.depths, T.beq, T.beqs, overF, ha, hb, cut1, ih]
      rw [lc_map (fun t => .str (x :: strOf t)) S rfl _ (by simp; omega)]
      · simp [↓mb, ↓pu, ↓gd, ↓opt_some, ↓bad_app, ↓rv_val, ↓nox_app, ↓ite_a, ↓z_evE_1, ↓z_evE_2, ↓z_evE_3, ↓z_evE_4, ↓z_evE_5, ↓z_evE_6, ↓z_evE_7, ↓z_evE_8, ↓z_evE_9, ↓z_evE_10, ↓z_evE_11, ↓z_evE_12, ↓z_evE_13, ↓z_evE_14, ↓z_evE_15, ↓z_evE_16, ↓z_evE_17, ↓z_evE_18, ↓z_evE_19, ↓z_evE_20, ↓z_evE_21, ↓z_evE_22, ↓z_evE_23, ↓z_evE_24, ↓z_evRs_1, ↓z_evRs_2, ↓z_evO_1, ↓z_evO_2, ↓z_evT_1, ↓z_evT_2, ↓z_evT_3, ↓z_evT_4, ↓z_evC_1, ↓z_evC_2, ↓z_evIt_1, ↓z_evIt_3, ↓z_evIt_4, ↓z_evIt_5, ↓z_evIt_6, ↓z_evS_1, ↓z_evS_2, ↓z_evS_3, ↓z_evS_4, ↓z_evS_5, ↓z_evS_6, ↓z_evS_7, ↓z_evS_8, ↓z_evS_9, ↓z_evS_10, ↓z_evS_11, ↓z_evS_12, ↓z_evS_13, ↓z_evSs_1, ↓z_evSs_2, ↓evIt_rng, leave, start, slotRv, Rv.tree, Rv.isI, Rv.isB, Rv.isS, T.isI, T.isB, T.isS, Rv.w, Rv.lst, Rv.seq, lstAt, seqAt, Rv.data, binop, cmpop, eqRv, inRv, ltRv, isRv, truth, isTy, isiRv, lenRv, LL.bi, biLen, biAll, biAny, biInt, biStr, biTuple, biList, biSorted, meFind, meCount, meJoin, meS, meL, meAppend, meInsert, mePop0, putL, getL, meRv, meTy, ixRv, slRv, revRv, src1, src2, src3, src4, src5, bindTg, bindTs, wipe, treesOf, tupOf, lstOf, app, Sto.trunc, glo0, glo1, glo2, SZ, -List.map_map, ixOf, T.eqOk, T.data, T.datas, T.calm, T.calms, T.depth, T.depths, T.beq, T.beqs, strOf, List.map_map, Function.comp_def]
      · intro z hz acc hacc
        obtain ⟨t, ht, rfl⟩ := List.mem_map.1 hz
        have := (ol.2 t ht).1
        have hz2 : 1 + t.length ≤ 16777216 := by omega
        simp [↓mb, ↓pu, ↓gd, ↓opt_some, ↓bad_app, ↓rv_val, ↓nox_app, ↓ite_a, ↓z_evE_1, ↓z_evE_2, ↓z_evE_3, ↓z_evE_4, ↓z_evE_5, ↓z_evE_6, ↓z_evE_7, ↓z_evE_8, ↓z_evE_9, ↓z_evE_10, ↓z_evE_11, ↓z_evE_12, ↓z_evE_13, ↓z_evE_14, ↓z_evE_15, ↓z_evE_16, ↓z_evE_17, ↓z_evE_18, ↓z_evE_19, ↓z_evE_20, ↓z_evE_21, ↓z_evE_22, ↓z_evE_23, ↓z_evE_24, ↓z_evRs_1, ↓z_evRs_2, ↓z_evO_1, ↓z_evO_2, ↓z_evT_1, ↓z_evT_2, ↓z_evT_3, ↓z_evT_4, ↓z_evC_1, ↓z_evC_2, ↓z_evIt_1, ↓z_evIt_3, ↓z_evIt_4, ↓z_evIt_5, ↓z_evIt_6, ↓z_evS_1, ↓z_evS_2, ↓z_evS_3, ↓z_evS_4, ↓z_evS_5, ↓z_evS_6, ↓z_evS_7, ↓z_evS_8, ↓z_evS_9, ↓z_evS_10, ↓z_evS_11, ↓z_evS_12, ↓z_evS_13, ↓z_evSs_1, ↓z_evSs_2, ↓evIt_rng, leave, start, slotRv, Rv.tree, Rv.isI, Rv.isB, Rv.isS, T.isI, T.isB, T.isS, Rv.w, Rv.lst, Rv.seq, lstAt, seqAt, Rv.data, binop, cmpop, eqRv, inRv, ltRv, isRv, truth, isTy, isiRv, lenRv, LL.bi, biLen, biAll, biAny, biInt, biStr, biTuple, biList, biSorted, meFind, meCount, meJoin, meS, meL, meAppend, meInsert, mePop0, putL, getL, meRv, meTy, ixRv, slRv, revRv, src1, src2, src3, src4, src5, bindTg, bindTs, wipe, treesOf, tupOf, lstOf, app, Sto.trunc, glo0, glo1, glo2, SZ, -List.map_map, ixOf, T.eqOk, T.data, T.datas, T.calm, T.calms, T.depth, T.depths, T.beq, T.beqs, ha, hb, hacc, hz2, strOf]
    · have ih2 := over_t (k := k) (S := S) n a (y :: b) (by simp; omega) (by omega)
      have ih3 := over_t (k := k) (S := S) n (x :: a) b (by simp; omega) (by omega)
      have o2 := over_len n a (y :: b)
      have o3 := over_len n (x :: a) b
      have l1 : (fun t => T.str (x :: strOf t)) ∘ T.str = T.str ∘ (x :: ·) := rfl
      simp [F_shortest_over, ↓mb, ↓pu, ↓gd, ↓opt_some, ↓bad_app, ↓rv_val, ↓nox_app, ↓ite_a, ↓z_evE_1, ↓z_evE_2, ↓z_evE_3, ↓z_evE_4, ↓z_evE_5, ↓z_evE_6, ↓z_evE_7, ↓z_evE_8, ↓z_evE_9, ↓z_evE_10, ↓z_evE_11, ↓z_evE_12, ↓z_evE_13, ↓z_evE_14, ↓z_evE_15, ↓z_evE_16, ↓z_evE_17, ↓z_evE_18, ↓z_evE_19, ↓z_evE_20, ↓z_evE_21, ↓z_evE_22, ↓z_evE_23, ↓z_evE_24, ↓z_evRs_1, ↓z_evRs_2, ↓z_evO_1, ↓z_evO_2, ↓z_evT_1, ↓z_evT_2, ↓z_evT_3, ↓z_evT_4, ↓z_evC_1, ↓z_evC_2, ↓z_evIt_1, ↓z_evIt_3, ↓z_evIt_4, ↓z_evIt_5, ↓z_evIt_6, ↓z_evS_1, ↓z_evS_2, ↓z_evS_3, ↓z_evS_4, ↓z_evS_5, ↓z_evS_6, ↓z_evS_7, ↓z_evS_8, ↓z_evS_9, ↓z_evS_10, ↓z_evS_11, ↓z_evS_12, ↓z_evS_13, ↓z_evSs_1, ↓z_evSs_2, ↓evIt_rng, leave, start, slotRv, Rv.tree, Rv.isI, Rv.isB, Rv.isS, T.isI, T.isB, T.isS, Rv.w, Rv.lst, Rv.seq, lstAt, seqAt, Rv.data, binop, cmpop, eqRv, inRv, ltRv, isRv, truth, isTy, isiRv, lenRv, LL.bi, biLen, biAll, biAny, biInt, biStr, biTuple, biList, biSorted, meFind, meCount, meJoin, meS, meL, meAppend, meInsert, mePop0, putL, getL, meRv, meTy, ixRv, slRv, revRv, src1, src2, src3, src4, src5, bindTg, bindTs, wipe, treesOf, tupOf, lstOf, app, Sto.trunc, glo0, glo1, glo2, SZ, -List.map_map, ixOf, T.eqOk, T.data, T.datas, T.calm, T.calms, T.depth, T.depths, T.beq, T.beqs, overF, ha, hb, cut1, ih2, ih3, e]
      rw [lc_map (fun t => .str (x :: strOf t)) S rfl _ (by simp; omega)]
      · simp [↓mb, ↓pu, ↓gd, ↓opt_some, ↓bad_app, ↓rv_val, ↓nox_app, ↓ite_a, ↓z_evE_1, ↓z_evE_2, ↓z_evE_3, ↓z_evE_4, ↓z_evE_5, ↓z_evE_6, ↓z_evE_7, ↓z_evE_8, ↓z_evE_9, ↓z_evE_10, ↓z_evE_11, ↓z_evE_12, ↓z_evE_13, ↓z_evE_14, ↓z_evE_15, ↓z_evE_16, ↓z_evE_17, ↓z_evE_18, ↓z_evE_19, ↓z_evE_20, ↓z_evE_21, ↓z_evE_22, ↓z_evE_23, ↓z_evE_24, ↓z_evRs_1, ↓z_evRs_2, ↓z_evO_1, ↓z_evO_2, ↓z_evT_1, ↓z_evT_2, ↓z_evT_3, ↓z_evT_4, ↓z_evC_1, ↓z_evC_2, ↓z_evIt_1, ↓z_evIt_3, ↓z_evIt_4, ↓z_evIt_5, ↓z_evIt_6, ↓z_evS_1, ↓z_evS_2, ↓z_evS_3, ↓z_evS_4, ↓z_evS_5, ↓z_evS_6, ↓z_evS_7, ↓z_evS_8, ↓z_evS_9, ↓z_evS_10, ↓z_evS_11, ↓z_evS_12, ↓z_evS_13, ↓z_evSs_1, ↓z_evSs_2, ↓evIt_rng, leave, start, slotRv, Rv.tree, Rv.isI, Rv.isB, Rv.isS, T.isI, T.isB, T.isS, Rv.w, Rv.lst, Rv.seq, lstAt, seqAt, Rv.data, binop, cmpop, eqRv, inRv, ltRv, isRv, truth, isTy, isiRv, lenRv, LL.bi, biLen, biAll, biAny, biInt, biStr, biTuple, biList, biSorted, meFind, meCount, meJoin, meS, meL, meAppend, meInsert, mePop0, putL, getL, meRv, meTy, ixRv, slRv, revRv, src1, src2, src3, src4, src5, bindTg, bindTs, wipe, treesOf, tupOf, lstOf, app, Sto.trunc, glo0, glo1, glo2, SZ, -List.map_map, ixOf, T.eqOk, T.data, T.datas, T.calm, T.calms, T.depth, T.depths, T.beq, T.beqs, ha, hb, cut1, ih3]
        rw [lc_map (fun t => .str (y :: strOf t)) S rfl _ (by simp; omega)]
        · have hm : List.map ((fun t => T.str (x :: strOf t)) ∘ T.str) (overF n a (y :: b)) ++ List.map ((fun t => T.str (y :: strOf t)) ∘ T.str) (overF n (x :: a) b) = ((overF n a (y :: b)).map (x :: ·) ++ (overF n (x :: a) b).map (y :: ·)).map T.str := by
            rw [List.map_append, List.map_map, List.map_map]; rfl
          have hlen : ((overF n a (y :: b)).map (x :: ·) ++ (overF n (x :: a) b).map (y :: ·)).length ≤ 512 := by simp; omega
          obtain ⟨m, hm2⟩ : ∃ m, k + n + 1 = m + 2 := ⟨k + n - 1, by omega⟩
          have hsum : (overF n a (y :: b)).length + (overF n (x :: a) b).length ≤ 16777216 := by omega
          have as := ascending_x (k := m) (S := S) (wr := .lst (((overF n a (y :: b)).map (x :: ·) ++ (overF n (x :: a) b).map (y :: ·)).map T.str)) (src2 _) str_fam (strP_map _) (by simp; omega)
          rw [← hm2, asc_strs] at as
          have hel : ∀ t ∈ strsAsc ((overF n a (y :: b)).map (x :: ·) ++ (overF n (x :: a) b).map (y :: ·)), t.length ≤ 60 := by
            intro t ht
            rw [strsAsc_mem] at ht
            rcases List.mem_append.1 ht with ht | ht
            · obtain ⟨u, hu, rfl⟩ := List.mem_map.1 ht
              have := (o2.2 u hu).1; simp at this ⊢; omega
            · obtain ⟨u, hu, rfl⟩ := List.mem_map.1 ht
              have := (o3.2 u hu).1; simp at this ⊢; omega
          have hl3 := strsAsc_len ((overF n a (y :: b)).map (x :: ·) ++ (overF n (x :: a) b).map (y :: ·))
          rw [List.map_append] at as
          simp [↓mb, ↓pu, ↓gd, ↓opt_some, ↓bad_app, ↓rv_val, ↓nox_app, ↓ite_a, ↓z_evE_1, ↓z_evE_2, ↓z_evE_3, ↓z_evE_4, ↓z_evE_5, ↓z_evE_6, ↓z_evE_7, ↓z_evE_8, ↓z_evE_9, ↓z_evE_10, ↓z_evE_11, ↓z_evE_12, ↓z_evE_13, ↓z_evE_14, ↓z_evE_15, ↓z_evE_16, ↓z_evE_17, ↓z_evE_18, ↓z_evE_19, ↓z_evE_20, ↓z_evE_21, ↓z_evE_22, ↓z_evE_23, ↓z_evE_24, ↓z_evRs_1, ↓z_evRs_2, ↓z_evO_1, ↓z_evO_2, ↓z_evT_1, ↓z_evT_2, ↓z_evT_3, ↓z_evT_4, ↓z_evC_1, ↓z_evC_2, ↓z_evIt_1, ↓z_evIt_3, ↓z_evIt_4, ↓z_evIt_5, ↓z_evIt_6, ↓z_evS_1, ↓z_evS_2, ↓z_evS_3, ↓z_evS_4, ↓z_evS_5, ↓z_evS_6, ↓z_evS_7, ↓z_evS_8, ↓z_evS_9, ↓z_evS_10, ↓z_evS_11, ↓z_evS_12, ↓z_evS_13, ↓z_evSs_1, ↓z_evSs_2, ↓evIt_rng, leave, start, slotRv, Rv.tree, Rv.isI, Rv.isB, Rv.isS, T.isI, T.isB, T.isS, Rv.w, Rv.lst, Rv.seq, lstAt, seqAt, Rv.data, binop, cmpop, eqRv, inRv, ltRv, isRv, truth, isTy, isiRv, lenRv, LL.bi, biLen, biAll, biAny, biInt, biStr, biTuple, biList, biSorted, meFind, meCount, meJoin, meS, meL, meAppend, meInsert, mePop0, putL, getL, meRv, meTy, ixRv, slRv, revRv, src1, src2, src3, src4, src5, bindTg, bindTs, wipe, treesOf, tupOf, lstOf, app, Sto.trunc, glo0, glo1, glo2, SZ, -List.map_map, ixOf, T.eqOk, T.data, T.datas, T.calm, T.calms, T.depth, T.depths, T.beq, T.beqs, hsum]
          simp only [List.map_map, Function.comp_def, strOf] at as ⊢
          simp [↓mb, ↓pu, ↓gd, ↓opt_some, ↓bad_app, ↓rv_val, ↓nox_app, ↓ite_a, ↓z_evE_1, ↓z_evE_2, ↓z_evE_3, ↓z_evE_4, ↓z_evE_5, ↓z_evE_6, ↓z_evE_7, ↓z_evE_8, ↓z_evE_9, ↓z_evE_10, ↓z_evE_11, ↓z_evE_12, ↓z_evE_13, ↓z_evE_14, ↓z_evE_15, ↓z_evE_16, ↓z_evE_17, ↓z_evE_18, ↓z_evE_19, ↓z_evE_20, ↓z_evE_21, ↓z_evE_22, ↓z_evE_23, ↓z_evE_24, ↓z_evRs_1, ↓z_evRs_2, ↓z_evO_1, ↓z_evO_2, ↓z_evT_1, ↓z_evT_2, ↓z_evT_3, ↓z_evT_4, ↓z_evC_1, ↓z_evC_2, ↓z_evIt_1, ↓z_evIt_3, ↓z_evIt_4, ↓z_evIt_5, ↓z_evIt_6, ↓z_evS_1, ↓z_evS_2, ↓z_evS_3, ↓z_evS_4, ↓z_evS_5, ↓z_evS_6, ↓z_evS_7, ↓z_evS_8, ↓z_evS_9, ↓z_evS_10, ↓z_evS_11, ↓z_evS_12, ↓z_evS_13, ↓z_evSs_1, ↓z_evSs_2, ↓evIt_rng, leave, start, slotRv, Rv.tree, Rv.isI, Rv.isB, Rv.isS, T.isI, T.isB, T.isS, Rv.w, Rv.lst, Rv.seq, lstAt, seqAt, Rv.data, binop, cmpop, eqRv, inRv, ltRv, isRv, truth, isTy, isiRv, lenRv, LL.bi, biLen, biAll, biAny, biInt, biStr, biTuple, biList, biSorted, meFind, meCount, meJoin, meS, meL, meAppend, meInsert, mePop0, putL, getL, meRv, meTy, ixRv, slRv, revRv, src1, src2, src3, src4, src5, bindTg, bindTs, wipe, treesOf, tupOf, lstOf, app, Sto.trunc, glo0, glo1, glo2, SZ, -List.map_map, ixOf, T.eqOk, T.data, T.datas, T.calm, T.calms, T.depth, T.depths, T.beq, T.beqs, as]
          generalize strsAsc ((overF n a (y :: b)).map (x :: ·) ++ (overF n (x :: a) b).map (y :: ·)) = w at *
          rw [lc_filt (fun t => !w.any fun p => !(p == strOf t) && sub p (strOf t)) (fun t => t) S rfl _ (by simp; omega)]
          · simp [↓mb, ↓pu, ↓gd, ↓opt_some, ↓bad_app, ↓rv_val, ↓nox_app, ↓ite_a, ↓z_evE_1, ↓z_evE_2, ↓z_evE_3, ↓z_evE_4, ↓z_evE_5, ↓z_evE_6, ↓z_evE_7, ↓z_evE_8, ↓z_evE_9, ↓z_evE_10, ↓z_evE_11, ↓z_evE_12, ↓z_evE_13, ↓z_evE_14, ↓z_evE_15, ↓z_evE_16, ↓z_evE_17, ↓z_evE_18, ↓z_evE_19, ↓z_evE_20, ↓z_evE_21, ↓z_evE_22, ↓z_evE_23, ↓z_evE_24, ↓z_evRs_1, ↓z_evRs_2, ↓z_evO_1, ↓z_evO_2, ↓z_evT_1, ↓z_evT_2, ↓z_evT_3, ↓z_evT_4, ↓z_evC_1, ↓z_evC_2, ↓z_evIt_1, ↓z_evIt_3, ↓z_evIt_4, ↓z_evIt_5, ↓z_evIt_6, ↓z_evS_1, ↓z_evS_2, ↓z_evS_3, ↓z_evS_4, ↓z_evS_5, ↓z_evS_6, ↓z_evS_7, ↓z_evS_8, ↓z_evS_9, ↓z_evS_10, ↓z_evS_11, ↓z_evS_12, ↓z_evS_13, ↓z_evSs_1, ↓z_evSs_2, ↓evIt_rng, leave, start, slotRv, Rv.tree, Rv.isI, Rv.isB, Rv.isS, T.isI, T.isB, T.isS, Rv.w, Rv.lst, Rv.seq, lstAt, seqAt, Rv.data, binop, cmpop, eqRv, inRv, ltRv, isRv, truth, isTy, isiRv, lenRv, LL.bi, biLen, biAll, biAny, biInt, biStr, biTuple, biList, biSorted, meFind, meCount, meJoin, meS, meL, meAppend, meInsert, mePop0, putL, getL, meRv, meTy, ixRv, slRv, revRv, src1, src2, src3, src4, src5, bindTg, bindTs, wipe, treesOf, tupOf, lstOf, app, Sto.trunc, glo0, glo1, glo2, SZ, -List.map_map, ixOf, T.eqOk, T.data, T.datas, T.calm, T.calms, T.depth, T.depths, T.beq, T.beqs, List.filter_map, Function.comp_def, strOf]
          · intro z hz acc hacc
            obtain ⟨t, ht, rfl⟩ := List.mem_map.1 hz
            rw [show strOf (T.str t) = t from rfl]
            simp only [↓mb, ↓pu, ↓gd, ↓opt_some, ↓bad_app, ↓rv_val, ↓nox_app, ↓ite_a, ↓z_evE_1, ↓z_evE_2, ↓z_evE_3, ↓z_evE_4, ↓z_evE_5, ↓z_evE_6, ↓z_evE_7, ↓z_evE_8, ↓z_evE_9, ↓z_evE_10, ↓z_evE_11, ↓z_evE_12, ↓z_evE_13, ↓z_evE_14, ↓z_evE_15, ↓z_evE_16, ↓z_evE_17, ↓z_evE_18, ↓z_evE_19, ↓z_evE_20, ↓z_evE_21, ↓z_evE_22, ↓z_evE_23, ↓z_evE_24, ↓z_evRs_1, ↓z_evRs_2, ↓z_evO_1, ↓z_evO_2, ↓z_evT_1, ↓z_evT_2, ↓z_evT_3, ↓z_evT_4, ↓z_evC_1, ↓z_evC_2, ↓z_evIt_1, ↓z_evIt_3, ↓z_evIt_4, ↓z_evIt_5, ↓z_evIt_6, ↓z_evS_1, ↓z_evS_2, ↓z_evS_3, ↓z_evS_4, ↓z_evS_5, ↓z_evS_6, ↓z_evS_7, ↓z_evS_8, ↓z_evS_9, ↓z_evS_10, ↓z_evS_11, ↓z_evS_12, ↓z_evS_13, ↓z_evSs_1, ↓z_evSs_2, ↓evIt_rng, leave, start, slotRv, Rv.tree, Rv.isI, Rv.isB, Rv.isS, T.isI, T.isB, T.isS, Rv.w, Rv.lst, Rv.seq, lstAt, seqAt, Rv.data, binop, cmpop, eqRv, inRv, ltRv, isRv, truth, isTy, isiRv, lenRv, LL.bi, biLen, biAll, biAny, biInt, biStr, biTuple, biList, biSorted, meFind, meCount, meJoin, meS, meL, meAppend, meInsert, mePop0, putL, getL, meRv, meTy, ixRv, slRv, revRv, src1, src2, src3, src4, src5, bindTg, bindTs, wipe, treesOf, tupOf, lstOf, app, Sto.trunc, glo0, glo1, glo2, SZ, -List.map_map, ixOf, T.eqOk, T.data, T.datas, T.calm, T.calms, T.depth, T.depths, T.beq, T.beqs, List.set_cons_zero, List.set_cons_succ, List.getElem?_cons_succ, List.getElem?_cons_zero, List.map_cons, List.map_nil]
            rw [lc_map (fun p => .bl (!(strOf p == t) && sub (strOf p) t)) S rfl _ (by simp; omega)]
            · have hb : allBl ((w.map T.str).map fun p => T.bl (!(strOf p == t) && sub (strOf p) t)) = some (w.map fun p => !(p == t) && sub p t) := by
                rw [allBl_t]; simp [Function.comp_def, strOf]
              simp only [↓mb, ↓pu, ↓gd, ↓opt_some, ↓bad_app, ↓rv_val, ↓nox_app, ↓ite_a, ↓z_evE_1, ↓z_evE_2, ↓z_evE_3, ↓z_evE_4, ↓z_evE_5, ↓z_evE_6, ↓z_evE_7, ↓z_evE_8, ↓z_evE_9, ↓z_evE_10, ↓z_evE_11, ↓z_evE_12, ↓z_evE_13, ↓z_evE_14, ↓z_evE_15, ↓z_evE_16, ↓z_evE_17, ↓z_evE_18, ↓z_evE_19, ↓z_evE_20, ↓z_evE_21, ↓z_evE_22, ↓z_evE_23, ↓z_evE_24, ↓z_evRs_1, ↓z_evRs_2, ↓z_evO_1, ↓z_evO_2, ↓z_evT_1, ↓z_evT_2, ↓z_evT_3, ↓z_evT_4, ↓z_evC_1, ↓z_evC_2, ↓z_evIt_1, ↓z_evIt_3, ↓z_evIt_4, ↓z_evIt_5, ↓z_evIt_6, ↓z_evS_1, ↓z_evS_2, ↓z_evS_3, ↓z_evS_4, ↓z_evS_5, ↓z_evS_6, ↓z_evS_7, ↓z_evS_8, ↓z_evS_9, ↓z_evS_10, ↓z_evS_11, ↓z_evS_12, ↓z_evS_13, ↓z_evSs_1, ↓z_evSs_2, ↓evIt_rng, leave, start, slotRv, Rv.tree, Rv.isI, Rv.isB, Rv.isS, T.isI, T.isB, T.isS, Rv.w, Rv.lst, Rv.seq, lstAt, seqAt, Rv.data, binop, cmpop, eqRv, inRv, ltRv, isRv, truth, isTy, isiRv, lenRv, LL.bi, biLen, biAll, biAny, biInt, biStr, biTuple, biList, biSorted, meFind, meCount, meJoin, meS, meL, meAppend, meInsert, mePop0, putL, getL, meRv, meTy, ixRv, slRv, revRv, src1, src2, src3, src4, src5, bindTg, bindTs, wipe, treesOf, tupOf, lstOf, app, Sto.trunc, glo0, glo1, glo2, SZ, -List.map_map, ixOf, T.eqOk, T.data, T.datas, T.calm, T.calms, T.depth, T.depths, T.beq, T.beqs, hb]
              have ha : (w.map fun p => !(p == t) && sub p t).any id = w.any fun p => !(p == t) && sub p t := by simp
              rw [ha]
              cases (w.any fun p => !(p == t) && sub p t) <;> simp [↓mb, ↓pu, ↓gd, ↓opt_some, ↓bad_app, ↓rv_val, ↓nox_app, ↓ite_a, ↓z_evE_1, ↓z_evE_2, ↓z_evE_3, ↓z_evE_4, ↓z_evE_5, ↓z_evE_6, ↓z_evE_7, ↓z_evE_8, ↓z_evE_9, ↓z_evE_10, ↓z_evE_11, ↓z_evE_12, ↓z_evE_13, ↓z_evE_14, ↓z_evE_15, ↓z_evE_16, ↓z_evE_17, ↓z_evE_18, ↓z_evE_19, ↓z_evE_20, ↓z_evE_21, ↓z_evE_22, ↓z_evE_23, ↓z_evE_24, ↓z_evRs_1, ↓z_evRs_2, ↓z_evO_1, ↓z_evO_2, ↓z_evT_1, ↓z_evT_2, ↓z_evT_3, ↓z_evT_4, ↓z_evC_1, ↓z_evC_2, ↓z_evIt_1, ↓z_evIt_3, ↓z_evIt_4, ↓z_evIt_5, ↓z_evIt_6, ↓z_evS_1, ↓z_evS_2, ↓z_evS_3, ↓z_evS_4, ↓z_evS_5, ↓z_evS_6, ↓z_evS_7, ↓z_evS_8, ↓z_evS_9, ↓z_evS_10, ↓z_evS_11, ↓z_evS_12, ↓z_evS_13, ↓z_evSs_1, ↓z_evSs_2, ↓evIt_rng, leave, start, slotRv, Rv.tree, Rv.isI, Rv.isB, Rv.isS, T.isI, T.isB, T.isS, Rv.w, Rv.lst, Rv.seq, lstAt, seqAt, Rv.data, binop, cmpop, eqRv, inRv, ltRv, isRv, truth, isTy, isiRv, lenRv, LL.bi, biLen, biAll, biAny, biInt, biStr, biTuple, biList, biSorted, meFind, meCount, meJoin, meS, meL, meAppend, meInsert, mePop0, putL, getL, meRv, meTy, ixRv, slRv, revRv, src1, src2, src3, src4, src5, bindTg, bindTs, wipe, treesOf, tupOf, lstOf, app, Sto.trunc, glo0, glo1, glo2, SZ, -List.map_map, ixOf, T.eqOk, T.data, T.datas, T.calm, T.calms, T.depth, T.depths, T.beq, T.beqs, hacc]
            · intro o ho acc hacc
              obtain ⟨p, hp, rfl⟩ := List.mem_map.1 ho
              have ip := is_part_of_t (k := m + 1) (S := S) (s := p) (t := t) (hel t ht)
              rw [show m + 1 + 1 = k + n + 1 by omega] at ip
              by_cases hpt : p = t
              · simp [↓mb, ↓pu, ↓gd, ↓opt_some, ↓bad_app, ↓rv_val, ↓nox_app, ↓ite_a, ↓z_evE_1, ↓z_evE_2, ↓z_evE_3, ↓z_evE_4, ↓z_evE_5, ↓z_evE_6, ↓z_evE_7, ↓z_evE_8, ↓z_evE_9, ↓z_evE_10, ↓z_evE_11, ↓z_evE_12, ↓z_evE_13, ↓z_evE_14, ↓z_evE_15, ↓z_evE_16, ↓z_evE_17, ↓z_evE_18, ↓z_evE_19, ↓z_evE_20, ↓z_evE_21, ↓z_evE_22, ↓z_evE_23, ↓z_evE_24, ↓z_evRs_1, ↓z_evRs_2, ↓z_evO_1, ↓z_evO_2, ↓z_evT_1, ↓z_evT_2, ↓z_evT_3, ↓z_evT_4, ↓z_evC_1, ↓z_evC_2, ↓z_evIt_1, ↓z_evIt_3, ↓z_evIt_4, ↓z_evIt_5, ↓z_evIt_6, ↓z_evS_1, ↓z_evS_2, ↓z_evS_3, ↓z_evS_4, ↓z_evS_5, ↓z_evS_6, ↓z_evS_7, ↓z_evS_8, ↓z_evS_9, ↓z_evS_10, ↓z_evS_11, ↓z_evS_12, ↓z_evS_13, ↓z_evSs_1, ↓z_evSs_2, ↓evIt_rng, leave, start, slotRv, Rv.tree, Rv.isI, Rv.isB, Rv.isS, T.isI, T.isB, T.isS, Rv.w, Rv.lst, Rv.seq, lstAt, seqAt, Rv.data, binop, cmpop, eqRv, inRv, ltRv, isRv, truth, isTy, isiRv, lenRv, LL.bi, biLen, biAll, biAny, biInt, biStr, biTuple, biList, biSorted, meFind, meCount, meJoin, meS, meL, meAppend, meInsert, mePop0, putL, getL, meRv, meTy, ixRv, slRv, revRv, src1, src2, src3, src4, src5, bindTg, bindTs, wipe, treesOf, tupOf, lstOf, app, Sto.trunc, glo0, glo1, glo2, SZ, -List.map_map, ixOf, T.eqOk, T.data, T.datas, T.calm, T.calms, T.depth, T.depths, T.beq, T.beqs, hpt, hacc, strOf]
              · simp [↓mb, ↓pu, ↓gd, ↓opt_some, ↓bad_app, ↓rv_val, ↓nox_app, ↓ite_a, ↓z_evE_1, ↓z_evE_2, ↓z_evE_3, ↓z_evE_4, ↓z_evE_5, ↓z_evE_6, ↓z_evE_7, ↓z_evE_8, ↓z_evE_9, ↓z_evE_10, ↓z_evE_11, ↓z_evE_12, ↓z_evE_13, ↓z_evE_14, ↓z_evE_15, ↓z_evE_16, ↓z_evE_17, ↓z_evE_18, ↓z_evE_19, ↓z_evE_20, ↓z_evE_21, ↓z_evE_22, ↓z_evE_23, ↓z_evE_24, ↓z_evRs_1, ↓z_evRs_2, ↓z_evO_1, ↓z_evO_2, ↓z_evT_1, ↓z_evT_2, ↓z_evT_3, ↓z_evT_4, ↓z_evC_1, ↓z_evC_2, ↓z_evIt_1, ↓z_evIt_3, ↓z_evIt_4, ↓z_evIt_5, ↓z_evIt_6, ↓z_evS_1, ↓z_evS_2, ↓z_evS_3, ↓z_evS_4, ↓z_evS_5, ↓z_evS_6, ↓z_evS_7, ↓z_evS_8, ↓z_evS_9, ↓z_evS_10, ↓z_evS_11, ↓z_evS_12, ↓z_evS_13, ↓z_evSs_1, ↓z_evSs_2, ↓evIt_rng, leave, start, slotRv, Rv.tree, Rv.isI, Rv.isB, Rv.isS, T.isI, T.isB, T.isS, Rv.w, Rv.lst, Rv.seq, lstAt, seqAt, Rv.data, binop, cmpop, eqRv, inRv, ltRv, isRv, truth, isTy, isiRv, lenRv, LL.bi, biLen, biAll, biAny, biInt, biStr, biTuple, biList, biSorted, meFind, meCount, meJoin, meS, meL, meAppend, meInsert, mePop0, putL, getL, meRv, meTy, ixRv, slRv, revRv, src1, src2, src3, src4, src5, bindTg, bindTs, wipe, treesOf, tupOf, lstOf, app, Sto.trunc, glo0, glo1, glo2, SZ, -List.map_map, ixOf, T.eqOk, T.data, T.datas, T.calm, T.calms, T.depth, T.depths, T.beq, T.beqs, hpt, hacc, ip, strOf]
        · intro z hz acc hacc
          obtain ⟨t, ht, rfl⟩ := List.mem_map.1 hz
          have := (o3.2 t ht).1
          have hz2 : 1 + t.length ≤ 16777216 := by simp at this; omega
          simp [↓mb, ↓pu, ↓gd, ↓opt_some, ↓bad_app, ↓rv_val, ↓nox_app, ↓ite_a, ↓z_evE_1, ↓z_evE_2, ↓z_evE_3, ↓z_evE_4, ↓z_evE_5, ↓z_evE_6, ↓z_evE_7, ↓z_evE_8, ↓z_evE_9, ↓z_evE_10, ↓z_evE_11, ↓z_evE_12, ↓z_evE_13, ↓z_evE_14, ↓z_evE_15, ↓z_evE_16, ↓z_evE_17, ↓z_evE_18, ↓z_evE_19, ↓z_evE_20, ↓z_evE_21, ↓z_evE_22, ↓z_evE_23, ↓z_evE_24, ↓z_evRs_1, ↓z_evRs_2, ↓z_evO_1, ↓z_evO_2, ↓z_evT_1, ↓z_evT_2, ↓z_evT_3, ↓z_evT_4, ↓z_evC_1, ↓z_evC_2, ↓z_evIt_1, ↓z_evIt_3, ↓z_evIt_4, ↓z_evIt_5, ↓z_evIt_6, ↓z_evS_1, ↓z_evS_2, ↓z_evS_3, ↓z_evS_4, ↓z_evS_5, ↓z_evS_6, ↓z_evS_7, ↓z_evS_8, ↓z_evS_9, ↓z_evS_10, ↓z_evS_11, ↓z_evS_12, ↓z_evS_13, ↓z_evSs_1, ↓z_evSs_2, ↓evIt_rng, leave, start, slotRv, Rv.tree, Rv.isI, Rv.isB, Rv.isS, T.isI, T.isB, T.isS, Rv.w, Rv.lst, Rv.seq, lstAt, seqAt, Rv.data, binop, cmpop, eqRv, inRv, ltRv, isRv, truth, isTy, isiRv, lenRv, LL.bi, biLen, biAll, biAny, biInt, biStr, biTuple, biList, biSorted, meFind, meCount, meJoin, meS, meL, meAppend, meInsert, mePop0, putL, getL, meRv, meTy, ixRv, slRv, revRv, src1, src2, src3, src4, src5, bindTg, bindTs, wipe, treesOf, tupOf, lstOf, app, Sto.trunc, glo0, glo1, glo2, SZ, -List.map_map, ixOf, T.eqOk, T.data, T.datas, T.calm, T.calms, T.depth, T.depths, T.beq, T.beqs, ha, hb, hacc, hz2, strOf]
      · intro z hz acc hacc
        obtain ⟨t, ht, rfl⟩ := List.mem_map.1 hz
        have := (o2.2 t ht).1
        have hz2 : 1 + t.length ≤ 16777216 := by simp at this; omega
        simp [↓mb, ↓pu, ↓gd, ↓opt_some, ↓bad_app, ↓rv_val, ↓nox_app, ↓ite_a, ↓z_evE_1, ↓z_evE_2, ↓z_evE_3, ↓z_evE_4, ↓z_evE_5, ↓z_evE_6, ↓z_evE_7, ↓z_evE_8, ↓z_evE_9, ↓z_evE_10, ↓z_evE_11, ↓z_evE_12, ↓z_evE_13, ↓z_evE_14, ↓z_evE_15, ↓z_evE_16, ↓z_evE_17, ↓z_evE_18, ↓z_evE_19, ↓z_evE_20, ↓z_evE_21, ↓z_evE_22, ↓z_evE_23, ↓z_evE_24, ↓z_evRs_1, ↓z_evRs_2, ↓z_evO_1, ↓z_evO_2, ↓z_evT_1, ↓z_evT_2, ↓z_evT_3, ↓z_evT_4, ↓z_evC_1, ↓z_evC_2, ↓z_evIt_1, ↓z_evIt_3, ↓z_evIt_4, ↓z_evIt_5, ↓z_evIt_6, ↓z_evS_1, ↓z_evS_2, ↓z_evS_3, ↓z_evS_4, ↓z_evS_5, ↓z_evS_6, ↓z_evS_7, ↓z_evS_8, ↓z_evS_9, ↓z_evS_10, ↓z_evS_11, ↓z_evS_12, ↓z_evS_13, ↓z_evSs_1, ↓z_evSs_2, ↓evIt_rng, leave, start, slotRv, Rv.tree, Rv.isI, Rv.isB, Rv.isS, T.isI, T.isB, T.isS, Rv.w, Rv.lst, Rv.seq, lstAt, seqAt, Rv.data, binop, cmpop, eqRv, inRv, ltRv, isRv, truth, isTy, isiRv, lenRv, LL.bi, biLen, biAll, biAny, biInt, biStr, biTuple, biList, biSorted, meFind, meCount, meJoin, meS, meL, meAppend, meInsert, mePop0, putL, getL, meRv, meTy, ixRv, slRv, revRv, src1, src2, src3, src4, src5, bindTg, bindTs, wipe, treesOf, tupOf, lstOf, app, Sto.trunc, glo0, glo1, glo2, SZ, -List.map_map, ixOf, T.eqOk, T.data, T.datas, T.calm, T.calms, T.depth, T.depths, T.beq, T.beqs, ha, hb, hacc, hz2, strOf]
end LLQ

set_option Elab.async false
set_option linter.all false
set_option autoImplicit false
set_option maxRecDepth 100000
set_option maxHeartbeats 1000000
namespace LLQ
open LL LLS LLP
theorem lc_mapA {ws : List (Nat × List T)} {step : T → List T → M (List T)} (f : T → T) (s : Sto) (hw : watchOk s ws = true) : ∀ (xs acc : List T), acc.length + xs.length ≤ 16777216 →
    (∀ x ∈ xs, ∀ a : List T, a.length < 16777216 → step x a s = .ok (a ++ [f x]) s) → lcLoop ws step xs acc s = .ok (acc ++ xs.map f) s
  | [], acc, _, _ => by simp [lcLoop, Bind.bind, M.bind, M.watch, hw, M.pure]
  | x :: r, acc, hl, hs => by
    have h1 := hs x (by simp) acc (by simp at hl; omega)
    have ih := lc_mapA f s hw r (acc ++ [f x]) (by simp at hl ⊢; omega) (fun y hy => hs y (by simp [hy]))
    simp [lcLoop, Bind.bind, M.bind, M.watch, hw, h1, ih]
theorem lc_flat {ws : List (Nat × List T)} {step : T → List T → M (List T)} (F : T → List T) (s : Sto) (hw : watchOk s ws = true) : ∀ (xs acc : List T), acc.length + (xs.flatMap F).length ≤ 16777216 →
    (∀ x ∈ xs, ∀ a : List T, a.length + (F x).length ≤ 16777216 → step x a s = .ok (a ++ F x) s) → lcLoop ws step xs acc s = .ok (acc ++ xs.flatMap F) s
  | [], acc, _, _ => by simp [lcLoop, Bind.bind, M.bind, M.watch, hw, M.pure]
  | x :: r, acc, hl, hs => by
    have h1 := hs x (by simp) acc (by simp at hl; omega)
    have ih := lc_flat F s hw r (acc ++ F x) (by simp at hl ⊢; omega) (fun y hy => hs y (by simp [hy]))
    simp [lcLoop, Bind.bind, M.bind, M.watch, hw, h1, ih]
def heapOver (a b : Cs) : Cs := List.replicate (max (a.count 97) (b.count 97)) 97 ++ (List.replicate (max (a.count 98) (b.count 98)) 98 ++ List.replicate (max (a.count 99) (b.count 99)) 99)
def textsF (m a b : Cs) : List Cs := if m = heap then [heapOver a b] else overF 9 a b
theorem max_sub (p q : Nat) : (if (0 : Int) < (q : Int) - (p : Int) then (q : Int) - (p : Int) else 0).toNat = q - p := by split <;> omega
theorem texts_over_t {k : Nat} {S : Sto} {m a b : Cs} (hm : Man m) (ha : a.length ≤ 4) (hb : b.length ≤ 4) : run prog (k + 11) 66 [.t (.str m), .t (.str a), .t (.str b)] S = .ok (.new ((textsF m a b).map T.str)) S := by
  rw [run_fn (rfl : prog.fn 66 = some F_texts_over)]
  by_cases hh : m = heap
  · subst hh
    have c1 : a.count 97 ≤ 4 := Nat.le_trans List.count_le_length ha
    have c2 : a.count 98 ≤ 4 := Nat.le_trans List.count_le_length ha
    have c3 : a.count 99 ≤ 4 := Nat.le_trans List.count_le_length ha
    have d1 : b.count 97 ≤ 4 := Nat.le_trans List.count_le_length hb
    have d2 : b.count 98 ≤ 4 := Nat.le_trans List.count_le_length hb
    have d3 : b.count 99 ≤ 4 := Nat.le_trans List.count_le_length hb
    have e : ∀ (p q : Nat), q ≤ 4 → (if p < q then (q : Int) - (p : Int) else 0) = ((q - p : Nat) : Int) := fun p q h => by split <;> omega
    have f : ∀ (p q : Nat), q ≤ 4 → ((q - p : Nat) : Int) ≤ 1000 := fun p q h => by omega
    have io := in_order_t (k := k + 9) (S := S) (t := a ++ (List.replicate (b.count 97 - a.count 97) 97 ++ (List.replicate (b.count 98 - a.count 98) 98 ++ List.replicate (b.count 99 - a.count 99) 99))) (by simp; omega)
    have ho : ordd (a ++ (List.replicate (b.count 97 - a.count 97) 97 ++ (List.replicate (b.count 98 - a.count 98) 98 ++ List.replicate (b.count 99 - a.count 99) 99))) = heapOver a b := by
      have g : ∀ p q : Nat, p + (q - p) = max p q := fun p q => by omega
      simp [ordd, heapOver, List.count_append, List.count_replicate, g]
    rw [ho] at io
    have g1 := f (a.count 97) (b.count 97) d1
    have g2 := f (a.count 98) (b.count 98) d2
    have g3 := f (a.count 99) (b.count 99) d3
    have hs1 : (b.count 97 - a.count 97) + ((b.count 98 - a.count 98) + (b.count 99 - a.count 99)) ≤ 16777216 := by omega
    have hs2 : a.length + ((b.count 97 - a.count 97) + ((b.count 98 - a.count 98) + (b.count 99 - a.count 99))) ≤ 16777216 := by omega
    simp [F_texts_over, ↓mb, ↓pu, ↓gd, ↓opt_some, ↓bad_app, ↓rv_val, ↓nox_app, ↓ite_a, ↓z_evE_1, ↓z_evE_2, ↓z_evE_3, ↓z_evE_4, ↓z_evE_5, ↓z_evE_6, ↓z_evE_7, ↓z_evE_8, ↓z_evE_9, ↓z_evE_10, ↓z_evE_11, ↓z_evE_12, ↓z_evE_13, ↓z_evE_14, ↓z_evE_15, ↓z_evE_16, ↓z_evE_17, ↓z_evE_18, ↓z_evE_19, ↓z_evE_20, ↓z_evE_21, ↓z_evE_22, ↓z_evE_23, ↓z_evE_24, ↓z_evRs_1, ↓z_evRs_2, ↓z_evO_1, ↓z_evO_2, ↓z_evT_1, ↓z_evT_2, ↓z_evT_3, ↓z_evT_4, ↓z_evC_1, ↓z_evC_2, ↓z_evIt_1, ↓z_evIt_3, ↓z_evIt_4, ↓z_evIt_5, ↓z_evIt_6, ↓z_evS_1, ↓z_evS_2, ↓z_evS_3, ↓z_evS_4, ↓z_evS_5, ↓z_evS_6, ↓z_evS_7, ↓z_evS_8, ↓z_evS_9, ↓z_evS_10, ↓z_evS_11, ↓z_evS_12, ↓z_evS_13, ↓z_evSs_1, ↓z_evSs_2, ↓evIt_rng, leave, start, slotRv, Rv.tree, Rv.isI, Rv.isB, Rv.isS, T.isI, T.isB, T.isS, Rv.w, Rv.lst, Rv.seq, lstAt, seqAt, Rv.data, binop, cmpop, eqRv, inRv, ltRv, isRv, truth, isTy, isiRv, lenRv, LL.bi, biLen, biAll, biAny, biInt, biStr, biTuple, biList, biSorted, meFind, meCount, meJoin, meS, meL, meAppend, meInsert, mePop0, putL, getL, meRv, meTy, ixRv, slRv, revRv, src1, src2, src3, src4, src5, bindTg, bindTs, wipe, treesOf, tupOf, lstOf, app, Sto.trunc, glo0, glo1, glo2, SZ, -List.map_map, ixOf, T.eqOk, T.data, T.datas, T.calm, T.calms, T.depth, T.depths, T.beq, T.beqs, lcLoop, M.watch, watchOk, e _ _ d1, e _ _ d2, e _ _ d3, biMax, rep_one, allStr, join_nil, g1, g2, g3, hs1, hs2, io, textsF]
  · have ho := over_t (k := k) (S := S) 9 a b (by omega) (by omega)
    simp [F_texts_over, ↓mb, ↓pu, ↓gd, ↓opt_some, ↓bad_app, ↓rv_val, ↓nox_app, ↓ite_a, ↓z_evE_1, ↓z_evE_2, ↓z_evE_3, ↓z_evE_4, ↓z_evE_5, ↓z_evE_6, ↓z_evE_7, ↓z_evE_8, ↓z_evE_9, ↓z_evE_10, ↓z_evE_11, ↓z_evE_12, ↓z_evE_13, ↓z_evE_14, ↓z_evE_15, ↓z_evE_16, ↓z_evE_17, ↓z_evE_18, ↓z_evE_19, ↓z_evE_20, ↓z_evE_21, ↓z_evE_22, ↓z_evE_23, ↓z_evE_24, ↓z_evRs_1, ↓z_evRs_2, ↓z_evO_1, ↓z_evO_2, ↓z_evT_1, ↓z_evT_2, ↓z_evT_3, ↓z_evT_4, ↓z_evC_1, ↓z_evC_2, ↓z_evIt_1, ↓z_evIt_3, ↓z_evIt_4, ↓z_evIt_5, ↓z_evIt_6, ↓z_evS_1, ↓z_evS_2, ↓z_evS_3, ↓z_evS_4, ↓z_evS_5, ↓z_evS_6, ↓z_evS_7, ↓z_evS_8, ↓z_evS_9, ↓z_evS_10, ↓z_evS_11, ↓z_evS_12, ↓z_evS_13, ↓z_evSs_1, ↓z_evSs_2, ↓evIt_rng, leave, start, slotRv, Rv.tree, Rv.isI, Rv.isB, Rv.isS, T.isI, T.isB, T.isS, Rv.w, Rv.lst, Rv.seq, lstAt, seqAt, Rv.data, binop, cmpop, eqRv, inRv, ltRv, isRv, truth, isTy, isiRv, lenRv, LL.bi, biLen, biAll, biAny, biInt, biStr, biTuple, biList, biSorted, meFind, meCount, meJoin, meS, meL, meAppend, meInsert, mePop0, putL, getL, meRv, meTy, ixRv, slRv, revRv, src1, src2, src3, src4, src5, bindTg, bindTs, wipe, treesOf, tupOf, lstOf, app, Sto.trunc, glo0, glo1, glo2, SZ, -List.map_map, ixOf, T.eqOk, T.data, T.datas, T.calm, T.calms, T.depth, T.depths, T.beq, T.beqs, hh, ho, textsF]
/-! ### products over the lines -/
abbrev Tri := Cs × Cs × Cs
def Tri.t (z : Tri) : T := .tup [.str z.1, .str z.2.1, .str z.2.2]
def triOf : T → Tri
  | .tup [.str a, .str b, .str c] => (a, b, c)
  | _ => ([], [], [])
theorem triOf_t (z : Tri) : triOf z.t = z := rfl
def stepP (g : Cs → Cs → Cs → List Cs) (rows : List (List Cs)) (z : Tri) : List (List Cs) := rows.flatMap fun row => (g z.1 z.2.1 z.2.2).map fun w => row ++ [w]
def prodF (g : Cs → Cs → Cs → List Cs) (zs : List Tri) : List (List Cs) := zs.foldl (stepP g) [[]]
def rowT (r : List Cs) : T := .tup (r.map T.str)
def zipT : List Cs → List Cs → List Cs → List Tri
  | a :: as, b :: bs, c :: cs => (a, b, c) :: zipT as bs cs
  | _, _, _ => []
theorem zipT_items : ∀ as bs cs : List Cs, zip3Items (as.map T.str) (bs.map T.str) (cs.map T.str) = (zipT as bs cs).map Tri.t
  | a :: as, b :: bs, c :: cs => by simp only [List.map_cons, zip3Items, zipT, zipT_items as bs cs, Tri.t]
  | [], _, _ => by simp [zip3Items, zipT]
  | _ :: _, [], _ => by simp [zip3Items, zipT]
  | _ :: _, _ :: _, [] => by simp [zip3Items, zipT]
theorem zipT_len : ∀ as bs cs : List Cs, bs.length = as.length → cs.length = as.length → (zipT as bs cs).length = as.length
  | [], [], [], _, _ => rfl
  | a :: as, b :: bs, c :: cs, h1, h2 => by simp [zipT, zipT_len as bs cs (by simpa using h1) (by simpa using h2)]
theorem zipT_mem : ∀ (as bs cs : List Cs) (z : Tri), z ∈ zipT as bs cs → z.1 ∈ as ∧ z.2.1 ∈ bs ∧ z.2.2 ∈ cs ∧ (z.1, z.2.1) ∈ List.zip as bs ∧ (z.1, z.2.2) ∈ List.zip as cs
  | [], _, _, z, h => by simp [zipT] at h
  | _ :: _, [], _, z, h => by simp [zipT] at h
  | _ :: _, _ :: _, [], z, h => by simp [zipT] at h
  | a :: as, b :: bs, c :: cs, z, h => by
    simp only [zipT, List.mem_cons] at h
    rcases h with rfl | h
    · simp
    · obtain ⟨h1, h2, h3, h4, h5⟩ := zipT_mem as bs cs z h
      simp [h1, h2, h3, h4, h5]
theorem flatMap_len {α β : Type} (f : α → List β) (n : Nat) (h : ∀ x, (f x).length ≤ n) : ∀ xs : List α, (xs.flatMap f).length ≤ xs.length * n
  | [] => by simp
  | x :: r => by
    have := flatMap_len f n h r
    have := h x
    simp only [List.flatMap_cons, List.length_append, List.length_cons, Nat.succ_mul]
    omega
theorem prodF_len {g : Cs → Cs → Cs → List Cs} (hg : ∀ a b c, (g a b c).length ≤ 512) : ∀ (zs : List Tri) (rows : List (List Cs)) (m : Nat), (∀ r ∈ rows, r.length = m) → (zs.foldl (stepP g) rows).length ≤ rows.length * 512 ^ zs.length ∧ ∀ r ∈ zs.foldl (stepP g) rows, r.length = m + zs.length
  | [], rows, m, h => by simpa using h
  | z :: r, rows, m, h => by
    have h1 : ∀ x ∈ stepP g rows z, x.length = m + 1 := by
      intro x hx
      unfold stepP at hx
      obtain ⟨y, hy, hx⟩ := List.mem_flatMap.1 hx
      obtain ⟨w, hw, rfl⟩ := List.mem_map.1 hx
      simp [h y hy]
    have ih := prodF_len hg r (stepP g rows z) (m + 1) h1
    have h2 : (stepP g rows z).length ≤ rows.length * 512 := flatMap_len _ 512 (fun x => by simpa using hg _ _ _) rows
    refine ⟨Nat.le_trans ih.1 ?_, fun x hx => by rw [ih.2 x hx]; simp; omega⟩
    rw [List.length_cons, Nat.pow_succ, Nat.mul_comm (512 ^ r.length) 512, ← Nat.mul_assoc]
    exact Nat.mul_le_mul_right _ h2
theorem textsF_len (m a b : Cs) : (textsF m a b).length ≤ 512 := by
  unfold textsF
  split
  · simp
  · exact (over_len 9 a b).1
theorem prod_bound {g : Cs → Cs → Cs → List Cs} (hg : ∀ a b c, (g a b c).length ≤ 512) (zs : List Tri) (h : zs.length ≤ 2) : (prodF g zs).length ≤ 262144 ∧ ∀ r ∈ prodF g zs, r.length = zs.length := by
  have := prodF_len hg zs [[]] 0 (by simp)
  refine ⟨Nat.le_trans this.1 ?_, fun r hr => by simpa using this.2 r hr⟩
  have : 512 ^ zs.length ≤ 512 ^ 2 := Nat.pow_le_pow_right (by omega) h
  simpa using this
end LLQ

set_option Elab.async false
set_option linter.all false
set_option autoImplicit false
set_option maxRecDepth 100000
set_option maxHeartbeats 1000000
namespace LLQ
open LL LLS LLP
theorem over_head : ∀ (n : Nat) (a b : Cs) (c : Nat) (t : Cs), c :: t ∈ overF n a b → a.head? = some c ∨ b.head? = some c
  | 0, a, b, c, t, h => by simp [overF] at h
  | n + 1, [], b, c, t, h => by simp [overF] at h; subst h; exact .inr rfl
  | n + 1, x :: a, [], c, t, h => by simp [overF] at h; exact .inl (by simp [h.1])
  | n + 1, x :: a, y :: b, c, t, h => by
    unfold overF at h
    by_cases e : x = y
    · rw [if_pos e] at h
      obtain ⟨u, hu, q⟩ := List.mem_map.1 h
      exact .inl (by simp at q; simp [q.1])
    · rw [if_neg e] at h
      have h := (List.mem_filter.1 h).1
      rw [strsAsc_mem] at h
      rcases List.mem_append.1 h with h | h
      · obtain ⟨u, hu, q⟩ := List.mem_map.1 h
        exact .inl (by simp at q; simp [q.1])
      · obtain ⟨u, hu, q⟩ := List.mem_map.1 h
        exact .inr (by simp at q; simp [q.1])
theorem noTwo_tail {x : Nat} {a : Cs} (h : NoTwo (x :: a)) : NoTwo a := by
  cases a with
  | nil => trivial
  | cons y r => exact h.2
theorem noTwo_head {x c : Nat} {a : Cs} (h : NoTwo (x :: a)) (hc : a.head? = some c) : x ≠ c := by
  cases a with
  | nil => simp at hc
  | cons y r => simp at hc; subst hc; exact h.1
theorem noTwo_cons {x : Nat} {t : Cs} (h : NoTwo t) (hx : ∀ c r, t = c :: r → x ≠ c) : NoTwo (x :: t) := by
  cases t with
  | nil => trivial
  | cons c r => exact ⟨hx c r rfl, h⟩
theorem over_noTwo : ∀ (n : Nat) (a b : Cs), NoTwo a → NoTwo b → ∀ w ∈ overF n a b, NoTwo w
  | 0, a, b, _, _, w, h => by simp [overF] at h
  | n + 1, [], b, ha, hb, w, h => by simp [overF] at h; subst h; exact hb
  | n + 1, x :: a, [], ha, hb, w, h => by simp [overF] at h; subst h; exact ha
  | n + 1, x :: a, y :: b, ha, hb, w, h => by
    unfold overF at h
    by_cases e : x = y
    · rw [if_pos e] at h
      obtain ⟨u, hu, rfl⟩ := List.mem_map.1 h
      refine noTwo_cons (over_noTwo n a b (noTwo_tail ha) (noTwo_tail hb) u hu) ?_
      rintro c r rfl
      rcases over_head n a b c r hu with q | q
      · exact noTwo_head ha q
      · rw [e]; exact noTwo_head hb q
    · rw [if_neg e] at h
      have h := (List.mem_filter.1 h).1
      rw [strsAsc_mem] at h
      rcases List.mem_append.1 h with h | h
      · obtain ⟨u, hu, rfl⟩ := List.mem_map.1 h
        refine noTwo_cons (over_noTwo n a (y :: b) (noTwo_tail ha) hb u hu) ?_
        rintro c r rfl
        rcases over_head n a (y :: b) c r hu with q | q
        · exact noTwo_head ha q
        · simp at q; rw [← q]; exact e
      · obtain ⟨u, hu, rfl⟩ := List.mem_map.1 h
        refine noTwo_cons (over_noTwo n (x :: a) b ha (noTwo_tail hb) u hu) ?_
        rintro c r rfl
        rcases over_head n (x :: a) b c r hu with q | q
        · simp at q; rw [← q]; exact fun z => e z.symm
        · exact noTwo_head hb q
theorem textsF_ok {m a b : Cs} (hm : Man m) (ha : TxOk m a 4) (hb : TxOk m b 4) : ∀ w ∈ textsF m a b, TxOk m w 60 := by
  intro w hw
  unfold textsF at hw
  by_cases hh : m = heap
  · subst hh
    rw [if_pos rfl, List.mem_singleton] at hw
    subst hw
    have c1 : a.count 97 ≤ 4 := Nat.le_trans List.count_le_length ha.len
    have c2 : a.count 98 ≤ 4 := Nat.le_trans List.count_le_length ha.len
    have c3 : a.count 99 ≤ 4 := Nat.le_trans List.count_le_length ha.len
    have d1 : b.count 97 ≤ 4 := Nat.le_trans List.count_le_length hb.len
    have d2 : b.count 98 ≤ 4 := Nat.le_trans List.count_le_length hb.len
    have d3 : b.count 99 ≤ 4 := Nat.le_trans List.count_le_length hb.len
    refine ⟨by simp [heapOver]; omega, fun c hc => ?_, fun _ => by simp [ordd, heapOver, List.count_append, List.count_replicate], fun h => by simp at h⟩
    simp [heapOver] at hc
    omega
  · rw [if_neg hh] at hw
    have ol := (over_len 9 a b).2 w hw
    refine ⟨by have := ha.len; have := hb.len; omega, fun c hc => ?_, fun h => absurd h hh, fun he => over_noTwo 9 a b (ha.fit.2 he) (hb.fit.2 he) w hw⟩
    rcases ol.2 c hc with h | h
    · exact ha.abc c h
    · exact hb.abc c h
/-- a place with short texts -/
def Sh4 (x : Pl) : Prop := ∀ t ∈ x.ts, t.length ≤ 4
def rowOf (i j : Int) (r : List Cs) : T := .tup [.tup [.int i, .int j], rowT r]
theorem zip_TxOk {a : Tk} {x : Pl} (hx : PlOk a x) (h4 : Sh4 x) {m t : Cs} (h : (m, t) ∈ List.zip a.ms x.ts) : TxOk m t 4 := by
  have := hx.fit _ h
  exact ⟨h4 t (List.of_mem_zip h).2, this.2.1, this.2.2⟩
theorem prod_zip {g : Cs → Cs → Cs → List Cs} : ∀ (zs : List Tri) (rows : List (List Cs)) (ms : List Cs) (P : Cs → Cs → Prop), (∀ z ∈ zs, ∀ w ∈ g z.1 z.2.1 z.2.2, P z.1 w) → (∀ r ∈ rows, r.length = ms.length ∧ ∀ z ∈ List.zip ms r, P z.1 z.2) →
    ∀ r ∈ zs.foldl (stepP g) rows, r.length = (ms ++ zs.map (·.1)).length ∧ ∀ z ∈ List.zip (ms ++ zs.map (·.1)) r, P z.1 z.2
  | [], rows, ms, P, hg, h, r, hr => by simpa using h r hr
  | z :: zs, rows, ms, P, hg, h, r, hr => by
    have ih := prod_zip zs (stepP g rows z) (ms ++ [z.1]) P (fun y hy => hg y (by simp [hy])) (by
      intro q hq
      unfold stepP at hq
      obtain ⟨y, hy, hq⟩ := List.mem_flatMap.1 hq
      obtain ⟨w, hw, rfl⟩ := List.mem_map.1 hq
      have hy2 := h y hy
      refine ⟨by simp [hy2.1], fun u hu => ?_⟩
      rw [List.zip_append (by rw [hy2.1])] at hu
      rcases List.mem_append.1 hu with hu | hu
      · exact hy2.2 u hu
      · simp at hu; subst hu; exact hg z (by simp) w hw) r hr
    simpa using ih
theorem zipT_fst : ∀ (as bs cs : List Cs), bs.length = as.length → cs.length = as.length → (zipT as bs cs).map (·.1) = as
  | [], [], [], _, _ => rfl
  | a :: as, b :: bs, c :: cs, h1, h2 => by simp [zipT, zipT_fst as bs cs (by simpa using h1) (by simpa using h2)]
theorem prod_pl {a : Tk} {x y : Pl} {g : Cs → Cs → Cs → List Cs} (hx : PlOk a x) (hy : PlOk a y) (hg : ∀ z ∈ zipT a.ms x.ts y.ts, ∀ w ∈ g z.1 z.2.1 z.2.2, TxOk z.1 w 60) : ∀ r ∈ prodF g (zipT a.ms x.ts y.ts), PlP a (rowOf x.i x.j r) := by
  intro r hr
  have := prod_zip (zipT a.ms x.ts y.ts) [[]] [] (fun m w => TxOk m w 60) hg (by simp) r hr
  rw [List.nil_append, zipT_fst _ _ _ hx.len hy.len] at this
  exact ⟨⟨x.i, x.j, r⟩, ⟨hx.i0, hx.i1, hx.j0, hx.j1, this.1, fun z hz => ⟨(this.2 z hz).len, (this.2 z hz).abc, (this.2 z hz).fit⟩⟩, rfl⟩
def appT (t : T) (w : Cs) : T := match t with
  | .tup xs => .tup (xs ++ [.str w])
  | t => t
theorem appT_row (r : List Cs) (w : Cs) : appT (rowT r) w = rowT (r ++ [w]) := by simp [appT, rowT]
theorem stepP_T (g : Cs → Cs → Cs → List Cs) (rows : List (List Cs)) (z : Tri) : (rows.map rowT).flatMap (fun t => (g z.1 z.2.1 z.2.2).map fun w => appT t w) = (stepP g rows z).map rowT := by
  unfold stepP
  rw [List.map_flatMap, List.flatMap_map]
  congr 1
  funext r
  rw [List.map_map]
  apply List.map_congr_left
  intro w _
  exact appT_row r w
theorem foldP_mid {g : Cs → Cs → Cs → List Cs} (hg : ∀ a b c, (g a b c).length ≤ 512) (zs d r : List Tri) (z : Tri) (e : zs = d ++ z :: r) (h : zs.length ≤ 2) : (prodF g (d ++ [z])).length ≤ 262144 ∧ (prodF g d).length ≤ 262144 ∧ ∀ x ∈ prodF g d, x.length ≤ 2 := by
  have hl := congrArg List.length e
  simp at hl
  have h1 := prod_bound hg (d ++ [z]) (by simp; omega)
  have h2 := prod_bound hg d (by omega)
  exact ⟨h1.1, h2.1, fun x hx => by rw [h2.2 x hx]; omega⟩
theorem triOf_map (d : List Tri) : (d.map Tri.t).map triOf = d := by
  rw [List.map_map]
  have : (triOf ∘ Tri.t) = id := by funext z; rfl
  rw [this]; simp
theorem pre_tri {zs : List Tri} {d r : List T} {x : T} (h : zs.map Tri.t = d ++ x :: r) : ∃ (ds rs : List Tri) (z : Tri), d = ds.map Tri.t ∧ x = z.t ∧ zs = ds ++ z :: rs := by
  obtain ⟨l1, l2, h1, h2, h3⟩ := List.map_eq_append_iff.1 h
  obtain ⟨z, l3, h4, h5, h6⟩ := List.map_eq_cons_iff.1 h3
  exact ⟨l1, l3, z, h2.symm, h5.symm, by rw [h1, h4]⟩
theorem common_of_t {k : Nat} {S : Sto} {a : Tk} {x y : Pl} (ha : TkOk a) (hx : PlOk a x) (hy : PlOk a y) (h4 : Sh4 x) (h4' : Sh4 y) : run prog (k + 12) 67 [.t a.t, .t x.t, .t y.t] S =
    .ok (.v (.tup (if x.i = y.i ∧ x.j = y.j then leastF belT ((prodF textsF (zipT a.ms x.ts y.ts)).map (rowOf x.i x.j)) else []))) S := by
  rw [run_fn (rfl : prog.fn 67 = some F_common_of)]
  by_cases e : x.i = y.i ∧ x.j = y.j
  · have zl := zipT_len a.ms x.ts y.ts hx.len hy.len
    have zl2 : (zipT a.ms x.ts y.ts).length ≤ 2 := by have := ha.ms.1; omega
    obtain ⟨σ', s', e1, hs, v4, v5, v6, hσ⟩ := for_inv (ws := []) (step := fun z σ => (do
        let σ' ← bindTg (.tp [4, 5, 6]) z σ
        evSs ⟨run prog (k + 11), prog.glo⟩ (.cons (.asg (.n 3) (.lc2 [7, 8] [8] (.bin .add (.var 7) (.tup (.cons (.var 8) .nil))) (.n 7) (.e (.var 3)) .no (.n 8) (.e (.call 66 (.cons (.var 4) (.cons (.var 5) (.cons (.var 6) .nil))))) .no)) .nil) σ' : M (Fl × Env)))
      (fun d σ s => s = S ∧ ∃ v4 v5 v6, σ = [some (.t a.t), some (.t x.t), some (.t y.t), some (.t (.lst ((prodF textsF (d.map triOf)).map rowT))), v4, v5, v6, none, none]) ((zipT a.ms x.ts y.ts).map Tri.t) []
      (fun d σ s h => by simp [watchOk])
      (by
        intro d z r σ s he ⟨hs, v4, v5, v6, hσ⟩
        subst hs hσ
        rw [List.nil_append] at he
        obtain ⟨ds, rs, z, rfl, rfl, he2⟩ := pre_tri he
        have hz : z ∈ zipT a.ms x.ts y.ts := by rw [he2]; simp
        obtain ⟨m1, m2, m3, m4, m5⟩ := zipT_mem _ _ _ z hz
        have mid := foldP_mid textsF_len _ ds rs z he2 zl2
        have ht := texts_over_t (k := k) (S := s) (ha.ms.2 _ m1) (h4 _ m2) (h4' _ m3)
        refine ⟨[some (.t a.t), some (.t x.t), some (.t y.t), some (.t (.lst ((prodF textsF ((ds.map Tri.t ++ [Tri.t z]).map triOf)).map rowT))), some (.t (.str z.1)), some (.t (.str z.2.1)), some (.t (.str z.2.2)), none, none], s, ?_, rfl, _, _, _, rfl⟩
        have hpf : prodF textsF (ds ++ [z]) = stepP textsF (prodF textsF ds) z := by unfold prodF; rw [List.foldl_append]; rfl
        rw [List.map_append, triOf_map, List.map_cons, List.map_nil, triOf_t, hpf]
        have hst := stepP_T textsF (prodF textsF ds) z
        have hlen2 : ((stepP textsF (prodF textsF ds) z).map rowT).length ≤ 262144 := by rw [← hpf]; simpa using mid.1
        rw [← hst] at hlen2 ⊢
        have hrow : ∀ t ∈ (prodF textsF ds).map rowT, ∃ r : List Cs, t = rowT r ∧ r.length ≤ 2 := by
          intro t ht
          obtain ⟨r, hr, rfl⟩ := List.mem_map.1 ht
          exact ⟨r, rfl, mid.2.2 r hr⟩
        generalize (prodF textsF ds).map rowT = rows at *
        simp [↓mb, ↓pu, ↓gd, ↓opt_some, ↓bad_app, ↓rv_val, ↓nox_app, ↓ite_a, ↓z_evE_1, ↓z_evE_2, ↓z_evE_3, ↓z_evE_4, ↓z_evE_5, ↓z_evE_6, ↓z_evE_7, ↓z_evE_8, ↓z_evE_9, ↓z_evE_10, ↓z_evE_11, ↓z_evE_12, ↓z_evE_13, ↓z_evE_14, ↓z_evE_15, ↓z_evE_16, ↓z_evE_17, ↓z_evE_18, ↓z_evE_19, ↓z_evE_20, ↓z_evE_21, ↓z_evE_22, ↓z_evE_23, ↓z_evE_24, ↓z_evRs_1, ↓z_evRs_2, ↓z_evO_1, ↓z_evO_2, ↓z_evT_1, ↓z_evT_2, ↓z_evT_3, ↓z_evT_4, ↓z_evC_1, ↓z_evC_2, ↓z_evIt_1, ↓z_evIt_3, ↓z_evIt_4, ↓z_evIt_5, ↓z_evIt_6, ↓z_evS_1, ↓z_evS_2, ↓z_evS_3, ↓z_evS_4, ↓z_evS_5, ↓z_evS_6, ↓z_evS_7, ↓z_evS_8, ↓z_evS_9, ↓z_evS_10, ↓z_evS_11, ↓z_evS_12, ↓z_evS_13, ↓z_evSs_1, ↓z_evSs_2, ↓evIt_rng, leave, start, slotRv, Rv.tree, Rv.isI, Rv.isB, Rv.isS, T.isI, T.isB, T.isS, Rv.w, Rv.lst, Rv.seq, lstAt, seqAt, Rv.data, binop, cmpop, eqRv, inRv, ltRv, isRv, truth, isTy, isiRv, lenRv, LL.bi, biLen, biAll, biAny, biInt, biStr, biTuple, biList, biSorted, meFind, meCount, meJoin, meS, meL, meAppend, meInsert, mePop0, putL, getL, meRv, meTy, ixRv, slRv, revRv, src1, src2, src3, src4, src5, bindTg, bindTs, wipe, treesOf, tupOf, lstOf, app, Sto.trunc, glo0, glo1, glo2, SZ, -List.map_map, ixOf, T.eqOk, T.data, T.datas, T.calm, T.calms, T.depth, T.depths, T.beq, T.beqs, Tri.t]
        rw [lc_flat (fun t => (textsF z.1 z.2.1 z.2.2).map fun w => appT t w) s rfl _ _ (by rw [List.length_nil, Nat.zero_add]; omega)]
        · simp [↓mb, ↓pu, ↓gd, ↓opt_some, ↓bad_app, ↓rv_val, ↓nox_app, ↓ite_a, ↓z_evE_1, ↓z_evE_2, ↓z_evE_3, ↓z_evE_4, ↓z_evE_5, ↓z_evE_6, ↓z_evE_7, ↓z_evE_8, ↓z_evE_9, ↓z_evE_10, ↓z_evE_11, ↓z_evE_12, ↓z_evE_13, ↓z_evE_14, ↓z_evE_15, ↓z_evE_16, ↓z_evE_17, ↓z_evE_18, ↓z_evE_19, ↓z_evE_20, ↓z_evE_21, ↓z_evE_22, ↓z_evE_23, ↓z_evE_24, ↓z_evRs_1, ↓z_evRs_2, ↓z_evO_1, ↓z_evO_2, ↓z_evT_1, ↓z_evT_2, ↓z_evT_3, ↓z_evT_4, ↓z_evC_1, ↓z_evC_2, ↓z_evIt_1, ↓z_evIt_3, ↓z_evIt_4, ↓z_evIt_5, ↓z_evIt_6, ↓z_evS_1, ↓z_evS_2, ↓z_evS_3, ↓z_evS_4, ↓z_evS_5, ↓z_evS_6, ↓z_evS_7, ↓z_evS_8, ↓z_evS_9, ↓z_evS_10, ↓z_evS_11, ↓z_evS_12, ↓z_evS_13, ↓z_evSs_1, ↓z_evSs_2, ↓evIt_rng, leave, start, slotRv, Rv.tree, Rv.isI, Rv.isB, Rv.isS, T.isI, T.isB, T.isS, Rv.w, Rv.lst, Rv.seq, lstAt, seqAt, Rv.data, binop, cmpop, eqRv, inRv, ltRv, isRv, truth, isTy, isiRv, lenRv, LL.bi, biLen, biAll, biAny, biInt, biStr, biTuple, biList, biSorted, meFind, meCount, meJoin, meS, meL, meAppend, meInsert, mePop0, putL, getL, meRv, meTy, ixRv, slRv, revRv, src1, src2, src3, src4, src5, bindTg, bindTs, wipe, treesOf, tupOf, lstOf, app, Sto.trunc, glo0, glo1, glo2, SZ, -List.map_map, ixOf, T.eqOk, T.data, T.datas, T.calm, T.calms, T.depth, T.depths, T.beq, T.beqs]
        · intro t htm acc hacc
          obtain ⟨r, rfl, hr⟩ := hrow t htm
          have hr2 : r.length + 1 ≤ 16777216 := by omega
          simp [↓mb, ↓pu, ↓gd, ↓opt_some, ↓bad_app, ↓rv_val, ↓nox_app, ↓ite_a, ↓z_evE_1, ↓z_evE_2, ↓z_evE_3, ↓z_evE_4, ↓z_evE_5, ↓z_evE_6, ↓z_evE_7, ↓z_evE_8, ↓z_evE_9, ↓z_evE_10, ↓z_evE_11, ↓z_evE_12, ↓z_evE_13, ↓z_evE_14, ↓z_evE_15, ↓z_evE_16, ↓z_evE_17, ↓z_evE_18, ↓z_evE_19, ↓z_evE_20, ↓z_evE_21, ↓z_evE_22, ↓z_evE_23, ↓z_evE_24, ↓z_evRs_1, ↓z_evRs_2, ↓z_evO_1, ↓z_evO_2, ↓z_evT_1, ↓z_evT_2, ↓z_evT_3, ↓z_evT_4, ↓z_evC_1, ↓z_evC_2, ↓z_evIt_1, ↓z_evIt_3, ↓z_evIt_4, ↓z_evIt_5, ↓z_evIt_6, ↓z_evS_1, ↓z_evS_2, ↓z_evS_3, ↓z_evS_4, ↓z_evS_5, ↓z_evS_6, ↓z_evS_7, ↓z_evS_8, ↓z_evS_9, ↓z_evS_10, ↓z_evS_11, ↓z_evS_12, ↓z_evS_13, ↓z_evSs_1, ↓z_evSs_2, ↓evIt_rng, leave, start, slotRv, Rv.tree, Rv.isI, Rv.isB, Rv.isS, T.isI, T.isB, T.isS, Rv.w, Rv.lst, Rv.seq, lstAt, seqAt, Rv.data, binop, cmpop, eqRv, inRv, ltRv, isRv, truth, isTy, isiRv, lenRv, LL.bi, biLen, biAll, biAny, biInt, biStr, biTuple, biList, biSorted, meFind, meCount, meJoin, meS, meL, meAppend, meInsert, mePop0, putL, getL, meRv, meTy, ixRv, slRv, revRv, src1, src2, src3, src4, src5, bindTg, bindTs, wipe, treesOf, tupOf, lstOf, app, Sto.trunc, glo0, glo1, glo2, SZ, -List.map_map, ixOf, T.eqOk, T.data, T.datas, T.calm, T.calms, T.depth, T.depths, T.beq, T.beqs, ht]
          rw [lc_mapA (fun w => appT (rowT r) (strOf w)) s rfl _ _ (by simpa using hacc)]
          · simp [strOf, Function.comp_def]
          · intro u hu acc hacc
            obtain ⟨w, hw, rfl⟩ := List.mem_map.1 hu
            simp [↓mb, ↓pu, ↓gd, ↓opt_some, ↓bad_app, ↓rv_val, ↓nox_app, ↓ite_a, ↓z_evE_1, ↓z_evE_2, ↓z_evE_3, ↓z_evE_4, ↓z_evE_5, ↓z_evE_6, ↓z_evE_7, ↓z_evE_8, ↓z_evE_9, ↓z_evE_10, ↓z_evE_11, ↓z_evE_12, ↓z_evE_13, ↓z_evE_14, ↓z_evE_15, ↓z_evE_16, ↓z_evE_17, ↓z_evE_18, ↓z_evE_19, ↓z_evE_20, ↓z_evE_21, ↓z_evE_22, ↓z_evE_23, ↓z_evE_24, ↓z_evRs_1, ↓z_evRs_2, ↓z_evO_1, ↓z_evO_2, ↓z_evT_1, ↓z_evT_2, ↓z_evT_3, ↓z_evT_4, ↓z_evC_1, ↓z_evC_2, ↓z_evIt_1, ↓z_evIt_3, ↓z_evIt_4, ↓z_evIt_5, ↓z_evIt_6, ↓z_evS_1, ↓z_evS_2, ↓z_evS_3, ↓z_evS_4, ↓z_evS_5, ↓z_evS_6, ↓z_evS_7, ↓z_evS_8, ↓z_evS_9, ↓z_evS_10, ↓z_evS_11, ↓z_evS_12, ↓z_evS_13, ↓z_evSs_1, ↓z_evSs_2, ↓evIt_rng, leave, start, slotRv, Rv.tree, Rv.isI, Rv.isB, Rv.isS, T.isI, T.isB, T.isS, Rv.w, Rv.lst, Rv.seq, lstAt, seqAt, Rv.data, binop, cmpop, eqRv, inRv, ltRv, isRv, truth, isTy, isiRv, lenRv, LL.bi, biLen, biAll, biAny, biInt, biStr, biTuple, biList, biSorted, meFind, meCount, meJoin, meS, meL, meAppend, meInsert, mePop0, putL, getL, meRv, meTy, ixRv, slRv, revRv, src1, src2, src3, src4, src5, bindTg, bindTs, wipe, treesOf, tupOf, lstOf, app, Sto.trunc, glo0, glo1, glo2, SZ, -List.map_map, ixOf, T.eqOk, T.data, T.datas, T.calm, T.calms, T.depth, T.depths, T.beq, T.beqs, rowT, appT, strOf, hr2, hacc])
      [some (.t a.t), some (.t x.t), some (.t y.t), some (.t (.lst [.tup []])), none, none, none, none, none] S ⟨rfl, none, none, none, rfl⟩
    subst hs hσ
    have hb := prod_bound textsF_len (zipT a.ms x.ts y.ts) zl2
    have hpl := prod_pl (g := textsF) hx hy (fun z hz w hw => by
      obtain ⟨m1, m2, m3, m4, m5⟩ := zipT_mem _ _ _ z hz
      exact textsF_ok (ha.ms.2 _ m1) (zip_TxOk hx h4 m4) (zip_TxOk hy h4' m5) w hw)
    have hl := least_of_x (k := k + 8) (S := s') (a := a) (rows := (prodF textsF (zipT a.ms x.ts y.ts)).map (rowOf x.i x.j)) (src2 _) ha (by
      intro t ht
      obtain ⟨r, hr, rfl⟩ := List.mem_map.1 ht
      exact hpl r hr) (by simp; omega)
    rw [← zipT_items] at e1
    rw [List.nil_append, zipT_items, triOf_map] at e1
    rw [← zipT_items] at e1
    generalize prodF textsF (zipT a.ms x.ts y.ts) = rows at *
    simp [F_common_of, Pl.t, Tk.t, ↓mb, ↓pu, ↓gd, ↓opt_some, ↓bad_app, ↓rv_val, ↓nox_app, ↓ite_a, ↓z_evE_1, ↓z_evE_2, ↓z_evE_3, ↓z_evE_4, ↓z_evE_5, ↓z_evE_6, ↓z_evE_7, ↓z_evE_8, ↓z_evE_9, ↓z_evE_10, ↓z_evE_11, ↓z_evE_12, ↓z_evE_13, ↓z_evE_14, ↓z_evE_15, ↓z_evE_16, ↓z_evE_17, ↓z_evE_18, ↓z_evE_19, ↓z_evE_20, ↓z_evE_21, ↓z_evE_22, ↓z_evE_23, ↓z_evE_24, ↓z_evRs_1, ↓z_evRs_2, ↓z_evO_1, ↓z_evO_2, ↓z_evT_1, ↓z_evT_2, ↓z_evT_3, ↓z_evT_4, ↓z_evC_1, ↓z_evC_2, ↓z_evIt_1, ↓z_evIt_3, ↓z_evIt_4, ↓z_evIt_5, ↓z_evIt_6, ↓z_evS_1, ↓z_evS_2, ↓z_evS_3, ↓z_evS_4, ↓z_evS_5, ↓z_evS_6, ↓z_evS_7, ↓z_evS_8, ↓z_evS_9, ↓z_evS_10, ↓z_evS_11, ↓z_evS_12, ↓z_evS_13, ↓z_evSs_1, ↓z_evSs_2, ↓evIt_rng, leave, start, slotRv, Rv.tree, Rv.isI, Rv.isB, Rv.isS, T.isI, T.isB, T.isS, Rv.w, Rv.lst, Rv.seq, lstAt, seqAt, Rv.data, binop, cmpop, eqRv, inRv, ltRv, isRv, truth, isTy, isiRv, lenRv, LL.bi, biLen, biAll, biAny, biInt, biStr, biTuple, biList, biSorted, meFind, meCount, meJoin, meS, meL, meAppend, meInsert, mePop0, putL, getL, meRv, meTy, ixRv, slRv, revRv, src1, src2, src3, src4, src5, bindTg, bindTs, wipe, treesOf, tupOf, lstOf, app, Sto.trunc, glo0, glo1, glo2, SZ, -List.map_map, ixOf, T.eqOk, T.data, T.datas, T.calm, T.calms, T.depth, T.depths, T.beq, T.beqs, e.1, e.2]
    simp [↓mb, ↓pu, ↓gd, ↓opt_some, ↓bad_app, ↓rv_val, ↓nox_app, ↓ite_a, ↓z_evE_1, ↓z_evE_2, ↓z_evE_3, ↓z_evE_4, ↓z_evE_5, ↓z_evE_6, ↓z_evE_7, ↓z_evE_8, ↓z_evE_9, ↓z_evE_10, ↓z_evE_11, ↓z_evE_12, ↓z_evE_13, ↓z_evE_14, ↓z_evE_15, ↓z_evE_16, ↓z_evE_17, ↓z_evE_18, ↓z_evE_19, ↓z_evE_20, ↓z_evE_21, ↓z_evE_22, ↓z_evE_23, ↓z_evE_24, ↓z_evRs_1, ↓z_evRs_2, ↓z_evO_1, ↓z_evO_2, ↓z_evT_1, ↓z_evT_2, ↓z_evT_3, ↓z_evT_4, ↓z_evC_1, ↓z_evC_2, ↓z_evIt_1, ↓z_evIt_3, ↓z_evIt_4, ↓z_evIt_5, ↓z_evIt_6, ↓z_evS_1, ↓z_evS_2, ↓z_evS_3, ↓z_evS_4, ↓z_evS_5, ↓z_evS_6, ↓z_evS_7, ↓z_evS_8, ↓z_evS_9, ↓z_evS_10, ↓z_evS_11, ↓z_evS_12, ↓z_evS_13, ↓z_evSs_1, ↓z_evSs_2, ↓evIt_rng, leave, start, slotRv, Rv.tree, Rv.isI, Rv.isB, Rv.isS, T.isI, T.isB, T.isS, Rv.w, Rv.lst, Rv.seq, lstAt, seqAt, Rv.data, binop, cmpop, eqRv, inRv, ltRv, isRv, truth, isTy, isiRv, lenRv, LL.bi, biLen, biAll, biAny, biInt, biStr, biTuple, biList, biSorted, meFind, meCount, meJoin, meS, meL, meAppend, meInsert, mePop0, putL, getL, meRv, meTy, ixRv, slRv, revRv, src1, src2, src3, src4, src5, bindTg, bindTs, wipe, treesOf, tupOf, lstOf, app, Sto.trunc, glo0, glo1, glo2, SZ, -List.map_map, ixOf, T.eqOk, T.data, T.datas, T.calm, T.calms, T.depth, T.depths, T.beq, T.beqs, Pl.t, Tk.t, e.1, e.2] at e1
    rw [e1]
    simp [↓mb, ↓pu, ↓gd, ↓opt_some, ↓bad_app, ↓rv_val, ↓nox_app, ↓ite_a, ↓z_evE_1, ↓z_evE_2, ↓z_evE_3, ↓z_evE_4, ↓z_evE_5, ↓z_evE_6, ↓z_evE_7, ↓z_evE_8, ↓z_evE_9, ↓z_evE_10, ↓z_evE_11, ↓z_evE_12, ↓z_evE_13, ↓z_evE_14, ↓z_evE_15, ↓z_evE_16, ↓z_evE_17, ↓z_evE_18, ↓z_evE_19, ↓z_evE_20, ↓z_evE_21, ↓z_evE_22, ↓z_evE_23, ↓z_evE_24, ↓z_evRs_1, ↓z_evRs_2, ↓z_evO_1, ↓z_evO_2, ↓z_evT_1, ↓z_evT_2, ↓z_evT_3, ↓z_evT_4, ↓z_evC_1, ↓z_evC_2, ↓z_evIt_1, ↓z_evIt_3, ↓z_evIt_4, ↓z_evIt_5, ↓z_evIt_6, ↓z_evS_1, ↓z_evS_2, ↓z_evS_3, ↓z_evS_4, ↓z_evS_5, ↓z_evS_6, ↓z_evS_7, ↓z_evS_8, ↓z_evS_9, ↓z_evS_10, ↓z_evS_11, ↓z_evS_12, ↓z_evS_13, ↓z_evSs_1, ↓z_evSs_2, ↓evIt_rng, leave, start, slotRv, Rv.tree, Rv.isI, Rv.isB, Rv.isS, T.isI, T.isB, T.isS, Rv.w, Rv.lst, Rv.seq, lstAt, seqAt, Rv.data, binop, cmpop, eqRv, inRv, ltRv, isRv, truth, isTy, isiRv, lenRv, LL.bi, biLen, biAll, biAny, biInt, biStr, biTuple, biList, biSorted, meFind, meCount, meJoin, meS, meL, meAppend, meInsert, mePop0, putL, getL, meRv, meTy, ixRv, slRv, revRv, src1, src2, src3, src4, src5, bindTg, bindTs, wipe, treesOf, tupOf, lstOf, app, Sto.trunc, glo0, glo1, glo2, SZ, -List.map_map, ixOf, T.eqOk, T.data, T.datas, T.calm, T.calms, T.depth, T.depths, T.beq, T.beqs]
    rw [lc_map (fun t => .tup [.tup [.int y.i, .int y.j], t]) s' rfl _ (by simp; omega)]
    · have : (rows.map rowT).map (fun t => T.tup [.tup [.int y.i, .int y.j], t]) = rows.map (rowOf y.i y.j) := by
        rw [List.map_map]; rfl
      rw [this]
      rw [e.1, e.2] at hl
      simp [↓mb, ↓pu, ↓gd, ↓opt_some, ↓bad_app, ↓rv_val, ↓nox_app, ↓ite_a, ↓z_evE_1, ↓z_evE_2, ↓z_evE_3, ↓z_evE_4, ↓z_evE_5, ↓z_evE_6, ↓z_evE_7, ↓z_evE_8, ↓z_evE_9, ↓z_evE_10, ↓z_evE_11, ↓z_evE_12, ↓z_evE_13, ↓z_evE_14, ↓z_evE_15, ↓z_evE_16, ↓z_evE_17, ↓z_evE_18, ↓z_evE_19, ↓z_evE_20, ↓z_evE_21, ↓z_evE_22, ↓z_evE_23, ↓z_evE_24, ↓z_evRs_1, ↓z_evRs_2, ↓z_evO_1, ↓z_evO_2, ↓z_evT_1, ↓z_evT_2, ↓z_evT_3, ↓z_evT_4, ↓z_evC_1, ↓z_evC_2, ↓z_evIt_1, ↓z_evIt_3, ↓z_evIt_4, ↓z_evIt_5, ↓z_evIt_6, ↓z_evS_1, ↓z_evS_2, ↓z_evS_3, ↓z_evS_4, ↓z_evS_5, ↓z_evS_6, ↓z_evS_7, ↓z_evS_8, ↓z_evS_9, ↓z_evS_10, ↓z_evS_11, ↓z_evS_12, ↓z_evS_13, ↓z_evSs_1, ↓z_evSs_2, ↓evIt_rng, leave, start, slotRv, Rv.tree, Rv.isI, Rv.isB, Rv.isS, T.isI, T.isB, T.isS, Rv.w, Rv.lst, Rv.seq, lstAt, seqAt, Rv.data, binop, cmpop, eqRv, inRv, ltRv, isRv, truth, isTy, isiRv, lenRv, LL.bi, biLen, biAll, biAny, biInt, biStr, biTuple, biList, biSorted, meFind, meCount, meJoin, meS, meL, meAppend, meInsert, mePop0, putL, getL, meRv, meTy, ixRv, slRv, revRv, src1, src2, src3, src4, src5, bindTg, bindTs, wipe, treesOf, tupOf, lstOf, app, Sto.trunc, glo0, glo1, glo2, SZ, -List.map_map, ixOf, T.eqOk, T.data, T.datas, T.calm, T.calms, T.depth, T.depths, T.beq, T.beqs, hl]
    · intro t ht acc hacc
      simp [↓mb, ↓pu, ↓gd, ↓opt_some, ↓bad_app, ↓rv_val, ↓nox_app, ↓ite_a, ↓z_evE_1, ↓z_evE_2, ↓z_evE_3, ↓z_evE_4, ↓z_evE_5, ↓z_evE_6, ↓z_evE_7, ↓z_evE_8, ↓z_evE_9, ↓z_evE_10, ↓z_evE_11, ↓z_evE_12, ↓z_evE_13, ↓z_evE_14, ↓z_evE_15, ↓z_evE_16, ↓z_evE_17, ↓z_evE_18, ↓z_evE_19, ↓z_evE_20, ↓z_evE_21, ↓z_evE_22, ↓z_evE_23, ↓z_evE_24, ↓z_evRs_1, ↓z_evRs_2, ↓z_evO_1, ↓z_evO_2, ↓z_evT_1, ↓z_evT_2, ↓z_evT_3, ↓z_evT_4, ↓z_evC_1, ↓z_evC_2, ↓z_evIt_1, ↓z_evIt_3, ↓z_evIt_4, ↓z_evIt_5, ↓z_evIt_6, ↓z_evS_1, ↓z_evS_2, ↓z_evS_3, ↓z_evS_4, ↓z_evS_5, ↓z_evS_6, ↓z_evS_7, ↓z_evS_8, ↓z_evS_9, ↓z_evS_10, ↓z_evS_11, ↓z_evS_12, ↓z_evS_13, ↓z_evSs_1, ↓z_evSs_2, ↓evIt_rng, leave, start, slotRv, Rv.tree, Rv.isI, Rv.isB, Rv.isS, T.isI, T.isB, T.isS, Rv.w, Rv.lst, Rv.seq, lstAt, seqAt, Rv.data, binop, cmpop, eqRv, inRv, ltRv, isRv, truth, isTy, isiRv, lenRv, LL.bi, biLen, biAll, biAny, biInt, biStr, biTuple, biList, biSorted, meFind, meCount, meJoin, meS, meL, meAppend, meInsert, mePop0, putL, getL, meRv, meTy, ixRv, slRv, revRv, src1, src2, src3, src4, src5, bindTg, bindTs, wipe, treesOf, tupOf, lstOf, app, Sto.trunc, glo0, glo1, glo2, SZ, -List.map_map, ixOf, T.eqOk, T.data, T.datas, T.calm, T.calms, T.depth, T.depths, T.beq, T.beqs, hacc]
  · rw [if_neg e]
    by_cases e1 : x.i = y.i
    · have e2 : ¬ x.j = y.j := fun h => e ⟨e1, h⟩
      simp [F_common_of, Pl.t, ↓mb, ↓pu, ↓gd, ↓opt_some, ↓bad_app, ↓rv_val, ↓nox_app, ↓ite_a, ↓z_evE_1, ↓z_evE_2, ↓z_evE_3, ↓z_evE_4, ↓z_evE_5, ↓z_evE_6, ↓z_evE_7, ↓z_evE_8, ↓z_evE_9, ↓z_evE_10, ↓z_evE_11, ↓z_evE_12, ↓z_evE_13, ↓z_evE_14, ↓z_evE_15, ↓z_evE_16, ↓z_evE_17, ↓z_evE_18, ↓z_evE_19, ↓z_evE_20, ↓z_evE_21, ↓z_evE_22, ↓z_evE_23, ↓z_evE_24, ↓z_evRs_1, ↓z_evRs_2, ↓z_evO_1, ↓z_evO_2, ↓z_evT_1, ↓z_evT_2, ↓z_evT_3, ↓z_evT_4, ↓z_evC_1, ↓z_evC_2, ↓z_evIt_1, ↓z_evIt_3, ↓z_evIt_4, ↓z_evIt_5, ↓z_evIt_6, ↓z_evS_1, ↓z_evS_2, ↓z_evS_3, ↓z_evS_4, ↓z_evS_5, ↓z_evS_6, ↓z_evS_7, ↓z_evS_8, ↓z_evS_9, ↓z_evS_10, ↓z_evS_11, ↓z_evS_12, ↓z_evS_13, ↓z_evSs_1, ↓z_evSs_2, ↓evIt_rng, leave, start, slotRv, Rv.tree, Rv.isI, Rv.isB, Rv.isS, T.isI, T.isB, T.isS, Rv.w, Rv.lst, Rv.seq, lstAt, seqAt, Rv.data, binop, cmpop, eqRv, inRv, ltRv, isRv, truth, isTy, isiRv, lenRv, LL.bi, biLen, biAll, biAny, biInt, biStr, biTuple, biList, biSorted, meFind, meCount, meJoin, meS, meL, meAppend, meInsert, mePop0, putL, getL, meRv, meTy, ixRv, slRv, revRv, src1, src2, src3, src4, src5, bindTg, bindTs, wipe, treesOf, tupOf, lstOf, app, Sto.trunc, glo0, glo1, glo2, SZ, -List.map_map, ixOf, T.eqOk, T.data, T.datas, T.calm, T.calms, T.depth, T.depths, T.beq, T.beqs, e1, e2]
    · simp [F_common_of, Pl.t, ↓mb, ↓pu, ↓gd, ↓opt_some, ↓bad_app, ↓rv_val, ↓nox_app, ↓ite_a, ↓z_evE_1, ↓z_evE_2, ↓z_evE_3, ↓z_evE_4, ↓z_evE_5, ↓z_evE_6, ↓z_evE_7, ↓z_evE_8, ↓z_evE_9, ↓z_evE_10, ↓z_evE_11, ↓z_evE_12, ↓z_evE_13, ↓z_evE_14, ↓z_evE_15, ↓z_evE_16, ↓z_evE_17, ↓z_evE_18, ↓z_evE_19, ↓z_evE_20, ↓z_evE_21, ↓z_evE_22, ↓z_evE_23, ↓z_evE_24, ↓z_evRs_1, ↓z_evRs_2, ↓z_evO_1, ↓z_evO_2, ↓z_evT_1, ↓z_evT_2, ↓z_evT_3, ↓z_evT_4, ↓z_evC_1, ↓z_evC_2, ↓z_evIt_1, ↓z_evIt_3, ↓z_evIt_4, ↓z_evIt_5, ↓z_evIt_6, ↓z_evS_1, ↓z_evS_2, ↓z_evS_3, ↓z_evS_4, ↓z_evS_5, ↓z_evS_6, ↓z_evS_7, ↓z_evS_8, ↓z_evS_9, ↓z_evS_10, ↓z_evS_11, ↓z_evS_12, ↓z_evS_13, ↓z_evSs_1, ↓z_evSs_2, ↓evIt_rng, leave, start, slotRv, Rv.tree, Rv.isI, Rv.isB, Rv.isS, T.isI, T.isB, T.isS, Rv.w, Rv.lst, Rv.seq, lstAt, seqAt, Rv.data, binop, cmpop, eqRv, inRv, ltRv, isRv, truth, isTy, isiRv, lenRv, LL.bi, biLen, biAll, biAny, biInt, biStr, biTuple, biList, biSorted, meFind, meCount, meJoin, meS, meL, meAppend, meInsert, mePop0, putL, getL, meRv, meTy, ixRv, slRv, revRv, src1, src2, src3, src4, src5, bindTg, bindTs, wipe, treesOf, tupOf, lstOf, app, Sto.trunc, glo0, glo1, glo2, SZ, -List.map_map, ixOf, T.eqOk, T.data, T.datas, T.calm, T.calms, T.depth, T.depths, T.beq, T.beqs, e1]
theorem common_t {k : Nat} {S : Sto} {a : Tk} {x y : Pl} (ha : TkOk a) (hx : PlOk a x) (hy : PlOk a y) (h4 : Sh4 x) (h4' : Sh4 y) : run prog (k + 13) 68 [.t a.t, .t x.t, .t y.t] S =
    .ok (.v (.tup (if x.i = y.i ∧ x.j = y.j then leastF belT ((prodF textsF (zipT a.ms x.ts y.ts)).map (rowOf x.i x.j)) else []))) S := by
  have h1 := need_talk_t (k := k + 8) (S := S) ha
  have h2 := need_situation_t (k := k + 8) (S := S) ha hx
  have h3 := need_situation_t (k := k + 8) (S := S) ha hy
  have h4 := common_of_t (k := k) (S := S) ha hx hy h4 h4'
  rw [run_fn (rfl : prog.fn 68 = some F_common)]
  simp [F_common, ↓mb, ↓pu, ↓gd, ↓opt_some, ↓bad_app, ↓rv_val, ↓nox_app, ↓ite_a, ↓z_evE_1, ↓z_evE_2, ↓z_evE_3, ↓z_evE_4, ↓z_evE_5, ↓z_evE_6, ↓z_evE_7, ↓z_evE_8, ↓z_evE_9, ↓z_evE_10, ↓z_evE_11, ↓z_evE_12, ↓z_evE_13, ↓z_evE_14, ↓z_evE_15, ↓z_evE_16, ↓z_evE_17, ↓z_evE_18, ↓z_evE_19, ↓z_evE_20, ↓z_evE_21, ↓z_evE_22, ↓z_evE_23, ↓z_evE_24, ↓z_evRs_1, ↓z_evRs_2, ↓z_evO_1, ↓z_evO_2, ↓z_evT_1, ↓z_evT_2, ↓z_evT_3, ↓z_evT_4, ↓z_evC_1, ↓z_evC_2, ↓z_evIt_1, ↓z_evIt_3, ↓z_evIt_4, ↓z_evIt_5, ↓z_evIt_6, ↓z_evS_1, ↓z_evS_2, ↓z_evS_3, ↓z_evS_4, ↓z_evS_5, ↓z_evS_6, ↓z_evS_7, ↓z_evS_8, ↓z_evS_9, ↓z_evS_10, ↓z_evS_11, ↓z_evS_12, ↓z_evS_13, ↓z_evSs_1, ↓z_evSs_2, ↓evIt_rng, leave, start, slotRv, Rv.tree, Rv.isI, Rv.isB, Rv.isS, T.isI, T.isB, T.isS, Rv.w, Rv.lst, Rv.seq, lstAt, seqAt, Rv.data, binop, cmpop, eqRv, inRv, ltRv, isRv, truth, isTy, isiRv, lenRv, LL.bi, biLen, biAll, biAny, biInt, biStr, biTuple, biList, biSorted, meFind, meCount, meJoin, meS, meL, meAppend, meInsert, mePop0, putL, getL, meRv, meTy, ixRv, slRv, revRv, src1, src2, src3, src4, src5, bindTg, bindTs, wipe, treesOf, tupOf, lstOf, app, Sto.trunc, glo0, glo1, glo2, SZ, -List.map_map, ixOf, T.eqOk, T.data, T.datas, T.calm, T.calms, T.depth, T.depths, T.beq, T.beqs, h1, h2, h3, h4]
end LLQ

set_option Elab.async false
set_option linter.all false
set_option autoImplicit false
set_option maxRecDepth 100000
set_option maxHeartbeats 1000000
namespace LLQ
open LL LLS LLP
def smallR : Nat → List Cs
  | 0 => [[]]
  | n + 1 => (smallR n).map (· ++ [97]) ++ (smallR n).map (· ++ [98])
def smallF (m : Cs) : Nat → List Cs
  | 0 => [[]]
  | n + 1 => smallF m n ++ (smallR (n + 1)).filter fun r => fitF m r == r
theorem smallR_ok : ∀ n, (smallR n).length = 2 ^ n ∧ ∀ r ∈ smallR n, r.length = n ∧ ∀ c ∈ r, c = 97 ∨ c = 98
  | 0 => by simp [smallR]
  | n + 1 => by
    have ih := smallR_ok n
    refine ⟨by simp [smallR, ih.1, Nat.pow_succ]; omega, fun r hr => ?_⟩
    simp only [smallR] at hr
    rcases List.mem_append.1 hr with hr | hr
    · obtain ⟨t, ht, rfl⟩ := List.mem_map.1 hr
      refine ⟨by simp [(ih.2 t ht).1], fun c hc => ?_⟩
      rcases List.mem_append.1 hc with hc | hc
      · exact (ih.2 t ht).2 c hc
      · simp at hc; exact .inl hc
    · obtain ⟨t, ht, rfl⟩ := List.mem_map.1 hr
      refine ⟨by simp [(ih.2 t ht).1], fun c hc => ?_⟩
      rcases List.mem_append.1 hc with hc | hc
      · exact (ih.2 t ht).2 c hc
      · simp at hc; exact .inr hc
theorem smallF_ok (m : Cs) : ∀ n, (smallF m n).length ≤ 2 ^ (n + 1) ∧ ∀ r ∈ smallF m n, r.length ≤ n ∧ ∀ c ∈ r, c = 97 ∨ c = 98
  | 0 => by simp [smallF]
  | n + 1 => by
    have ih := smallF_ok m n
    have h2 := smallR_ok (n + 1)
    refine ⟨?_, fun r hr => ?_⟩
    · have := List.length_filter_le (fun r => fitF m r == r) (smallR (n + 1))
      simp only [smallF, List.length_append]
      rw [Nat.pow_succ 2 (n + 1)]
      omega
    · simp only [smallF] at hr
      rcases List.mem_append.1 hr with hr | hr
      · exact ⟨by have := (ih.2 r hr).1; omega, (ih.2 r hr).2⟩
      · have := h2.2 r (List.mem_filter.1 hr).1
        exact ⟨by omega, this.2⟩
theorem rng_mem {x : T} {n : Nat} (h : x ∈ rngItems 0 n) : ∃ j : Nat, j < n ∧ x = .int j := by
  unfold rngItems at h
  obtain ⟨j, hj, rfl⟩ := List.mem_map.1 h
  exact ⟨j, List.mem_range.1 hj, by simp⟩
theorem rng_len (n : Nat) : (rngItems 0 n).length = n := by simp [rngItems]
theorem small_texts_t {k : Nat} {S : Sto} {m : Cs} {n : Nat} (hm : Man m) (hn : n ≤ 8) : run prog (k + 2) 69 [.t (.str m), .t (.int n)] S = .ok (.v (.lst ((smallF m n).map T.str))) S := by
  have hg := rngG_nat (S := S) (show n ≤ 1000 by omega)
  obtain ⟨σ', s', e1, hs, v2, hσ⟩ := for_inv (ws := []) (step := fun z σ => (do
        let σ' ← bindTg (.n 2) z σ
        evSs ⟨run prog (k + 1), prog.glo⟩ (.cons (.asg (.n 3) (.bin .add (.lc [5] (.bin .add (.var 5) (.c (.str [97]))) (.n 5) (.e (.var 3)) .no) (.lc [5] (.bin .add (.var 5) (.c (.str [98]))) (.n 5) (.e (.var 3)) .no))) (.cons (.asg (.n 4) (.bin .add (.var 4) (.lc [5] (.var 5) (.n 5) (.e (.var 3)) (.yes (.val (.cmp .eq (.call 26 (.cons (.var 0) (.cons (.var 5) .nil))) (.var 5))))))) .nil)) σ' : M (Fl × Env)))
      (fun d σ s => s = S ∧ ∃ v2, σ = [some (.t (.str m)), some (.t (.int n)), v2, some (.t (.lst ((smallR d.length).map T.str))), some (.t (.lst ((smallF m d.length).map T.str))), none]) (rngItems 0 n) []
      (fun d σ s h => by simp [watchOk])
      (by
        intro d z r σ s he ⟨hs, v2, hσ⟩
        subst hs hσ
        have hd : d.length < 8 := by
          have := congrArg List.length he
          simp [rng_len] at this
          omega
        refine ⟨[some (.t (.str m)), some (.t (.int n)), some (.t z), some (.t (.lst ((smallR (d.length + 1)).map T.str))), some (.t (.lst ((smallF m (d.length + 1)).map T.str))), none], s, ?_, rfl, some (.t z), by simp⟩
        have h1 := smallR_ok d.length
        have h2 := smallR_ok (d.length + 1)
        have h3 := smallF_ok m d.length
        have p1 : 2 ^ d.length ≤ 256 := Nat.le_trans (Nat.pow_le_pow_right (by omega) (show d.length ≤ 8 by omega)) (by decide)
        have p2 : 2 ^ (d.length + 1) ≤ 256 := Nat.le_trans (Nat.pow_le_pow_right (by omega) (show d.length + 1 ≤ 8 by omega)) (by decide)
        have l1 : (smallR d.length).length ≤ 256 := by omega
        have l2 : (smallR (d.length + 1)).length ≤ 256 := by omega
        have l3 : (smallF m d.length).length ≤ 256 := by omega
        have h5 : (smallR d.length).length + (smallR d.length).length ≤ 16777216 := by omega
        simp [↓mb, ↓pu, ↓gd, ↓opt_some, ↓bad_app, ↓rv_val, ↓nox_app, ↓ite_a, ↓z_evE_1, ↓z_evE_2, ↓z_evE_3, ↓z_evE_4, ↓z_evE_5, ↓z_evE_6, ↓z_evE_7, ↓z_evE_8, ↓z_evE_9, ↓z_evE_10, ↓z_evE_11, ↓z_evE_12, ↓z_evE_13, ↓z_evE_14, ↓z_evE_15, ↓z_evE_16, ↓z_evE_17, ↓z_evE_18, ↓z_evE_19, ↓z_evE_20, ↓z_evE_21, ↓z_evE_22, ↓z_evE_23, ↓z_evE_24, ↓z_evRs_1, ↓z_evRs_2, ↓z_evO_1, ↓z_evO_2, ↓z_evT_1, ↓z_evT_2, ↓z_evT_3, ↓z_evT_4, ↓z_evC_1, ↓z_evC_2, ↓z_evIt_1, ↓z_evIt_3, ↓z_evIt_4, ↓z_evIt_5, ↓z_evIt_6, ↓z_evS_1, ↓z_evS_2, ↓z_evS_3, ↓z_evS_4, ↓z_evS_5, ↓z_evS_6, ↓z_evS_7, ↓z_evS_8, ↓z_evS_9, ↓z_evS_10, ↓z_evS_11, ↓z_evS_12, ↓z_evS_13, ↓z_evSs_1, ↓z_evSs_2, ↓evIt_rng, leave, start, slotRv, Rv.tree, Rv.isI, Rv.isB, Rv.isS, T.isI, T.isB, T.isS, Rv.w, Rv.lst, Rv.seq, lstAt, seqAt, Rv.data, binop, cmpop, eqRv, inRv, ltRv, isRv, truth, isTy, isiRv, lenRv, LL.bi, biLen, biAll, biAny, biInt, biStr, biTuple, biList, biSorted, meFind, meCount, meJoin, meS, meL, meAppend, meInsert, mePop0, putL, getL, meRv, meTy, ixRv, slRv, revRv, src1, src2, src3, src4, src5, bindTg, bindTs, wipe, treesOf, tupOf, lstOf, app, Sto.trunc, glo0, glo1, glo2, SZ, -List.map_map, ixOf, T.eqOk, T.data, T.datas, T.calm, T.calms, T.depth, T.depths, T.beq, T.beqs]
        rw [lc_map (fun t => .str (strOf t ++ [97])) s rfl _ (by simp; omega)]
        · simp [↓mb, ↓pu, ↓gd, ↓opt_some, ↓bad_app, ↓rv_val, ↓nox_app, ↓ite_a, ↓z_evE_1, ↓z_evE_2, ↓z_evE_3, ↓z_evE_4, ↓z_evE_5, ↓z_evE_6, ↓z_evE_7, ↓z_evE_8, ↓z_evE_9, ↓z_evE_10, ↓z_evE_11, ↓z_evE_12, ↓z_evE_13, ↓z_evE_14, ↓z_evE_15, ↓z_evE_16, ↓z_evE_17, ↓z_evE_18, ↓z_evE_19, ↓z_evE_20, ↓z_evE_21, ↓z_evE_22, ↓z_evE_23, ↓z_evE_24, ↓z_evRs_1, ↓z_evRs_2, ↓z_evO_1, ↓z_evO_2, ↓z_evT_1, ↓z_evT_2, ↓z_evT_3, ↓z_evT_4, ↓z_evC_1, ↓z_evC_2, ↓z_evIt_1, ↓z_evIt_3, ↓z_evIt_4, ↓z_evIt_5, ↓z_evIt_6, ↓z_evS_1, ↓z_evS_2, ↓z_evS_3, ↓z_evS_4, ↓z_evS_5, ↓z_evS_6, ↓z_evS_7, ↓z_evS_8, ↓z_evS_9, ↓z_evS_10, ↓z_evS_11, ↓z_evS_12, ↓z_evS_13, ↓z_evSs_1, ↓z_evSs_2, ↓evIt_rng, leave, start, slotRv, Rv.tree, Rv.isI, Rv.isB, Rv.isS, T.isI, T.isB, T.isS, Rv.w, Rv.lst, Rv.seq, lstAt, seqAt, Rv.data, binop, cmpop, eqRv, inRv, ltRv, isRv, truth, isTy, isiRv, lenRv, LL.bi, biLen, biAll, biAny, biInt, biStr, biTuple, biList, biSorted, meFind, meCount, meJoin, meS, meL, meAppend, meInsert, mePop0, putL, getL, meRv, meTy, ixRv, slRv, revRv, src1, src2, src3, src4, src5, bindTg, bindTs, wipe, treesOf, tupOf, lstOf, app, Sto.trunc, glo0, glo1, glo2, SZ, -List.map_map, ixOf, T.eqOk, T.data, T.datas, T.calm, T.calms, T.depth, T.depths, T.beq, T.beqs]
          rw [lc_map (fun t => .str (strOf t ++ [98])) s rfl _ (by simp; omega)]
          · simp [↓mb, ↓pu, ↓gd, ↓opt_some, ↓bad_app, ↓rv_val, ↓nox_app, ↓ite_a, ↓z_evE_1, ↓z_evE_2, ↓z_evE_3, ↓z_evE_4, ↓z_evE_5, ↓z_evE_6, ↓z_evE_7, ↓z_evE_8, ↓z_evE_9, ↓z_evE_10, ↓z_evE_11, ↓z_evE_12, ↓z_evE_13, ↓z_evE_14, ↓z_evE_15, ↓z_evE_16, ↓z_evE_17, ↓z_evE_18, ↓z_evE_19, ↓z_evE_20, ↓z_evE_21, ↓z_evE_22, ↓z_evE_23, ↓z_evE_24, ↓z_evRs_1, ↓z_evRs_2, ↓z_evO_1, ↓z_evO_2, ↓z_evT_1, ↓z_evT_2, ↓z_evT_3, ↓z_evT_4, ↓z_evC_1, ↓z_evC_2, ↓z_evIt_1, ↓z_evIt_3, ↓z_evIt_4, ↓z_evIt_5, ↓z_evIt_6, ↓z_evS_1, ↓z_evS_2, ↓z_evS_3, ↓z_evS_4, ↓z_evS_5, ↓z_evS_6, ↓z_evS_7, ↓z_evS_8, ↓z_evS_9, ↓z_evS_10, ↓z_evS_11, ↓z_evS_12, ↓z_evS_13, ↓z_evSs_1, ↓z_evSs_2, ↓evIt_rng, leave, start, slotRv, Rv.tree, Rv.isI, Rv.isB, Rv.isS, T.isI, T.isB, T.isS, Rv.w, Rv.lst, Rv.seq, lstAt, seqAt, Rv.data, binop, cmpop, eqRv, inRv, ltRv, isRv, truth, isTy, isiRv, lenRv, LL.bi, biLen, biAll, biAny, biInt, biStr, biTuple, biList, biSorted, meFind, meCount, meJoin, meS, meL, meAppend, meInsert, mePop0, putL, getL, meRv, meTy, ixRv, slRv, revRv, src1, src2, src3, src4, src5, bindTg, bindTs, wipe, treesOf, tupOf, lstOf, app, Sto.trunc, glo0, glo1, glo2, SZ, -List.map_map, ixOf, T.eqOk, T.data, T.datas, T.calm, T.calms, T.depth, T.depths, T.beq, T.beqs, h5]
            have hR : List.map (fun t => T.str (strOf t ++ [97])) (List.map T.str (smallR d.length)) ++ List.map (fun t => T.str (strOf t ++ [98])) (List.map T.str (smallR d.length)) = (smallR (d.length + 1)).map T.str := by
              simp [smallR, strOf, Function.comp_def]
            rw [hR]
            rw [lc_filt (fun t => fitF m (strOf t) == strOf t) (fun t => t) s rfl _ (by simp; omega)]
            · have hlf := List.length_filter_le (fun t => fitF m t == t) (smallR (d.length + 1))
              have h6 : (smallF m d.length).length + ((smallR (d.length + 1)).filter fun t => fitF m t == t).length ≤ 16777216 := by omega
              have hf : (List.filter (fun t => fitF m (strOf t) == strOf t) ((smallR (d.length + 1)).map T.str)).map (fun t => t) = ((smallR (d.length + 1)).filter fun t => fitF m t == t).map T.str := by
                rw [List.map_id', List.filter_map]; simp [Function.comp_def, strOf]
              rw [hf]
              simp [↓mb, ↓pu, ↓gd, ↓opt_some, ↓bad_app, ↓rv_val, ↓nox_app, ↓ite_a, ↓z_evE_1, ↓z_evE_2, ↓z_evE_3, ↓z_evE_4, ↓z_evE_5, ↓z_evE_6, ↓z_evE_7, ↓z_evE_8, ↓z_evE_9, ↓z_evE_10, ↓z_evE_11, ↓z_evE_12, ↓z_evE_13, ↓z_evE_14, ↓z_evE_15, ↓z_evE_16, ↓z_evE_17, ↓z_evE_18, ↓z_evE_19, ↓z_evE_20, ↓z_evE_21, ↓z_evE_22, ↓z_evE_23, ↓z_evE_24, ↓z_evRs_1, ↓z_evRs_2, ↓z_evO_1, ↓z_evO_2, ↓z_evT_1, ↓z_evT_2, ↓z_evT_3, ↓z_evT_4, ↓z_evC_1, ↓z_evC_2, ↓z_evIt_1, ↓z_evIt_3, ↓z_evIt_4, ↓z_evIt_5, ↓z_evIt_6, ↓z_evS_1, ↓z_evS_2, ↓z_evS_3, ↓z_evS_4, ↓z_evS_5, ↓z_evS_6, ↓z_evS_7, ↓z_evS_8, ↓z_evS_9, ↓z_evS_10, ↓z_evS_11, ↓z_evS_12, ↓z_evS_13, ↓z_evSs_1, ↓z_evSs_2, ↓evIt_rng, leave, start, slotRv, Rv.tree, Rv.isI, Rv.isB, Rv.isS, T.isI, T.isB, T.isS, Rv.w, Rv.lst, Rv.seq, lstAt, seqAt, Rv.data, binop, cmpop, eqRv, inRv, ltRv, isRv, truth, isTy, isiRv, lenRv, LL.bi, biLen, biAll, biAny, biInt, biStr, biTuple, biList, biSorted, meFind, meCount, meJoin, meS, meL, meAppend, meInsert, mePop0, putL, getL, meRv, meTy, ixRv, slRv, revRv, src1, src2, src3, src4, src5, bindTg, bindTs, wipe, treesOf, tupOf, lstOf, app, Sto.trunc, glo0, glo1, glo2, SZ, -List.map_map, ixOf, T.eqOk, T.data, T.datas, T.calm, T.calms, T.depth, T.depths, T.beq, T.beqs, h6, smallF]
            · intro t ht acc hacc
              obtain ⟨r, hr, rfl⟩ := List.mem_map.1 ht
              have hr2 := h2.2 r hr
              have hfx := fitted_x (k := k) (S := s) (m := m) (t := r) (wl := .str r) (src1 _) hm (fun c hc => by rcases hr2.2 c hc with h | h <;> simp [h]) (by omega)
              by_cases hq : fitF m r = r
              · simp [↓mb, ↓pu, ↓gd, ↓opt_some, ↓bad_app, ↓rv_val, ↓nox_app, ↓ite_a, ↓z_evE_1, ↓z_evE_2, ↓z_evE_3, ↓z_evE_4, ↓z_evE_5, ↓z_evE_6, ↓z_evE_7, ↓z_evE_8, ↓z_evE_9, ↓z_evE_10, ↓z_evE_11, ↓z_evE_12, ↓z_evE_13, ↓z_evE_14, ↓z_evE_15, ↓z_evE_16, ↓z_evE_17, ↓z_evE_18, ↓z_evE_19, ↓z_evE_20, ↓z_evE_21, ↓z_evE_22, ↓z_evE_23, ↓z_evE_24, ↓z_evRs_1, ↓z_evRs_2, ↓z_evO_1, ↓z_evO_2, ↓z_evT_1, ↓z_evT_2, ↓z_evT_3, ↓z_evT_4, ↓z_evC_1, ↓z_evC_2, ↓z_evIt_1, ↓z_evIt_3, ↓z_evIt_4, ↓z_evIt_5, ↓z_evIt_6, ↓z_evS_1, ↓z_evS_2, ↓z_evS_3, ↓z_evS_4, ↓z_evS_5, ↓z_evS_6, ↓z_evS_7, ↓z_evS_8, ↓z_evS_9, ↓z_evS_10, ↓z_evS_11, ↓z_evS_12, ↓z_evS_13, ↓z_evSs_1, ↓z_evSs_2, ↓evIt_rng, leave, start, slotRv, Rv.tree, Rv.isI, Rv.isB, Rv.isS, T.isI, T.isB, T.isS, Rv.w, Rv.lst, Rv.seq, lstAt, seqAt, Rv.data, binop, cmpop, eqRv, inRv, ltRv, isRv, truth, isTy, isiRv, lenRv, LL.bi, biLen, biAll, biAny, biInt, biStr, biTuple, biList, biSorted, meFind, meCount, meJoin, meS, meL, meAppend, meInsert, mePop0, putL, getL, meRv, meTy, ixRv, slRv, revRv, src1, src2, src3, src4, src5, bindTg, bindTs, wipe, treesOf, tupOf, lstOf, app, Sto.trunc, glo0, glo1, glo2, SZ, -List.map_map, ixOf, T.eqOk, T.data, T.datas, T.calm, T.calms, T.depth, T.depths, T.beq, T.beqs, hfx, hq, strOf, hacc]
              · simp [↓mb, ↓pu, ↓gd, ↓opt_some, ↓bad_app, ↓rv_val, ↓nox_app, ↓ite_a, ↓z_evE_1, ↓z_evE_2, ↓z_evE_3, ↓z_evE_4, ↓z_evE_5, ↓z_evE_6, ↓z_evE_7, ↓z_evE_8, ↓z_evE_9, ↓z_evE_10, ↓z_evE_11, ↓z_evE_12, ↓z_evE_13, ↓z_evE_14, ↓z_evE_15, ↓z_evE_16, ↓z_evE_17, ↓z_evE_18, ↓z_evE_19, ↓z_evE_20, ↓z_evE_21, ↓z_evE_22, ↓z_evE_23, ↓z_evE_24, ↓z_evRs_1, ↓z_evRs_2, ↓z_evO_1, ↓z_evO_2, ↓z_evT_1, ↓z_evT_2, ↓z_evT_3, ↓z_evT_4, ↓z_evC_1, ↓z_evC_2, ↓z_evIt_1, ↓z_evIt_3, ↓z_evIt_4, ↓z_evIt_5, ↓z_evIt_6, ↓z_evS_1, ↓z_evS_2, ↓z_evS_3, ↓z_evS_4, ↓z_evS_5, ↓z_evS_6, ↓z_evS_7, ↓z_evS_8, ↓z_evS_9, ↓z_evS_10, ↓z_evS_11, ↓z_evS_12, ↓z_evS_13, ↓z_evSs_1, ↓z_evSs_2, ↓evIt_rng, leave, start, slotRv, Rv.tree, Rv.isI, Rv.isB, Rv.isS, T.isI, T.isB, T.isS, Rv.w, Rv.lst, Rv.seq, lstAt, seqAt, Rv.data, binop, cmpop, eqRv, inRv, ltRv, isRv, truth, isTy, isiRv, lenRv, LL.bi, biLen, biAll, biAny, biInt, biStr, biTuple, biList, biSorted, meFind, meCount, meJoin, meS, meL, meAppend, meInsert, mePop0, putL, getL, meRv, meTy, ixRv, slRv, revRv, src1, src2, src3, src4, src5, bindTg, bindTs, wipe, treesOf, tupOf, lstOf, app, Sto.trunc, glo0, glo1, glo2, SZ, -List.map_map, ixOf, T.eqOk, T.data, T.datas, T.calm, T.calms, T.depth, T.depths, T.beq, T.beqs, hfx, hq, strOf, hacc]
          · intro t ht acc hacc
            obtain ⟨r, hr, rfl⟩ := List.mem_map.1 ht
            have hr2 := (h1.2 r hr).1
            have hr3 : r.length + 1 ≤ 16777216 := by omega
            simp [↓mb, ↓pu, ↓gd, ↓opt_some, ↓bad_app, ↓rv_val, ↓nox_app, ↓ite_a, ↓z_evE_1, ↓z_evE_2, ↓z_evE_3, ↓z_evE_4, ↓z_evE_5, ↓z_evE_6, ↓z_evE_7, ↓z_evE_8, ↓z_evE_9, ↓z_evE_10, ↓z_evE_11, ↓z_evE_12, ↓z_evE_13, ↓z_evE_14, ↓z_evE_15, ↓z_evE_16, ↓z_evE_17, ↓z_evE_18, ↓z_evE_19, ↓z_evE_20, ↓z_evE_21, ↓z_evE_22, ↓z_evE_23, ↓z_evE_24, ↓z_evRs_1, ↓z_evRs_2, ↓z_evO_1, ↓z_evO_2, ↓z_evT_1, ↓z_evT_2, ↓z_evT_3, ↓z_evT_4, ↓z_evC_1, ↓z_evC_2, ↓z_evIt_1, ↓z_evIt_3, ↓z_evIt_4, ↓z_evIt_5, ↓z_evIt_6, ↓z_evS_1, ↓z_evS_2, ↓z_evS_3, ↓z_evS_4, ↓z_evS_5, ↓z_evS_6, ↓z_evS_7, ↓z_evS_8, ↓z_evS_9, ↓z_evS_10, ↓z_evS_11, ↓z_evS_12, ↓z_evS_13, ↓z_evSs_1, ↓z_evSs_2, ↓evIt_rng, leave, start, slotRv, Rv.tree, Rv.isI, Rv.isB, Rv.isS, T.isI, T.isB, T.isS, Rv.w, Rv.lst, Rv.seq, lstAt, seqAt, Rv.data, binop, cmpop, eqRv, inRv, ltRv, isRv, truth, isTy, isiRv, lenRv, LL.bi, biLen, biAll, biAny, biInt, biStr, biTuple, biList, biSorted, meFind, meCount, meJoin, meS, meL, meAppend, meInsert, mePop0, putL, getL, meRv, meTy, ixRv, slRv, revRv, src1, src2, src3, src4, src5, bindTg, bindTs, wipe, treesOf, tupOf, lstOf, app, Sto.trunc, glo0, glo1, glo2, SZ, -List.map_map, ixOf, T.eqOk, T.data, T.datas, T.calm, T.calms, T.depth, T.depths, T.beq, T.beqs, hr3, strOf, hacc]
        · intro t ht acc hacc
          obtain ⟨r, hr, rfl⟩ := List.mem_map.1 ht
          have hr2 := (h1.2 r hr).1
          have hr3 : r.length + 1 ≤ 16777216 := by omega
          simp [↓mb, ↓pu, ↓gd, ↓opt_some, ↓bad_app, ↓rv_val, ↓nox_app, ↓ite_a, ↓z_evE_1, ↓z_evE_2, ↓z_evE_3, ↓z_evE_4, ↓z_evE_5, ↓z_evE_6, ↓z_evE_7, ↓z_evE_8, ↓z_evE_9, ↓z_evE_10, ↓z_evE_11, ↓z_evE_12, ↓z_evE_13, ↓z_evE_14, ↓z_evE_15, ↓z_evE_16, ↓z_evE_17, ↓z_evE_18, ↓z_evE_19, ↓z_evE_20, ↓z_evE_21, ↓z_evE_22, ↓z_evE_23, ↓z_evE_24, ↓z_evRs_1, ↓z_evRs_2, ↓z_evO_1, ↓z_evO_2, ↓z_evT_1, ↓z_evT_2, ↓z_evT_3, ↓z_evT_4, ↓z_evC_1, ↓z_evC_2, ↓z_evIt_1, ↓z_evIt_3, ↓z_evIt_4, ↓z_evIt_5, ↓z_evIt_6, ↓z_evS_1, ↓z_evS_2, ↓z_evS_3, ↓z_evS_4, ↓z_evS_5, ↓z_evS_6, ↓z_evS_7, ↓z_evS_8, ↓z_evS_9, ↓z_evS_10, ↓z_evS_11, ↓z_evS_12, ↓z_evS_13, ↓z_evSs_1, ↓z_evSs_2, ↓evIt_rng, leave, start, slotRv, Rv.tree, Rv.isI, Rv.isB, Rv.isS, T.isI, T.isB, T.isS, Rv.w, Rv.lst, Rv.seq, lstAt, seqAt, Rv.data, binop, cmpop, eqRv, inRv, ltRv, isRv, truth, isTy, isiRv, lenRv, LL.bi, biLen, biAll, biAny, biInt, biStr, biTuple, biList, biSorted, meFind, meCount, meJoin, meS, meL, meAppend, meInsert, mePop0, putL, getL, meRv, meTy, ixRv, slRv, revRv, src1, src2, src3, src4, src5, bindTg, bindTs, wipe, treesOf, tupOf, lstOf, app, Sto.trunc, glo0, glo1, glo2, SZ, -List.map_map, ixOf, T.eqOk, T.data, T.datas, T.calm, T.calms, T.depth, T.depths, T.beq, T.beqs, hr3, strOf, hacc])
      [some (.t (.str m)), some (.t (.int n)), none, some (.t (.lst [.str []])), some (.t (.lst [.str []])), none] S ⟨rfl, none, rfl⟩
  subst hs hσ
  rw [List.nil_append, rng_len] at e1
  rw [run_fn (rfl : prog.fn 69 = some F__law_small_texts)]
  simp [F__law_small_texts, ↓mb, ↓pu, ↓gd, ↓opt_some, ↓bad_app, ↓rv_val, ↓nox_app, ↓ite_a, ↓z_evE_1, ↓z_evE_2, ↓z_evE_3, ↓z_evE_4, ↓z_evE_5, ↓z_evE_6, ↓z_evE_7, ↓z_evE_8, ↓z_evE_9, ↓z_evE_10, ↓z_evE_11, ↓z_evE_12, ↓z_evE_13, ↓z_evE_14, ↓z_evE_15, ↓z_evE_16, ↓z_evE_17, ↓z_evE_18, ↓z_evE_19, ↓z_evE_20, ↓z_evE_21, ↓z_evE_22, ↓z_evE_23, ↓z_evE_24, ↓z_evRs_1, ↓z_evRs_2, ↓z_evO_1, ↓z_evO_2, ↓z_evT_1, ↓z_evT_2, ↓z_evT_3, ↓z_evT_4, ↓z_evC_1, ↓z_evC_2, ↓z_evIt_1, ↓z_evIt_3, ↓z_evIt_4, ↓z_evIt_5, ↓z_evIt_6, ↓z_evS_1, ↓z_evS_2, ↓z_evS_3, ↓z_evS_4, ↓z_evS_5, ↓z_evS_6, ↓z_evS_7, ↓z_evS_8, ↓z_evS_9, ↓z_evS_10, ↓z_evS_11, ↓z_evS_12, ↓z_evS_13, ↓z_evSs_1, ↓z_evSs_2, ↓evIt_rng, leave, start, slotRv, Rv.tree, Rv.isI, Rv.isB, Rv.isS, T.isI, T.isB, T.isS, Rv.w, Rv.lst, Rv.seq, lstAt, seqAt, Rv.data, binop, cmpop, eqRv, inRv, ltRv, isRv, truth, isTy, isiRv, lenRv, LL.bi, biLen, biAll, biAny, biInt, biStr, biTuple, biList, biSorted, meFind, meCount, meJoin, meS, meL, meAppend, meInsert, mePop0, putL, getL, meRv, meTy, ixRv, slRv, revRv, src1, src2, src3, src4, src5, bindTg, bindTs, wipe, treesOf, tupOf, lstOf, app, Sto.trunc, glo0, glo1, glo2, SZ, -List.map_map, ixOf, T.eqOk, T.data, T.datas, T.calm, T.calms, T.depth, T.depths, T.beq, T.beqs, hg]
  simp [↓mb, ↓pu, ↓gd, ↓opt_some, ↓bad_app, ↓rv_val, ↓nox_app, ↓ite_a, ↓z_evE_1, ↓z_evE_2, ↓z_evE_3, ↓z_evE_4, ↓z_evE_5, ↓z_evE_6, ↓z_evE_7, ↓z_evE_8, ↓z_evE_9, ↓z_evE_10, ↓z_evE_11, ↓z_evE_12, ↓z_evE_13, ↓z_evE_14, ↓z_evE_15, ↓z_evE_16, ↓z_evE_17, ↓z_evE_18, ↓z_evE_19, ↓z_evE_20, ↓z_evE_21, ↓z_evE_22, ↓z_evE_23, ↓z_evE_24, ↓z_evRs_1, ↓z_evRs_2, ↓z_evO_1, ↓z_evO_2, ↓z_evT_1, ↓z_evT_2, ↓z_evT_3, ↓z_evT_4, ↓z_evC_1, ↓z_evC_2, ↓z_evIt_1, ↓z_evIt_3, ↓z_evIt_4, ↓z_evIt_5, ↓z_evIt_6, ↓z_evS_1, ↓z_evS_2, ↓z_evS_3, ↓z_evS_4, ↓z_evS_5, ↓z_evS_6, ↓z_evS_7, ↓z_evS_8, ↓z_evS_9, ↓z_evS_10, ↓z_evS_11, ↓z_evS_12, ↓z_evS_13, ↓z_evSs_1, ↓z_evSs_2, ↓evIt_rng, leave, start, slotRv, Rv.tree, Rv.isI, Rv.isB, Rv.isS, T.isI, T.isB, T.isS, Rv.w, Rv.lst, Rv.seq, lstAt, seqAt, Rv.data, binop, cmpop, eqRv, inRv, ltRv, isRv, truth, isTy, isiRv, lenRv, LL.bi, biLen, biAll, biAny, biInt, biStr, biTuple, biList, biSorted, meFind, meCount, meJoin, meS, meL, meAppend, meInsert, mePop0, putL, getL, meRv, meTy, ixRv, slRv, revRv, src1, src2, src3, src4, src5, bindTg, bindTs, wipe, treesOf, tupOf, lstOf, app, Sto.trunc, glo0, glo1, glo2, SZ, -List.map_map, ixOf, T.eqOk, T.data, T.datas, T.calm, T.calms, T.depth, T.depths, T.beq, T.beqs] at e1
  rw [e1]
  simp [↓mb, ↓pu, ↓gd, ↓opt_some, ↓bad_app, ↓rv_val, ↓nox_app, ↓ite_a, ↓z_evE_1, ↓z_evE_2, ↓z_evE_3, ↓z_evE_4, ↓z_evE_5, ↓z_evE_6, ↓z_evE_7, ↓z_evE_8, ↓z_evE_9, ↓z_evE_10, ↓z_evE_11, ↓z_evE_12, ↓z_evE_13, ↓z_evE_14, ↓z_evE_15, ↓z_evE_16, ↓z_evE_17, ↓z_evE_18, ↓z_evE_19, ↓z_evE_20, ↓z_evE_21, ↓z_evE_22, ↓z_evE_23, ↓z_evE_24, ↓z_evRs_1, ↓z_evRs_2, ↓z_evO_1, ↓z_evO_2, ↓z_evT_1, ↓z_evT_2, ↓z_evT_3, ↓z_evT_4, ↓z_evC_1, ↓z_evC_2, ↓z_evIt_1, ↓z_evIt_3, ↓z_evIt_4, ↓z_evIt_5, ↓z_evIt_6, ↓z_evS_1, ↓z_evS_2, ↓z_evS_3, ↓z_evS_4, ↓z_evS_5, ↓z_evS_6, ↓z_evS_7, ↓z_evS_8, ↓z_evS_9, ↓z_evS_10, ↓z_evS_11, ↓z_evS_12, ↓z_evS_13, ↓z_evSs_1, ↓z_evSs_2, ↓evIt_rng, leave, start, slotRv, Rv.tree, Rv.isI, Rv.isB, Rv.isS, T.isI, T.isB, T.isS, Rv.w, Rv.lst, Rv.seq, lstAt, seqAt, Rv.data, binop, cmpop, eqRv, inRv, ltRv, isRv, truth, isTy, isiRv, lenRv, LL.bi, biLen, biAll, biAny, biInt, biStr, biTuple, biList, biSorted, meFind, meCount, meJoin, meS, meL, meAppend, meInsert, mePop0, putL, getL, meRv, meTy, ixRv, slRv, revRv, src1, src2, src3, src4, src5, bindTg, bindTs, wipe, treesOf, tupOf, lstOf, app, Sto.trunc, glo0, glo1, glo2, SZ, -List.map_map, ixOf, T.eqOk, T.data, T.datas, T.calm, T.calms, T.depth, T.depths, T.beq, T.beqs]
def ten : List Cs := [[], [97], [98], [97, 98], [98, 97], [97, 97], [98, 98], [97, 98, 97], [97, 98, 98], [98, 97, 98]]
theorem ten_ok : ∀ c ∈ ten, c.length ≤ 3 ∧ ∀ x ∈ c, x = 97 ∨ x = 98 ∨ x = 99 := by decide
def Ten (m t : Cs) : Prop := ∃ c ∈ ten, t = fitF m c
theorem Ten.ok {m t : Cs} (hm : Man m) (h : Ten m t) : TxOk m t 3 := by
  obtain ⟨c, hc, rfl⟩ := h
  have h2 := ten_ok c hc
  have := fitF_ok hm h2.2
  exact ⟨Nat.le_trans this.len h2.1, this.abc, this.fit⟩
theorem short_t {k n : Nat} {L : List (List T)} {b : List Int} {O : List Inst} {a : Tk} {i j : Int} (hn : n < L.length) (ha : TkOk a) (h0 : 0 ≤ i) (h1 : i < a.p) (h2 : 0 ≤ j) (h3 : j < a.q) :
    ∃ (x : Pl) (b' : List Int), run prog (k + 3) 70 [.l n, .t a.t, .t (.tup [.int i, .int j])] ⟨L.set n (b.map T.int), O⟩ = .ok (.v x.t) ⟨L.set n (b'.map T.int), O⟩ ∧ PlOk a x ∧ x.i = i ∧ x.j = j ∧ ∀ z ∈ List.zip a.ms x.ts, Ten z.1 z.2 := by
  have hml : a.ms.length ≤ 2 := by have := ha.ms.1; omega
  obtain ⟨ys, s', e3, ts, b3, hys, hs', hlen, hfit⟩ := lc_inv (ws := []) (step := fun x acc => do
      let σ' ← bindTg (.n 4) x (wipe [some (.l n), some (.t a.t), some (.t (.tup [.int i, .int j])), some (.t (.lst (ten.map T.str))), none] [4])
      let b ← evC ⟨run prog (k + 2), prog.glo⟩ .no σ'
      if b then do let r ← evE ⟨run prog (k + 2), prog.glo⟩ (.call 26 (.cons (.var 4) (.cons (.call 19 (.cons (.var 0) (.cons (.var 3) .nil))) .nil))) σ'; app acc r else M.pure acc)
    (fun d acc s' => ∃ (ts : List Cs) (b3 : List Int), acc = ts.map T.str ∧ s' = ⟨L.set n (b3.map T.int), O⟩ ∧ ts.length = d.length ∧ ∀ z ∈ List.zip (d.map strOf) ts, Ten z.1 z.2) (a.ms.map T.str) []
    (fun d acc s h => by simp [watchOk])
    (by
      intro d x r acc s' he ⟨ts, b3, hacc, hs', hlen, hfit⟩
      subst hacc hs'
      have hx : x ∈ a.ms.map T.str := by simp at he; rw [he]; simp
      obtain ⟨m, hm, rfl⟩ := List.mem_map.1 hx
      obtain ⟨y, b4, e4, hy⟩ := choice_lst (k := k) (L := L) (b := b3) (O := O) (xs := ten.map T.str) hn (by simp [ten])
      obtain ⟨c, hc, rfl⟩ := List.mem_map.1 hy
      have hc2 := ten_ok c hc
      have hfx := fitted_x (k := k + 1) (S := ⟨L.set n (b4.map T.int), O⟩) (m := m) (t := c) (wl := .str c) (src1 _) (ha.ms.2 m hm) hc2.2 (by omega)
      have hd : d.length < 16777216 := by have := congrArg List.length he; simp at this; omega
      refine ⟨(ts ++ [fitF m c]).map T.str, ⟨L.set n (b4.map T.int), O⟩, by simp [↓mb, ↓pu, ↓gd, ↓opt_some, ↓bad_app, ↓rv_val, ↓nox_app, ↓ite_a, ↓z_evE_1, ↓z_evE_2, ↓z_evE_3, ↓z_evE_4, ↓z_evE_5, ↓z_evE_6, ↓z_evE_7, ↓z_evE_8, ↓z_evE_9, ↓z_evE_10, ↓z_evE_11, ↓z_evE_12, ↓z_evE_13, ↓z_evE_14, ↓z_evE_15, ↓z_evE_16, ↓z_evE_17, ↓z_evE_18, ↓z_evE_19, ↓z_evE_20, ↓z_evE_21, ↓z_evE_22, ↓z_evE_23, ↓z_evE_24, ↓z_evRs_1, ↓z_evRs_2, ↓z_evO_1, ↓z_evO_2, ↓z_evT_1, ↓z_evT_2, ↓z_evT_3, ↓z_evT_4, ↓z_evC_1, ↓z_evC_2, ↓z_evIt_1, ↓z_evIt_3, ↓z_evIt_4, ↓z_evIt_5, ↓z_evIt_6, ↓z_evS_1, ↓z_evS_2, ↓z_evS_3, ↓z_evS_4, ↓z_evS_5, ↓z_evS_6, ↓z_evS_7, ↓z_evS_8, ↓z_evS_9, ↓z_evS_10, ↓z_evS_11, ↓z_evS_12, ↓z_evS_13, ↓z_evSs_1, ↓z_evSs_2, ↓evIt_rng, leave, start, slotRv, Rv.tree, Rv.isI, Rv.isB, Rv.isS, T.isI, T.isB, T.isS, Rv.w, Rv.lst, Rv.seq, lstAt, seqAt, Rv.data, binop, cmpop, eqRv, inRv, ltRv, isRv, truth, isTy, isiRv, lenRv, LL.bi, biLen, biAll, biAny, biInt, biStr, biTuple, biList, biSorted, meFind, meCount, meJoin, meS, meL, meAppend, meInsert, mePop0, putL, getL, meRv, meTy, ixRv, slRv, revRv, src1, src2, src3, src4, src5, bindTg, bindTs, wipe, treesOf, tupOf, lstOf, app, Sto.trunc, glo0, glo1, glo2, SZ, -List.map_map, ixOf, T.eqOk, T.data, T.datas, T.calm, T.calms, T.depth, T.depths, T.beq, T.beqs, e4, hfx, hlen, hd], ts ++ [fitF m c], b4, rfl, rfl, by simp [hlen], ?_⟩
      intro z hz
      rw [List.map_append, List.zip_append (by simp [hlen])] at hz
      rcases List.mem_append.1 hz with h | h
      · exact hfit z h
      · simp [strOf] at h; subst h; exact ⟨c, hc, rfl⟩)
    [] ⟨L.set n (b.map T.int), O⟩ ⟨[], b, rfl, rfl, rfl, by simp⟩
  subst hys hs'
  have hz2 : ∀ z ∈ List.zip a.ms ts, Ten z.1 z.2 := fun z hz => hfit z (by rw [List.nil_append, strOf_map]; exact hz)
  refine ⟨⟨i, j, ts⟩, b3, ?_, ⟨h0, h1, h2, h3, by simpa using hlen, fun z hz => ?_⟩, rfl, rfl, hz2⟩
  · rw [run_fn (rfl : prog.fn 70 = some F__law_short)]
    simp [F__law_short, Tk.t, Pl.t, ↓mb, ↓pu, ↓gd, ↓opt_some, ↓bad_app, ↓rv_val, ↓nox_app, ↓ite_a, ↓z_evE_1, ↓z_evE_2, ↓z_evE_3, ↓z_evE_4, ↓z_evE_5, ↓z_evE_6, ↓z_evE_7, ↓z_evE_8, ↓z_evE_9, ↓z_evE_10, ↓z_evE_11, ↓z_evE_12, ↓z_evE_13, ↓z_evE_14, ↓z_evE_15, ↓z_evE_16, ↓z_evE_17, ↓z_evE_18, ↓z_evE_19, ↓z_evE_20, ↓z_evE_21, ↓z_evE_22, ↓z_evE_23, ↓z_evE_24, ↓z_evRs_1, ↓z_evRs_2, ↓z_evO_1, ↓z_evO_2, ↓z_evT_1, ↓z_evT_2, ↓z_evT_3, ↓z_evT_4, ↓z_evC_1, ↓z_evC_2, ↓z_evIt_1, ↓z_evIt_3, ↓z_evIt_4, ↓z_evIt_5, ↓z_evIt_6, ↓z_evS_1, ↓z_evS_2, ↓z_evS_3, ↓z_evS_4, ↓z_evS_5, ↓z_evS_6, ↓z_evS_7, ↓z_evS_8, ↓z_evS_9, ↓z_evS_10, ↓z_evS_11, ↓z_evS_12, ↓z_evS_13, ↓z_evSs_1, ↓z_evSs_2, ↓evIt_rng, leave, start, slotRv, Rv.tree, Rv.isI, Rv.isB, Rv.isS, T.isI, T.isB, T.isS, Rv.w, Rv.lst, Rv.seq, lstAt, seqAt, Rv.data, binop, cmpop, eqRv, inRv, ltRv, isRv, truth, isTy, isiRv, lenRv, LL.bi, biLen, biAll, biAny, biInt, biStr, biTuple, biList, biSorted, meFind, meCount, meJoin, meS, meL, meAppend, meInsert, mePop0, putL, getL, meRv, meTy, ixRv, slRv, revRv, src1, src2, src3, src4, src5, bindTg, bindTs, wipe, treesOf, tupOf, lstOf, app, Sto.trunc, glo0, glo1, glo2, SZ, -List.map_map, ixOf, T.eqOk, T.data, T.datas, T.calm, T.calms, T.depth, T.depths, T.beq, T.beqs]
    simp [↓mb, ↓pu, ↓gd, ↓opt_some, ↓bad_app, ↓rv_val, ↓nox_app, ↓ite_a, ↓z_evE_1, ↓z_evE_2, ↓z_evE_3, ↓z_evE_4, ↓z_evE_5, ↓z_evE_6, ↓z_evE_7, ↓z_evE_8, ↓z_evE_9, ↓z_evE_10, ↓z_evE_11, ↓z_evE_12, ↓z_evE_13, ↓z_evE_14, ↓z_evE_15, ↓z_evE_16, ↓z_evE_17, ↓z_evE_18, ↓z_evE_19, ↓z_evE_20, ↓z_evE_21, ↓z_evE_22, ↓z_evE_23, ↓z_evE_24, ↓z_evRs_1, ↓z_evRs_2, ↓z_evO_1, ↓z_evO_2, ↓z_evT_1, ↓z_evT_2, ↓z_evT_3, ↓z_evT_4, ↓z_evC_1, ↓z_evC_2, ↓z_evIt_1, ↓z_evIt_3, ↓z_evIt_4, ↓z_evIt_5, ↓z_evIt_6, ↓z_evS_1, ↓z_evS_2, ↓z_evS_3, ↓z_evS_4, ↓z_evS_5, ↓z_evS_6, ↓z_evS_7, ↓z_evS_8, ↓z_evS_9, ↓z_evS_10, ↓z_evS_11, ↓z_evS_12, ↓z_evS_13, ↓z_evSs_1, ↓z_evSs_2, ↓evIt_rng, leave, start, slotRv, Rv.tree, Rv.isI, Rv.isB, Rv.isS, T.isI, T.isB, T.isS, Rv.w, Rv.lst, Rv.seq, lstAt, seqAt, Rv.data, binop, cmpop, eqRv, inRv, ltRv, isRv, truth, isTy, isiRv, lenRv, LL.bi, biLen, biAll, biAny, biInt, biStr, biTuple, biList, biSorted, meFind, meCount, meJoin, meS, meL, meAppend, meInsert, mePop0, putL, getL, meRv, meTy, ixRv, slRv, revRv, src1, src2, src3, src4, src5, bindTg, bindTs, wipe, treesOf, tupOf, lstOf, app, Sto.trunc, glo0, glo1, glo2, SZ, -List.map_map, ixOf, T.eqOk, T.data, T.datas, T.calm, T.calms, T.depth, T.depths, T.beq, T.beqs, Tk.t, ten] at e3
    rw [e3]
    simp [↓mb, ↓pu, ↓gd, ↓opt_some, ↓bad_app, ↓rv_val, ↓nox_app, ↓ite_a, ↓z_evE_1, ↓z_evE_2, ↓z_evE_3, ↓z_evE_4, ↓z_evE_5, ↓z_evE_6, ↓z_evE_7, ↓z_evE_8, ↓z_evE_9, ↓z_evE_10, ↓z_evE_11, ↓z_evE_12, ↓z_evE_13, ↓z_evE_14, ↓z_evE_15, ↓z_evE_16, ↓z_evE_17, ↓z_evE_18, ↓z_evE_19, ↓z_evE_20, ↓z_evE_21, ↓z_evE_22, ↓z_evE_23, ↓z_evE_24, ↓z_evRs_1, ↓z_evRs_2, ↓z_evO_1, ↓z_evO_2, ↓z_evT_1, ↓z_evT_2, ↓z_evT_3, ↓z_evT_4, ↓z_evC_1, ↓z_evC_2, ↓z_evIt_1, ↓z_evIt_3, ↓z_evIt_4, ↓z_evIt_5, ↓z_evIt_6, ↓z_evS_1, ↓z_evS_2, ↓z_evS_3, ↓z_evS_4, ↓z_evS_5, ↓z_evS_6, ↓z_evS_7, ↓z_evS_8, ↓z_evS_9, ↓z_evS_10, ↓z_evS_11, ↓z_evS_12, ↓z_evS_13, ↓z_evSs_1, ↓z_evSs_2, ↓evIt_rng, leave, start, slotRv, Rv.tree, Rv.isI, Rv.isB, Rv.isS, T.isI, T.isB, T.isS, Rv.w, Rv.lst, Rv.seq, lstAt, seqAt, Rv.data, binop, cmpop, eqRv, inRv, ltRv, isRv, truth, isTy, isiRv, lenRv, LL.bi, biLen, biAll, biAny, biInt, biStr, biTuple, biList, biSorted, meFind, meCount, meJoin, meS, meL, meAppend, meInsert, mePop0, putL, getL, meRv, meTy, ixRv, slRv, revRv, src1, src2, src3, src4, src5, bindTg, bindTs, wipe, treesOf, tupOf, lstOf, app, Sto.trunc, glo0, glo1, glo2, SZ, -List.map_map, ixOf, T.eqOk, T.data, T.datas, T.calm, T.calms, T.depth, T.depths, T.beq, T.beqs, tk_set]
  · have := (hz2 z hz).ok (ha.ms.2 _ (List.of_mem_zip hz).1)
    exact ⟨by have := this.len; omega, this.abc, this.fit⟩
def someF (m a b : Cs) : List Cs :=
  let s := (smallF m (a.length + b.length)).filter fun w => sub a w && sub b w
  s.filter fun w => (s.filter fun l => !(l == w) && sub l w).isEmpty
theorem someF_len (m a b : Cs) (h : a.length + b.length ≤ 8) : (someF m a b).length ≤ 512 := by
  have h1 := (smallF_ok m (a.length + b.length)).1
  have p1 : 2 ^ (a.length + b.length + 1) ≤ 512 := Nat.le_trans (Nat.pow_le_pow_right (by omega) (show a.length + b.length + 1 ≤ 9 by omega)) (by decide)
  unfold someF
  refine Nat.le_trans (List.length_filter_le _ _) (Nat.le_trans (List.length_filter_le _ _) (by omega))
theorem ones_beq (w : List T) : T.beqs (w.map fun _ => T.int 1) [] = w.isEmpty ∧ T.calms (w.map fun _ => T.int 1) [] = true := by cases w <;> exact ⟨rfl, rfl⟩
end LLQ

set_option Elab.async false
set_option linter.all false
set_option autoImplicit false
set_option maxRecDepth 100000
set_option maxHeartbeats 1000000
namespace LLQ
open LL LLS LLP
theorem all_body {k : Nat} {S : Sto} {z : Tri} {rows : List (List Cs)} {v0 v1 v2 v4 v5 v6 v7 v8 v9 : Option W} (hm : Man z.1) (ha : z.2.1.length ≤ 4) (hb : z.2.2.length ≤ 4) (hr : rows.length ≤ 512) (hr2 : ∀ r ∈ rows, r.length ≤ 2) :
    ∃ w7 w9, evSs ⟨run prog (k + 3), prog.glo⟩ (.cons (.asg (.n 7) (.call 69 (.cons (.var 4) (.cons (.bin .add (.bi .len (.cons (.var 5) .nil)) (.bi .len (.cons (.var 6) .nil))) .nil)))) (.cons (.asg (.n 7) (.lc [10] (.var 10) (.n 10) (.e (.var 7)) (.yes (.and (.val (.call 60 (.cons (.var 5) (.cons (.var 10) .nil)))) (.val (.call 60 (.cons (.var 6) (.cons (.var 10) .nil)))))))) (.cons (.asg (.n 7) (.lc [10] (.var 10) (.n 10) (.e (.var 7)) (.yes (.val (.cmp .eq (.lc [11] (.c (.int 1)) (.n 11) (.e (.var 7)) (.yes (.and (.val (.cmp .ne (.var 11) (.var 10))) (.val (.call 60 (.cons (.var 11) (.cons (.var 10) .nil))))))) (.lst .nil)))))) (.cons (.asg (.n 8) (.lst .nil)) (.cons (.loop (.n 9) (.e (.var 3)) (.cons (.asg (.n 8) (.bin .add (.var 8) (.lc [10] (.bin .add (.var 9) (.tup (.cons (.var 10) .nil))) (.n 10) (.e (.var 7)) .no))) .nil)) (.cons (.asg (.n 3) (.var 8)) .nil)))))) [v0, v1, v2, some (.t (.lst (rows.map rowT))), some (.t (.str z.1)), some (.t (.str z.2.1)), some (.t (.str z.2.2)), v7, v8, v9, none, none] S
      = .ok (.next, [v0, v1, v2, some (.t (.lst ((stepP someF rows z).map rowT))), some (.t (.str z.1)), some (.t (.str z.2.1)), some (.t (.str z.2.2)), w7, some (.t (.lst ((stepP someF rows z).map rowT))), w9, none, none]) S := by
  have hst := small_texts_t (k := k + 1) (S := S) (m := z.1) (n := z.2.1.length + z.2.2.length) hm (by omega)
  have hsf := smallF_ok z.1 (z.2.1.length + z.2.2.length)
  have p1 : 2 ^ (z.2.1.length + z.2.2.length + 1) ≤ 512 := Nat.le_trans (Nat.pow_le_pow_right (by omega) (show z.2.1.length + z.2.2.length + 1 ≤ 9 by omega)) (by decide)
  have hlen := someF_len z.1 z.2.1 z.2.2 (by omega)
  have hz1 : z.2.1.length ≤ 16777216 := by omega
  have hz2 : z.2.2.length ≤ 16777216 := by omega
  have hcast : ((z.2.1.length : Int) + (z.2.2.length : Int)) = ((z.2.1.length + z.2.2.length : Nat) : Int) := by omega
  rw [← hcast] at hst
  obtain ⟨σ', s', e1, hs, w9, hσ⟩ := for_inv (ws := []) (step := fun t σ => (do
        let σ' ← bindTg (.n 9) t σ
        evSs ⟨run prog (k + 3), prog.glo⟩ (.cons (.asg (.n 8) (.bin .add (.var 8) (.lc [10] (.bin .add (.var 9) (.tup (.cons (.var 10) .nil))) (.n 10) (.e (.var 7)) .no))) .nil) σ' : M (Fl × Env)))
      (fun d σ s => s = S ∧ ∃ w9, σ = [v0, v1, v2, some (.t (.lst (rows.map rowT))), some (.t (.str z.1)), some (.t (.str z.2.1)), some (.t (.str z.2.2)), some (.t (.lst ((someF z.1 z.2.1 z.2.2).map T.str))), some (.t (.lst (d.flatMap fun t => (someF z.1 z.2.1 z.2.2).map fun w => appT t w))), w9, none, none]) (rows.map rowT) []
      (fun d σ s h => by simp [watchOk])
      (by
        intro d t r σ s he ⟨hs, w9, hσ⟩
        subst hs hσ
        have ht : t ∈ rows.map rowT := by rw [List.nil_append] at he; rw [he]; simp
        obtain ⟨r0, hr0, rfl⟩ := List.mem_map.1 ht
        have hd : d.length < 512 := by
          have := congrArg List.length he
          simp at this
          omega
        have h3 := hr2 r0 hr0
        have h4 : r0.length + 1 ≤ 16777216 := by omega
        have h5 : (d.flatMap fun t => (someF z.1 z.2.1 z.2.2).map fun w => appT t w).length ≤ 512 * 512 := by
          refine Nat.le_trans (flatMap_len _ 512 (fun x => by simpa using hlen) d) ?_
          exact Nat.mul_le_mul_right _ (by omega)
        have h6 : (d.flatMap fun t => (someF z.1 z.2.1 z.2.2).map fun w => appT t w).length + (someF z.1 z.2.1 z.2.2).length ≤ 16777216 := by omega
        refine ⟨[v0, v1, v2, some (.t (.lst (rows.map rowT))), some (.t (.str z.1)), some (.t (.str z.2.1)), some (.t (.str z.2.2)), some (.t (.lst ((someF z.1 z.2.1 z.2.2).map T.str))), some (.t (.lst ((d ++ [rowT r0]).flatMap fun t => (someF z.1 z.2.1 z.2.2).map fun w => appT t w))), some (.t (rowT r0)), none, none], s, ?_, rfl, _, rfl⟩
        rw [List.flatMap_append, List.flatMap_cons, List.flatMap_nil, List.append_nil]
        generalize (d.flatMap fun t => (someF z.1 z.2.1 z.2.2).map fun w => appT t w) = acc0 at *
        simp [↓mb, ↓pu, ↓gd, ↓opt_some, ↓bad_app, ↓rv_val, ↓nox_app, ↓ite_a, ↓z_evE_1, ↓z_evE_2, ↓z_evE_3, ↓z_evE_4, ↓z_evE_5, ↓z_evE_6, ↓z_evE_7, ↓z_evE_8, ↓z_evE_9, ↓z_evE_10, ↓z_evE_11, ↓z_evE_12, ↓z_evE_13, ↓z_evE_14, ↓z_evE_15, ↓z_evE_16, ↓z_evE_17, ↓z_evE_18, ↓z_evE_19, ↓z_evE_20, ↓z_evE_21, ↓z_evE_22, ↓z_evE_23, ↓z_evE_24, ↓z_evRs_1, ↓z_evRs_2, ↓z_evO_1, ↓z_evO_2, ↓z_evT_1, ↓z_evT_2, ↓z_evT_3, ↓z_evT_4, ↓z_evC_1, ↓z_evC_2, ↓z_evIt_1, ↓z_evIt_3, ↓z_evIt_4, ↓z_evIt_5, ↓z_evIt_6, ↓z_evS_1, ↓z_evS_2, ↓z_evS_3, ↓z_evS_4, ↓z_evS_5, ↓z_evS_6, ↓z_evS_7, ↓z_evS_8, ↓z_evS_9, ↓z_evS_10, ↓z_evS_11, ↓z_evS_12, ↓z_evS_13, ↓z_evSs_1, ↓z_evSs_2, ↓evIt_rng, leave, start, slotRv, Rv.tree, Rv.isI, Rv.isB, Rv.isS, T.isI, T.isB, T.isS, Rv.w, Rv.lst, Rv.seq, lstAt, seqAt, Rv.data, binop, cmpop, eqRv, inRv, ltRv, isRv, truth, isTy, isiRv, lenRv, LL.bi, biLen, biAll, biAny, biInt, biStr, biTuple, biList, biSorted, meFind, meCount, meJoin, meS, meL, meAppend, meInsert, mePop0, putL, getL, meRv, meTy, ixRv, slRv, revRv, src1, src2, src3, src4, src5, bindTg, bindTs, wipe, treesOf, tupOf, lstOf, app, Sto.trunc, glo0, glo1, glo2, SZ, -List.map_map, ixOf, T.eqOk, T.data, T.datas, T.calm, T.calms, T.depth, T.depths, T.beq, T.beqs]
        rw [lc_map (fun u => appT (rowT r0) (strOf u)) s rfl _ (by simp; omega)]
        · have : List.map (fun u => appT (rowT r0) (strOf u)) (List.map T.str (someF z.1 z.2.1 z.2.2)) = (someF z.1 z.2.1 z.2.2).map fun w => appT (rowT r0) w := by
            rw [List.map_map]; rfl
          rw [this]
          simp [↓mb, ↓pu, ↓gd, ↓opt_some, ↓bad_app, ↓rv_val, ↓nox_app, ↓ite_a, ↓z_evE_1, ↓z_evE_2, ↓z_evE_3, ↓z_evE_4, ↓z_evE_5, ↓z_evE_6, ↓z_evE_7, ↓z_evE_8, ↓z_evE_9, ↓z_evE_10, ↓z_evE_11, ↓z_evE_12, ↓z_evE_13, ↓z_evE_14, ↓z_evE_15, ↓z_evE_16, ↓z_evE_17, ↓z_evE_18, ↓z_evE_19, ↓z_evE_20, ↓z_evE_21, ↓z_evE_22, ↓z_evE_23, ↓z_evE_24, ↓z_evRs_1, ↓z_evRs_2, ↓z_evO_1, ↓z_evO_2, ↓z_evT_1, ↓z_evT_2, ↓z_evT_3, ↓z_evT_4, ↓z_evC_1, ↓z_evC_2, ↓z_evIt_1, ↓z_evIt_3, ↓z_evIt_4, ↓z_evIt_5, ↓z_evIt_6, ↓z_evS_1, ↓z_evS_2, ↓z_evS_3, ↓z_evS_4, ↓z_evS_5, ↓z_evS_6, ↓z_evS_7, ↓z_evS_8, ↓z_evS_9, ↓z_evS_10, ↓z_evS_11, ↓z_evS_12, ↓z_evS_13, ↓z_evSs_1, ↓z_evSs_2, ↓evIt_rng, leave, start, slotRv, Rv.tree, Rv.isI, Rv.isB, Rv.isS, T.isI, T.isB, T.isS, Rv.w, Rv.lst, Rv.seq, lstAt, seqAt, Rv.data, binop, cmpop, eqRv, inRv, ltRv, isRv, truth, isTy, isiRv, lenRv, LL.bi, biLen, biAll, biAny, biInt, biStr, biTuple, biList, biSorted, meFind, meCount, meJoin, meS, meL, meAppend, meInsert, mePop0, putL, getL, meRv, meTy, ixRv, slRv, revRv, src1, src2, src3, src4, src5, bindTg, bindTs, wipe, treesOf, tupOf, lstOf, app, Sto.trunc, glo0, glo1, glo2, SZ, -List.map_map, ixOf, T.eqOk, T.data, T.datas, T.calm, T.calms, T.depth, T.depths, T.beq, T.beqs, h6]
        · intro u hu acc hacc
          obtain ⟨w, hw, rfl⟩ := List.mem_map.1 hu
          simp [↓mb, ↓pu, ↓gd, ↓opt_some, ↓bad_app, ↓rv_val, ↓nox_app, ↓ite_a, ↓z_evE_1, ↓z_evE_2, ↓z_evE_3, ↓z_evE_4, ↓z_evE_5, ↓z_evE_6, ↓z_evE_7, ↓z_evE_8, ↓z_evE_9, ↓z_evE_10, ↓z_evE_11, ↓z_evE_12, ↓z_evE_13, ↓z_evE_14, ↓z_evE_15, ↓z_evE_16, ↓z_evE_17, ↓z_evE_18, ↓z_evE_19, ↓z_evE_20, ↓z_evE_21, ↓z_evE_22, ↓z_evE_23, ↓z_evE_24, ↓z_evRs_1, ↓z_evRs_2, ↓z_evO_1, ↓z_evO_2, ↓z_evT_1, ↓z_evT_2, ↓z_evT_3, ↓z_evT_4, ↓z_evC_1, ↓z_evC_2, ↓z_evIt_1, ↓z_evIt_3, ↓z_evIt_4, ↓z_evIt_5, ↓z_evIt_6, ↓z_evS_1, ↓z_evS_2, ↓z_evS_3, ↓z_evS_4, ↓z_evS_5, ↓z_evS_6, ↓z_evS_7, ↓z_evS_8, ↓z_evS_9, ↓z_evS_10, ↓z_evS_11, ↓z_evS_12, ↓z_evS_13, ↓z_evSs_1, ↓z_evSs_2, ↓evIt_rng, leave, start, slotRv, Rv.tree, Rv.isI, Rv.isB, Rv.isS, T.isI, T.isB, T.isS, Rv.w, Rv.lst, Rv.seq, lstAt, seqAt, Rv.data, binop, cmpop, eqRv, inRv, ltRv, isRv, truth, isTy, isiRv, lenRv, LL.bi, biLen, biAll, biAny, biInt, biStr, biTuple, biList, biSorted, meFind, meCount, meJoin, meS, meL, meAppend, meInsert, mePop0, putL, getL, meRv, meTy, ixRv, slRv, revRv, src1, src2, src3, src4, src5, bindTg, bindTs, wipe, treesOf, tupOf, lstOf, app, Sto.trunc, glo0, glo1, glo2, SZ, -List.map_map, ixOf, T.eqOk, T.data, T.datas, T.calm, T.calms, T.depth, T.depths, T.beq, T.beqs, rowT, appT, strOf, h4, hacc])
      [v0, v1, v2, some (.t (.lst (rows.map rowT))), some (.t (.str z.1)), some (.t (.str z.2.1)), some (.t (.str z.2.2)), some (.t (.lst ((someF z.1 z.2.1 z.2.2).map T.str))), some (.t (.lst [])), v9, none, none] S ⟨rfl, _, rfl⟩
  subst hs hσ
  rw [List.nil_append, stepP_T] at e1
  simp [↓mb, ↓pu, ↓gd, ↓opt_some, ↓bad_app, ↓rv_val, ↓nox_app, ↓ite_a, ↓z_evE_1, ↓z_evE_2, ↓z_evE_3, ↓z_evE_4, ↓z_evE_5, ↓z_evE_6, ↓z_evE_7, ↓z_evE_8, ↓z_evE_9, ↓z_evE_10, ↓z_evE_11, ↓z_evE_12, ↓z_evE_13, ↓z_evE_14, ↓z_evE_15, ↓z_evE_16, ↓z_evE_17, ↓z_evE_18, ↓z_evE_19, ↓z_evE_20, ↓z_evE_21, ↓z_evE_22, ↓z_evE_23, ↓z_evE_24, ↓z_evRs_1, ↓z_evRs_2, ↓z_evO_1, ↓z_evO_2, ↓z_evT_1, ↓z_evT_2, ↓z_evT_3, ↓z_evT_4, ↓z_evC_1, ↓z_evC_2, ↓z_evIt_1, ↓z_evIt_3, ↓z_evIt_4, ↓z_evIt_5, ↓z_evIt_6, ↓z_evS_1, ↓z_evS_2, ↓z_evS_3, ↓z_evS_4, ↓z_evS_5, ↓z_evS_6, ↓z_evS_7, ↓z_evS_8, ↓z_evS_9, ↓z_evS_10, ↓z_evS_11, ↓z_evS_12, ↓z_evS_13, ↓z_evSs_1, ↓z_evSs_2, ↓evIt_rng, leave, start, slotRv, Rv.tree, Rv.isI, Rv.isB, Rv.isS, T.isI, T.isB, T.isS, Rv.w, Rv.lst, Rv.seq, lstAt, seqAt, Rv.data, binop, cmpop, eqRv, inRv, ltRv, isRv, truth, isTy, isiRv, lenRv, LL.bi, biLen, biAll, biAny, biInt, biStr, biTuple, biList, biSorted, meFind, meCount, meJoin, meS, meL, meAppend, meInsert, mePop0, putL, getL, meRv, meTy, ixRv, slRv, revRv, src1, src2, src3, src4, src5, bindTg, bindTs, wipe, treesOf, tupOf, lstOf, app, Sto.trunc, glo0, glo1, glo2, SZ, -List.map_map, ixOf, T.eqOk, T.data, T.datas, T.calm, T.calms, T.depth, T.depths, T.beq, T.beqs] at e1
  refine ⟨some (.t (.lst ((someF z.1 z.2.1 z.2.2).map T.str))), w9, ?_⟩
  simp [↓mb, ↓pu, ↓gd, ↓opt_some, ↓bad_app, ↓rv_val, ↓nox_app, ↓ite_a, ↓z_evE_1, ↓z_evE_2, ↓z_evE_3, ↓z_evE_4, ↓z_evE_5, ↓z_evE_6, ↓z_evE_7, ↓z_evE_8, ↓z_evE_9, ↓z_evE_10, ↓z_evE_11, ↓z_evE_12, ↓z_evE_13, ↓z_evE_14, ↓z_evE_15, ↓z_evE_16, ↓z_evE_17, ↓z_evE_18, ↓z_evE_19, ↓z_evE_20, ↓z_evE_21, ↓z_evE_22, ↓z_evE_23, ↓z_evE_24, ↓z_evRs_1, ↓z_evRs_2, ↓z_evO_1, ↓z_evO_2, ↓z_evT_1, ↓z_evT_2, ↓z_evT_3, ↓z_evT_4, ↓z_evC_1, ↓z_evC_2, ↓z_evIt_1, ↓z_evIt_3, ↓z_evIt_4, ↓z_evIt_5, ↓z_evIt_6, ↓z_evS_1, ↓z_evS_2, ↓z_evS_3, ↓z_evS_4, ↓z_evS_5, ↓z_evS_6, ↓z_evS_7, ↓z_evS_8, ↓z_evS_9, ↓z_evS_10, ↓z_evS_11, ↓z_evS_12, ↓z_evS_13, ↓z_evSs_1, ↓z_evSs_2, ↓evIt_rng, leave, start, slotRv, Rv.tree, Rv.isI, Rv.isB, Rv.isS, T.isI, T.isB, T.isS, Rv.w, Rv.lst, Rv.seq, lstAt, seqAt, Rv.data, binop, cmpop, eqRv, inRv, ltRv, isRv, truth, isTy, isiRv, lenRv, LL.bi, biLen, biAll, biAny, biInt, biStr, biTuple, biList, biSorted, meFind, meCount, meJoin, meS, meL, meAppend, meInsert, mePop0, putL, getL, meRv, meTy, ixRv, slRv, revRv, src1, src2, src3, src4, src5, bindTg, bindTs, wipe, treesOf, tupOf, lstOf, app, Sto.trunc, glo0, glo1, glo2, SZ, -List.map_map, ixOf, T.eqOk, T.data, T.datas, T.calm, T.calms, T.depth, T.depths, T.beq, T.beqs, hz1, hz2, hst]
  rw [lc_filt (fun t => sub z.2.1 (strOf t) && sub z.2.2 (strOf t)) (fun t => t) s' rfl _ (by simp; omega)]
  · have hf1 : (List.filter (fun t => sub z.2.1 (strOf t) && sub z.2.2 (strOf t)) ((smallF z.1 (z.2.1.length + z.2.2.length)).map T.str)).map (fun t => t) = ((smallF z.1 (z.2.1.length + z.2.2.length)).filter fun w => sub z.2.1 w && sub z.2.2 w).map T.str := by
      rw [List.map_id', List.filter_map]; simp [Function.comp_def, strOf]
    have hlf := List.length_filter_le (fun w => sub z.2.1 w && sub z.2.2 w) (smallF z.1 (z.2.1.length + z.2.2.length))
    have hsome : someF z.1 z.2.1 z.2.2 = ((smallF z.1 (z.2.1.length + z.2.2.length)).filter fun w => sub z.2.1 w && sub z.2.2 w).filter (fun w => (((smallF z.1 (z.2.1.length + z.2.2.length)).filter fun w => sub z.2.1 w && sub z.2.2 w).filter fun l => !(l == w) && sub l w).isEmpty) := rfl
    have hel : ∀ w ∈ (smallF z.1 (z.2.1.length + z.2.2.length)).filter fun w => sub z.2.1 w && sub z.2.2 w, w.length ≤ 8 := fun w hw => by have := (hsf.2 w (List.mem_filter.1 hw).1).1; omega
    rw [hf1]
    generalize ((smallF z.1 (z.2.1.length + z.2.2.length)).filter fun w => sub z.2.1 w && sub z.2.2 w) = so at *
    simp [↓mb, ↓pu, ↓gd, ↓opt_some, ↓bad_app, ↓rv_val, ↓nox_app, ↓ite_a, ↓z_evE_1, ↓z_evE_2, ↓z_evE_3, ↓z_evE_4, ↓z_evE_5, ↓z_evE_6, ↓z_evE_7, ↓z_evE_8, ↓z_evE_9, ↓z_evE_10, ↓z_evE_11, ↓z_evE_12, ↓z_evE_13, ↓z_evE_14, ↓z_evE_15, ↓z_evE_16, ↓z_evE_17, ↓z_evE_18, ↓z_evE_19, ↓z_evE_20, ↓z_evE_21, ↓z_evE_22, ↓z_evE_23, ↓z_evE_24, ↓z_evRs_1, ↓z_evRs_2, ↓z_evO_1, ↓z_evO_2, ↓z_evT_1, ↓z_evT_2, ↓z_evT_3, ↓z_evT_4, ↓z_evC_1, ↓z_evC_2, ↓z_evIt_1, ↓z_evIt_3, ↓z_evIt_4, ↓z_evIt_5, ↓z_evIt_6, ↓z_evS_1, ↓z_evS_2, ↓z_evS_3, ↓z_evS_4, ↓z_evS_5, ↓z_evS_6, ↓z_evS_7, ↓z_evS_8, ↓z_evS_9, ↓z_evS_10, ↓z_evS_11, ↓z_evS_12, ↓z_evS_13, ↓z_evSs_1, ↓z_evSs_2, ↓evIt_rng, leave, start, slotRv, Rv.tree, Rv.isI, Rv.isB, Rv.isS, T.isI, T.isB, T.isS, Rv.w, Rv.lst, Rv.seq, lstAt, seqAt, Rv.data, binop, cmpop, eqRv, inRv, ltRv, isRv, truth, isTy, isiRv, lenRv, LL.bi, biLen, biAll, biAny, biInt, biStr, biTuple, biList, biSorted, meFind, meCount, meJoin, meS, meL, meAppend, meInsert, mePop0, putL, getL, meRv, meTy, ixRv, slRv, revRv, src1, src2, src3, src4, src5, bindTg, bindTs, wipe, treesOf, tupOf, lstOf, app, Sto.trunc, glo0, glo1, glo2, SZ, -List.map_map, ixOf, T.eqOk, T.data, T.datas, T.calm, T.calms, T.depth, T.depths, T.beq, T.beqs]
    rw [lc_filt (fun t => (so.filter fun l => !(l == strOf t) && sub l (strOf t)).isEmpty) (fun t => t) s' rfl _ (by simp; omega)]
    · have hf2 : (List.filter (fun t => (so.filter fun l => !(l == strOf t) && sub l (strOf t)).isEmpty) (so.map T.str)).map (fun t => t) = (someF z.1 z.2.1 z.2.2).map T.str := by
        rw [List.map_id', List.filter_map, hsome]; simp [Function.comp_def, strOf]
      rw [hf2]
      simp [↓mb, ↓pu, ↓gd, ↓opt_some, ↓bad_app, ↓rv_val, ↓nox_app, ↓ite_a, ↓z_evE_1, ↓z_evE_2, ↓z_evE_3, ↓z_evE_4, ↓z_evE_5, ↓z_evE_6, ↓z_evE_7, ↓z_evE_8, ↓z_evE_9, ↓z_evE_10, ↓z_evE_11, ↓z_evE_12, ↓z_evE_13, ↓z_evE_14, ↓z_evE_15, ↓z_evE_16, ↓z_evE_17, ↓z_evE_18, ↓z_evE_19, ↓z_evE_20, ↓z_evE_21, ↓z_evE_22, ↓z_evE_23, ↓z_evE_24, ↓z_evRs_1, ↓z_evRs_2, ↓z_evO_1, ↓z_evO_2, ↓z_evT_1, ↓z_evT_2, ↓z_evT_3, ↓z_evT_4, ↓z_evC_1, ↓z_evC_2, ↓z_evIt_1, ↓z_evIt_3, ↓z_evIt_4, ↓z_evIt_5, ↓z_evIt_6, ↓z_evS_1, ↓z_evS_2, ↓z_evS_3, ↓z_evS_4, ↓z_evS_5, ↓z_evS_6, ↓z_evS_7, ↓z_evS_8, ↓z_evS_9, ↓z_evS_10, ↓z_evS_11, ↓z_evS_12, ↓z_evS_13, ↓z_evSs_1, ↓z_evSs_2, ↓evIt_rng, leave, start, slotRv, Rv.tree, Rv.isI, Rv.isB, Rv.isS, T.isI, T.isB, T.isS, Rv.w, Rv.lst, Rv.seq, lstAt, seqAt, Rv.data, binop, cmpop, eqRv, inRv, ltRv, isRv, truth, isTy, isiRv, lenRv, LL.bi, biLen, biAll, biAny, biInt, biStr, biTuple, biList, biSorted, meFind, meCount, meJoin, meS, meL, meAppend, meInsert, mePop0, putL, getL, meRv, meTy, ixRv, slRv, revRv, src1, src2, src3, src4, src5, bindTg, bindTs, wipe, treesOf, tupOf, lstOf, app, Sto.trunc, glo0, glo1, glo2, SZ, -List.map_map, ixOf, T.eqOk, T.data, T.datas, T.calm, T.calms, T.depth, T.depths, T.beq, T.beqs]
      rw [e1]
      simp [↓mb, ↓pu, ↓gd, ↓opt_some, ↓bad_app, ↓rv_val, ↓nox_app, ↓ite_a, ↓z_evE_1, ↓z_evE_2, ↓z_evE_3, ↓z_evE_4, ↓z_evE_5, ↓z_evE_6, ↓z_evE_7, ↓z_evE_8, ↓z_evE_9, ↓z_evE_10, ↓z_evE_11, ↓z_evE_12, ↓z_evE_13, ↓z_evE_14, ↓z_evE_15, ↓z_evE_16, ↓z_evE_17, ↓z_evE_18, ↓z_evE_19, ↓z_evE_20, ↓z_evE_21, ↓z_evE_22, ↓z_evE_23, ↓z_evE_24, ↓z_evRs_1, ↓z_evRs_2, ↓z_evO_1, ↓z_evO_2, ↓z_evT_1, ↓z_evT_2, ↓z_evT_3, ↓z_evT_4, ↓z_evC_1, ↓z_evC_2, ↓z_evIt_1, ↓z_evIt_3, ↓z_evIt_4, ↓z_evIt_5, ↓z_evIt_6, ↓z_evS_1, ↓z_evS_2, ↓z_evS_3, ↓z_evS_4, ↓z_evS_5, ↓z_evS_6, ↓z_evS_7, ↓z_evS_8, ↓z_evS_9, ↓z_evS_10, ↓z_evS_11, ↓z_evS_12, ↓z_evS_13, ↓z_evSs_1, ↓z_evSs_2, ↓evIt_rng, leave, start, slotRv, Rv.tree, Rv.isI, Rv.isB, Rv.isS, T.isI, T.isB, T.isS, Rv.w, Rv.lst, Rv.seq, lstAt, seqAt, Rv.data, binop, cmpop, eqRv, inRv, ltRv, isRv, truth, isTy, isiRv, lenRv, LL.bi, biLen, biAll, biAny, biInt, biStr, biTuple, biList, biSorted, meFind, meCount, meJoin, meS, meL, meAppend, meInsert, mePop0, putL, getL, meRv, meTy, ixRv, slRv, revRv, src1, src2, src3, src4, src5, bindTg, bindTs, wipe, treesOf, tupOf, lstOf, app, Sto.trunc, glo0, glo1, glo2, SZ, -List.map_map, ixOf, T.eqOk, T.data, T.datas, T.calm, T.calms, T.depth, T.depths, T.beq, T.beqs]
    · intro u hu acc hacc
      obtain ⟨w, hw, rfl⟩ := List.mem_map.1 hu
      rw [show strOf (T.str w) = w from rfl]
      simp only [↓mb, ↓pu, ↓gd, ↓opt_some, ↓bad_app, ↓rv_val, ↓nox_app, ↓ite_a, ↓z_evE_1, ↓z_evE_2, ↓z_evE_3, ↓z_evE_4, ↓z_evE_5, ↓z_evE_6, ↓z_evE_7, ↓z_evE_8, ↓z_evE_9, ↓z_evE_10, ↓z_evE_11, ↓z_evE_12, ↓z_evE_13, ↓z_evE_14, ↓z_evE_15, ↓z_evE_16, ↓z_evE_17, ↓z_evE_18, ↓z_evE_19, ↓z_evE_20, ↓z_evE_21, ↓z_evE_22, ↓z_evE_23, ↓z_evE_24, ↓z_evRs_1, ↓z_evRs_2, ↓z_evO_1, ↓z_evO_2, ↓z_evT_1, ↓z_evT_2, ↓z_evT_3, ↓z_evT_4, ↓z_evC_1, ↓z_evC_2, ↓z_evIt_1, ↓z_evIt_3, ↓z_evIt_4, ↓z_evIt_5, ↓z_evIt_6, ↓z_evS_1, ↓z_evS_2, ↓z_evS_3, ↓z_evS_4, ↓z_evS_5, ↓z_evS_6, ↓z_evS_7, ↓z_evS_8, ↓z_evS_9, ↓z_evS_10, ↓z_evS_11, ↓z_evS_12, ↓z_evS_13, ↓z_evSs_1, ↓z_evSs_2, ↓evIt_rng, leave, start, slotRv, Rv.tree, Rv.isI, Rv.isB, Rv.isS, T.isI, T.isB, T.isS, Rv.w, Rv.lst, Rv.seq, lstAt, seqAt, Rv.data, binop, cmpop, eqRv, inRv, ltRv, isRv, truth, isTy, isiRv, lenRv, LL.bi, biLen, biAll, biAny, biInt, biStr, biTuple, biList, biSorted, meFind, meCount, meJoin, meS, meL, meAppend, meInsert, mePop0, putL, getL, meRv, meTy, ixRv, slRv, revRv, src1, src2, src3, src4, src5, bindTg, bindTs, wipe, treesOf, tupOf, lstOf, app, Sto.trunc, glo0, glo1, glo2, SZ, -List.map_map, ixOf, T.eqOk, T.data, T.datas, T.calm, T.calms, T.depth, T.depths, T.beq, T.beqs, List.set_cons_zero, List.set_cons_succ, List.getElem?_cons_succ, List.getElem?_cons_zero, List.map_cons, List.map_nil]
      rw [lc_filt (fun t => !(strOf t == w) && sub (strOf t) w) (fun _ => T.int 1) s' rfl _ (by simp; omega)]
      · have hf3 : List.filter (fun t => !(strOf t == w) && sub (strOf t) w) (so.map T.str) = (so.filter fun l => !(l == w) && sub l w).map T.str := by
          rw [List.filter_map]; simp [Function.comp_def, strOf]
        have hob := ones_beq ((so.filter fun l => !(l == w) && sub l w).map T.str)
        have ho1 := ones_data ((so.filter fun l => !(l == w) && sub l w).map T.str)
        have ho2 := ones_depth ((so.filter fun l => !(l == w) && sub l w).map T.str)
        rw [hf3]
        have hie : ((so.filter fun l => !(l == w) && sub l w).map T.str).isEmpty = (so.filter fun l => !(l == w) && sub l w).isEmpty := by simp
        rw [hie] at hob
        cases hem : (so.filter fun l => !(l == w) && sub l w).isEmpty <;> rw [hem] at hob <;> simp [↓mb, ↓pu, ↓gd, ↓opt_some, ↓bad_app, ↓rv_val, ↓nox_app, ↓ite_a, ↓z_evE_1, ↓z_evE_2, ↓z_evE_3, ↓z_evE_4, ↓z_evE_5, ↓z_evE_6, ↓z_evE_7, ↓z_evE_8, ↓z_evE_9, ↓z_evE_10, ↓z_evE_11, ↓z_evE_12, ↓z_evE_13, ↓z_evE_14, ↓z_evE_15, ↓z_evE_16, ↓z_evE_17, ↓z_evE_18, ↓z_evE_19, ↓z_evE_20, ↓z_evE_21, ↓z_evE_22, ↓z_evE_23, ↓z_evE_24, ↓z_evRs_1, ↓z_evRs_2, ↓z_evO_1, ↓z_evO_2, ↓z_evT_1, ↓z_evT_2, ↓z_evT_3, ↓z_evT_4, ↓z_evC_1, ↓z_evC_2, ↓z_evIt_1, ↓z_evIt_3, ↓z_evIt_4, ↓z_evIt_5, ↓z_evIt_6, ↓z_evS_1, ↓z_evS_2, ↓z_evS_3, ↓z_evS_4, ↓z_evS_5, ↓z_evS_6, ↓z_evS_7, ↓z_evS_8, ↓z_evS_9, ↓z_evS_10, ↓z_evS_11, ↓z_evS_12, ↓z_evS_13, ↓z_evSs_1, ↓z_evSs_2, ↓evIt_rng, leave, start, slotRv, Rv.tree, Rv.isI, Rv.isB, Rv.isS, T.isI, T.isB, T.isS, Rv.w, Rv.lst, Rv.seq, lstAt, seqAt, Rv.data, binop, cmpop, eqRv, inRv, ltRv, isRv, truth, isTy, isiRv, lenRv, LL.bi, biLen, biAll, biAny, biInt, biStr, biTuple, biList, biSorted, meFind, meCount, meJoin, meS, meL, meAppend, meInsert, mePop0, putL, getL, meRv, meTy, ixRv, slRv, revRv, src1, src2, src3, src4, src5, bindTg, bindTs, wipe, treesOf, tupOf, lstOf, app, Sto.trunc, glo0, glo1, glo2, SZ, -List.map_map, ixOf, T.eqOk, T.data, T.datas, T.calm, T.calms, T.depth, T.depths, T.beq, T.beqs, ho1, ho2, hob.1, hob.2, hacc]
      · intro o ho acc hacc
        obtain ⟨l, hl, rfl⟩ := List.mem_map.1 ho
        have ip := law_part_t (k := k + 2) (S := s') (s := l) (t := w) (by have := hel l hl; omega) (by have := hel w hw; omega)
        by_cases hlw : l = w
        · simp [↓mb, ↓pu, ↓gd, ↓opt_some, ↓bad_app, ↓rv_val, ↓nox_app, ↓ite_a, ↓z_evE_1, ↓z_evE_2, ↓z_evE_3, ↓z_evE_4, ↓z_evE_5, ↓z_evE_6, ↓z_evE_7, ↓z_evE_8, ↓z_evE_9, ↓z_evE_10, ↓z_evE_11, ↓z_evE_12, ↓z_evE_13, ↓z_evE_14, ↓z_evE_15, ↓z_evE_16, ↓z_evE_17, ↓z_evE_18, ↓z_evE_19, ↓z_evE_20, ↓z_evE_21, ↓z_evE_22, ↓z_evE_23, ↓z_evE_24, ↓z_evRs_1, ↓z_evRs_2, ↓z_evO_1, ↓z_evO_2, ↓z_evT_1, ↓z_evT_2, ↓z_evT_3, ↓z_evT_4, ↓z_evC_1, ↓z_evC_2, ↓z_evIt_1, ↓z_evIt_3, ↓z_evIt_4, ↓z_evIt_5, ↓z_evIt_6, ↓z_evS_1, ↓z_evS_2, ↓z_evS_3, ↓z_evS_4, ↓z_evS_5, ↓z_evS_6, ↓z_evS_7, ↓z_evS_8, ↓z_evS_9, ↓z_evS_10, ↓z_evS_11, ↓z_evS_12, ↓z_evS_13, ↓z_evSs_1, ↓z_evSs_2, ↓evIt_rng, leave, start, slotRv, Rv.tree, Rv.isI, Rv.isB, Rv.isS, T.isI, T.isB, T.isS, Rv.w, Rv.lst, Rv.seq, lstAt, seqAt, Rv.data, binop, cmpop, eqRv, inRv, ltRv, isRv, truth, isTy, isiRv, lenRv, LL.bi, biLen, biAll, biAny, biInt, biStr, biTuple, biList, biSorted, meFind, meCount, meJoin, meS, meL, meAppend, meInsert, mePop0, putL, getL, meRv, meTy, ixRv, slRv, revRv, src1, src2, src3, src4, src5, bindTg, bindTs, wipe, treesOf, tupOf, lstOf, app, Sto.trunc, glo0, glo1, glo2, SZ, -List.map_map, ixOf, T.eqOk, T.data, T.datas, T.calm, T.calms, T.depth, T.depths, T.beq, T.beqs, hlw, hacc, strOf]
        · cases hsb : sub l w <;> simp [↓mb, ↓pu, ↓gd, ↓opt_some, ↓bad_app, ↓rv_val, ↓nox_app, ↓ite_a, ↓z_evE_1, ↓z_evE_2, ↓z_evE_3, ↓z_evE_4, ↓z_evE_5, ↓z_evE_6, ↓z_evE_7, ↓z_evE_8, ↓z_evE_9, ↓z_evE_10, ↓z_evE_11, ↓z_evE_12, ↓z_evE_13, ↓z_evE_14, ↓z_evE_15, ↓z_evE_16, ↓z_evE_17, ↓z_evE_18, ↓z_evE_19, ↓z_evE_20, ↓z_evE_21, ↓z_evE_22, ↓z_evE_23, ↓z_evE_24, ↓z_evRs_1, ↓z_evRs_2, ↓z_evO_1, ↓z_evO_2, ↓z_evT_1, ↓z_evT_2, ↓z_evT_3, ↓z_evT_4, ↓z_evC_1, ↓z_evC_2, ↓z_evIt_1, ↓z_evIt_3, ↓z_evIt_4, ↓z_evIt_5, ↓z_evIt_6, ↓z_evS_1, ↓z_evS_2, ↓z_evS_3, ↓z_evS_4, ↓z_evS_5, ↓z_evS_6, ↓z_evS_7, ↓z_evS_8, ↓z_evS_9, ↓z_evS_10, ↓z_evS_11, ↓z_evS_12, ↓z_evS_13, ↓z_evSs_1, ↓z_evSs_2, ↓evIt_rng, leave, start, slotRv, Rv.tree, Rv.isI, Rv.isB, Rv.isS, T.isI, T.isB, T.isS, Rv.w, Rv.lst, Rv.seq, lstAt, seqAt, Rv.data, binop, cmpop, eqRv, inRv, ltRv, isRv, truth, isTy, isiRv, lenRv, LL.bi, biLen, biAll, biAny, biInt, biStr, biTuple, biList, biSorted, meFind, meCount, meJoin, meS, meL, meAppend, meInsert, mePop0, putL, getL, meRv, meTy, ixRv, slRv, revRv, src1, src2, src3, src4, src5, bindTg, bindTs, wipe, treesOf, tupOf, lstOf, app, Sto.trunc, glo0, glo1, glo2, SZ, -List.map_map, ixOf, T.eqOk, T.data, T.datas, T.calm, T.calms, T.depth, T.depths, T.beq, T.beqs, hlw, hacc, ip, strOf, hsb]
  · intro u hu acc hacc
    obtain ⟨w, hw, rfl⟩ := List.mem_map.1 hu
    have hw8 := (hsf.2 w hw).1
    have ip1 := law_part_t (k := k + 2) (S := s') (s := z.2.1) (t := w) (by omega) (by omega)
    have ip2 := law_part_t (k := k + 2) (S := s') (s := z.2.2) (t := w) (by omega) (by omega)
    cases h1 : sub z.2.1 w <;> cases h2 : sub z.2.2 w <;> simp [↓mb, ↓pu, ↓gd, ↓opt_some, ↓bad_app, ↓rv_val, ↓nox_app, ↓ite_a, ↓z_evE_1, ↓z_evE_2, ↓z_evE_3, ↓z_evE_4, ↓z_evE_5, ↓z_evE_6, ↓z_evE_7, ↓z_evE_8, ↓z_evE_9, ↓z_evE_10, ↓z_evE_11, ↓z_evE_12, ↓z_evE_13, ↓z_evE_14, ↓z_evE_15, ↓z_evE_16, ↓z_evE_17, ↓z_evE_18, ↓z_evE_19, ↓z_evE_20, ↓z_evE_21, ↓z_evE_22, ↓z_evE_23, ↓z_evE_24, ↓z_evRs_1, ↓z_evRs_2, ↓z_evO_1, ↓z_evO_2, ↓z_evT_1, ↓z_evT_2, ↓z_evT_3, ↓z_evT_4, ↓z_evC_1, ↓z_evC_2, ↓z_evIt_1, ↓z_evIt_3, ↓z_evIt_4, ↓z_evIt_5, ↓z_evIt_6, ↓z_evS_1, ↓z_evS_2, ↓z_evS_3, ↓z_evS_4, ↓z_evS_5, ↓z_evS_6, ↓z_evS_7, ↓z_evS_8, ↓z_evS_9, ↓z_evS_10, ↓z_evS_11, ↓z_evS_12, ↓z_evS_13, ↓z_evSs_1, ↓z_evSs_2, ↓evIt_rng, leave, start, slotRv, Rv.tree, Rv.isI, Rv.isB, Rv.isS, T.isI, T.isB, T.isS, Rv.w, Rv.lst, Rv.seq, lstAt, seqAt, Rv.data, binop, cmpop, eqRv, inRv, ltRv, isRv, truth, isTy, isiRv, lenRv, LL.bi, biLen, biAll, biAny, biInt, biStr, biTuple, biList, biSorted, meFind, meCount, meJoin, meS, meL, meAppend, meInsert, mePop0, putL, getL, meRv, meTy, ixRv, slRv, revRv, src1, src2, src3, src4, src5, bindTg, bindTs, wipe, treesOf, tupOf, lstOf, app, Sto.trunc, glo0, glo1, glo2, SZ, -List.map_map, ixOf, T.eqOk, T.data, T.datas, T.calm, T.calms, T.depth, T.depths, T.beq, T.beqs, hacc, ip1, ip2, strOf, h1, h2]
end LLQ

set_option Elab.async false
set_option linter.all false
set_option autoImplicit false
set_option maxRecDepth 100000
set_option maxHeartbeats 1000000
namespace LLQ
open LL LLS LLP
def sameB (A B : List Cs) : Bool := A.all (fun x => B.contains x) && B.all (fun x => A.contains x)
def antiB (A : List Cs) : Bool := A.all fun p => A.all fun q => !(sub p q) || p == q
def okTen (m s t : Cs) : Bool :=
  let a := fitF m s
  let b := fitF m t
  sameB (textsF m a b) (someF m a b) && antiB (textsF m a b) && sameB (textsF m b a) (textsF m a b) && (textsF m a a == [a])
theorem ten_row : (ten.all fun s => ten.all fun t => okTen row s t) = true := by decide +kernel
theorem ten_echo : (ten.all fun s => ten.all fun t => okTen echo s t) = true := by decide +kernel
theorem ten_heap : (ten.all fun s => ten.all fun t => okTen heap s t) = true := by decide +kernel
end LLQ

set_option Elab.async false
set_option linter.all false
set_option autoImplicit false
set_option maxRecDepth 100000
set_option maxHeartbeats 1000000
namespace LLQ
open LL LLS LLP
theorem fam_calms {P : T → Prop} (F : Fam P) : ∀ xs ys : List T, (∀ x ∈ xs, P x) → (∀ y ∈ ys, P y) → T.calms xs ys = true
  | [], ys, _, _ => by simp [T.calms]
  | x :: xs, [], _, _ => by simp [T.calms]
  | x :: xs, y :: ys, h1, h2 => by
    have ih := fam_calms F xs ys (fun z hz => h1 z (List.mem_cons_of_mem _ hz)) (fun z hz => h2 z (List.mem_cons_of_mem _ hz))
    simp [T.calms, F.calm x y (h1 x (by simp)) (h2 y (by simp)), ih]
theorem modes_0 {k : Nat} {S : Sto} {i j m : Int} : run prog (k + 1) 47 [.t (.tup [.int i, .int j]), .t (.int 0), .t (.int m)] S = .ok (.v (.tup [.int m, .int j])) S := by
  rw [run_fn (rfl : prog.fn 47 = some F__law_modes)]
  simp [F__law_modes, ↓mb, ↓pu, ↓gd, ↓opt_some, ↓bad_app, ↓rv_val, ↓nox_app, ↓ite_a, ↓z_evE_1, ↓z_evE_2, ↓z_evE_3, ↓z_evE_4, ↓z_evE_5, ↓z_evE_6, ↓z_evE_7, ↓z_evE_8, ↓z_evE_9, ↓z_evE_10, ↓z_evE_11, ↓z_evE_12, ↓z_evE_13, ↓z_evE_14, ↓z_evE_15, ↓z_evE_16, ↓z_evE_17, ↓z_evE_18, ↓z_evE_19, ↓z_evE_20, ↓z_evE_21, ↓z_evE_22, ↓z_evE_23, ↓z_evE_24, ↓z_evRs_1, ↓z_evRs_2, ↓z_evO_1, ↓z_evO_2, ↓z_evT_1, ↓z_evT_2, ↓z_evT_3, ↓z_evT_4, ↓z_evC_1, ↓z_evC_2, ↓z_evIt_1, ↓z_evIt_3, ↓z_evIt_4, ↓z_evIt_5, ↓z_evIt_6, ↓z_evS_1, ↓z_evS_2, ↓z_evS_3, ↓z_evS_4, ↓z_evS_5, ↓z_evS_6, ↓z_evS_7, ↓z_evS_8, ↓z_evS_9, ↓z_evS_10, ↓z_evS_11, ↓z_evS_12, ↓z_evS_13, ↓z_evSs_1, ↓z_evSs_2, ↓evIt_rng, leave, start, slotRv, Rv.tree, Rv.isI, Rv.isB, Rv.isS, T.isI, T.isB, T.isS, Rv.w, Rv.lst, Rv.seq, lstAt, seqAt, Rv.data, binop, cmpop, eqRv, inRv, ltRv, isRv, truth, isTy, isiRv, lenRv, LL.bi, biLen, biAll, biAny, biInt, biStr, biTuple, biList, biSorted, meFind, meCount, meJoin, meS, meL, meAppend, meInsert, mePop0, putL, getL, meRv, meTy, ixRv, slRv, revRv, src1, src2, src3, src4, src5, bindTg, bindTs, wipe, treesOf, tupOf, lstOf, app, Sto.trunc, glo0, glo1, glo2, SZ, -List.map_map, ixOf, T.eqOk, T.data, T.datas, T.calm, T.calms, T.depth, T.depths, T.beq, T.beqs]
theorem prod_congr {g g' : Cs → Cs → Cs → List Cs} : ∀ (zs zs' : List Tri) (rows rows' : List (List Cs)), zs.length = zs'.length → (∀ p ∈ List.zip zs zs', ∀ w, w ∈ g p.1.1 p.1.2.1 p.1.2.2 ↔ w ∈ g' p.2.1 p.2.2.1 p.2.2.2) → (∀ r, r ∈ rows ↔ r ∈ rows') →
    ∀ r, r ∈ zs.foldl (stepP g) rows ↔ r ∈ zs'.foldl (stepP g') rows'
  | [], [], rows, rows', _, _, h, r => h r
  | z :: zs, z' :: zs', rows, rows', hl, hg, h, r => by
    refine prod_congr zs zs' (stepP g rows z) (stepP g' rows' z') (by simpa using hl) (fun p hp => hg p (by simp [hp])) (fun q => ?_) r
    have hz := hg (z, z') (by simp)
    unfold stepP
    simp only [List.mem_flatMap, List.mem_map]
    constructor
    · rintro ⟨y, hy, w, hw, rfl⟩
      exact ⟨y, (h y).1 hy, w, (hz w).1 hw, rfl⟩
    · rintro ⟨y, hy, w, hw, rfl⟩
      exact ⟨y, (h y).2 hy, w, (hz w).2 hw, rfl⟩
theorem subs_snoc : ∀ (r s : List Cs) (w v : Cs), r.length = s.length → subs (r ++ [w]) (s ++ [v]) = (subs r s && sub w v)
  | [], [], w, v, _ => by simp [subs]
  | a :: r, b :: s, w, v, h => by simp [subs, subs_snoc r s w v (by simpa using h), Bool.and_assoc]
theorem prod_anti {g : Cs → Cs → Cs → List Cs} : ∀ (zs : List Tri) (rows : List (List Cs)), (∀ z ∈ zs, ∀ p ∈ g z.1 z.2.1 z.2.2, ∀ q ∈ g z.1 z.2.1 z.2.2, sub p q = true → p = q) → (∀ r ∈ rows, ∀ s ∈ rows, r.length = s.length ∧ (subs r s = true → r = s)) →
    ∀ r ∈ zs.foldl (stepP g) rows, ∀ s ∈ zs.foldl (stepP g) rows, r.length = s.length ∧ (subs r s = true → r = s)
  | [], rows, _, h => h
  | z :: zs, rows, hg, h => by
    refine prod_anti zs (stepP g rows z) (fun y hy => hg y (by simp [hy])) ?_
    intro r hr s hs
    unfold stepP at hr hs
    obtain ⟨y, hy, hr⟩ := List.mem_flatMap.1 hr
    obtain ⟨w, hw, rfl⟩ := List.mem_map.1 hr
    obtain ⟨x, hx, hs⟩ := List.mem_flatMap.1 hs
    obtain ⟨v, hv, rfl⟩ := List.mem_map.1 hs
    have hl := h y hy x hx
    refine ⟨by simp [hl.1], fun hb => ?_⟩
    rw [subs_snoc _ _ _ _ hl.1, Bool.and_eq_true] at hb
    rw [hl.2 hb.1, hg z (by simp) w hw v hv hb.2]
theorem leastF_anti {P : T → Prop} (hP : ∀ a b, P a → P b → T.alike a b = true) {rows : List T} (h : ∀ x ∈ rows, P x) (ha : ∀ o ∈ rows, ∀ r ∈ rows, belT o r = true → o = r) : leastF belT rows = ascF rows := by
  unfold leastF
  refine List.filter_eq_self.2 fun r hr => ?_
  simp only [Bool.not_eq_true', List.any_eq_false]
  intro o ho hb
  simp only [Bool.and_eq_true, Bool.not_eq_true'] at hb
  have h1 := (ascF_mem hP h r).1 hr
  have h2 := (ascF_mem hP h o).1 ho
  have := ha o h2 r h1 hb.2
  rw [this, (beq_iff r r).2 rfl] at hb
  simp at hb
theorem ascF_congr {P : T → Prop} (hP : ∀ a b, P a → P b → T.alike a b = true) {xs ys : List T} (h1 : ∀ x ∈ xs, P x) (h2 : ∀ x ∈ ys, P x) (h : ∀ z, z ∈ xs ↔ z ∈ ys) : ascF xs = ascF ys :=
  srt_uniq (ascF_srt hP h1) (ascF_srt hP h2) fun z => by rw [ascF_mem hP h1, ascF_mem hP h2, h]
theorem belT_row (i j : Int) (r s : List Cs) : belT (rowOf i j r) (rowOf i j s) = subs r s := by
  have := belT_t ⟨i, j, r⟩ ⟨i, j, s⟩
  simp only [Pl.t] at this
  simp only [rowOf, rowT, this, bel]
  simp
theorem zip_self {α : Type} : ∀ (zs : List α) (p : α × α), p ∈ List.zip zs zs → p.1 = p.2 ∧ p.1 ∈ zs
  | [], p, h => by simp at h
  | z :: zs, p, h => by
    simp only [List.zip_cons_cons, List.mem_cons] at h
    rcases h with rfl | h
    · simp
    · have := zip_self zs p h; exact ⟨this.1, by simp [this.2]⟩
theorem zip_swap : ∀ (as bs cs : List Cs) (p : Tri × Tri), p ∈ List.zip (zipT as bs cs) (zipT as cs bs) → p.1 ∈ zipT as bs cs ∧ p.2 = (p.1.1, p.1.2.2, p.1.2.1)
  | [], _, _, p, h => by simp [zipT] at h
  | _ :: _, [], _, p, h => by simp [zipT] at h
  | _ :: _, _ :: _, [], p, h => by simp [zipT] at h
  | a :: as, b :: bs, c :: cs, p, h => by
    simp only [zipT, List.zip_cons_cons, List.mem_cons] at h
    rcases h with rfl | h
    · simp [zipT]
    · have := zip_swap as bs cs p h; exact ⟨by simp [zipT, this.1], this.2⟩
/-- what is asked of a line -/
structure LineOk (m a b : Cs) : Prop where
  some_ : ∀ w, w ∈ textsF m a b ↔ w ∈ someF m a b
  anti : ∀ p ∈ textsF m a b, ∀ q ∈ textsF m a b, sub p q = true → p = q
  swap : ∀ w, w ∈ textsF m b a ↔ w ∈ textsF m a b
  self : textsF m a a = [a]
theorem same_mem {A B : List Cs} (h : sameB A B = true) (w : Cs) : w ∈ A ↔ w ∈ B := by
  simp only [sameB, Bool.and_eq_true, List.all_eq_true, List.contains_iff_mem] at h
  exact ⟨h.1 w, h.2 w⟩
theorem line_ok {m a b : Cs} (hm : Man m) (ha : Ten m a) (hb : Ten m b) : LineOk m a b := by
  obtain ⟨s, hs, rfl⟩ := ha
  obtain ⟨t, ht, rfl⟩ := hb
  have h : okTen m s t = true := by
    rcases hm with rfl | rfl | rfl
    · have := ten_row; rw [List.all_eq_true] at this; have := this s hs; rw [List.all_eq_true] at this; exact this t ht
    · have := ten_echo; rw [List.all_eq_true] at this; have := this s hs; rw [List.all_eq_true] at this; exact this t ht
    · have := ten_heap; rw [List.all_eq_true] at this; have := this s hs; rw [List.all_eq_true] at this; exact this t ht
  simp only [okTen, Bool.and_eq_true, beq_iff_eq] at h
  obtain ⟨⟨⟨h1, h2⟩, h3⟩, h4⟩ := h
  refine ⟨same_mem h1, ?_, same_mem h3, h4⟩
  intro p hp q hq hs
  simp only [antiB, List.all_eq_true] at h2
  have := h2 p hp q hq
  simp [hs] at this
  exact this
section
variable {a : Tk} {x y : Pl} (ha : TkOk a) (hx : PlOk a x) (hy : PlOk a y) (tx : ∀ z ∈ List.zip a.ms x.ts, Ten z.1 z.2) (ty : ∀ z ∈ List.zip a.ms y.ts, Ten z.1 z.2)
include ha hx hy tx ty
theorem lines : ∀ z ∈ zipT a.ms x.ts y.ts, LineOk z.1 z.2.1 z.2.2 := by
  intro z hz
  obtain ⟨m1, m2, m3, m4, m5⟩ := zipT_mem _ _ _ z hz
  exact line_ok (ha.ms.2 _ m1) (tx _ m4) (ty _ m5)
theorem sh4 : Sh4 x := by
  intro t ht
  obtain ⟨n, hn, e⟩ := List.getElem_of_mem ht
  have hl := hx.len
  have hz : (a.ms[n]'(by omega), t) ∈ List.zip a.ms x.ts := by
    rw [← e]
    exact List.mem_iff_getElem.2 ⟨n, by simp; omega, by simp⟩
  have := ((tx _ hz).ok (ha.ms.2 _ (List.of_mem_zip hz).1)).len
  simp at this
  omega
/-- the least ones above both, by all small ones -/
def allOver (a : Tk) (x y : Pl) : List T := ascF ((prodF someF (zipT a.ms x.ts y.ts)).map (rowOf x.i x.j))
def comOf (a : Tk) (x y : Pl) : List T := leastF belT ((prodF textsF (zipT a.ms x.ts y.ts)).map (rowOf x.i x.j))
theorem some_pl : ∀ r ∈ (prodF someF (zipT a.ms x.ts y.ts)).map (rowOf x.i x.j), PlP a r := by
  intro t ht
  obtain ⟨r, hr, rfl⟩ := List.mem_map.1 ht
  refine prod_pl (g := someF) hx hy (fun z hz w hw => ?_) r hr
  obtain ⟨m1, m2, m3, m4, m5⟩ := zipT_mem _ _ _ z hz
  rw [← (lines ha hx hy tx ty z hz).some_ w] at hw
  have h4 := sh4 ha hx hy tx ty
  have h4' := sh4 (x := y) (y := x) ha hy hx ty tx
  exact textsF_ok (ha.ms.2 _ m1) (zip_TxOk hx h4 m4) (zip_TxOk hy h4' m5) w hw
theorem text_pl : ∀ r ∈ (prodF textsF (zipT a.ms x.ts y.ts)).map (rowOf x.i x.j), PlP a r := by
  intro t ht
  obtain ⟨r, hr, rfl⟩ := List.mem_map.1 ht
  refine prod_pl (g := textsF) hx hy (fun z hz w hw => ?_) r hr
  obtain ⟨m1, m2, m3, m4, m5⟩ := zipT_mem _ _ _ z hz
  have h4 := sh4 ha hx hy tx ty
  have h4' := sh4 (x := y) (y := x) ha hy hx ty tx
  exact textsF_ok (ha.ms.2 _ m1) (zip_TxOk hx h4 m4) (zip_TxOk hy h4' m5) w hw
theorem com_asc : comOf a x y = ascF ((prodF textsF (zipT a.ms x.ts y.ts)).map (rowOf x.i x.j)) := by
  refine leastF_anti (pl_fam a).alike (text_pl ha hx hy tx ty) ?_
  intro o ho r hr hb
  obtain ⟨o, ho', rfl⟩ := List.mem_map.1 ho
  obtain ⟨r, hr', rfl⟩ := List.mem_map.1 hr
  rw [belT_row] at hb
  have := prod_anti (g := textsF) (zipT a.ms x.ts y.ts) [[]] (fun z hz => (lines ha hx hy tx ty z hz).anti) (by simp) o ho' r hr'
  rw [this.2 hb]
theorem com_all : comOf a x y = allOver a x y := by
  rw [com_asc ha hx hy tx ty]
  refine ascF_congr (pl_fam a).alike (text_pl ha hx hy tx ty) (some_pl ha hx hy tx ty) fun z => ?_
  simp only [List.mem_map]
  have h := prod_congr (g := textsF) (g' := someF) (zipT a.ms x.ts y.ts) (zipT a.ms x.ts y.ts) [[]] [[]] rfl (fun p hp w => by
    obtain ⟨e, hm⟩ := zip_self _ p hp
    rw [← e]; exact (lines ha hx hy tx ty _ hm).some_ w) (fun r => Iff.rfl)
  constructor
  · rintro ⟨r, hr, rfl⟩; exact ⟨r, (h r).1 hr, rfl⟩
  · rintro ⟨r, hr, rfl⟩; exact ⟨r, (h r).2 hr, rfl⟩
theorem com_swap (hij : x.i = y.i ∧ x.j = y.j) : comOf a y x = comOf a x y := by
  rw [com_asc ha hx hy tx ty, com_asc ha hy hx ty tx, ← hij.1, ← hij.2]
  have hp := text_pl ha hy hx ty tx
  rw [← hij.1, ← hij.2] at hp
  refine ascF_congr (pl_fam a).alike hp (text_pl ha hx hy tx ty) fun z => ?_
  simp only [List.mem_map]
  have h := prod_congr (g := textsF) (g' := textsF) (zipT a.ms x.ts y.ts) (zipT a.ms y.ts x.ts) [[]] [[]] (by rw [zipT_len _ _ _ hx.len hy.len, zipT_len _ _ _ hy.len hx.len]) (fun p hp w => by
    obtain ⟨hm, e⟩ := zip_swap _ _ _ p hp
    rw [e]; exact ((lines ha hx hy tx ty _ hm).swap w).symm) (fun r => Iff.rfl)
  constructor
  · rintro ⟨r, hr, rfl⟩; exact ⟨r, (h r).2 hr, rfl⟩
  · rintro ⟨r, hr, rfl⟩; exact ⟨r, (h r).1 hr, rfl⟩
end
theorem prod_self : ∀ (as bs : List Cs) (row : List Cs), bs.length = as.length → (∀ z ∈ List.zip as bs, textsF z.1 z.2 z.2 = [z.2]) → (zipT as bs bs).foldl (stepP textsF) [row] = [row ++ bs]
  | [], [], row, _, _ => by simp [zipT]
  | a :: as, b :: bs, row, hl, h => by
    have h1 := h (a, b) (by simp)
    simp only at h1
    have ih := prod_self as bs (row ++ [b]) (by simpa using hl) (fun z hz => h z (by simp [hz]))
    simp only [zipT, List.foldl_cons]
    have : stepP textsF [row] (a, b, b) = [row ++ [b]] := by simp [stepP, h1]
    rw [this, ih]
    simp
theorem com_self {a : Tk} {x : Pl} (ha : TkOk a) (hx : PlOk a x) (tx : ∀ z ∈ List.zip a.ms x.ts, Ten z.1 z.2) : comOf a x x = [x.t] := by
  have h : prodF textsF (zipT a.ms x.ts x.ts) = [x.ts] := by
    have := prod_self a.ms x.ts [] hx.len (fun z hz => (line_ok (ha.ms.2 _ (List.of_mem_zip hz).1) (tx z hz) (tx z hz)).self)
    unfold prodF; simpa using this
  unfold comOf
  rw [h]
  simp [leastF, ascF, stp, inSeq, insAt, cnt, rowOf, rowT, Pl.t, (beq_iff _ _).2]
end LLQ

set_option Elab.async false
set_option linter.all false
set_option autoImplicit false
set_option maxRecDepth 100000
set_option maxHeartbeats 1000000
namespace LLQ
open LL LLS LLP
theorem all_over_t {k : Nat} {S : Sto} {a : Tk} {x y : Pl} (ha : TkOk a) (hx : PlOk a x) (hy : PlOk a y) (tx : ∀ z ∈ List.zip a.ms x.ts, Ten z.1 z.2) (ty : ∀ z ∈ List.zip a.ms y.ts, Ten z.1 z.2) :
    run prog (k + 4) 71 [.t a.t, .t x.t, .t y.t] S = .ok (.new (allOver a x y)) S := by
  have zl := zipT_len a.ms x.ts y.ts hx.len hy.len
  have zl2 : (zipT a.ms x.ts y.ts).length ≤ 2 := by have := ha.ms.1; omega
  have h4 := sh4 ha hx hy tx ty
  have h4' := sh4 (x := y) (y := x) ha hy hx ty tx
  have hsl : ∀ z ∈ zipT a.ms x.ts y.ts, (someF z.1 z.2.1 z.2.2).length ≤ 512 := by
    intro z hz
    obtain ⟨m1, m2, m3, m4, m5⟩ := zipT_mem _ _ _ z hz
    exact someF_len _ _ _ (by have := h4 _ m2; have := h4' _ m3; omega)
  have hbnd : ∀ (d r : List Tri), zipT a.ms x.ts y.ts = d ++ r → (prodF someF d).length ≤ 512 ^ d.length ∧ ∀ q ∈ prodF someF d, q.length = d.length := by
    intro d r e
    have : ∀ (zs : List Tri) (rows : List (List Cs)) (m : Nat), (∀ z ∈ zs, (someF z.1 z.2.1 z.2.2).length ≤ 512) → (∀ r ∈ rows, r.length = m) → (zs.foldl (stepP someF) rows).length ≤ rows.length * 512 ^ zs.length ∧ ∀ r ∈ zs.foldl (stepP someF) rows, r.length = m + zs.length := by
      intro zs
      induction zs with
      | nil => intro rows m _ h; simpa using h
      | cons z zs ih =>
        intro rows m hz h
        have h1 : ∀ x ∈ stepP someF rows z, x.length = m + 1 := by
          intro x hx
          unfold stepP at hx
          obtain ⟨y, hy, hx⟩ := List.mem_flatMap.1 hx
          obtain ⟨w, hw, rfl⟩ := List.mem_map.1 hx
          simp [h y hy]
        have ih := ih (stepP someF rows z) (m + 1) (fun y hy => hz y (by simp [hy])) h1
        have h2 : (stepP someF rows z).length ≤ rows.length * 512 := flatMap_len _ 512 (fun x => by simpa using hz z (by simp)) rows
        refine ⟨Nat.le_trans ih.1 ?_, fun x hx => by rw [ih.2 x hx]; simp; omega⟩
        rw [List.length_cons, Nat.pow_succ, Nat.mul_comm (512 ^ zs.length) 512, ← Nat.mul_assoc]
        exact Nat.mul_le_mul_right _ h2
    have q := this d [[]] 0 (fun z hz => hsl z (by rw [e]; simp [hz])) (by simp)
    unfold prodF
    refine ⟨by simpa using q.1, fun r hr => by simpa using q.2 r hr⟩
  obtain ⟨σ', s', e1, hs, v4, v5, v6, v7, v8, v9, hσ⟩ := for_inv (ws := []) (step := fun z σ => (do
        let σ' ← bindTg (.tp [4, 5, 6]) z σ
        evSs ⟨run prog (k + 3), prog.glo⟩ (.cons (.asg (.n 7) (.call 69 (.cons (.var 4) (.cons (.bin .add (.bi .len (.cons (.var 5) .nil)) (.bi .len (.cons (.var 6) .nil))) .nil)))) (.cons (.asg (.n 7) (.lc [10] (.var 10) (.n 10) (.e (.var 7)) (.yes (.and (.val (.call 60 (.cons (.var 5) (.cons (.var 10) .nil)))) (.val (.call 60 (.cons (.var 6) (.cons (.var 10) .nil)))))))) (.cons (.asg (.n 7) (.lc [10] (.var 10) (.n 10) (.e (.var 7)) (.yes (.val (.cmp .eq (.lc [11] (.c (.int 1)) (.n 11) (.e (.var 7)) (.yes (.and (.val (.cmp .ne (.var 11) (.var 10))) (.val (.call 60 (.cons (.var 11) (.cons (.var 10) .nil))))))) (.lst .nil)))))) (.cons (.asg (.n 8) (.lst .nil)) (.cons (.loop (.n 9) (.e (.var 3)) (.cons (.asg (.n 8) (.bin .add (.var 8) (.lc [10] (.bin .add (.var 9) (.tup (.cons (.var 10) .nil))) (.n 10) (.e (.var 7)) .no))) .nil)) (.cons (.asg (.n 3) (.var 8)) .nil)))))) σ' : M (Fl × Env)))
      (fun d σ s => s = S ∧ ∃ v4 v5 v6 v7 v8 v9, σ = [some (.t a.t), some (.t x.t), some (.t y.t), some (.t (.lst ((prodF someF (d.map triOf)).map rowT))), v4, v5, v6, v7, v8, v9, none, none]) ((zipT a.ms x.ts y.ts).map Tri.t) []
      (fun d σ s h => by simp [watchOk])
      (by
        intro d z r σ s he ⟨hs, v4, v5, v6, v7, v8, v9, hσ⟩
        subst hs hσ
        rw [List.nil_append] at he
        obtain ⟨ds, rs, z, rfl, rfl, he2⟩ := pre_tri he
        have hz : z ∈ zipT a.ms x.ts y.ts := by rw [he2]; simp
        obtain ⟨m1, m2, m3, m4, m5⟩ := zipT_mem _ _ _ z hz
        have hb := hbnd ds (z :: rs) he2
        have hdl : ds.length ≤ 1 := by have := congrArg List.length he2; simp at this; omega
        have hp : 512 ^ ds.length ≤ 512 := Nat.le_trans (Nat.pow_le_pow_right (by omega) hdl) (by decide)
        obtain ⟨w7, w9, e⟩ := all_body (k := k) (S := s) (z := z) (rows := prodF someF ds) (v0 := some (.t a.t)) (v1 := some (.t x.t)) (v2 := some (.t y.t)) (v4 := v4) (v5 := v5) (v6 := v6) (v7 := v7) (v8 := v8) (v9 := v9) (ha.ms.2 _ m1) (h4 _ m2) (h4' _ m3) (by omega) (fun q hq => by have := hb.2 q hq; omega)
        have hpf : prodF someF (ds ++ [z]) = stepP someF (prodF someF ds) z := by unfold prodF; rw [List.foldl_append]; rfl
        have hpm : prodF someF ((ds.map Tri.t ++ [Tri.t z]).map triOf) = stepP someF (prodF someF ds) z := by
          rw [List.map_append, triOf_map, List.map_cons, List.map_nil, triOf_t, hpf]
        refine ⟨[some (.t a.t), some (.t x.t), some (.t y.t), some (.t (.lst ((prodF someF ((ds.map Tri.t ++ [Tri.t z]).map triOf)).map rowT))), some (.t (.str z.1)), some (.t (.str z.2.1)), some (.t (.str z.2.2)), w7, some (.t (.lst ((stepP someF (prodF someF ds) z).map rowT))), w9, none, none], s, ?_, rfl, some (.t (.str z.1)), some (.t (.str z.2.1)), some (.t (.str z.2.2)), w7, some (.t (.lst ((stepP someF (prodF someF ds) z).map rowT))), w9, rfl⟩
        rw [hpm, triOf_map]
        simp only [bindTg, bindTs, Tri.t, ↓mb, ↓opt_some, List.set_cons_zero, List.set_cons_succ, e])
      [some (.t a.t), some (.t x.t), some (.t y.t), some (.t (.lst [.tup []])), none, none, none, none, none, none, none, none] S ⟨rfl, none, none, none, none, none, none, rfl⟩
  subst hs hσ
  have hb := hbnd (zipT a.ms x.ts y.ts) [] (by simp)
  have hp : 512 ^ (zipT a.ms x.ts y.ts).length ≤ 262144 := Nat.le_trans (Nat.pow_le_pow_right (by omega) zl2) (by decide)
  have hl := law_ascending_x (k := k + 2) (S := s') (rows := (prodF someF (zipT a.ms x.ts y.ts)).map (rowOf x.i x.j)) (src2 _) (pl_fam a) (some_pl ha hx hy tx ty) (by simp; omega)
  rw [List.nil_append, triOf_map] at e1
  rw [← zipT_items] at e1
  unfold allOver
  generalize prodF someF (zipT a.ms x.ts y.ts) = rows at *
  rw [run_fn (rfl : prog.fn 71 = some F__law_all_over)]
  simp [F__law_all_over, Pl.t, Tk.t, ↓mb, ↓pu, ↓gd, ↓opt_some, ↓bad_app, ↓rv_val, ↓nox_app, ↓ite_a, ↓z_evE_1, ↓z_evE_2, ↓z_evE_3, ↓z_evE_4, ↓z_evE_5, ↓z_evE_6, ↓z_evE_7, ↓z_evE_8, ↓z_evE_9, ↓z_evE_10, ↓z_evE_11, ↓z_evE_12, ↓z_evE_13, ↓z_evE_14, ↓z_evE_15, ↓z_evE_16, ↓z_evE_17, ↓z_evE_18, ↓z_evE_19, ↓z_evE_20, ↓z_evE_21, ↓z_evE_22, ↓z_evE_23, ↓z_evE_24, ↓z_evRs_1, ↓z_evRs_2, ↓z_evO_1, ↓z_evO_2, ↓z_evT_1, ↓z_evT_2, ↓z_evT_3, ↓z_evT_4, ↓z_evC_1, ↓z_evC_2, ↓z_evIt_1, ↓z_evIt_3, ↓z_evIt_4, ↓z_evIt_5, ↓z_evIt_6, ↓z_evS_1, ↓z_evS_2, ↓z_evS_3, ↓z_evS_4, ↓z_evS_5, ↓z_evS_6, ↓z_evS_7, ↓z_evS_8, ↓z_evS_9, ↓z_evS_10, ↓z_evS_11, ↓z_evS_12, ↓z_evS_13, ↓z_evSs_1, ↓z_evSs_2, ↓evIt_rng, leave, start, slotRv, Rv.tree, Rv.isI, Rv.isB, Rv.isS, T.isI, T.isB, T.isS, Rv.w, Rv.lst, Rv.seq, lstAt, seqAt, Rv.data, binop, cmpop, eqRv, inRv, ltRv, isRv, truth, isTy, isiRv, lenRv, LL.bi, biLen, biAll, biAny, biInt, biStr, biTuple, biList, biSorted, meFind, meCount, meJoin, meS, meL, meAppend, meInsert, mePop0, putL, getL, meRv, meTy, ixRv, slRv, revRv, src1, src2, src3, src4, src5, bindTg, bindTs, wipe, treesOf, tupOf, lstOf, app, Sto.trunc, glo0, glo1, glo2, SZ, -List.map_map, ixOf, T.eqOk, T.data, T.datas, T.calm, T.calms, T.depth, T.depths, T.beq, T.beqs]
  simp [↓mb, ↓pu, ↓gd, ↓opt_some, ↓bad_app, ↓rv_val, ↓nox_app, ↓ite_a, ↓z_evE_1, ↓z_evE_2, ↓z_evE_3, ↓z_evE_4, ↓z_evE_5, ↓z_evE_6, ↓z_evE_7, ↓z_evE_8, ↓z_evE_9, ↓z_evE_10, ↓z_evE_11, ↓z_evE_12, ↓z_evE_13, ↓z_evE_14, ↓z_evE_15, ↓z_evE_16, ↓z_evE_17, ↓z_evE_18, ↓z_evE_19, ↓z_evE_20, ↓z_evE_21, ↓z_evE_22, ↓z_evE_23, ↓z_evE_24, ↓z_evRs_1, ↓z_evRs_2, ↓z_evO_1, ↓z_evO_2, ↓z_evT_1, ↓z_evT_2, ↓z_evT_3, ↓z_evT_4, ↓z_evC_1, ↓z_evC_2, ↓z_evIt_1, ↓z_evIt_3, ↓z_evIt_4, ↓z_evIt_5, ↓z_evIt_6, ↓z_evS_1, ↓z_evS_2, ↓z_evS_3, ↓z_evS_4, ↓z_evS_5, ↓z_evS_6, ↓z_evS_7, ↓z_evS_8, ↓z_evS_9, ↓z_evS_10, ↓z_evS_11, ↓z_evS_12, ↓z_evS_13, ↓z_evSs_1, ↓z_evSs_2, ↓evIt_rng, leave, start, slotRv, Rv.tree, Rv.isI, Rv.isB, Rv.isS, T.isI, T.isB, T.isS, Rv.w, Rv.lst, Rv.seq, lstAt, seqAt, Rv.data, binop, cmpop, eqRv, inRv, ltRv, isRv, truth, isTy, isiRv, lenRv, LL.bi, biLen, biAll, biAny, biInt, biStr, biTuple, biList, biSorted, meFind, meCount, meJoin, meS, meL, meAppend, meInsert, mePop0, putL, getL, meRv, meTy, ixRv, slRv, revRv, src1, src2, src3, src4, src5, bindTg, bindTs, wipe, treesOf, tupOf, lstOf, app, Sto.trunc, glo0, glo1, glo2, SZ, -List.map_map, ixOf, T.eqOk, T.data, T.datas, T.calm, T.calms, T.depth, T.depths, T.beq, T.beqs, Pl.t, Tk.t] at e1
  rw [e1]
  simp [↓mb, ↓pu, ↓gd, ↓opt_some, ↓bad_app, ↓rv_val, ↓nox_app, ↓ite_a, ↓z_evE_1, ↓z_evE_2, ↓z_evE_3, ↓z_evE_4, ↓z_evE_5, ↓z_evE_6, ↓z_evE_7, ↓z_evE_8, ↓z_evE_9, ↓z_evE_10, ↓z_evE_11, ↓z_evE_12, ↓z_evE_13, ↓z_evE_14, ↓z_evE_15, ↓z_evE_16, ↓z_evE_17, ↓z_evE_18, ↓z_evE_19, ↓z_evE_20, ↓z_evE_21, ↓z_evE_22, ↓z_evE_23, ↓z_evE_24, ↓z_evRs_1, ↓z_evRs_2, ↓z_evO_1, ↓z_evO_2, ↓z_evT_1, ↓z_evT_2, ↓z_evT_3, ↓z_evT_4, ↓z_evC_1, ↓z_evC_2, ↓z_evIt_1, ↓z_evIt_3, ↓z_evIt_4, ↓z_evIt_5, ↓z_evIt_6, ↓z_evS_1, ↓z_evS_2, ↓z_evS_3, ↓z_evS_4, ↓z_evS_5, ↓z_evS_6, ↓z_evS_7, ↓z_evS_8, ↓z_evS_9, ↓z_evS_10, ↓z_evS_11, ↓z_evS_12, ↓z_evS_13, ↓z_evSs_1, ↓z_evSs_2, ↓evIt_rng, leave, start, slotRv, Rv.tree, Rv.isI, Rv.isB, Rv.isS, T.isI, T.isB, T.isS, Rv.w, Rv.lst, Rv.seq, lstAt, seqAt, Rv.data, binop, cmpop, eqRv, inRv, ltRv, isRv, truth, isTy, isiRv, lenRv, LL.bi, biLen, biAll, biAny, biInt, biStr, biTuple, biList, biSorted, meFind, meCount, meJoin, meS, meL, meAppend, meInsert, mePop0, putL, getL, meRv, meTy, ixRv, slRv, revRv, src1, src2, src3, src4, src5, bindTg, bindTs, wipe, treesOf, tupOf, lstOf, app, Sto.trunc, glo0, glo1, glo2, SZ, -List.map_map, ixOf, T.eqOk, T.data, T.datas, T.calm, T.calms, T.depth, T.depths, T.beq, T.beqs]
  rw [lc_map (fun t => .tup [.tup [.int x.i, .int x.j], t]) s' rfl _ (by simp; omega)]
  · have : (rows.map rowT).map (fun t => T.tup [.tup [.int x.i, .int x.j], t]) = rows.map (rowOf x.i x.j) := by
      rw [List.map_map]; rfl
    rw [this]
    simp [↓mb, ↓pu, ↓gd, ↓opt_some, ↓bad_app, ↓rv_val, ↓nox_app, ↓ite_a, ↓z_evE_1, ↓z_evE_2, ↓z_evE_3, ↓z_evE_4, ↓z_evE_5, ↓z_evE_6, ↓z_evE_7, ↓z_evE_8, ↓z_evE_9, ↓z_evE_10, ↓z_evE_11, ↓z_evE_12, ↓z_evE_13, ↓z_evE_14, ↓z_evE_15, ↓z_evE_16, ↓z_evE_17, ↓z_evE_18, ↓z_evE_19, ↓z_evE_20, ↓z_evE_21, ↓z_evE_22, ↓z_evE_23, ↓z_evE_24, ↓z_evRs_1, ↓z_evRs_2, ↓z_evO_1, ↓z_evO_2, ↓z_evT_1, ↓z_evT_2, ↓z_evT_3, ↓z_evT_4, ↓z_evC_1, ↓z_evC_2, ↓z_evIt_1, ↓z_evIt_3, ↓z_evIt_4, ↓z_evIt_5, ↓z_evIt_6, ↓z_evS_1, ↓z_evS_2, ↓z_evS_3, ↓z_evS_4, ↓z_evS_5, ↓z_evS_6, ↓z_evS_7, ↓z_evS_8, ↓z_evS_9, ↓z_evS_10, ↓z_evS_11, ↓z_evS_12, ↓z_evS_13, ↓z_evSs_1, ↓z_evSs_2, ↓evIt_rng, leave, start, slotRv, Rv.tree, Rv.isI, Rv.isB, Rv.isS, T.isI, T.isB, T.isS, Rv.w, Rv.lst, Rv.seq, lstAt, seqAt, Rv.data, binop, cmpop, eqRv, inRv, ltRv, isRv, truth, isTy, isiRv, lenRv, LL.bi, biLen, biAll, biAny, biInt, biStr, biTuple, biList, biSorted, meFind, meCount, meJoin, meS, meL, meAppend, meInsert, mePop0, putL, getL, meRv, meTy, ixRv, slRv, revRv, src1, src2, src3, src4, src5, bindTg, bindTs, wipe, treesOf, tupOf, lstOf, app, Sto.trunc, glo0, glo1, glo2, SZ, -List.map_map, ixOf, T.eqOk, T.data, T.datas, T.calm, T.calms, T.depth, T.depths, T.beq, T.beqs, hl]
  · intro t ht acc hacc
    simp [↓mb, ↓pu, ↓gd, ↓opt_some, ↓bad_app, ↓rv_val, ↓nox_app, ↓ite_a, ↓z_evE_1, ↓z_evE_2, ↓z_evE_3, ↓z_evE_4, ↓z_evE_5, ↓z_evE_6, ↓z_evE_7, ↓z_evE_8, ↓z_evE_9, ↓z_evE_10, ↓z_evE_11, ↓z_evE_12, ↓z_evE_13, ↓z_evE_14, ↓z_evE_15, ↓z_evE_16, ↓z_evE_17, ↓z_evE_18, ↓z_evE_19, ↓z_evE_20, ↓z_evE_21, ↓z_evE_22, ↓z_evE_23, ↓z_evE_24, ↓z_evRs_1, ↓z_evRs_2, ↓z_evO_1, ↓z_evO_2, ↓z_evT_1, ↓z_evT_2, ↓z_evT_3, ↓z_evT_4, ↓z_evC_1, ↓z_evC_2, ↓z_evIt_1, ↓z_evIt_3, ↓z_evIt_4, ↓z_evIt_5, ↓z_evIt_6, ↓z_evS_1, ↓z_evS_2, ↓z_evS_3, ↓z_evS_4, ↓z_evS_5, ↓z_evS_6, ↓z_evS_7, ↓z_evS_8, ↓z_evS_9, ↓z_evS_10, ↓z_evS_11, ↓z_evS_12, ↓z_evS_13, ↓z_evSs_1, ↓z_evSs_2, ↓evIt_rng, leave, start, slotRv, Rv.tree, Rv.isI, Rv.isB, Rv.isS, T.isI, T.isB, T.isS, Rv.w, Rv.lst, Rv.seq, lstAt, seqAt, Rv.data, binop, cmpop, eqRv, inRv, ltRv, isRv, truth, isTy, isiRv, lenRv, LL.bi, biLen, biAll, biAny, biInt, biStr, biTuple, biList, biSorted, meFind, meCount, meJoin, meS, meL, meAppend, meInsert, mePop0, putL, getL, meRv, meTy, ixRv, slRv, revRv, src1, src2, src3, src4, src5, bindTg, bindTs, wipe, treesOf, tupOf, lstOf, app, Sto.trunc, glo0, glo1, glo2, SZ, -List.map_map, ixOf, T.eqOk, T.data, T.datas, T.calm, T.calms, T.depth, T.depths, T.beq, T.beqs, hacc]
theorem turn_t {k : Nat} {A : List (List T)} {b : List Int} {O : List Inst} {a : Tk} {i j : Int} {v0 v1 v2 v6 v7 v8 v9 : Option W} (ha : TkOk a) (h0 : 0 ≤ i) (h1 : i < a.p) (h2 : 0 ≤ j) (h3 : j < a.q) :
    ∃ (w2 w7 w8 w9 : Option W) (b' : List Int), evSs ⟨run prog (k + 13), prog.glo⟩ (.cons (.par 8 9 (.call 70 (.cons (.var 3) (.cons (.var 4) (.cons (.var 5) .nil)))) (.call 70 (.cons (.var 3) (.cons (.var 4) (.cons (.var 5) .nil))))) (.cons (.asg (.n 2) (.call 68 (.cons (.var 4) (.cons (.var 8) (.cons (.var 9) .nil))))) (.cons (.ite (.or (.val (.cmp .ne (.var 2) (.bi .tuple (.cons (.call 71 (.cons (.var 4) (.cons (.var 8) (.cons (.var 9) .nil)))) .nil)))) (.val (.cmp .ne (.call 68 (.cons (.var 4) (.cons (.var 9) (.cons (.var 8) .nil)))) (.var 2)))) (.cons (.ret (.c (.bl false))) .nil) .nil) (.cons (.ite (.val (.cmp .ne (.call 68 (.cons (.var 4) (.cons (.var 8) (.cons (.var 8) .nil)))) (.tup (.cons (.var 8) .nil)))) (.cons (.ret (.c (.bl false))) .nil) .nil) (.cons (.asg (.n 7) (.tup (.cons (.call 47 (.cons (.var 5) (.cons (.c (.int 0)) (.cons (.bin .mod (.bin .add (.ix (.var 5) (.c (.int 0))) (.c (.int 1))) (.ix (.ix (.var 4) (.c (.int 0))) (.c (.int 0)))) .nil)))) (.cons (.ix (.var 9) (.c (.int 1))) .nil)))) (.cons (.ite (.and (.val (.cmp .gt (.ix (.ix (.var 4) (.c (.int 0))) (.c (.int 0))) (.c (.int 1)))) (.val (.cmp .ne (.call 68 (.cons (.var 4) (.cons (.var 8) (.cons (.var 7) .nil)))) (.tup .nil)))) (.cons (.ret (.c (.bl false))) .nil) .nil) .nil)))))) [v0, v1, v2, some (.l A.length), some (.t a.t), some (.t (.tup [.int i, .int j])), v6, v7, v8, v9, none, none, none] ⟨A ++ [b.map T.int], O⟩
      = .ok (.next, [v0, v1, w2, some (.l A.length), some (.t a.t), some (.t (.tup [.int i, .int j])), v6, w7, w8, w9, none, none, none]) ⟨A ++ [b'.map T.int], O⟩ := by
  have hs1 : ∀ x : List T, (A ++ [([] : List T)]).set A.length x = A ++ [x] := fun x => by simp
  obtain ⟨x, b1, e1, hx, xi, xj, tx⟩ := short_t (k := k + 10) (n := A.length) (L := A ++ [[]]) (b := b) (O := O) (a := a) (i := i) (j := j) (by simp) ha h0 h1 h2 h3
  obtain ⟨y, b2, e2, hy, yi, yj, ty⟩ := short_t (k := k + 10) (n := A.length) (L := A ++ [[]]) (b := b1) (O := O) (a := a) (i := i) (j := j) (by simp) ha h0 h1 h2 h3
  simp only [hs1] at e1 e2
  have h4 := sh4 ha hx hy tx ty
  have h4' := sh4 (x := y) (y := x) ha hy hx ty tx
  have hij : x.i = y.i ∧ x.j = y.j := ⟨by rw [xi, yi], by rw [xj, yj]⟩
  have c1 := common_t (k := k) (S := ⟨A ++ [b2.map T.int], O⟩) ha hx hy h4 h4'
  have c2 := common_t (k := k) (S := ⟨A ++ [b2.map T.int], O⟩) ha hy hx h4' h4
  have c3 := common_t (k := k) (S := ⟨A ++ [b2.map T.int], O⟩) ha hx hx h4 h4
  have al := all_over_t (k := k + 9) (S := ⟨A ++ [b2.map T.int], O⟩) ha hx hy tx ty
  rw [if_pos hij, show leastF belT ((prodF textsF (zipT a.ms x.ts y.ts)).map (rowOf x.i x.j)) = comOf a x y from rfl] at c1
  rw [if_pos ⟨hij.1.symm, hij.2.symm⟩, show leastF belT ((prodF textsF (zipT a.ms y.ts x.ts)).map (rowOf y.i y.j)) = comOf a y x from rfl, com_swap ha hx hy tx ty hij] at c2
  rw [if_pos ⟨rfl, rfl⟩, show leastF belT ((prodF textsF (zipT a.ms x.ts x.ts)).map (rowOf x.i x.j)) = comOf a x x from rfl, com_self ha hx tx] at c3
  rw [← com_all ha hx hy tx ty] at al
  have F := pl_fam a
  have hM : ∀ z ∈ comOf a x y, PlP a z := fun z hz => text_pl ha hx hy tx ty z (leastF_mem F.alike (text_pl ha hx hy tx ty) belT hz)
  generalize comOf a x y = M at *
  have m1 := lsts_nil F M hM
  have m2 := fam_calms F M M hM hM
  have m3 : T.beqs M M = true := (beqs_iff _ _).2 rfl
  have m4 : T.depths M ≤ 59 := by omega
  have n1 := F.eqOk ⟨x, hx, rfl⟩ ⟨x, hx, rfl⟩
  have n2 : T.beq x.t x.t = true := (beq_iff _ _).2 rfl
  have n3 := F.depth x.t ⟨x, hx, rfl⟩
  have n4 := F.data x.t ⟨x, hx, rfl⟩
  have n5 := F.calm x.t x.t ⟨x, hx, rfl⟩ ⟨x, hx, rfl⟩
  have n6 : x.t.depth ≤ 59 := by omega
  have hp := ha.p1
  have md := modes_0 (k := k + 12) (S := ⟨A ++ [b2.map T.int], O⟩) (i := i) (j := j) (m := (i + 1) % a.p)
  have hmp : 0 < a.p := by omega
  by_cases hp1 : 1 < a.p
  · have i0 : 0 ≤ (i + 1) % a.p := Int.emod_nonneg _ (by omega)
    have i1 : (i + 1) % a.p < a.p := Int.emod_lt_of_pos _ hmp
    have hz : PlOk a ⟨(i + 1) % a.p, j, y.ts⟩ := ⟨i0, i1, h2, h3, hy.len, hy.fit⟩
    have c4 := common_t (k := k) (S := ⟨A ++ [b2.map T.int], O⟩) ha hx hz h4 h4'
    have hne : ¬ (x.i = (i + 1) % a.p ∧ x.j = j) := by
      rintro ⟨h, _⟩
      rw [xi] at h
      rcases Int.lt_or_le (i + 1) a.p with h5 | h5
      · rw [Int.emod_eq_of_lt (by omega) h5] at h; omega
      · have : i + 1 = a.p := by omega
        rw [this, Int.emod_self] at h; omega
    rw [if_neg hne] at c4
    refine ⟨some (.t (.tup M)), some (.t (Pl.t ⟨(i + 1) % a.p, j, y.ts⟩)), some (.t x.t), some (.t y.t), b2, ?_⟩
    have yt : y.t = .tup [.tup [.int i, .int j], .tup (y.ts.map T.str)] := by unfold Pl.t; rw [yi, yj]
    have zt : Pl.t ⟨(i + 1) % a.p, j, y.ts⟩ = .tup [.tup [.int ((i + 1) % a.p), .int j], .tup (y.ts.map T.str)] := rfl
    have at_ : a.t = .tup [.tup [.int a.p, .int a.q], .tup (a.ms.map T.str), .tup a.rs] := rfl
    rw [zt] at c4 ⊢
    simp only [yt, at_] at *
    simp [↓mb, ↓pu, ↓gd, ↓opt_some, ↓bad_app, ↓rv_val, ↓nox_app, ↓ite_a, ↓z_evE_1, ↓z_evE_2, ↓z_evE_3, ↓z_evE_4, ↓z_evE_5, ↓z_evE_6, ↓z_evE_7, ↓z_evE_8, ↓z_evE_9, ↓z_evE_10, ↓z_evE_11, ↓z_evE_12, ↓z_evE_13, ↓z_evE_14, ↓z_evE_15, ↓z_evE_16, ↓z_evE_17, ↓z_evE_18, ↓z_evE_19, ↓z_evE_20, ↓z_evE_21, ↓z_evE_22, ↓z_evE_23, ↓z_evE_24, ↓z_evRs_1, ↓z_evRs_2, ↓z_evO_1, ↓z_evO_2, ↓z_evT_1, ↓z_evT_2, ↓z_evT_3, ↓z_evT_4, ↓z_evC_1, ↓z_evC_2, ↓z_evIt_1, ↓z_evIt_3, ↓z_evIt_4, ↓z_evIt_5, ↓z_evIt_6, ↓z_evS_1, ↓z_evS_2, ↓z_evS_3, ↓z_evS_4, ↓z_evS_5, ↓z_evS_6, ↓z_evS_7, ↓z_evS_8, ↓z_evS_9, ↓z_evS_10, ↓z_evS_11, ↓z_evS_12, ↓z_evS_13, ↓z_evSs_1, ↓z_evSs_2, ↓evIt_rng, leave, start, slotRv, Rv.tree, Rv.isI, Rv.isB, Rv.isS, T.isI, T.isB, T.isS, Rv.w, Rv.lst, Rv.seq, lstAt, seqAt, Rv.data, binop, cmpop, eqRv, inRv, ltRv, isRv, truth, isTy, isiRv, lenRv, LL.bi, biLen, biAll, biAny, biInt, biStr, biTuple, biList, biSorted, meFind, meCount, meJoin, meS, meL, meAppend, meInsert, mePop0, putL, getL, meRv, meTy, ixRv, slRv, revRv, src1, src2, src3, src4, src5, bindTg, bindTs, wipe, treesOf, tupOf, lstOf, app, Sto.trunc, glo0, glo1, glo2, SZ, -List.map_map, ixOf, T.eqOk, T.data, T.datas, T.calm, T.calms, T.depth, T.depths, T.beq, T.beqs, e1, e2, c1, c2, c3, c4, al, m1.1, m2, m3, m4, n2, n4, n5, n6, md, hmp, hp1]
  · refine ⟨some (.t (.tup M)), some (.t (Pl.t ⟨(i + 1) % a.p, j, y.ts⟩)), some (.t x.t), some (.t y.t), b2, ?_⟩
    have yt : y.t = .tup [.tup [.int i, .int j], .tup (y.ts.map T.str)] := by unfold Pl.t; rw [yi, yj]
    have zt : Pl.t ⟨(i + 1) % a.p, j, y.ts⟩ = .tup [.tup [.int ((i + 1) % a.p), .int j], .tup (y.ts.map T.str)] := rfl
    have at_ : a.t = .tup [.tup [.int a.p, .int a.q], .tup (a.ms.map T.str), .tup a.rs] := rfl
    rw [zt]
    simp only [yt, at_] at *
    simp [↓mb, ↓pu, ↓gd, ↓opt_some, ↓bad_app, ↓rv_val, ↓nox_app, ↓ite_a, ↓z_evE_1, ↓z_evE_2, ↓z_evE_3, ↓z_evE_4, ↓z_evE_5, ↓z_evE_6, ↓z_evE_7, ↓z_evE_8, ↓z_evE_9, ↓z_evE_10, ↓z_evE_11, ↓z_evE_12, ↓z_evE_13, ↓z_evE_14, ↓z_evE_15, ↓z_evE_16, ↓z_evE_17, ↓z_evE_18, ↓z_evE_19, ↓z_evE_20, ↓z_evE_21, ↓z_evE_22, ↓z_evE_23, ↓z_evE_24, ↓z_evRs_1, ↓z_evRs_2, ↓z_evO_1, ↓z_evO_2, ↓z_evT_1, ↓z_evT_2, ↓z_evT_3, ↓z_evT_4, ↓z_evC_1, ↓z_evC_2, ↓z_evIt_1, ↓z_evIt_3, ↓z_evIt_4, ↓z_evIt_5, ↓z_evIt_6, ↓z_evS_1, ↓z_evS_2, ↓z_evS_3, ↓z_evS_4, ↓z_evS_5, ↓z_evS_6, ↓z_evS_7, ↓z_evS_8, ↓z_evS_9, ↓z_evS_10, ↓z_evS_11, ↓z_evS_12, ↓z_evS_13, ↓z_evSs_1, ↓z_evSs_2, ↓evIt_rng, leave, start, slotRv, Rv.tree, Rv.isI, Rv.isB, Rv.isS, T.isI, T.isB, T.isS, Rv.w, Rv.lst, Rv.seq, lstAt, seqAt, Rv.data, binop, cmpop, eqRv, inRv, ltRv, isRv, truth, isTy, isiRv, lenRv, LL.bi, biLen, biAll, biAny, biInt, biStr, biTuple, biList, biSorted, meFind, meCount, meJoin, meS, meL, meAppend, meInsert, mePop0, putL, getL, meRv, meTy, ixRv, slRv, revRv, src1, src2, src3, src4, src5, bindTg, bindTs, wipe, treesOf, tupOf, lstOf, app, Sto.trunc, glo0, glo1, glo2, SZ, -List.map_map, ixOf, T.eqOk, T.data, T.datas, T.calm, T.calms, T.depth, T.depths, T.beq, T.beqs, e1, e2, c1, c2, c3, al, m1.1, m2, m3, m4, n2, n4, n5, n6, md, hmp, hp1]
end LLQ

set_option Elab.async false
set_option linter.all false
set_option autoImplicit false
set_option maxRecDepth 100000
set_option maxHeartbeats 1000000
namespace LLQ
open LL LLS LLP
theorem iter4_t {k : Nat} {S : Sto} {ns : List Int} {i : Nat} {v2 v3 v4 v5 v6 v7 v8 v9 : Option W} :
    ∃ (S' : Sto) (w2 w3 w4 w5 w6 w7 w8 w9 : Option W), evSs ⟨run prog (k + 13), prog.glo⟩ (.cons (.new 3 (.call 17 (.cons (.var 0) (.cons (.var 1) .nil)))) (.cons (.asg (.n 4) (.call 25 (.cons (.var 3) (.cons (.c (.int 3)) .nil)))) (.cons (.asg (.n 5) (.tup (.cons (.call 18 (.cons (.var 3) (.cons (.ix (.ix (.var 4) (.c (.int 0))) (.c (.int 0))) .nil))) (.cons (.call 18 (.cons (.var 3) (.cons (.ix (.ix (.var 4) (.c (.int 0))) (.c (.int 1))) .nil))) .nil)))) (.cons (.loop (.n 6) (.rng (.c (.int 3))) (.cons (.par 8 9 (.call 70 (.cons (.var 3) (.cons (.var 4) (.cons (.var 5) .nil)))) (.call 70 (.cons (.var 3) (.cons (.var 4) (.cons (.var 5) .nil))))) (.cons (.asg (.n 2) (.call 68 (.cons (.var 4) (.cons (.var 8) (.cons (.var 9) .nil))))) (.cons (.ite (.or (.val (.cmp .ne (.var 2) (.bi .tuple (.cons (.call 71 (.cons (.var 4) (.cons (.var 8) (.cons (.var 9) .nil)))) .nil)))) (.val (.cmp .ne (.call 68 (.cons (.var 4) (.cons (.var 9) (.cons (.var 8) .nil)))) (.var 2)))) (.cons (.ret (.c (.bl false))) .nil) .nil) (.cons (.ite (.val (.cmp .ne (.call 68 (.cons (.var 4) (.cons (.var 8) (.cons (.var 8) .nil)))) (.tup (.cons (.var 8) .nil)))) (.cons (.ret (.c (.bl false))) .nil) .nil) (.cons (.asg (.n 7) (.tup (.cons (.call 47 (.cons (.var 5) (.cons (.c (.int 0)) (.cons (.bin .mod (.bin .add (.ix (.var 5) (.c (.int 0))) (.c (.int 1))) (.ix (.ix (.var 4) (.c (.int 0))) (.c (.int 0)))) .nil)))) (.cons (.ix (.var 9) (.c (.int 1))) .nil)))) (.cons (.ite (.and (.val (.cmp .gt (.ix (.ix (.var 4) (.c (.int 0))) (.c (.int 0))) (.c (.int 1)))) (.val (.cmp .ne (.call 68 (.cons (.var 4) (.cons (.var 8) (.cons (.var 7) .nil)))) (.tup .nil)))) (.cons (.ret (.c (.bl false))) .nil) .nil) .nil))))))) .nil)))) [some (.t (.scr ns)), some (.t (.int (i : Int))), v2, v3, v4, v5, v6, v7, v8, v9, none, none, none] S
      = .ok (.next, [some (.t (.scr ns)), some (.t (.int (i : Int))), w2, w3, w4, w5, w6, w7, w8, w9, none, none, none]) S' := by
  obtain ⟨L0, O⟩ := S
  obtain ⟨b, e1⟩ := bag_t (k := k + 10) (S := ⟨L0, O⟩) (ns := ns) (i := i)
  have hs1 : ∀ x : List T, (L0 ++ [([] : List T)]).set L0.length x = L0 ++ [x] := fun x => by simp
  obtain ⟨a, b1, e2, ha, _⟩ := law_talk_t (k := k + 9) (n := L0.length) (q := 3) (L := L0 ++ [[]]) (b := b) (O := O) (by simp) (by omega) (by omega)
  obtain ⟨p, b2, e3, hp0, hp1⟩ := take_t (k := k + 12) (n := L0.length) (L := L0 ++ [[]]) (b := b1) (O := O) (m := a.p) (by simp) (by have := ha.p1; omega)
  obtain ⟨q, b3, e4, hq0, hq1⟩ := take_t (k := k + 12) (n := L0.length) (L := L0 ++ [[]]) (b := b2) (O := O) (m := a.q) (by simp) (by have := ha.q1; omega)
  simp only [hs1] at e2 e3 e4
  simp at e2
  obtain ⟨σ', s', e5, b5, w2, w6, w7, w8, w9, hs, hσ⟩ := for_inv (ws := []) (step := fun z σ => (do
      let σ' ← bindTg (.n 6) z σ
      evSs ⟨run prog (k + 13), prog.glo⟩ (.cons (.par 8 9 (.call 70 (.cons (.var 3) (.cons (.var 4) (.cons (.var 5) .nil)))) (.call 70 (.cons (.var 3) (.cons (.var 4) (.cons (.var 5) .nil))))) (.cons (.asg (.n 2) (.call 68 (.cons (.var 4) (.cons (.var 8) (.cons (.var 9) .nil))))) (.cons (.ite (.or (.val (.cmp .ne (.var 2) (.bi .tuple (.cons (.call 71 (.cons (.var 4) (.cons (.var 8) (.cons (.var 9) .nil)))) .nil)))) (.val (.cmp .ne (.call 68 (.cons (.var 4) (.cons (.var 9) (.cons (.var 8) .nil)))) (.var 2)))) (.cons (.ret (.c (.bl false))) .nil) .nil) (.cons (.ite (.val (.cmp .ne (.call 68 (.cons (.var 4) (.cons (.var 8) (.cons (.var 8) .nil)))) (.tup (.cons (.var 8) .nil)))) (.cons (.ret (.c (.bl false))) .nil) .nil) (.cons (.asg (.n 7) (.tup (.cons (.call 47 (.cons (.var 5) (.cons (.c (.int 0)) (.cons (.bin .mod (.bin .add (.ix (.var 5) (.c (.int 0))) (.c (.int 1))) (.ix (.ix (.var 4) (.c (.int 0))) (.c (.int 0)))) .nil)))) (.cons (.ix (.var 9) (.c (.int 1))) .nil)))) (.cons (.ite (.and (.val (.cmp .gt (.ix (.ix (.var 4) (.c (.int 0))) (.c (.int 0))) (.c (.int 1)))) (.val (.cmp .ne (.call 68 (.cons (.var 4) (.cons (.var 8) (.cons (.var 7) .nil)))) (.tup .nil)))) (.cons (.ret (.c (.bl false))) .nil) .nil) .nil)))))) σ' : M (Fl × Env)))
    (fun d σ s => ∃ (b5 : List Int) (w2 w6 w7 w8 w9 : Option W), s = ⟨L0 ++ [b5.map T.int], O⟩ ∧ σ = [some (.t (.scr ns)), some (.t (.int (i : Int))), w2, some (.l L0.length), some (.t a.t), some (.t (.tup [.int p, .int q])), w6, w7, w8, w9, none, none, none]) (rngItems 0 3) []
    (fun d σ s h => by simp [watchOk])
    (by
      intro d z r σ s he ⟨b5, w2, w6, w7, w8, w9, hs, hσ⟩
      subst hs hσ
      obtain ⟨u2, u7, u8, u9, b6, e⟩ := turn_t (k := k) (A := L0) (b := b5) (O := O) (v0 := some (.t (.scr ns))) (v1 := some (.t (.int (i : Int)))) (v2 := w2) (v6 := some (.t z)) (v7 := w7) (v8 := w8) (v9 := w9) ha hp0 hp1 hq0 hq1
      exact ⟨_, _, by simp only [bindTg, ↓mb, ↓pu, List.set_cons_zero, List.set_cons_succ]; exact e, b6, u2, _, u7, u8, u9, rfl, rfl⟩)
    [some (.t (.scr ns)), some (.t (.int (i : Int))), v2, some (.l L0.length), some (.t a.t), some (.t (.tup [.int p, .int q])), v6, v7, v8, v9, none, none, none] ⟨L0 ++ [b3.map T.int], O⟩ ⟨b3, _, _, _, _, _, rfl, rfl⟩
  subst hs hσ
  have hg : ∀ s, rngG 3 s = .ok ⟨rngItems 0 3, []⟩ s := fun s => rngG_ok (by omega) (by omega)
  have at_ : a.t = .tup [.tup [.int a.p, .int a.q], .tup (a.ms.map T.str), .tup a.rs] := rfl
  rw [at_] at e2 e5
  refine ⟨⟨L0 ++ [b5.map T.int], O⟩, w2, some (.l L0.length), some (.t (.tup [.tup [.int a.p, .int a.q], .tup (a.ms.map T.str), .tup a.rs])), some (.t (.tup [.int p, .int q])), w6, w7, w8, w9, ?_⟩
  simp [↓mb, ↓pu, ↓gd, ↓opt_some, ↓bad_app, ↓rv_val, ↓nox_app, ↓ite_a, ↓z_evE_1, ↓z_evE_2, ↓z_evE_3, ↓z_evE_4, ↓z_evE_5, ↓z_evE_6, ↓z_evE_7, ↓z_evE_8, ↓z_evE_9, ↓z_evE_10, ↓z_evE_11, ↓z_evE_12, ↓z_evE_13, ↓z_evE_14, ↓z_evE_15, ↓z_evE_16, ↓z_evE_17, ↓z_evE_18, ↓z_evE_19, ↓z_evE_20, ↓z_evE_21, ↓z_evE_22, ↓z_evE_23, ↓z_evE_24, ↓z_evRs_1, ↓z_evRs_2, ↓z_evO_1, ↓z_evO_2, ↓z_evT_1, ↓z_evT_2, ↓z_evT_3, ↓z_evT_4, ↓z_evC_1, ↓z_evC_2, ↓z_evIt_1, ↓z_evIt_3, ↓z_evIt_4, ↓z_evIt_5, ↓z_evIt_6, ↓z_evS_1, ↓z_evS_2, ↓z_evS_3, ↓z_evS_4, ↓z_evS_5, ↓z_evS_6, ↓z_evS_7, ↓z_evS_8, ↓z_evS_9, ↓z_evS_10, ↓z_evS_11, ↓z_evS_12, ↓z_evS_13, ↓z_evSs_1, ↓z_evSs_2, ↓evIt_rng, leave, start, slotRv, Rv.tree, Rv.isI, Rv.isB, Rv.isS, T.isI, T.isB, T.isS, Rv.w, Rv.lst, Rv.seq, lstAt, seqAt, Rv.data, binop, cmpop, eqRv, inRv, ltRv, isRv, truth, isTy, isiRv, lenRv, LL.bi, biLen, biAll, biAny, biInt, biStr, biTuple, biList, biSorted, meFind, meCount, meJoin, meS, meL, meAppend, meInsert, mePop0, putL, getL, meRv, meTy, ixRv, slRv, revRv, src1, src2, src3, src4, src5, bindTg, bindTs, wipe, treesOf, tupOf, lstOf, app, Sto.trunc, glo0, glo1, glo2, SZ, -List.map_map, ixOf, T.eqOk, T.data, T.datas, T.calm, T.calms, T.depth, T.depths, T.beq, T.beqs] at e5
  simp [↓mb, ↓pu, ↓gd, ↓opt_some, ↓bad_app, ↓rv_val, ↓nox_app, ↓ite_a, ↓z_evE_1, ↓z_evE_2, ↓z_evE_3, ↓z_evE_4, ↓z_evE_5, ↓z_evE_6, ↓z_evE_7, ↓z_evE_8, ↓z_evE_9, ↓z_evE_10, ↓z_evE_11, ↓z_evE_12, ↓z_evE_13, ↓z_evE_14, ↓z_evE_15, ↓z_evE_16, ↓z_evE_17, ↓z_evE_18, ↓z_evE_19, ↓z_evE_20, ↓z_evE_21, ↓z_evE_22, ↓z_evE_23, ↓z_evE_24, ↓z_evRs_1, ↓z_evRs_2, ↓z_evO_1, ↓z_evO_2, ↓z_evT_1, ↓z_evT_2, ↓z_evT_3, ↓z_evT_4, ↓z_evC_1, ↓z_evC_2, ↓z_evIt_1, ↓z_evIt_3, ↓z_evIt_4, ↓z_evIt_5, ↓z_evIt_6, ↓z_evS_1, ↓z_evS_2, ↓z_evS_3, ↓z_evS_4, ↓z_evS_5, ↓z_evS_6, ↓z_evS_7, ↓z_evS_8, ↓z_evS_9, ↓z_evS_10, ↓z_evS_11, ↓z_evS_12, ↓z_evS_13, ↓z_evSs_1, ↓z_evSs_2, ↓evIt_rng, leave, start, slotRv, Rv.tree, Rv.isI, Rv.isB, Rv.isS, T.isI, T.isB, T.isS, Rv.w, Rv.lst, Rv.seq, lstAt, seqAt, Rv.data, binop, cmpop, eqRv, inRv, ltRv, isRv, truth, isTy, isiRv, lenRv, LL.bi, biLen, biAll, biAny, biInt, biStr, biTuple, biList, biSorted, meFind, meCount, meJoin, meS, meL, meAppend, meInsert, mePop0, putL, getL, meRv, meTy, ixRv, slRv, revRv, src1, src2, src3, src4, src5, bindTg, bindTs, wipe, treesOf, tupOf, lstOf, app, Sto.trunc, glo0, glo1, glo2, SZ, -List.map_map, ixOf, T.eqOk, T.data, T.datas, T.calm, T.calms, T.depth, T.depths, T.beq, T.beqs, e1, e2, e3, e4, hg]
  rw [e5]
  simp [↓mb, ↓pu, ↓gd, ↓opt_some, ↓bad_app, ↓rv_val, ↓nox_app, ↓ite_a, ↓z_evE_1, ↓z_evE_2, ↓z_evE_3, ↓z_evE_4, ↓z_evE_5, ↓z_evE_6, ↓z_evE_7, ↓z_evE_8, ↓z_evE_9, ↓z_evE_10, ↓z_evE_11, ↓z_evE_12, ↓z_evE_13, ↓z_evE_14, ↓z_evE_15, ↓z_evE_16, ↓z_evE_17, ↓z_evE_18, ↓z_evE_19, ↓z_evE_20, ↓z_evE_21, ↓z_evE_22, ↓z_evE_23, ↓z_evE_24, ↓z_evRs_1, ↓z_evRs_2, ↓z_evO_1, ↓z_evO_2, ↓z_evT_1, ↓z_evT_2, ↓z_evT_3, ↓z_evT_4, ↓z_evC_1, ↓z_evC_2, ↓z_evIt_1, ↓z_evIt_3, ↓z_evIt_4, ↓z_evIt_5, ↓z_evIt_6, ↓z_evS_1, ↓z_evS_2, ↓z_evS_3, ↓z_evS_4, ↓z_evS_5, ↓z_evS_6, ↓z_evS_7, ↓z_evS_8, ↓z_evS_9, ↓z_evS_10, ↓z_evS_11, ↓z_evS_12, ↓z_evS_13, ↓z_evSs_1, ↓z_evSs_2, ↓evIt_rng, leave, start, slotRv, Rv.tree, Rv.isI, Rv.isB, Rv.isS, T.isI, T.isB, T.isS, Rv.w, Rv.lst, Rv.seq, lstAt, seqAt, Rv.data, binop, cmpop, eqRv, inRv, ltRv, isRv, truth, isTy, isiRv, lenRv, LL.bi, biLen, biAll, biAny, biInt, biStr, biTuple, biList, biSorted, meFind, meCount, meJoin, meS, meL, meAppend, meInsert, mePop0, putL, getL, meRv, meTy, ixRv, slRv, revRv, src1, src2, src3, src4, src5, bindTg, bindTs, wipe, treesOf, tupOf, lstOf, app, Sto.trunc, glo0, glo1, glo2, SZ, -List.map_map, ixOf, T.eqOk, T.data, T.datas, T.calm, T.calms, T.depth, T.depths, T.beq, T.beqs]
abbrev A4 : Tk := ⟨1, 1, [row], []⟩
theorem a4_ok : TkOk A4 := ⟨by decide, by decide, by decide, by decide, ⟨Or.inl rfl, by intro m hm; rw [List.mem_singleton] at hm; exact Or.inl hm⟩, by simp, by simp, List.Pairwise.nil⟩
theorem p4_ok {t : Cs} (ht : ∀ c ∈ t, c = 97 ∨ c = 98 ∨ c = 99) (hl : t.length ≤ 60) : PlOk A4 ⟨0, 0, [t]⟩ := by
  refine ⟨by simp, by simp, by simp, by simp, rfl, ?_⟩
  intro z hz
  simp at hz
  subst hz
  exact ⟨hl, ht, fun h => by simp at h, fun h => by simp at h⟩
def ex4 : List Cs := [[97, 98, 99, 97, 99, 98], [97, 98, 99, 99, 97, 98], [97, 98, 99, 99, 98, 97], [98, 97, 99, 98, 99, 97, 98], [98, 97, 99, 98, 99, 98, 97], [98, 97, 99, 99, 98, 99, 97], [98, 99, 97, 98, 99, 97, 98],
  [98, 99, 97, 98, 99, 98, 97], [98, 99, 97, 99, 98, 99, 97], [98, 99, 99, 97, 98, 99, 97]]
theorem ex4_val : leastF belT ((prodF textsF (zipT [row] [[97, 98, 99, 97]] [[98, 99, 99, 98]])).map (rowOf 0 0)) = ex4.map fun t => rowOf 0 0 [t] := by
  rw [← beqs_iff]
  decide +kernel
theorem ex4_part : ∀ t ∈ ex4, sub [97, 98, 99, 97] t = true ∧ sub [98, 99, 99, 98] t = true := by decide
theorem ex4_len : ∀ t ∈ ex4, t.length ≤ 7 := by decide
theorem law4_t {k : Nat} {ns : List Int} : ∃ S, run prog (k + 14) 72 [.t (.scr ns)] ⟨[], []⟩ = .ok (.v (.bl true)) S := by
  obtain ⟨σ', s', e, w1, w2, w3, w4, w5, w6, w7, w8, w9, hσ⟩ := for_inv (ws := []) (step := fun z σ => (do
      let σ' ← bindTg (.n 1) z σ
      evSs ⟨run prog (k + 13), prog.glo⟩ (.cons (.new 3 (.call 17 (.cons (.var 0) (.cons (.var 1) .nil)))) (.cons (.asg (.n 4) (.call 25 (.cons (.var 3) (.cons (.c (.int 3)) .nil)))) (.cons (.asg (.n 5) (.tup (.cons (.call 18 (.cons (.var 3) (.cons (.ix (.ix (.var 4) (.c (.int 0))) (.c (.int 0))) .nil))) (.cons (.call 18 (.cons (.var 3) (.cons (.ix (.ix (.var 4) (.c (.int 0))) (.c (.int 1))) .nil))) .nil)))) (.cons (.loop (.n 6) (.rng (.c (.int 3))) (.cons (.par 8 9 (.call 70 (.cons (.var 3) (.cons (.var 4) (.cons (.var 5) .nil)))) (.call 70 (.cons (.var 3) (.cons (.var 4) (.cons (.var 5) .nil))))) (.cons (.asg (.n 2) (.call 68 (.cons (.var 4) (.cons (.var 8) (.cons (.var 9) .nil))))) (.cons (.ite (.or (.val (.cmp .ne (.var 2) (.bi .tuple (.cons (.call 71 (.cons (.var 4) (.cons (.var 8) (.cons (.var 9) .nil)))) .nil)))) (.val (.cmp .ne (.call 68 (.cons (.var 4) (.cons (.var 9) (.cons (.var 8) .nil)))) (.var 2)))) (.cons (.ret (.c (.bl false))) .nil) .nil) (.cons (.ite (.val (.cmp .ne (.call 68 (.cons (.var 4) (.cons (.var 8) (.cons (.var 8) .nil)))) (.tup (.cons (.var 8) .nil)))) (.cons (.ret (.c (.bl false))) .nil) .nil) (.cons (.asg (.n 7) (.tup (.cons (.call 47 (.cons (.var 5) (.cons (.c (.int 0)) (.cons (.bin .mod (.bin .add (.ix (.var 5) (.c (.int 0))) (.c (.int 1))) (.ix (.ix (.var 4) (.c (.int 0))) (.c (.int 0)))) .nil)))) (.cons (.ix (.var 9) (.c (.int 1))) .nil)))) (.cons (.ite (.and (.val (.cmp .gt (.ix (.ix (.var 4) (.c (.int 0))) (.c (.int 0))) (.c (.int 1)))) (.val (.cmp .ne (.call 68 (.cons (.var 4) (.cons (.var 8) (.cons (.var 7) .nil)))) (.tup .nil)))) (.cons (.ret (.c (.bl false))) .nil) .nil) .nil))))))) .nil)))) σ' : M (Fl × Env)))
    (fun d σ s => ∃ w1 w2 w3 w4 w5 w6 w7 w8 w9 : Option W, σ = [some (.t (.scr ns)), w1, w2, w3, w4, w5, w6, w7, w8, w9, none, none, none]) (rngItems 0 6) []
    (fun d σ s h => by simp [watchOk])
    (by
      intro d z r σ s he ⟨w1, w2, w3, w4, w5, w6, w7, w8, w9, hσ⟩
      subst hσ
      obtain ⟨j, _, rfl⟩ : ∃ j : Nat, j < 6 ∧ z = .int j := rng_mem (by rw [List.nil_append] at he; rw [he]; simp)
      obtain ⟨S', u2, u3, u4, u5, u6, u7, u8, u9, e⟩ := iter4_t (k := k) (S := s) (ns := ns) (i := j) (v2 := w2) (v3 := w3) (v4 := w4) (v5 := w5) (v6 := w6) (v7 := w7) (v8 := w8) (v9 := w9)
      exact ⟨_, S', by simp only [bindTg, ↓mb, ↓pu, List.set_cons_zero, List.set_cons_succ]; exact e, _, _, _, _, _, _, _, _, _, rfl⟩)
    [some (.t (.scr ns)), none, none, none, none, none, none, none, none, none, none, none, none] ⟨[], []⟩ ⟨_, _, _, _, _, _, _, _, _, rfl⟩
  subst hσ
  have hg : ∀ s, rngG 6 s = .ok ⟨rngItems 0 6, []⟩ s := fun s => rngG_ok (by omega) (by omega)
  have x1 := common_t (k := k) (S := s') a4_ok (p4_ok (t := [97, 98, 99, 97]) (by simp) (by simp)) (p4_ok (t := [98, 99, 99, 98]) (by simp) (by simp)) (by intro t ht; simp at ht; subst ht; simp) (by intro t ht; simp at ht; subst ht; simp)
  rw [if_pos ⟨rfl, rfl⟩] at x1
  simp only [ex4_val] at x1
  simp [↓mb, ↓pu, ↓gd, ↓opt_some, ↓bad_app, ↓rv_val, ↓nox_app, ↓ite_a, ↓z_evE_1, ↓z_evE_2, ↓z_evE_3, ↓z_evE_4, ↓z_evE_5, ↓z_evE_6, ↓z_evE_7, ↓z_evE_8, ↓z_evE_9, ↓z_evE_10, ↓z_evE_11, ↓z_evE_12, ↓z_evE_13, ↓z_evE_14, ↓z_evE_15, ↓z_evE_16, ↓z_evE_17, ↓z_evE_18, ↓z_evE_19, ↓z_evE_20, ↓z_evE_21, ↓z_evE_22, ↓z_evE_23, ↓z_evE_24, ↓z_evRs_1, ↓z_evRs_2, ↓z_evO_1, ↓z_evO_2, ↓z_evT_1, ↓z_evT_2, ↓z_evT_3, ↓z_evT_4, ↓z_evC_1, ↓z_evC_2, ↓z_evIt_1, ↓z_evIt_3, ↓z_evIt_4, ↓z_evIt_5, ↓z_evIt_6, ↓z_evS_1, ↓z_evS_2, ↓z_evS_3, ↓z_evS_4, ↓z_evS_5, ↓z_evS_6, ↓z_evS_7, ↓z_evS_8, ↓z_evS_9, ↓z_evS_10, ↓z_evS_11, ↓z_evS_12, ↓z_evS_13, ↓z_evSs_1, ↓z_evSs_2, ↓evIt_rng, leave, start, slotRv, Rv.tree, Rv.isI, Rv.isB, Rv.isS, T.isI, T.isB, T.isS, Rv.w, Rv.lst, Rv.seq, lstAt, seqAt, Rv.data, binop, cmpop, eqRv, inRv, ltRv, isRv, truth, isTy, isiRv, lenRv, LL.bi, biLen, biAll, biAny, biInt, biStr, biTuple, biList, biSorted, meFind, meCount, meJoin, meS, meL, meAppend, meInsert, mePop0, putL, getL, meRv, meTy, ixRv, slRv, revRv, src1, src2, src3, src4, src5, bindTg, bindTs, wipe, treesOf, tupOf, lstOf, app, Sto.trunc, glo0, glo1, glo2, SZ, -List.map_map, ixOf, T.eqOk, T.data, T.datas, T.calm, T.calms, T.depth, T.depths, T.beq, T.beqs] at e
  have hlp : ∀ t ∈ ex4, run prog (k + 13) 60 [.t (.str [97, 98, 99, 97]), .t (.str t)] s' = .ok (.v (.bl true)) s' ∧ run prog (k + 13) 60 [.t (.str [98, 99, 99, 98]), .t (.str t)] s' = .ok (.v (.bl true)) s' := by
    intro t ht
    have h1 := law_part_t (k := k + 12) (S := s') (s := [97, 98, 99, 97]) (t := t) (by simp) (by have := ex4_len t ht; omega)
    have h2 := law_part_t (k := k + 12) (S := s') (s := [98, 99, 99, 98]) (t := t) (by simp) (by have := ex4_len t ht; omega)
    have h3 := ex4_part t ht
    rw [h3.1] at h1
    rw [h3.2] at h2
    exact ⟨h1, h2⟩
  refine ⟨⟨[], s'.O⟩, ?_⟩
  rw [run_fn (rfl : prog.fn 72 = some F_law_k04)]
  simp [F_law_k04, ↓mb, ↓pu, ↓gd, ↓opt_some, ↓bad_app, ↓rv_val, ↓nox_app, ↓ite_a, ↓z_evE_1, ↓z_evE_2, ↓z_evE_3, ↓z_evE_4, ↓z_evE_5, ↓z_evE_6, ↓z_evE_7, ↓z_evE_8, ↓z_evE_9, ↓z_evE_10, ↓z_evE_11, ↓z_evE_12, ↓z_evE_13, ↓z_evE_14, ↓z_evE_15, ↓z_evE_16, ↓z_evE_17, ↓z_evE_18, ↓z_evE_19, ↓z_evE_20, ↓z_evE_21, ↓z_evE_22, ↓z_evE_23, ↓z_evE_24, ↓z_evRs_1, ↓z_evRs_2, ↓z_evO_1, ↓z_evO_2, ↓z_evT_1, ↓z_evT_2, ↓z_evT_3, ↓z_evT_4, ↓z_evC_1, ↓z_evC_2, ↓z_evIt_1, ↓z_evIt_3, ↓z_evIt_4, ↓z_evIt_5, ↓z_evIt_6, ↓z_evS_1, ↓z_evS_2, ↓z_evS_3, ↓z_evS_4, ↓z_evS_5, ↓z_evS_6, ↓z_evS_7, ↓z_evS_8, ↓z_evS_9, ↓z_evS_10, ↓z_evS_11, ↓z_evS_12, ↓z_evS_13, ↓z_evSs_1, ↓z_evSs_2, ↓evIt_rng, leave, start, slotRv, Rv.tree, Rv.isI, Rv.isB, Rv.isS, T.isI, T.isB, T.isS, Rv.w, Rv.lst, Rv.seq, lstAt, seqAt, Rv.data, binop, cmpop, eqRv, inRv, ltRv, isRv, truth, isTy, isiRv, lenRv, LL.bi, biLen, biAll, biAny, biInt, biStr, biTuple, biList, biSorted, meFind, meCount, meJoin, meS, meL, meAppend, meInsert, mePop0, putL, getL, meRv, meTy, ixRv, slRv, revRv, src1, src2, src3, src4, src5, bindTg, bindTs, wipe, treesOf, tupOf, lstOf, app, Sto.trunc, glo0, glo1, glo2, SZ, -List.map_map, ixOf, T.eqOk, T.data, T.datas, T.calm, T.calms, T.depth, T.depths, T.beq, T.beqs, hg]
  rw [e]
  simp only [Pl.t, Tk.t, List.map_cons, List.map_nil] at x1
  simp [↓mb, ↓pu, ↓gd, ↓opt_some, ↓bad_app, ↓rv_val, ↓nox_app, ↓ite_a, ↓z_evE_1, ↓z_evE_2, ↓z_evE_3, ↓z_evE_4, ↓z_evE_5, ↓z_evE_6, ↓z_evE_7, ↓z_evE_8, ↓z_evE_9, ↓z_evE_10, ↓z_evE_11, ↓z_evE_12, ↓z_evE_13, ↓z_evE_14, ↓z_evE_15, ↓z_evE_16, ↓z_evE_17, ↓z_evE_18, ↓z_evE_19, ↓z_evE_20, ↓z_evE_21, ↓z_evE_22, ↓z_evE_23, ↓z_evE_24, ↓z_evRs_1, ↓z_evRs_2, ↓z_evO_1, ↓z_evO_2, ↓z_evT_1, ↓z_evT_2, ↓z_evT_3, ↓z_evT_4, ↓z_evC_1, ↓z_evC_2, ↓z_evIt_1, ↓z_evIt_3, ↓z_evIt_4, ↓z_evIt_5, ↓z_evIt_6, ↓z_evS_1, ↓z_evS_2, ↓z_evS_3, ↓z_evS_4, ↓z_evS_5, ↓z_evS_6, ↓z_evS_7, ↓z_evS_8, ↓z_evS_9, ↓z_evS_10, ↓z_evS_11, ↓z_evS_12, ↓z_evS_13, ↓z_evSs_1, ↓z_evSs_2, ↓evIt_rng, leave, start, slotRv, Rv.tree, Rv.isI, Rv.isB, Rv.isS, T.isI, T.isB, T.isS, Rv.w, Rv.lst, Rv.seq, lstAt, seqAt, Rv.data, binop, cmpop, eqRv, inRv, ltRv, isRv, truth, isTy, isiRv, lenRv, LL.bi, biLen, biAll, biAny, biInt, biStr, biTuple, biList, biSorted, meFind, meCount, meJoin, meS, meL, meAppend, meInsert, mePop0, putL, getL, meRv, meTy, ixRv, slRv, revRv, src1, src2, src3, src4, src5, bindTg, bindTs, wipe, treesOf, tupOf, lstOf, app, Sto.trunc, glo0, glo1, glo2, SZ, -List.map_map, ixOf, T.eqOk, T.data, T.datas, T.calm, T.calms, T.depth, T.depths, T.beq, T.beqs, x1]
  rw [lc_filt (fun _ => false) (fun t => t) s' rfl _ (by decide)]
  · have hf : (List.filter (fun _ : T => false) (ex4.map fun t => rowOf 0 0 [t])).map (fun t => t) = [] := by simp
    rw [hf]
    simp [↓mb, ↓pu, ↓gd, ↓opt_some, ↓bad_app, ↓rv_val, ↓nox_app, ↓ite_a, ↓z_evE_1, ↓z_evE_2, ↓z_evE_3, ↓z_evE_4, ↓z_evE_5, ↓z_evE_6, ↓z_evE_7, ↓z_evE_8, ↓z_evE_9, ↓z_evE_10, ↓z_evE_11, ↓z_evE_12, ↓z_evE_13, ↓z_evE_14, ↓z_evE_15, ↓z_evE_16, ↓z_evE_17, ↓z_evE_18, ↓z_evE_19, ↓z_evE_20, ↓z_evE_21, ↓z_evE_22, ↓z_evE_23, ↓z_evE_24, ↓z_evRs_1, ↓z_evRs_2, ↓z_evO_1, ↓z_evO_2, ↓z_evT_1, ↓z_evT_2, ↓z_evT_3, ↓z_evT_4, ↓z_evC_1, ↓z_evC_2, ↓z_evIt_1, ↓z_evIt_3, ↓z_evIt_4, ↓z_evIt_5, ↓z_evIt_6, ↓z_evS_1, ↓z_evS_2, ↓z_evS_3, ↓z_evS_4, ↓z_evS_5, ↓z_evS_6, ↓z_evS_7, ↓z_evS_8, ↓z_evS_9, ↓z_evS_10, ↓z_evS_11, ↓z_evS_12, ↓z_evS_13, ↓z_evSs_1, ↓z_evSs_2, ↓evIt_rng, leave, start, slotRv, Rv.tree, Rv.isI, Rv.isB, Rv.isS, T.isI, T.isB, T.isS, Rv.w, Rv.lst, Rv.seq, lstAt, seqAt, Rv.data, binop, cmpop, eqRv, inRv, ltRv, isRv, truth, isTy, isiRv, lenRv, LL.bi, biLen, biAll, biAny, biInt, biStr, biTuple, biList, biSorted, meFind, meCount, meJoin, meS, meL, meAppend, meInsert, mePop0, putL, getL, meRv, meTy, ixRv, slRv, revRv, src1, src2, src3, src4, src5, bindTg, bindTs, wipe, treesOf, tupOf, lstOf, app, Sto.trunc, glo0, glo1, glo2, SZ, -List.map_map, ixOf, T.eqOk, T.data, T.datas, T.calm, T.calms, T.depth, T.depths, T.beq, T.beqs]
    rw [lc_filt (fun t => match t with | .tup [_, .tup [.str s]] => decide (s.length = 6) | _ => false) (fun t => match t with | .tup [_, .tup [x]] => x | t => t) s' rfl _ (by decide)]
    · simp [↓mb, ↓pu, ↓gd, ↓opt_some, ↓bad_app, ↓rv_val, ↓nox_app, ↓ite_a, ↓z_evE_1, ↓z_evE_2, ↓z_evE_3, ↓z_evE_4, ↓z_evE_5, ↓z_evE_6, ↓z_evE_7, ↓z_evE_8, ↓z_evE_9, ↓z_evE_10, ↓z_evE_11, ↓z_evE_12, ↓z_evE_13, ↓z_evE_14, ↓z_evE_15, ↓z_evE_16, ↓z_evE_17, ↓z_evE_18, ↓z_evE_19, ↓z_evE_20, ↓z_evE_21, ↓z_evE_22, ↓z_evE_23, ↓z_evE_24, ↓z_evRs_1, ↓z_evRs_2, ↓z_evO_1, ↓z_evO_2, ↓z_evT_1, ↓z_evT_2, ↓z_evT_3, ↓z_evT_4, ↓z_evC_1, ↓z_evC_2, ↓z_evIt_1, ↓z_evIt_3, ↓z_evIt_4, ↓z_evIt_5, ↓z_evIt_6, ↓z_evS_1, ↓z_evS_2, ↓z_evS_3, ↓z_evS_4, ↓z_evS_5, ↓z_evS_6, ↓z_evS_7, ↓z_evS_8, ↓z_evS_9, ↓z_evS_10, ↓z_evS_11, ↓z_evS_12, ↓z_evS_13, ↓z_evSs_1, ↓z_evSs_2, ↓evIt_rng, leave, start, slotRv, Rv.tree, Rv.isI, Rv.isB, Rv.isS, T.isI, T.isB, T.isS, Rv.w, Rv.lst, Rv.seq, lstAt, seqAt, Rv.data, binop, cmpop, eqRv, inRv, ltRv, isRv, truth, isTy, isiRv, lenRv, LL.bi, biLen, biAll, biAny, biInt, biStr, biTuple, biList, biSorted, meFind, meCount, meJoin, meS, meL, meAppend, meInsert, mePop0, putL, getL, meRv, meTy, ixRv, slRv, revRv, src1, src2, src3, src4, src5, bindTg, bindTs, wipe, treesOf, tupOf, lstOf, app, Sto.trunc, glo0, glo1, glo2, SZ, -List.map_map, ixOf, T.eqOk, T.data, T.datas, T.calm, T.calms, T.depth, T.depths, T.beq, T.beqs, ex4, rowOf, rowT]
    · intro t ht acc hacc
      obtain ⟨w, hw, rfl⟩ := List.mem_map.1 ht
      have hwl := ex4_len w hw
      have hz : w.length ≤ 16777216 := by omega
      have hc : ((w.length : Int) = 6) ↔ w.length = 6 := by omega
      by_cases h6 : w.length = 6
      · simp [↓mb, ↓pu, ↓gd, ↓opt_some, ↓bad_app, ↓rv_val, ↓nox_app, ↓ite_a, ↓z_evE_1, ↓z_evE_2, ↓z_evE_3, ↓z_evE_4, ↓z_evE_5, ↓z_evE_6, ↓z_evE_7, ↓z_evE_8, ↓z_evE_9, ↓z_evE_10, ↓z_evE_11, ↓z_evE_12, ↓z_evE_13, ↓z_evE_14, ↓z_evE_15, ↓z_evE_16, ↓z_evE_17, ↓z_evE_18, ↓z_evE_19, ↓z_evE_20, ↓z_evE_21, ↓z_evE_22, ↓z_evE_23, ↓z_evE_24, ↓z_evRs_1, ↓z_evRs_2, ↓z_evO_1, ↓z_evO_2, ↓z_evT_1, ↓z_evT_2, ↓z_evT_3, ↓z_evT_4, ↓z_evC_1, ↓z_evC_2, ↓z_evIt_1, ↓z_evIt_3, ↓z_evIt_4, ↓z_evIt_5, ↓z_evIt_6, ↓z_evS_1, ↓z_evS_2, ↓z_evS_3, ↓z_evS_4, ↓z_evS_5, ↓z_evS_6, ↓z_evS_7, ↓z_evS_8, ↓z_evS_9, ↓z_evS_10, ↓z_evS_11, ↓z_evS_12, ↓z_evS_13, ↓z_evSs_1, ↓z_evSs_2, ↓evIt_rng, leave, start, slotRv, Rv.tree, Rv.isI, Rv.isB, Rv.isS, T.isI, T.isB, T.isS, Rv.w, Rv.lst, Rv.seq, lstAt, seqAt, Rv.data, binop, cmpop, eqRv, inRv, ltRv, isRv, truth, isTy, isiRv, lenRv, LL.bi, biLen, biAll, biAny, biInt, biStr, biTuple, biList, biSorted, meFind, meCount, meJoin, meS, meL, meAppend, meInsert, mePop0, putL, getL, meRv, meTy, ixRv, slRv, revRv, src1, src2, src3, src4, src5, bindTg, bindTs, wipe, treesOf, tupOf, lstOf, app, Sto.trunc, glo0, glo1, glo2, SZ, -List.map_map, ixOf, T.eqOk, T.data, T.datas, T.calm, T.calms, T.depth, T.depths, T.beq, T.beqs, rowOf, rowT, hz, h6, hacc]
      · simp [↓mb, ↓pu, ↓gd, ↓opt_some, ↓bad_app, ↓rv_val, ↓nox_app, ↓ite_a, ↓z_evE_1, ↓z_evE_2, ↓z_evE_3, ↓z_evE_4, ↓z_evE_5, ↓z_evE_6, ↓z_evE_7, ↓z_evE_8, ↓z_evE_9, ↓z_evE_10, ↓z_evE_11, ↓z_evE_12, ↓z_evE_13, ↓z_evE_14, ↓z_evE_15, ↓z_evE_16, ↓z_evE_17, ↓z_evE_18, ↓z_evE_19, ↓z_evE_20, ↓z_evE_21, ↓z_evE_22, ↓z_evE_23, ↓z_evE_24, ↓z_evRs_1, ↓z_evRs_2, ↓z_evO_1, ↓z_evO_2, ↓z_evT_1, ↓z_evT_2, ↓z_evT_3, ↓z_evT_4, ↓z_evC_1, ↓z_evC_2, ↓z_evIt_1, ↓z_evIt_3, ↓z_evIt_4, ↓z_evIt_5, ↓z_evIt_6, ↓z_evS_1, ↓z_evS_2, ↓z_evS_3, ↓z_evS_4, ↓z_evS_5, ↓z_evS_6, ↓z_evS_7, ↓z_evS_8, ↓z_evS_9, ↓z_evS_10, ↓z_evS_11, ↓z_evS_12, ↓z_evS_13, ↓z_evSs_1, ↓z_evSs_2, ↓evIt_rng, leave, start, slotRv, Rv.tree, Rv.isI, Rv.isB, Rv.isS, T.isI, T.isB, T.isS, Rv.w, Rv.lst, Rv.seq, lstAt, seqAt, Rv.data, binop, cmpop, eqRv, inRv, ltRv, isRv, truth, isTy, isiRv, lenRv, LL.bi, biLen, biAll, biAny, biInt, biStr, biTuple, biList, biSorted, meFind, meCount, meJoin, meS, meL, meAppend, meInsert, mePop0, putL, getL, meRv, meTy, ixRv, slRv, revRv, src1, src2, src3, src4, src5, bindTg, bindTs, wipe, treesOf, tupOf, lstOf, app, Sto.trunc, glo0, glo1, glo2, SZ, -List.map_map, ixOf, T.eqOk, T.data, T.datas, T.calm, T.calms, T.depth, T.depths, T.beq, T.beqs, rowOf, rowT, hz, hc, h6, hacc]
  · intro t ht acc hacc
    obtain ⟨w, hw, rfl⟩ := List.mem_map.1 ht
    have h := hlp w hw
    simp [↓mb, ↓pu, ↓gd, ↓opt_some, ↓bad_app, ↓rv_val, ↓nox_app, ↓ite_a, ↓z_evE_1, ↓z_evE_2, ↓z_evE_3, ↓z_evE_4, ↓z_evE_5, ↓z_evE_6, ↓z_evE_7, ↓z_evE_8, ↓z_evE_9, ↓z_evE_10, ↓z_evE_11, ↓z_evE_12, ↓z_evE_13, ↓z_evE_14, ↓z_evE_15, ↓z_evE_16, ↓z_evE_17, ↓z_evE_18, ↓z_evE_19, ↓z_evE_20, ↓z_evE_21, ↓z_evE_22, ↓z_evE_23, ↓z_evE_24, ↓z_evRs_1, ↓z_evRs_2, ↓z_evO_1, ↓z_evO_2, ↓z_evT_1, ↓z_evT_2, ↓z_evT_3, ↓z_evT_4, ↓z_evC_1, ↓z_evC_2, ↓z_evIt_1, ↓z_evIt_3, ↓z_evIt_4, ↓z_evIt_5, ↓z_evIt_6, ↓z_evS_1, ↓z_evS_2, ↓z_evS_3, ↓z_evS_4, ↓z_evS_5, ↓z_evS_6, ↓z_evS_7, ↓z_evS_8, ↓z_evS_9, ↓z_evS_10, ↓z_evS_11, ↓z_evS_12, ↓z_evS_13, ↓z_evSs_1, ↓z_evSs_2, ↓evIt_rng, leave, start, slotRv, Rv.tree, Rv.isI, Rv.isB, Rv.isS, T.isI, T.isB, T.isS, Rv.w, Rv.lst, Rv.seq, lstAt, seqAt, Rv.data, binop, cmpop, eqRv, inRv, ltRv, isRv, truth, isTy, isiRv, lenRv, LL.bi, biLen, biAll, biAny, biInt, biStr, biTuple, biList, biSorted, meFind, meCount, meJoin, meS, meL, meAppend, meInsert, mePop0, putL, getL, meRv, meTy, ixRv, slRv, revRv, src1, src2, src3, src4, src5, bindTg, bindTs, wipe, treesOf, tupOf, lstOf, app, Sto.trunc, glo0, glo1, glo2, SZ, -List.map_map, ixOf, T.eqOk, T.data, T.datas, T.calm, T.calms, T.depth, T.depths, T.beq, T.beqs, rowOf, rowT, h.1, h.2]
end LLQ
theorem LLP.law_true_k04 : ∀ ns : List Int, ns.length ≤ 63 → ∃ S, LL.run LLP.prog 14 72 [.t (.scr ns)] ⟨[], []⟩ = .ok (.v (.bl true)) S := fun ns _ => LLQ.law4_t (k := 0) (ns := ns)

set_option Elab.async false
set_option linter.all false
set_option autoImplicit false
set_option maxRecDepth 100000
set_option maxHeartbeats 0
namespace LLH
open PySem PySem.Spec PyProof.Rows L2 LLS
abbrev P0 : Program := PySem.Challenge.pw_losslines_k04_what_is_above_both
def top (i : Nat) : Stmt := P0.main.body.getD i (.Pass ⟨0, 0, 0, 0⟩)
abbrev R : PySem.W.OpenRow := PySem.W.OpenLaw.row PySem.Challenge.rw_losslines_k04_what_is_above_both
def mkD (x : Str) (i : Nat) : He.DefD := ⟨(x, none), x, x, defArgs (top i), defBody (top i), defScope (top i), [], []⟩
def fn : List He.DefD := [mkD "is_integer" 8, mkD "is_text" 9, mkD "is_pair" 10, mkD "are_sizes" 11, mkD "are_manners" 12, mkD "is_deed" 13, mkD "is_rule" 14, mkD "is_talk" 15, mkD "in_order" 16, mkD "fits_line" 17, mkD "is_one" 18, mkD "need_talk" 19, mkD "need_situation" 20, mkD "is_part_of" 22, mkD "is_below" 23, mkD "place_in" 24, mkD "ascending" 25, mkD "least_of" 26, mkD "shortest_over" 27, mkD "texts_over" 28, mkD "common_of" 29, mkD "common" 30, mkD "_law_cell" 32, mkD "_law_draws" 33, mkD "_law_bag" 34, mkD "_law_take" 35, mkD "_law_choice" 36, mkD "_law_ascending" 37, mkD "_law_letters" 38, mkD "_law_sizes" 39, mkD "_law_manners" 40, mkD "_law_rule" 41, mkD "_law_talk" 42, mkD "_law_fitted" 43, mkD "_law_part" 44, mkD "_law_modes" 45, mkD "_law_small_texts" 46, mkD "_law_short" 47, mkD "_law_all_over" 48, mkD "law" 49]
def fa : List He.Fa := [.glo "is_integer", .glo "is_text", .glo "is_pair", .glo "are_sizes", .glo "are_manners", .glo "is_deed", .glo "is_rule", .glo "is_talk", .glo "in_order", .glo "fits_line", .glo "is_one", .glo "need_talk", .glo "need_situation", .glo "is_part_of", .glo "is_below", .glo "place_in", .glo "ascending", .glo "least_of", .glo "shortest_over", .glo "texts_over", .glo "common_of", .glo "common", .glo "_law_cell", .glo "_law_draws", .glo "_law_bag", .glo "_law_take", .glo "_law_choice", .glo "_law_ascending", .glo "_law_letters", .glo "_law_sizes", .glo "_law_manners", .glo "_law_rule", .glo "_law_talk", .glo "_law_fitted", .glo "_law_part", .glo "_law_modes", .glo "_law_small_texts", .glo "_law_short", .glo "_law_all_over", .glo "law", .free "len", .free "all", .free "any", .free "max", .free "int", .free "str", .free "bool", .free "tuple", .free "list", .free "sorted", .free "isinstance", .free "range", .free "zip", .free "enumerate", .glo "TalkError", .exc "TalkError", .glo "InvalidTalk", .exc "InvalidTalk", .glo "InvalidSituation", .exc "InvalidSituation", .str "LETTERS" "abc", .glo "MANNERS", .int "MOST" 60]
def tp : List (Str × List He.Dv) := [("MANNERS", [.str "echo", .str "heap", .str "row"])]
def loose : List Str := [("TalkError" : Str), ("InvalidTalk" : Str), ("InvalidSituation" : Str), ("LETTERS" : Str), ("MANNERS" : Str), ("MOST" : Str), ("is_integer" : Str), ("is_text" : Str), ("is_pair" : Str), ("are_sizes" : Str), ("are_manners" : Str), ("is_deed" : Str), ("is_rule" : Str), ("is_talk" : Str), ("in_order" : Str), ("fits_line" : Str), ("is_one" : Str), ("need_talk" : Str), ("need_situation" : Str), ("is_part_of" : Str), ("is_below" : Str), ("place_in" : Str), ("ascending" : Str), ("least_of" : Str), ("shortest_over" : Str), ("texts_over" : Str), ("common_of" : Str), ("common" : Str), ("_law_cell" : Str), ("_law_draws" : Str), ("_law_bag" : Str), ("_law_take" : Str), ("_law_choice" : Str), ("_law_ascending" : Str), ("_law_letters" : Str), ("_law_sizes" : Str), ("_law_manners" : Str), ("_law_rule" : Str), ("_law_talk" : Str), ("_law_fitted" : Str), ("_law_part" : Str), ("_law_modes" : Str), ("_law_small_texts" : Str), ("_law_short" : Str), ("_law_all_over" : Str)]
abbrev hk : PySem.W.Hook := hookU 4 fa fn tp
def ob (s : PySem.W.SharedT) : AlU := obsUG 4 fa fn tp (HandSHeadRun.getT s)
theorem ob_eq (s : PySem.W.SharedT) : ob s = hk.obs s.abs := obsUG_eq (HandSHeadRun.getT_eq s)
def nms : Nms := ⟨[some (("is_integer" : Str), 3), some (("is_text" : Str), 2), some (("is_pair" : Str), 2), some (("are_sizes" : Str), 1), some (("are_manners" : Str), 1), some (("is_deed" : Str), 2), some (("is_rule" : Str), 3), some (("is_talk" : Str), 1), some (("in_order" : Str), 1), some (("fits_line" : Str), 2), some (("is_one" : Str), 2), some (("need_talk" : Str), 1), none, none, none, some (("_law_cell" : Str), 2), some (("_law_draws" : Str), 4), some (("_law_bag" : Str), 2), some (("_law_take" : Str), 2), some (("_law_choice" : Str), 2), some (("_law_ascending" : Str), 1), some (("_law_letters" : Str), 1), some (("_law_sizes" : Str), 1), some (("_law_manners" : Str), 1), some (("_law_rule" : Str), 4), some (("_law_talk" : Str), 2), some (("_law_fitted" : Str), 2), none, none, none, none, none, none, none, none, none, none, none, none, none, none, some (("need_situation" : Str), 2), none, none, none, none, none, some (("_law_modes" : Str), 3), none, none, none, none, some (("is_part_of" : Str), 2), some (("is_below" : Str), 2), some (("place_in" : Str), 2), some (("ascending" : Str), 1), some (("least_of" : Str), 1), none, none, none, some (("_law_part" : Str), 2), none, none, none, none, some (("shortest_over" : Str), 2), some (("texts_over" : Str), 3), some (("common_of" : Str), 3), some (("common" : Str), 3), some (("_law_small_texts" : Str), 2), some (("_law_short" : Str), 3), some (("_law_all_over" : Str), 3), some (("law" : Str), 1), none, none, none, none, none, none, none, none, none, none, none, none, none, none, none, none, none, none, none, none, none, none, none, none, none, none, none, none, none, none, none, none, none, none, none, none, none, none, none, none, none, none, none, none, none, none, none, none, none, none, none, none, none, none, none, none, none, none, none, none, none, none, none, none, none, none, none, none, none, none, none, none, none, none, none, none, none, none, none, none, none, none, none, none, none, none, none, none, none, none, none, none, none, none, none, none, none, none, none, none, none, none, none, none, none, none, none, none, none, none, none, none, none, none, none, none, none], [some ("LETTERS" : Str), some ("MANNERS" : Str), some ("MOST" : Str)], [some ("TalkError" : Str), some ("InvalidTalk" : Str), some ("InvalidSituation" : Str), none, none, none, none, none, none, none, none, none, none, none, none]⟩
def N_is_integer : List Str := [("value" : Str), ("low" : Str), ("high" : Str)]
def ps_is_integer : List Str := [("value" : Str), ("low" : Str), ("high" : Str)]
theorem ck_is_integer : chkF nms N_is_integer ps_is_integer LLP.F_is_integer (defBody (top 8)) (defScope (top 8)) = true := by kernel_rfl
def N_is_text : List Str := [("value" : Str), ("most" : Str), ("letter" : Str)]
def ps_is_text : List Str := [("value" : Str), ("most" : Str)]
theorem ck_is_text : chkF nms N_is_text ps_is_text LLP.F_is_text (defBody (top 9)) (defScope (top 9)) = true := by kernel_rfl
def N_is_pair : List Str := [("value" : Str), ("sizes" : Str)]
def ps_is_pair : List Str := [("value" : Str), ("sizes" : Str)]
theorem ck_is_pair : chkF nms N_is_pair ps_is_pair LLP.F_is_pair (defBody (top 10)) (defScope (top 10)) = true := by kernel_rfl
def N_are_sizes : List Str := [("value" : Str), ("size" : Str)]
def ps_are_sizes : List Str := [("value" : Str)]
theorem ck_are_sizes : chkF nms N_are_sizes ps_are_sizes LLP.F_are_sizes (defBody (top 11)) (defScope (top 11)) = true := by kernel_rfl
def N_are_manners : List Str := [("value" : Str), ("manner" : Str)]
def ps_are_manners : List Str := [("value" : Str)]
theorem ck_are_manners : chkF nms N_are_manners ps_are_manners LLP.F_are_manners (defBody (top 12)) (defScope (top 12)) = true := by kernel_rfl
def N_is_deed : List Str := [("value" : Str), ("lines" : Str)]
def ps_is_deed : List Str := [("value" : Str), ("lines" : Str)]
theorem ck_is_deed : chkF nms N_is_deed ps_is_deed LLP.F_is_deed (defBody (top 13)) (defScope (top 13)) = true := by kernel_rfl
def N_is_rule : List Str := [("value" : Str), ("sizes" : Str), ("lines" : Str), ("most" : Str)]
def ps_is_rule : List Str := [("value" : Str), ("sizes" : Str), ("lines" : Str)]
theorem ck_is_rule : chkF nms N_is_rule ps_is_rule LLP.F_is_rule (defBody (top 14)) (defScope (top 14)) = true := by kernel_rfl
def N_is_talk : List Str := [("value" : Str), ("rules" : Str), ("rule" : Str), ("one" : Str), ("other" : Str)]
def ps_is_talk : List Str := [("value" : Str)]
theorem ck_is_talk : chkF nms N_is_talk ps_is_talk LLP.F_is_talk (defBody (top 15)) (defScope (top 15)) = true := by kernel_rfl
def N_in_order : List Str := [("text" : Str), ("letter" : Str)]
def ps_in_order : List Str := [("text" : Str)]
theorem ck_in_order : chkF nms N_in_order ps_in_order LLP.F_in_order (defBody (top 16)) (defScope (top 16)) = true := by kernel_rfl
def N_fits_line : List Str := [("manner" : Str), ("text" : Str), ("one" : Str), ("other" : Str)]
def ps_fits_line : List Str := [("manner" : Str), ("text" : Str)]
theorem ck_fits_line : chkF nms N_fits_line ps_fits_line LLP.F_fits_line (defBody (top 17)) (defScope (top 17)) = true := by kernel_rfl
def N_is_one : List Str := [("talk" : Str), ("value" : Str), ("texts" : Str), ("manner" : Str), ("text" : Str)]
def ps_is_one : List Str := [("talk" : Str), ("value" : Str)]
theorem ck_is_one : chkF nms N_is_one ps_is_one LLP.F_is_one (defBody (top 18)) (defScope (top 18)) = true := by kernel_rfl
def N_need_talk : List Str := [("talk" : Str)]
def ps_need_talk : List Str := [("talk" : Str)]
theorem ck_need_talk : chkF nms N_need_talk ps_need_talk LLP.F_need_talk (defBody (top 19)) (defScope (top 19)) = true := by kernel_rfl
def N_need_situation : List Str := [("talk" : Str), ("situation" : Str)]
def ps_need_situation : List Str := [("talk" : Str), ("situation" : Str)]
theorem ck_need_situation : chkF nms N_need_situation ps_need_situation LLP.F_need_situation (defBody (top 20)) (defScope (top 20)) = true := by kernel_rfl
def N_is_part_of : List Str := [("one" : Str), ("other" : Str), ("at" : Str), ("letter" : Str)]
def ps_is_part_of : List Str := [("one" : Str), ("other" : Str)]
theorem ck_is_part_of : chkF nms N_is_part_of ps_is_part_of LLP.F_is_part_of (defBody (top 22)) (defScope (top 22)) = true := by kernel_rfl
def N_is_below : List Str := [("one" : Str), ("other" : Str), ("text" : Str), ("longer" : Str)]
def ps_is_below : List Str := [("one" : Str), ("other" : Str)]
theorem ck_is_below : chkF nms N_is_below ps_is_below LLP.F_is_below (defBody (top 23)) (defScope (top 23)) = true := by kernel_rfl
def N_place_in : List Str := [("rows" : Str), ("row" : Str), ("low" : Str), ("high" : Str), ("middle" : Str)]
def ps_place_in : List Str := [("rows" : Str), ("row" : Str)]
theorem ck_place_in : chkF nms N_place_in ps_place_in LLP.F_place_in (defBody (top 24)) (defScope (top 24)) = true := by kernel_rfl
def N_ascending : List Str := [("rows" : Str), ("found" : Str), ("row" : Str), ("at" : Str)]
def ps_ascending : List Str := [("rows" : Str)]
theorem ck_ascending : chkF nms N_ascending ps_ascending LLP.F_ascending (defBody (top 25)) (defScope (top 25)) = true := by kernel_rfl
def N_least_of : List Str := [("rows" : Str), ("each" : Str), ("row" : Str), ("other" : Str)]
def ps_least_of : List Str := [("rows" : Str)]
theorem ck_least_of : chkF nms N_least_of ps_least_of LLP.F_least_of (defBody (top 26)) (defScope (top 26)) = true := by kernel_rfl
def N_shortest_over : List Str := [("one" : Str), ("other" : Str), ("rows" : Str), ("text" : Str), ("part" : Str)]
def ps_shortest_over : List Str := [("one" : Str), ("other" : Str)]
theorem ck_shortest_over : chkF nms N_shortest_over ps_shortest_over LLP.F_shortest_over (defBody (top 27)) (defScope (top 27)) = true := by kernel_rfl
def N_texts_over : List Str := [("manner" : Str), ("one" : Str), ("other" : Str), ("letters" : Str), ("letter" : Str)]
def ps_texts_over : List Str := [("manner" : Str), ("one" : Str), ("other" : Str)]
theorem ck_texts_over : chkF nms N_texts_over ps_texts_over LLP.F_texts_over (defBody (top 28)) (defScope (top 28)) = true := by kernel_rfl
def N_common_of : List Str := [("talk" : Str), ("one" : Str), ("other" : Str), ("rows" : Str), ("manner" : Str), ("text" : Str), ("second" : Str), ("row" : Str), ("whole" : Str)]
def ps_common_of : List Str := [("talk" : Str), ("one" : Str), ("other" : Str)]
theorem ck_common_of : chkF nms N_common_of ps_common_of LLP.F_common_of (defBody (top 29)) (defScope (top 29)) = true := by kernel_rfl
def N_common : List Str := [("talk" : Str), ("one" : Str), ("other" : Str)]
def ps_common : List Str := [("talk" : Str), ("one" : Str), ("other" : Str)]
theorem ck_common : chkF nms N_common ps_common LLP.F_common (defBody (top 30)) (defScope (top 30)) = true := by kernel_rfl
def N__law_cell : List Str := [("script" : Str), ("k" : Str)]
def ps__law_cell : List Str := [("script" : Str), ("k" : Str)]
theorem ck__law_cell : chkF nms N__law_cell ps__law_cell LLP.F__law_cell (defBody (top 32)) (defScope (top 32)) = true := by kernel_rfl
def N__law_draws : List Str := [("script" : Str), ("k" : Str), ("many" : Str), ("base" : Str), ("primes" : Str), ("cell" : Str), ("rest" : Str), ("row" : Str), ("j" : Str), ("mash" : Str)]
def ps__law_draws : List Str := [("script" : Str), ("k" : Str), ("many" : Str), ("base" : Str)]
theorem ck__law_draws : chkF nms N__law_draws ps__law_draws LLP.F__law_draws (defBody (top 33)) (defScope (top 33)) = true := by kernel_rfl
def N__law_bag : List Str := [("script" : Str), ("k" : Str)]
def ps__law_bag : List Str := [("script" : Str), ("k" : Str)]
theorem ck__law_bag : chkF nms N__law_bag ps__law_bag LLP.F__law_bag (defBody (top 34)) (defScope (top 34)) = true := by kernel_rfl
def N__law_take : List Str := [("bag" : Str), ("many" : Str), ("draw" : Str)]
def ps__law_take : List Str := [("bag" : Str), ("many" : Str)]
theorem ck__law_take : chkF nms N__law_take ps__law_take LLP.F__law_take (defBody (top 35)) (defScope (top 35)) = true := by kernel_rfl
def N__law_choice : List Str := [("bag" : Str), ("some" : Str)]
def ps__law_choice : List Str := [("bag" : Str), ("some" : Str)]
theorem ck__law_choice : chkF nms N__law_choice ps__law_choice LLP.F__law_choice (defBody (top 36)) (defScope (top 36)) = true := by kernel_rfl
def N__law_ascending : List Str := [("rows" : Str), ("found" : Str), ("row" : Str), ("at" : Str), ("one" : Str)]
def ps__law_ascending : List Str := [("rows" : Str)]
theorem ck__law_ascending : chkF nms N__law_ascending ps__law_ascending LLP.F__law_ascending (defBody (top 37)) (defScope (top 37)) = true := by kernel_rfl
def N__law_letters : List Str := [("bag" : Str)]
def ps__law_letters : List Str := [("bag" : Str)]
theorem ck__law_letters : chkF nms N__law_letters ps__law_letters LLP.F__law_letters (defBody (top 38)) (defScope (top 38)) = true := by kernel_rfl
def N__law_sizes : List Str := [("bag" : Str)]
def ps__law_sizes : List Str := [("bag" : Str)]
theorem ck__law_sizes : chkF nms N__law_sizes ps__law_sizes LLP.F__law_sizes (defBody (top 39)) (defScope (top 39)) = true := by kernel_rfl
def N__law_manners : List Str := [("bag" : Str), ("one" : Str), ("other" : Str)]
def ps__law_manners : List Str := [("bag" : Str)]
theorem ck__law_manners : chkF nms N__law_manners ps__law_manners LLP.F__law_manners (defBody (top 40)) (defScope (top 40)) = true := by kernel_rfl
def N__law_rule : List Str := [("bag" : Str), ("sizes" : Str), ("lines" : Str), ("letters" : Str), ("end" : Str), ("deed" : Str), ("mode" : Str), ("later" : Str)]
def ps__law_rule : List Str := [("bag" : Str), ("sizes" : Str), ("lines" : Str), ("letters" : Str)]
theorem ck__law_rule : chkF nms N__law_rule ps__law_rule LLP.F__law_rule (defBody (top 41)) (defScope (top 41)) = true := by kernel_rfl
def N__law_talk : List Str := [("bag" : Str), ("most" : Str), ("manners" : Str), ("many" : Str), ("rules" : Str), ("turn_so" : Str), ("sizes" : Str), ("letters" : Str)]
def ps__law_talk : List Str := [("bag" : Str), ("most" : Str)]
theorem ck__law_talk : chkF nms N__law_talk ps__law_talk LLP.F__law_talk (defBody (top 42)) (defScope (top 42)) = true := by kernel_rfl
def N__law_fitted : List Str := [("manner" : Str), ("letters" : Str), ("text" : Str), ("one" : Str)]
def ps__law_fitted : List Str := [("manner" : Str), ("letters" : Str)]
theorem ck__law_fitted : chkF nms N__law_fitted ps__law_fitted LLP.F__law_fitted (defBody (top 43)) (defScope (top 43)) = true := by kernel_rfl
def N__law_part : List Str := [("one" : Str), ("other" : Str), ("left" : Str), ("letter" : Str)]
def ps__law_part : List Str := [("one" : Str), ("other" : Str)]
theorem ck__law_part : chkF nms N__law_part ps__law_part LLP.F__law_part (defBody (top 44)) (defScope (top 44)) = true := by kernel_rfl
def N__law_modes : List Str := [("modes" : Str), ("end" : Str), ("mode" : Str)]
def ps__law_modes : List Str := [("modes" : Str), ("end" : Str), ("mode" : Str)]
theorem ck__law_modes : chkF nms N__law_modes ps__law_modes LLP.F__law_modes (defBody (top 45)) (defScope (top 45)) = true := by kernel_rfl
def N__law_small_texts : List Str := [("manner" : Str), ("most" : Str), ("turn_so" : Str), ("rows" : Str), ("found" : Str), ("row" : Str)]
def ps__law_small_texts : List Str := [("manner" : Str), ("most" : Str)]
theorem ck__law_small_texts : chkF nms N__law_small_texts ps__law_small_texts LLP.F__law_small_texts (defBody (top 46)) (defScope (top 46)) = true := by kernel_rfl
def N__law_short : List Str := [("bag" : Str), ("talk" : Str), ("modes" : Str), ("some" : Str), ("manner" : Str)]
def ps__law_short : List Str := [("bag" : Str), ("talk" : Str), ("modes" : Str)]
theorem ck__law_short : chkF nms N__law_short ps__law_short LLP.F__law_short (defBody (top 47)) (defScope (top 47)) = true := by kernel_rfl
def N__law_all_over : List Str := [("talk" : Str), ("one" : Str), ("other" : Str), ("rows" : Str), ("manner" : Str), ("text" : Str), ("second" : Str), ("some" : Str), ("longer" : Str), ("row" : Str), ("whole" : Str), ("less" : Str)]
def ps__law_all_over : List Str := [("talk" : Str), ("one" : Str), ("other" : Str)]
theorem ck__law_all_over : chkF nms N__law_all_over ps__law_all_over LLP.F__law_all_over (defBody (top 48)) (defScope (top 48)) = true := by kernel_rfl
def N_law_k04 : List Str := [("script" : Str), ("k" : Str), ("told" : Str), ("bag" : Str), ("talk" : Str), ("modes" : Str), ("turn" : Str), ("rest" : Str), ("one" : Str), ("other" : Str), ("row" : Str), ("pair" : Str), ("text" : Str)]
def ps_law_k04 : List Str := [("script" : Str)]
theorem ck_law_k04 : chkF nms N_law_k04 ps_law_k04 LLP.F_law_k04 (defBody (top 49)) (defScope (top 49)) = true := by kernel_rfl
def ad (K : PySem.W.Frag) : Ad := ⟨fun _ => none, fun c => ((nms.exc[c]?).getD none).map (He.ga K), fun _ => none, fun _ => Str.empty, []⟩
section
variable {K : PySem.W.Frag} {h : Heap} {mg : Str → Option Value}
theorem fnsH (X : K.In h) (G : h.Ns mainGlobals mg) (c : SaysU fa fn tp K) : ∀ (f : Nat) (x : Str) (np : Nat), nms.fn[f]? = some (some (x, np)) → ∃ (a : Addr) (fd : FuncData) (ps N : List Str) (params : Arguments) (body : List Stmt) (sc : Scope) (m : LL.Fun),
    mg x = some (.ref a) ∧ FunD K x x params body sc [] [] a fd ∧ Binds K fd ps [] ∧ LLP.prog.fn f = some m ∧ chkF nms N ps m body sc = true
  | 0, _, _, h => by
    cases h
    obtain ⟨fd, F⟩ := c.d.def_ 0 (d := mkD "is_integer" 8) rfl
    exact ⟨_, fd, ps_is_integer, N_is_integer, _, _, _, LLP.F_is_integer, He.glo_ok X G (c.d.fact 0 (f := .glo "is_integer") rfl), F, F.bindsN (fun _ _ _ _ _ _ us hl => match us, hl with | [_, _, _], _ => rfl), rfl, ck_is_integer⟩
  | 1, _, _, h => by
    cases h
    obtain ⟨fd, F⟩ := c.d.def_ 1 (d := mkD "is_text" 9) rfl
    exact ⟨_, fd, ps_is_text, N_is_text, _, _, _, LLP.F_is_text, He.glo_ok X G (c.d.fact 1 (f := .glo "is_text") rfl), F, F.bindsN (fun _ _ _ _ _ _ us hl => match us, hl with | [_, _], _ => rfl), rfl, ck_is_text⟩
  | 2, _, _, h => by
    cases h
    obtain ⟨fd, F⟩ := c.d.def_ 2 (d := mkD "is_pair" 10) rfl
    exact ⟨_, fd, ps_is_pair, N_is_pair, _, _, _, LLP.F_is_pair, He.glo_ok X G (c.d.fact 2 (f := .glo "is_pair") rfl), F, F.bindsN (fun _ _ _ _ _ _ us hl => match us, hl with | [_, _], _ => rfl), rfl, ck_is_pair⟩
  | 3, _, _, h => by
    cases h
    obtain ⟨fd, F⟩ := c.d.def_ 3 (d := mkD "are_sizes" 11) rfl
    exact ⟨_, fd, ps_are_sizes, N_are_sizes, _, _, _, LLP.F_are_sizes, He.glo_ok X G (c.d.fact 3 (f := .glo "are_sizes") rfl), F, F.bindsN (fun _ _ _ _ _ _ us hl => match us, hl with | [_], _ => rfl), rfl, ck_are_sizes⟩
  | 4, _, _, h => by
    cases h
    obtain ⟨fd, F⟩ := c.d.def_ 4 (d := mkD "are_manners" 12) rfl
    exact ⟨_, fd, ps_are_manners, N_are_manners, _, _, _, LLP.F_are_manners, He.glo_ok X G (c.d.fact 4 (f := .glo "are_manners") rfl), F, F.bindsN (fun _ _ _ _ _ _ us hl => match us, hl with | [_], _ => rfl), rfl, ck_are_manners⟩
  | 5, _, _, h => by
    cases h
    obtain ⟨fd, F⟩ := c.d.def_ 5 (d := mkD "is_deed" 13) rfl
    exact ⟨_, fd, ps_is_deed, N_is_deed, _, _, _, LLP.F_is_deed, He.glo_ok X G (c.d.fact 5 (f := .glo "is_deed") rfl), F, F.bindsN (fun _ _ _ _ _ _ us hl => match us, hl with | [_, _], _ => rfl), rfl, ck_is_deed⟩
  | 6, _, _, h => by
    cases h
    obtain ⟨fd, F⟩ := c.d.def_ 6 (d := mkD "is_rule" 14) rfl
    exact ⟨_, fd, ps_is_rule, N_is_rule, _, _, _, LLP.F_is_rule, He.glo_ok X G (c.d.fact 6 (f := .glo "is_rule") rfl), F, F.bindsN (fun _ _ _ _ _ _ us hl => match us, hl with | [_, _, _], _ => rfl), rfl, ck_is_rule⟩
  | 7, _, _, h => by
    cases h
    obtain ⟨fd, F⟩ := c.d.def_ 7 (d := mkD "is_talk" 15) rfl
    exact ⟨_, fd, ps_is_talk, N_is_talk, _, _, _, LLP.F_is_talk, He.glo_ok X G (c.d.fact 7 (f := .glo "is_talk") rfl), F, F.bindsN (fun _ _ _ _ _ _ us hl => match us, hl with | [_], _ => rfl), rfl, ck_is_talk⟩
  | 8, _, _, h => by
    cases h
    obtain ⟨fd, F⟩ := c.d.def_ 8 (d := mkD "in_order" 16) rfl
    exact ⟨_, fd, ps_in_order, N_in_order, _, _, _, LLP.F_in_order, He.glo_ok X G (c.d.fact 8 (f := .glo "in_order") rfl), F, F.bindsN (fun _ _ _ _ _ _ us hl => match us, hl with | [_], _ => rfl), rfl, ck_in_order⟩
  | 9, _, _, h => by
    cases h
    obtain ⟨fd, F⟩ := c.d.def_ 9 (d := mkD "fits_line" 17) rfl
    exact ⟨_, fd, ps_fits_line, N_fits_line, _, _, _, LLP.F_fits_line, He.glo_ok X G (c.d.fact 9 (f := .glo "fits_line") rfl), F, F.bindsN (fun _ _ _ _ _ _ us hl => match us, hl with | [_, _], _ => rfl), rfl, ck_fits_line⟩
  | 10, _, _, h => by
    cases h
    obtain ⟨fd, F⟩ := c.d.def_ 10 (d := mkD "is_one" 18) rfl
    exact ⟨_, fd, ps_is_one, N_is_one, _, _, _, LLP.F_is_one, He.glo_ok X G (c.d.fact 10 (f := .glo "is_one") rfl), F, F.bindsN (fun _ _ _ _ _ _ us hl => match us, hl with | [_, _], _ => rfl), rfl, ck_is_one⟩
  | 11, _, _, h => by
    cases h
    obtain ⟨fd, F⟩ := c.d.def_ 11 (d := mkD "need_talk" 19) rfl
    exact ⟨_, fd, ps_need_talk, N_need_talk, _, _, _, LLP.F_need_talk, He.glo_ok X G (c.d.fact 11 (f := .glo "need_talk") rfl), F, F.bindsN (fun _ _ _ _ _ _ us hl => match us, hl with | [_], _ => rfl), rfl, ck_need_talk⟩
  | 12, _, _, h => by cases h
  | 13, _, _, h => by cases h
  | 14, _, _, h => by cases h
  | 15, _, _, h => by
    cases h
    obtain ⟨fd, F⟩ := c.d.def_ 22 (d := mkD "_law_cell" 32) rfl
    exact ⟨_, fd, ps__law_cell, N__law_cell, _, _, _, LLP.F__law_cell, He.glo_ok X G (c.d.fact 22 (f := .glo "_law_cell") rfl), F, F.bindsN (fun _ _ _ _ _ _ us hl => match us, hl with | [_, _], _ => rfl), rfl, ck__law_cell⟩
  | 16, _, _, h => by
    cases h
    obtain ⟨fd, F⟩ := c.d.def_ 23 (d := mkD "_law_draws" 33) rfl
    exact ⟨_, fd, ps__law_draws, N__law_draws, _, _, _, LLP.F__law_draws, He.glo_ok X G (c.d.fact 23 (f := .glo "_law_draws") rfl), F, F.bindsN (fun _ _ _ _ _ _ us hl => match us, hl with | [_, _, _, _], _ => rfl), rfl, ck__law_draws⟩
  | 17, _, _, h => by
    cases h
    obtain ⟨fd, F⟩ := c.d.def_ 24 (d := mkD "_law_bag" 34) rfl
    exact ⟨_, fd, ps__law_bag, N__law_bag, _, _, _, LLP.F__law_bag, He.glo_ok X G (c.d.fact 24 (f := .glo "_law_bag") rfl), F, F.bindsN (fun _ _ _ _ _ _ us hl => match us, hl with | [_, _], _ => rfl), rfl, ck__law_bag⟩
  | 18, _, _, h => by
    cases h
    obtain ⟨fd, F⟩ := c.d.def_ 25 (d := mkD "_law_take" 35) rfl
    exact ⟨_, fd, ps__law_take, N__law_take, _, _, _, LLP.F__law_take, He.glo_ok X G (c.d.fact 25 (f := .glo "_law_take") rfl), F, F.bindsN (fun _ _ _ _ _ _ us hl => match us, hl with | [_, _], _ => rfl), rfl, ck__law_take⟩
  | 19, _, _, h => by
    cases h
    obtain ⟨fd, F⟩ := c.d.def_ 26 (d := mkD "_law_choice" 36) rfl
    exact ⟨_, fd, ps__law_choice, N__law_choice, _, _, _, LLP.F__law_choice, He.glo_ok X G (c.d.fact 26 (f := .glo "_law_choice") rfl), F, F.bindsN (fun _ _ _ _ _ _ us hl => match us, hl with | [_, _], _ => rfl), rfl, ck__law_choice⟩
  | 20, _, _, h => by
    cases h
    obtain ⟨fd, F⟩ := c.d.def_ 27 (d := mkD "_law_ascending" 37) rfl
    exact ⟨_, fd, ps__law_ascending, N__law_ascending, _, _, _, LLP.F__law_ascending, He.glo_ok X G (c.d.fact 27 (f := .glo "_law_ascending") rfl), F, F.bindsN (fun _ _ _ _ _ _ us hl => match us, hl with | [_], _ => rfl), rfl, ck__law_ascending⟩
  | 21, _, _, h => by
    cases h
    obtain ⟨fd, F⟩ := c.d.def_ 28 (d := mkD "_law_letters" 38) rfl
    exact ⟨_, fd, ps__law_letters, N__law_letters, _, _, _, LLP.F__law_letters, He.glo_ok X G (c.d.fact 28 (f := .glo "_law_letters") rfl), F, F.bindsN (fun _ _ _ _ _ _ us hl => match us, hl with | [_], _ => rfl), rfl, ck__law_letters⟩
  | 22, _, _, h => by
    cases h
    obtain ⟨fd, F⟩ := c.d.def_ 29 (d := mkD "_law_sizes" 39) rfl
    exact ⟨_, fd, ps__law_sizes, N__law_sizes, _, _, _, LLP.F__law_sizes, He.glo_ok X G (c.d.fact 29 (f := .glo "_law_sizes") rfl), F, F.bindsN (fun _ _ _ _ _ _ us hl => match us, hl with | [_], _ => rfl), rfl, ck__law_sizes⟩
  | 23, _, _, h => by
    cases h
    obtain ⟨fd, F⟩ := c.d.def_ 30 (d := mkD "_law_manners" 40) rfl
    exact ⟨_, fd, ps__law_manners, N__law_manners, _, _, _, LLP.F__law_manners, He.glo_ok X G (c.d.fact 30 (f := .glo "_law_manners") rfl), F, F.bindsN (fun _ _ _ _ _ _ us hl => match us, hl with | [_], _ => rfl), rfl, ck__law_manners⟩
  | 24, _, _, h => by
    cases h
    obtain ⟨fd, F⟩ := c.d.def_ 31 (d := mkD "_law_rule" 41) rfl
    exact ⟨_, fd, ps__law_rule, N__law_rule, _, _, _, LLP.F__law_rule, He.glo_ok X G (c.d.fact 31 (f := .glo "_law_rule") rfl), F, F.bindsN (fun _ _ _ _ _ _ us hl => match us, hl with | [_, _, _, _], _ => rfl), rfl, ck__law_rule⟩
  | 25, _, _, h => by
    cases h
    obtain ⟨fd, F⟩ := c.d.def_ 32 (d := mkD "_law_talk" 42) rfl
    exact ⟨_, fd, ps__law_talk, N__law_talk, _, _, _, LLP.F__law_talk, He.glo_ok X G (c.d.fact 32 (f := .glo "_law_talk") rfl), F, F.bindsN (fun _ _ _ _ _ _ us hl => match us, hl with | [_, _], _ => rfl), rfl, ck__law_talk⟩
  | 26, _, _, h => by
    cases h
    obtain ⟨fd, F⟩ := c.d.def_ 33 (d := mkD "_law_fitted" 43) rfl
    exact ⟨_, fd, ps__law_fitted, N__law_fitted, _, _, _, LLP.F__law_fitted, He.glo_ok X G (c.d.fact 33 (f := .glo "_law_fitted") rfl), F, F.bindsN (fun _ _ _ _ _ _ us hl => match us, hl with | [_, _], _ => rfl), rfl, ck__law_fitted⟩
  | 27, _, _, h => by cases h
  | 28, _, _, h => by cases h
  | 29, _, _, h => by cases h
  | 30, _, _, h => by cases h
  | 31, _, _, h => by cases h
  | 32, _, _, h => by cases h
  | 33, _, _, h => by cases h
  | 34, _, _, h => by cases h
  | 35, _, _, h => by cases h
  | 36, _, _, h => by cases h
  | 37, _, _, h => by cases h
  | 38, _, _, h => by cases h
  | 39, _, _, h => by cases h
  | 40, _, _, h => by cases h
  | 41, _, _, h => by
    cases h
    obtain ⟨fd, F⟩ := c.d.def_ 12 (d := mkD "need_situation" 20) rfl
    exact ⟨_, fd, ps_need_situation, N_need_situation, _, _, _, LLP.F_need_situation, He.glo_ok X G (c.d.fact 12 (f := .glo "need_situation") rfl), F, F.bindsN (fun _ _ _ _ _ _ us hl => match us, hl with | [_, _], _ => rfl), rfl, ck_need_situation⟩
  | 42, _, _, h => by cases h
  | 43, _, _, h => by cases h
  | 44, _, _, h => by cases h
  | 45, _, _, h => by cases h
  | 46, _, _, h => by cases h
  | 47, _, _, h => by
    cases h
    obtain ⟨fd, F⟩ := c.d.def_ 35 (d := mkD "_law_modes" 45) rfl
    exact ⟨_, fd, ps__law_modes, N__law_modes, _, _, _, LLP.F__law_modes, He.glo_ok X G (c.d.fact 35 (f := .glo "_law_modes") rfl), F, F.bindsN (fun _ _ _ _ _ _ us hl => match us, hl with | [_, _, _], _ => rfl), rfl, ck__law_modes⟩
  | 48, _, _, h => by cases h
  | 49, _, _, h => by cases h
  | 50, _, _, h => by cases h
  | 51, _, _, h => by cases h
  | 52, _, _, h => by
    cases h
    obtain ⟨fd, F⟩ := c.d.def_ 13 (d := mkD "is_part_of" 22) rfl
    exact ⟨_, fd, ps_is_part_of, N_is_part_of, _, _, _, LLP.F_is_part_of, He.glo_ok X G (c.d.fact 13 (f := .glo "is_part_of") rfl), F, F.bindsN (fun _ _ _ _ _ _ us hl => match us, hl with | [_, _], _ => rfl), rfl, ck_is_part_of⟩
  | 53, _, _, h => by
    cases h
    obtain ⟨fd, F⟩ := c.d.def_ 14 (d := mkD "is_below" 23) rfl
    exact ⟨_, fd, ps_is_below, N_is_below, _, _, _, LLP.F_is_below, He.glo_ok X G (c.d.fact 14 (f := .glo "is_below") rfl), F, F.bindsN (fun _ _ _ _ _ _ us hl => match us, hl with | [_, _], _ => rfl), rfl, ck_is_below⟩
  | 54, _, _, h => by
    cases h
    obtain ⟨fd, F⟩ := c.d.def_ 15 (d := mkD "place_in" 24) rfl
    exact ⟨_, fd, ps_place_in, N_place_in, _, _, _, LLP.F_place_in, He.glo_ok X G (c.d.fact 15 (f := .glo "place_in") rfl), F, F.bindsN (fun _ _ _ _ _ _ us hl => match us, hl with | [_, _], _ => rfl), rfl, ck_place_in⟩
  | 55, _, _, h => by
    cases h
    obtain ⟨fd, F⟩ := c.d.def_ 16 (d := mkD "ascending" 25) rfl
    exact ⟨_, fd, ps_ascending, N_ascending, _, _, _, LLP.F_ascending, He.glo_ok X G (c.d.fact 16 (f := .glo "ascending") rfl), F, F.bindsN (fun _ _ _ _ _ _ us hl => match us, hl with | [_], _ => rfl), rfl, ck_ascending⟩
  | 56, _, _, h => by
    cases h
    obtain ⟨fd, F⟩ := c.d.def_ 17 (d := mkD "least_of" 26) rfl
    exact ⟨_, fd, ps_least_of, N_least_of, _, _, _, LLP.F_least_of, He.glo_ok X G (c.d.fact 17 (f := .glo "least_of") rfl), F, F.bindsN (fun _ _ _ _ _ _ us hl => match us, hl with | [_], _ => rfl), rfl, ck_least_of⟩
  | 57, _, _, h => by cases h
  | 58, _, _, h => by cases h
  | 59, _, _, h => by cases h
  | 60, _, _, h => by
    cases h
    obtain ⟨fd, F⟩ := c.d.def_ 34 (d := mkD "_law_part" 44) rfl
    exact ⟨_, fd, ps__law_part, N__law_part, _, _, _, LLP.F__law_part, He.glo_ok X G (c.d.fact 34 (f := .glo "_law_part") rfl), F, F.bindsN (fun _ _ _ _ _ _ us hl => match us, hl with | [_, _], _ => rfl), rfl, ck__law_part⟩
  | 61, _, _, h => by cases h
  | 62, _, _, h => by cases h
  | 63, _, _, h => by cases h
  | 64, _, _, h => by cases h
  | 65, _, _, h => by
    cases h
    obtain ⟨fd, F⟩ := c.d.def_ 18 (d := mkD "shortest_over" 27) rfl
    exact ⟨_, fd, ps_shortest_over, N_shortest_over, _, _, _, LLP.F_shortest_over, He.glo_ok X G (c.d.fact 18 (f := .glo "shortest_over") rfl), F, F.bindsN (fun _ _ _ _ _ _ us hl => match us, hl with | [_, _], _ => rfl), rfl, ck_shortest_over⟩
  | 66, _, _, h => by
    cases h
    obtain ⟨fd, F⟩ := c.d.def_ 19 (d := mkD "texts_over" 28) rfl
    exact ⟨_, fd, ps_texts_over, N_texts_over, _, _, _, LLP.F_texts_over, He.glo_ok X G (c.d.fact 19 (f := .glo "texts_over") rfl), F, F.bindsN (fun _ _ _ _ _ _ us hl => match us, hl with | [_, _, _], _ => rfl), rfl, ck_texts_over⟩
  | 67, _, _, h => by
    cases h
    obtain ⟨fd, F⟩ := c.d.def_ 20 (d := mkD "common_of" 29) rfl
    exact ⟨_, fd, ps_common_of, N_common_of, _, _, _, LLP.F_common_of, He.glo_ok X G (c.d.fact 20 (f := .glo "common_of") rfl), F, F.bindsN (fun _ _ _ _ _ _ us hl => match us, hl with | [_, _, _], _ => rfl), rfl, ck_common_of⟩
  | 68, _, _, h => by
    cases h
    obtain ⟨fd, F⟩ := c.d.def_ 21 (d := mkD "common" 30) rfl
    exact ⟨_, fd, ps_common, N_common, _, _, _, LLP.F_common, He.glo_ok X G (c.d.fact 21 (f := .glo "common") rfl), F, F.bindsN (fun _ _ _ _ _ _ us hl => match us, hl with | [_, _, _], _ => rfl), rfl, ck_common⟩
  | 69, _, _, h => by
    cases h
    obtain ⟨fd, F⟩ := c.d.def_ 36 (d := mkD "_law_small_texts" 46) rfl
    exact ⟨_, fd, ps__law_small_texts, N__law_small_texts, _, _, _, LLP.F__law_small_texts, He.glo_ok X G (c.d.fact 36 (f := .glo "_law_small_texts") rfl), F, F.bindsN (fun _ _ _ _ _ _ us hl => match us, hl with | [_, _], _ => rfl), rfl, ck__law_small_texts⟩
  | 70, _, _, h => by
    cases h
    obtain ⟨fd, F⟩ := c.d.def_ 37 (d := mkD "_law_short" 47) rfl
    exact ⟨_, fd, ps__law_short, N__law_short, _, _, _, LLP.F__law_short, He.glo_ok X G (c.d.fact 37 (f := .glo "_law_short") rfl), F, F.bindsN (fun _ _ _ _ _ _ us hl => match us, hl with | [_, _, _], _ => rfl), rfl, ck__law_short⟩
  | 71, _, _, h => by
    cases h
    obtain ⟨fd, F⟩ := c.d.def_ 38 (d := mkD "_law_all_over" 48) rfl
    exact ⟨_, fd, ps__law_all_over, N__law_all_over, _, _, _, LLP.F__law_all_over, He.glo_ok X G (c.d.fact 38 (f := .glo "_law_all_over") rfl), F, F.bindsN (fun _ _ _ _ _ _ us hl => match us, hl with | [_, _, _], _ => rfl), rfl, ck__law_all_over⟩
  | 72, _, _, h => by
    cases h
    obtain ⟨fd, F⟩ := c.d.def_ 39 (d := mkD "law" 49) rfl
    exact ⟨_, fd, ps_law_k04, N_law_k04, _, _, _, LLP.F_law_k04, He.glo_ok X G (c.d.fact 39 (f := .glo "law") rfl), F, F.bindsN (fun _ _ _ _ _ _ us hl => match us, hl with | [_], _ => rfl), rfl, ck_law_k04⟩
  | 73, _, _, h => by cases h
  | 74, _, _, h => by cases h
  | 75, _, _, h => by cases h
  | 76, _, _, h => by cases h
  | 77, _, _, h => by cases h
  | 78, _, _, h => by cases h
  | 79, _, _, h => by cases h
  | 80, _, _, h => by cases h
  | 81, _, _, h => by cases h
  | 82, _, _, h => by cases h
  | 83, _, _, h => by cases h
  | 84, _, _, h => by cases h
  | 85, _, _, h => by cases h
  | 86, _, _, h => by cases h
  | 87, _, _, h => by cases h
  | 88, _, _, h => by cases h
  | 89, _, _, h => by cases h
  | 90, _, _, h => by cases h
  | 91, _, _, h => by cases h
  | 92, _, _, h => by cases h
  | 93, _, _, h => by cases h
  | 94, _, _, h => by cases h
  | 95, _, _, h => by cases h
  | 96, _, _, h => by cases h
  | 97, _, _, h => by cases h
  | 98, _, _, h => by cases h
  | 99, _, _, h => by cases h
  | 100, _, _, h => by cases h
  | 101, _, _, h => by cases h
  | 102, _, _, h => by cases h
  | 103, _, _, h => by cases h
  | 104, _, _, h => by cases h
  | 105, _, _, h => by cases h
  | 106, _, _, h => by cases h
  | 107, _, _, h => by cases h
  | 108, _, _, h => by cases h
  | 109, _, _, h => by cases h
  | 110, _, _, h => by cases h
  | 111, _, _, h => by cases h
  | 112, _, _, h => by cases h
  | 113, _, _, h => by cases h
  | 114, _, _, h => by cases h
  | 115, _, _, h => by cases h
  | 116, _, _, h => by cases h
  | 117, _, _, h => by cases h
  | 118, _, _, h => by cases h
  | 119, _, _, h => by cases h
  | 120, _, _, h => by cases h
  | 121, _, _, h => by cases h
  | 122, _, _, h => by cases h
  | 123, _, _, h => by cases h
  | 124, _, _, h => by cases h
  | 125, _, _, h => by cases h
  | 126, _, _, h => by cases h
  | 127, _, _, h => by cases h
  | 128, _, _, h => by cases h
  | 129, _, _, h => by cases h
  | 130, _, _, h => by cases h
  | 131, _, _, h => by cases h
  | 132, _, _, h => by cases h
  | 133, _, _, h => by cases h
  | 134, _, _, h => by cases h
  | 135, _, _, h => by cases h
  | 136, _, _, h => by cases h
  | 137, _, _, h => by cases h
  | 138, _, _, h => by cases h
  | 139, _, _, h => by cases h
  | 140, _, _, h => by cases h
  | 141, _, _, h => by cases h
  | 142, _, _, h => by cases h
  | 143, _, _, h => by cases h
  | 144, _, _, h => by cases h
  | 145, _, _, h => by cases h
  | 146, _, _, h => by cases h
  | 147, _, _, h => by cases h
  | 148, _, _, h => by cases h
  | 149, _, _, h => by cases h
  | 150, _, _, h => by cases h
  | 151, _, _, h => by cases h
  | 152, _, _, h => by cases h
  | 153, _, _, h => by cases h
  | 154, _, _, h => by cases h
  | 155, _, _, h => by cases h
  | 156, _, _, h => by cases h
  | 157, _, _, h => by cases h
  | 158, _, _, h => by cases h
  | 159, _, _, h => by cases h
  | 160, _, _, h => by cases h
  | 161, _, _, h => by cases h
  | 162, _, _, h => by cases h
  | 163, _, _, h => by cases h
  | 164, _, _, h => by cases h
  | 165, _, _, h => by cases h
  | 166, _, _, h => by cases h
  | 167, _, _, h => by cases h
  | 168, _, _, h => by cases h
  | 169, _, _, h => by cases h
  | 170, _, _, h => by cases h
  | 171, _, _, h => by cases h
  | 172, _, _, h => by cases h
  | 173, _, _, h => by cases h
  | 174, _, _, h => by cases h
  | 175, _, _, h => by cases h
  | 176, _, _, h => by cases h
  | 177, _, _, h => by cases h
  | 178, _, _, h => by cases h
  | 179, _, _, h => by cases h
  | 180, _, _, h => by cases h
  | 181, _, _, h => by cases h
  | 182, _, _, h => by cases h
  | 183, _, _, h => by cases h
  | 184, _, _, h => by cases h
  | 185, _, _, h => by cases h
  | 186, _, _, h => by cases h
  | 187, _, _, h => by cases h
  | 188, _, _, h => by cases h
  | 189, _, _, h => by cases h
  | n + 190, _, _, h => by simp [nms] at h
theorem gloH (X : K.In h) (G : h.Ns mainGlobals mg) (c : SaysU fa fn tp K) : ∀ (g : Nat) (x : Str) (t : LL.T), nms.glo[g]? = some (some x) → LLP.prog.glo g = some t → ∃ v u, mg x = some u ∧ RelV v u ∧ ∀ A' G ω, A'.fn = (ad K).fn → Rep K A' G ω t v
  | 0, _, _, h, h2 => by
    cases h; cases h2
    obtain ⟨t, e⟩ := He.str_ok X G (c.d.fact 60 (f := .str "LETTERS" "abc") rfl)
    exact ⟨.str (toS [97, 98, 99]), _, e, ⟨t, rfl⟩, fun _ _ _ _ => .str _⟩
  | 1, _, _, h, h2 => by
    cases h; cases h2
    exact ⟨.ref (He.ga K "MANNERS"), .ref (He.ga K "MANNERS"), He.glo_ok X G (c.d.fact 61 (f := .glo "MANNERS") rfl), rfl, fun _ G _ _ => .tup (He.tupB_ok (c.t (i := 0) rfl) G) (.cons (.str _) (.cons (.str _) (.cons (.str _) .nil)))⟩
  | 2, _, _, h, h2 => by
    cases h; cases h2
    obtain ⟨t, e⟩ := He.int_ok X G (c.d.fact 62 (f := .int "MOST" 60) rfl)
    exact ⟨.int 60, _, e, ⟨t, rfl⟩, fun _ _ _ _ => .int _⟩
  | n + 3, _, _, h, _ => by simp [nms] at h
theorem bltH (X : K.In h) (G : h.Ns mainGlobals mg) (c : SaysU fa fn tp K) : ∀ x ∈ bltNames, mg x = none := by
  intro x hx
  simp only [bltNames, List.mem_cons, List.not_mem_nil, or_false] at hx
  rcases hx with rfl | rfl | rfl | rfl | rfl | rfl | rfl | rfl | rfl | rfl | rfl | rfl | rfl | rfl
  · exact He.free_ok X G (c.d.fact 40 (f := .free "len") rfl)
  · exact He.free_ok X G (c.d.fact 41 (f := .free "all") rfl)
  · exact He.free_ok X G (c.d.fact 42 (f := .free "any") rfl)
  · exact He.free_ok X G (c.d.fact 43 (f := .free "max") rfl)
  · exact He.free_ok X G (c.d.fact 44 (f := .free "int") rfl)
  · exact He.free_ok X G (c.d.fact 45 (f := .free "str") rfl)
  · exact He.free_ok X G (c.d.fact 46 (f := .free "bool") rfl)
  · exact He.free_ok X G (c.d.fact 47 (f := .free "tuple") rfl)
  · exact He.free_ok X G (c.d.fact 48 (f := .free "list") rfl)
  · exact He.free_ok X G (c.d.fact 49 (f := .free "sorted") rfl)
  · exact He.free_ok X G (c.d.fact 50 (f := .free "isinstance") rfl)
  · exact He.free_ok X G (c.d.fact 51 (f := .free "range") rfl)
  · exact He.free_ok X G (c.d.fact 52 (f := .free "zip") rfl)
  · exact He.free_ok X G (c.d.fact 53 (f := .free "enumerate") rfl)
theorem excH (X : K.In h) (G : h.Ns mainGlobals mg) (c : SaysU fa fn tp K) : ∀ (e : Nat) (x : Str), nms.exc[e]? = some (some x) → ∃ Cc bmB B newId initId, ExcBaseFacts B newId initId bmB ∧ PySem.W.excIn K Cc bmB newId = true ∧ mg x = some (.ref Cc) ∧ PySem.W.keepIn K (.ref Cc) = true ∧
    PySem.W.subIn K (.ref Cc) (.type "BaseException") = some true ∧ PySem.W.typeIn K (.ref Cc) = some (.type "type") ∧ (ad K).exc e = some Cc
  | 0, _, h => by
    cases h
    obtain ⟨e1, e2, e3, e4⟩ := He.exc_ok (c.d.fact 55 (f := .exc "TalkError") rfl)
    exact ⟨He.ga K "TalkError", _, _, _, _, PySem.F.excBase_ValueError, e1, He.glo_ok X G (c.d.fact 54 (f := .glo "TalkError") rfl), e2, e3, e4, rfl⟩
  | 1, _, h => by
    cases h
    obtain ⟨e1, e2, e3, e4⟩ := He.exc_ok (c.d.fact 57 (f := .exc "InvalidTalk") rfl)
    exact ⟨He.ga K "InvalidTalk", _, _, _, _, PySem.F.excBase_ValueError, e1, He.glo_ok X G (c.d.fact 56 (f := .glo "InvalidTalk") rfl), e2, e3, e4, rfl⟩
  | 2, _, h => by
    cases h
    obtain ⟨e1, e2, e3, e4⟩ := He.exc_ok (c.d.fact 59 (f := .exc "InvalidSituation") rfl)
    exact ⟨He.ga K "InvalidSituation", _, _, _, _, PySem.F.excBase_ValueError, e1, He.glo_ok X G (c.d.fact 58 (f := .glo "InvalidSituation") rfl), e2, e3, e4, rfl⟩
  | 3, _, h => by cases h
  | 4, _, h => by cases h
  | 5, _, h => by cases h
  | 6, _, h => by cases h
  | 7, _, h => by cases h
  | 8, _, h => by cases h
  | 9, _, h => by cases h
  | 10, _, h => by cases h
  | 11, _, h => by cases h
  | 12, _, h => by cases h
  | 13, _, h => by cases h
  | 14, _, h => by cases h
  | n + 15, _, h => by simp [nms] at h
theorem hd (X : K.In h) (G : h.Ns mainGlobals mg) (c : SaysU fa fn tp K) : Hd K mg (ad K) nms LLP.prog := ⟨fnsH X G c, gloH X G c, bltH X G c, excH X G c⟩
end
end LLH
namespace LLH
open PySem PySem.Spec PyProof.Rows L2 LLS
theorem run (w : World) : HandSHeadRun.RunEq R (PySem.W.view R.prog [49]) hk ob 12000 loose w := by
  intro os
  kernel_rfl
end LLH

open PySem PySem.W PySem.Calls PyProof.Rows
theorem PySem.Challenge.cw_losslines_k04_what_is_above_both_holds : PySem.Challenge.rw_losslines_k04_what_is_above_both.Holds := by
  w_on; o_law
  refine HandSHeadRun.head_any (r := OpenLaw.row PySem.Challenge.rw_losslines_k04_what_is_above_both) (q := view (OpenLaw.row PySem.Challenge.rw_losslines_k04_what_is_above_both).prog [49]) (H := LLH.hk) (ob := LLH.ob) (M := 12000) (loose := LLH.loose) (d := HandSHeadRun.topDef (OpenLaw.row PySem.Challenge.rw_losslines_k04_what_is_above_both).prog 49) (kwd := []) LLH.ob_eq
    (by kernel_rfl) (fun s => by kernel_rfl) LLH.run (by kernel_rfl) (by kernel_rfl) (by kernel_rfl) (by rfl) (by first | assumption | decide +kernel) (by decide +kernel) ⟨rfl, rfl, rfl, rfl, rfl, by decide +kernel⟩ ?hw ?hc
  case hw => w_witness2
  case hc =>
    refine LLS.walk_ofEW (l := PySem.Challenge.rw_losslines_k04_what_is_above_both) (n := 63) (k := 14) (x := "script") (CX := fun w => L2.CX (PySem.Challenge.rw_losslines_k04_what_is_above_both).prog w) rfl (by decide) (by kernel_rfl) ⟨rfl, by decide, by decide⟩ ?F (fun w => LLS.cx_false)
    intro w mg fa h Y G hmg0
    obtain ⟨K, KX, c⟩ := Y
    have hmg : mg ("law" : PySem.Str) = some (.ref fa) := by
      have e : (HandSHeadRun.topDef (OpenLaw.row PySem.Challenge.rw_losslines_k04_what_is_above_both).prog 49).name = ("law" : PySem.Str) := by kernel_rfl
      rw [← e]
      exact hmg0
    obtain ⟨fd, F⟩ := c.d.def_ 39 (d := LLH.mkD "law" 49) rfl
    have eg := hmg.symm.trans (He.glo_ok KX G (c.d.fact 39 (f := .glo "law") rfl))
    cases eg
    have b := L2.FunD.bindsA (ps := ["script"]) F fun _ _ _ _ _ _ us hl => match us, hl with | [_], _ => rfl
    refine ⟨K, fd, LLS.spOf K (LLH.ad K) (LL.run LLP.prog 14 72), KX, fun s v => b s [v] rfl, fun H a ns hl _ hS => ?_, fun base hb1 hb2 => ?_⟩
    · obtain ⟨S, e⟩ := LLP.law_true_k04 ns hl
      exact LLS.sp_law rfl e hS
    · exact LLS.fn_step (LLH.hd KX G c) (LLS.fns_ok (LLH.hd KX G c) 13) F (m := LLP.F_law_k04) (N := LLH.N_law_k04) rfl LLH.ck_law_k04

