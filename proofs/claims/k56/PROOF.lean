import PyProof.Rows.All
import Wide.All
import OpenK.AllK
import Wide.FinOn
import HandS.ForMost
import HandS.Walk
import HandS.Defaults
import HandS.Wide
import HandS.WideBits
import HandS.IsInst
import HandS.Deep
import HandS.TupAny
import HandS.Conv
import HandS.Rev
import HandS.More
import HandS.SetFor
import HandS.Text
import PyProof.CollectStr
import PyProof.TupleOfSeq
import PyProof.ListStr
import PyProof.StrOps2
import KE.SortData
import KE.DataMinMax
import HandS.Style
import PyProof.Draws
import PyProof.EnumMake
import HandS.Zip
import PySem.Challenge.RW_wordtiles_k56_whole_answers_and_marks
set_option Elab.async false
set_option linter.all false
set_option maxRecDepth 100000
set_option maxHeartbeats 4000000
/-! WT core: value trees, core syntax, its evaluator. -/
namespace WT
open PySem L2

/-- a value as a tree -/
inductive D where
  | non | bl (b : Bool) | int (i : Int) | str (s : List Nat)
  | tup (xs : List D) | lst (xs : List D) | dct (kvs : List (D × D)) | scr (xs : List Int)
  | ins (c : Nat) (fs : List (Nat × D)) | fn (f : Nat)
  deriving Inhabited

inductive Ty where
  | int | str | bool | tuple | list | dict
  deriving DecidableEq

inductive Op where
  | add | sub | mul | fdiv | mod | pow | neg
  | eq | ne | lt | le | gt | ge | isin | notin | isN | notN | isTr
  | ix | rev
  | len | minB | maxB | abs | int | divm | list | tuple | sorted | sum | any | all | lrange | isi (t : Ty)
  deriving DecidableEq

/-! ### plain functions on trees -/
mutual
def imm : D → Bool
  | .non => true | .bl _ => true | .int _ => true | .str _ => true | .fn _ => true
  | .tup xs => immL xs
  | .lst _ => false | .dct _ => false | .scr _ => true | .ins _ _ => false
def immL : List D → Bool
  | [] => true
  | x :: xs => imm x && immL xs
end
def immV : List (D × D) → Bool
  | [] => true
  | x :: xs => imm x.1 && imm x.2 && immV xs
/-- a new top over parts that cannot change -/
def immEl : D → Bool
  | .lst xs => immL xs
  | .tup xs => immL xs
  | .dct kvs => immV kvs
  | d => imm d

mutual
def toP : D → Option PyData
  | .non => some .none | .bl b => some (.bool b) | .int i => some (.int i) | .str s => some (.str ⟨s.toArray⟩)
  | .tup xs => (toPs xs).map .tuple
  | .lst xs => (toPs xs).map .list
  | _ => none
def toPs : List D → Option (List PyData)
  | [] => some []
  | x :: xs => (toP x).bind fun y => (toPs xs).map fun ys => y :: ys
end
mutual
/-- data (no dict, no instance) of depth below n -/
def shal : Nat → D → Bool
  | _, .non => true | _, .bl _ => true | _, .int _ => true | _, .str _ => true
  | 0, .tup _ => false | 0, .lst _ => false
  | n + 1, .tup xs => shalL n xs
  | n + 1, .lst xs => shalL n xs
  | _, .dct _ => false | _, .ins _ _ => false | _, .fn _ => false | _, .scr _ => false
def shalL : Nat → List D → Bool
  | _, [] => true
  | n, x :: xs => shal n x && shalL n xs
end
def b2 (b : Bool) : Int := if b then 1 else 0
mutual
/-- == -/
def deq : D → D → Bool
  | .non, .non => true
  | .bl a, .bl b => a == b
  | .bl a, .int j => b2 a == j
  | .int i, .bl b => i == b2 b
  | .int i, .int j => i == j
  | .str x, .str y => x == y
  | .lst xs, .lst ys => deqL xs ys
  | .tup xs, .tup ys => deqL xs ys
  | _, _ => false
def deqL : List D → List D → Bool
  | [], [] => true
  | x :: xs, y :: ys => deq x y && deqL xs ys
  | [], _ :: _ => false
  | _ :: _, [] => false
end
def ltS (a b : List Nat) : Bool := decide (a < b)
def leS (a b : List Nat) : Bool := !decide (b < a)
def asInts : List D → Option (List Int)
  | [] => some []
  | .int i :: r => (asInts r).map (i :: ·)
  | _ => none
def asStrs : List D → Option (List (List Nat))
  | [] => some []
  | .str i :: r => (asStrs r).map (i :: ·)
  | _ => none
def asBls : List D → Option (List Bool)
  | [] => some []
  | .bl i :: r => (asBls r).map (i :: ·)
  | _ => none
def line : Nat := 16777216
def small64 (i : Int) : Bool := decide (-(2 ^ 64) < i) && decide (i < 2 ^ 64)
/-- does x stand in y, both lists of codes -/
def subOcc (x y : List Nat) : Bool := x.isPrefixOf y || match y with | [] => false | _ :: r => subOcc x r
def maxI : Int → List Int → Int
  | m, [] => m
  | m, x :: r => maxI (if m < x then x else m) r
def minI : Int → List Int → Int
  | m, [] => m
  | m, x :: r => minI (if x < m then x else m) r
def joinS (sep : List Nat) : List (List Nat) → List Nat
  | [] => []
  | [x] => x
  | x :: y :: r => x ++ (sep ++ joinS sep (y :: r))
def cutL {α : Type} (xs : List α) (lo hi : Option Int) : List α :=
  (xs.drop (HT.sIx xs.length 0 lo)).take (HT.sIx xs.length xs.length hi - HT.sIx xs.length 0 lo)
def rangeL (lo : Int) : Nat → List Int
  | 0 => []
  | n + 1 => lo :: rangeL (lo + 1) n
def rangeC (lo c : Int) : Nat → List Int
  | 0 => []
  | n + 1 => lo :: rangeC (lo + c) c n
def idx? (x : D) : List D → Option Nat
  | [] => none
  | y :: r => if deq y x then some 0 else (idx? x r).map (· + 1)
def isKey : D → Bool
  | .int _ => true | .str _ => true | _ => false
def kget (k : D) : List (D × D) → Option D
  | [] => none
  | (a, b) :: r => if deq a k then some b else kget k r
def kput (k v : D) (kvs : List (D × D)) : List (D × D) :=
  if (kvs.any fun kv => deq kv.1 k) then kvs.map (fun kv => if deq kv.1 k then (kv.1, v) else kv) else kvs ++ [(k, v)]
def isT : Ty → D → Option Bool
  | .int, .int _ => some true | .int, .bl _ => some true
  | .bool, .bl _ => some true
  | .str, .str _ => some true
  | .tuple, .tup _ => some true
  | .list, .lst _ => some true
  | .dict, .dct _ => some true
  | _, .fn _ => none | _, .scr _ => none
  | _, _ => some false

def p_add : List D → Option (D × Bool)
  | [.int i, .int j] => some (.int (i + j), true)
  | [.str a, .str b] => if a.length + b.length ≤ line then some (.str (a ++ b), true) else none
  | [.lst a, .lst b] => if a.length + b.length ≤ line then some (.lst (a ++ b), true) else none
  | [.tup a, .tup b] => if a.length + b.length ≤ line then some (.tup (a ++ b), true) else none
  | _ => none
def p_sub : List D → Option (D × Bool)
  | [.int i, .int j] => some (.int (i - j), true)
  | _ => none
def p_mul : List D → Option (D × Bool)
  | [.int i, .int j] => if small64 i || small64 j then some (.int (i * j), true) else none
  | [.str a, .int n] => if -1000000 < n && n < 1000000 && a.length * n.toNat ≤ line then some (.str (List.replicate n.toNat a).flatten, true) else none
  | _ => none
def p_fdiv : List D → Option (D × Bool)
  | [.int i, .int j] => if 0 < j && j < 1073741824 then some (.int (i / j), true) else none
  | _ => none
def p_mod : List D → Option (D × Bool)
  | [.int i, .int j] => if 0 < j then some (.int (i % j), true) else none
  | _ => none
def p_pow : List D → Option (D × Bool)
  | [.int i, .int j] => if 0 ≤ j && j ≤ 1000000 && i.natAbs < 2 ^ 64 then some (.int (i ^ j.toNat), true) else none
  | _ => none
def p_neg : List D → Option (D × Bool)
  | [.int i] => some (.int (-i), true)
  | _ => none
def p_eq : List D → Option (D × Bool)
  | [a, b] => if shal 60 a && shal 60 b then some (.bl (deq a b), true) else none
  | _ => none
def p_ne : List D → Option (D × Bool)
  | [a, b] => if shal 60 a && shal 60 b then some (.bl (!deq a b), true) else none
  | _ => none
def p_lt : List D → Option (D × Bool)
  | [.int i, .int j] => some (.bl (decide (i < j)), true)
  | [.str a, .str b] => some (.bl (ltS a b), true)
  | _ => none
def p_le : List D → Option (D × Bool)
  | [.int i, .int j] => some (.bl (decide (i ≤ j)), true)
  | [.str a, .str b] => some (.bl (leS a b), true)
  | _ => none
def p_gt : List D → Option (D × Bool)
  | [.int i, .int j] => some (.bl (decide (j < i)), true)
  | _ => none
def p_ge : List D → Option (D × Bool)
  | [.int i, .int j] => some (.bl (decide (j ≤ i)), true)
  | _ => none
def p_isin : List D → Option (D × Bool)
  | [.str [c], .str b] => some (.bl (b.contains c), true)
  | [x, .lst ys] => if shal 59 x && shalL 59 ys then some (.bl (ys.any fun y => deq y x), true) else none
  | [x, .tup ys] => if shal 0 x && shalL 0 ys then some (.bl (ys.any fun y => deq y x), true) else none
  | [x, .dct kvs] => if isKey x then some (.bl (kget x kvs).isSome, true) else none
  | _ => none
def p_notin : List D → Option (D × Bool)
  | [.str [c], .str b] => some (.bl (!b.contains c), true)
  | [x, .lst ys] => if shal 59 x && shalL 59 ys then some (.bl (!ys.any fun y => deq y x), true) else none
  | [x, .tup ys] => if shal 0 x && shalL 0 ys then some (.bl (!ys.any fun y => deq y x), true) else none
  | [x, .dct kvs] => if isKey x then some (.bl (!(kget x kvs).isSome), true) else none
  | _ => none
def p_isN : List D → Option (D × Bool)
  | [.non] => some (.bl true, true)
  | [_] => some (.bl false, true)
  | _ => none
def p_notN : List D → Option (D × Bool)
  | [.non] => some (.bl false, true)
  | [_] => some (.bl true, true)
  | _ => none
def p_isTr : List D → Option (D × Bool)
  | [.bl b] => some (.bl b, true)
  | _ => none
def p_ix : List D → Option (D × Bool)
  | [.str s, .int i] => if s.length ≤ line then (atI s i).map fun c => (.str [c], true) else none
  | [.lst xs, .int i] => (atI xs i).map fun d => (d, false)
  | [.tup xs, .int i] => (atI xs i).map fun d => (d, false)
  | [.scr xs, .int i] => (atI xs i).map fun d => (.int d, true)
  | [.dct kvs, k] => if isKey k then (kget k kvs).map fun d => (d, false) else none
  | _ => none
def p_rev : List D → Option (D × Bool)
  | [.str s] => if s.length ≤ line then some (.str s.reverse, true) else none
  | [.lst s] => some (.lst s.reverse, true)
  | _ => none
def p_len : List D → Option (D × Bool)
  | [.str s] => if s.length ≤ line then some (.int s.length, true) else none
  | [.lst s] => some (.int s.length, true)
  | [.tup s] => some (.int s.length, true)
  | [.scr s] => some (.int s.length, true)
  | [.dct s] => some (.int s.length, true)
  | _ => none
def p_minB : List D → Option (D × Bool)
  | [.int i, .int j] => some (.int (if j < i then j else i), true)
  | [.lst xs] => match asInts xs with | some (x :: r) => some (.int (minI x r), true) | _ => none
  | [.tup xs] => match asInts xs with | some (x :: r) => some (.int (minI x r), true) | _ => none
  | _ => none
def p_maxB : List D → Option (D × Bool)
  | [.int i, .int j] => some (.int (if i < j then j else i), true)
  | [.lst xs] => match asInts xs with | some (x :: r) => some (.int (maxI x r), true) | _ => none
  | [.tup xs] => match asInts xs with | some (x :: r) => some (.int (maxI x r), true) | _ => none
  | _ => none
def p_abs : List D → Option (D × Bool)
  | [.int i] => some (.int i.natAbs, true)
  | _ => none
def p_int : List D → Option (D × Bool)
  | [.int i] => some (.int i, true)
  | _ => none
def p_divm : List D → Option (D × Bool)
  | [.int i, .int j] => if 0 < j && j < 1073741824 then some (.tup [.int (i / j), .int (i % j)], true) else none
  | _ => none
def p_list : List D → Option (D × Bool)
  | [.lst xs] => some (.lst xs, true)
  | [.tup xs] => some (.lst xs, true)
  | [.dct kvs] => some (.lst (kvs.map (·.1)), true)
  | [.str s] => if s.length ≤ line then some (.lst (s.map fun c => .str [c]), true) else none
  | _ => none
def p_tuple : List D → Option (D × Bool)
  | [.lst xs] => some (.tup xs, true)
  | [.tup xs] => some (.tup xs, false)
  | _ => none
def p_sorted : List D → Option (D × Bool)
  | [.lst xs] => if xs.length < 64 then
      (match asInts xs with
        | some ns => some (.lst ((ns.mergeSort fun a b => decide (a ≤ b)).map .int), true)
        | none => match asStrs xs with
          | some ss => some (.lst ((ss.mergeSort leS).map .str), true)
          | none => (asBls xs).map fun bs => (.lst ((bs.mergeSort fun a b => !a || b).map .bl), true)) else none
  | [.tup xs] => if xs.length < 64 then (asStrs xs).map fun ss => (.lst ((ss.mergeSort leS).map .str), true) else none
  | [.str s] => if s.length < 64 then some (.lst (((s.map fun c => [c]).mergeSort leS).map .str), true) else none
  | [.dct kvs] => if kvs.length < 64 then (asStrs (kvs.map (·.1))).map fun ss => (.lst ((ss.mergeSort leS).map .str), true) else none
  | _ => none
def p_sum : List D → Option (D × Bool)
  | [.lst xs] => (asInts xs).map fun ns => (.int ns.sum, true)
  | _ => none
def p_any : List D → Option (D × Bool)
  | [.lst xs] => (asBls xs).map fun bs => (.bl (bs.any id), true)
  | _ => none
def p_all : List D → Option (D × Bool)
  | [.lst xs] => (asBls xs).map fun bs => (.bl (bs.all id), true)
  | _ => none
def p_lrange : List D → Option (D × Bool)
  | [.int i, .int j] => if (j - i).toNat ≤ line && i.natAbs < 2 ^ 60 && j.natAbs < 2 ^ 60 then some (.lst ((rangeL i (j - i).toNat).map .int), true) else none
  | _ => none
def p_isi (t : Ty) : List D → Option (D × Bool)
  | [d] => (isT t d).map fun b => (.bl b, true)
  | _ => none
inductive Mo where
  | join | lindex
  deriving DecidableEq
/-- what a method's receiver must be -/
def recv : Mo → D → Bool
  | .join, .str _ => true
  | .lindex, .lst _ => true
  | _, _ => false
def m_join : D → List D → Option (D × Bool)
  | .str sep, [.lst xs] => (asStrs xs).bind fun ss => if (ss.map List.length).sum + ss.length * sep.length ≤ line then some (.str (joinS sep ss), true) else none
  | _, _ => none
def m_lindex : D → List D → Option (D × Bool)
  | .lst xs, [x] => if shal 59 x && shalL 59 xs then (idx? x xs).map fun (j : Nat) => (.int (j : Int), true) else none
  | _, _ => none
def mprim : Mo → D → List D → Option (D × Bool)
  | .join => m_join
  | .lindex => m_lindex
def slP (l h : Option Int) : D → Option (D × Bool)
  | .str s => if s.length ≤ line then some (.str (cutL s l h), true) else none
  | .lst s => some (.lst (cutL s l h), true)
  | .tup s => some (.tup (cutL s l h), true)
  | .scr s => some (.lst ((cutL s l h).map .int), true)
  | _ => none
/-- an operation by values: what it gives, whether its top is new -/
def prim : Op → List D → Option (D × Bool)
  | .add => p_add
  | .sub => p_sub
  | .mul => p_mul
  | .fdiv => p_fdiv
  | .mod => p_mod
  | .pow => p_pow
  | .neg => p_neg
  | .eq => p_eq
  | .ne => p_ne
  | .lt => p_lt
  | .le => p_le
  | .gt => p_gt
  | .ge => p_ge
  | .isin => p_isin
  | .notin => p_notin
  | .isN => p_isN
  | .notN => p_notN
  | .isTr => p_isTr
  | .ix => p_ix
  | .rev => p_rev
  | .len => p_len
  | .minB => p_minB
  | .maxB => p_maxB
  | .abs => p_abs
  | .int => p_int
  | .divm => p_divm
  | .list => p_list
  | .tuple => p_tuple
  | .sorted => p_sorted
  | .sum => p_sum
  | .any => p_any
  | .all => p_all
  | .lrange => p_lrange
  | .isi t => p_isi t

/-! ### core syntax -/
inductive Mt where
  | append | pop | popAt | extend | remove
  deriving DecidableEq
mutual
inductive C where
  | k (d : D) | gl (x : List Nat) (d : D) | var (i : Nat)
  | op (o : Op) (as : List C)
  | tup (as : List C) | lst (as : List C) | dct0
  | sl (bl bh : Bool) (x lo hi : C) | mop (o : Mo) (x : C) (as : List C)
  | and (a b : C) | or (a b : C) | not (a : C) | ife (t a b : C) | chain (o1 o2 : Op) (a b c : C)
  | call (f : Nat) (io : Option Nat) (as : List C) (ix : List Nat)
  | callp (f : Nat) (i : Nat) (e : C)
  | comp (vs : List Nat) (tg : Tg) (it : It) (ifs : Option C) (e : C)
  | meth (m : Mt) (i : Nat) (as : List C)
  | compo (i : Nat) (j : Option Nat) (vs : List Nat) (tg : Tg) (ifs : Option C) (e : C)
inductive It where
  | val (c : C) | range (as : List C) | enum (c : C) | zip (a b : C)
inductive Tg where
  | nm (i : Nat) | tupN (is : List Nat) | tup (ts : List Tg) | sub (i : Nat) (e : C)
end
inductive S where
  | expr (c : C) | ret (c : C) | retN | asg (tg : Tg) (c : C) | par (is : List Nat) (cs : List C)
  | ife (t : C) (a b : List S) | for (tg : Tg) (it : It) (b : List S) | while (t : C) (b : List S) | brk | cnt | pass | never

/-! ### slots -/
inductive Sl where
  | un | val (d : D) | own (d : D)
  deriving Inhabited
abbrev Env := List Sl
inductive Arg where
  | v (d : D) (fr : Bool) | pl (i : Nat)
def rd (Γ : Env) (i : Nat) : Option D := match Γ[i]? with
  | some (.val d) => some d
  | some (.own d) => some d
  | _ => none
def Arg.get (Γ : Env) : Arg → Option D
  | .v d _ => some d
  | .pl i => rd Γ i
def getAll (Γ : Env) : List Arg → Option (List D)
  | [] => some []
  | a :: r => (a.get Γ).bind fun d => (getAll Γ r).map fun ds => d :: ds
def frz1 (Γ : Env) (i : Nat) : Env := match Γ[i]? with
  | some (.own d) => Γ.set i (.val d)
  | _ => Γ
def frz : List Arg → Env → Env
  | [], Γ => Γ
  | .pl i :: r, Γ => frz r (frz1 Γ i)
  | .v _ _ :: r, Γ => frz r Γ
def mkSl (d : D) (fr : Bool) : Sl := if fr && !imm d then .own d else .val d
/-- a value handed on: (d, nothing else leads to it) -/
structure Dn where
  e : Env → Option (D × Bool × Env)
  a : Env → Option (Arg × Env)
  t : Env → Option (Bool × Env)
def tru : D → Option Bool
  | .bl b => some b
  | _ => none
def mkDn (e : Env → Option (D × Bool × Env)) : Dn where
  e := e
  a := fun Γ => (e Γ).map fun (d, fr, Γ1) => (.v d fr, Γ1)
  t := fun Γ => (e Γ).bind fun (d, _, Γ1) => (tru d).map fun b => (b, Γ1)
def dVar (i : Nat) : Dn where
  e := fun Γ => (rd Γ i).map fun d => if imm d then (d, true, Γ) else (d, false, frz1 Γ i)
  a := fun Γ => (rd Γ i).map fun _ => (.pl i, Γ)
  t := fun Γ => (rd Γ i).bind fun d => (tru d).map fun b => (b, Γ)
def seqA : List Dn → Env → Option (List Arg × Env)
  | [], Γ => some ([], Γ)
  | x :: r, Γ => (x.a Γ).bind fun (a, Γ1) => (seqA r Γ1).map fun (as, Γ2) => (a :: as, Γ2)
def seqE : List Dn → Env → Option (List D × Bool × Env)
  | [], Γ => some ([], true, Γ)
  | x :: r, Γ => (x.e Γ).bind fun (d, fr, Γ1) => (seqE r Γ1).map fun (ds, frs, Γ2) => (d :: ds, fr && frs, Γ2)
/-- what an operation hands on, and what is frozen by it -/
def settle (d : D) (top : Bool) (as : List Arg) (Γ : Env) : D × Bool × Env :=
  if imm d || (top && immEl d) then (d, true, Γ) else (d, false, frz as Γ)
def dOp (o : Op) (as : List Dn) : Dn := mkDn fun Γ =>
  (seqA as Γ).bind fun (args, Γ1) => (getAll Γ1 args).bind fun ds => (prim o ds).map fun (d, top) => settle d top args Γ1
def part : Bool → D → Option (Option Int)
  | false, .non => some none
  | true, .int i => some (some i)
  | _, _ => none
def dSl (bl bh : Bool) (x lo hi : Dn) : Dn := mkDn fun Γ =>
  (x.a Γ).bind fun (a, Γ1) => (lo.e Γ1).bind fun (l, _, Γ2) => (part bl l).bind fun l => (hi.e Γ2).bind fun (h, _, Γ3) => (part bh h).bind fun h =>
    (a.get Γ3).bind fun d => (slP l h d).map fun (d, top) => settle d top [a] Γ3
def dMop (o : Mo) (x : Dn) (as : List Dn) : Dn := mkDn fun Γ =>
  (x.a Γ).bind fun (a, Γ1) => (a.get Γ1).bind fun d0 => if recv o d0 then
    (seqA as Γ1).bind fun (args, Γ2) => (a.get Γ2).bind fun d1 => (getAll Γ2 args).bind fun ds => (mprim o d1 ds).map fun (d, top) => settle d top (a :: args) Γ2
  else none
def dTup (as : List Dn) : Dn := mkDn fun Γ => (seqE as Γ).bind fun (ds, fr, Γ1) => if ds.length ≤ line then some (.tup ds, fr, Γ1) else none
def dLst (as : List Dn) : Dn := mkDn fun Γ => (seqE as Γ).bind fun (ds, fr, Γ1) => if ds.length ≤ line then some (.lst ds, fr, Γ1) else none
def isBl : D → Option Bool
  | .bl b => some b
  | _ => none
def dAnd (a b : Dn) : Dn where
  e := fun Γ => (a.e Γ).bind fun (d, _, Γ1) => (isBl d).bind fun c => if c then b.e Γ1 else some (.bl false, true, Γ1)
  a := fun Γ => ((a.e Γ).bind fun (d, _, Γ1) => (isBl d).bind fun c => if c then b.e Γ1 else some (.bl false, true, Γ1)).map fun (d, fr, Γ1) => (.v d fr, Γ1)
  t := fun Γ => (a.t Γ).bind fun (c, Γ1) => if c then b.t Γ1 else some (false, Γ1)
def dOr (a b : Dn) : Dn where
  e := fun Γ => (a.e Γ).bind fun (d, _, Γ1) => (isBl d).bind fun c => if c then some (.bl true, true, Γ1) else b.e Γ1
  a := fun Γ => ((a.e Γ).bind fun (d, _, Γ1) => (isBl d).bind fun c => if c then some (.bl true, true, Γ1) else b.e Γ1).map fun (d, fr, Γ1) => (.v d fr, Γ1)
  t := fun Γ => (a.t Γ).bind fun (c, Γ1) => if c then some (true, Γ1) else b.t Γ1
def dNot (a : Dn) : Dn where
  e := fun Γ => (a.e Γ).bind fun (d, _, Γ1) => (isBl d).map fun c => (.bl !c, true, Γ1)
  a := fun Γ => (a.e Γ).bind fun (d, _, Γ1) => (isBl d).map fun c => (.v (.bl !c) true, Γ1)
  t := fun Γ => (a.t Γ).map fun (c, Γ1) => (!c, Γ1)
def cmpB (o : Op) (x y : D) : Option Bool := (prim o [x, y]).bind fun z => isBl z.1
def dChain (o1 o2 : Op) (a b c : Dn) : Dn := mkDn fun Γ => (a.e Γ).bind fun (x, _, Γ1) => (b.e Γ1).bind fun (y, _, Γ2) => (cmpB o1 x y).bind fun k =>
  if k then (c.e Γ2).bind fun (z, _, Γ3) => (cmpB o2 y z).map fun j => (.bl j, true, Γ3) else some (.bl false, true, Γ2)
def dIfe (t a b : Dn) : Dn := mkDn fun Γ => (t.t Γ).bind fun (c, Γ1) => if c then a.e Γ1 else b.e Γ1

/-- defs by number: the result, whether it is new, what stands in the parameter that the def changes -/
abbrev FT := Nat → List D → Option (D × Bool × Option D)
/-- the arguments in the parameters' order: ix where each parameter's argument stands ([]: as they stand) -/
def ordL {α : Type} (as : List α) (ix : List Nat) : Option (List α) := if ix = [] then some as else ix.mapM fun j => as[j]?
def isPl (i : Nat) : Arg → Bool
  | .pl j => i == j
  | _ => false
def dCall (F : FT) (f : Nat) (io : Option Nat) (as : List Dn) (ix : List Nat) : Dn := mkDn fun Γ =>
  (seqA as Γ).bind fun (args0, Γ1) => (ordL args0 ix).bind fun args => (getAll Γ1 args).bind fun ds => (F f ds).bind fun (d, fr, o) =>
    match io with
    | none => some (if imm d || fr then (d, true, Γ1) else (d, false, frz args Γ1))
    | some p => (args[p]?).bind fun a => o.bind fun o => match a with
      | .v _ frA => if frA then some (if imm d || fr then (d, true, Γ1) else (d, false, frz args Γ1)) else none
      | .pl i => match Γ1[i]? with
        | some (.own _) => if (args.eraseIdx p).any (isPl i) then none else
            some (if imm d || fr then (d, true, Γ1.set i (.own o)) else (d, false, frz (args.eraseIdx p) (Γ1.set i (.own o))))
        | _ => none
def dCallp (F : FT) (f i : Nat) (e : Dn) : Dn := mkDn fun Γ =>
  (rd Γ i).bind fun _ => (e.e Γ).bind fun (k, _, Γ1) => match k, Γ1[i]? with
    | .int n, some (.own (.lst ds)) => (ixN ds.length n).bind fun j => ds[j]?.bind fun d => (F f [d]).bind fun (r, fr, o) => o.bind fun d' =>
      if imm r || fr then some (r, true, Γ1.set i (.own (.lst (ds.set j d')))) else none
    | _, _ => none
/-- a name's change -/
def q_append (xs : List D) : List D → Option (D × List D)
  | [d] => if xs.length < line then some (.non, xs ++ [d]) else none
  | _ => none
def q_pop (xs : List D) : List D → Option (D × List D)
  | [] => (xs[xs.length - 1]?).map fun d => (d, xs.dropLast)
  | _ => none
def q_popAt (xs : List D) : List D → Option (D × List D)
  | [.int n] => if -(2 ^ 63) ≤ n ∧ n < 2 ^ 63 then (ixN xs.length n).bind fun j => xs[j]?.map fun d => (d, xs.eraseIdx j) else none
  | _ => none
def q_extend (xs : List D) : List D → Option (D × List D)
  | [.lst ys] => if xs.length + ys.length ≤ line then some (.non, xs ++ ys) else none
  | _ => none
def q_remove (xs : List D) : List D → Option (D × List D)
  | [.str x] => (asStrs xs).bind fun ss => if x ∈ ss then some (.non, xs.eraseIdx (ss.idxOf x)) else none
  | _ => none
def mtPrim : Mt → List D → List D → Option (D × List D)
  | .append => q_append | .pop => q_pop | .popAt => q_popAt | .extend => q_extend | .remove => q_remove
def dMeth (m : Mt) (i : Nat) (as : List Dn) : Dn := mkDn fun Γ =>
  match Γ[i]? with
  | some (.own (.lst _)) => (seqE as Γ).bind fun (ds, fr, Γ1) => if fr then (match Γ1[i]? with
    | some (.own (.lst xs)) => (mtPrim m xs ds).map fun (r, xs') => (r, imm r, Γ1.set i (.own (.lst xs')))
    | _ => none) else none
  | _ => none

/-! ### targets, loops -/
/-- a store: what is stored (d, nothing else leads to it) -/
abbrev Gn := D → Bool → Env → Option Env
def gnNm (io : Nat → Bool) (i : Nat) : Gn := fun d fr Γ => if io i then none else if i < Γ.length then some (Γ.set i (mkSl d fr)) else none
def gnAll : List Gn → List D → Bool → Env → Option Env
  | [], [], _, Γ => some Γ
  | g :: gs, d :: ds, fr, Γ => (g d fr Γ).bind fun Γ1 => gnAll gs ds fr Γ1
  | _, _, _, _ => none
def gnTup (gs : List Gn) : Gn := fun d _ Γ => match d with
  | .tup ds => gnAll gs ds false Γ
  | _ => none
def gnNms (io : Nat → Bool) : List Nat → List D → Bool → Env → Option Env
  | [], [], _, Γ => some Γ
  | i :: is, d :: ds, fr, Γ => (gnNm io i d fr Γ).bind fun Γ1 => gnNms io is ds fr Γ1
  | _, _, _, _ => none
def gnTupN (io : Nat → Bool) (is : List Nat) : Gn := fun d fr Γ => match d with
  | .tup ds => gnNms io is ds fr Γ
  | _ => none
def setPrim : D → D → D → Option D
  | .lst xs, .int n, v => (ixN xs.length n).map fun j => .lst (xs.set j v)
  | .dct kvs, k, v => if kvs.length < line && isKey k && (imm v || !(kvs.any fun kv => deq kv.1 k)) then some (.dct (kput k v kvs)) else none
  | _, _, _ => none
def gnSub (i : Nat) (e : Dn) : Gn := fun d fr Γ => if imm d || fr then (rd Γ i).bind fun _ => (e.e Γ).bind fun (k, _, Γ1) => match Γ1[i]? with
    | some (.own c) => (setPrim c k d).map fun c' => Γ1.set i (.own c')
    | _ => none
  else none
inductive Flow where
  | nx | ret (d : D) (fr : Bool) | brk | cnt
abbrev Sn := Env → Option (Flow × Env)
def sNx : Sn := fun Γ => some (.nx, Γ)
def sSeq (a b : Sn) : Sn := fun Γ => (a Γ).bind fun (f, Γ1) => match f with
  | .nx => b Γ1
  | f => some (f, Γ1)
def forL (g : Gn) (b : Sn) : List D → Sn
  | [], Γ => some (.nx, Γ)
  | d :: r, Γ => (g d (imm d) Γ).bind fun Γ1 => (b Γ1).bind fun (f, Γ2) => match f with
    | .nx => forL g b r Γ2
    | .cnt => forL g b r Γ2
    | .brk => some (.nx, Γ2)
    | .ret d fr => some (.ret d fr, Γ2)
def whileL (t : Env → Option (Bool × Env)) (b : Sn) : Nat → Sn
  | 0, _ => none
  | n + 1, Γ => (t Γ).bind fun (c, Γ1) => if c then (b Γ1).bind fun (f, Γ2) => (match f with
    | .nx => whileL t b n Γ2
    | .cnt => whileL t b n Γ2
    | .brk => some (.nx, Γ2)
    | .ret d fr => some (.ret d fr, Γ2)) else some (.nx, Γ1)
def wipeE : List Nat → Env → Env
  | [], Γ => Γ
  | i :: r, Γ => (wipeE r Γ).set i .un
def compL (vs : List Nat) (g : Gn) (t : Env → Option (Bool × Env)) (e : Dn) (acc : List D) (fr : Bool) : List D → Env → Option (List D × Bool × Env)
  | [], Γ => some (acc, fr, Γ)
  | d :: r, Γ => (g d (imm d) (wipeE vs Γ)).bind fun Γ1 => (t Γ1).bind fun (c, Γ2) =>
      if c then (e.e Γ2).bind fun (x, fx, Γ3) => if acc.length < line then compL vs g t e (acc ++ [x]) (fr && fx) r Γ3 else none
      else compL vs g t e acc fr r Γ2
/-- what is walked: its items; a name's list is frozen by it -/
def items : D → Option (List D)
  | .lst xs => some xs
  | .tup xs => some xs
  | .scr xs => some (xs.map .int)
  | .str s => some (s.map fun c => .str [c])
  | _ => none
def rangeD : List D → Option (List D)
  | [.int n] => if n.natAbs < 2 ^ 60 then some ((rangeL 0 n.toNat).map .int) else none
  | [.int i, .int j] => if i.natAbs < 2 ^ 60 && j.natAbs < 2 ^ 60 then some ((rangeL i (j - i).toNat).map .int) else none
  | [.int i, .int j, .int c] => if i.natAbs < 2 ^ 60 && j.natAbs < 2 ^ 60 && c == -1 then some ((rangeC i c (i - j).toNat).map .int) else none
  | _ => none
abbrev In := Env → Option (List D × Env)
def inVal (c : Dn) : In := fun Γ => (c.e Γ).bind fun (d, _, Γ1) => (items d).map fun ds => (ds, Γ1)
def inRange (as : List Dn) : In := fun Γ => (seqE as Γ).bind fun (ds, _, Γ1) => (rangeD ds).map fun xs => (xs, Γ1)
def enumD (n : Int) : List D → List D
  | [] => []
  | d :: r => .tup [.int n, d] :: enumD (n + 1) r
def zipD : List D → List D → List D
  | a :: r, b :: q => .tup [a, b] :: zipD r q
  | _, _ => []
def inEnum (c : Dn) : In := fun Γ => (c.e Γ).bind fun (d, _, Γ1) => (items d).map fun ds => (enumD 0 ds, Γ1)
def inZip (a b : Dn) : In := fun Γ => (seqE [a, b] Γ).bind fun (ds, _, Γ1) => match ds with
  | [x, y] => (items x).bind fun xs => (items y).map fun ys => (zipD xs ys, Γ1)
  | _ => none
/-- the comprehension's own names: unset within, as before behind it -/
def backE (Γ0 : Env) : List Nat → Env → Env
  | [], Γ => Γ
  | i :: r, Γ => (backE Γ0 r Γ).set i (Γ0.getD i .un)
def noOwn (Γ : Env) : List Nat → Bool
  | [] => true
  | i :: r => (match Γ[i]? with | some (.own _) => false | _ => true) && noOwn Γ r
def tYesE : Env → Option (Bool × Env) := fun Γ => some (true, Γ)
def dComp (vs : List Nat) (g : Gn) (it : In) (t : Env → Option (Bool × Env)) (e : Dn) : Dn := mkDn fun Γ =>
  (it Γ).bind fun (ds, Γ1) => if noOwn Γ1 vs then (compL vs g t e [] true ds Γ1).map fun (xs, fr, Γ2) => (.lst xs, fr, backE Γ1 vs Γ2) else none

/-- what is walked where a local list, by itself or beside another name's items, is walked while nobody else may look at it -/
def hidI (i : Nat) (xs : List D) (Γ : Env) : Option Nat → Option (List D)
  | none => some xs
  | some j => if i = j then none else (rd Γ j).bind fun d => (items d).bind fun ys => if imm d && immL ys then some (zipD xs ys) else none
def dCompH (i : Nat) (j : Option Nat) (vs : List Nat) (g : Gn) (t : Env → Option (Bool × Env)) (e : Dn) : Dn := mkDn fun Γ => match Γ[i]? with
  | some (.own (.lst xs)) => if immL xs && noOwn (Γ.set i .un) vs && !vs.contains i then (hidI i xs Γ j).bind fun ds => (compL vs g t e [] true ds (Γ.set i .un)).bind fun (ys, fr, Γ2) =>
      match (backE (Γ.set i .un) vs Γ2)[i]? with
      | some .un => if fr then some (.lst ys, true, (backE (Γ.set i .un) vs Γ2).set i (.own (.lst xs))) else none
      | _ => none
    else none
  | _ => none

/-! ### the evaluator -/
structure Prm where
  F : FT
  io : Nat → Bool
  fuel : Nat
mutual
def ev (P : Prm) : C → Dn
  | .k d => mkDn fun Γ => some (d, true, Γ)
  | .gl _ d => mkDn fun Γ => some (d, true, Γ)
  | .var i => dVar i
  | .op o as => dOp o (evL P as)
  | .tup as => dTup (evL P as)
  | .lst as => dLst (evL P as)
  | .dct0 => mkDn fun Γ => some (.dct [], true, Γ)
  | .sl bl bh x lo hi => dSl bl bh (ev P x) (ev P lo) (ev P hi)
  | .mop o x as => dMop o (ev P x) (evL P as)
  | .and a b => dAnd (ev P a) (ev P b)
  | .or a b => dOr (ev P a) (ev P b)
  | .not a => dNot (ev P a)
  | .ife t a b => dIfe (ev P t) (ev P a) (ev P b)
  | .chain o1 o2 a b c => dChain o1 o2 (ev P a) (ev P b) (ev P c)
  | .call f io as ix => dCall P.F f io (evL P as) ix
  | .callp f i e => dCallp P.F f i (ev P e)
  | .comp vs tg it none e => dComp vs (evG P tg) (evI P it) tYesE (ev P e)
  | .comp vs tg it (some c) e => dComp vs (evG P tg) (evI P it) (ev P c).t (ev P e)
  | .meth m i as => dMeth m i (evL P as)
  | .compo i j vs tg none e => dCompH i j vs (evG P tg) tYesE (ev P e)
  | .compo i j vs tg (some c) e => dCompH i j vs (evG P tg) (ev P c).t (ev P e)
def evL (P : Prm) : List C → List Dn
  | [] => []
  | c :: r => ev P c :: evL P r
def evI (P : Prm) : It → In
  | .val c => inVal (ev P c)
  | .range as => inRange (evL P as)
  | .enum c => inEnum (ev P c)
  | .zip a b => inZip (ev P a) (ev P b)
def evG (P : Prm) : Tg → Gn
  | .nm i => gnNm P.io i
  | .tup ts => gnTup (evGs P ts)
  | .tupN is => gnTupN P.io is
  | .sub i e => gnSub i (ev P e)
def evGs (P : Prm) : List Tg → List Gn
  | [] => []
  | t :: r => evG P t :: evGs P r
end
/-- return: a local list goes out as it is -/
def sRet (P : Prm) (c : C) : Sn := fun Γ => match c with
  | .var i => if P.io i then (ev P c).e Γ |>.map fun (d, fr, Γ1) => (.ret d fr, Γ1) else match Γ[i]? with
    | some (.own d) => some (.ret d true, Γ.set i .un)
    | some (.val d) => some (.ret d (imm d), Γ)
    | _ => none
  | c => ((ev P c).e Γ).map fun (d, fr, Γ1) => (.ret d fr, Γ1)
/-- x, y = a, b: each value by itself may be new -/
def seqP : List Dn → Env → Option (List (D × Bool) × Env)
  | [], Γ => some ([], Γ)
  | x :: r, Γ => (x.e Γ).bind fun (d, fr, Γ1) => (seqP r Γ1).map fun (ds, Γ2) => ((d, fr) :: ds, Γ2)
def setP (io : Nat → Bool) : List Nat → List (D × Bool) → Env → Option Env
  | [], [], Γ => some Γ
  | i :: is, (d, fr) :: ds, Γ => (gnNm io i d fr Γ).bind fun Γ1 => setP io is ds Γ1
  | _, _, _ => none
mutual
def evS (P : Prm) : S → Sn
  | .expr c => fun Γ => ((ev P c).a Γ).map fun (_, Γ1) => (.nx, Γ1)
  | .ret c => sRet P c
  | .retN => fun Γ => some (.ret .non true, Γ)
  | .asg tg c => fun Γ => ((ev P c).e Γ).bind fun (d, fr, Γ1) => (evG P tg d fr Γ1).map fun Γ2 => (.nx, Γ2)
  | .par is cs => fun Γ => (seqP (evL P cs) Γ).bind fun (ds, Γ1) => (setP P.io is ds Γ1).map fun Γ2 => (.nx, Γ2)
  | .ife t a b => fun Γ => ((ev P t).t Γ).bind fun (c, Γ1) => if c then evSs P a Γ1 else evSs P b Γ1
  | .for tg it b => fun Γ => (evI P it Γ).bind fun (ds, Γ1) => forL (evG P tg) (evSs P b) ds Γ1
  | .while t b => whileL (ev P t).t (evSs P b) P.fuel
  | .brk => fun Γ => some (.brk, Γ)
  | .cnt => fun Γ => some (.cnt, Γ)
  | .pass => sNx
  | .never => fun _ => none
def evSs (P : Prm) : List S → Sn
  | [] => sNx
  | s :: r => sSeq (evS P s) (evSs P r)
end

/-! ### defs -/
structure FunD where
  np : Nat
  ns : Nat
  io : Option Nat
  body : List S
  deriving Inhabited
def startE : Nat → Option Nat → List D → Nat → Env
  | _, _, [], n => List.replicate n .un
  | i, io, d :: ds, n => (if io = some i then .own d else .val d) :: startE (i + 1) io ds (n - 1)
def out (Γ : Env) : Option Nat → Option (Option D)
  | none => some none
  | some p => match Γ[p]? with
    | some (.own d) => some (some d)
    | _ => none
def runF (fd : FunD) (F : FT) (fuel : Nat) (ds : List D) : Option (D × Bool × Option D) :=
  if ds.length = fd.np then
    (evSs ⟨F, fun i => fd.io == some i, fuel⟩ fd.body (startE 0 fd.io ds fd.ns)).bind fun (f, Γ) => (out Γ fd.io).bind fun o => match f with
      | .ret d fr => some (d, fr, o)
      | .nx => some (.non, true, o)
      | _ => none
  else none
/-- the defs, calls nested at most n deep -/
def denF (T : List FunD) (fuel : Nat) : Nat → FT
  | 0 => fun _ _ => none
  | n + 1 => fun f ds => T[f]?.bind fun fd => runF fd (denF T fuel n) fuel ds
end WT

/-! WT: calls of built-ins that HandS has no rule for. -/
namespace WT
open PySem PySem.Spec PyProof.Rows L2
open PySem.Sem (wp)

/-! ### a text times a number -/
theorem foldl_cps (a : Array Nat) : ∀ (k : Nat) (acc : Array Nat), ((List.replicate k a).foldl (· ++ ·) acc).toList = acc.toList ++ (List.replicate k a.toList).flatten
  | 0, acc => by simp
  | k + 1, acc => by
    rw [List.replicate_succ, List.foldl_cons, foldl_cps a k]
    simp [List.replicate_succ, List.append_assoc]
def rMulS : R2 := fun x y H Q => ∃ (z : Str) (n : Int), x = .str z ∧ y = .int n ∧ -1000000 < n ∧ n < 1000000 ∧ z.length * n.toNat ≤ sizeLine ∧ Q (.str ⟨(List.replicate n.toNat z.cps.toList).flatten.toArray⟩) H
section
variable {X : Cx}
theorem op_mulS : OpR X (binaryOp .Mult) rMulS := by
  intro pins s σ H x y v u Q I rx ry h
  obtain ⟨z, n, rfl, rfl, h1, h2, h3, q⟩ := h
  obtain ⟨t, rfl⟩ := rx
  obtain ⟨t', rfl⟩ := ry
  have e0 : sizeLine = 16777216 := by decide
  have hlen : z.length = z.cps.size := rfl
  refine PySem.P.mul_str ?_ ?_ ?_ ?_
  · rw [decide_eq_false (by omega), decide_eq_false (by omega)]; rfl
  · intro n1 _ hgt
    have hn0 : 0 < n := by omega
    have hle : (z.length : Int) * n ≤ 2 ^ 63 - 1 := by
      have e1 : ((n.toNat : Nat) : Int) = n := Int.toNat_of_nonneg (by omega)
      have e2 : ((z.length * n.toNat : Nat) : Int) = (z.length : Int) * n := by rw [Int.natCast_mul, e1]
      have e3 : ((z.length * n.toNat : Nat) : Int) ≤ ((16777216 : Nat) : Int) := by rw [← e0]; exact Int.ofNat_le.mpr h3
      rw [e2] at e3
      omega
    exact absurd ((Int.le_ediv_iff_mul_le hn0).mpr hle) (by omega)
  · intro _ _
    unfold Builtin.Str.tooLong
    simp
    exact h3
  · have fin : ∀ (y : Str) (t : Tok), y = ⟨(List.replicate n.toNat z.cps.toList).flatten.toArray⟩ → EP X pins σ Q (.str y t) { s with toks := s.toks + 1 } := fun y t e => by
      subst e
      exact ⟨.str _, H, I.tok _, ⟨t, rfl⟩, q⟩
    have fin' : ∀ (y : Str) (t : Tok), y = ⟨(List.replicate n.toNat z.cps.toList).flatten.toArray⟩ → EP X pins σ Q (.str y t) s := fun y t e => by
      subst e
      exact ⟨.str _, H, I, ⟨t, rfl⟩, q⟩
    split
    · rename_i hn
      have : n.toNat = 0 := by omega
      exact ⟨by decide, fin _ _ (by rw [this]; rfl)⟩
    · split
      · rename_i hn hb
        refine fin' _ _ ?_
        simp only [Bool.or_eq_true, beq_iff_eq] at hb
        rcases hb with hb | hb
        · subst hb
          simp
        · have hz : z.cps = #[] := by
            rw [hlen] at hb
            exact Array.eq_empty_of_size_eq_zero hb
          cases z
          simp only at hz
          subst hz
          simp
      · refine ⟨?_, fin _ _ ?_⟩
        · have := foldl_cps z.cps n.toNat #[]
          have e : ((List.replicate n.toNat z.cps).foldl (· ++ ·) #[]).size = z.length * n.toNat := by
            rw [← Array.length_toList, this]
            simp [Nat.mul_comm, hlen]
          first
            | (unfold Builtin.Str.tooLong; simp only [e]; simp; exact h3)
            | (simp only [Str.length, e]; exact h3)
            | (show ((List.replicate n.toNat z.cps).foldl (· ++ ·) #[]).size ≤ sizeLine; rw [e]; exact h3)
        · congr 1
          apply Array.toList_inj.mp
          rw [foldl_cps]
          simp

/-! ### sorted(..) of texts, of what can be walked -/
theorem sorted_strs_of {pins : List (Addr × Obj)} {σ : L2.St} {H : Hp} {s : Shared} {Q : VK} {u : Value} {ks : List Str} (hcalm : X.calm = true) (I : Inv X pins σ H s) (h64 : ks.length < 64)
    (hcol : ∀ (Q' : List Value → Shared → Prop), (∀ h' tk acc, (∀ b o, s.heap.get? b = some o → h'.get? b = some o) → StrsAre acc ks → Q' acc { s with heap := h', toks := tk }) → wpAny (model X.prog X.w) X.A.in1 (collect u) Q' X.xe s)
    (q : ∀ ys p, ys.Perm ks → PyProof.Rows.sortedS ys = true → H p = none → Q (.ref p) (upd H p (.lst (ys.map V.str)))) : wpAny (model X.prog X.w) X.A (call (.builtin "sorted") [u]) (EP X pins σ Q) X.xe s := by
  refine Calls.call_function_entry PyProof.Rows.kind_sorted PyProof.Rows.plain_sorted PyProof.Rows.entry_sorted (PyProof.Rows.args_sorted1 _) ?_
  unfold Builtin.«sorted»
  refine wpAny_bind (m := checkCount "sorted" 1 1 _) (wpAny_pure ?_)
  refine wpAny_bind (hcol _ fun h' tk acc hk hS => ?_)
  have hal : acc.length = ks.length := hS.length
  have I1 : Inv X pins σ H { s with heap := h', toks := tk } := I.kept hk
  refine wpAny_bind (wpAny_newList ?_ (by rw [hal, sizeLine_eq]; omega))
  have hoL : (h'.push (seqObj "list" acc.toArray 0)).get? h'.objs.size = some (seqObj "list" acc.toArray 0) := Heap.get?_push_size _ rfl
  show wpAny _ _ _ _ _ { s with heap := h'.push (seqObj "list" acc.toArray 0), toks := tk }
  refine wpAny_bind (wpAny_holding (wpAny_call_entry PyProof.Rows.slot_list_sort ⟨_, hoL, rfl⟩ PyProof.Rows.entry_list_sort
    (PyProof.Rows.list_sort_treeK PyProof.Rows.strKind_oneLt (s := { s with heap := h'.push (seqObj "list" acc.toArray 0), toks := tk }) hoL hS.keysOf (fun v₁ v₂ rest e => PyProof.Rows.keyKind_strs (by rw [← e]; exact hS)) (by rw [hal]; exact h64) fun st' hp hs => ⟨_, rfl, ?_⟩)
    (PyProof.Rows.args_list_sort _)))
  obtain ⟨ys, g1, g2, g3⟩ := PyProof.Rows.sorted_out_str hS hp hs
  obtain ⟨e', he'⟩ := PyProof.Rows.sortedHeap_at (vs := acc) (out := (PyProof.Rows.arrOf st').map (·.2)) hoL
  have hlen : (ys.map V.str).length ≤ sizeLine := by
    rw [List.length_map, g2.length_eq]
    exact Nat.le_trans (Nat.le_of_lt h64) (by decide)
  refine wpAny_pure ⟨_, rfl, .ref h'.objs.size, upd H h'.objs.size (.lst (ys.map V.str)), I1.laid (t' := tk) (fun b u e => ?_) (Nat.le_refl _)
    (show ObjOk X.prog X.w _ _ _ (.lst (ys.map V.str)) from ⟨hlen, ((PyProof.Rows.arrOf st').map (·.2)).toList, e', vals_of_strs g1, by rw [Array.toArray_toList]; exact he'⟩), rfl, q ys _ g2 g3 (I1.hok.fresh (Nat.le_refl _))⟩
  have hb : b < h'.objs.size := Heap.lt_size e
  rw [PyProof.Rows.sortedHeap_old (Nat.ne_of_lt hb) (by rw [PyProof.Rows.size_push']; exact Nat.lt_succ_of_lt hb)]
  exact Heap.get?_push_of_some _ e
def rSortedStr : List V → Hp → VK → Prop := fun vs H Q => ∃ z : Str, vs = [.str z] ∧ z.length < 64 ∧ ∀ (ys : List Str) (p : Addr), ys.Perm (z.cps.toList.map fun c => ⟨#[c]⟩) → PyProof.Rows.sortedS ys = true → H p = none → Q (.ref p) (upd H p (.lst (ys.map V.str)))
theorem strsAre_signs {x : Str} {acc : Array Value} (h : ItemsOf (SignAt x) acc x.cps.size) : StrsAre acc.toList (x.cps.toList.map fun c => ⟨#[c]⟩) := by
  refine L2.strs_at (by rw [Array.length_toList, h.1]; simp) fun j v e => ?_
  obtain ⟨c, u, hc, rfl⟩ := h.2 j v (by rw [← Array.getElem?_toList]; exact e)
  exact ⟨⟨#[c]⟩, u, by rw [List.getElem?_map, Array.getElem?_toList, hc]; rfl, rfl⟩
theorem cr_sortedStr (hc : X.calm = true) : CallR X (.builtin "sorted") rSortedStr := by
  intro pins s σ H xs us Q I r q
  obtain ⟨z, rfl, h64, q⟩ := q
  obtain ⟨u, eu, rx⟩ := vals1 r
  subst eu
  obtain ⟨t, rfl⟩ := rx
  have hz : z.cps.size < 64 := h64
  refine sorted_strs_of hc I (by simpa using hz) (fun Q' hq => ?_) q
  refine wpAny_collect_str (A := X.A.in1) (I.ok.hd hc) z t (fun s' acc hk hg hd ho hacc => ?_) (by rw [sizeLine_eq]; omega)
  obtain ⟨hp, g, d, tk, os⟩ := s'
  simp only at hg hd ho hk
  subst hg hd ho
  exact hq hp tk acc.toList hk (strsAre_signs hacc)
def rSortedTup (K : PySem.W.Frag) : List V → Hp → VK → Prop := fun vs H Q => ∃ (a : Addr) (xs : List Str), vs = [V.ref a] ∧ SqT K H a (xs.map V.str) ∧ xs.length < 64 ∧
  ∀ (ys : List Str) (p : Addr), ys.Perm xs → PyProof.Rows.sortedS ys = true → H p = none → Q (.ref p) (upd H p (.lst (ys.map V.str)))
theorem cr_sortedTup (hc : X.calm = true) : CallR X (.builtin "sorted") (rSortedTup X.K) := by
  intro pins s σ H xs us Q I r q
  obtain ⟨a, ks, rfl, hs, h64, q⟩ := q
  obtain ⟨its, rv, ⟨o, ho, hcl, n, hd⟩, _⟩ := I.tuple hs
  rw [Vals.ref1 r]
  have hS : StrsAre its ks := rv.strs
  refine sorted_strs_of hc I h64 (fun Q' hq => ?_) q
  refine wpAny_collect_seq (A := X.A.in1) a (.inr rfl) ho hcl hd (fun h' hk => ?_) (by rw [List.size_toArray, hS.length, sizeLine_eq]; omega)
  exact hq h' s.toks its.toArray.toList hk (by simpa using hS)
/-- sorted(..) of True, False -/
def rSortedB (K : PySem.W.Frag) : List V → Hp → VK → Prop := fun vs H Q => ∃ (a : Addr) (bs : List Bool), vs = [V.ref a] ∧ SqL K H a (bs.map V.bl) ∧ bs.length < 64 ∧ ∀ p, H p = none → Q (.ref p) (upd H p (.lst ((bs.mergeSort fun a b => !a || b).map V.bl)))
theorem le_bool : PySem.W.dataLe false PyData.bool = fun a b => !a || b := by
  funext a b
  cases a <;> cases b <;> decide
theorem each_bools : ∀ {its : List Value} {bs : List Bool}, Vals (bs.map V.bl) its → PySem.W.EachIs (fun v b => v = Value.bool b) its bs
  | _, [], h => by cases h; exact .nil
  | _, b :: bs, h => by
    cases h with
    | cons r rr => exact .cons r (each_bools rr)
theorem vals_bools : ∀ {its : List Value} {bs : List Bool}, PySem.W.EachIs (fun v b => v = Value.bool b) its bs → Vals (bs.map V.bl) its
  | _, _, .nil => .nil
  | _, _, .cons r rr => .cons r (vals_bools rr)
theorem cr_sortedB (hu : X.A.units + 65 < cLine) : CallR X (.builtin "sorted") (rSortedB X.K) := by
  intro pins s σ H xs us Q I r h
  obtain ⟨a, bs, rfl, hs, h64, q⟩ := h
  obtain ⟨its, rv, hl, _⟩ := I.list hs
  rw [Vals.ref1 r]
  have hE := each_bools rv
  refine PySem.W.sorted_data (enc := PyData.bool) (R := fun v b => v = Value.bool b) hl.isList hE (hE.mono fun v b e => ⟨_, by rw [e]; exact .bool _⟩) (PySem.W.AllAlike.of fun _ _ => rfl) (PySem.W.Sortable.others fun b => ⟨fun z => (nomatch z), fun _ z => (nomatch z)⟩)
    (by rw [sizeLine_eq]; omega) (fun b _ => by show X.A.units + 2 + 0 < cLine; omega) fun out hlen hout => ?_
  rw [le_bool] at hout
  obtain ⟨ep, he'⟩ := PyProof.Rows.sortedAll_at s.heap its out.toArray
  have hl2 : ((bs.mergeSort fun a b => !a || b).map V.bl).length ≤ sizeLine := by rw [List.length_map, List.length_mergeSort, sizeLine_eq]; omega
  exact ⟨.ref _, upd H (s.heap.objs.size + 1) (.lst ((bs.mergeSort fun a b => !a || b).map V.bl)), I.laid (t' := s.toks) (fun _ _ => PyProof.Rows.sortedAll_old) (Nat.le_succ _) ⟨hl2, out, ep, vals_bools hout, by simpa using he'⟩, rfl, q _ (I.hok.fresh (Nat.le_succ _))⟩

/-! ### min, max of a tuple of numbers -/
theorem readsAll_ints {h : Heap} : ∀ {its : List Value} {ns : List Int}, IntsAre its ns → ∃ as, ReadsAll h its (ns.map .int) as
  | _, _, .nil => ⟨[], .nil⟩
  | _, _, .cons n t r => by
    obtain ⟨as, q⟩ := readsAll_ints (h := h) r
    exact ⟨_, .cons (.int n t) q⟩
theorem depthAll_ints (ns : List Int) : PyData.depthAll (ns.map .int) = 0 := PySem.W.depth_ints ns
theorem alikeAll_ints (ns : List Int) : PySem.W.AlikeAll (ns.map .int) := by
  refine ⟨fun x hx y hy => ?_, fun x hx => ?_⟩
  · obtain ⟨i, _, rfl⟩ := List.mem_map.mp hx
    obtain ⟨j, _, rfl⟩ := List.mem_map.mp hy
    rfl
  · obtain ⟨i, _, rfl⟩ := List.mem_map.mp hx
    exact fun z => nomatch z
def rMinT (K : PySem.W.Frag) : List V → Hp → VK → Prop := fun vs H Q => ∃ (a : Addr) (n : Int) (ns : List Int), vs = [V.ref a] ∧ SqT K H a ((n :: ns).map V.int) ∧ Q (.int (ns.foldl min n)) H
def rMaxT (K : PySem.W.Frag) : List V → Hp → VK → Prop := fun vs H Q => ∃ (a : Addr) (n : Int) (ns : List Int), vs = [V.ref a] ∧ SqT K H a ((n :: ns).map V.int) ∧ Q (.int (ns.foldl max n)) H
theorem cr_minT (hc : X.calm = true) (hu : X.A.units + 65 < cLine) : CallR X (.builtin "min") (rMinT X.K) := by
  intro pins s σ H vs us Q I r h
  obtain ⟨a, n, ns, rfl, hs, q⟩ := h
  obtain ⟨its, rv, hl, _⟩ := I.tuple hs
  rw [Vals.ref1 r]
  have hi : IntsAre its (n :: ns) := rv.ints
  obtain ⟨as, hr⟩ := readsAll_ints (h := s.heap) hi
  refine PySem.W.min_tuple_data (x := .int n) (xs := ns.map .int) (I.ok.hd hc) hl (by simpa using hr) (alikeAll_ints (n :: ns)) (by have := depthAll_ints (n :: ns); rw [List.map_cons] at this; rw [this]; omega) fun i v h' tk bs hv rd hk => ?_
  rw [PySem.W.minD_ints] at rd
  cases rd
  exact ⟨.int _, H, I.kept hk, ⟨_, rfl⟩, q⟩
theorem cr_maxT (hc : X.calm = true) (hu : X.A.units + 65 < cLine) : CallR X (.builtin "max") (rMaxT X.K) := by
  intro pins s σ H vs us Q I r h
  obtain ⟨a, n, ns, rfl, hs, q⟩ := h
  obtain ⟨its, rv, hl, _⟩ := I.tuple hs
  rw [Vals.ref1 r]
  have hi : IntsAre its (n :: ns) := rv.ints
  obtain ⟨as, hr⟩ := readsAll_ints (h := s.heap) hi
  refine PySem.W.max_tuple_data (x := .int n) (xs := ns.map .int) (I.ok.hd hc) hl (by simpa using hr) (alikeAll_ints (n :: ns)) (by have := depthAll_ints (n :: ns); rw [List.map_cons] at this; rw [this]; omega) fun i v h' tk bs hv rd hk => ?_
  rw [PySem.W.maxD_ints] at rd
  cases rd
  exact ⟨.int _, H, I.kept hk, ⟨_, rfl⟩, q⟩

/-! ### list of a text -/
def rListStr : List V → Hp → VK → Prop := fun vs H Q => ∃ z : Str, vs = [.str z] ∧ z.length ≤ sizeLine ∧ ∀ p, H p = none → Q (.ref p) (upd H p (.lst (z.cps.toList.map fun c => V.str ⟨#[c]⟩)))
theorem vals_signs {x : Str} {acc : Array Value} (h : ItemsOf (SignAt x) acc x.cps.size) : Vals (x.cps.toList.map fun c => V.str ⟨#[c]⟩) acc.toList := by
  have := vals_of_strs (strsAre_signs h)
  rw [List.map_map] at this
  exact this
theorem call_listStr (hc : X.calm = true) : CallR X (.type "list") rListStr := by
  intro pins s σ H xs us Q I r h
  obtain ⟨z, rfl, hz, q⟩ := h
  obtain ⟨u, eu, rx⟩ := vals1 r
  subst eu
  obtain ⟨t, rfl⟩ := rx
  refine call_list_str (I.ok.hd hc) z t (fun h' tk acc' c' hk hS' hacc => ?_) hz
  exact ⟨.ref _, upd H s.heap.objs.size (.lst (z.cps.toList.map fun c => V.str ⟨#[c]⟩)), I.laid (t' := tk) hk (Nat.le_refl _) ⟨by rw [List.length_map, Array.length_toList]; exact hz, acc'.toList, c', vals_signs hacc, by simpa using hS'⟩, rfl, q _ (I.hok.fresh (Nat.le_refl _))⟩

/-! ### list.remove of a text -/
def eqs (k : Str) (v : Value) : Bool := match v with
  | .str n _ => n == k
  | _ => false
theorem eqs_gives {k : Str} {t : Tok} : ∀ {us : List Value} {ns : List Str}, StrsAre us ns → ∀ y ∈ us, MeetsSeq.EqGives y (.str k t) (eqs k y)
  | _, _, .nil => fun y hy => by cases hy
  | _, _, .cons n t' h => fun y hy => by
    rcases List.mem_cons.mp hy with e | e
    · rw [e]
      exact PyProof.Rows.eqGives_str n k t' t
    · exact eqs_gives h y e
def rRemS : V → List V → Hp → VK → Prop := fun x xs H Q => ∃ (l : Addr) (ns : List Str) (k : Str) (j : Nat), x = .ref l ∧ xs = [.str k] ∧ H l = some (.lst (ns.map V.str)) ∧ ns[j]? = some k ∧ (∀ m : Nat, m < j → ns[m]? ≠ some k) ∧ Q .non (upd H l (.lst ((ns.map V.str).eraseIdx j)))
theorem strs_get : ∀ {us : List Value} {ns : List Str}, StrsAre us ns → ∀ (j : Nat) (k : Str), ns[j]? = some k → ∃ t, us[j]? = some (.str k t)
  | _, _, .nil, j, k, h => by simp at h
  | _, _, .cons n t r, 0, k, h => by simp at h; subst h; exact ⟨t, rfl⟩
  | _, _, .cons n t r, j + 1, k, h => by simpa using strs_get r j k (by simpa using h)
theorem mt_removeS : MtM X "list.remove" rRemS := by
  intro pins s σ H x xs v us Q I rx rxs h
  obtain ⟨l, ns, k, j, rfl, rfl, hH, hj, hno, q⟩ := h
  cases rx
  obtain ⟨u, rfl, ru⟩ := rxs.one
  obtain ⟨t, rfl⟩ := ru
  obtain ⟨z, its, n, r, hl, e⟩ := I.lstM hH
  have hi : StrsAre its ns := r.strs
  rw [List.length_map] at hl z
  have hjn : j < ns.length := (List.getElem?_eq_some_iff.mp hj).1
  have hjl : j < its.toArray.size := by rw [List.size_toArray]; omega
  refine call_meets PySem.F.slot_list_remove ⟨_, e, rfl⟩ PySem.F.entry_list_remove (PySem.F.args_list_remove_2 _ _)
    (MeetsSeq.list_remove l its.toArray n (.str k t) (eqs k) (fun y hy => eqs_gives hi y (by simpa using hy)) j hjl ?_ ?_ (by rw [List.size_toArray]; omega)) ⟨e, ?_⟩
  · obtain ⟨tj, hjt⟩ := strs_get hi j k hj
    obtain ⟨h1, h2⟩ := List.getElem?_eq_some_iff.mp hjt
    have e1 : its.toArray[j] = .str k tj := by simpa using h2
    rw [e1]
    exact beq_self_eq_true k
  · intro m hm hmj
    have hmn : m < ns.length := by omega
    obtain ⟨tm, hmt⟩ := strs_get hi m _ (List.getElem?_eq_getElem hmn)
    obtain ⟨h1, h2⟩ := List.getElem?_eq_some_iff.mp hmt
    have e1 : its.toArray[m] = .str ns[m] tm := by simpa using h2
    rw [e1]
    refine beq_eq_false_iff_ne.mpr fun e2 => hno m hmj ?_
    rw [List.getElem?_eq_getElem hmn, e2]
  · have rr := r.eraseIdx j
    refine ⟨.non, _, I.lset (its' := its.eraseIdx j) (t' := s.toks) hH e ?_ rr ?_, rfl, q⟩
    · show its.toArray.eraseIdxIfInBounds j = (its.eraseIdx j).toArray
      rw [List.eraseIdxIfInBounds_toArray]
    · rw [List.length_eraseIdx]
      split <;> (rw [List.length_map]; omega)
end
end WT

/-! WT: how trees stand in the heap; slots; steps. -/
namespace WT
open PySem L2

def strOkL (s : List Nat) : Bool := s.all (· < 0x110000)
def toKey : D → Option Key
  | .int i => some (.inl i)
  | .str s => some (.inr ⟨s.toArray⟩)
  | _ => none
def keyOk : D → Bool
  | .str s => strOkL s
  | _ => true

/-- the law's own list: nobody changes it -/
def ScrAt (K : PySem.W.Frag) (H : Hp) (a : Addr) (us : List V) : Prop := (∃ o, H a = some (.frz o (.lst us))) ∨
  ∃ (o : Obj) (its : Array Value) (n : Nat), K.lookup a = some o ∧ o.cls = .type "list" ∧ o.dict = none ∧ o.data = .seq its n ∧ its.size ≤ sizeLine ∧ Vals us its.toList
theorem ScrAt.sq {K : PySem.W.Frag} {H : Hp} {a : Addr} {us : List V} (h : ScrAt K H a us) : SqL K H a us := h.elim (fun ⟨o, q⟩ => .inl (.inr ⟨o, q⟩)) .inr
theorem ScrAt.of {K : PySem.W.Frag} {H : Hp} {a : Addr} {us : List V} (h : SqL K H a us) (n : H a ≠ some (.lst us)) : ScrAt K H a us := by
  rcases h with (h | h) | h
  · exact absurd h n
  · exact .inl h
  · exact .inr h
mutual
def Rep (K : PySem.W.Frag) (H : Hp) : D → V → List Addr → Prop
  | .non, v, A => v = .non ∧ A = []
  | .bl b, v, A => v = .bl b ∧ A = []
  | .int i, v, A => v = .int i ∧ A = []
  | .str s, v, A => v = .str ⟨s.toArray⟩ ∧ A = [] ∧ strOkL s = true
  | .tup xs, v, A => ∃ a vs, v = .ref a ∧ SqT K H a vs ∧ Reps K H xs vs A
  | .lst xs, v, A => ∃ a vs B, v = .ref a ∧ H a = some (.lst vs) ∧ Reps K H xs vs B ∧ A = a :: B
  | .dct kvs, v, A => ∃ a ws B, v = .ref a ∧ H a = some (.dK ws) ∧ RepKs K H kvs ws B ∧ A = a :: B
  | .scr xs, v, A => ∃ a, ∃ _o : Unit, v = .ref a ∧ ScrAt K H a (xs.map .int) ∧ A = []
  | .ins _ _, _, _ => False
  | .fn _, _, _ => False
def Reps (K : PySem.W.Frag) (H : Hp) : List D → List V → List Addr → Prop
  | [], vs, A => vs = [] ∧ A = []
  | d :: ds, vs, A => ∃ v vr B C, vs = v :: vr ∧ Rep K H d v B ∧ Reps K H ds vr C ∧ A = B ++ C
def RepKs (K : PySem.W.Frag) (H : Hp) : List (D × D) → List (Key × V) → List Addr → Prop
  | [], ws, A => ws = [] ∧ A = []
  | (x, y) :: r, ws, A => ∃ k v wr B C, ws = (k, v) :: wr ∧ (toKey x = some k ∧ keyOk x = true) ∧ Rep K H y v B ∧ RepKs K H r wr C ∧ A = B ++ C
end

def isMut : HO → Bool
  | .lst _ => true | .dK _ => true | .dT _ => true | .ins _ _ _ => true | .set _ _ => true
  | _ => false
/-- what a tree leans on stays -/
def Keep (H H' : Hp) (A : List Addr) : Prop := ∀ a o, H a = some o → (a ∈ A ∨ isMut o = false) → H' a = some o
theorem Keep.mono {H H' : Hp} {A B : List Addr} (h : Keep H H' A) (s : ∀ a ∈ B, a ∈ A) : Keep H H' B := fun a o e q => h a o e (q.imp (s a) id)

theorem ScrAt.keep {K : PySem.W.Frag} {H H' : Hp} {a : Addr} {us : List V} {A : List Addr} (h : ScrAt K H a us) (k : Keep H H' A) : ScrAt K H' a us :=
  h.elim (fun ⟨o, q⟩ => .inl ⟨o, k _ _ q (.inr rfl)⟩) .inr
section
variable {K : PySem.W.Frag} {H H' : Hp}
theorem keep_t {a : Addr} {A : List Addr} {vs : List V} (k : Keep H H' A) (h : SqT K H a vs) : SqT K H' a vs := by
  rcases h with (h | ⟨o, h⟩) | h
  · exact .inl (.inl (k _ _ h (.inr rfl)))
  · exact .inl (.inr ⟨o, k _ _ h (.inr rfl)⟩)
  · exact .inr h
mutual
theorem Rep.keep : ∀ (d : D) {v : V} {A : List Addr}, Rep K H d v A → Keep H H' A → Rep K H' d v A
  | .non, _, _, h, _ => by simp only [Rep] at h ⊢; exact h
  | .bl _, _, _, h, _ => by simp only [Rep] at h ⊢; exact h
  | .int _, _, _, h, _ => by simp only [Rep] at h ⊢; exact h
  | .str _, _, _, h, _ => by simp only [Rep] at h ⊢; exact h
  | .tup xs, _, _, h, k => by
    simp only [Rep] at h ⊢
    obtain ⟨a, vs, e, q, r⟩ := h
    exact ⟨a, vs, e, keep_t k q, Reps.keep xs r k⟩
  | .lst xs, _, _, h, k => by
    simp only [Rep] at h ⊢
    obtain ⟨a, vs, B, e, q, r, rfl⟩ := h
    exact ⟨a, vs, B, e, k _ _ q (.inl (by simp)), Reps.keep xs r (k.mono fun b hb => by simp [hb]), rfl⟩
  | .dct kvs, _, _, h, k => by
    simp only [Rep] at h ⊢
    obtain ⟨a, vs, B, e, q, r, rfl⟩ := h
    exact ⟨a, vs, B, e, k _ _ q (.inl (by simp)), RepKs.keep kvs r (k.mono fun b hb => by simp [hb]), rfl⟩
  | .scr xs, _, _, h, k => by
    simp only [Rep] at h ⊢
    obtain ⟨a, o, e, q, r⟩ := h
    exact ⟨a, o, e, q.keep k, r⟩
  | .ins _ _, _, _, h, _ => by simp only [Rep] at h
  | .fn _, _, _, h, _ => by simp only [Rep] at h
theorem Reps.keep : ∀ (ds : List D) {vs : List V} {A : List Addr}, Reps K H ds vs A → Keep H H' A → Reps K H' ds vs A
  | [], _, _, h, _ => by simp only [Reps] at h ⊢; exact h
  | d :: ds, _, _, h, k => by
    simp only [Reps] at h ⊢
    obtain ⟨v, vr, B, C, e, h1, h2, rfl⟩ := h
    exact ⟨v, vr, B, C, e, Rep.keep d h1 (k.mono fun a ha => List.mem_append_left _ ha), Reps.keep ds h2 (k.mono fun a ha => List.mem_append_right _ ha), rfl⟩
theorem RepKs.keep : ∀ (ds : List (D × D)) {vs : List (Key × V)} {A : List Addr}, RepKs K H ds vs A → Keep H H' A → RepKs K H' ds vs A
  | [], _, _, h, _ => by simp only [RepKs] at h ⊢; exact h
  | (x, y) :: ds, _, _, h, k => by
    simp only [RepKs] at h ⊢
    obtain ⟨q, v, vr, B, C, e, e2, h1, h2, rfl⟩ := h
    exact ⟨q, v, vr, B, C, e, e2, Rep.keep y h1 (k.mono fun a ha => List.mem_append_left _ ha), RepKs.keep ds h2 (k.mono fun a ha => List.mem_append_right _ ha), rfl⟩
end
mutual
theorem Rep.mut : ∀ (d : D) {v : V} {A : List Addr}, Rep K H d v A → ∀ a ∈ A, ∃ o, H a = some o ∧ isMut o = true
  | .non, _, _, h, a, ha => by simp only [Rep] at h; rw [h.2] at ha; cases ha
  | .bl _, _, _, h, a, ha => by simp only [Rep] at h; rw [h.2] at ha; cases ha
  | .int _, _, _, h, a, ha => by simp only [Rep] at h; rw [h.2] at ha; cases ha
  | .str _, _, _, h, a, ha => by simp only [Rep] at h; rw [h.2.1] at ha; cases ha
  | .tup xs, _, _, h, a, ha => by
    simp only [Rep] at h
    obtain ⟨_, vs, e, q, r⟩ := h
    exact Reps.mut xs r a ha
  | .lst xs, _, _, h, a, ha => by
    simp only [Rep] at h
    obtain ⟨b, vs, B, e, q, r, rfl⟩ := h
    rcases List.mem_cons.mp ha with rfl | ha
    · exact ⟨_, q, rfl⟩
    · exact Reps.mut xs r a ha
  | .dct kvs, _, _, h, a, ha => by
    simp only [Rep] at h
    obtain ⟨b, vs, B, e, q, r, rfl⟩ := h
    rcases List.mem_cons.mp ha with rfl | ha
    · exact ⟨_, q, rfl⟩
    · exact RepKs.mut kvs r a ha
  | .scr xs, _, _, h, a, ha => by
    simp only [Rep] at h
    obtain ⟨_, o, e, q, rfl⟩ := h
    cases ha
  | .ins _ _, _, _, h, _, _ => by simp only [Rep] at h
  | .fn _, _, _, h, _, _ => by simp only [Rep] at h
theorem Reps.mut : ∀ (ds : List D) {vs : List V} {A : List Addr}, Reps K H ds vs A → ∀ a ∈ A, ∃ o, H a = some o ∧ isMut o = true
  | [], _, _, h, a, ha => by simp only [Reps] at h; rw [h.2] at ha; cases ha
  | d :: ds, _, _, h, a, ha => by
    simp only [Reps] at h
    obtain ⟨v, vr, B, C, e, h1, h2, rfl⟩ := h
    rcases List.mem_append.mp ha with ha | ha
    · exact Rep.mut d h1 a ha
    · exact Reps.mut ds h2 a ha
theorem RepKs.mut : ∀ (ds : List (D × D)) {vs : List (Key × V)} {A : List Addr}, RepKs K H ds vs A → ∀ a ∈ A, ∃ o, H a = some o ∧ isMut o = true
  | [], _, _, h, a, ha => by simp only [RepKs] at h; rw [h.2] at ha; cases ha
  | (x, y) :: ds, _, _, h, a, ha => by
    simp only [RepKs] at h
    obtain ⟨q, v, vr, B, C, e, e2, h1, h2, rfl⟩ := h
    rcases List.mem_append.mp ha with ha | ha
    · exact Rep.mut y h1 a ha
    · exact RepKs.mut ds h2 a ha
end
mutual
theorem Rep.imm : ∀ (d : D) {v : V} {A : List Addr}, Rep K H d v A → imm d = true → A = []
  | .non, _, _, h, _ => by simp only [Rep] at h; exact h.2
  | .bl _, _, _, h, _ => by simp only [Rep] at h; exact h.2
  | .int _, _, _, h, _ => by simp only [Rep] at h; exact h.2
  | .str _, _, _, h, _ => by simp only [Rep] at h; exact h.2.1
  | .tup xs, _, _, h, k => by
    simp only [Rep] at h
    simp only [WT.imm] at k
    obtain ⟨_, vs, e, q, r⟩ := h
    exact Reps.imm xs r k
  | .lst xs, _, _, h, k => by simp [WT.imm] at k
  | .dct xs, _, _, h, k => by simp [WT.imm] at k
  | .scr xs, _, _, h, k => by
    simp only [Rep] at h
    obtain ⟨_, o, e, q, rfl⟩ := h
    rfl
  | .ins _ _, _, _, h, _ => by simp only [Rep] at h
  | .fn _, _, _, h, _ => by simp only [Rep] at h
theorem Reps.imm : ∀ (ds : List D) {vs : List V} {A : List Addr}, Reps K H ds vs A → immL ds = true → A = []
  | [], _, _, h, _ => by simp only [Reps] at h; exact h.2
  | d :: ds, _, _, h, k => by
    simp only [Reps] at h
    simp only [immL, Bool.and_eq_true] at k
    obtain ⟨v, vr, B, C, e, h1, h2, rfl⟩ := h
    rw [Rep.imm d h1 k.1, Reps.imm ds h2 k.2]; rfl
end
theorem RepKs.imm : ∀ (ds : List (D × D)) {vs : List (Key × V)} {A : List Addr}, RepKs K H ds vs A → immV ds = true → A = []
  | [], _, _, h, _ => by simp only [RepKs] at h; exact h.2
  | (x, y) :: ds, _, _, h, k => by
    simp only [RepKs] at h
    simp only [immV, Bool.and_eq_true] at k
    obtain ⟨q, v, vr, B, C, e, e2, h1, h2, rfl⟩ := h
    rw [Rep.imm y h1 k.1.2, RepKs.imm ds h2 k.2]; rfl
theorem Reps.length : ∀ {ds : List D} {vs : List V} {A : List Addr}, Reps K H ds vs A → ds.length = vs.length
  | [], _, _, h => by simp only [Reps] at h; rw [h.1]; rfl
  | d :: ds, _, _, h => by
    simp only [Reps] at h
    obtain ⟨v, vr, B, C, rfl, h1, h2, rfl⟩ := h
    simp [Reps.length h2]
end

/-! ### slots and steps -/
def isOwn (Γ : Env) (i : Nat) : Prop := ∃ d, Γ[i]? = some (.own d)
def fpset (Γ : Env) (g : Nat → List Addr) (a : Addr) : Prop := ∃ i, isOwn Γ i ∧ a ∈ g i
def reg (g : Nat → List Addr) (a : Addr) : Prop := ∃ i, a ∈ g i
structure StRel (K : PySem.W.Frag) (Γ : Env) (g : Nat → List Addr) (σ : L2.St) (H : Hp) : Prop where
  len : Γ.length = σ.length
  val : ∀ i d, Γ[i]? = some (.val d) → ∃ v, σ[i]? = some (some v) ∧ Rep K H d v (g i)
  own : ∀ i d, Γ[i]? = some (.own d) → ∃ v, σ[i]? = some (some v) ∧ Rep K H d v (g i) ∧ (g i).Nodup
  un : ∀ i, (Γ[i]? = none ∨ Γ[i]? = some .un) → g i = []
  sep : ∀ i j, i ≠ j → isOwn Γ i → ∀ a ∈ g i, a ∉ g j
structure Step (H : Hp) (Γ : Env) (g : Nat → List Addr) (H' : Hp) (Γ' : Env) (g' : Nat → List Addr) : Prop where
  keep : ∀ a o, H a = some o → ¬ fpset Γ g a → H' a = some o
  mono : ∀ a, H' a = none → H a = none
  own : ∀ i, isOwn Γ' i → ∀ a ∈ g' i, (isOwn Γ i ∧ a ∈ g i) ∨ H a = none
  reg : ∀ a, WT.reg g' a → WT.reg g a ∨ H a = none
/-- a value that has come -/
structure Res (K : PySem.W.Frag) (H : Hp) (Γ : Env) (g : Nat → List Addr) (d : D) (fr : Bool) (H' : Hp) (Γ' : Env) (g' : Nat → List Addr) (v : V) (A : List Addr) : Prop where
  rep : Rep K H' d v A
  out : ∀ a ∈ A, ¬ fpset Γ' g' a
  src : ∀ a ∈ A, reg g a ∨ H a = none
  new : fr = true → A.Nodup ∧ ∀ a ∈ A, H a = none ∧ ¬ reg g' a

section
variable {K : PySem.W.Frag} {H H1 H2 : Hp} {Γ Γ1 Γ2 : Env} {g g1 g2 : Nat → List Addr} {σ : L2.St}
theorem Step.refl : Step H Γ g H Γ g := ⟨fun _ _ e _ => e, fun _ e => e, fun _ o a ha => .inl ⟨o, ha⟩, fun _ h => .inl h⟩
theorem Step.fp (s : Step H Γ g H1 Γ1 g1) {a : Addr} (h : fpset Γ1 g1 a) : fpset Γ g a ∨ H a = none := by
  obtain ⟨i, o, ha⟩ := h
  rcases s.own i o a ha with ⟨h1, h2⟩ | h
  · exact .inl ⟨i, h1, h2⟩
  · exact .inr h
theorem Step.trans (s : Step H Γ g H1 Γ1 g1) (t : Step H1 Γ1 g1 H2 Γ2 g2) : Step H Γ g H2 Γ2 g2 where
  keep := fun a o e n => t.keep a o (s.keep a o e n) fun f => (s.fp f).elim n fun z => by rw [e] at z; cases z
  mono := fun a e => s.mono a (t.mono a e)
  own := fun i o a ha => by
    rcases t.own i o a ha with ⟨h1, h2⟩ | h
    · exact s.own i h1 a h2
    · exact .inr (s.mono a h)
  reg := fun a h => by
    rcases t.reg a h with h | h
    · exact s.reg a h
    · exact .inr (s.mono a h)
theorem StRel.mut (S : StRel K Γ g σ H) {i : Nat} {a : Addr} (ha : a ∈ g i) : ∃ o, H a = some o ∧ isMut o = true := by
  cases e : Γ[i]? with
  | none => rw [S.un i (.inl e)] at ha; cases ha
  | some s =>
    cases s with
    | un => rw [S.un i (.inr e)] at ha; cases ha
    | val d => obtain ⟨v, _, r⟩ := S.val i d e; exact Rep.mut d r a ha
    | own d => obtain ⟨v, _, r, _⟩ := S.own i d e; exact Rep.mut d r a ha
theorem StRel.reg_some (S : StRel K Γ g σ H) {a : Addr} (h : reg g a) : ∃ o, H a = some o := by
  obtain ⟨i, ha⟩ := h
  obtain ⟨o, e, _⟩ := S.mut ha
  exact ⟨o, e⟩
theorem StRel.fp_reg {a : Addr} (h : fpset Γ g a) : reg g a := let ⟨i, _, ha⟩ := h; ⟨i, ha⟩
/-- what lies outside of the owned stays -/
theorem Step.keeps (S : StRel K Γ g σ H) (s : Step H Γ g H1 Γ1 g1) {A : List Addr} (h : ∀ a ∈ A, ¬ fpset Γ g a) : Keep H H1 A := fun a o e q => by
  refine s.keep a o e ?_
  rcases q with q | q
  · exact h a q
  · intro f
    obtain ⟨i, _, ha⟩ := f
    obtain ⟨o', e', m⟩ := S.mut ha
    rw [e] at e'; cases e'
    rw [q] at m; cases m
/-- a value that waits while another one comes -/
theorem Res.wait {d : D} {fr : Bool} {v : V} {A : List Addr} (r : Res K H Γ g d fr H1 Γ1 g1 v A) (S1 : StRel K Γ1 g1 σ H1) (s : Step H Γ g H1 Γ1 g1) (t : Step H1 Γ1 g1 H2 Γ2 g2) : Res K H Γ g d fr H2 Γ2 g2 v A where
  rep := Rep.keep d r.rep (t.keeps S1 r.out)
  out := fun a ha f => by
    rcases t.fp f with f | e
    · exact r.out a ha f
    · obtain ⟨o, e', _⟩ := Rep.mut d r.rep a ha
      rw [e] at e'; cases e'
  src := r.src
  new := fun f => ⟨(r.new f).1, fun a ha => ⟨((r.new f).2 a ha).1, fun q => by
    rcases t.reg a q with q | e
    · exact ((r.new f).2 a ha).2 q
    · obtain ⟨o, e', _⟩ := Rep.mut d r.rep a ha
      rw [e] at e'; cases e'⟩⟩
/-- a value's beginning moved back -/
theorem Res.back {d : D} {fr : Bool} {v : V} {A : List Addr} (s : Step H Γ g H1 Γ1 g1) (r : Res K H1 Γ1 g1 d fr H2 Γ2 g2 v A) : Res K H Γ g d fr H2 Γ2 g2 v A where
  rep := r.rep
  out := r.out
  src := fun a ha => by
    rcases r.src a ha with q | e
    · exact s.reg a q
    · exact .inr (s.mono a e)
  new := fun f => ⟨(r.new f).1, fun a ha => ⟨s.mono a ((r.new f).2 a ha).1, ((r.new f).2 a ha).2⟩⟩
end

/-! ### what a reading is worth -/
section
variable (K : PySem.W.Frag)
def SndE (t : TE) (e : Env → Option (D × Bool × Env)) : Prop :=
  ∀ Γ d fr Γ', e Γ = some (d, fr, Γ') → ∀ (σ : L2.St) (H : Hp) (g : Nat → List Addr), StRel K Γ g σ H → ∀ Q : VK,
    (∀ v H' g' A, StRel K Γ' g' σ H' → Step H Γ g H' Γ' g' → Res K H Γ g d fr H' Γ' g' v A → Q v H') → t σ H Q
def SndT (t : TT) (e : Env → Option (Bool × Env)) : Prop :=
  ∀ Γ b Γ', e Γ = some (b, Γ') → ∀ (σ : L2.St) (H : Hp) (g : Nat → List Addr), StRel K Γ g σ H → ∀ Q : Bool → Hp → Prop,
    (∀ H' g', StRel K Γ' g' σ H' → Step H Γ g H' Γ' g' → Q b H') → t σ H Q
/-- an operand: a value, or a slot as it stands when it is used -/
def ArgR (σ : L2.St) (H : Hp) (Γ : Env) (g : Nat → List Addr) (a : Arg) (H' : Hp) (Γ' : Env) (g' : Nat → List Addr) (v : V) (A : List Addr) : Prop :=
  match a with
  | .v d fr => Res K H Γ g d fr H' Γ' g' v A
  | .pl i => σ[i]? = some (some v)
def SndA (t : TE) (e : Env → Option (Arg × Env)) : Prop :=
  ∀ Γ a Γ', e Γ = some (a, Γ') → ∀ (σ : L2.St) (H : Hp) (g : Nat → List Addr), StRel K Γ g σ H → ∀ Q : VK,
    (∀ v H' g' A, StRel K Γ' g' σ H' → Step H Γ g H' Γ' g' → ArgR K σ H Γ g a H' Γ' g' v A → Q v H') → t σ H Q
structure SndD (t : TE) (x : Dn) : Prop where
  e : SndE K t x.e
  a : SndA K t x.a
end
end WT

/-! WT: operands and operations. -/
namespace WT
open PySem L2

def testable : Expr → Bool
  | .IfExp .. => false
  | _ => true
def plainE : Expr → Bool
  | .Starred .. => false | .Slice .. => false | .Set .. => false | .SetComp .. => false | .DictComp .. => false
  | .Call (.Name id _) [] [] _ => id != "super"
  | _ => true
structure GE (X : Cx) (e : Expr) (x : Dn) : Prop where
  ex : ∃ t, PE X e t ∧ SndD X.K t x
  tt : testable e = true → ∃ t, PT X e t ∧ SndT X.K t x.t
  pl : plainE e = true

def Grow (H H' : Hp) : Prop := ∀ a o, H a = some o → H' a = some o
theorem Grow.refl (H : Hp) : Grow H H := fun _ _ e => e
theorem Grow.new {H : Hp} {p : Addr} {o : HO} (h : H p = none) : Grow H (upd H p o) := fun a u e => by
  rw [upd_ne (ne_of_none e h)]; exact e
theorem Grow.trans {H H1 H2 : Hp} (a : Grow H H1) (b : Grow H1 H2) : Grow H H2 := fun x o e => b x o (a x o e)
theorem Grow.mono {H H' : Hp} (h : Grow H H') (a : Addr) (e : H' a = none) : H a = none := by
  cases q : H a with
  | none => rfl
  | some o => rw [h a o q] at e; cases e
theorem Grow.keep {H H' : Hp} (h : Grow H H') (A : List Addr) : Keep H H' A := fun a o e _ => h a o e
theorem Grow.step {H H' : Hp} (h : Grow H H') (Γ : Env) (g : Nat → List Addr) : Step H Γ g H' Γ g :=
  ⟨fun a o e _ => h a o e, h.mono, fun _ o a ha => .inl ⟨o, ha⟩, fun _ q => .inl q⟩
section
variable {K : PySem.W.Frag} {H H' H1 H2 : Hp} {Γ Γ' Γ1 Γ2 : Env} {g g' g1 g2 : Nat → List Addr} {σ : L2.St}
theorem StRel.grow (S : StRel K Γ g σ H) (h : Grow H H') : StRel K Γ g σ H' where
  len := S.len
  val := fun i d e => let ⟨v, e1, r⟩ := S.val i d e; ⟨v, e1, Rep.keep d r (h.keep _)⟩
  own := fun i d e => let ⟨v, e1, r, n⟩ := S.own i d e; ⟨v, e1, Rep.keep d r (h.keep _), n⟩
  un := S.un
  sep := S.sep
theorem isOwn_frz1 {i j : Nat} (h : isOwn (frz1 Γ i) j) : isOwn Γ j ∧ j ≠ i := by
  unfold frz1 at h
  cases e : Γ[i]? with
  | none =>
    simp only [e] at h
    refine ⟨h, fun z => ?_⟩
    subst z; obtain ⟨d, q⟩ := h; rw [e] at q; cases q
  | some s =>
    cases s with
    | un => simp only [e] at h; refine ⟨h, fun z => ?_⟩; subst z; obtain ⟨d, q⟩ := h; rw [e] at q; cases q
    | val x => simp only [e] at h; refine ⟨h, fun z => ?_⟩; subst z; obtain ⟨d, q⟩ := h; rw [e] at q; cases q
    | own x =>
      simp only [e] at h
      obtain ⟨d, q⟩ := h
      by_cases z : j = i
      · subst z
        have hl : j < Γ.length := (List.getElem?_eq_some_iff.mp e).1
        rw [List.getElem?_set_self hl] at q; cases q
      · rw [List.getElem?_set_ne (Ne.symm z)] at q
        exact ⟨⟨d, q⟩, z⟩
theorem StRel.frz1 (S : StRel K Γ g σ H) (i : Nat) : StRel K (frz1 Γ i) g σ H := by
  have hs : ∀ j, isOwn (WT.frz1 Γ i) j → isOwn Γ j := fun j h => (isOwn_frz1 h).1
  refine ⟨?_, fun j d e => ?_, fun j d e => ?_, fun j e => ?_, fun j k hjk h => S.sep j k hjk (hs j h)⟩
  · unfold WT.frz1; split <;> simp [S.len]
  · unfold WT.frz1 at e
    split at e
    · rename_i x q
      by_cases z : j = i
      · subst z
        have hl : j < Γ.length := (List.getElem?_eq_some_iff.mp q).1
        rw [List.getElem?_set_self hl] at e; cases e
        obtain ⟨v, e1, r, _⟩ := S.own j _ q
        exact ⟨v, e1, r⟩
      · rw [List.getElem?_set_ne (Ne.symm z)] at e
        exact S.val j d e
    · exact S.val j d e
  · obtain ⟨h1, _⟩ := isOwn_frz1 (i := i) ⟨d, e⟩
    unfold WT.frz1 at e
    split at e
    · rename_i x q
      by_cases z : j = i
      · subst z
        have hl : j < Γ.length := (List.getElem?_eq_some_iff.mp q).1
        rw [List.getElem?_set_self hl] at e; cases e
      · rw [List.getElem?_set_ne (Ne.symm z)] at e
        exact S.own j d e
    · exact S.own j d e
  · unfold WT.frz1 at e
    split at e
    · rename_i x q
      by_cases z : j = i
      · subst z
        have hl : j < Γ.length := (List.getElem?_eq_some_iff.mp q).1
        rw [List.getElem?_set_self hl] at e
        rcases e with e | e <;> cases e
      · rw [List.getElem?_set_ne (Ne.symm z)] at e
        exact S.un j e
    · exact S.un j e
theorem Step.frz1 (i : Nat) : Step H Γ g H (frz1 Γ i) g :=
  ⟨fun _ _ e _ => e, fun _ e => e, fun j o a ha => .inl ⟨(isOwn_frz1 o).1, ha⟩, fun _ h => .inl h⟩
theorem StRel.frz : ∀ (as : List Arg) {Γ : Env}, StRel K Γ g σ H → StRel K (frz as Γ) g σ H
  | [], _, S => S
  | .pl i :: r, Γ, S => StRel.frz r (S.frz1 i)
  | .v _ _ :: r, Γ, S => StRel.frz r S
theorem Step.frz : ∀ (as : List Arg) {Γ : Env}, Step H Γ g H (frz as Γ) g
  | [], _ => .refl
  | .pl i :: r, Γ => (Step.frz1 i).trans (Step.frz r)
  | .v _ _ :: r, Γ => Step.frz r
theorem isOwn_frz : ∀ {as : List Arg} {Γ : Env} {j : Nat}, isOwn (frz as Γ) j → isOwn Γ j ∧ (∀ i, Arg.pl i ∈ as → j ≠ i)
  | [], _, _, h => ⟨h, fun i hi => by cases hi⟩
  | .pl k :: r, Γ, j, h => by
    obtain ⟨h1, h2⟩ := isOwn_frz (as := r) (Γ := frz1 Γ k) h
    obtain ⟨h3, h4⟩ := isOwn_frz1 h1
    refine ⟨h3, fun i hi => ?_⟩
    rcases List.mem_cons.mp hi with e | hi
    · cases e; exact h4
    · exact h2 i hi
  | .v _ _ :: r, Γ, j, h => by
    obtain ⟨h1, h2⟩ := isOwn_frz (as := r) (Γ := Γ) h
    refine ⟨h1, fun i hi => ?_⟩
    rcases List.mem_cons.mp hi with e | hi
    · cases e
    · exact h2 i hi
theorem StRel.rd (S : StRel K Γ g σ H) {i : Nat} {d : D} (e : rd Γ i = some d) : ∃ v, σ[i]? = some (some v) ∧ Rep K H d v (g i) := by
  unfold WT.rd at e
  split at e
  · rename_i x q; cases e; exact S.val i d q
  · rename_i x q; cases e; obtain ⟨v, e1, r, _⟩ := S.own i d q; exact ⟨v, e1, r⟩
  · cases e

/-! ### names, constants -/
theorem snd_const {v : V} {d : D} (hr : ∀ H, Rep K H d v []) : SndD K (tC v) (mkDn fun Γ => some (d, true, Γ)) := by
  have key : SndE K (tC v) (fun Γ => some (d, true, Γ)) := by
    intro Γ d' fr Γ' e σ H g S Q h
    cases e
    exact h v H g [] S .refl ⟨hr H, fun _ z => (nomatch z), fun _ z => (nomatch z), fun _ => ⟨List.nodup_nil, fun _ z => (nomatch z)⟩⟩
  refine ⟨key, ?_⟩
  intro Γ a Γ' e σ H g S Q h
  simp only [mkDn, Option.map_some, Option.some.injEq, Prod.mk.injEq] at e
  obtain ⟨rfl, rfl⟩ := e
  exact h v H g [] S .refl ⟨hr H, fun _ z => (nomatch z), fun _ z => (nomatch z), fun _ => ⟨List.nodup_nil, fun _ z => (nomatch z)⟩⟩
theorem snd_mk {t : TE} {e : Env → Option (D × Bool × Env)} (h : SndE K t e) : SndD K t (mkDn e) := by
  refine ⟨h, ?_⟩
  intro Γ a Γ' q σ H g S Q hq
  simp only [mkDn, Option.map_eq_some_iff] at q
  obtain ⟨⟨d, fr, Γ1⟩, e1, e2⟩ := q
  cases e2
  exact h Γ d fr _ e1 σ H g S Q fun v H' g' A S' s r => hq v H' g' A S' s r
theorem sndT_mk {t : TE} {e : Env → Option (D × Bool × Env)} (h : SndE K t e) : SndT K (tB t) (mkDn e).t := by
  intro Γ b Γ' q σ H g S Q hq
  simp only [mkDn, Option.bind_eq_some_iff] at q
  obtain ⟨⟨d, fr, Γ1⟩, e1, e2⟩ := q
  simp only [Option.map_eq_some_iff] at e2
  obtain ⟨c, e3, e4⟩ := e2
  cases e4
  refine h Γ d fr _ e1 σ H g S _ fun v H' g' A S' s r => ?_
  cases d <;> simp only [tru] at e3 <;> try cases e3
  have := r.rep
  simp only [Rep] at this
  exact ⟨_, this.1, hq H' g' S' s⟩
theorem snd_var (i : Nat) : SndD K (tVar i) (dVar i) := by
  constructor
  · intro Γ d fr Γ' e σ H g S Q h
    simp only [dVar, Option.map_eq_some_iff] at e
    obtain ⟨x, e1, e2⟩ := e
    obtain ⟨v, e3, r⟩ := S.rd e1
    refine ⟨v, e3, ?_⟩
    by_cases hi : imm x = true
    · rw [if_pos hi] at e2
      cases e2
      have z : g i = [] := Rep.imm _ r hi
      rw [z] at r
      exact h v H g [] S .refl ⟨r, fun _ z => (nomatch z), fun _ z => (nomatch z), fun _ => ⟨List.nodup_nil, fun _ z => (nomatch z)⟩⟩
    · rw [if_neg hi] at e2
      cases e2
      refine h v H g (g i) (S.frz1 i) (Step.frz1 i) ⟨r, fun a ha f => ?_, fun a ha => .inl ⟨i, ha⟩, fun z => (nomatch z)⟩
      obtain ⟨j, o, hj⟩ := f
      obtain ⟨o1, ne⟩ := isOwn_frz1 o
      exact S.sep j i ne o1 a hj ha
  · intro Γ a Γ' e σ H g S Q h
    simp only [dVar, Option.map_eq_some_iff] at e
    obtain ⟨x, e1, e2⟩ := e
    cases e2
    obtain ⟨v, e3, r⟩ := S.rd e1
    exact ⟨v, e3, h v H g [] S .refl e3⟩
theorem sndT_var (i : Nat) : SndT K (tB (tVar i)) (dVar i).t := by
  intro Γ b Γ' e σ H g S Q h
  simp only [dVar, Option.bind_eq_some_iff, Option.map_eq_some_iff] at e
  obtain ⟨x, e1, c, e2, e3⟩ := e
  cases e3
  obtain ⟨v, e3, r⟩ := S.rd e1
  cases x <;> simp only [tru] at e2 <;> try cases e2
  simp only [Rep] at r
  exact ⟨v, e3, _, r.1, h H g S .refl⟩

/-! ### operands -/
def tAs : List TE → TA
  | [] => tNil
  | t :: ts => tCons t (tAs ts)
inductive SndDs (K : PySem.W.Frag) : List TE → List Dn → Prop
  | nil : SndDs K [] []
  | cons {t ts x xs} : SndD K t x → SndDs K ts xs → SndDs K (t :: ts) (x :: xs)
def Arg.fr : Arg → Bool
  | .v _ fr => fr
  | .pl _ => false
def Dj (A B : List Addr) : Prop := ∀ a ∈ A, a ∉ B
theorem Dj.symm {A B : List Addr} (h : Dj A B) : Dj B A := fun a ha hb => h a hb ha
inductive ArgsR (K : PySem.W.Frag) (σ : L2.St) (H : Hp) (Γ : Env) (g : Nat → List Addr) (H' : Hp) (Γ' : Env) (g' : Nat → List Addr) : List Arg → List V → List (List Addr) → Prop
  | nil : ArgsR K σ H Γ g H' Γ' g' [] [] []
  | cons {a as v vs A As} : ArgR K σ H Γ g a H' Γ' g' v A → (∀ i, a = .pl i → A = []) → ArgsR K σ H Γ g H' Γ' g' as vs As →
      (∀ p ∈ as.zip As, a.fr = true ∨ p.1.fr = true → Dj A p.2) → ArgsR K σ H Γ g H' Γ' g' (a :: as) (v :: vs) (A :: As)
theorem ArgR.norm {a : Arg} {v : V} {A : List Addr} (h : ArgR K σ H Γ g a H' Γ' g' v A) : ∃ B, ArgR K σ H Γ g a H' Γ' g' v B ∧ (∀ i, a = .pl i → B = []) := by
  cases a with
  | v d fr => exact ⟨A, h, fun i e => (nomatch e)⟩
  | pl i => exact ⟨[], h, fun i e => rfl⟩
theorem ArgR.wait {a : Arg} {v : V} {A : List Addr} (r : ArgR K σ H Γ g a H1 Γ1 g1 v A) (S1 : StRel K Γ1 g1 σ H1) (s : Step H Γ g H1 Γ1 g1) (t : Step H1 Γ1 g1 H2 Γ2 g2) : ArgR K σ H Γ g a H2 Γ2 g2 v A := by
  cases a with
  | v d fr => exact Res.wait r S1 s t
  | pl i => exact r
theorem ArgR.back {a : Arg} {v : V} {A : List Addr} (s : Step H Γ g H1 Γ1 g1) (r : ArgR K σ H1 Γ1 g1 a H2 Γ2 g2 v A) : ArgR K σ H Γ g a H2 Γ2 g2 v A := by
  cases a with
  | v d fr => exact Res.back s r
  | pl i => exact r
theorem ArgsR.back (s : Step H Γ g H1 Γ1 g1) : ∀ {as : List Arg} {vs : List V} {As : List (List Addr)}, ArgsR K σ H1 Γ1 g1 H2 Γ2 g2 as vs As → ArgsR K σ H Γ g H2 Γ2 g2 as vs As
  | _, _, _, .nil => .nil
  | _, _, _, .cons r n t d => .cons (ArgR.back s r) n (ArgsR.back s t) d
theorem ArgsR.wait (S1 : StRel K Γ1 g1 σ H1) (s : Step H Γ g H1 Γ1 g1) (t : Step H1 Γ1 g1 H2 Γ2 g2) : ∀ {as : List Arg} {vs : List V} {As : List (List Addr)}, ArgsR K σ H Γ g H1 Γ1 g1 as vs As → ArgsR K σ H Γ g H2 Γ2 g2 as vs As
  | _, _, _, .nil => .nil
  | _, _, _, .cons r n q d => .cons (ArgR.wait r S1 s t) n (ArgsR.wait S1 s t q) d
/-- what a later operand's value leans on -/
theorem ArgsR.src : ∀ {as : List Arg} {vs : List V} {As : List (List Addr)}, ArgsR K σ H Γ g H' Γ' g' as vs As → ∀ p ∈ as.zip As, ∀ a ∈ p.2, (reg g a ∨ H a = none) ∧ (p.1.fr = true → H a = none) ∧ ¬ fpset Γ' g' a
  | _, _, _, .nil, p, hp => by cases hp
  | a :: as, v :: vs, A :: As, .cons r n q d, p, hp => by
    rcases List.mem_cons.mp hp with rfl | hp
    · intro b hb
      cases a with
      | v x fr => exact ⟨Res.src r b hb, fun f => ((Res.new r f).2 b hb).1, Res.out r b hb⟩
      | pl i => rw [n i rfl] at hb; cases hb
    · exact ArgsR.src q p hp
theorem snd_seqA : ∀ {ts : List TE} {xs : List Dn}, SndDs K ts xs → ∀ {Γ : Env} {as : List Arg} {Γ' : Env}, seqA xs Γ = some (as, Γ') → ∀ {σ : L2.St} {H : Hp} {g : Nat → List Addr}, StRel K Γ g σ H → ∀ (Q : List V → Hp → Prop),
    (∀ vs H' g' As, StRel K Γ' g' σ H' → Step H Γ g H' Γ' g' → ArgsR K σ H Γ g H' Γ' g' as vs As → Q vs H') → tAs ts σ H Q
  | _, _, .nil, Γ, as, Γ', e, σ, H, g, S, Q, h => by
    simp only [seqA, Option.some.injEq, Prod.mk.injEq] at e
    obtain ⟨rfl, rfl⟩ := e
    exact h [] H g [] S .refl .nil
  | _, _, .cons (t := t) (ts := ts) (x := x) (xs := xs) h1 hr, Γ, as, Γ', e, σ, H, g, S, Q, h => by
    simp only [seqA, Option.bind_eq_some_iff, Option.map_eq_some_iff] at e
    obtain ⟨⟨a, Γ1⟩, e1, ⟨bs, Γ2⟩, e2, e3⟩ := e
    cases e3
    refine h1.a Γ a Γ1 e1 σ H g S _ fun v H1 g1 A S1 s1 r1 => ?_
    obtain ⟨B, r1, nB⟩ := ArgR.norm r1
    refine snd_seqA hr e2 S1 _ fun vs H2 g2 As S2 s2 r2 => ?_
    refine h (v :: vs) H2 g2 (B :: As) S2 (s1.trans s2) (.cons (r1.wait S1 s1 s2) nB (r2.back s1) fun p hp f b hb hq => ?_)
    obtain ⟨q1, q2, q3⟩ := ArgsR.src r2 p hp b hq
    cases a with
    | pl i => rw [nB i rfl] at hb; cases hb
    | v d fr =>
      have r1 : Res K H Γ g d fr H1 Γ1 g1 v B := r1
      obtain ⟨o, ho, _⟩ := Rep.mut d r1.rep b hb
      rcases f with f | f
      · rcases q1 with q1 | q1
        · exact ((r1.new f).2 b hb).2 q1
        · rw [ho] at q1; cases q1
      · rw [q2 f] at ho; cases ho

/-- trees in a row, each on its own -/
inductive Reps3 (K : PySem.W.Frag) (H : Hp) : List D → List V → List (List Addr) → Prop
  | nil : Reps3 K H [] [] []
  | cons {d ds v vs A As} : Rep K H d v A → Reps3 K H ds vs As → Reps3 K H (d :: ds) (v :: vs) (A :: As)
/-- the footprint of an operand as it is used -/
def useA (g : Nat → List Addr) : Arg → List Addr → List Addr
  | .v _ _, A => A
  | .pl i, _ => g i
def useAs (g : Nat → List Addr) : List Arg → List (List Addr) → List (List Addr)
  | a :: as, A :: As => useA g a A :: useAs g as As
  | _, _ => []
theorem ArgR.use {a : Arg} {v : V} {A : List Addr} {d : D} (S : StRel K Γ' g' σ H') (r : ArgR K σ H Γ g a H' Γ' g' v A) (e : a.get Γ' = some d) : Rep K H' d v (useA g' a A) := by
  cases a with
  | v x fr => cases e; exact Res.rep r
  | pl i =>
    obtain ⟨w, e1, q⟩ := S.rd e
    have r : σ[i]? = some (some v) := r
    rw [r] at e1; cases e1
    exact q
theorem ArgsR.use (S : StRel K Γ' g' σ H') : ∀ {as : List Arg} {vs : List V} {As : List (List Addr)} {ds : List D}, ArgsR K σ H Γ g H' Γ' g' as vs As → getAll Γ' as = some ds → Reps3 K H' ds vs (useAs g' as As)
  | _, _, _, ds, .nil, e => by cases e; exact .nil
  | _, _, _, ds, .cons r n q d, e => by
    simp only [getAll, Option.bind_eq_some_iff, Option.map_eq_some_iff] at e
    obtain ⟨x, e1, xs, e2, rfl⟩ := e
    exact .cons (r.use S e1) (ArgsR.use S q e2)
/-- where a used operand's parts lie -/
theorem ArgsR.used : ∀ {as : List Arg} {vs : List V} {As : List (List Addr)}, ArgsR K σ H Γ g H' Γ' g' as vs As → ∀ b, b ∈ (useAs g' as As).flatten → (∃ i, Arg.pl i ∈ as ∧ b ∈ g' i) ∨ ((reg g b ∨ H b = none) ∧ ¬ fpset Γ' g' b)
  | _, _, _, .nil, b, hb => by cases hb
  | a :: as, _, A :: As, .cons r n q d, b, hb => by
    simp only [useAs, List.flatten_cons, List.mem_append] at hb
    rcases hb with hb | hb
    · cases a with
      | v x fr => exact .inr ⟨Res.src r b hb, Res.out r b hb⟩
      | pl i => exact .inl ⟨i, List.mem_cons_self, hb⟩
    · rcases ArgsR.used q b hb with ⟨i, h1, h2⟩ | h
      · exact .inl ⟨i, List.mem_cons_of_mem _ h1, h2⟩
      · exact .inr h

/-- an operation by values is sound -/
def SndP (K : PySem.W.Frag) (o : Op) (r : List V → Hp → VK → Prop) : Prop :=
  ∀ ds d top, prim o ds = some (d, top) → ∀ vs H As, Reps3 K H ds vs As → ∀ Q : VK,
    (∀ v H' A, Grow H H' → Rep K H' d v A → (∀ a ∈ A, a ∈ As.flatten ∨ H a = none) → (top = true → immEl d = true → A.Nodup ∧ ∀ a ∈ A, H a = none) → Q v H') → r vs H Q
theorem snd_settle {d : D} {top : Bool} {as : List Arg} {vs : List V} {As : List (List Addr)} {v : V} {A : List Addr} (S : StRel K Γ' g' σ H') (s : Step H Γ g H' Γ' g') (ra : ArgsR K σ H Γ g H' Γ' g' as vs As) (G : Grow H' H1) (r : Rep K H1 d v A)
    (src : ∀ a ∈ A, a ∈ (useAs g' as As).flatten ∨ H' a = none) (new : top = true → immEl d = true → A.Nodup ∧ ∀ a ∈ A, H' a = none) {d' : D} {fr : Bool} {Γ1 : Env} (e : settle d top as Γ' = (d', fr, Γ1)) :
    StRel K Γ1 g' σ H1 ∧ Step H Γ g H1 Γ1 g' ∧ Res K H Γ g d' fr H1 Γ1 g' v A := by
  unfold settle at e
  by_cases hc : (imm d || (top && immEl d)) = true
  · rw [if_pos hc] at e
    cases e
    have fresh : A.Nodup ∧ ∀ a ∈ A, H' a = none := by
      simp only [Bool.or_eq_true, Bool.and_eq_true] at hc
      rcases hc with hc | ⟨h1, h2⟩
      · rw [Rep.imm d r hc]; exact ⟨List.nodup_nil, fun _ z => (nomatch z)⟩
      · exact new h1 h2
    refine ⟨S.grow G, s.trans (G.step _ _), r, fun a ha f => ?_, fun a ha => .inr (s.mono a (fresh.2 a ha)), fun _ => ⟨fresh.1, fun a ha => ⟨s.mono a (fresh.2 a ha), fun q => ?_⟩⟩⟩
    · obtain ⟨o, e⟩ := S.reg_some (StRel.fp_reg f); rw [fresh.2 a ha] at e; cases e
    · obtain ⟨o, e⟩ := S.reg_some q; rw [fresh.2 a ha] at e; cases e
  · rw [if_neg hc] at e
    cases e
    refine ⟨StRel.frz as (S.grow G), (s.trans (G.step _ _)).trans (Step.frz as), r, fun a ha f => ?_, fun a ha => ?_, fun z => (nomatch z)⟩
    · obtain ⟨j, o, hj⟩ := f
      obtain ⟨o1, ne⟩ := isOwn_frz o
      rcases src a ha with q | q
      · rcases ra.used a q with ⟨i, h1, h2⟩ | ⟨_, h2⟩
        · exact S.sep j i (ne i h1) o1 a hj h2
        · exact h2 ⟨j, o1, hj⟩
      · obtain ⟨o, e⟩ := S.reg_some ⟨j, hj⟩; rw [q] at e; cases e
    · rcases src a ha with q | q
      · rcases ra.used a q with ⟨i, h1, h2⟩ | ⟨h1, _⟩
        · exact s.reg a ⟨i, h2⟩
        · exact h1
      · exact .inr (s.mono a q)
/-- THE operation -/
theorem snd_op {o : Op} {ts : List TE} {xs : List Dn} {r : List V → Hp → VK → Prop} {t : TE} (hs : SndDs K ts xs) (hp : SndP K o r) (ht : ∀ σ H Q, tAs ts σ H (fun vs H1 => r vs H1 Q) → t σ H Q) : SndE K t (dOp o xs).e := by
  intro Γ d fr Γ' e σ H g S Q h
  simp only [dOp, mkDn, Option.bind_eq_some_iff, Option.map_eq_some_iff] at e
  obtain ⟨⟨as, Γ1⟩, e1, ds, e2, ⟨d0, top⟩, e3, e4⟩ := e
  refine ht σ H Q (snd_seqA hs e1 S _ fun vs H1 g1 As S1 s1 ra => ?_)
  refine hp ds d0 top e3 vs H1 _ (ra.use S1 e2) Q fun v H2 A G r src new => ?_
  obtain ⟨a, b, c⟩ := snd_settle S1 s1 ra G r src new e4
  exact h v H2 g1 A a b c
end
end WT

/-! WT: the operations by values. -/
namespace WT
open PySem L2

def rr2 (r : R2) : List V → Hp → VK → Prop
  | [x, y], H, Q => r x y H Q
  | _, _, _ => False
def rr1 (r : V → Hp → VK → Prop) : List V → Hp → VK → Prop
  | [x], H, Q => r x H Q
  | _, _, _ => False
def orR (r q : List V → Hp → VK → Prop) : List V → Hp → VK → Prop := fun vs H Q => r vs H Q ∨ q vs H Q
/-- what is wanted of an operation's end -/
abbrev Fin (K : PySem.W.Frag) (H : Hp) (d : D) (top : Bool) (F : List Addr) (Q : VK) : Prop :=
  ∀ v H' A, Grow H H' → Rep K H' d v A → (∀ a ∈ A, a ∈ F ∨ H a = none) → (top = true → immEl d = true → A.Nodup ∧ ∀ a ∈ A, H a = none) → Q v H'
section
variable {K : PySem.W.Frag} {H : Hp} {d : D} {top : Bool} {F : List Addr} {Q : VK} {v : V}
theorem fin0 (h : Fin K H d top F Q) (r : Rep K H d v []) : Q v H := h v H [] (Grow.refl H) r (fun _ z => (nomatch z)) fun _ _ => ⟨List.nodup_nil, fun _ z => (nomatch z)⟩
theorem finI {i : Int} (h : Fin K H (.int i) top F Q) : Q (.int i) H := fin0 h (by simp [Rep])
theorem finB {i : Bool} (h : Fin K H (.bl i) top F Q) : Q (.bl i) H := fin0 h (by simp [Rep])
theorem finN (h : Fin K H .non top F Q) : Q .non H := fin0 h (by simp [Rep])
theorem finS {s : List Nat} (h : Fin K H (.str s) top F Q) (ok : strOkL s = true) : Q (.str ⟨s.toArray⟩) H := fin0 h (by simp [Rep, ok])
theorem finL {ds : List D} {vs : List V} {B : List Addr} (h : Fin K H (.lst ds) true F Q) (r : Reps K H ds vs B) (src : ∀ a ∈ B, a ∈ F) {p : Addr} (np : H p = none) : Q (.ref p) (upd H p (.lst vs)) := by
  refine h (.ref p) _ (p :: B) (Grow.new np) ?_ (fun a ha => ?_) fun _ e => ?_
  · simp only [Rep]
    exact ⟨p, vs, B, rfl, upd_same, Reps.keep ds r ((Grow.new np).keep _), rfl⟩
  · rcases List.mem_cons.mp ha with rfl | ha
    · exact .inr np
    · exact .inl (src a ha)
  · have z : B = [] := Reps.imm ds r e
    subst z
    exact ⟨by simp, fun a ha => by
      have : a = p := by simpa using ha
      rw [this]; exact np⟩
theorem finT {ds : List D} {vs : List V} {B : List Addr} (h : Fin K H (.tup ds) top F Q) (r : Reps K H ds vs B) (src : ∀ a ∈ B, a ∈ F) {p : Addr} (np : H p = none) : Q (.ref p) (upd H p (.tup vs)) := by
  refine h (.ref p) _ B (Grow.new np) ?_ (fun a ha => .inl (src a ha)) fun _ e => ?_
  · simp only [Rep]
    exact ⟨p, vs, rfl, SqT.of upd_same, Reps.keep ds r ((Grow.new np).keep _)⟩
  · have z : B = [] := Reps.imm ds r e
    subst z
    exact ⟨List.nodup_nil, fun _ z => (nomatch z)⟩
/-- the tuple as it stands -/
theorem finTs {ds : List D} {vs : List V} {B : List Addr} {a : Addr} (h : Fin K H (.tup ds) top F Q) (q : SqT K H a vs) (r : Reps K H ds vs B) (src : ∀ a ∈ B, a ∈ F) : Q (.ref a) H := by
  refine h (.ref a) H B (Grow.refl H) ?_ (fun a ha => .inl (src a ha)) fun _ e => ?_
  · simp only [Rep]
    exact ⟨a, vs, rfl, q, r⟩
  · have z : B = [] := Reps.imm ds r e
    subst z
    exact ⟨List.nodup_nil, fun _ z => (nomatch z)⟩
end

/-! ### rows of trees -/
section
variable {K : PySem.W.Frag} {H : Hp}
theorem r3_1 {a : D} {vs : List V} {As : List (List Addr)} (h : Reps3 K H [a] vs As) : ∃ v A, vs = [v] ∧ As = [A] ∧ Rep K H a v A := by
  cases h with | cons r q => cases q; exact ⟨_, _, rfl, rfl, r⟩
theorem r3_2 {a b : D} {vs : List V} {As : List (List Addr)} (h : Reps3 K H [a, b] vs As) : ∃ v w A B, vs = [v, w] ∧ As = [A, B] ∧ Rep K H a v A ∧ Rep K H b w B := by
  cases h with | cons r q => cases q with | cons r2 q2 => cases q2; exact ⟨_, _, _, _, rfl, rfl, r, r2⟩
theorem r3_3 {a b c : D} {vs : List V} {As : List (List Addr)} (h : Reps3 K H [a, b, c] vs As) : ∃ v w x A B C, vs = [v, w, x] ∧ As = [A, B, C] ∧ Rep K H a v A ∧ Rep K H b w B ∧ Rep K H c x C := by
  cases h with | cons r q => cases q with | cons r2 q2 => cases q2 with | cons r3 q3 => cases q3; exact ⟨_, _, _, _, _, _, rfl, rfl, r, r2, r3⟩
theorem Reps.append : ∀ {ds es : List D} {vs ws : List V} {A B : List Addr}, Reps K H ds vs A → Reps K H es ws B → Reps K H (ds ++ es) (vs ++ ws) (A ++ B)
  | [], _, _, _, _, _, h, q => by simp only [Reps] at h; rw [h.1, h.2]; exact q
  | d :: ds, _, _, _, _, _, h, q => by
    simp only [Reps] at h
    obtain ⟨v, vr, B, C, rfl, h1, h2, rfl⟩ := h
    show Reps K H (d :: (ds ++ _)) _ _
    simp only [Reps]
    exact ⟨v, _, B, _, rfl, h1, Reps.append h2 q, by rw [List.append_assoc]⟩
theorem Reps.take : ∀ {ds : List D} {vs : List V} {A : List Addr} (n : Nat), Reps K H ds vs A → ∃ B, Reps K H (ds.take n) (vs.take n) B ∧ ∀ a ∈ B, a ∈ A
  | [], _, _, n, h => by
    simp only [Reps] at h
    rw [h.1]
    exact ⟨[], by simp [Reps], fun _ z => (nomatch z)⟩
  | d :: ds, _, _, 0, h => ⟨[], by simp [Reps], fun _ z => (nomatch z)⟩
  | d :: ds, _, _, n + 1, h => by
    simp only [Reps] at h
    obtain ⟨v, vr, B, C, rfl, h1, h2, rfl⟩ := h
    obtain ⟨D', h3, h4⟩ := Reps.take n h2
    refine ⟨B ++ D', ?_, fun a ha => ?_⟩
    · simp only [List.take_succ_cons, Reps]
      exact ⟨v, _, B, D', rfl, h1, h3, rfl⟩
    · rcases List.mem_append.mp ha with q | q
      · exact List.mem_append_left _ q
      · exact List.mem_append_right _ (h4 a q)
theorem Reps.drop : ∀ {ds : List D} {vs : List V} {A : List Addr} (n : Nat), Reps K H ds vs A → ∃ B, Reps K H (ds.drop n) (vs.drop n) B ∧ ∀ a ∈ B, a ∈ A
  | [], _, _, n, h => by
    simp only [Reps] at h
    rw [h.1]
    exact ⟨[], by simp [Reps], fun _ z => (nomatch z)⟩
  | d :: ds, _, A, 0, h => ⟨A, h, fun _ z => z⟩
  | d :: ds, _, _, n + 1, h => by
    simp only [Reps] at h
    obtain ⟨v, vr, B, C, rfl, h1, h2, rfl⟩ := h
    obtain ⟨D', h3, h4⟩ := Reps.drop n h2
    exact ⟨D', h3, fun a ha => List.mem_append_right _ (h4 a ha)⟩
theorem Reps.cut {ds : List D} {vs : List V} {A : List Addr} (h : Reps K H ds vs A) (lo hi : Option Int) : ∃ B, Reps K H (cutL ds lo hi) (cutV vs lo hi) B ∧ ∀ a ∈ B, a ∈ A := by
  unfold cutL cutV
  rw [h.length]
  obtain ⟨B, h1, h2⟩ := Reps.drop (HT.sIx vs.length 0 lo) h
  obtain ⟨C, h3, h4⟩ := Reps.take (HT.sIx vs.length vs.length hi - HT.sIx vs.length 0 lo) h1
  exact ⟨C, h3, fun a ha => h2 a (h4 a ha)⟩
theorem Reps.get : ∀ {ds : List D} {vs : List V} {A : List Addr} {j : Nat} {d : D}, Reps K H ds vs A → ds[j]? = some d → ∃ v B, vs[j]? = some v ∧ Rep K H d v B ∧ (∀ a ∈ B, a ∈ A)
  | [], _, _, j, d, h, e => by simp at e
  | x :: ds, _, _, 0, d, h, e => by
    simp only [Reps] at h
    obtain ⟨v, vr, B, C, rfl, h1, h2, rfl⟩ := h
    simp at e; subst e
    exact ⟨v, B, rfl, h1, fun a ha => List.mem_append_left _ ha⟩
  | x :: ds, _, _, j + 1, d, h, e => by
    simp only [Reps] at h
    obtain ⟨v, vr, B, C, rfl, h1, h2, rfl⟩ := h
    obtain ⟨w, B', e1, r, s⟩ := Reps.get (j := j) h2 (by simpa using e)
    exact ⟨w, B', by simpa using e1, r, fun a ha => List.mem_append_right _ (s a ha)⟩
theorem Reps.at {ds : List D} {vs : List V} {A : List Addr} {i : Int} {d : D} (h : Reps K H ds vs A) (e : atI ds i = some d) : ∃ v B, atI vs i = some v ∧ Rep K H d v B ∧ (∀ a ∈ B, a ∈ A) := by
  unfold atI at e ⊢
  rw [h.length] at e
  cases q : ixN vs.length i with
  | none => rw [q] at e; simp at e
  | some j =>
    rw [q] at e
    exact h.get e
theorem Reps.rev : ∀ {ds : List D} {vs : List V} {A : List Addr}, Reps K H ds vs A → ∃ B, Reps K H ds.reverse vs.reverse B ∧ ∀ a ∈ B, a ∈ A
  | [], _, _, h => by
    simp only [Reps] at h
    rw [h.1]
    exact ⟨[], by simp [Reps], fun _ z => (nomatch z)⟩
  | d :: ds, _, _, h => by
    simp only [Reps] at h
    obtain ⟨v, vr, B, C, rfl, h1, h2, rfl⟩ := h
    obtain ⟨D', h3, h4⟩ := Reps.rev h2
    refine ⟨D' ++ (B ++ []), ?_, fun a ha => ?_⟩
    · rw [List.reverse_cons, List.reverse_cons]
      refine h3.append ?_
      simp only [Reps]
      exact ⟨v, [], B, [], rfl, h1, ⟨rfl, rfl⟩, rfl⟩
    · rw [List.append_nil] at ha
      rcases List.mem_append.mp ha with q | q
      · exact List.mem_append_right _ (h4 a q)
      · exact List.mem_append_left _ q
theorem Reps.ints : ∀ {ds : List D} {vs : List V} {A : List Addr} {ns : List Int}, Reps K H ds vs A → asInts ds = some ns → vs = ns.map V.int ∧ ds = ns.map D.int
  | [], _, _, ns, h, e => by
    simp only [asInts] at e; cases e
    simp only [Reps] at h
    exact ⟨h.1, rfl⟩
  | d :: ds, _, _, ns, h, e => by
    simp only [Reps] at h
    obtain ⟨v, vr, B, C, rfl, h1, h2, rfl⟩ := h
    cases d <;> simp only [asInts, Option.map_eq_some_iff] at e <;> try cases e
    obtain ⟨e1, rfl⟩ := ‹_ ∧ _›
    obtain ⟨h3, h4⟩ := Reps.ints h2 e1
    simp only [Rep] at h1
    rw [h1.1, h3, h4]
    exact ⟨rfl, rfl⟩
theorem Reps.bls : ∀ {ds : List D} {vs : List V} {A : List Addr} {ns : List Bool}, Reps K H ds vs A → asBls ds = some ns → vs = ns.map V.bl
  | [], _, _, ns, h, e => by
    simp only [asBls] at e; cases e
    simp only [Reps] at h
    exact h.1
  | d :: ds, _, _, ns, h, e => by
    simp only [Reps] at h
    obtain ⟨v, vr, B, C, rfl, h1, h2, rfl⟩ := h
    cases d <;> simp only [asBls, Option.map_eq_some_iff] at e <;> try cases e
    obtain ⟨e1, rfl⟩ := ‹_ ∧ _›
    simp only [Rep] at h1
    rw [h1.1, Reps.bls h2 e1]; rfl
def sV (s : List Nat) : Str := ⟨s.toArray⟩
theorem Reps.strs : ∀ {ds : List D} {vs : List V} {A : List Addr} {ns : List (List Nat)}, Reps K H ds vs A → asStrs ds = some ns → vs = (ns.map sV).map V.str ∧ (∀ s ∈ ns, strOkL s = true) ∧ ds = ns.map D.str
  | [], _, _, ns, h, e => by
    simp only [asStrs] at e; cases e
    simp only [Reps] at h
    exact ⟨h.1, fun _ z => (nomatch z), rfl⟩
  | d :: ds, _, _, ns, h, e => by
    simp only [Reps] at h
    obtain ⟨v, vr, B, C, rfl, h1, h2, rfl⟩ := h
    cases d <;> simp only [asStrs, Option.map_eq_some_iff] at e <;> try cases e
    obtain ⟨e1, rfl⟩ := ‹_ ∧ _›
    obtain ⟨h3, h4, h5⟩ := Reps.strs h2 e1
    simp only [Rep] at h1
    rw [h1.1, h3, h5]
    exact ⟨rfl, fun s hs => (List.mem_cons.mp hs).elim (fun q => q ▸ h1.2.2) (h4 s), rfl⟩
theorem reps_ints (H : Hp) : ∀ ns : List Int, Reps K H (ns.map D.int) (ns.map V.int) []
  | [] => by simp [Reps]
  | n :: ns => by
    show Reps K H (.int n :: ns.map D.int) (.int n :: ns.map V.int) []
    simp only [Reps, Rep]
    exact ⟨_, _, [], [], rfl, ⟨rfl, rfl⟩, reps_ints H ns, rfl⟩
theorem reps_strs (H : Hp) : ∀ ns : List (List Nat), (∀ s ∈ ns, strOkL s = true) → Reps K H (ns.map D.str) ((ns.map sV).map V.str) []
  | [], _ => by simp [Reps]
  | n :: ns, h => by
    show Reps K H (.str n :: ns.map D.str) (.str (sV n) :: (ns.map sV).map V.str) []
    simp only [Reps, Rep]
    exact ⟨_, _, [], [], rfl, ⟨rfl, rfl, h n List.mem_cons_self⟩, reps_strs H ns fun s hs => h s (List.mem_cons_of_mem _ hs), rfl⟩

/-! ### as data -/
mutual
theorem shal_toP : ∀ (n : Nat) (d : D) (v : V) (A : List Addr), shal n d = true → Rep K H d v A → ∃ p, toP d = some p ∧ Dp K H v p ∧ p.canLay0 = true ∧ p.depth ≤ n
  | n, .non, v, A, _, r => by simp only [Rep] at r; rw [r.1]; exact ⟨_, rfl, .non, rfl, Nat.zero_le _⟩
  | n, .bl b, v, A, _, r => by simp only [Rep] at r; rw [r.1]; exact ⟨_, rfl, .bl b, rfl, Nat.zero_le _⟩
  | n, .int i, v, A, _, r => by simp only [Rep] at r; rw [r.1]; exact ⟨_, rfl, .int i, rfl, Nat.zero_le _⟩
  | n, .str s, v, A, _, r => by
    simp only [Rep] at r; rw [r.1]
    refine ⟨_, rfl, .str _, ?_, Nat.zero_le _⟩
    show (s.toArray.all (· < 0x110000)) = true
    rw [List.all_toArray]; exact r.2.2
  | n + 1, .tup xs, v, A, h, r => by
    simp only [shal] at h
    simp only [Rep] at r
    obtain ⟨a, vs, rfl, q, r⟩ := r
    obtain ⟨ps, e, dp, l, z⟩ := shal_toPs n xs vs A h r
    exact ⟨.tuple ps, by simp [toP, e], .tup q dp, l, by simp only [PyData.depth]; omega⟩
  | n + 1, .lst xs, v, A, h, r => by
    simp only [shal] at h
    simp only [Rep] at r
    obtain ⟨a, vs, B, rfl, q, r, rfl⟩ := r
    obtain ⟨ps, e, dp, l, z⟩ := shal_toPs n xs vs B h r
    exact ⟨.list ps, by simp [toP, e], .lst (SqL.of q) dp, l, by simp only [PyData.depth]; omega⟩
  | 0, .tup xs, _, _, h, _ => by simp [shal] at h
  | 0, .lst xs, _, _, h, _ => by simp [shal] at h
  | _, .dct _, _, _, h, _ => by simp [shal] at h
  | _, .ins _ _, _, _, h, _ => by simp [shal] at h
  | _, .fn _, _, _, h, _ => by simp [shal] at h
  | _, .scr _, _, _, h, _ => by simp [shal] at h
theorem shal_toPs : ∀ (n : Nat) (ds : List D) (vs : List V) (A : List Addr), shalL n ds = true → Reps K H ds vs A → ∃ ps, toPs ds = some ps ∧ DpAll K H vs ps ∧ PyData.canLayAll0 ps = true ∧ PyData.depthAll ps ≤ n
  | n, [], vs, A, _, r => by simp only [Reps] at r; rw [r.1]; exact ⟨[], rfl, .nil, rfl, Nat.zero_le _⟩
  | n, d :: ds, vs, A, h, r => by
    simp only [shalL, Bool.and_eq_true] at h
    simp only [Reps] at r
    obtain ⟨v, vr, B, C, rfl, r1, r2, rfl⟩ := r
    obtain ⟨p, e, dp, l, z⟩ := shal_toP n d v B h.1 r1
    obtain ⟨ps, e', dp', l', z'⟩ := shal_toPs n ds vr C h.2 r2
    refine ⟨p :: ps, by simp [toPs, e, e'], .cons dp dp', ?_, ?_⟩
    · simp only [PyData.canLayAll0, l, l', Bool.and_self]
    · simp only [PyData.depthAll]; omega
end
theorem str_beq (x y : List Nat) : ((⟨x.toArray⟩ : Str) == ⟨y.toArray⟩) = (x == y) := by
  by_cases e : x = y
  · subst e; simp
  · have : ¬ ((⟨x.toArray⟩ : Str) = ⟨y.toArray⟩) := fun q => e (by simpa using congrArg (fun s : Str => s.cps.toList) q)
    rw [beq_eq_false_iff_ne.mpr this, beq_eq_false_iff_ne.mpr e]
mutual
theorem deq_eqv : ∀ (d e : D) (p q : PyData), toP d = some p → toP e = some q → deq d e = PyData.eqv p q
  | .non, e, p, q, h, h' => by cases h; cases e <;> simp only [toP, Option.map_eq_some_iff] at h' <;> first | (cases h'; done) | (cases h'; rfl) | (obtain ⟨_, _, rfl⟩ := h'; rfl)
  | .bl b, e, p, q, h, h' => by cases h; cases e <;> simp only [toP, Option.map_eq_some_iff] at h' <;> first | (cases h'; done) | (cases h'; rfl) | (obtain ⟨_, _, rfl⟩ := h'; rfl)
  | .int i, e, p, q, h, h' => by cases h; cases e <;> simp only [toP, Option.map_eq_some_iff] at h' <;> first | (cases h'; done) | (cases h'; rfl) | (obtain ⟨_, _, rfl⟩ := h'; rfl)
  | .str s, e, p, q, h, h' => by
    cases h; cases e <;> simp only [toP, Option.map_eq_some_iff] at h' <;> first
    | (cases h'; done)
    | (cases h'; simp only [deq, PyData.eqv]; exact (str_beq _ _).symm)
    | (cases h'; rfl)
    | (obtain ⟨_, _, rfl⟩ := h'; rfl)
  | .tup xs, e, p, q, h, h' => by
    simp only [toP, Option.map_eq_some_iff] at h
    obtain ⟨ps, h, rfl⟩ := h
    cases e <;> simp only [toP, Option.map_eq_some_iff] at h' <;> first
    | (cases h'; done)
    | (cases h'; rfl)
    | (obtain ⟨qs, h', rfl⟩ := h'; first | (simp only [deq, PyData.eqv]; exact deqL_eqv xs _ ps qs h h') | rfl)
  | .lst xs, e, p, q, h, h' => by
    simp only [toP, Option.map_eq_some_iff] at h
    obtain ⟨ps, h, rfl⟩ := h
    cases e <;> simp only [toP, Option.map_eq_some_iff] at h' <;> first
    | (cases h'; done)
    | (cases h'; rfl)
    | (obtain ⟨qs, h', rfl⟩ := h'; first | (simp only [deq, PyData.eqv]; exact deqL_eqv xs _ ps qs h h') | rfl)
  | .dct _, e, p, q, h, h' => by simp [toP] at h
  | .ins _ _, e, p, q, h, h' => by simp [toP] at h
  | .fn _, e, p, q, h, h' => by simp [toP] at h
  | .scr _, e, p, q, h, h' => by simp [toP] at h
theorem deqL_eqv : ∀ (ds es : List D) (ps qs : List PyData), toPs ds = some ps → toPs es = some qs → deqL ds es = PyData.eqvAll ps qs
  | [], [], ps, qs, h, h' => by cases h; cases h'; rfl
  | [], e :: es, ps, qs, h, h' => by
    cases h
    simp only [toPs, Option.bind_eq_some_iff, Option.map_eq_some_iff] at h'
    obtain ⟨y, _, ys, _, rfl⟩ := h'
    rfl
  | d :: ds, [], ps, qs, h, h' => by
    cases h'
    simp only [toPs, Option.bind_eq_some_iff, Option.map_eq_some_iff] at h
    obtain ⟨y, _, ys, _, rfl⟩ := h
    rfl
  | d :: ds, e :: es, ps, qs, h, h' => by
    simp only [toPs, Option.bind_eq_some_iff, Option.map_eq_some_iff] at h h'
    obtain ⟨y, e1, ys, e2, rfl⟩ := h
    obtain ⟨z, e3, zs, e4, rfl⟩ := h'
    simp only [deqL, PyData.eqvAll]
    rw [deq_eqv d e y z e1 e3, deqL_eqv ds es ys zs e2 e4]
end
theorem shaped_of {p : PyData} {n : Nat} (h : p.canLay0 = true) (z : p.depth ≤ n) (hn : n ≤ 64) : SeqAt.shaped p = true := by
  unfold SeqAt.shaped
  rw [h, Bool.true_and, decide_eq_true_iff]
  omega
theorem any_eqv : ∀ (ys : List D) (qs : List PyData) (x : D) (p : PyData), toPs ys = some qs → toP x = some p → (ys.any fun y => deq y x) = qs.any fun z => PyData.eqv z p
  | [], qs, x, p, h, hx => by cases h; rfl
  | y :: ys, qs, x, p, h, hx => by
    simp only [toPs, Option.bind_eq_some_iff, Option.map_eq_some_iff] at h
    obtain ⟨z, e1, zs, e2, rfl⟩ := h
    simp only [List.any_cons]
    rw [deq_eqv y x z p e1 hx, any_eqv ys zs x p e2 hx]
theorem shal0_flat {d : D} {v : V} {A : List Addr} (h : shal 0 d = true) (r : Rep K H d v A) : flatV v = true ∧ A = [] := by
  cases d <;> simp only [shal] at h <;> simp only [Rep] at r <;> first
    | (rw [r.1]; exact ⟨rfl, r.2⟩)
    | (rw [r.1]; exact ⟨rfl, r.2.1⟩)
    | (cases h)
theorem shalL0_flat : ∀ {ds : List D} {vs : List V} {A : List Addr}, shalL 0 ds = true → Reps K H ds vs A → vs.all flatV = true
  | [], _, _, _, r => by simp only [Reps] at r; rw [r.1]; rfl
  | d :: ds, _, _, h, r => by
    simp only [shalL, Bool.and_eq_true] at h
    simp only [Reps] at r
    obtain ⟨v, vr, B, C, rfl, r1, r2, rfl⟩ := r
    simp only [List.all_cons, (shal0_flat h.1 r1).1, shalL0_flat h.2 r2, Bool.and_self]
theorem deq_eqV {d e : D} {v w : V} {A B : List Addr} (h : shal 0 d = true) (h' : shal 0 e = true) (r : Rep K H d v A) (q : Rep K H e w B) : deq d e = eqV v w := by
  cases d <;> simp only [shal] at h <;> (try cases h) <;> cases e <;> simp only [shal] at h' <;> (try cases h') <;> simp only [Rep] at r q <;> rw [r.1, q.1] <;> simp only [deq, eqV] <;> first | rfl | exact (str_beq _ _).symm
theorem any_eqV : ∀ {ds : List D} {vs : List V} {A : List Addr} {x : D} {w : V} {B : List Addr}, shalL 0 ds = true → Reps K H ds vs A → shal 0 x = true → Rep K H x w B → (ds.any fun y => deq y x) = inV w vs
  | [], _, _, _, _, _, _, r, _, _ => by simp only [Reps] at r; rw [r.1]; rfl
  | d :: ds, _, _, x, w, B, h, r, hx, rx => by
    simp only [shalL, Bool.and_eq_true] at h
    simp only [Reps] at r
    obtain ⟨v, vr, B', C, rfl, r1, r2, rfl⟩ := r
    have ih := any_eqV h.2 r2 hx rx
    unfold inV at ih ⊢
    simp only [List.any_cons]
    rw [deq_eqV h.1 hx r1 rx, ih]
end
end WT

/-! WT: each operation by values. -/
namespace WT
open PySem L2
theorem line_eq : line = sizeLine := by decide
theorem strOk_app {a b : List Nat} (h : strOkL a = true) (h' : strOkL b = true) : strOkL (a ++ b) = true := by
  unfold strOkL at *; rw [List.all_append, h, h']; rfl
theorem strOk_sub {a b : List Nat} (h : strOkL a = true) (s : ∀ c ∈ b, c ∈ a) : strOkL b = true := by
  unfold strOkL at *
  exact List.all_eq_true.mpr fun c hc => List.all_eq_true.mp h c (s c hc)
theorem cut_mem {α : Type} {xs : List α} {lo hi : Option Int} {c : α} (h : c ∈ cutL xs lo hi) : c ∈ xs := List.mem_of_mem_drop (List.mem_of_mem_take h)
theorem sV_app (a b : List Nat) : sV a ++ sV b = sV (a ++ b) := by
  show Str.append _ _ = _
  unfold Str.append sV
  simp
theorem sV_len (a : List Nat) : (sV a).length = a.length := by
  show (a.toArray).size = _
  simp
section
variable {K : PySem.W.Frag} {X : Cx}

/-! ### + -/
def rAddA (K : PySem.W.Frag) : R2 := fun x y H Q => rI0 (fun i j => .int (i + j)) x y H Q ∨ (fun x y H Q => ∃ i j, x = .str i ∧ y = .str j ∧ i.length + j.length ≤ sizeLine ∧ Q (.str (i ++ j)) H : R2) x y H Q ∨ rCat x y H Q ∨ rCatA K x y H Q
theorem op_addA : OpR X (binaryOp .Add) (rAddA X.K) := op_add.or (op_add_str.or (op_cat.or op_catA))
theorem snd_add : SndP K .add (rr2 (rAddA K)) := by
  intro ds d top e vs H As rs Q h
  change p_add ds = _ at e
  unfold p_add at e
  split at e
  · cases e
    obtain ⟨v, w, A, B, rfl, rfl, r1, r2⟩ := r3_2 rs
    simp only [Rep] at r1 r2
    exact .inl ⟨_, _, r1.1, r2.1, finI h⟩
  · split at e <;> cases e
    rename_i hz
    obtain ⟨v, w, A, B, rfl, rfl, r1, r2⟩ := r3_2 rs
    simp only [Rep] at r1 r2
    refine .inr (.inl ⟨_, _, r1.1, r2.1, ?_, ?_⟩)
    · show (sV _).length + (sV _).length ≤ _
      rw [sV_len, sV_len, ← line_eq]; exact hz
    · show Q (.str (sV _ ++ sV _)) H
      rw [sV_app]
      exact finS h (strOk_app r1.2.2 r2.2.2)
  · split at e <;> cases e
    rename_i hz
    obtain ⟨v, w, A, B, rfl, rfl, r1, r2⟩ := r3_2 rs
    simp only [Rep] at r1 r2
    obtain ⟨a, us, A', rfl, q1, r1, rfl⟩ := r1
    obtain ⟨b, ws, B', rfl, q2, r2, rfl⟩ := r2
    refine .inr (.inr (.inl ⟨a, b, us, ws, rfl, rfl, q1, q2, ?_, fun p np => finL h (r1.append r2) (fun c hc => ?_) np⟩))
    · rw [← r1.length, ← r2.length, ← line_eq]; exact hz
    · simp only [List.flatten_cons, List.flatten_nil, List.append_nil, List.mem_append, List.mem_cons] at hc ⊢
      rcases hc with hc | hc
      · exact .inl (.inr hc)
      · exact .inr (.inr hc)
  · split at e <;> cases e
    rename_i hz
    obtain ⟨v, w, A, B, rfl, rfl, r1, r2⟩ := r3_2 rs
    simp only [Rep] at r1 r2
    obtain ⟨a, us, rfl, q1, r1⟩ := r1
    obtain ⟨b, ws, rfl, q2, r2⟩ := r2
    have hf : ∀ c ∈ A ++ B, c ∈ [A, B].flatten := fun c hc => by simpa using hc
    refine .inr (.inr (.inr ⟨a, b, us, ws, rfl, rfl, q1, q2, ?_, fun z => ?_, fun _ z => ?_, fun _ _ p np => finT h (r1.append r2) hf np⟩))
    · rw [← r1.length, ← r2.length, ← line_eq]; exact hz
    · subst z
      have : ws = [] ++ ws := rfl
      exact finTs h q2 (vs := ws) (by simpa using r1.append r2) hf
    · subst z
      exact finTs h q1 (vs := us) (by simpa using r1.append r2) hf
  · cases e

/-! ### - * // % ** -/
def rI2 (C : Int → Int → Prop) (f : Int → Int → Int) : R2 := rI C fun i j => .int (f i j)
theorem snd_int2 {o : Op} {C : Int → Int → Prop} {f : Int → Int → Int} (hp : ∀ ds d top, prim o ds = some (d, top) → ∃ i j, ds = [.int i, .int j] ∧ C i j ∧ d = .int (f i j)) : SndP K o (rr2 (rI2 C f)) := by
  intro ds d top e vs H As rs Q h
  obtain ⟨i, j, rfl, c, rfl⟩ := hp ds d top e
  obtain ⟨v, w, A, B, rfl, rfl, r1, r2⟩ := r3_2 rs
  simp only [Rep] at r1 r2
  exact ⟨i, j, r1.1, r2.1, c, finI h⟩
theorem snd_sub : SndP K .sub (rr2 (rI2 (fun _ _ => True) fun i j => i - j)) := snd_int2 fun ds d top e => by
  change p_sub ds = _ at e
  unfold p_sub at e
  split at e <;> cases e
  exact ⟨_, _, rfl, trivial, rfl⟩
theorem op_subA : OpR X (binaryOp .Sub) (rI2 (fun _ _ => True) fun i j => i - j) := fun pins s σ H x y v u Q I rx ry h =>
  op_sub pins s σ H x y v u Q I rx ry (let ⟨i, j, a, b, _, q⟩ := h; ⟨i, j, a, b, q⟩)
theorem small64_ok {i : Int} (h : small64 i = true) : -(2 ^ 64) < i ∧ i < 2 ^ 64 := by
  unfold small64 at h
  simpa only [Bool.and_eq_true, decide_eq_true_eq] using h
def rMulA (K : PySem.W.Frag) : R2 := rI2 CMul fun i j => i * j
theorem snd_mod : SndP K .mod (rr2 (rI2 (fun _ j => 0 < j) fun i j => i % j)) := snd_int2 fun ds d top e => by
  change p_mod ds = _ at e
  unfold p_mod at e
  split at e
  · split at e <;> cases e
    exact ⟨_, _, rfl, by simpa using ‹_›, rfl⟩
  · cases e
theorem snd_fdiv : SndP K .fdiv (rr2 (rI2 CDiv fun i j => i / j)) := snd_int2 fun ds d top e => by
  change p_fdiv ds = _ at e
  unfold p_fdiv at e
  split at e
  · split at e <;> cases e
    refine ⟨_, _, rfl, ?_, rfl⟩
    rename_i z
    simp only [Bool.and_eq_true, decide_eq_true_eq] at z
    exact z
  · cases e
theorem snd_pow : SndP K .pow (rr2 (rI2 CPow fun i j => i ^ j.toNat)) := snd_int2 fun ds d top e => by
  change p_pow ds = _ at e
  unfold p_pow at e
  split at e
  · split at e <;> cases e
    refine ⟨_, _, rfl, ?_, rfl⟩
    rename_i z
    simp only [Bool.and_eq_true, decide_eq_true_eq] at z
    exact ⟨z.1.1, z.1.2, z.2⟩
  · cases e

/-! ### comparisons -/
theorem snd_eq : SndP K .eq (rr2 (rEqD K)) := by
  intro ds d top e vs H As rs Q h
  change p_eq ds = _ at e
  unfold p_eq at e
  split at e
  · split at e <;> cases e
    rename_i z
    simp only [Bool.and_eq_true] at z
    obtain ⟨v, w, A, B, rfl, rfl, r1, r2⟩ := r3_2 rs
    obtain ⟨p, e1, d1, l1, z1⟩ := shal_toP 60 _ v A z.1 r1
    obtain ⟨q, e2, d2, l2, z2⟩ := shal_toP 60 _ w B z.2 r2
    refine ⟨p, q, d1, d2, shaped_of l1 z1 (by decide), shaped_of l2 z2 (by decide), ?_⟩
    rw [← deq_eqv _ _ p q e1 e2]
    exact finB h
  · cases e
theorem snd_ne : SndP K .ne (rr2 (rNeD K)) := by
  intro ds d top e vs H As rs Q h
  change p_ne ds = _ at e
  unfold p_ne at e
  split at e
  · split at e <;> cases e
    rename_i z
    simp only [Bool.and_eq_true] at z
    obtain ⟨v, w, A, B, rfl, rfl, r1, r2⟩ := r3_2 rs
    obtain ⟨p, e1, d1, l1, z1⟩ := shal_toP 60 _ v A z.1 r1
    obtain ⟨q, e2, d2, l2, z2⟩ := shal_toP 60 _ w B z.2 r2
    refine ⟨p, q, d1, d2, shaped_of l1 z1 (by decide), shaped_of l2 z2 (by decide), ?_⟩
    rw [← deq_eqv _ _ p q e1 e2]
    exact finB h
  · cases e
def rStrB (f : List Nat → List Nat → Bool) : R2 := fun x y H Q => ∃ i j, x = .str i ∧ y = .str j ∧ Q (.bl (f i.cps.toList j.cps.toList)) H
def rLtA : R2 := fun x y H Q => rI0 (fun i j => .bl (decide (i < j))) x y H Q ∨ rStrB (fun i j => decide (i < j)) x y H Q
theorem op_ltA : OpR X (compareOp .Lt) rLtA := op_lt.or op_lt_str
theorem snd_lt : SndP K .lt (rr2 rLtA) := by
  intro ds d top e vs H As rs Q h
  change p_lt ds = _ at e
  unfold p_lt at e
  split at e <;> cases e
  · obtain ⟨v, w, A, B, rfl, rfl, r1, r2⟩ := r3_2 rs
    simp only [Rep] at r1 r2
    exact .inl ⟨_, _, r1.1, r2.1, finB h⟩
  · obtain ⟨v, w, A, B, rfl, rfl, r1, r2⟩ := r3_2 rs
    simp only [Rep] at r1 r2
    refine .inr ⟨_, _, r1.1, r2.1, ?_⟩
    simp only [List.toList_toArray]
    exact finB h
theorem snd_cmpI {o : Op} {f : Int → Int → Bool} (hp : ∀ ds d top, prim o ds = some (d, top) → ∃ i j, ds = [.int i, .int j] ∧ d = .bl (f i j)) : SndP K o (rr2 (rI0 fun i j => .bl (f i j))) := by
  intro ds d top e vs H As rs Q h
  obtain ⟨i, j, rfl, rfl⟩ := hp ds d top e
  obtain ⟨v, w, A, B, rfl, rfl, r1, r2⟩ := r3_2 rs
  simp only [Rep] at r1 r2
  exact ⟨i, j, r1.1, r2.1, finB h⟩
def rLeA : R2 := fun x y H Q => rI0 (fun i j => .bl (decide (i ≤ j))) x y H Q ∨ (∃ i j, x = .str i ∧ y = .str j ∧ Q (.bl (!decide (j.cps.toList < i.cps.toList))) H)
theorem op_leA : OpR X (compareOp .LtE) rLeA := op_le.or op_le_str
theorem snd_le : SndP K .le (rr2 rLeA) := by
  intro ds d top e vs H As rs Q h
  change p_le ds = _ at e
  unfold p_le at e
  split at e <;> cases e
  · obtain ⟨v, w, A, B, rfl, rfl, r1, r2⟩ := r3_2 rs
    simp only [Rep] at r1 r2
    exact .inl ⟨_, _, r1.1, r2.1, finB h⟩
  · obtain ⟨v, w, A, B, rfl, rfl, r1, r2⟩ := r3_2 rs
    simp only [Rep] at r1 r2
    refine .inr ⟨_, _, r1.1, r2.1, ?_⟩
    simp only [List.toList_toArray]
    exact finB h
theorem snd_gt : SndP K .gt (rr2 (rI0 fun i j => .bl (decide (j < i)))) := snd_cmpI fun ds d top e => by
  change p_gt ds = _ at e
  unfold p_gt at e
  split at e <;> cases e
  exact ⟨_, _, rfl, rfl⟩
theorem snd_ge : SndP K .ge (rr2 (rI0 fun i j => .bl (decide (j ≤ i)))) := snd_cmpI fun ds d top e => by
  change p_ge ds = _ at e
  unfold p_ge at e
  split at e <;> cases e
  exact ⟨_, _, rfl, rfl⟩
end
end WT

/-! WT: each operation by values, further. -/
namespace WT
open PySem L2
section
variable {K : PySem.W.Frag} {X : Cx}

/-! ### in -/
def rSign (neg : Bool) : R2 := fun x y H Q => ∃ (c : Nat) (z : Str), x = .str ⟨#[c]⟩ ∧ y = .str z ∧ Q (.bl (neg ^^ decide (c ∈ z.cps.toList))) H
def rDin (neg : Bool) : R2 := fun y x H Q => ∃ a o, x = .ref a ∧ DGet H a y o ∧ Q (.bl (neg ^^ o.isSome)) H
def rInDn (K : PySem.W.Frag) (neg : Bool) : R2 := fun x y H Q => ∃ d ds, Dp K H x d ∧ Dp K H y (.list ds) ∧ SeqAt.shaped d = true ∧ SeqAt.shaped (.list ds) = true ∧ Q (.bl (neg ^^ ds.any fun z => PyData.eqv z d)) H
def rInSq (K : PySem.W.Frag) (neg : Bool) : R2 := fun x y H Q => ∃ p xs, y = .ref p ∧ (SqL K H p xs ∨ SqT K H p xs) ∧ flatV x = true ∧ xs.all flatV = true ∧ Q (.bl (neg ^^ inV x xs)) H
def rInA (K : PySem.W.Frag) (neg : Bool) : R2 := fun x y H Q => rSign neg x y H Q ∨ rDin neg x y H Q ∨ rInDn K neg x y H Q ∨ rInSq K neg x y H Q
theorem op_inA (hu : X.A.units + 65 < cLine) : OpR X (compareOp .In) (rInA X.K false) := by
  intro pins s σ H x y v u Q I rx ry h
  rcases h with h | h | h | h
  · obtain ⟨c, z, a, b, q⟩ := h
    exact op_in_sign pins s σ H x y v u Q I rx ry ⟨c, z, a, b, by simpa using q⟩
  · obtain ⟨a, o, ex, g, q⟩ := h
    subst ex
    obtain rfl : u = Value.ref a := ry
    exact d_in (by omega) I g rx fun s3 I3 => ⟨.bl o.isSome, H, I3, rfl, by simpa using q⟩
  · obtain ⟨d, ds, a, b, c, e, q⟩ := h
    exact op_inD hu pins s σ H x y v u Q I rx ry ⟨d, ds, a, b, c, e, by simpa using q⟩
  · obtain ⟨p, xs, a, b, c, d, q⟩ := h
    exact op_in_seq pins s σ H x y v u Q I rx ry ⟨p, xs, a, b, c, d, by simpa using q⟩
theorem op_notinA (hu : X.A.units + 65 < cLine) : OpR X (compareOp .NotIn) (rInA X.K true) := by
  intro pins s σ H x y v u Q I rx ry h
  rcases h with h | h | h | h
  · obtain ⟨c, z, a, b, q⟩ := h
    exact op_notIn_sign pins s σ H x y v u Q I rx ry ⟨c, z, a, b, by simpa using q⟩
  · obtain ⟨a, o, ex, g, q⟩ := h
    subst ex
    obtain rfl : u = Value.ref a := ry
    exact d_notIn (by omega) I g rx fun s3 I3 => ⟨.bl (!o.isSome), H, I3, rfl, by simpa using q⟩
  · obtain ⟨d, ds, a, b, c, e, q⟩ := h
    exact op_notInD hu pins s σ H x y v u Q I rx ry ⟨d, ds, a, b, c, e, by simpa using q⟩
  · obtain ⟨p, xs, a, b, c, d, q⟩ := h
    exact op_notIn_seq pins s σ H x y v u Q I rx ry ⟨p, xs, a, b, c, d, by simpa using q⟩
theorem toKey_rep {H : Hp} {d : D} {k : Key} {v : V} {A : List Addr} (e : toKey d = some k) (r : Rep K H d v A) : v = kV k ∧ A = [] := by
  cases d <;> simp only [toKey] at e <;> cases e <;> simp only [Rep] at r
  · exact ⟨r.1, r.2⟩
  · exact ⟨r.1, r.2.1⟩
theorem deq_key {x y : D} {k k' : Key} (e : toKey x = some k) (e' : toKey y = some k') : deq x y = decide (k = k') := by
  cases x <;> simp only [toKey] at e <;> cases e <;> cases y <;> simp only [toKey] at e' <;> cases e'
  · rw [key_ll]; rfl
  · rw [key_lr]; rfl
  · rw [key_rl]; rfl
  · rw [key_rr]
    simp only [deq]
    rw [← str_beq]
    exact Bool.beq_eq_decide_eq _ _

theorem isKey_to {d : D} (h : isKey d = true) : ∃ k, toKey d = some k := by
  cases d <;> simp only [isKey] at h <;> first | (cases h; done) | exact ⟨_, rfl⟩
theorem RepKs.get {H : Hp} {x : D} {k : Key} (hk : toKey x = some k) : ∀ {kvs : List (D × D)} {ws : List (Key × V)} {B : List Addr}, RepKs K H kvs ws B →
    match kget x kvs with
    | some d => ∃ v C, valV ws k = some v ∧ Rep K H d v C ∧ ∀ a ∈ C, a ∈ B
    | none => valV ws k = none
  | [], ws, B, h => by simp only [RepKs] at h; rw [h.1]; rfl
  | (a, b) :: r, ws, B, h => by
    simp only [RepKs] at h
    obtain ⟨q, v, wr, B', C', rfl, ⟨e, _⟩, h1, h2, rfl⟩ := h
    have ih := RepKs.get hk h2
    simp only [kget]
    rw [deq_key e hk]
    by_cases z : q = k
    · subst z
      simp only [decide_true, if_true]
      exact ⟨v, B', by simp [valV], h1, fun a ha => List.mem_append_left _ ha⟩
    · rw [if_neg (by simpa using z)]
      have e2 : valV ((q, v) :: wr) k = valV wr k := by simp [valV, z]
      rw [e2]
      cases g : kget x r with
      | none => rw [g] at ih; exact ih
      | some d =>
        rw [g] at ih
        obtain ⟨v', C, i1, i2, i3⟩ := ih
        exact ⟨v', C, i1, i2, fun a ha => List.mem_append_right _ (i3 a ha)⟩
theorem repks_some {H : Hp} {x : D} {k : Key} (hk : toKey x = some k) {kvs : List (D × D)} {ws : List (Key × V)} {B : List Addr} (h : RepKs K H kvs ws B) : (valV ws k).isSome = (kget x kvs).isSome := by
  have := RepKs.get hk h
  cases g : kget x kvs with
  | none => rw [g] at this; rw [this]; rfl
  | some d => rw [g] at this; obtain ⟨v, C, e, _⟩ := this; rw [e]; rfl
theorem snd_in_core {neg : Bool} {a b : D} {v w : V} {A B : List Addr} {H : Hp} {Q : VK} {top : Bool} {F : List Addr} {d : D}
    (e : (match a, b with
      | .str [c], .str b => some (D.bl (neg ^^ b.contains c))
      | x, .lst ys => if shal 59 x && shalL 59 ys then some (.bl (neg ^^ ys.any fun y => deq y x)) else none
      | x, .tup ys => if shal 0 x && shalL 0 ys then some (.bl (neg ^^ ys.any fun y => deq y x)) else none
      | x, .dct kvs => if isKey x then some (.bl (neg ^^ (kget x kvs).isSome)) else none
      | _, _ => none) = some d) (r1 : Rep K H a v A) (r2 : Rep K H b w B) (h : Fin K H d top F Q) : rInA K neg v w H Q := by
  revert r1 r2 h
  split at e
  · rename_i c s
    cases e
    intro r1 r2 h
    simp only [Rep] at r1 r2
    refine .inl ⟨c, _, r1.1, r2.1, ?_⟩
    have : decide (c ∈ (⟨s.toArray⟩ : Str).cps.toList) = s.contains c := by simp
    rw [this]
    exact finB h
  · split at e <;> cases e
    rename_i ys _ hz
    intro r1 r2 h
    simp only [Bool.and_eq_true] at hz
    obtain ⟨p, e1, d1, l1, z1⟩ := shal_toP 59 _ v A hz.1 r1
    obtain ⟨q, e2, d2, l2, z2⟩ := shal_toP 60 (.lst _) w B (by simpa only [shal] using hz.2) r2
    simp only [toP, Option.map_eq_some_iff] at e2
    obtain ⟨qs, e2, rfl⟩ := e2
    refine .inr (.inr (.inl ⟨p, qs, d1, d2, shaped_of l1 z1 (by decide), shaped_of l2 z2 (by decide), ?_⟩))
    rw [← any_eqv _ _ _ _ e2 e1]
    exact finB h
  · split at e <;> cases e
    rename_i ys hz
    intro r1 r2 h
    simp only [Bool.and_eq_true] at hz
    have f1 := (shal0_flat hz.1 r1).1
    have r2' := r2
    simp only [Rep] at r2
    obtain ⟨p, ws, rfl, q, r2⟩ := r2
    refine .inr (.inr (.inr ⟨p, ws, rfl, .inr q, f1, shalL0_flat hz.2 r2, ?_⟩))
    rw [← any_eqV hz.2 r2 hz.1 r1]
    exact finB h
  · split at e <;> cases e
    rename_i kvs hz
    intro r1 r2 h
    obtain ⟨k, hk⟩ := isKey_to hz
    obtain ⟨rfl, _⟩ := toKey_rep hk r1
    simp only [Rep] at r2
    obtain ⟨p, ws, B', rfl, q, r2, rfl⟩ := r2
    refine .inr (.inl ⟨p, _, rfl, DGet.k q, ?_⟩)
    rw [repks_some hk r2]
    exact finB h
  · cases e
theorem snd_isin : SndP K .isin (rr2 (rInA K false)) := by
  intro ds d top e vs H As rs Q h
  change p_isin ds = _ at e
  unfold p_isin at e
  split at e
  · cases e; obtain ⟨v, w, A, B, rfl, rfl, r1, r2⟩ := r3_2 rs
    exact snd_in_core (by simp) r1 r2 h
  · split at e <;> cases e
    rename_i hz; obtain ⟨v, w, A, B, rfl, rfl, r1, r2⟩ := r3_2 rs
    exact snd_in_core (by simp [hz]) r1 r2 h
  · split at e <;> cases e
    rename_i hz; obtain ⟨v, w, A, B, rfl, rfl, r1, r2⟩ := r3_2 rs
    exact snd_in_core (by simp [hz]) r1 r2 h
  · split at e <;> cases e
    rename_i hz; obtain ⟨v, w, A, B, rfl, rfl, r1, r2⟩ := r3_2 rs
    exact snd_in_core (by simp [hz]) r1 r2 h
  · cases e
theorem snd_notin : SndP K .notin (rr2 (rInA K true)) := by
  intro ds d top e vs H As rs Q h
  change p_notin ds = _ at e
  unfold p_notin at e
  split at e
  · cases e; obtain ⟨v, w, A, B, rfl, rfl, r1, r2⟩ := r3_2 rs
    exact snd_in_core (by simp) r1 r2 h
  · split at e <;> cases e
    rename_i hz; obtain ⟨v, w, A, B, rfl, rfl, r1, r2⟩ := r3_2 rs
    exact snd_in_core (by simp [hz]) r1 r2 h
  · split at e <;> cases e
    rename_i hz; obtain ⟨v, w, A, B, rfl, rfl, r1, r2⟩ := r3_2 rs
    exact snd_in_core (by simp [hz]) r1 r2 h
  · split at e <;> cases e
    rename_i hz; obtain ⟨v, w, A, B, rfl, rfl, r1, r2⟩ := r3_2 rs
    exact snd_in_core (by simp [hz]) r1 r2 h
  · cases e

/-! ### is -/
def isNonD : D → Bool
  | .non => true | _ => false
theorem rep_non {H : Hp} {d : D} {v : V} {A : List Addr} (r : Rep K H d v A) : decide (v = .non) = isNonD d := by
  cases d <;> simp only [Rep] at r
  case tup xs => obtain ⟨a, vs, rfl, _⟩ := r; simp [isNonD]
  case lst xs => obtain ⟨a, vs, B, rfl, _⟩ := r; simp [isNonD]
  case dct xs => obtain ⟨a, vs, B, rfl, _⟩ := r; simp [isNonD]
  case scr xs => obtain ⟨a, o, rfl, _⟩ := r; simp [isNonD]
  all_goals rw [r.1]; simp [isNonD]
def rIsN1 (neg : Bool) : V → Hp → VK → Prop := fun x H Q => Q (.bl (neg ^^ decide (x = .non))) H
theorem snd_isN : SndP K .isN (rr1 (rIsN1 false)) := by
  intro ds d top e vs H As rs Q h
  change p_isN ds = _ at e
  unfold p_isN at e
  split at e <;> cases e
  · obtain ⟨v, A, rfl, rfl, r⟩ := r3_1 rs
    show Q _ _
    rw [rep_non r]; exact finB h
  · rename_i x hx
    obtain ⟨v, A, rfl, rfl, r⟩ := r3_1 rs
    show Q _ _
    rw [rep_non r]
    cases x <;> first | exact absurd rfl hx | exact finB h
theorem snd_notN : SndP K .notN (rr1 (rIsN1 true)) := by
  intro ds d top e vs H As rs Q h
  change p_notN ds = _ at e
  unfold p_notN at e
  split at e <;> cases e
  · obtain ⟨v, A, rfl, rfl, r⟩ := r3_1 rs
    show Q _ _
    rw [rep_non r]; exact finB h
  · rename_i x hx
    obtain ⟨v, A, rfl, rfl, r⟩ := r3_1 rs
    show Q _ _
    rw [rep_non r]
    cases x <;> first | exact absurd rfl hx | exact finB h
def rIsTr1 : V → Hp → VK → Prop := fun x H Q => ∃ b, x = .bl b ∧ Q (.bl b) H
theorem snd_isTr : SndP K .isTr (rr1 rIsTr1) := by
  intro ds d top e vs H As rs Q h
  change p_isTr ds = _ at e
  unfold p_isTr at e
  split at e <;> cases e
  obtain ⟨v, A, rfl, rfl, r⟩ := r3_1 rs
  simp only [Rep] at r
  exact ⟨_, r.1, finB h⟩

/-! ### x[i] -/
def rIxD : R2 := fun x y H Q => ∃ a v, x = .ref a ∧ DGet H a y (some v) ∧ Q v H
theorem ix_dict (hu : X.A.units + 1 < cLine) : IxR X rIxD := by
  intro value slice pins s σ H x y v u Q I rx ry h hs
  obtain ⟨a, z, rfl, g, q⟩ := h
  obtain rfl : v = Value.ref a := rx
  unfold PyProof.Rows.subscriptTail
  refine wpAny_bind ?_
  rw [getitemInPython_of_ne (dict_typeIs I g).not_modules]
  refine wpAny_bind (wpAny_specialOf (dict_typeIs I g) PySem.F.slot_dict_getitem.lookup ?_)
  have fin : wpAny (model X.prog X.w) X.A (subscripted slice false (.ref a) u) (fun r s₃ => wpAny (model X.prog X.w) X.A (letTemporaryGo value (.ref a) r >>= fun _ => pure r) (EP X pins σ Q) X.xe s₃) X.xe s := by
    rw [hs]
    refine wpAny_operating (d_getItem hu I g ry fun w' s3 I3 rw' => wpAny_bind (wpAny_letTemporaryGo (wpAny_pure ?_)))
    exact ⟨z, H, I3, rw', q⟩
  first
    | exact wpAny_pure (wpAny_bind fin)
    | exact wpAny_bind (wpAny_pure (wpAny_bind fin))
    | exact wpAny_bind fin
def rIxA (K : PySem.W.Frag) : R2 := fun x y H Q => rIx K x y H Q ∨ rIxD x y H Q
theorem ix_all (hu : X.A.units + 1 < cLine) : IxR X (rIxA X.K) := ix_seq.or (ix_dict hu)
theorem snd_ix : SndP K .ix (rr2 (rIxA K)) := by
  intro ds d top e vs H As rs Q h
  change p_ix ds = _ at e
  unfold p_ix at e
  have sub : ∀ {A B : List Addr} {C : List Addr}, (∀ a ∈ C, a ∈ A) → ∀ a ∈ C, a ∈ [A, B].flatten := fun s a ha => by simpa using .inl (s a ha)
  split at e
  · split at e
    · simp only [Option.map_eq_some_iff] at e
      obtain ⟨c, e1, e2⟩ := e
      cases e2
      rename_i s i hz
      obtain ⟨v, w, A, B, rfl, rfl, r1, r2⟩ := r3_2 rs
      simp only [Rep] at r1 r2
      refine .inl (.inr (.inr ⟨_, i, c, r1.1, r2.1, ?_, by simpa using e1, ?_⟩))
      · show (sV s).length ≤ _
        rw [sV_len, ← line_eq]; exact hz
      · have hc : c ∈ s := by
          obtain ⟨j, _, h2, _⟩ := atI_get e1
          exact List.mem_of_getElem? h2
        exact finS (s := [c]) h (strOk_sub r1.2.2 (by simpa using hc))
    · cases e
  · simp only [Option.map_eq_some_iff] at e
    obtain ⟨x, e1, e2⟩ := e
    cases e2
    obtain ⟨v, w, A, B, rfl, rfl, r1, r2⟩ := r3_2 rs
    simp only [Rep] at r1 r2
    obtain ⟨p, us, A', rfl, q, r1, rfl⟩ := r1
    obtain ⟨z, C, e3, r3, s3⟩ := r1.at e1
    refine .inl (.inl ⟨p, us, _, z, rfl, r2.1, SqL.of q, e3, h z H C (Grow.refl H) r3 (fun a ha => .inl ?_) fun t => (nomatch t)⟩)
    simpa using .inr (.inl (s3 a ha))
  · simp only [Option.map_eq_some_iff] at e
    obtain ⟨x, e1, e2⟩ := e
    cases e2
    obtain ⟨v, w, A, B, rfl, rfl, r1, r2⟩ := r3_2 rs
    simp only [Rep] at r1 r2
    obtain ⟨p, us, rfl, q, r1⟩ := r1
    obtain ⟨z, C, e3, r3, s3⟩ := r1.at e1
    refine .inl (.inr (.inl ⟨p, us, _, z, rfl, r2.1, q, e3, h z H C (Grow.refl H) r3 (fun a ha => .inl ?_) fun t => (nomatch t)⟩))
    simpa using .inl (s3 a ha)
  · simp only [Option.map_eq_some_iff] at e
    obtain ⟨x, e1, e2⟩ := e
    cases e2
    obtain ⟨v, w, A, B, rfl, rfl, r1, r2⟩ := r3_2 rs
    simp only [Rep] at r1 r2
    obtain ⟨p, o, rfl, q, rfl⟩ := r1
    rename_i ns i
    refine .inl (.inl ⟨p, ns.map V.int, i, .int x, rfl, r2.1, q.sq, ?_, finI h⟩)
    unfold atI at e1 ⊢
    rw [List.length_map]
    cases g : ixN ns.length i with
    | none => rw [g] at e1; simp at e1
    | some j => rw [g] at e1; simp only [Option.bind_some] at e1 ⊢; rw [List.getElem?_map, e1]; rfl
  · split at e
    · simp only [Option.map_eq_some_iff] at e
      obtain ⟨x, e1, e2⟩ := e
      cases e2
      rename_i kvs y hz
      obtain ⟨v, w, A, B, rfl, rfl, r1, r2⟩ := r3_2 rs
      obtain ⟨k, hk⟩ := isKey_to hz
      obtain ⟨rfl, _⟩ := toKey_rep hk r2
      simp only [Rep] at r1
      obtain ⟨p, us, A', rfl, q, r1, rfl⟩ := r1
      have g := RepKs.get hk r1
      rw [e1] at g
      obtain ⟨z, C, e3, r3, s3⟩ := g
      refine .inr ⟨p, z, rfl, by rw [← e3]; exact DGet.k q, h z H C (Grow.refl H) r3 (fun a ha => .inl ?_) fun t => (nomatch t)⟩
      simpa using .inr (.inl (s3 a ha))
    · cases e
  · cases e
end
end WT

/-! WT: each operation by values, further; reversed slices. -/
namespace WT
open PySem L2 PySem.Spec PyProof.Rows
section
variable {K : PySem.W.Frag} {X : Cx}

/-! ### x[::-1] -/
def rRev (K : PySem.W.Frag) : V → Hp → VK → Prop := fun x H1 Q => (∃ a xs, x = .ref a ∧ SqL K H1 a xs ∧ ∀ p, H1 p = none → Q (.ref p) (upd H1 p (.lst xs.reverse))) ∨
  (∃ z : Str, x = .str z ∧ z.length ≤ sizeLine ∧ Q (.str ⟨z.cps.toList.reverse.toArray⟩) H1)
theorem strSlice_rev (n : Nat) : Builtin.Str.strSliceIndices none none (-1) n = (List.range n).map fun k => n - 1 - k := by
  have h : sliceRange ((n : Int) - 1) (-1) (-1) = (List.range n).map fun k => n - 1 - k := PySem.W.krv_sliceRange n
  rw [← h]
  first
    | rfl
    | (unfold Builtin.Str.strSliceIndices; simp)
theorem rev_filterMap (z : Str) : (((List.range z.length).map fun k => z.length - 1 - k).filterMap (z.cps[·]?)) = z.cps.toList.reverse := by
  rw [PySem.W.krv_range, List.filterMap_reverse]
  show ((List.range z.cps.size).filterMap (z.cps[·]?)).reverse = _
  rw [PySem.W.krv_all]
theorem pe_rev {e : Expr} {te : TE} {k : Nat} {p1 p2 p3 pos : Pos} (he : PE X e te) : PE X (.Subscript e (.Slice none none (some (.UnaryOp .USub (.Constant (.int 1) k p1) p2)) p3) pos) (fun σ H Q => te σ H fun x H1 => rRev X.K x H1 Q) := by
  refine ⟨fun pins s σ H Q I h => ?_⟩
  refine Subscript_ (thn (he.run pins s σ H _ I h) fun v s1 ⟨x, H1, I1, r1, q1⟩ => ?_)
  have hst : PO X (some (.UnaryOp .USub (.Constant (.int 1) k p1) p2)) (tPart (tUn (rU fun i => .int (-i)) (tC (.int 1)))) := po_some (pe_un un_neg pe_int)
  refine wpAny_Slice (thn (po_none.run pins s1 σ H1 (fun o H2 => o = none ∧ H2 = H1) I1 ⟨rfl, rfl⟩) fun vl s2 ⟨l, H2, I2, pl, el, e2⟩ => ?_)
  subst el e2
  refine thn (po_none.run pins s2 σ H2 (fun o H3 => o = none ∧ H3 = H2) I2 ⟨rfl, rfl⟩) fun vu s3 ⟨u, H3, I3, pu, eu, e3⟩ => ?_
  subst eu e3
  refine thn (hst.run pins s3 σ H3 (fun o H4 => o = some (-1) ∧ H4 = H3) I3 ⟨1, rfl, -1, rfl, rfl, rfl⟩) fun vs s4 ⟨o, H4, I4, ps, eo, e4⟩ => ?_
  subst eo e4
  have I5 : Inv X pins σ H4 { s4 with heap := s4.heap.push { cls := .type "slice", data := .fields #[vl, vu, vs] } } := I4.kept (t' := s4.toks) fun b ob q => Heap.get?_push_of_some _ q
  rcases q1 with ⟨a, xs, ex, hx, q⟩ | ⟨z, ex, hz, q⟩
  · subst ex
    cases r1
    obtain ⟨its, r, ht, hz⟩ := I5.list hx
    have hlen := r.length
    show wpAny (model X.prog X.w) X.A (subscriptTail e (.Slice none none (some (.UnaryOp .USub (.Constant (.int 1) k p1) p2)) p3) (.ref a) (.ref s4.heap.objs.size)) (EP X pins σ Q) X.xe { s4 with heap := s4.heap.push { cls := .type "slice", data := .fields #[vl, vu, vs] } }
    refine tail_any (ops := [.ref a, .ref s4.heap.objs.size]) ht.isList.typeIs (PySem.slot_list_getitem.lookup) ?_ (by with_unfolding_all rfl)
    refine wpAny_getItem_list_slice ht.isList (Heap.IsSliceOf.new _ vl vu vs) pl pu ps (by decide) ?_ (by rw [List.size_toArray]; omega)
    rw [PySem.W.krv_pick]
    refine ⟨.ref _, _, I5.laid (t' := s4.toks) (o := .lst xs.reverse) (fun b ob q => Heap.get?_push_of_some _ q) (Nat.le_refl _) ?_, rfl, q _ (I5.hok.fresh (Nat.le_refl _))⟩
    exact ⟨by rw [List.length_reverse]; exact hz, _, 0, r.reverse, Heap.get?_push_size _ rfl⟩
  · subst ex
    obtain ⟨t, rfl⟩ := r1
    show wpAny (model X.prog X.w) X.A (subscriptTail e (.Slice none none (some (.UnaryOp .USub (.Constant (.int 1) k p1) p2)) p3) (.str z t) (.ref s4.heap.objs.size)) (EP X pins σ Q) X.xe { s4 with heap := s4.heap.push { cls := .type "slice", data := .fields #[vl, vu, vs] } }
    refine tail_any (ops := [.str z t, .ref s4.heap.objs.size]) (typeIs_str _ _ _) F.slot_str_getitem.lookup ?_ (by with_unfolding_all rfl)
    obtain ⟨os, hos, hcs, hds⟩ := Heap.IsSliceOf.new s4.heap vl vu vs
    obtain ⟨l, rfl, el⟩ := IsPart.raw pl
    obtain ⟨u, rfl, eu⟩ := IsPart.raw pu
    obtain ⟨st, rfl, est⟩ := IsPart.raw ps
    have hl0 : l = none := by cases l <;> simp_all
    have hu0 : u = none := by cases u <;> simp_all
    subst hl0 hu0
    obtain ⟨tk, rfl⟩ : ∃ tk, st = some (-1, tk) := by
      cases st with
      | none => cases est
      | some p => obtain ⟨a, b⟩ := p; simp only [Option.map_some, Option.some.injEq] at est; exact ⟨b, by rw [est]⟩
    refine wpAny_getItem_str_slice (l := none) (u := none) (st := some (-1, tk)) ⟨os, hos, hcs, hds⟩ (by rfl) ?_
    unfold sliceMade
    show Made.post (if ((-1 : Int) == 1 && (Builtin.Str.strSliceIndices none none (-1) z.length).length == z.length) = true then Made.val (.str z t)
      else Made.str ⟨((Builtin.Str.strSliceIndices none none (-1) z.length).filterMap (z.cps[·]?)).toArray⟩) (EP X pins σ Q) _
    rw [if_neg (by rw [show ((-1 : Int) == 1) = false from rfl, Bool.false_and]; decide), strSlice_rev, rev_filterMap]
    refine ⟨?_, .str _, _, I5.tok _, ⟨_, rfl⟩, q⟩
    show (z.cps.toList.reverse.toArray).size ≤ _
    rw [List.size_toArray, List.length_reverse, Array.length_toList]
    exact hz
theorem snd_rev : SndP K .rev (rr1 (rRev K)) := by
  intro ds d top e vs H As rs Q h
  change p_rev ds = _ at e
  unfold p_rev at e
  split at e
  · split at e <;> cases e
    rename_i s hz
    obtain ⟨v, A, rfl, rfl, r⟩ := r3_1 rs
    simp only [Rep] at r
    refine .inr ⟨_, r.1, ?_, ?_⟩
    · show (sV s).length ≤ _
      rw [sV_len, ← line_eq]; exact hz
    · simp only [List.toList_toArray]
      exact finS h (strOk_sub r.2.2 (by simp))
  · cases e
    obtain ⟨v, A, rfl, rfl, r⟩ := r3_1 rs
    simp only [Rep] at r
    obtain ⟨a, us, B, rfl, q, r, rfl⟩ := r
    obtain ⟨C, r2, s2⟩ := r.rev
    exact .inl ⟨a, us, rfl, SqL.of q, fun p np => finL h r2 (fun c hc => by simpa using .inr (s2 c hc)) np⟩
  · cases e
end
end WT

/-! WT: built-ins by values. -/
namespace WT
open PySem L2
section
variable {K : PySem.W.Frag} {X : Cx}
abbrev RC := List V → Hp → VK → Prop

/-! ### * and - -/
def rMulB : R2 := fun x y H Q => rI2 CMul (fun i j => i * j) x y H Q ∨ rMulS x y H Q
theorem op_mulB : OpR X (binaryOp .Mult) rMulB := op_mul.or op_mulS
theorem snd_mul : SndP K .mul (rr2 rMulB) := by
  intro ds d top e vs H As rs Q h
  change p_mul ds = _ at e
  unfold p_mul at e
  split at e
  · split at e <;> cases e
    rename_i z
    simp only [Bool.or_eq_true] at z
    obtain ⟨v, w, A, B, rfl, rfl, r1, r2⟩ := r3_2 rs
    simp only [Rep] at r1 r2
    exact .inl ⟨_, _, r1.1, r2.1, z.imp small64_ok small64_ok, finI h⟩
  · split at e <;> cases e
    rename_i a n z
    simp only [Bool.and_eq_true, decide_eq_true_eq] at z
    obtain ⟨v, w, A, B, rfl, rfl, r1, r2⟩ := r3_2 rs
    simp only [Rep] at r1 r2
    refine .inr ⟨sV a, n, r1.1, r2.1, z.1.1, z.1.2, by rw [sV_len, ← line_eq]; exact z.2, ?_⟩
    have : (sV a).cps.toList = a := by simp [sV]
    rw [this]
    exact finS h (strOk_sub r1.2.2 fun c hc => by
      obtain ⟨l, hl, hcl⟩ := List.mem_flatten.mp hc
      rw [(List.mem_replicate.mp hl).2] at hcl; exact hcl)
  · cases e
def rNeg : V → Hp → VK → Prop := rU fun i => .int (-i)
theorem snd_neg : SndP K .neg (rr1 rNeg) := by
  intro ds d top e vs H As rs Q h
  change p_neg ds = _ at e
  unfold p_neg at e
  split at e <;> cases e
  obtain ⟨v, A, rfl, rfl, r⟩ := r3_1 rs
  simp only [Rep] at r
  exact ⟨_, r.1, finI h⟩

/-! ### len -/
def rLen (K : PySem.W.Frag) : RC := fun xs H Q => (∃ p ys, xs = [.ref p] ∧ (SqL K H p ys ∨ SqT K H p ys) ∧ Q (.int ys.length) H) ∨ (∃ z, xs = [.str z] ∧ z.length ≤ sizeLine ∧ Q (.int z.length) H) ∨
  (∃ a kvs, xs = [V.ref a] ∧ H a = some (.dK kvs) ∧ Q (.int kvs.length) H)
theorem call_lenD' : CallR X (.builtin "len") (fun xs H Q => ∃ a kvs, xs = [V.ref a] ∧ H a = some (.dK kvs) ∧ Q (.int kvs.length) H) := call_lenD
theorem call_lenA : CallR X (.builtin "len") (rLen X.K) := call_len_seq.or (call_len_str.or call_lenD')
theorem RepKs.length {H : Hp} : ∀ {kvs : List (D × D)} {ws : List (Key × V)} {B : List Addr}, RepKs K H kvs ws B → kvs.length = ws.length
  | [], _, _, h => by simp only [RepKs] at h; rw [h.1]; rfl
  | (a, b) :: r, _, _, h => by
    simp only [RepKs] at h
    obtain ⟨q, v, wr, B', C', rfl, e, h1, h2, rfl⟩ := h
    simp [RepKs.length h2]
theorem snd_len : SndP K .len (rLen K) := by
  intro ds d top e vs H As rs Q h
  change p_len ds = _ at e
  unfold p_len at e
  split at e
  · split at e <;> cases e
    rename_i s hz
    obtain ⟨v, A, rfl, rfl, r⟩ := r3_1 rs
    simp only [Rep] at r
    refine .inr (.inl ⟨sV s, by rw [r.1]; rfl, ?_, ?_⟩)
    · rw [sV_len, ← line_eq]; exact hz
    · rw [sV_len]; exact finI h
  · cases e
    obtain ⟨v, A, rfl, rfl, r⟩ := r3_1 rs
    simp only [Rep] at r
    obtain ⟨a, us, B, rfl, q, r, rfl⟩ := r
    exact .inl ⟨a, us, rfl, .inl (SqL.of q), by rw [← r.length]; exact finI h⟩
  · cases e
    obtain ⟨v, A, rfl, rfl, r⟩ := r3_1 rs
    simp only [Rep] at r
    obtain ⟨a, us, rfl, q, r⟩ := r
    exact .inl ⟨a, us, rfl, .inr q, by rw [← r.length]; exact finI h⟩
  · cases e
    obtain ⟨v, A, rfl, rfl, r⟩ := r3_1 rs
    simp only [Rep] at r
    obtain ⟨a, o, rfl, q, rfl⟩ := r
    refine .inl ⟨a, _, rfl, .inl q.sq, ?_⟩
    rw [List.length_map]; exact finI h
  · cases e
    obtain ⟨v, A, rfl, rfl, r⟩ := r3_1 rs
    simp only [Rep] at r
    obtain ⟨a, us, B, rfl, q, r, rfl⟩ := r
    exact .inr (.inr ⟨a, us, rfl, q, by rw [← r.length]; exact finI h⟩)
  · cases e

/-! ### min, max -/
theorem minI_spec : ∀ (r : List Int) (m : Int), minI m r ∈ m :: r ∧ ∀ y ∈ m :: r, minI m r ≤ y
  | [], m => ⟨by simp [minI], fun y hy => by simp at hy; rw [hy]; exact Int.le_refl _⟩
  | x :: r, m => by
    obtain ⟨h1, h2⟩ := minI_spec r (if x < m then x else m)
    show minI (if x < m then x else m) r ∈ _ ∧ ∀ y ∈ m :: x :: r, minI (if x < m then x else m) r ≤ y
    refine ⟨?_, fun y hy => ?_⟩
    · rcases List.mem_cons.mp h1 with q | q
      · rw [q]; split <;> simp
      · exact List.mem_cons_of_mem _ (List.mem_cons_of_mem _ q)
    · have h3 := h2 _ List.mem_cons_self
      rcases List.mem_cons.mp hy with rfl | hy
      · split at h3 <;> split <;> omega
      · rcases List.mem_cons.mp hy with rfl | hy
        · split at h3 <;> split <;> omega
        · exact h2 y (List.mem_cons_of_mem _ hy)
theorem maxI_spec : ∀ (r : List Int) (m : Int), maxI m r ∈ m :: r ∧ ∀ y ∈ m :: r, y ≤ maxI m r
  | [], m => ⟨by simp [maxI], fun y hy => by simp at hy; rw [hy]; exact Int.le_refl _⟩
  | x :: r, m => by
    obtain ⟨h1, h2⟩ := maxI_spec r (if m < x then x else m)
    show maxI (if m < x then x else m) r ∈ _ ∧ ∀ y ∈ m :: x :: r, y ≤ maxI (if m < x then x else m) r
    refine ⟨?_, fun y hy => ?_⟩
    · rcases List.mem_cons.mp h1 with q | q
      · rw [q]; split <;> simp
      · exact List.mem_cons_of_mem _ (List.mem_cons_of_mem _ q)
    · have h3 := h2 _ List.mem_cons_self
      rcases List.mem_cons.mp hy with rfl | hy
      · split at h3 <;> split <;> omega
      · rcases List.mem_cons.mp hy with rfl | hy
        · split at h3 <;> split <;> omega
        · exact h2 y (List.mem_cons_of_mem _ hy)
theorem minI_fold : ∀ (r : List Int) (m : Int), minI m r = r.foldl min m
  | [], m => rfl
  | x :: r, m => by
    show minI (if x < m then x else m) r = r.foldl min (min m x)
    rw [minI_fold r]
    congr 1
    split <;> omega
theorem maxI_fold : ∀ (r : List Int) (m : Int), maxI m r = r.foldl max m
  | [], m => rfl
  | x :: r, m => by
    show maxI (if m < x then x else m) r = r.foldl max (max m x)
    rw [maxI_fold r]
    congr 1
    split <;> omega
def rMinA (K : PySem.W.Frag) : RC := fun xs H Q => (∃ i j, xs = [.int i, .int j] ∧ Q (.int (if j < i then j else i)) H) ∨ rMin K xs H Q ∨ rMinT K xs H Q
def rMaxA (K : PySem.W.Frag) : RC := fun xs H Q => (∃ i j, xs = [.int i, .int j] ∧ Q (.int (if j > i then j else i)) H) ∨ rMax K xs H Q ∨ rMaxT K xs H Q
theorem call_minA (hc : X.calm = true) (hu : X.A.units + 65 < cLine) : CallR X (.builtin "min") (rMinA X.K) := (call_min2 hc).or ((cr_min hc).or (cr_minT hc hu))
theorem call_maxA (hc : X.calm = true) (hu : X.A.units + 65 < cLine) : CallR X (.builtin "max") (rMaxA X.K) := (call_max2 hc).or ((cr_max hc).or (cr_maxT hc hu))
theorem snd_min : SndP K .minB (rMinA K) := by
  intro ds d top e vs H As rs Q h
  change p_minB ds = _ at e
  unfold p_minB at e
  split at e
  · cases e
    obtain ⟨v, w, A, B, rfl, rfl, r1, r2⟩ := r3_2 rs
    simp only [Rep] at r1 r2
    exact .inl ⟨_, _, by rw [r1.1, r2.1], finI h⟩
  · split at e <;> cases e
    rename_i xs x r hx
    obtain ⟨v, A, rfl, rfl, r'⟩ := r3_1 rs
    simp only [Rep] at r'
    obtain ⟨a, us, B, rfl, q, r', rfl⟩ := r'
    obtain ⟨e1, _⟩ := r'.ints hx
    subst e1
    refine .inr (.inl ⟨a, x :: r, rfl, SqL.of q, by simp, fun m hm hl => ?_⟩)
    obtain ⟨h1, h2⟩ := minI_spec r x
    have : m = minI x r := Int.le_antisymm (hl _ h1) (h2 _ hm)
    rw [this]; exact finI h
  · split at e <;> cases e
    rename_i xs x r hx
    obtain ⟨v, A, rfl, rfl, r'⟩ := r3_1 rs
    simp only [Rep] at r'
    obtain ⟨a, us, rfl, q, r'⟩ := r'
    obtain ⟨e1, _⟩ := r'.ints hx
    subst e1
    refine .inr (.inr ⟨a, x, r, rfl, q, ?_⟩)
    rw [← minI_fold]; exact finI h
  · cases e
theorem snd_max : SndP K .maxB (rMaxA K) := by
  intro ds d top e vs H As rs Q h
  change p_maxB ds = _ at e
  unfold p_maxB at e
  split at e
  · cases e
    obtain ⟨v, w, A, B, rfl, rfl, r1, r2⟩ := r3_2 rs
    simp only [Rep] at r1 r2
    exact .inl ⟨_, _, by rw [r1.1, r2.1], finI h⟩
  · split at e <;> cases e
    rename_i xs x r hx
    obtain ⟨v, A, rfl, rfl, r'⟩ := r3_1 rs
    simp only [Rep] at r'
    obtain ⟨a, us, B, rfl, q, r', rfl⟩ := r'
    obtain ⟨e1, _⟩ := r'.ints hx
    subst e1
    refine .inr (.inl ⟨a, x :: r, rfl, SqL.of q, by simp, fun m hm hl => ?_⟩)
    obtain ⟨h1, h2⟩ := maxI_spec r x
    have : m = maxI x r := Int.le_antisymm (h2 _ hm) (hl _ h1)
    rw [this]; exact finI h
  · split at e <;> cases e
    rename_i xs x r hx
    obtain ⟨v, A, rfl, rfl, r'⟩ := r3_1 rs
    simp only [Rep] at r'
    obtain ⟨a, us, rfl, q, r'⟩ := r'
    obtain ⟨e1, _⟩ := r'.ints hx
    subst e1
    refine .inr (.inr ⟨a, x, r, rfl, q, ?_⟩)
    rw [← maxI_fold]; exact finI h
  · cases e

/-! ### abs, int, divmod -/
def rAbs : RC := fun xs H Q => ∃ i, xs = [.int i] ∧ Q (.int (if i < 0 then -i else i)) H
theorem snd_abs : SndP K .abs rAbs := by
  intro ds d top e vs H As rs Q h
  change p_abs ds = _ at e
  unfold p_abs at e
  split at e <;> cases e
  obtain ⟨v, A, rfl, rfl, r⟩ := r3_1 rs
  simp only [Rep] at r
  refine ⟨_, by rw [r.1], ?_⟩
  rename_i i
  have : (if i < 0 then -i else i) = ((i.natAbs : Nat) : Int) := by split <;> omega
  rw [this]; exact finI h
def rInt1 : RC := fun xs H Q => (∃ i, xs = [.int i] ∧ Q (.int i) H) ∨ ∃ k, xs = [.bl k] ∧ Q (.int (if k then 1 else 0)) H
theorem snd_int : SndP K .int rInt1 := by
  intro ds d top e vs H As rs Q h
  change p_int ds = _ at e
  unfold p_int at e
  split at e <;> cases e
  obtain ⟨v, A, rfl, rfl, r⟩ := r3_1 rs
  simp only [Rep] at r
  exact .inl ⟨_, by rw [r.1], finI h⟩
def rDivm : RC := fun xs H Q => ∃ i j, xs = [.int i, .int j] ∧ CDiv i j ∧ ∀ p, H p = none → Q (.ref p) (upd H p (.tup [.int (i / j), .int (i % j)]))
theorem snd_divm : SndP K .divm rDivm := by
  intro ds d top e vs H As rs Q h
  change p_divm ds = _ at e
  unfold p_divm at e
  split at e
  · split at e <;> cases e
    rename_i z
    simp only [Bool.and_eq_true, decide_eq_true_eq] at z
    obtain ⟨v, w, A, B, rfl, rfl, r1, r2⟩ := r3_2 rs
    simp only [Rep] at r1 r2
    rename_i i j
    refine ⟨i, j, by rw [r1.1, r2.1], z, fun p np => finT h (reps_ints H [i / j, i % j]) (fun _ z => (nomatch z)) np⟩
  · cases e

/-! ### list, tuple -/
def rListA (K : PySem.W.Frag) : RC := fun xs H Q => (∃ p ys, xs = [.ref p] ∧ (SqL K H p ys ∨ SqT K H p ys) ∧ ∀ l, H l = none → Q (.ref l) (upd H l (.lst ys))) ∨ rListD xs H Q ∨ rListStr xs H Q
theorem call_listA (hc : X.calm = true) : CallR X (.type "list") (rListA X.K) := call_list_of.or ((call_list_dK hc).or (call_listStr hc))
theorem key_rep {H : Hp} {x : D} {k : Key} (e : toKey x = some k) (o : keyOk x = true) : Rep K H x (kV k) [] := by
  cases x <;> simp only [toKey] at e <;> cases e
  · simp [Rep, kV]
  · simp only [keyOk] at o
    simp [Rep, kV, o]
theorem RepKs.keys {H : Hp} : ∀ {kvs : List (D × D)} {ws : List (Key × V)} {B : List Addr}, RepKs K H kvs ws B → Reps K H (kvs.map (·.1)) (ws.map fun kv => kV kv.1) []
  | [], _, _, h => by simp only [RepKs] at h; rw [h.1]; simp [Reps]
  | (a, b) :: r, _, _, h => by
    simp only [RepKs] at h
    obtain ⟨q, v, wr, B', C', rfl, ⟨e, o⟩, h1, h2, rfl⟩ := h
    show Reps K H (a :: r.map (·.1)) (kV q :: wr.map fun kv => kV kv.1) []
    simp only [Reps]
    exact ⟨_, _, [], [], rfl, key_rep e o, RepKs.keys h2, rfl⟩
theorem snd_list : SndP K .list (rListA K) := by
  intro ds d top e vs H As rs Q h
  change p_list ds = _ at e
  unfold p_list at e
  split at e
  · cases e
    obtain ⟨v, A, rfl, rfl, r⟩ := r3_1 rs
    simp only [Rep] at r
    obtain ⟨a, us, B, rfl, q, r, rfl⟩ := r
    exact .inl ⟨a, us, rfl, .inl (SqL.of q), fun p np => finL h r (fun c hc => by simpa using .inr hc) np⟩
  · cases e
    obtain ⟨v, A, rfl, rfl, r⟩ := r3_1 rs
    simp only [Rep] at r
    obtain ⟨a, us, rfl, q, r⟩ := r
    exact .inl ⟨a, us, rfl, .inr q, fun p np => finL h r (fun c hc => by simpa using hc) np⟩
  · cases e
    obtain ⟨v, A, rfl, rfl, r⟩ := r3_1 rs
    simp only [Rep] at r
    obtain ⟨a, us, B, rfl, q, r, rfl⟩ := r
    exact .inr (.inl ⟨a, us, rfl, q, fun p np => finL h r.keys (fun _ z => (nomatch z)) np⟩)
  · split at e <;> cases e
    rename_i s hz
    obtain ⟨v, A, rfl, rfl, r⟩ := r3_1 rs
    simp only [Rep] at r
    refine .inr (.inr ⟨sV s, by rw [r.1]; rfl, by rw [sV_len, ← line_eq]; exact hz, fun p np => ?_⟩)
    have e1 : ((sV s).cps.toList.map fun c => V.str ⟨#[c]⟩) = ((s.map fun c => [c]).map sV).map V.str := by simp [sV]
    have e2 : (s.map fun c => D.str [c]) = (s.map fun c => [c]).map D.str := by simp
    rw [e1]
    rw [e2] at h
    exact finL h (reps_strs H _ fun t ht => by
      obtain ⟨c, hc, rfl⟩ := List.mem_map.mp ht
      exact strOk_sub r.2.2 (by simpa using hc)) (fun _ z => (nomatch z)) np
  · cases e
def rTupA (K : PySem.W.Frag) : RC := fun xs H Q => ∃ p ys, xs = [.ref p] ∧ ((SqL K H p ys ∧ ∀ l, H l = none → Q (.ref l) (upd H l (.tup ys))) ∨ (SqT K H p ys ∧ Q (.ref p) H))
theorem snd_tuple : SndP K .tuple (rTupA K) := by
  intro ds d top e vs H As rs Q h
  change p_tuple ds = _ at e
  unfold p_tuple at e
  split at e
  · cases e
    obtain ⟨v, A, rfl, rfl, r⟩ := r3_1 rs
    simp only [Rep] at r
    obtain ⟨a, us, B, rfl, q, r, rfl⟩ := r
    exact ⟨a, us, rfl, .inl ⟨SqL.of q, fun p np => finT h r (fun c hc => by simpa using .inr hc) np⟩⟩
  · cases e
    obtain ⟨v, A, rfl, rfl, r⟩ := r3_1 rs
    simp only [Rep] at r
    obtain ⟨a, us, rfl, q, r⟩ := r
    exact ⟨a, us, rfl, .inr ⟨q, finTs h q r (fun c hc => by simpa using hc)⟩⟩
  · cases e

/-! ### sorted -/
theorem leS_total (a b : List Nat) : (leS a b || leS b a) = true := by
  unfold leS
  rcases Classical.em (b < a) with q | q
  · have : ¬ a < b := List.lt_asymm q
    simp [q, this]
  · simp [q]
theorem leS_trans (a b c : List Nat) (h : leS a b = true) (h' : leS b c = true) : leS a c = true := by
  unfold leS at *
  simp only [Bool.not_eq_true', decide_eq_false_iff_not, List.not_lt] at *
  exact List.le_trans h h'
theorem leS_anti {a b : List Nat} (h : leS a b = true) (h' : leS b a = true) : a = b := by
  unfold leS at *
  simp only [Bool.not_eq_true', decide_eq_false_iff_not, List.not_lt] at *
  exact List.le_antisymm h h'
theorem pw_unique {α : Type} {r : α → α → Prop} (anti : ∀ a b, r a b → r b a → a = b) : ∀ {xs ys : List α}, xs.Perm ys → xs.Pairwise r → ys.Pairwise r → xs = ys
  | [], ys, p, _, _ => by simpa using p.length_eq.symm
  | x :: xs, [], p, _, _ => by simpa using p.length_eq
  | x :: xs, y :: ys, p, h, h' => by
    have hx : x = y := by
      have h1 := p.subset (List.mem_cons_self : x ∈ x :: xs)
      have h2 := p.symm.subset (List.mem_cons_self : y ∈ y :: ys)
      rcases List.mem_cons.mp h1 with q | q
      · exact q
      · rcases List.mem_cons.mp h2 with q2 | q2
        · exact q2.symm
        · exact anti _ _ ((List.pairwise_cons.mp h).1 _ q2) ((List.pairwise_cons.mp h').1 _ q)
    subst hx
    rw [pw_unique anti (List.Perm.cons_inv p) (List.pairwise_cons.mp h).2 (List.pairwise_cons.mp h').2]
theorem rising_pw : ∀ (ss : List Str) (x : Str), PyProof.Rows.risingS x ss = true → (x :: ss).Pairwise fun a b => leS a.cps.toList b.cps.toList = true
  | [], x, _ => List.pairwise_singleton _ _
  | y :: ss, x, h => by
    simp only [PyProof.Rows.risingS] at h
    rw [Bool.and_eq_true, PyProof.Rows.ltCps_eq] at h
    have ih := rising_pw ss y h.2
    refine List.pairwise_cons.mpr ⟨fun z hz => ?_, ih⟩
    rcases List.mem_cons.mp hz with rfl | hz
    · exact h.1
    · exact leS_trans _ _ _ (by exact h.1) ((List.pairwise_cons.mp ih).1 z hz)
theorem sorted_pw {ss : List Str} (h : PyProof.Rows.sortedS ss = true) : ss.Pairwise fun a b => leS a.cps.toList b.cps.toList = true := by
  cases ss with
  | nil => exact List.Pairwise.nil
  | cons x r => exact rising_pw r x h
theorem sV_inj {a b : List Nat} (h : sV a = sV b) : a = b := by simpa [sV] using congrArg (fun s : Str => s.cps.toList) h
theorem sV_ex (x : Str) : sV x.cps.toList = x := by simp [sV]
def rSortDk : RC := fun xs H Q => ∃ (a : Addr) (kvs : List (Key × V)) (ks : List Str), xs = [.ref a] ∧ Rd H a (.dK kvs) ∧ kvs.map (·.1) = ks.map Sum.inr ∧ ks.length < 64 ∧
    ∀ ys p, ys.Perm ks → PyProof.Rows.sortedS ys = true → H p = none → Q (.ref p) (upd H p (.lst (ys.map V.str)))
def rSortA (K : PySem.W.Frag) : RC := fun xs H Q => rSorted K xs H Q ∨ rSortedS K xs H Q ∨ rSortedB K xs H Q ∨ rSortedTup K xs H Q ∨ rSortedStr xs H Q ∨ rSortDk xs H Q
theorem call_sortDk (hc : X.calm = true) : CallR X (.builtin "sorted") rSortDk := call_sortedD hc
theorem call_sortA (hc : X.calm = true) (hu : X.A.units + 65 < cLine) : CallR X (.builtin "sorted") (rSortA X.K) := cr_sorted.or (cr_sortedS.or ((cr_sortedB hu).or ((cr_sortedTup hc).or ((cr_sortedStr hc).or (call_sortDk hc)))))
theorem Reps.blsD : ∀ {ds : List D} {bs : List Bool}, asBls ds = some bs → ds = bs.map D.bl
  | [], _, e => by cases e; rfl
  | d :: ds, bs, e => by
    cases d <;> simp only [asBls] at e <;> first | cases e | skip
    simp only [Option.map_eq_some_iff] at e
    obtain ⟨cs, e1, rfl⟩ := e
    rw [Reps.blsD e1]; rfl
theorem reps_bls (H : Hp) : ∀ ns : List Bool, Reps K H (ns.map D.bl) (ns.map V.bl) []
  | [] => by simp [Reps]
  | b :: r => by
    simp only [List.map_cons, Reps]
    exact ⟨_, _, [], [], rfl, by simp [Rep], reps_bls H r, rfl⟩
theorem sort_fin {H : Hp} {Q : VK} {F : List Addr} {ss : List (List Nat)} {ys : List Str} {p : Addr} (h : Fin K H (.lst ((ss.mergeSort leS).map .str)) true F Q) (ok : ∀ s ∈ ss, strOkL s = true) (hp : ys.Perm (ss.map sV)) (hw : PyProof.Rows.sortedS ys = true) (np : H p = none) :
    Q (.ref p) (upd H p (.lst (ys.map V.str))) := by
  have es : ys = (ss.mergeSort leS).map sV := by
    refine pw_unique (r := fun a b : Str => leS a.cps.toList b.cps.toList = true) (fun a b h h' => ?_) (hp.trans ((List.mergeSort_perm ss leS).map sV).symm) (sorted_pw hw) ?_
    · have := leS_anti h h'
      rw [← sV_ex a, ← sV_ex b, this]
    · have := List.pairwise_mergeSort (le := leS) (fun a b c h h' => leS_trans a b c h h') leS_total ss
      rw [List.pairwise_map]
      exact this.imp fun h => by simpa [sV] using h
  rw [es]
  exact finL h (reps_strs H _ fun s hs => ok s ((List.mergeSort_perm ss leS).subset hs)) (fun _ z => (nomatch z)) np
theorem key_strs : ∀ {kvs : List (D × D)} {ws : List (Key × V)} {B : List Addr} {H : Hp} {ss : List (List Nat)}, RepKs K H kvs ws B → asStrs (kvs.map (·.1)) = some ss → ws.map (·.1) = (ss.map sV).map Sum.inr ∧ (∀ s ∈ ss, strOkL s = true) ∧ kvs.length = ss.length
  | [], _, _, _, ss, h, e => by simp only [RepKs] at h; cases e; rw [h.1]; exact ⟨rfl, fun _ z => (nomatch z), rfl⟩
  | (a, b) :: r, _, _, _, ss, h, e => by
    simp only [RepKs] at h
    obtain ⟨q, v, wr, B', C', rfl, ⟨e1, o⟩, h1, h2, rfl⟩ := h
    cases a <;> simp only [List.map_cons, asStrs] at e <;> first | cases e | skip
    simp only [Option.map_eq_some_iff] at e
    obtain ⟨tt, e2, rfl⟩ := e
    obtain ⟨g1, g2, g3⟩ := key_strs h2 e2
    simp only [toKey, Option.some.injEq] at e1
    simp only [keyOk] at o
    subst e1
    refine ⟨by simp only [List.map_cons, g1]; rfl, fun s hs => ?_, by simp [g3]⟩
    rcases List.mem_cons.mp hs with rfl | hs
    · exact o
    · exact g2 s hs
theorem snd_sorted : SndP K .sorted (rSortA K) := by
  intro ds d top e vs H As rs Q h
  change p_sorted ds = _ at e
  unfold p_sorted at e
  split at e
  · split at e
    · rename_i xs h64
      split at e
      · cases e
        rename_i ns hns
        obtain ⟨v, A, rfl, rfl, r⟩ := r3_1 rs
        simp only [Rep] at r
        obtain ⟨a, us, B, rfl, q, r, rfl⟩ := r
        obtain ⟨e1, e2⟩ := r.ints hns
        subst e1
        refine .inl ⟨a, ns, rfl, SqL.of q, by rw [e2] at h64; simpa using h64, fun ns' p hp hw np => ?_⟩
        have es : ns' = ns.mergeSort fun a b => decide (a ≤ b) := by
          refine pw_unique (r := fun a b : Int => a ≤ b) (fun a b h h' => Int.le_antisymm h h') (hp.trans (List.mergeSort_perm ns _).symm) hw ?_
          have := List.pairwise_mergeSort (le := fun a b : Int => decide (a ≤ b)) (fun a b c h h' => by simp at *; omega) (fun a b => by simp; omega) ns
          exact this.imp fun h => by simpa using h
        rw [← es] at h
        exact finL h (reps_ints H ns') (fun _ z => (nomatch z)) np
      · split at e
        · rename_i ss hss
          cases e
          obtain ⟨v, A, rfl, rfl, r⟩ := r3_1 rs
          simp only [Rep] at r
          obtain ⟨a, us, B, rfl, q, r, rfl⟩ := r
          obtain ⟨e1, ok, e2⟩ := r.strs hss
          subst e1
          exact .inr (.inl ⟨a, ss.map sV, rfl, SqL.of q, by rw [e2] at h64; simpa using h64, fun ys p hp hw np => sort_fin h ok hp hw np⟩)
        · simp only [Option.map_eq_some_iff] at e
          obtain ⟨bs, hbs, e⟩ := e
          cases e
          obtain ⟨v, A, rfl, rfl, r⟩ := r3_1 rs
          simp only [Rep] at r
          obtain ⟨a, us, B, rfl, q, r, rfl⟩ := r
          have e1 := r.bls hbs
          subst e1
          have hl : bs.length < 64 := by rw [Reps.blsD hbs] at h64; simpa using h64
          exact .inr (.inr (.inl ⟨a, bs, rfl, SqL.of q, hl, fun p np => finL h (reps_bls H _) (fun _ z => (nomatch z)) np⟩))
    · cases e
  · split at e
    · rename_i xs h64
      simp only [Option.map_eq_some_iff] at e
      obtain ⟨ss, hss, e⟩ := e
      cases e
      obtain ⟨v, A, rfl, rfl, r⟩ := r3_1 rs
      simp only [Rep] at r
      obtain ⟨a, us, rfl, q, r⟩ := r
      obtain ⟨e1, ok, e2⟩ := r.strs hss
      subst e1
      exact .inr (.inr (.inr (.inl ⟨a, ss.map sV, rfl, q, by rw [e2] at h64; simpa using h64, fun ys p hp hw np => sort_fin h ok hp hw np⟩)))
    · cases e
  · split at e <;> cases e
    rename_i s h64
    obtain ⟨v, A, rfl, rfl, r⟩ := r3_1 rs
    simp only [Rep] at r
    refine .inr (.inr (.inr (.inr (.inl ⟨sV s, by rw [r.1]; rfl, by rw [sV_len]; exact h64, fun ys p hp hw np => sort_fin h (fun t ht => ?_) ?_ hw np⟩))))
    · obtain ⟨c, hc, rfl⟩ := List.mem_map.mp ht
      exact strOk_sub r.2.2 (by simpa using hc)
    · have : ((s.map fun c => [c]).map sV) = (sV s).cps.toList.map fun c => (⟨#[c]⟩ : Str) := by simp [sV]
      rw [this]; exact hp
  · split at e
    · rename_i kvs h64
      simp only [Option.map_eq_some_iff] at e
      obtain ⟨ss, hss, e⟩ := e
      cases e
      obtain ⟨v, A, rfl, rfl, r⟩ := r3_1 rs
      simp only [Rep] at r
      obtain ⟨a, us, B, rfl, q, r, rfl⟩ := r
      obtain ⟨g1, ok, g3⟩ := key_strs r hss
      exact .inr (.inr (.inr (.inr (.inr ⟨a, us, ss.map sV, rfl, .inl q, g1, by rw [List.length_map, ← g3]; exact h64, fun ys p hp hw np => sort_fin h ok hp hw np⟩))))
    · cases e
  · cases e

/-! ### sum, any, all -/
theorem snd_sum : SndP K .sum (rSum K) := by
  intro ds d top e vs H As rs Q h
  change p_sum ds = _ at e
  unfold p_sum at e
  split at e
  · simp only [Option.map_eq_some_iff] at e
    obtain ⟨ns, hns, e⟩ := e
    cases e
    obtain ⟨v, A, rfl, rfl, r⟩ := r3_1 rs
    simp only [Rep] at r
    obtain ⟨a, us, B, rfl, q, r, rfl⟩ := r
    obtain ⟨e1, e2⟩ := r.ints hns
    subst e1
    exact ⟨a, ns, rfl, SqL.of q, finI h⟩
  · cases e
theorem snd_any : SndP K .any (rAny K) := by
  intro ds d top e vs H As rs Q h
  change p_any ds = _ at e
  unfold p_any at e
  split at e
  · simp only [Option.map_eq_some_iff] at e
    obtain ⟨ns, hns, e⟩ := e
    cases e
    obtain ⟨v, A, rfl, rfl, r⟩ := r3_1 rs
    simp only [Rep] at r
    obtain ⟨a, us, B, rfl, q, r, rfl⟩ := r
    have e1 := r.bls hns
    subst e1
    exact ⟨a, ns, rfl, SqL.of q, finB h⟩
  · cases e
theorem snd_all : SndP K .all (rAll K) := by
  intro ds d top e vs H As rs Q h
  change p_all ds = _ at e
  unfold p_all at e
  split at e
  · simp only [Option.map_eq_some_iff] at e
    obtain ⟨ns, hns, e⟩ := e
    cases e
    obtain ⟨v, A, rfl, rfl, r⟩ := r3_1 rs
    simp only [Rep] at r
    obtain ⟨a, us, B, rfl, q, r, rfl⟩ := r
    have e1 := r.bls hns
    subst e1
    exact ⟨a, ns, rfl, SqL.of q, finB h⟩
  · cases e

/-! ### list(range(a, b)) -/
theorem range_rangeL : ∀ (n : Nat) (lo : Int), (List.range n).map (fun i : Nat => lo + (i : Int)) = rangeL lo n
  | 0, lo => rfl
  | n + 1, lo => by
    rw [List.range_succ_eq_map, List.map_cons, List.map_map]
    show (lo + (0 : Int)) :: _ = lo :: rangeL (lo + 1) n
    rw [← range_rangeL n (lo + 1), Int.add_zero]
    congr 1
    apply List.map_congr_left
    intro i _
    show lo + ((i + 1 : Nat) : Int) = lo + 1 + (i : Int)
    omega
theorem rgV_eq (a b : Int) : rgV a b = (rangeL a (b - a).toNat).map V.int := by
  unfold rgV
  rw [← range_rangeL, List.map_map]; rfl
def rLrange : RC
  | [x, y], H, Q => ∃ i j, x = .int i ∧ y = .int j ∧ (RgOk i j ∧ ∀ q, H q = none → Q (.ref q) (upd H q (.lst (rgV i j))))
  | _, _, _ => False
theorem snd_lrange : SndP K .lrange rLrange := by
  intro ds d top e vs H As rs Q h
  change p_lrange ds = _ at e
  unfold p_lrange at e
  split at e
  · split at e <;> cases e
    rename_i i j z
    simp only [Bool.and_eq_true, decide_eq_true_eq] at z
    obtain ⟨v, w, A, B, rfl, rfl, r1, r2⟩ := r3_2 rs
    simp only [Rep] at r1 r2
    refine ⟨i, j, r1.1, r2.1, ⟨by omega, by omega, by omega, by omega, by have := line_eq; rw [sizeLine_eq] at this; omega⟩, fun p np => ?_⟩
    rw [rgV_eq]
    exact finL h (reps_ints H _) (fun _ z => (nomatch z)) np
  · cases e

/-! ### isinstance -/
def tyN : Ty → String
  | .int => "int" | .str => "str" | .bool => "bool" | .tuple => "tuple" | .list => "list" | .dict => "dict"
def rIsiA (K : PySem.W.Frag) (t : Ty) : RC
  | [x], H, Q => rIsi K [x, .ty (tyN t)] H Q
  | _, _, _ => False
theorem sqt_tyx {H : Hp} {a : Addr} {vs : List V} (h : SqT K H a vs) : TyX K H (.ref a) (.type "tuple") := by
  rcases h with (h | ⟨o, h⟩) | ⟨o, its, n, h1, h2, _⟩
  · exact .base (.tup h)
  · exact .fTuple h
  · exact .kTuple h1 h2
theorem snd_isi (t : Ty) : SndP K (.isi t) (rIsiA K t) := by
  intro ds d top e vs H As rs Q h
  change p_isi t ds = _ at e
  unfold p_isi at e
  split at e
  · simp only [Option.map_eq_some_iff] at e
    obtain ⟨b, hb, e⟩ := e
    cases e
    rename_i x
    obtain ⟨v, A, rfl, rfl, r⟩ := r3_1 rs
    have key : ∀ {T : String}, TyX K H v (.type T) → kitB T (tyN t) = some b → rIsiA K t [v] H Q := fun {T} ty hk =>
      ⟨v, .ty (tyN t), .type T, .type (tyN t), b, rfl, .ty _, ty, kit_ty hk, finB h⟩
    cases x <;> simp only [Rep] at r
    · rw [r.1] at key ⊢
      refine key (.base .non) ?_
      cases t <;> simp only [isT] at hb <;> cases hb <;> decide +kernel
    · rw [r.1] at key ⊢
      refine key (.base (.bl _)) ?_
      cases t <;> simp only [isT] at hb <;> cases hb <;> decide +kernel
    · rw [r.1] at key ⊢
      refine key (.base (.int _)) ?_
      cases t <;> simp only [isT] at hb <;> cases hb <;> decide +kernel
    · rw [r.1] at key ⊢
      refine key (.base (.str _)) ?_
      cases t <;> simp only [isT] at hb <;> cases hb <;> decide +kernel
    · obtain ⟨a, us, rfl, q, r⟩ := r
      refine key (sqt_tyx q) ?_
      cases t <;> simp only [isT] at hb <;> cases hb <;> decide +kernel
    · obtain ⟨a, us, B, rfl, q, r, rfl⟩ := r
      refine key (.base (.lst q)) ?_
      cases t <;> simp only [isT] at hb <;> cases hb <;> decide +kernel
    · obtain ⟨a, us, B, rfl, q, r, rfl⟩ := r
      refine key (.base (.dK q)) ?_
      cases t <;> simp only [isT] at hb <;> cases hb <;> decide +kernel
    · obtain ⟨a, o, rfl, q, _⟩ := r
      cases t <;> simp [isT] at hb
  · cases e
end
end WT

/-! WT: shapes of the text's expressions. -/
namespace WT
open PySem L2

structure FnI where
  name : Str
  ps : List Str
  io : Option Nat
  cb : List (List Str × Nat × List Nat)
structure Ctx where
  N : List Str
  sc : Scope
  own : Option Scope
  bl : List Str
  gv : List (Str × D)
  fns : List FnI
def Ctx.fnF (cx : Ctx) : Str → Bool := match cx.own with
  | none => fun _ => true
  | some s => fun x => s.names.lookup x == some .cell
structure XOk (X : Cx) (cx : Ctx) (k : Nat) : Prop where
  calm : X.calm = true
  hN : X.N = cx.N
  nd : X.N.Nodup
  hsc : X.env.scope = cx.sc
  hfn : X.fn = cx.fnF
  room : Room k X.A
  blt : ∀ x, cx.bl.contains x = true → X.mg x = none
  gvs : ∀ p ∈ cx.gv, ∃ v u, X.mg p.1 = some u ∧ RelV v u ∧ ∀ H, Rep X.K H p.2 v []
def visB (sc : Scope) (x : Str) : Bool := match sc.names.lookup x with
  | some .local => true | some .cell => true | some .free => true | _ => false
def glB (sc : Scope) (x : Str) : Bool := match sc.names.lookup x with
  | some .globalImplicit => true | _ => false
def bltB (cx : Ctx) (x : Str) : Bool := glB cx.sc x && cx.bl.contains x
section
variable {X : Cx} {cx : Ctx} {k : Nat}
theorem vis_of (ok : XOk X cx k) {x : Str} (h : visB cx.sc x = true) : Vis X.env.scope x := by
  rw [ok.hsc]
  unfold visB at h
  unfold Vis
  split at h <;> rename_i q <;> first | exact .inl q | exact .inr (.inl q) | exact .inr (.inr q) | cases h
theorem gl_of (ok : XOk X cx k) {x : Str} (h : glB cx.sc x = true) : Gl X x := by
  show X.env.scope.names.lookup x = _
  rw [ok.hsc]
  unfold glB at h
  split at h <;> first | assumption | cases h
theorem blt_of (ok : XOk X cx k) {x : Str} (h : bltB cx x = true) : Gl X x ∧ X.mg x = none := by
  unfold bltB at h
  rw [Bool.and_eq_true] at h
  exact ⟨gl_of ok h.1, ok.blt x h.2⟩
theorem star_of {e : Expr} (h : plainE e = true) (es : List Expr) (env : PySem.Env) : starEach (e :: es) env = (false, eval e env) :: starEach es env := by
  cases e <;> first | rfl | (simp [plainE] at h)
theorem mark_of {e : Expr} (h : plainE e = true) (op : CmpOp) : behindInMarks op e = false := by
  cases e <;> first | rfl | (simp [plainE] at h)
theorem ix_of {e : Expr} (h : plainE e = true) : PlainIx e := by
  intro o i
  cases e <;> first | rfl | (simp [plainE] at h)
theorem fold_of {e : Expr} (h : plainE e = true) (env : PySem.Env) (x : Value) : foldedSetIterable e env x = pure x := by
  cases e <;> first | rfl | (simp [plainE] at h)
def isLC : Expr → Bool
  | .ListComp .. => true
  | _ => false
theorem swap_of {e : Expr} (h : plainE e = true) (h2 : isLC e = false) (tg : Option Expr) (l : Nat) (env : PySem.Env) : swapsWith e tg l env = pure false := by
  cases e <;> first | rfl | (simp [plainE] at h; done) | (simp [isLC] at h2)
theorem base_of {e : Expr} (h : plainE e = true) (m : Str) (env : PySem.Env) (w : Sem Value) : attributeBase e m env w = w := by
  cases e with
  | Call f as ks p =>
    cases f <;> first | rfl | skip
    cases as with
    | cons _ _ => rfl
    | nil =>
      cases ks with
      | cons _ _ => rfl
      | nil =>
        simp only [plainE] at h
        unfold attributeBase
        simp only [h, Bool.true_or, if_true]
        first | rfl | skip
  | _ => rfl
def truthB : Expr → Bool
  | .UnaryOp .Not _ _ => false | .BoolOp .. => false | .IfExp .. => false | .Compare .. => false | _ => true
theorem truth_of {e : Expr} (h : truthB e = true) (env : PySem.Env) (whole : Sem Value) :
    isTrue e env whole = (do let v ← whole; standAt e.pos; holding [v] (truthy v)) := by
  cases e <;> first | rfl | skip
  all_goals first | (simp [truthB] at h; done) | (rename_i op _ _; cases op <;> first | rfl | (simp [truthB] at h))

/-- expressions in a row and their readings -/
inductive PEs (X : Cx) : List Expr → List TE → List Dn → Prop
  | nil : PEs X [] [] []
  | cons {e es t ts x xs} : PE X e t → SndD X.K t x → plainE e = true → PEs X es ts xs → PEs X (e :: es) (t :: ts) (x :: xs)
theorem PEs.snd : ∀ {es : List Expr} {ts : List TE} {xs : List Dn}, PEs X es ts xs → SndDs X.K ts xs
  | _, _, _, .nil => .nil
  | _, _, _, .cons _ s _ r => .cons s r.snd
theorem PEs.pa : ∀ {es : List Expr} {ts : List TE} {xs : List Dn}, PEs X es ts xs → PA X es (tAs ts)
  | _, _, _, .nil => pa_nil
  | _, _, _, .cons h _ p r => pa_cons h r.pa (star_of p _ _)
theorem PEs.any {pos : Pos} : ∀ {es : List Expr} {ts : List TE} {xs : List Dn}, PEs X es ts xs → (backTo pos (starEach es X.env)).any (·.1) = false
  | _, _, _, .nil => rfl
  | _, _, _, .cons (e := e) (es := es) h _ p r => by
    rw [star_of p]
    have := r.any (pos := pos)
    simp only [backTo, List.map_cons, List.any_cons, Bool.false_or] at this ⊢
    exact this
end
end WT

/-! WT: operations in the text. -/
namespace WT
open PySem L2
/-- which operation an expression is, and its operands -/
def opShape (cx : Ctx) (o : Op) (e : Expr) : Option (List Expr) := match o, e with
  | .add, .BinOp a .Add b _ => some [a, b]
  | .sub, .BinOp a .Sub b _ => some [a, b]
  | .mul, .BinOp a .Mult b _ => some [a, b]
  | .fdiv, .BinOp a .FloorDiv b _ => some [a, b]
  | .mod, .BinOp a .Mod b _ => some [a, b]
  | .pow, .BinOp a .Pow b _ => some [a, b]
  | .neg, .UnaryOp .USub a _ => some [a]
  | .eq, .Compare a [.Eq] [b] _ => some [a, b]
  | .ne, .Compare a [.NotEq] [b] _ => some [a, b]
  | .lt, .Compare a [.Lt] [b] _ => some [a, b]
  | .le, .Compare a [.LtE] [b] _ => some [a, b]
  | .gt, .Compare a [.Gt] [b] _ => some [a, b]
  | .ge, .Compare a [.GtE] [b] _ => some [a, b]
  | .isin, .Compare a [.In] [b] _ => some [a, b]
  | .notin, .Compare a [.NotIn] [b] _ => some [a, b]
  | .isN, .Compare a [.Is] [.Constant .none _ _] _ => some [a]
  | .notN, .Compare a [.IsNot] [.Constant .none _ _] _ => some [a]
  | .isTr, .Compare a [.Is] [.Constant (.bool true) _ _] _ => some [a]
  | .ix, .Subscript a b _ => some [a, b]
  | .rev, .Subscript a (.Slice none none (some (.UnaryOp .USub (.Constant (.int 1) _ _) _)) _) _ => some [a]
  | .len, .Call (.Name f _) [a] [] _ => if f = "len" ∧ bltB cx "len" = true then some [a] else none
  | .minB, .Call (.Name f _) (a :: as) [] _ => if f = "min" ∧ bltB cx "min" = true then some (a :: as) else none
  | .maxB, .Call (.Name f _) (a :: as) [] _ => if f = "max" ∧ bltB cx "max" = true then some (a :: as) else none
  | .abs, .Call (.Name f _) [a] [] _ => if f = "abs" ∧ bltB cx "abs" = true then some [a] else none
  | .int, .Call (.Name f _) [a] [] _ => if f = "int" ∧ bltB cx "int" = true then some [a] else none
  | .divm, .Call (.Name f _) [a, b] [] _ => if f = "divmod" ∧ bltB cx "divmod" = true then some [a, b] else none
  | .list, .Call (.Name f _) [a] [] _ => if f = "list" ∧ bltB cx "list" = true then some [a] else none
  | .tuple, .Call (.Name f _) [a] [] _ => if f = "tuple" ∧ bltB cx "tuple" = true then some [a] else none
  | .sorted, .Call (.Name f _) [a] [] _ => if f = "sorted" ∧ bltB cx "sorted" = true then some [a] else none
  | .sum, .Call (.Name f _) [a] [] _ => if f = "sum" ∧ bltB cx "sum" = true then some [a] else none
  | .any, .Call (.Name f _) [a] [] _ => if f = "any" ∧ bltB cx "any" = true then some [a] else none
  | .all, .Call (.Name f _) [a] [] _ => if f = "all" ∧ bltB cx "all" = true then some [a] else none
  | .lrange, .Call (.Name f _) [.Call (.Name g _) [a, b] [] _] [] _ => if (f = "list" ∧ bltB cx "list" = true) ∧ (g = "range" ∧ bltB cx "range" = true) then some [a, b] else none
  | .isi t, .Call (.Name f _) [a, .Name g _] [] _ => if (f = "isinstance" ∧ bltB cx "isinstance" = true) ∧ (g = (Str.ofString (tyN t)) ∧ bltB cx (Str.ofString (tyN t)) = true) then some [a] else none
  | _, _ => none

section
variable {X : Cx} {cx : Ctx} {k : Nat} {ts : List TE} {xs : List Dn}
theorem ge_mk {e : Expr} {t : TE} {f : Env → Option (D × Bool × Env)} (p : PE X e t) (s : SndE X.K t f) (hp : plainE e = true) (hb : truthB e = true) : GE X e (mkDn f) :=
  ⟨⟨t, p, snd_mk s⟩, fun _ => ⟨tB t, pt_val p (truth_of hb _), sndT_mk s⟩, hp⟩
theorem ge_call {e : Expr} {o : Op} {r : RC} {t : TE} (hs : SndDs X.K ts xs) (hp : SndP X.K o r) (p : PE X e t) (ht : ∀ σ H Q, tAs ts σ H (fun vs H1 => r vs H1 Q) → t σ H Q) (h1 : plainE e = true) (h2 : truthB e = true) : GE X e (dOp o xs) :=
  ge_mk p (snd_op hs hp ht) h1 h2
/-- a comparison -/
theorem ge_cmp {a b : Expr} {pos : Pos} {c : CmpOp} {o : Op} {r : R2} {rs : RC} {ta tb : TE} (hs : SndDs X.K ts xs) (hp : SndP X.K o rs) (ho : OpR X (compareOp c) r) (pa : PE X a ta) (pb : PE X b tb) (hm : behindInMarks c b = false)
    (ht : ∀ σ H Q, tAs ts σ H (fun vs H1 => rs vs H1 Q) → tOp r ta tb σ H Q) : GE X (.Compare a [c] [b] pos) (dOp o xs) :=
  ⟨⟨_, pe_cmpR ho pa pb hm, snd_mk (snd_op hs hp ht)⟩, fun _ => ⟨_, pt_cmpR ho pa pb hm, by
    have := sndT_mk (snd_op hs hp ht)
    exact this⟩, rfl⟩
theorem units_of (ok : XOk X cx k) : X.A.units + 65 < cLine := by
  have := ok.room.un
  omega
theorem PEs.one {a : Expr} (h : PEs X [a] ts xs) : ∃ t x, ts = [t] ∧ xs = [x] ∧ PE X a t ∧ plainE a = true := by
  cases h with
  | cons p _ q r =>
    cases r
    exact ⟨_, _, rfl, rfl, p, q⟩
theorem PEs.two {a b : Expr} (h : PEs X [a, b] ts xs) : ∃ t u x y, ts = [t, u] ∧ xs = [x, y] ∧ PE X a t ∧ plainE a = true ∧ PE X b u ∧ plainE b = true := by
  cases h with
  | cons p _ q r =>
    obtain ⟨u, y, rfl, rfl, p2, q2⟩ := r.one
    exact ⟨_, _, _, _, rfl, rfl, p, q, p2, q2⟩
def rIsN2 (neg : Bool) : R2 := fun x y H Q => match y with
  | .non => rIsN1 neg x H Q
  | _ => False
theorem op_isN2 : OpR X (compareOp .Is) (rIsN2 false) := by
  intro pins s σ H x y v u Q I rx ry h
  cases y <;> first | exact h.elim | skip
  exact op_isN pins s σ H x .non v u Q I rx ry ⟨rfl, by have h : Q (.bl (false ^^ decide (x = .non))) H := h; simpa using h⟩
theorem op_notN2 : OpR X (compareOp .IsNot) (rIsN2 true) := by
  intro pins s σ H x y v u Q I rx ry h
  cases y <;> first | exact h.elim | skip
  exact op_notN pins s σ H x .non v u Q I rx ry ⟨rfl, by have h : Q (.bl (true ^^ decide (x = .non))) H := h; simpa using h⟩
def rIsTr2 : R2 := fun x y H Q => match y with
  | .bl true => rIsTr1 x H Q
  | _ => False
theorem op_isTr2 : OpR X (compareOp .Is) rIsTr2 := by
  intro pins s σ H x y v u Q I rx ry h
  unfold rIsTr2 at h
  split at h
  · obtain ⟨b, rfl, q⟩ := h
    refine op_isBl pins s σ H _ _ v u Q I rx ry ⟨b, true, rfl, rfl, ?_⟩
    cases b <;> exact q
  · exact h.elim
theorem pa_star1 {e : Expr} {es : List Expr} (hes : PEs X (e :: es) ts xs) {pos : Pos} : starEach (e :: es) X.env = (false, eval e X.env) :: starEach es X.env ∧ (backTo pos (starEach es X.env)).any (·.1) = false := by
  cases hes with
  | cons p _ q r => exact ⟨star_of q _ _, r.any⟩
theorem ge_blt {e : Expr} {es : List Expr} {o : Op} {r : RC} {x : Str} {id : String} {p pos : Pos} (ok : XOk X cx k) (hes : PEs X (e :: es) ts xs) (hp : SndP X.K o r) (hc : CallR X (.builtin id) r) (hb : bltB cx x = true) (hv : bootBuiltins x = some (.builtin id)) (hn : x ≠ "__name__" := by decide) (hdb : (x == ("__debug__" : Str)) = false := by decide) :
    GE X (.Call (.Name x p) (e :: es) [] pos) (dOp o xs) :=
  ge_call hes.snd hp (pe_callB hc (blt_of ok hb).1 (blt_of ok hb).2 hv hes.pa hn hdb (pa_star1 (pos := pos) hes).1 (pa_star1 hes).2) (fun _ _ _ h => h) rfl rfl
theorem ge_bty {e : Expr} {es : List Expr} {o : Op} {r : RC} {x : Str} {T : String} {p pos : Pos} (ok : XOk X cx k) (hes : PEs X (e :: es) ts xs) (hp : SndP X.K o r) (hc : CallR X (.type T) r) (hb : bltB cx x = true) (hv : bootBuiltins x = some (.type T)) (hn : x ≠ "__name__" := by decide) (hdb : (x == ("__debug__" : Str)) = false := by decide) :
    GE X (.Call (.Name x p) (e :: es) [] pos) (dOp o xs) :=
  ge_call hes.snd hp (pe_callTy hc (blt_of ok hb).1 (blt_of ok hb).2 hv hes.pa hn hdb (pa_star1 (pos := pos) hes).1 (pa_star1 hes).2) (fun _ _ _ h => h) rfl rfl
theorem pe_ty (ok : XOk X cx k) {t : Ty} (hb : bltB cx (Str.ofString (tyN t)) = true) (p : Pos) : PE X (.Name (Str.ofString (tyN t)) p) (tC (.ty (tyN t))) := by
  refine pe_bltn (blt_of ok hb).1 (blt_of ok hb).2 (u := .type (tyN t)) ?_ rfl ?_ ?_
  · cases t <;> decide +kernel
  · cases t <;> decide
  · cases t <;> decide
theorem ge_op (ok : XOk X cx k) : ∀ (o : Op) {e : Expr} {es : List Expr}, opShape cx o e = some es → PEs X es ts xs → GE X e (dOp o xs) := by
  intro o e es h hes
  have hs := hes.snd
  have hu := units_of ok
  unfold opShape at h
  split at h
  · cases h
    obtain ⟨t, u, x, y, rfl, rfl, p1, q1, p2, q2⟩ := hes.two
    exact ge_call hs snd_add (pe_op op_addA p1 p2) (fun _ _ _ h => h) rfl rfl
  · cases h
    obtain ⟨t, u, x, y, rfl, rfl, p1, q1, p2, q2⟩ := hes.two
    exact ge_call hs snd_sub (pe_op op_subA p1 p2) (fun _ _ _ h => h) rfl rfl
  · cases h
    obtain ⟨t, u, x, y, rfl, rfl, p1, q1, p2, q2⟩ := hes.two
    exact ge_call hs snd_mul (pe_op op_mulB p1 p2) (fun _ _ _ h => h) rfl rfl
  · cases h
    obtain ⟨t, u, x, y, rfl, rfl, p1, q1, p2, q2⟩ := hes.two
    exact ge_call hs snd_fdiv (pe_op op_fdiv p1 p2) (fun _ _ _ h => h) rfl rfl
  · cases h
    obtain ⟨t, u, x, y, rfl, rfl, p1, q1, p2, q2⟩ := hes.two
    exact ge_call hs snd_mod (pe_op op_mod p1 p2) (fun _ _ _ h => h) rfl rfl
  · cases h
    obtain ⟨t, u, x, y, rfl, rfl, p1, q1, p2, q2⟩ := hes.two
    exact ge_call hs snd_pow (pe_op op_pow p1 p2) (fun _ _ _ h => h) rfl rfl
  · cases h
    obtain ⟨t, x, rfl, rfl, p1, q1⟩ := hes.one
    exact ge_call hs snd_neg (pe_un un_neg p1) (fun _ _ _ h => h) rfl rfl
  · cases h
    obtain ⟨t, u, x, y, rfl, rfl, p1, q1, p2, q2⟩ := hes.two
    exact ge_cmp hs snd_eq (op_eqD (by omega)) p1 p2 (mark_of q2 _) (fun _ _ _ h => h)
  · cases h
    obtain ⟨t, u, x, y, rfl, rfl, p1, q1, p2, q2⟩ := hes.two
    exact ge_cmp hs snd_ne (op_neD (by omega)) p1 p2 (mark_of q2 _) (fun _ _ _ h => h)
  · cases h
    obtain ⟨t, u, x, y, rfl, rfl, p1, q1, p2, q2⟩ := hes.two
    exact ge_cmp hs snd_lt op_ltA p1 p2 (mark_of q2 _) (fun _ _ _ h => h)
  · cases h
    obtain ⟨t, u, x, y, rfl, rfl, p1, q1, p2, q2⟩ := hes.two
    exact ge_cmp hs snd_le op_leA p1 p2 (mark_of q2 _) (fun _ _ _ h => h)
  · cases h
    obtain ⟨t, u, x, y, rfl, rfl, p1, q1, p2, q2⟩ := hes.two
    exact ge_cmp hs snd_gt op_gt p1 p2 (mark_of q2 _) (fun _ _ _ h => h)
  · cases h
    obtain ⟨t, u, x, y, rfl, rfl, p1, q1, p2, q2⟩ := hes.two
    exact ge_cmp hs snd_ge op_ge p1 p2 (mark_of q2 _) (fun _ _ _ h => h)
  · cases h
    obtain ⟨t, u, x, y, rfl, rfl, p1, q1, p2, q2⟩ := hes.two
    exact ge_cmp hs snd_isin (op_inA hu) p1 p2 (mark_of q2 _) (fun _ _ _ h => h)
  · cases h
    obtain ⟨t, u, x, y, rfl, rfl, p1, q1, p2, q2⟩ := hes.two
    exact ge_cmp hs snd_notin (op_notinA hu) p1 p2 (mark_of q2 _) (fun _ _ _ h => h)
  · cases h
    obtain ⟨t, x, rfl, rfl, p1, q1⟩ := hes.one
    exact ge_cmp hs snd_isN op_isN2 p1 pe_non rfl (fun _ _ _ h => h)
  · cases h
    obtain ⟨t, x, rfl, rfl, p1, q1⟩ := hes.one
    exact ge_cmp hs snd_notN op_notN2 p1 pe_non rfl (fun _ _ _ h => h)
  · cases h
    obtain ⟨t, x, rfl, rfl, p1, q1⟩ := hes.one
    exact ge_cmp hs snd_isTr op_isTr2 p1 pe_bl rfl (fun _ _ _ h => h)
  · cases h
    obtain ⟨t, u, x, y, rfl, rfl, p1, q1, p2, q2⟩ := hes.two
    exact ge_call hs snd_ix (pe_ix (ix_all (by omega)) p1 p2 (ix_of q2)) (fun _ _ _ h => h) rfl rfl
  · cases h
    obtain ⟨t, x, rfl, rfl, p1, q1⟩ := hes.one
    exact ge_call hs snd_rev (pe_rev p1) (fun _ _ _ h => h) rfl rfl
  · split at h <;> cases h
    rename_i hf
    obtain ⟨rfl, hb⟩ := hf
    exact ge_blt ok hes snd_len call_lenA hb PySem.boot_len
  · split at h <;> cases h
    rename_i hf
    obtain ⟨rfl, hb⟩ := hf
    exact ge_blt ok hes snd_min (call_minA ok.calm hu) hb (by decide +kernel)
  · split at h <;> cases h
    rename_i hf
    obtain ⟨rfl, hb⟩ := hf
    exact ge_blt ok hes snd_max (call_maxA ok.calm hu) hb (by decide +kernel)
  · split at h <;> cases h
    rename_i hf
    obtain ⟨rfl, hb⟩ := hf
    exact ge_blt ok hes snd_abs call_abs hb (by decide +kernel)
  · split at h <;> cases h
    rename_i hf
    obtain ⟨rfl, hb⟩ := hf
    exact ge_bty ok hes snd_int call_int1 hb (by decide +kernel)
  · split at h <;> cases h
    rename_i hf
    obtain ⟨rfl, hb⟩ := hf
    exact ge_blt ok hes snd_divm call_divmod hb (by decide +kernel)
  · split at h <;> cases h
    rename_i hf
    obtain ⟨rfl, hb⟩ := hf
    exact ge_bty ok hes snd_list (call_listA ok.calm) hb (by decide +kernel)
  · split at h <;> cases h
    rename_i hf
    obtain ⟨rfl, hb⟩ := hf
    exact ge_bty ok hes snd_tuple call_tuple_of hb (by decide +kernel)
  · split at h <;> cases h
    rename_i hf
    obtain ⟨rfl, hb⟩ := hf
    exact ge_blt ok hes snd_sorted (call_sortA ok.calm hu) hb (by decide +kernel)
  · split at h <;> cases h
    rename_i hf
    obtain ⟨rfl, hb⟩ := hf
    exact ge_blt ok hes snd_sum (cr_sum ok.calm) hb (by decide +kernel)
  · split at h <;> cases h
    rename_i hf
    obtain ⟨rfl, hb⟩ := hf
    exact ge_blt ok hes snd_any (cr_any ok.calm) hb (by decide +kernel)
  · split at h <;> cases h
    rename_i hf
    obtain ⟨rfl, hb⟩ := hf
    exact ge_blt ok hes snd_all (cr_all ok.calm) hb (by decide +kernel)
  · split at h <;> cases h
    rename_i hf
    obtain ⟨⟨rfl, hb⟩, rfl, hb2⟩ := hf
    have st := pa_star1 (pos := ⟨0, 0, 0, 0⟩) hes
    obtain ⟨t, u, x, y, rfl, rfl, p1, q1, p2, q2⟩ := hes.two
    refine ge_call hs snd_lrange (pe_listRg ok.calm (blt_of ok hb).1 (blt_of ok hb).2 (prg_2 (blt_of ok hb2).1 (blt_of ok hb2).2 p1 p2 ?_ ?_ ?_) rfl) (fun _ _ _ h => h) rfl rfl
    · exact star_of q1 _ _
    · exact star_of q2 _ _
    · exact (pa_star1 (pos := _) hes).2
  · split at h <;> cases h
    rename_i hf
    obtain ⟨⟨rfl, hb⟩, hg, hb2⟩ := hf
    obtain ⟨t, x, rfl, rfl, p1, q1⟩ := hes.one
    subst hg
    have pg := pe_ty ok hb2
    exact ge_call hs (snd_isi _) (pe_callB call_isi (blt_of ok hb).1 (blt_of ok hb).2 (by decide +kernel) (pa_cons p1 (pa_cons (pg _) pa_nil rfl) (star_of q1 _ _)) (by decide) (by decide) (star_of q1 _ _) rfl) (fun _ _ _ h => h) rfl rfl
  · cases h
end
end WT

/-! WT: names, constants, displays, and, or, not, if. -/
namespace WT
open PySem L2
/-- values in a row -/
structure ResL (K : PySem.W.Frag) (H : Hp) (Γ : Env) (g : Nat → List Addr) (ds : List D) (fr : Bool) (H' : Hp) (Γ' : Env) (g' : Nat → List Addr) (vs : List V) (A : List Addr) : Prop where
  rep : Reps K H' ds vs A
  out : ∀ a ∈ A, ¬ fpset Γ' g' a
  src : ∀ a ∈ A, reg g a ∨ H a = none
  new : fr = true → A.Nodup ∧ ∀ a ∈ A, H a = none ∧ ¬ reg g' a
section
variable {K : PySem.W.Frag} {H H' H1 H2 : Hp} {Γ Γ' Γ1 Γ2 : Env} {g g' g1 g2 : Nat → List Addr} {σ : L2.St}
theorem snd_seqE : ∀ {ts : List TE} {xs : List Dn}, SndDs K ts xs → ∀ {Γ : Env} {ds : List D} {fr : Bool} {Γ' : Env}, seqE xs Γ = some (ds, fr, Γ') → ∀ {σ : L2.St} {H : Hp} {g : Nat → List Addr}, StRel K Γ g σ H → ∀ (Q : List V → Hp → Prop),
    (∀ vs H' g' A, StRel K Γ' g' σ H' → Step H Γ g H' Γ' g' → ResL K H Γ g ds fr H' Γ' g' vs A → Q vs H') → tAs ts σ H Q
  | _, _, .nil, Γ, ds, fr, Γ', e, σ, H, g, S, Q, h => by
    simp only [seqE, Option.some.injEq, Prod.mk.injEq] at e
    obtain ⟨rfl, rfl, rfl⟩ := e
    exact h [] H g [] S .refl ⟨by simp [Reps], fun _ z => (nomatch z), fun _ z => (nomatch z), fun _ => ⟨List.nodup_nil, fun _ z => (nomatch z)⟩⟩
  | _, _, .cons (t := t) (ts := ts) (x := x) (xs := xs) h1 hr, Γ, ds, fr, Γ', e, σ, H, g, S, Q, h => by
    simp only [seqE, Option.bind_eq_some_iff, Option.map_eq_some_iff] at e
    obtain ⟨⟨d, f1, Γ1⟩, e1, ⟨es, f2, Γ2⟩, e2, e3⟩ := e
    cases e3
    refine h1.e Γ d f1 Γ1 e1 σ H g S _ fun v H1 g1 A S1 s1 r1 => ?_
    refine snd_seqE hr e2 S1 _ fun vs H2 g2 B S2 s2 r2 => ?_
    have w := r1.wait S1 s1 s2
    refine h (v :: vs) H2 g2 (A ++ B) S2 (s1.trans s2) ⟨?_, fun a ha => ?_, fun a ha => ?_, fun f => ?_⟩
    · simp only [Reps]
      exact ⟨v, vs, A, B, rfl, w.rep, r2.rep, rfl⟩
    · rcases List.mem_append.mp ha with q | q
      · exact w.out a q
      · exact r2.out a q
    · rcases List.mem_append.mp ha with q | q
      · exact w.src a q
      · rcases r2.src a q with z | z
        · exact s1.reg a z
        · exact .inr (s1.mono a z)
    · rw [Bool.and_eq_true] at f
      refine ⟨List.nodup_append.mpr ⟨(w.new f.1).1, (r2.new f.2).1, fun a ha b hb z => ?_⟩, fun a ha => ?_⟩
      · subst z
        obtain ⟨o, ho, _⟩ := Rep.mut d r1.rep a ha
        rw [((r2.new f.2).2 a hb).1] at ho; cases ho
      · rcases List.mem_append.mp ha with q | q
        · exact (w.new f.1).2 a q
        · exact ⟨s1.mono a ((r2.new f.2).2 a q).1, ((r2.new f.2).2 a q).2⟩
/-- a new object over values -/
theorem snd_tup {ts : List TE} {xs : List Dn} (hs : SndDs K ts xs) : SndE K (tTup (tAs ts)) (fun Γ => (seqE xs Γ).bind fun (ds, fr, Γ1) => if ds.length ≤ line then some (.tup ds, fr, Γ1) else none) := by
  intro Γ d fr Γ' e σ H g S Q h
  simp only [Option.bind_eq_some_iff] at e
  obtain ⟨⟨ds, f, Γ1⟩, e1, e2⟩ := e
  simp only at e2
  split at e2 <;> cases e2
  rename_i hz
  refine snd_seqE hs e1 S _ fun vs H1 g1 A S1 s1 r1 => ⟨by rw [← r1.rep.length, ← line_eq]; exact hz, fun p np => ?_⟩
  have G : Grow H1 (upd H1 p (.tup vs)) := Grow.new np
  refine h (.ref p) _ g1 A (S1.grow G) (s1.trans (G.step _ _)) ⟨?_, r1.out, r1.src, r1.new⟩
  simp only [Rep]
  exact ⟨p, vs, rfl, SqT.of upd_same, Reps.keep ds r1.rep (G.keep _)⟩
theorem snd_lst {ts : List TE} {xs : List Dn} (hs : SndDs K ts xs) : SndE K (tLst (tAs ts)) (fun Γ => (seqE xs Γ).bind fun (ds, fr, Γ1) => if ds.length ≤ line then some (.lst ds, fr, Γ1) else none) := by
  intro Γ d fr Γ' e σ H g S Q h
  simp only [Option.bind_eq_some_iff] at e
  obtain ⟨⟨ds, f, Γ1⟩, e1, e2⟩ := e
  simp only at e2
  split at e2 <;> cases e2
  rename_i hz
  refine snd_seqE hs e1 S _ fun vs H1 g1 A S1 s1 r1 => ⟨by rw [← r1.rep.length, ← line_eq]; exact hz, fun p np => ?_⟩
  have G : Grow H1 (upd H1 p (.lst vs)) := Grow.new np
  have nA : ∀ a ∈ A, a ≠ p := fun a ha z => by
    obtain ⟨o, ho, _⟩ := Reps.mut ds r1.rep a ha
    rw [z, np] at ho; cases ho
  refine h (.ref p) _ g1 (p :: A) (S1.grow G) (s1.trans (G.step _ _)) ⟨?_, fun a ha f => ?_, fun a ha => ?_, fun f => ⟨List.nodup_cons.mpr ⟨fun q => nA p q rfl, (r1.new f).1⟩, fun a ha => ?_⟩⟩
  · simp only [Rep]
    exact ⟨p, vs, A, rfl, upd_same, Reps.keep ds r1.rep (G.keep _), rfl⟩
  · rcases List.mem_cons.mp ha with rfl | ha
    · obtain ⟨o, e⟩ := S1.reg_some (StRel.fp_reg f); rw [np] at e; cases e
    · exact r1.out a ha f
  · rcases List.mem_cons.mp ha with rfl | ha
    · exact .inr (s1.mono a np)
    · exact r1.src a ha
  · rcases List.mem_cons.mp ha with rfl | ha
    · refine ⟨s1.mono a np, fun q => ?_⟩
      obtain ⟨o, e⟩ := S1.reg_some q; rw [np] at e; cases e
    · exact (r1.new f).2 a ha
theorem snd_dct0 : SndE K (fun _ H Q => ∀ d, H d = none → Q (.ref d) (upd H d (.dK []))) (fun Γ => some (.dct [], true, Γ)) := by
  intro Γ d fr Γ' e σ H g S Q h
  cases e
  intro p np
  have G : Grow H (upd H p (.dK [])) := Grow.new np
  have fresh : ∀ a ∈ [p], a = p := fun a ha => by simpa using ha
  refine h (.ref p) _ g [p] (S.grow G) (G.step _ _) ⟨?_, fun a ha f => ?_, fun a ha => .inr (by rw [fresh a ha]; exact np), fun f => ⟨by simp, fun a ha => ?_⟩⟩
  · simp only [Rep, RepKs]
    exact ⟨p, [], [], rfl, upd_same, ⟨rfl, rfl⟩, rfl⟩
  · rw [fresh a ha] at f
    obtain ⟨o, e⟩ := S.reg_some (StRel.fp_reg f); rw [np] at e; cases e
  · rw [fresh a ha]
    exact ⟨np, fun q => by obtain ⟨o, e⟩ := S.reg_some q; rw [np] at e; cases e⟩

/-! ### and, or, not, if -/
theorem isBl_ok {d : D} {b : Bool} (e : isBl d = some b) : d = .bl b := by
  cases d <;> simp only [isBl] at e <;> cases e
  rfl
theorem Res.bl {b fr : Bool} {v : V} {A : List Addr} (r : Res K H Γ g (.bl b) fr H' Γ' g' v A) : v = .bl b := by
  have := r.rep
  simp only [Rep] at this
  exact this.1
theorem res_bl {b fr : Bool} : Res K H Γ g (.bl b) fr H' Γ' g' (.bl b) [] :=
  ⟨by simp [Rep], fun _ z => (nomatch z), fun _ z => (nomatch z), fun _ => ⟨List.nodup_nil, fun _ z => (nomatch z)⟩⟩
theorem sndA_of {t : TE} {e : Env → Option (D × Bool × Env)} (h : SndE K t e) : SndA K t (fun Γ => (e Γ).map fun (d, fr, Γ1) => (.v d fr, Γ1)) := (snd_mk h).a
theorem snd_and {a b : Dn} {ta tb : TE} (ha : SndE K ta a.e) (hb : SndE K tb b.e) : SndE K (tAndV ta tb) (dAnd a b).e := by
  intro Γ d fr Γ' e σ H g S Q h
  simp only [dAnd, Option.bind_eq_some_iff] at e
  obtain ⟨⟨d1, f1, Γ1⟩, e1, c, e2, e3⟩ := e
  obtain rfl := isBl_ok e2
  refine ha Γ _ f1 Γ1 e1 σ H g S _ fun v H1 g1 A S1 s1 r1 => ⟨c, r1.bl, ?_⟩
  cases c with
  | true =>
    rw [if_pos rfl] at e3 ⊢
    exact hb Γ1 d fr Γ' e3 σ H1 g1 S1 Q fun w H2 g2 B S2 s2 r2 => h w H2 g2 B S2 (s1.trans s2) (r2.back s1)
  | false =>
    rw [if_neg (by simp)] at e3 ⊢
    cases e3
    exact h (.bl false) H1 g1 [] S1 s1 res_bl
theorem snd_or {a b : Dn} {ta tb : TE} (ha : SndE K ta a.e) (hb : SndE K tb b.e) : SndE K (tOrV ta tb) (dOr a b).e := by
  intro Γ d fr Γ' e σ H g S Q h
  simp only [dOr, Option.bind_eq_some_iff] at e
  obtain ⟨⟨d1, f1, Γ1⟩, e1, c, e2, e3⟩ := e
  obtain rfl := isBl_ok e2
  refine ha Γ _ f1 Γ1 e1 σ H g S _ fun v H1 g1 A S1 s1 r1 => ⟨c, r1.bl, ?_⟩
  cases c with
  | false =>
    rw [if_neg (by simp)] at e3 ⊢
    exact hb Γ1 d fr Γ' e3 σ H1 g1 S1 Q fun w H2 g2 B S2 s2 r2 => h w H2 g2 B S2 (s1.trans s2) (r2.back s1)
  | true =>
    rw [if_pos rfl] at e3 ⊢
    cases e3
    exact h (.bl true) H1 g1 [] S1 s1 res_bl
theorem snd_not {a : Dn} {ta : TE} (ha : SndE K ta a.e) : SndE K (tNotV ta) (dNot a).e := by
  intro Γ d fr Γ' e σ H g S Q h
  simp only [dNot, Option.bind_eq_some_iff, Option.map_eq_some_iff] at e
  obtain ⟨⟨d1, f1, Γ1⟩, e1, c, e2, e3⟩ := e
  obtain rfl := isBl_ok e2
  cases e3
  exact ha Γ _ f1 _ e1 σ H g S _ fun v H1 g1 A S1 s1 r1 => ⟨c, r1.bl, h (.bl !c) H1 g1 [] S1 s1 res_bl⟩
theorem sndT_and {a b : Dn} {ta tb : TT} (ha : SndT K ta a.t) (hb : SndT K tb b.t) : SndT K (tAnd ta tb) (dAnd a b).t := by
  intro Γ d Γ' e σ H g S Q h
  simp only [dAnd, Option.bind_eq_some_iff] at e
  obtain ⟨⟨c, Γ1⟩, e1, e3⟩ := e
  refine ha Γ c Γ1 e1 σ H g S _ fun H1 g1 S1 s1 => ?_
  cases c with
  | true => rw [if_pos rfl] at e3 ⊢; exact hb Γ1 d Γ' e3 σ H1 g1 S1 Q fun H2 g2 S2 s2 => h H2 g2 S2 (s1.trans s2)
  | false => rw [if_neg (by simp)] at e3 ⊢; cases e3; exact h H1 g1 S1 s1
theorem sndT_or {a b : Dn} {ta tb : TT} (ha : SndT K ta a.t) (hb : SndT K tb b.t) : SndT K (tOr ta tb) (dOr a b).t := by
  intro Γ d Γ' e σ H g S Q h
  simp only [dOr, Option.bind_eq_some_iff] at e
  obtain ⟨⟨c, Γ1⟩, e1, e3⟩ := e
  refine ha Γ c Γ1 e1 σ H g S _ fun H1 g1 S1 s1 => ?_
  cases c with
  | false => rw [if_neg (by simp)] at e3 ⊢; exact hb Γ1 d Γ' e3 σ H1 g1 S1 Q fun H2 g2 S2 s2 => h H2 g2 S2 (s1.trans s2)
  | true => rw [if_pos rfl] at e3 ⊢; cases e3; exact h H1 g1 S1 s1
theorem sndT_not {a : Dn} {ta : TT} (ha : SndT K ta a.t) : SndT K (tNot ta) (dNot a).t := by
  intro Γ d Γ' e σ H g S Q h
  simp only [dNot, Option.map_eq_some_iff] at e
  obtain ⟨⟨c, Γ1⟩, e1, e3⟩ := e
  cases e3
  exact ha Γ c _ e1 σ H g S _ fun H1 g1 S1 s1 => h H1 g1 S1 s1
theorem snd_ife {t a b : Dn} {tt : TT} {ta tb : TE} (ht : SndT K tt t.t) (ha : SndE K ta a.e) (hb : SndE K tb b.e) : SndE K (tIf tt ta tb) (dIfe t a b).e := by
  intro Γ d fr Γ' e σ H g S Q h
  simp only [dIfe, mkDn, Option.bind_eq_some_iff] at e
  obtain ⟨⟨c, Γ1⟩, e1, e3⟩ := e
  refine ht Γ c Γ1 e1 σ H g S _ fun H1 g1 S1 s1 => ?_
  cases c with
  | true => rw [if_pos rfl] at e3 ⊢; exact ha Γ1 d fr Γ' e3 σ H1 g1 S1 Q fun w H2 g2 B S2 s2 r2 => h w H2 g2 B S2 (s1.trans s2) (r2.back s1)
  | false => rw [if_neg (by simp)] at e3 ⊢; exact hb Γ1 d fr Γ' e3 σ H1 g1 S1 Q fun w H2 g2 B S2 s2 r2 => h w H2 g2 B S2 (s1.trans s2) (r2.back s1)
theorem cmp_bl {o : Op} {x y : D} {k : Bool} (e : cmpB o x y = some k) : ∃ top, prim o [x, y] = some (.bl k, top) := by
  simp only [cmpB, Option.bind_eq_some_iff] at e
  obtain ⟨⟨d, top⟩, e1, e2⟩ := e
  obtain rfl := isBl_ok e2
  exact ⟨top, e1⟩
theorem snd_chain {o1 o2 : Op} {r1 r2 : R2} {a b c : Dn} {ta tb tc : TE} (p1 : SndP K o1 (rr2 r1)) (p2 : SndP K o2 (rr2 r2)) (ha : SndE K ta a.e) (hb : SndE K tb b.e) (hc : SndE K tc c.e) : SndE K (tChain r1 r2 ta tb tc) (dChain o1 o2 a b c).e := by
  intro Γ d fr Γ' e σ H g S Q h
  simp only [dChain, mkDn, Option.bind_eq_some_iff] at e
  obtain ⟨⟨x, fx, Γ1⟩, e1, ⟨y, fy, Γ2⟩, e2, k, e3, e4⟩ := e
  refine ha Γ x fx Γ1 e1 σ H g S _ fun v H1 g1 A S1 s1 r1' => ?_
  refine hb Γ1 y fy Γ2 e2 σ H1 g1 S1 _ fun w H2 g2 B S2 s2 r2' => ?_
  obtain ⟨top, e5⟩ := cmp_bl e3
  have rx := r1'.wait S1 s1 s2
  refine p1 [x, y] _ top e5 [v, w] H2 [A, B] (.cons rx.rep (.cons r2'.rep .nil)) (fun z H3 => ∃ k, z = .bl k ∧ (if k = true then tc σ H3 fun w' H4 => r2 w w' H4 Q else Q (.bl false) H3)) fun z H3 C G rz _ _ => ?_
  simp only [Rep] at rz
  refine ⟨k, rz.1, ?_⟩
  have S3 := S2.grow G
  have s3 := s2.trans (G.step Γ2 g2)
  cases k with
  | false =>
    rw [if_neg (by simp)] at e4 ⊢
    cases e4
    exact h (.bl false) H3 g2 [] S3 (s1.trans s3) res_bl
  | true =>
    rw [if_pos rfl] at e4 ⊢
    simp only [Option.bind_eq_some_iff, Option.map_eq_some_iff] at e4
    obtain ⟨⟨z', fz, Γ3⟩, e6, j, e7, e8⟩ := e4
    cases e8
    obtain ⟨top2, e9⟩ := cmp_bl e7
    refine hc Γ2 z' fz _ e6 σ H3 g2 S3 _ fun w' H4 g4 C' S4 s4 r4 => ?_
    have ry := r2'.wait S2 s2 ((G.step Γ2 g2).trans s4)
    refine p2 [y, z'] _ top2 e9 [w, w'] H4 [B, C'] (.cons ry.rep (.cons r4.rep .nil)) Q fun q H5 D' G' rq _ _ => ?_
    simp only [Rep] at rq
    rw [rq.1]
    exact h (.bl j) H5 g4 [] (S4.grow G') ((s1.trans (s3.trans s4)).trans (G'.step _ _)) res_bl
end

section
variable {X : Cx} {cx : Ctx} {k : Nat} {ts : List TE} {xs : List Dn}
def cmpO : Op → CmpOp → Bool
  | .lt, .Lt => true | .le, .LtE => true | .gt, .Gt => true | .ge, .GtE => true | _, _ => false
theorem cmpO_ok {o : Op} {c : CmpOp} (h : cmpO o c = true) : ∃ r : R2, OpR X (compareOp c) r ∧ SndP X.K o (rr2 r) := by
  unfold cmpO at h
  split at h
  · exact ⟨_, op_ltA, snd_lt⟩
  · exact ⟨_, op_leA, snd_le⟩
  · exact ⟨_, op_gt, snd_gt⟩
  · exact ⟨_, op_ge, snd_ge⟩
  · cases h
theorem marks_of {c1 c2 : CmpOp} {b c : Expr} (h1 : plainE b = true) (h2 : plainE c = true) : lastMarks [c1, c2] [b, c] = false := by
  show behindInMarks c2 c = false
  exact mark_of h2 c2
theorem ge_chain {o1 o2 : Op} {c1 c2 : CmpOp} {a b c : Expr} {pos : Pos} {x y z : Dn} (h1 : cmpO o1 c1 = true) (h2 : cmpO o2 c2 = true) (ga : GE X a x) (gb : GE X b y) (gc : GE X c z) : GE X (.Compare a [c1, c2] [b, c] pos) (dChain o1 o2 x y z) := by
  obtain ⟨r1, q1, p1⟩ := cmpO_ok (X := X) h1
  obtain ⟨r2, q2, p2⟩ := cmpO_ok (X := X) h2
  obtain ⟨ta, pa, sa⟩ := ga.ex
  obtain ⟨tb, pb, sb⟩ := gb.ex
  obtain ⟨tc, pc, sc⟩ := gc.ex
  have s := snd_chain p1 p2 sa.e sb.e sc.e
  exact ⟨⟨_, pe_chain q1 q2 pa pb pc (marks_of gb.pl gc.pl), snd_mk s⟩, fun _ => ⟨_, pt_chain q1 q2 pa pb pc (marks_of gb.pl gc.pl), by
    have := sndT_mk s
    exact this⟩, rfl⟩
theorem ge_var (ok : XOk X cx k) {i : Nat} {x : Str} {pos : Pos} (hN : cx.N[i]? = some x) (hv : visB cx.sc x = true) (hd : (x == ("__debug__" : Str)) = false) (hcd : (x == ("__classdict__" : Str)) = false) : GE X (.Name x pos) (dVar i) :=
  ⟨⟨tVar i, pe_var (by rw [ok.hN]; exact hN) (vis_of ok hv) hd hcd, snd_var i⟩, fun _ => ⟨_, pt_val (pe_var (by rw [ok.hN]; exact hN) (vis_of ok hv) hd hcd) (truth_of rfl _), sndT_var i⟩, rfl⟩
theorem ge_const {c : Const} {d : D} {j : Nat} {pos : Pos} (h : (match c, d with
    | .none, .non => true | .bool a, .bl b => a == b | .int a, .int b => a == b | .str a, .str b => decide (a = sV b) && strOkL b | _, _ => false) = true) : GE X (.Constant c j pos) (mkDn fun Γ => some (d, true, Γ)) := by
  split at h
  · exact ge_mk pe_non (snd_const fun H => by simp [Rep]).e rfl rfl
  · obtain rfl := eq_of_beq h
    exact ge_mk pe_bl (snd_const fun H => by simp [Rep]).e rfl rfl
  · obtain rfl := eq_of_beq h
    exact ge_mk pe_int (snd_const fun H => by simp [Rep]).e rfl rfl
  · rw [Bool.and_eq_true, decide_eq_true_eq] at h
    obtain ⟨rfl, h2⟩ := h
    exact ge_mk pe_str (snd_const fun H => by simp [Rep, sV, h2]).e rfl rfl
  · cases h
theorem ge_tup {es : List Expr} {j : Nat} {pos : Pos} (h : PEs X es ts xs) : GE X (.Tuple es j pos) (dTup xs) := ge_mk (pe_tup h.pa) (snd_tup h.snd) rfl rfl
theorem ge_lst {es : List Expr} {pos : Pos} (h : PEs X es ts xs) : GE X (.List es pos) (dLst xs) := ge_mk (pe_lst h.pa) (snd_lst h.snd) rfl rfl
theorem ge_dct0 {pos : Pos} : GE X (.Dict [] [] pos) (mkDn fun Γ => some (.dct [], true, Γ)) := ge_mk pe_dnewK snd_dct0 rfl rfl
theorem pw_of {op : BoolOp} {vs : List Expr} {pos : Pos} {t : TT} (h : PT X (.BoolOp op vs pos) t) : PW X (.BoolOp op vs pos) t := ⟨fun w pins s σ H Q I q => h.run pins s σ H Q I q⟩
theorem ge_and2 {a b : Expr} {pos : Pos} {x y : Dn} (h1 : GE X a x) (h2 : GE X b y) (p1 : testable a = true) (p2 : testable b = true) : GE X (.BoolOp .And [a, b] pos) (dAnd x y) := by
  obtain ⟨t, pa, sa⟩ := h1.ex
  obtain ⟨u, pb, sb⟩ := h2.ex
  obtain ⟨t', pa', sa'⟩ := h1.tt p1
  obtain ⟨u', pb', sb'⟩ := h2.tt p2
  exact ⟨⟨_, pe_and pa (pe_one pb), snd_and sa.e sb.e, sndA_of (snd_and sa.e sb.e)⟩, fun _ => ⟨_, (pw_and pa' (pw_and1 pb')).pt, sndT_and sa' sb'⟩, rfl⟩
theorem ge_andN {a b : Expr} {rest : List Expr} {pos : Pos} {x y : Dn} (h1 : GE X a x) (h2 : GE X (.BoolOp .And (b :: rest) pos) y) (p1 : testable a = true) : GE X (.BoolOp .And (a :: b :: rest) pos) (dAnd x y) := by
  obtain ⟨t, pa, sa⟩ := h1.ex
  obtain ⟨u, pb, sb⟩ := h2.ex
  obtain ⟨t', pa', sa'⟩ := h1.tt p1
  obtain ⟨u', pb', sb'⟩ := h2.tt rfl
  exact ⟨⟨_, pe_and pa pb, snd_and sa.e sb.e, sndA_of (snd_and sa.e sb.e)⟩, fun _ => ⟨_, (pw_and pa' (pw_of pb')).pt, sndT_and sa' sb'⟩, rfl⟩
theorem ge_or2 {a b : Expr} {pos : Pos} {x y : Dn} (h1 : GE X a x) (h2 : GE X b y) (p1 : testable a = true) (p2 : testable b = true) : GE X (.BoolOp .Or [a, b] pos) (dOr x y) := by
  obtain ⟨t, pa, sa⟩ := h1.ex
  obtain ⟨u, pb, sb⟩ := h2.ex
  obtain ⟨t', pa', sa'⟩ := h1.tt p1
  obtain ⟨u', pb', sb'⟩ := h2.tt p2
  exact ⟨⟨_, pe_or pa (pe_one pb), snd_or sa.e sb.e, sndA_of (snd_or sa.e sb.e)⟩, fun _ => ⟨_, (pw_or pa' (pw_or1 pb')).pt, sndT_or sa' sb'⟩, rfl⟩
theorem ge_orN {a b : Expr} {rest : List Expr} {pos : Pos} {x y : Dn} (h1 : GE X a x) (h2 : GE X (.BoolOp .Or (b :: rest) pos) y) (p1 : testable a = true) : GE X (.BoolOp .Or (a :: b :: rest) pos) (dOr x y) := by
  obtain ⟨t, pa, sa⟩ := h1.ex
  obtain ⟨u, pb, sb⟩ := h2.ex
  obtain ⟨t', pa', sa'⟩ := h1.tt p1
  obtain ⟨u', pb', sb'⟩ := h2.tt rfl
  exact ⟨⟨_, pe_or pa pb, snd_or sa.e sb.e, sndA_of (snd_or sa.e sb.e)⟩, fun _ => ⟨_, (pw_or pa' (pw_of pb')).pt, sndT_or sa' sb'⟩, rfl⟩
theorem ge_not {a : Expr} {pos : Pos} {x : Dn} (h1 : GE X a x) (p1 : testable a = true) : GE X (.UnaryOp .Not a pos) (dNot x) := by
  obtain ⟨t, pa, sa⟩ := h1.ex
  obtain ⟨t', pa', sa'⟩ := h1.tt p1
  refine ⟨⟨_, pe_not pa, snd_not sa.e, ?_⟩, fun _ => ⟨_, pt_not pa', sndT_not sa'⟩, rfl⟩
  intro Γ ar Γ' e σ H g S Q h
  simp only [dNot, Option.bind_eq_some_iff, Option.map_eq_some_iff] at e
  obtain ⟨⟨d1, f1, Γ1⟩, e1, c, e2, e3⟩ := e
  obtain rfl := isBl_ok e2
  cases e3
  exact sa.e Γ _ f1 _ e1 σ H g S _ fun v H1 g1 A S1 s1 r1 => ⟨c, r1.bl, h (.bl !c) H1 g1 [] S1 s1 res_bl⟩
theorem ge_ife {c a b : Expr} {pos : Pos} {z x y : Dn} (h0 : GE X c z) (h1 : GE X a x) (h2 : GE X b y) (p0 : testable c = true) : GE X (.IfExp c a b pos) (dIfe z x y) := by
  obtain ⟨t, pa, sa⟩ := h1.ex
  obtain ⟨u, pb, sb⟩ := h2.ex
  obtain ⟨t', pc, sc⟩ := h0.tt p0
  exact ⟨⟨_, pe_ifExp pc pa pb, snd_ife sc sa.e sb.e, (snd_mk (snd_ife sc sa.e sb.e)).a⟩, fun z => (nomatch z), rfl⟩
end
end WT

/-! WT: slices, methods that read, lists changed in place. -/
namespace WT
open PySem L2
section
variable {K : PySem.W.Frag} {X : Cx} {H H' H1 H2 H0 : Hp} {Γ Γ' Γ1 Γ2 Γ0 : Env} {g g' g1 g2 g0 : Nat → List Addr} {σ : L2.St}

/-! ### slices -/
def rSlAll (K : PySem.W.Frag) : V → Option Int → Option Int → Hp → VK → Prop := fun x lo hi H Q => rSlL K x lo hi H Q ∨ rSlS x lo hi H Q ∨ rSlA K x lo hi H Q
theorem sl_allA : SlR X (rSlAll X.K) := sl_list.or (sl_str.or sl_tupA)
theorem cut_map {α β : Type} (f : α → β) (xs : List α) (lo hi : Option Int) : cutL (xs.map f) lo hi = (cutL xs lo hi).map f := by
  unfold cutL
  rw [List.length_map, List.map_take, List.map_drop]
theorem cutV_map {α : Type} (f : α → V) (xs : List α) (lo hi : Option Int) : cutV (xs.map f) lo hi = (cutL xs lo hi).map f := by
  unfold cutL cutV
  rw [List.length_map, List.map_take, List.map_drop]
theorem snd_slP {lo hi : Option Int} {x d : D} {top : Bool} {v : V} {A : List Addr} {Q : VK} (e : slP lo hi x = some (d, top)) (r : Rep K H x v A) (h : Fin K H d top A Q) : rSlAll K v lo hi H Q := by
  unfold slP at e
  split at e
  · split at e <;> cases e
    rename_i s hz
    simp only [Rep] at r
    refine .inr (.inl ⟨sV s, r.1, by rw [sV_len, ← line_eq]; exact hz, ?_⟩)
    have : cutS (sV s) lo hi = sV (cutL s lo hi) := by
      unfold cutS cutL
      rw [sV_len]
      show (⟨(((s.toArray).toList.drop _).take _).toArray⟩ : Str) = _
      rw [List.toList_toArray]; rfl
    rw [this]
    exact finS h (strOk_sub r.2.2 fun c hc => cut_mem hc)
  · cases e
    simp only [Rep] at r
    obtain ⟨a, us, B, rfl, q, r, rfl⟩ := r
    obtain ⟨C, r2, s2⟩ := r.cut lo hi
    exact .inl ⟨a, us, rfl, SqL.of q, fun p np => finL h r2 (fun c hc => List.mem_cons_of_mem _ (s2 c hc)) np⟩
  · cases e
    simp only [Rep] at r
    obtain ⟨a, us, rfl, q, r⟩ := r
    obtain ⟨C, r2, s2⟩ := r.cut lo hi
    refine .inr (.inr ⟨a, us, rfl, q, fun z => ?_, fun _ p np => finT h r2 s2 np⟩)
    have e1 : cutV us lo hi = us := by
      unfold cutV
      rw [z.1, z.2, List.drop_zero, Nat.sub_zero, List.take_length]
    rw [e1] at r2
    exact finTs h q r2 s2
  · cases e
    simp only [Rep] at r
    obtain ⟨a, o, rfl, q, rfl⟩ := r
    rename_i ns
    refine .inl ⟨a, ns.map V.int, rfl, q.sq, fun p np => ?_⟩
    rw [cutV_map]
    exact finL h (reps_ints H _) (fun _ z => (nomatch z)) np
  · cases e
def SndPt (K : PySem.W.Frag) (b : Bool) (t : TO) (x : Dn) : Prop :=
  ∀ Γ d fr Γ' o, x.e Γ = some (d, fr, Γ') → part b d = some o → ∀ (σ : L2.St) (H : Hp) (g : Nat → List Addr), StRel K Γ g σ H → ∀ Q : Option Int → Hp → Prop,
    (∀ H' g', StRel K Γ' g' σ H' → Step H Γ g H' Γ' g' → Q o H') → t σ H Q
theorem snd_part {t : TE} {x : Dn} (h : SndE K t x.e) : SndPt K true (tPart t) x := by
  intro Γ d fr Γ' o e p σ H g S Q q
  cases d <;> simp only [part] at p <;> cases p
  refine h Γ _ fr Γ' e σ H g S _ fun v H1 g1 A S1 s1 r1 => ?_
  have := r1.rep
  simp only [Rep] at this
  exact ⟨_, this.1, q H1 g1 S1 s1⟩
theorem snd_noPart : SndPt K false tNoPart (mkDn fun Γ => some (.non, true, Γ)) := by
  intro Γ d fr Γ' o e p σ H g S Q q
  simp only [mkDn, Option.some.injEq, Prod.mk.injEq] at e
  obtain ⟨rfl, rfl, rfl⟩ := e
  cases p
  exact q H g S .refl
theorem args_one {a : Arg} {v : V} {A : List Addr} (r : ArgR K σ H Γ g a H' Γ' g' v A) : ∃ B, ArgsR K σ H Γ g H' Γ' g' [a] [v] [B] := by
  obtain ⟨B, r, n⟩ := ArgR.norm r
  exact ⟨B, .cons r n .nil fun p hp => (nomatch hp)⟩
theorem snd_sl {bl bh : Bool} {x lo hi : Dn} {te : TE} {tl th : TO} (hx : SndD K te x) (hl : SndPt K bl tl lo) (hh : SndPt K bh th hi) : SndE K (tSl (rSlAll K) te tl th) (dSl bl bh x lo hi).e := by
  intro Γ d fr Γ' e σ H g S Q h
  simp only [dSl, mkDn, Option.bind_eq_some_iff, Option.map_eq_some_iff] at e
  obtain ⟨⟨a, Γ1⟩, e1, ⟨l, f2, Γ2⟩, e2, lo', e3, ⟨u, f3, Γ3⟩, e4, hi', e5, d0, e6, ⟨d1, top⟩, e7, e8⟩ := e
  refine hx.a Γ a Γ1 e1 σ H g S _ fun v H1 g1 A S1 s1 r1 => ?_
  refine hl Γ1 l f2 Γ2 lo' e2 e3 σ H1 g1 S1 _ fun H2 g2 S2 s2 => ?_
  refine hh Γ2 u f3 Γ3 hi' e4 e5 σ H2 g2 S2 _ fun H3 g3 S3 s3 => ?_
  have r3 := r1.wait S1 s1 (s2.trans s3)
  obtain ⟨B, ra⟩ := args_one r3
  have rp : Reps3 K H3 [d0] [v] (useAs g3 [a] [B]) := ra.use S3 (by simp [getAll, e6])
  obtain ⟨v', A', ev, eA, rr⟩ := r3_1 rp
  cases ev
  refine snd_slP e7 rr fun w H4 C G r src new => ?_
  have eF : A' = (useAs g3 [a] [B]).flatten := by rw [eA]; simp
  obtain ⟨a1, b1, c1⟩ := snd_settle S3 ((s1.trans s2).trans s3) ra G r (fun b hb => by rw [← eF]; exact src b hb) new e8
  exact h w H4 g3 C a1 b1 c1

/-! ### methods that read -/
/-- a method by values is sound -/
def SndM (K : PySem.W.Frag) (o : Mo) (r : V → List V → Hp → VK → Prop) : Prop :=
  ∀ x ds d top, mprim o x ds = some (d, top) → ∀ v vs H A As, Rep K H x v A → Reps3 K H ds vs As → ∀ Q : VK, Fin K H d top (A ++ As.flatten) Q → r v vs H Q
def moT : Mo → String
  | .join => "str" | .lindex => "list"
theorem recv_ok {o : Mo} {d : D} {v : V} {A : List Addr} (h : recv o d = true) (r : Rep K H d v A) : tyV K (moT o) v H := by
  cases o <;> cases d <;> simp only [recv] at h <;> try cases h
  · simp only [Rep] at r
    rw [r.1]; rfl
  · simp only [Rep] at r
    obtain ⟨a, us, B, rfl, q, r, rfl⟩ := r
    exact .inl ⟨rfl, us, SqL.of q⟩
theorem snd_mop {o : Mo} {x : Dn} {xs : List Dn} {tx : TE} {ts : List TE} {r : V → List V → Hp → VK → Prop} (hx : SndD K tx x) (hs : SndDs K ts xs) (hp : SndM K o r) : SndE K (tBM K (moT o) r tx (tAs ts)) (dMop o x xs).e := by
  intro Γ d fr Γ' e σ H g S Q h
  simp only [dMop, mkDn, Option.bind_eq_some_iff] at e
  obtain ⟨⟨a, Γ1⟩, e1, d0, e2, e3⟩ := e
  simp only at e3
  split at e3
  case isFalse => cases e3
  rename_i hr
  simp only [Option.bind_eq_some_iff, Option.map_eq_some_iff] at e3
  obtain ⟨⟨as, Γ2⟩, e4, d1, e5, ds, e6, ⟨d2, top⟩, e7, e8⟩ := e3
  refine hx.a Γ a Γ1 e1 σ H g S _ fun v H1 g1 A S1 s1 r1 => ?_
  refine ⟨recv_ok hr (r1.use S1 e2), ?_⟩
  refine snd_seqA hs e4 S1 _ fun vs H2 g2 As S2 s2 r2 => ?_
  obtain ⟨B, r1, nB⟩ := ArgR.norm r1
  have ra : ArgsR K σ H Γ g H2 Γ2 g2 (a :: as) (v :: vs) (B :: As) := by
    refine .cons (r1.wait S1 s1 s2) nB (r2.back s1) fun p hp f b hb hq => ?_
    obtain ⟨q1, q2, q3⟩ := ArgsR.src r2 p hp b hq
    cases a with
    | pl i => rw [nB i rfl] at hb; cases hb
    | v d fr =>
      have r1 : Res K H Γ g d fr H1 Γ1 g1 v B := r1
      obtain ⟨o, ho, _⟩ := Rep.mut d r1.rep b hb
      rcases f with f | f
      · rcases q1 with q1 | q1
        · exact ((r1.new f).2 b hb).2 q1
        · rw [ho] at q1; cases q1
      · rw [q2 f] at ho; cases ho
  have rp : Reps3 K H2 (d1 :: ds) (v :: vs) (useAs g2 (a :: as) (B :: As)) := ra.use S2 (by simp [getAll, e5, e6])
  simp only [useAs] at rp
  cases rp with
  | cons rv rvs =>
    refine hp d1 ds d2 top e7 v vs H2 _ _ rv rvs Q fun w H3 C G r src new => ?_
    obtain ⟨a1, b1, c1⟩ := snd_settle S2 (s1.trans s2) ra G r (fun b hb => by simpa [useAs] using src b hb) new e8
    exact h w H3 g2 C a1 b1 c1
def rJoin (K : PySem.W.Frag) : V → List V → Hp → VK → Prop := fun x xs H Q => ∃ a p, ∃ ys : List Str, x = .str a ∧ xs = [.ref p] ∧ (SqL K H p (ys.map V.str) ∨ SqT K H p (ys.map V.str)) ∧
    (ys.map (·.length)).sum + ys.length * a.length ≤ 16777216 ∧ Q (.str (Txt.join a ys)) H
theorem joinS_eq (sep : List Nat) : ∀ ss : List (List Nat), Str.join (sV sep) (ss.map sV) = sV (joinS sep ss)
  | [] => rfl
  | [_] => rfl
  | x :: y :: r => by
    show sV x ++ sV sep ++ Str.join (sV sep) ((y :: r).map sV) = _
    rw [joinS_eq sep (y :: r), sV_app, sV_app, List.append_assoc]; rfl
theorem strOk_join {sep : List Nat} (h : strOkL sep = true) : ∀ {ss : List (List Nat)}, (∀ s ∈ ss, strOkL s = true) → strOkL (joinS sep ss) = true
  | [], _ => rfl
  | [x], hs => hs x (by simp)
  | x :: y :: r, hs => strOk_app (hs x (by simp)) (strOk_app h (strOk_join h fun s q => hs s (List.mem_cons_of_mem _ q)))
theorem snd_join : SndM K .join (rJoin K) := by
  intro x ds d top e v vs H A As r rs Q h
  change m_join x ds = _ at e
  unfold m_join at e
  split at e
  · simp only [Option.bind_eq_some_iff] at e
    obtain ⟨ss, hss, e⟩ := e
    split at e <;> cases e
    rename_i hz
    obtain ⟨w, B, rfl, rfl, r2⟩ := r3_1 rs
    simp only [Rep] at r r2
    obtain ⟨a, us, B', rfl, q, r2, rfl⟩ := r2
    obtain ⟨e1, ok, e2⟩ := r2.strs hss
    subst e1
    refine ⟨_, a, ss.map sV, r.1, rfl, .inl (SqL.of q), ?_, ?_⟩
    · show ((ss.map sV).map (·.length)).sum + (ss.map sV).length * (sV _).length ≤ 16777216
      rw [sV_len, List.length_map, List.map_map, show ((fun x : Str => x.length) ∘ sV) = List.length from funext sV_len]
      exact hz
    · show Q (.str (Txt.join (sV _) _)) H
      rw [TL.join_eq, joinS_eq]
      exact finS h (strOk_join r.2.2 ok)
  · cases e
theorem idx_spec {x : D} : ∀ {ys : List D} {qs : List PyData} {p : PyData} {j : Nat}, toPs ys = some qs → toP x = some p → idx? x ys = some j →
    ∃ z, qs[j]? = some z ∧ PyData.eqv z p = true ∧ ∀ m z', m < j → qs[m]? = some z' → PyData.eqv z' p = false
  | [], _, _, _, _, _, e => by simp [idx?] at e
  | y :: ys, qs, p, j, h, hx, e => by
    simp only [toPs, Option.bind_eq_some_iff, Option.map_eq_some_iff] at h
    obtain ⟨z, e1, zs, e2, rfl⟩ := h
    simp only [idx?] at e
    rw [deq_eqv y x z p e1 hx] at e
    by_cases c : PyData.eqv z p = true
    · rw [if_pos c] at e; cases e
      exact ⟨z, rfl, c, fun m _ hm => by omega⟩
    · rw [if_neg c] at e
      simp only [Option.map_eq_some_iff] at e
      obtain ⟨j', e3, rfl⟩ := e
      obtain ⟨z', h1, h2, h3⟩ := idx_spec e2 hx e3
      refine ⟨z', by simpa using h1, h2, fun m w hm hw => ?_⟩
      cases m with
      | zero => simp at hw; subst hw; simpa using c
      | succ m => exact h3 m w (by omega) (by simpa using hw)
theorem snd_lindex : SndM K .lindex (rIndexD K) := by
  intro x ds d top e v vs H A As r rs Q h
  change m_lindex x ds = _ at e
  unfold m_lindex at e
  split at e
  · split at e
    · rename_i xs y hz
      simp only [Option.map_eq_some_iff] at e
      obtain ⟨j, hj, e⟩ := e
      cases e
      simp only [Bool.and_eq_true] at hz
      obtain ⟨w, B, rfl, rfl, r2⟩ := r3_1 rs
      obtain ⟨p, e1, d1, l1, z1⟩ := shal_toP 59 _ w B hz.1 r2
      obtain ⟨q, e2, d2, l2, z2⟩ := shal_toP 60 (.lst xs) v A (by simpa only [shal] using hz.2) r
      simp only [toP, Option.map_eq_some_iff] at e2
      obtain ⟨qs, e2, rfl⟩ := e2
      simp only [Rep] at r
      obtain ⟨a, us, B', rfl, q, r, rfl⟩ := r
      obtain ⟨z, h1, h2, h3⟩ := idx_spec e2 e1 hj
      exact ⟨a, w, p, qs, j, z, rfl, rfl, d2, d1, shaped_of l2 z2 (by decide), shaped_of l1 z1 (by decide), h1, h2, h3, finI h⟩
    · cases e
  · cases e
end
end WT

/-! WT: lists changed in place, targets. -/
namespace WT
open PySem L2
section
variable {K : PySem.W.Frag} {X : Cx} {H H' H1 H2 H0 : Hp} {Γ Γ' Γ1 Γ2 Γ0 : Env} {g g' g1 g2 g0 : Nat → List Addr} {σ : L2.St}
def putG (g : Nat → List Addr) (i : Nat) (A : List Addr) : Nat → List Addr := fun j => if j = i then A else g j
theorem putG_same {i : Nat} {A : List Addr} : putG g i A i = A := if_pos rfl
theorem putG_ne {i j : Nat} {A : List Addr} (h : j ≠ i) : putG g i A j = g j := if_neg h
theorem set_self {i : Nat} {s t : Sl} (h : Γ[i]? = some t) : (Γ.set i s)[i]? = some s := List.getElem?_set_self (List.getElem?_eq_some_iff.mp h).1
theorem isOwn_set {i j : Nat} {s : Sl} (h : isOwn (Γ.set i s) j) (n : j ≠ i) : isOwn Γ j := by
  obtain ⟨d, e⟩ := h
  rw [List.getElem?_set_ne (Ne.symm n)] at e
  exact ⟨d, e⟩
/-- the object at the top of an owned slot is replaced -/
theorem own_upd (s : Step H0 Γ0 g0 H Γ g) (S : StRel K Γ g σ H) {i : Nat} {a : Addr} {B B' : List Addr} {d d' : D} {o' : HO} (hi : Γ[i]? = some (.own d)) (ev : σ[i]? = some (some (.ref a))) (eg : g i = a :: B)
    (r' : Rep K (upd H a o') d' (.ref a) (a :: B')) (nd : (a :: B').Nodup) (hB : ∀ b ∈ B', b ∈ B ∨ (H0 b = none ∧ ¬ reg g b)) :
    StRel K (Γ.set i (.own d')) (putG g i (a :: B')) σ (upd H a o') ∧ Step H0 Γ0 g0 (upd H a o') (Γ.set i (.own d')) (putG g i (a :: B')) := by
  have oi : isOwn Γ i := ⟨d, hi⟩
  have ai : a ∈ g i := by rw [eg]; simp
  have kp : ∀ j, j ≠ i → Keep H (upd H a o') (g j) := fun j hj b o e q => by
    have nb : b ≠ a := fun z => by
      subst z
      rcases q with q | q
      · exact S.sep i j (Ne.symm hj) oi b ai q
      · obtain ⟨o2, e2, m⟩ := S.mut ai
        rw [e] at e2; cases e2; rw [q] at m; cases m
    rw [upd_ne nb]; exact e
  have inB : ∀ b ∈ a :: B', b ∈ g i ∨ (H0 b = none ∧ ¬ reg g b) := fun b hb => by
    rw [eg]
    rcases List.mem_cons.mp hb with rfl | hb
    · exact .inl List.mem_cons_self
    · exact (hB b hb).imp (List.mem_cons_of_mem _) id
  constructor
  · refine ⟨by rw [List.length_set]; exact S.len, fun j x e => ?_, fun j x e => ?_, fun j e => ?_, fun j l hjl oj b hb => ?_⟩
    · by_cases hj : j = i
      · subst hj; rw [set_self hi] at e; cases e
      · rw [List.getElem?_set_ne (Ne.symm hj)] at e
        obtain ⟨v, e1, r⟩ := S.val j x e
        rw [putG_ne hj]
        exact ⟨v, e1, Rep.keep x r (kp j hj)⟩
    · by_cases hj : j = i
      · subst hj; rw [set_self hi] at e; cases e
        rw [putG_same]
        exact ⟨_, ev, r', nd⟩
      · rw [List.getElem?_set_ne (Ne.symm hj)] at e
        obtain ⟨v, e1, r, n⟩ := S.own j x e
        rw [putG_ne hj]
        exact ⟨v, e1, Rep.keep x r (kp j hj), n⟩
    · by_cases hj : j = i
      · subst hj; rw [set_self hi] at e; rcases e with e | e <;> cases e
      · rw [List.getElem?_set_ne (Ne.symm hj)] at e
        rw [putG_ne hj]
        exact S.un j e
    · by_cases hj : j = i
      · subst hj
        rw [putG_same] at hb
        rw [putG_ne (Ne.symm hjl)]
        rcases inB b hb with q | q
        · exact S.sep j l hjl oi b q
        · exact fun z => q.2 ⟨l, z⟩
      · rw [putG_ne hj] at hb
        by_cases hl : l = i
        · subst hl
          rw [putG_same]
          intro z
          rcases inB b z with q | q
          · exact S.sep j l hjl (isOwn_set oj hj) b hb q
          · exact q.2 ⟨j, hb⟩
        · rw [putG_ne hl]
          exact S.sep j l hjl (isOwn_set oj hj) b hb
  · refine ⟨fun b o e n => ?_, fun b e => ?_, fun j oj b hb => ?_, fun b hb => ?_⟩
    · have nb : b ≠ a := fun z => by
        subst z
        rcases s.fp ⟨i, oi, ai⟩ with q | q
        · exact n q
        · rw [e] at q; cases q
      rw [upd_ne nb]; exact s.keep b o e n
    · have nb : b ≠ a := fun z => by subst z; rw [upd_same] at e; cases e
      rw [upd_ne nb] at e
      exact s.mono b e
    · by_cases hj : j = i
      · subst hj
        rw [putG_same] at hb
        rcases inB b hb with q | q
        · exact s.own j oi b q
        · exact .inr q.1
      · rw [putG_ne hj] at hb
        exact s.own j (isOwn_set oj hj) b hb
    · obtain ⟨j, hb⟩ := hb
      by_cases hj : j = i
      · subst hj
        rw [putG_same] at hb
        rcases inB b hb with q | q
        · exact s.reg b ⟨j, q⟩
        · exact .inr q.1
      · rw [putG_ne hj] at hb
        exact s.reg b ⟨j, hb⟩

/-! ### append, pop, extend -/
theorem Reps.split : ∀ {ds es : List D} {vs : List V} {A : List Addr}, Reps K H (ds ++ es) vs A → ∃ us ws B C, vs = us ++ ws ∧ A = B ++ C ∧ Reps K H ds us B ∧ Reps K H es ws C
  | [], es, vs, A, h => ⟨[], vs, [], A, rfl, rfl, by simp [Reps], h⟩
  | d :: ds, es, vs, A, h => by
    have h : Reps K H (d :: (ds ++ es)) vs A := h
    simp only [Reps] at h
    obtain ⟨v, vr, B, C, rfl, h1, h2, rfl⟩ := h
    obtain ⟨us, ws, B2, C2, rfl, rfl, r1, r2⟩ := Reps.split h2
    refine ⟨v :: us, ws, B ++ B2, C2, rfl, by rw [List.append_assoc], ?_, r2⟩
    simp only [Reps]
    exact ⟨v, us, B, B2, rfl, h1, r1, rfl⟩
theorem reps_one {d : D} {v : V} {A : List Addr} (h : Rep K H d v A) : Reps K H [d] [v] A := by
  simp only [Reps]
  exact ⟨v, [], A, [], rfl, h, ⟨rfl, rfl⟩, by simp⟩
theorem reps_one_inv {d : D} {vs : List V} {A : List Addr} (h : Reps K H [d] vs A) : ∃ v, vs = [v] ∧ Rep K H d v A := by
  simp only [Reps] at h
  obtain ⟨v, vr, B, C, rfl, h1, ⟨rfl, rfl⟩, rfl⟩ := h
  exact ⟨v, rfl, by simpa using h1⟩
def MtOk (K : PySem.W.Frag) (m : Mt) (r : V → List V → Hp → VK → Prop) : Prop :=
  ∀ xs ds rr xs', mtPrim m xs ds = some (rr, xs') → ∀ a us B (H : Hp) vs A, H a = some (.lst us) → Reps K H xs us B → Reps K H ds vs A → (a :: (B ++ A)).Nodup → ∀ Q : VK,
    (∀ us' B' w C, Reps K H xs' us' B' → (∀ b ∈ B', b ∈ B ∨ b ∈ A) → B'.Nodup → Rep K H rr w C → (∀ c ∈ C, c ∈ B ∧ c ∉ B') → Q w (upd H a (.lst us'))) → r (.ref a) vs H Q
theorem mt_ok_append : MtOk K .append rAppend := by
  intro xs ds rr xs' e a us B H vs A ha rx rs nd Q h
  change q_append xs ds = _ at e
  unfold q_append at e
  split at e
  · split at e <;> cases e
    rename_i hz
    obtain ⟨v, rfl, r⟩ := reps_one_inv rs
    refine ⟨a, us, v, rfl, rfl, ha, by rw [← rx.length, ← line_eq]; exact hz, ?_⟩
    exact h _ (B ++ A) .non [] (rx.append (reps_one r)) (fun b hb => by simpa using hb) (List.nodup_cons.mp nd).2 (by simp [Rep]) (fun _ z => (nomatch z))
  · cases e
theorem mt_ok_extend : MtOk K .extend rExtend := by
  intro xs ds rr xs' e a us B H vs A ha rx rs nd Q h
  change q_extend xs ds = _ at e
  unfold q_extend at e
  split at e
  · split at e <;> cases e
    rename_i hz
    obtain ⟨v, rfl, r⟩ := reps_one_inv rs
    simp only [Rep] at r
    obtain ⟨b, zs, A', rfl, q, r, rfl⟩ := r
    refine ⟨a, b, us, zs, rfl, rfl, ha, q, by rw [← rx.length, ← r.length, ← line_eq]; exact hz, ?_⟩
    have nd2 : (B ++ A').Nodup := by
      have := (List.nodup_cons.mp nd).2
      rw [List.nodup_append] at this ⊢
      exact ⟨this.1, (List.nodup_cons.mp this.2.1).2, fun x hx y hy => this.2.2 x hx y (List.mem_cons_of_mem _ hy)⟩
    exact h _ (B ++ A') .non [] (rx.append r) (fun b hb => (List.mem_append.mp hb).imp id (List.mem_cons_of_mem _)) nd2 (by simp [Rep]) (fun _ z => (nomatch z))
  · cases e
theorem take_drop_at {α : Type} {xs : List α} {j : Nat} {d : α} (h : xs[j]? = some d) : xs = xs.take j ++ ([d] ++ xs.drop (j + 1)) := by
  obtain ⟨hj, rfl⟩ := List.getElem?_eq_some_iff.mp h
  rw [List.singleton_append, List.getElem_cons_drop, List.take_append_drop]
/-- one of a row is taken out -/
theorem Reps.out {xs : List D} {us : List V} {B : List Addr} {j : Nat} {d : D} (r : Reps K H xs us B) (h : xs[j]? = some d) (nd : B.Nodup) :
    ∃ w C B', us[j]? = some w ∧ Rep K H d w C ∧ Reps K H (xs.take j ++ xs.drop (j + 1)) (us.take j ++ us.drop (j + 1)) B' ∧ B'.Nodup ∧ (∀ b ∈ B', b ∈ B) ∧ ∀ c ∈ C, c ∈ B ∧ c ∉ B' := by
  rw [take_drop_at h] at r
  obtain ⟨u1, u2, B1, B2, rfl, rfl, r1, r2⟩ := r.split
  obtain ⟨u3, u4, B3, B4, rfl, rfl, r3, r4⟩ := r2.split
  obtain ⟨w, rfl, rd⟩ := reps_one_inv r3
  have hj : (xs.take j).length = j := List.length_take_of_le (Nat.le_of_lt (List.getElem?_eq_some_iff.mp h).1)
  have lj : u1.length = j := by rw [← r1.length, hj]
  have e1 : (u1 ++ ([w] ++ u4)).take j = u1 := by rw [← lj, List.take_left]
  have e2 : (u1 ++ ([w] ++ u4)).drop (j + 1) = u4 := by
    rw [← lj, List.drop_append]
    simp
  have e3 : (u1 ++ ([w] ++ u4))[j]? = some w := by
    rw [← lj, List.getElem?_append_right (Nat.le_refl _)]
    simp
  rw [e1, e2]
  rw [List.nodup_append, List.nodup_append] at nd
  obtain ⟨n1, ⟨n3, n4, n34⟩, n12⟩ := nd
  refine ⟨w, B3, B1 ++ B4, e3, rd, r1.append r4, ?_, fun b hb => ?_, fun c hc => ⟨?_, fun z => ?_⟩⟩
  · rw [List.nodup_append]
    exact ⟨n1, n4, fun x hx y hy => n12 x hx y (List.mem_append_right _ hy)⟩
  · rcases List.mem_append.mp hb with q | q
    · exact List.mem_append_left _ q
    · exact List.mem_append_right _ (List.mem_append_right _ q)
  · exact List.mem_append_right _ (List.mem_append_left _ hc)
  · rcases List.mem_append.mp z with q | q
    · exact n12 c q c (List.mem_append_left _ hc) rfl
    · exact n34 c hc c q rfl
theorem erase_td {α : Type} (xs : List α) (j : Nat) : xs.eraseIdx j = xs.take j ++ xs.drop (j + 1) := List.eraseIdx_eq_take_drop_succ ..
theorem last_td {α : Type} (xs : List α) (h : xs ≠ []) : xs.dropLast = xs.take (xs.length - 1) ++ xs.drop (xs.length - 1 + 1) := by
  have : xs.length ≠ 0 := by simpa using h
  rw [List.dropLast_eq_take, List.drop_of_length_le (by omega), List.append_nil]
theorem mt_ok_pop : MtOk K .pop rPop := by
  intro xs ds rr xs' e a us B H vs A ha rx rs nd Q h
  change q_pop xs ds = _ at e
  unfold q_pop at e
  split at e
  · simp only [Option.map_eq_some_iff] at e
    obtain ⟨d, e1, e2⟩ := e
    cases e2
    have nd2 : B.Nodup := (List.nodup_append.mp (List.nodup_cons.mp nd).2).1
    obtain ⟨w, C, B', h1, h2, h3, h4, h5, h6⟩ := rx.out e1 nd2
    have ne : xs ≠ [] := fun z => by subst z; simp at e1
    have neu : us ≠ [] := fun z => by have := rx.length; rw [z] at this; exact ne (by simpa using this)
    simp only [Reps] at rs
    obtain ⟨rfl, rfl⟩ := rs
    rw [rx.length] at h1 h3
    refine ⟨a, us, w, rfl, rfl, ha, h1, ?_⟩
    refine h _ B' w C ?_ (fun b hb => .inl (h5 b hb)) h4 h2 h6
    rw [last_td us neu, last_td xs ne, rx.length]
    exact h3
  · cases e
theorem ixN_seqIx {n : Nat} {i : Int} {j : Nat} (h : ixN n i = some j) : seqIndex? i n = some j := (ixN_seq h).1
theorem mt_ok_popAt : MtOk K .popAt rPopAt := by
  intro xs ds rr xs' e a us B H vs A ha rx rs nd Q h
  change q_popAt xs ds = _ at e
  unfold q_popAt at e
  split at e
  · split at e
    · rename_i n hn
      simp only [Option.bind_eq_some_iff, Option.map_eq_some_iff] at e
      obtain ⟨j, e0, d, e1, e2⟩ := e
      cases e2
      have nd2 : B.Nodup := (List.nodup_append.mp (List.nodup_cons.mp nd).2).1
      obtain ⟨w, C, B', h1, h2, h3, h4, h5, h6⟩ := rx.out e1 nd2
      obtain ⟨v, rfl, r⟩ := reps_one_inv rs
      simp only [Rep] at r
      refine ⟨a, us, n, j, w, rfl, by rw [r.1], ha, hn.1, hn.2, ?_, h1, ?_⟩
      · rw [← rx.length]; exact ixN_seqIx e0
      · refine h _ B' w C ?_ (fun b hb => .inl (h5 b hb)) h4 h2 h6
        rw [erase_td, erase_td]
        exact h3
    · cases e
  · cases e
theorem strs_idx : ∀ {ss : List (List Nat)} {x : List Nat}, x ∈ ss → (ss.map sV)[ss.idxOf x]? = some (sV x) ∧ ∀ m : Nat, m < ss.idxOf x → (ss.map sV)[m]? ≠ some (sV x)
  | [], x, h => by cases h
  | y :: r, x, h => by
    by_cases e : y = x
    · subst e
      simp [List.idxOf_cons]
    · have hr : x ∈ r := by
        rcases List.mem_cons.mp h with q | q
        · exact absurd q.symm e
        · exact q
      obtain ⟨h1, h2⟩ := strs_idx hr
      have hi : (y :: r).idxOf x = r.idxOf x + 1 := by
        rw [List.idxOf_cons]
        have : (y == x) = false := beq_eq_false_iff_ne.mpr e
        rw [this]; rfl
      rw [hi]
      refine ⟨by simpa using h1, fun m hm => ?_⟩
      cases m with
      | zero =>
        simp only [List.map_cons, List.getElem?_cons_zero, ne_eq, Option.some.injEq]
        exact fun z => e (sV_inj z)
      | succ m => simpa using h2 m (by omega)
theorem mt_ok_remove : MtOk K .remove rRemS := by
  intro xs ds rr xs' e a us B H vs A ha rx rs nd Q h
  change q_remove xs ds = _ at e
  unfold q_remove at e
  split at e
  · rename_i x
    simp only [Option.bind_eq_some_iff] at e
    obtain ⟨ss, e1, e2⟩ := e
    split at e2 <;> cases e2
    rename_i hx
    obtain ⟨v, rfl, r⟩ := reps_one_inv rs
    simp only [Rep] at r
    obtain ⟨f1, f2, f3⟩ := rx.strs e1
    obtain ⟨g1, g2⟩ := strs_idx hx
    have hj : ss.idxOf x < ss.length := List.idxOf_lt_length_of_mem hx
    have hd : xs[ss.idxOf x]? = some (.str ss[ss.idxOf x]) := by rw [f3, List.getElem?_map, List.getElem?_eq_getElem hj]; rfl
    have nd2 : B.Nodup := (List.nodup_append.mp (List.nodup_cons.mp nd).2).1
    obtain ⟨w, C, B', h1, h2, h3, h4, h5, h6⟩ := rx.out hd nd2
    refine ⟨a, ss.map sV, sV x, ss.idxOf x, rfl, by rw [r.1]; rfl, by rw [← f1]; exact ha, g1, g2, ?_⟩
    refine h _ B' .non [] ?_ (fun b hb => .inl (h5 b hb)) h4 (by simp [Rep]) (fun _ z => (nomatch z))
    rw [← f1, erase_td, erase_td]
    exact h3
  · cases e
theorem snd_meth {m : Mt} {i : Nat} {xs : List Dn} {ts : List TE} {r : V → List V → Hp → VK → Prop} (hs : SndDs K ts xs) (hr : MtOk K m r) : SndE K (tBM K "list" r (tVar i) (tAs ts)) (dMeth m i xs).e := by
  intro Γ d fr Γ' e σ H g S Q h
  simp only [dMeth, mkDn] at e
  split at e
  case h_2 => cases e
  rename_i ys hy
  simp only [Option.bind_eq_some_iff] at e
  obtain ⟨⟨ds, f, Γ1⟩, e1, e2⟩ := e
  simp only at e2
  split at e2
  case isFalse => cases e2
  rename_i hf
  split at e2
  case h_2 => cases e2
  rename_i zs hzs
  simp only [Option.map_eq_some_iff] at e2
  obtain ⟨⟨rr, xs'⟩, e3, e4⟩ := e2
  cases e4
  obtain ⟨v, ev, rv, _⟩ := S.own i _ hy
  simp only [Rep] at rv
  obtain ⟨a, us0, B0, rfl, q0, _, _⟩ := rv
  refine ⟨_, ev, .inl ⟨rfl, us0, SqL.of q0⟩, ?_⟩
  refine snd_seqE hs e1 S _ fun vs H1 g1 A S1 s1 r1 => ?_
  obtain ⟨v1, ev1, rv1, nd1⟩ := S1.own i _ hzs
  rw [ev] at ev1; cases ev1
  simp only [Rep] at rv1
  obtain ⟨a1, us, B, ea, q1, rx, eg⟩ := rv1
  cases ea
  rw [eg] at nd1
  have hn := r1.new hf
  have nd : (a :: (B ++ A)).Nodup := by
    have h1 : ∀ b ∈ a :: B, b ∉ A := fun b hb ha => (hn.2 b ha).2 ⟨i, by rw [eg]; exact hb⟩
    rw [List.nodup_cons] at nd1 ⊢
    refine ⟨fun z => ?_, List.nodup_append.mpr ⟨nd1.2, hn.1, fun x hx y hy z => h1 x (List.mem_cons_of_mem _ hx) (z ▸ hy)⟩⟩
    rcases List.mem_append.mp z with z | z
    · exact nd1.1 z
    · exact h1 a List.mem_cons_self z
  refine hr zs ds _ xs' e3 a us B H1 vs A q1 rx r1.rep nd Q fun us' B' w C rx' hB nB rw' hC => ?_
  have na : ∀ b ∈ B', b ≠ a := fun b hb z => by
    subst z
    rcases hB b hb with q | q
    · exact (List.nodup_cons.mp nd1).1 q
    · exact (hn.2 b q).2 ⟨i, by rw [eg]; simp⟩
  have kp : ∀ {Z : List Addr}, (∀ b ∈ Z, b ≠ a) → Keep H1 (upd H1 a (.lst us')) Z := fun {Z} hz b o e q => by
    have nb : b ≠ a := by
      rcases q with q | q
      · exact hz b q
      · intro z; subst z; rw [q1] at e; cases e; cases q
    rw [upd_ne nb]; exact e
  have r' : Rep K (upd H1 a (.lst us')) (.lst xs') (.ref a) (a :: B') := by
    simp only [Rep]
    exact ⟨a, us', B', rfl, upd_same, Reps.keep xs' rx' (kp na), rfl⟩
  obtain ⟨S2, s2⟩ := own_upd s1 S1 hzs ev eg r' (List.nodup_cons.mpr ⟨fun z => na a z rfl, nB⟩) fun b hb => (hB b hb).imp id fun z => hn.2 b z
  have nC : ∀ c ∈ C, c ≠ a := fun c hc z => by subst z; exact (List.nodup_cons.mp nd1).1 (hC c hc).1
  have inC : ∀ c ∈ C, c ∈ g1 i := fun c hc => by rw [eg]; exact List.mem_cons_of_mem _ (hC c hc).1
  refine h w _ _ C S2 s2 ⟨Rep.keep _ rw' (kp nC), fun c hc f => ?_, fun c hc => s1.reg c ⟨i, inC c hc⟩, fun f => ?_⟩
  · obtain ⟨j, oj, hj⟩ := f
    by_cases z : j = i
    · subst z
      rw [putG_same] at hj
      rcases List.mem_cons.mp hj with q | q
      · exact nC c hc q
      · exact (hC c hc).2 q
    · rw [putG_ne z] at hj
      exact S1.sep j i z (isOwn_set oj z) c hj (inC c hc)
  · have z := Rep.imm _ rw' f
    subst z
    exact ⟨List.nodup_nil, fun _ z => (nomatch z)⟩
end
end WT

/-! WT: targets. -/
namespace WT
open PySem L2
section
variable {K : PySem.W.Frag} {X : Cx} {H H' H1 H2 H0 : Hp} {Γ Γ' Γ1 Γ2 Γ0 : Env} {g g' g1 g2 g0 : Nat → List Addr} {σ σ' : L2.St}
/-- slots that a target may change -/
def Same' (tn : List Nat) (σ σ' : L2.St) : Prop := σ'.length = σ.length ∧ ∀ j, j ∉ tn → σ'[j]? = σ[j]?
/-- what waits outside is let be, but for F (it may come to be owned) and R (it may come to be reached) -/
structure Nr (F R : Addr → Prop) (H : Hp) (Γ : Env) (g : Nat → List Addr) (H' : Hp) (Γ' : Env) (g' : Nat → List Addr) : Prop where
  keep : ∀ a o, H a = some o → ¬ fpset Γ g a → H' a = some o
  fp : ∀ a, fpset Γ' g' a → fpset Γ g a ∨ F a ∨ H a = none
  mono : ∀ a, H' a = none → H a = none
  reg : ∀ a, reg g' a → reg g a ∨ R a ∨ H a = none
theorem Step.nr {F R : Addr → Prop} (s : Step H Γ g H' Γ' g') : Nr F R H Γ g H' Γ' g' :=
  ⟨s.keep, fun a f => (s.fp f).imp id .inr, s.mono, fun a f => (s.reg a f).imp id .inr⟩
theorem Nr.imp {F R F' R' : Addr → Prop} (n : Nr F R H Γ g H' Γ' g') (hF : ∀ a, F a → F' a) (hR : ∀ a, R a → R' a) : Nr F' R' H Γ g H' Γ' g' :=
  ⟨n.keep, fun a f => (n.fp a f).imp id (Or.imp (hF a) id), n.mono, fun a f => (n.reg a f).imp id (Or.imp (hR a) id)⟩
/-- nothing that was there may come to be owned -/
theorem Nr.trans {R : Addr → Prop} (n : Nr (fun _ => False) R H Γ g H1 Γ1 g1) (m : Nr (fun _ => False) R H1 Γ1 g1 H2 Γ2 g2) : Nr (fun _ => False) R H Γ g H2 Γ2 g2 where
  keep := fun a o e q => m.keep a o (n.keep a o e q) fun f => by
    rcases n.fp a f with z | z | z
    · exact q z
    · exact z
    · rw [e] at z; cases z
  fp := fun a f => by
    rcases m.fp a f with z | z | z
    · exact n.fp a z
    · exact z.elim
    · exact .inr (.inr (n.mono a z))
  mono := fun a e => n.mono a (m.mono a e)
  reg := fun a f => by
    rcases m.reg a f with z | z | z
    · exact n.reg a z
    · exact .inr (.inl z)
    · exact .inr (.inr (n.mono a z))
theorem Nr.transF {F R : Addr → Prop} (n : Nr F R H Γ g H1 Γ1 g1) (m : Nr F R H1 Γ1 g1 H2 Γ2 g2) (hF : ∀ a o, F a → H a = some o → ∃ o', H1 a = some o') (hk : ∀ a o, H1 a = some o → F a → fpset Γ1 g1 a → H2 a = some o) : Nr F R H Γ g H2 Γ2 g2 where
  keep := fun a o e q => by
    have h1 := n.keep a o e q
    by_cases f : fpset Γ1 g1 a
    · rcases n.fp a f with z | z | z
      · exact absurd z q
      · exact hk a o h1 z f
      · rw [e] at z; cases z
    · exact m.keep a o h1 f
  fp := fun a f => by
    rcases m.fp a f with z | z | z
    · exact n.fp a z
    · exact .inr (.inl z)
    · exact .inr (.inr (n.mono a z))
  mono := fun a e => n.mono a (m.mono a e)
  reg := fun a f => by
    rcases m.reg a f with z | z | z
    · exact n.reg a z
    · exact .inr (.inl z)
    · exact .inr (.inr (n.mono a z))
def SndG (K : PySem.W.Frag) (io : Nat → Bool) (tn : List Nat) (t : TG) (gn : Gn) : Prop :=
  ∀ d fr Γ Γ', gn d fr Γ = some Γ' → ∀ (σ : L2.St) (H : Hp) (g : Nat → List Addr) (H0 : Hp) (Γ0 : Env) (g0 : Nat → List Addr) (v : V) (A : List Addr), StRel K Γ g σ H → Step H0 Γ0 g0 H Γ g → Res K H0 Γ0 g0 d fr H Γ g v A → ∀ Q : L2.St → Hp → Prop,
    (∀ σ' H' g', StRel K Γ' g' σ' H' → Step H0 Γ0 g0 H' Γ' g' → Same' tn σ σ' → (∀ i, io i = true → σ'[i]? = σ[i]?) → Nr (fun a => fr = true ∧ a ∈ A) (· ∈ A) H Γ g H' Γ' g' → Q σ' H') → t v σ H Q
/-- a name -/
theorem nm_upd {io : Nat → Bool} {i : Nat} {d : D} {fr : Bool} (e : gnNm io i d fr Γ = some Γ') {v : V} {A : List Addr} (S : StRel K Γ g σ H) (s : Step H0 Γ0 g0 H Γ g) (r : Res K H0 Γ0 g0 d fr H Γ g v A) :
    Γ' = Γ.set i (mkSl d fr) ∧ StRel K Γ' (putG g i A) (σ.set i (some v)) H ∧ Step H0 Γ0 g0 H Γ' (putG g i A) ∧ Same' [i] σ (σ.set i (some v)) ∧ (∀ j, io j = true → (σ.set i (some v))[j]? = σ[j]?) ∧ Nr (fun a => fr = true ∧ a ∈ A) (· ∈ A) H Γ g H Γ' (putG g i A) := by
  unfold gnNm at e
  split at e
  · cases e
  rename_i hio
  split at e <;> cases e
  rename_i hi
  have hiσ : i < σ.length := by rw [← S.len]; exact hi
  have own' : ∀ j, isOwn (Γ.set i (mkSl d fr)) j → (j ≠ i ∧ isOwn Γ j) ∨ (j = i ∧ fr = true) := fun j oj => by
    by_cases hj : j = i
    · refine .inr ⟨hj, ?_⟩
      subst hj
      obtain ⟨x, q⟩ := oj
      rw [List.getElem?_set_self hi] at q
      unfold mkSl at q
      cases fr with
      | true => rfl
      | false => simp at q
    · exact .inl ⟨hj, isOwn_set oj hj⟩
  refine ⟨rfl, ?_, ?_, ⟨List.length_set .., fun j hj => ?_⟩, fun j hj => ?_, ⟨fun a o e _ => e, fun a f => ?_, fun _ e => e, fun a f => ?_⟩⟩
  · refine ⟨by rw [List.length_set, List.length_set]; exact S.len, fun j x q => ?_, fun j x q => ?_, fun j q => ?_, fun j l hjl oj b hb => ?_⟩
    · by_cases hj : j = i
      · subst hj
        rw [List.getElem?_set_self hi] at q
        rw [putG_same, List.getElem?_set_self hiσ]
        unfold mkSl at q
        split at q <;> cases q
        exact ⟨v, rfl, r.rep⟩
      · rw [List.getElem?_set_ne (Ne.symm hj)] at q
        rw [putG_ne hj, List.getElem?_set_ne (Ne.symm hj)]
        exact S.val j x q
    · by_cases hj : j = i
      · subst hj
        rw [List.getElem?_set_self hi] at q
        rw [putG_same, List.getElem?_set_self hiσ]
        unfold mkSl at q
        split at q <;> cases q
        rename_i hc
        rw [Bool.and_eq_true] at hc
        exact ⟨v, rfl, r.rep, (r.new hc.1).1⟩
      · rw [List.getElem?_set_ne (Ne.symm hj)] at q
        rw [putG_ne hj, List.getElem?_set_ne (Ne.symm hj)]
        exact S.own j x q
    · by_cases hj : j = i
      · subst hj
        rw [List.getElem?_set_self hi] at q
        unfold mkSl at q
        rcases q with q | q
        · cases q
        · split at q <;> cases q
      · rw [List.getElem?_set_ne (Ne.symm hj)] at q
        rw [putG_ne hj]
        exact S.un j q
    · rcases own' j oj with ⟨hj, oj'⟩ | ⟨rfl, hf⟩
      · rw [putG_ne hj] at hb
        by_cases hl : l = i
        · subst hl
          rw [putG_same]
          exact fun z => r.out b z ⟨j, oj', hb⟩
        · rw [putG_ne hl]
          exact S.sep j l hjl oj' b hb
      · rw [putG_same] at hb
        rw [putG_ne (Ne.symm hjl)]
        exact fun z => ((r.new hf).2 b hb).2 ⟨l, z⟩
  · refine ⟨fun a o e n => s.keep a o e n, s.mono, fun j oj b hb => ?_, fun b hb => ?_⟩
    · rcases own' j oj with ⟨hj, oj⟩ | ⟨rfl, hf⟩
      · rw [putG_ne hj] at hb
        exact s.own j oj b hb
      · rw [putG_same] at hb
        exact .inr ((r.new hf).2 b hb).1
    · obtain ⟨j, hb⟩ := hb
      by_cases hj : j = i
      · subst hj
        rw [putG_same] at hb
        exact r.src b hb
      · rw [putG_ne hj] at hb
        exact s.reg b ⟨j, hb⟩
  · rw [List.getElem?_set_ne]
    intro z; exact hj (by simp [z])
  · rw [List.getElem?_set_ne]
    intro z; subst z; exact hio hj
  · obtain ⟨j, oj, hb⟩ := f
    rcases own' j oj with ⟨hj, oj⟩ | ⟨rfl, hf'⟩
    · rw [putG_ne hj] at hb
      exact .inl ⟨j, oj, hb⟩
    · rw [putG_same] at hb
      exact .inr (.inl ⟨hf', hb⟩)
  · obtain ⟨j, hb⟩ := f
    by_cases hj : j = i
    · subst hj
      rw [putG_same] at hb
      exact .inr (.inl hb)
    · rw [putG_ne hj] at hb
      exact .inl ⟨j, hb⟩
theorem snd_gnm {io : Nat → Bool} {i : Nat} : SndG K io [i] (gName i) (gnNm io i) := by
  intro d fr Γ Γ' e σ H g H0 Γ0 g0 v A S s r Q h
  obtain ⟨_, a, b, c, c2, c3⟩ := nm_upd e S s r
  exact h _ _ _ a b c c2 c3
/-- the rest of a row behind a name's store -/
theorem ResL.after {io : Nat → Bool} {i : Nat} {d : D} {ds : List D} {fr : Bool} {v : V} {vs : List V} {A B : List Addr} (S : StRel K Γ g σ H) (e : gnNm io i d fr Γ = some Γ') (r : ResL K H0 Γ0 g0 (d :: ds) fr H Γ g (v :: vs) (A ++ B)) (rB : Reps K H ds vs B) :
    ResL K H0 Γ0 g0 ds fr H Γ' (putG g i A) vs B := by
  have inB : ∀ b ∈ B, b ∈ A ++ B := fun b hb => List.mem_append_right _ hb
  unfold gnNm at e
  split at e
  · cases e
  split at e <;> cases e
  rename_i hi
  refine ⟨rB, fun b hb f => ?_, fun b hb => r.src b (inB b hb), fun f => ⟨(List.nodup_append.mp (r.new f).1).2.1, fun b hb => ⟨((r.new f).2 b (inB b hb)).1, fun q => ?_⟩⟩⟩
  · obtain ⟨j, oj, hj⟩ := f
    by_cases z : j = i
    · subst z
      rw [putG_same] at hj
      obtain ⟨x, q⟩ := oj
      rw [List.getElem?_set_self hi] at q
      unfold mkSl at q
      cases fr with
      | false => simp at q
      | true => exact (List.nodup_append.mp (r.new rfl).1).2.2 b hj b hb rfl
    · rw [putG_ne z] at hj
      exact r.out b (inB b hb) ⟨j, isOwn_set oj z, hj⟩
  · obtain ⟨j, hj⟩ := q
    by_cases z : j = i
    · subst z
      rw [putG_same] at hj
      exact (List.nodup_append.mp (r.new f).1).2.2 b hj b hb rfl
    · rw [putG_ne z] at hj
      exact ((r.new f).2 b (inB b hb)).2 ⟨j, hj⟩
theorem ResL.head {d : D} {ds : List D} {fr : Bool} {v : V} {vs : List V} {A B : List Addr} (r : ResL K H0 Γ0 g0 (d :: ds) fr H Γ g (v :: vs) (A ++ B)) (rA : Rep K H d v A) : Res K H0 Γ0 g0 d fr H Γ g v A :=
  ⟨rA, fun a ha => r.out a (List.mem_append_left _ ha), fun a ha => r.src a (List.mem_append_left _ ha), fun f => ⟨(List.nodup_append.mp (r.new f).1).1, fun a ha => (r.new f).2 a (List.mem_append_left _ ha)⟩⟩
def gNames : List Nat → TGs
  | [] => gNil
  | i :: is => gCons (gName i) (gNames is)
theorem snd_gnms {io : Nat → Bool} : ∀ {is : List Nat} {ds : List D} {fr : Bool} {Γ Γ' : Env}, gnNms io is ds fr Γ = some Γ' → ∀ {σ : L2.St} {H : Hp} {g : Nat → List Addr} {vs : List V} {A : List Addr}, StRel K Γ g σ H → Step H0 Γ0 g0 H Γ g → ResL K H0 Γ0 g0 ds fr H Γ g vs A → ∀ Q : L2.St → Hp → Prop,
    (∀ σ' H' g', StRel K Γ' g' σ' H' → Step H0 Γ0 g0 H' Γ' g' → Same' is σ σ' → (∀ i, io i = true → σ'[i]? = σ[i]?) → H' = H → Nr (fun a => fr = true ∧ a ∈ A) (· ∈ A) H Γ g H' Γ' g' → Q σ' H') → gNames is vs σ H Q
  | [], [], fr, Γ, Γ', e, σ, H, g, vs, A, S, s, r, Q, h => by
    cases e
    have := r.rep
    simp only [Reps] at this
    exact ⟨this.1, h σ H g S s ⟨rfl, fun _ _ => rfl⟩ (fun _ _ => rfl) rfl Step.refl.nr⟩
  | i :: is, d :: ds, fr, Γ, Γ', e, σ, H, g, vs, A, S, s, r, Q, h => by
    simp only [gnNms, Option.bind_eq_some_iff] at e
    obtain ⟨Γ1, e1, e2⟩ := e
    have rr := r.rep
    simp only [Reps] at rr
    obtain ⟨v, vr, B, C, rfl, rA, rB, rfl⟩ := rr
    obtain ⟨_, S1, s1, sm, si, sl⟩ := nm_upd e1 S s (r.head rA)
    refine ⟨v, vr, rfl, snd_gnms e2 S1 s1 (r.after S e1 rB) Q fun σ' H' g' S2 s2 sm2 si2 eH sl2 => ?_⟩
    subst eH
    refine h σ' _ g' S2 s2 ⟨sm2.1.trans sm.1, fun j hj => ?_⟩ (fun j hj => (si2 j hj).trans (si j hj)) rfl ((sl.imp (fun a z => ⟨z.1, List.mem_append_left _ z.2⟩) (fun a z => List.mem_append_left _ z)).transF (sl2.imp (fun a z => ⟨z.1, List.mem_append_right _ z.2⟩) (fun a z => List.mem_append_right _ z)) (fun a o _ e => ⟨o, e⟩) fun a o e _ _ => e)
    · simp only [List.mem_cons, not_or] at hj
      exact (sm2.2 j hj.2).trans (sm.2 j (by simp [hj.1]))
  | [], _ :: _, _, _, _, e, _, _, _, _, _, _, _, _, _, _ => by cases e
  | _ :: _, [], _, _, _, e, _, _, _, _, _, _, _, _, _, _ => by cases e
theorem gnNms_len {io : Nat → Bool} : ∀ {is : List Nat} {ds : List D} {fr : Bool} {Γ Γ' : Env}, gnNms io is ds fr Γ = some Γ' → ds.length = is.length
  | [], [], _, _, _, _ => rfl
  | i :: is, d :: ds, fr, Γ, Γ', e => by
    simp only [gnNms, Option.bind_eq_some_iff] at e
    obtain ⟨Γ1, e1, e2⟩ := e
    simp [gnNms_len e2]
  | [], _ :: _, _, _, _, e => by cases e
  | _ :: _, [], _, _, _, e => by cases e
theorem snd_gtupN {io : Nat → Bool} {is : List Nat} {n : Nat} (hn : n = is.length) : SndG K io is (gTup K n (gNames is)) (gnTupN io is) := by
  intro d fr Γ Γ' e σ H g H0 Γ0 g0 v A S s r Q h
  unfold gnTupN at e
  split at e
  · rename_i ds
    have rr := r.rep
    simp only [Rep] at rr
    obtain ⟨a, vs, rfl, q, rr⟩ := rr
    refine ⟨a, vs, rfl, q, by rw [← rr.length, gnNms_len e, hn], ?_⟩
    exact snd_gnms e S s ⟨rr, r.out, r.src, r.new⟩ Q fun σ' H' g' a b c c2 _ n => h σ' H' g' a b c c2 n
  · cases e
/-- other targets in a row: what they store is frozen -/
inductive SndGs (K : PySem.W.Frag) (io : Nat → Bool) : List Nat → List TG → List Gn → Prop
  | nil {tn} : SndGs K io tn [] []
  | cons {tn t ts g gs} : SndG K io tn t g → SndGs K io tn ts gs → SndGs K io tn (t :: ts) (g :: gs)
def gAll : List TG → TGs
  | [] => gNil
  | t :: ts => gCons t (gAll ts)
theorem snd_gall {io : Nat → Bool} {tn : List Nat} : ∀ {ts : List TG} {gs : List Gn}, SndGs K io tn ts gs → ∀ {ds : List D} {Γ Γ' : Env}, gnAll gs ds false Γ = some Γ' → ∀ {σ : L2.St} {H : Hp} {g : Nat → List Addr} {vs : List V} {A : List Addr}, StRel K Γ g σ H → Step H0 Γ0 g0 H Γ g → ResL K H0 Γ0 g0 ds false H Γ g vs A → ∀ Q : L2.St → Hp → Prop,
    (∀ σ' H' g', StRel K Γ' g' σ' H' → Step H0 Γ0 g0 H' Γ' g' → Same' tn σ σ' → (∀ i, io i = true → σ'[i]? = σ[i]?) → Nr (fun _ => False) (· ∈ A) H Γ g H' Γ' g' → Q σ' H') → gAll ts vs σ H Q
  | _, _, .nil, ds, Γ, Γ', e, σ, H, g, vs, A, S, s, r, Q, h => by
    cases ds with
    | cons _ _ => cases e
    | nil =>
      cases e
      have := r.rep
      simp only [Reps] at this
      exact ⟨this.1, h σ H g S s ⟨rfl, fun _ _ => rfl⟩ (fun _ _ => rfl) Step.refl.nr⟩
  | _, _, .cons hg hgs, ds, Γ, Γ', e, σ, H, g, vs, A, S, s, r, Q, h => by
    cases ds with
    | nil => cases e
    | cons d ds =>
      simp only [gnAll, Option.bind_eq_some_iff] at e
      obtain ⟨Γ1, e1, e2⟩ := e
      have rr := r.rep
      simp only [Reps] at rr
      obtain ⟨v, vr, B, C, rfl, rA, rB, rfl⟩ := rr
      refine ⟨v, vr, rfl, hg d false Γ Γ1 e1 σ H g H0 Γ0 g0 v B S s (r.head rA) _ fun σ1 H1 g1 S1 s1 sm si sl => ?_⟩
      have sl : Nr (fun _ => False) (· ∈ B) H Γ g H1 Γ1 g1 := sl.imp (fun a z => nomatch z.1) fun a z => z
      have inC : ∀ b ∈ C, b ∈ B ++ C := fun b hb => List.mem_append_right _ hb
      have kp : Keep H H1 C := fun a o e q => sl.keep a o e fun f => by
        rcases q with q | q
        · exact r.out a (inC a q) f
        · obtain ⟨i, _, ha⟩ := f
          obtain ⟨o', e', m⟩ := S.mut ha
          rw [e] at e'; cases e'; rw [q] at m; cases m
      have oC : ∀ a ∈ C, ¬ fpset Γ1 g1 a := fun a ha f => by
        rcases sl.fp a f with q | q | q
        · exact r.out a (inC a ha) q
        · exact q
        · obtain ⟨o, ho, _⟩ := Reps.mut ds rB a ha
          rw [q] at ho; cases ho
      have rC : ResL K H0 Γ0 g0 ds false H1 Γ1 g1 vr C := ⟨Reps.keep ds rB kp, oC, fun a ha => r.src a (inC a ha), fun f => (nomatch f)⟩
      refine snd_gall hgs e2 S1 s1 rC Q fun σ' H' g' S2 s2 sm2 si2 sl2 => ?_
      refine h σ' H' g' S2 s2 ⟨sm2.1.trans sm.1, fun j hj => (sm2.2 j hj).trans (sm.2 j hj)⟩ (fun j hj => (si2 j hj).trans (si j hj)) ((sl.imp (fun a z => z) (fun a z => List.mem_append_left _ z)).trans (sl2.imp (fun a z => z) fun a z => List.mem_append_right _ z))
end
end WT

/-! WT: stores into lists and dicts; what is walked. -/
namespace WT
open PySem L2
section
variable {K : PySem.W.Frag} {X : Cx} {H H' H1 H2 H0 : Hp} {Γ Γ' Γ1 Γ2 Γ0 : Env} {g g' g1 g2 g0 : Nat → List Addr} {σ σ' : L2.St}
def rSetD : TSet := fun o i v H Q => ∃ a H', o = .ref a ∧ DPut H a i v H' ∧ Q H'
def rSetA : TSet := fun o i v H Q => rSetL o i v H Q ∨ rSetD o i v H Q
theorem pset_all (hu : X.A.units + 1 < cLine) : PSet X rSetA := by
  intro pins s σ H o i v ov iv u Q I r1 r2 r3 h
  rcases h with h | ⟨a, H', rfl, g, q⟩
  · exact set_list pins s σ H o i v ov iv u Q I r1 r2 r3 h
  · obtain rfl : ov = Value.ref a := r1
    exact d_setItem hu I g r2 r3 fun s' I' => ⟨H', I', q⟩
theorem set_td {α : Type} {xs : List α} {j : Nat} (x : α) (h : j < xs.length) : xs.set j x = xs.take j ++ ([x] ++ xs.drop (j + 1)) := by
  rw [List.set_eq_take_append_cons_drop, if_pos h]; rfl
theorem Reps.putAt {xs : List D} {us : List V} {B A : List Addr} {j : Nat} {d : D} {v : V} (r : Reps K H xs us B) (h : j < xs.length) (nd : B.Nodup) (rv : Rep K H d v A) (nA : A.Nodup) (dj : ∀ a ∈ A, a ∉ B) :
    ∃ B', Reps K H (xs.set j d) (us.set j v) B' ∧ B'.Nodup ∧ ∀ b ∈ B', b ∈ B ∨ b ∈ A := by
  have e : xs[j]? = some xs[j] := List.getElem?_eq_getElem h
  have hu : j < us.length := by rw [← r.length]; exact h
  rw [set_td d h, set_td v hu]
  rw [take_drop_at e] at r
  obtain ⟨u1, u2, B1, B2, eu, rfl, r1, r2⟩ := r.split
  obtain ⟨u3, u4, B3, B4, rfl, rfl, r3, r4⟩ := r2.split
  obtain ⟨w, rfl, rd⟩ := reps_one_inv r3
  have hj : (xs.take j).length = j := List.length_take_of_le (Nat.le_of_lt h)
  have lj : u1.length = j := by rw [← r1.length, hj]
  have e1 : us.take j = u1 := by rw [eu, ← lj, List.take_left]
  have e2 : us.drop (j + 1) = u4 := by
    rw [eu, ← lj, List.drop_append]
    simp
  rw [e1, e2]
  rw [List.nodup_append, List.nodup_append] at nd
  obtain ⟨n1, ⟨n3, n4, n34⟩, n12⟩ := nd
  refine ⟨B1 ++ (A ++ B4), r1.append ((reps_one rv).append r4), ?_, fun b hb => ?_⟩
  · rw [List.nodup_append, List.nodup_append]
    refine ⟨n1, ⟨nA, n4, fun x hx y hy z => ?_⟩, fun x hx y hy z => ?_⟩
    · subst z; exact dj x hx (List.mem_append_right _ (List.mem_append_right _ hy))
    · subst z
      rcases List.mem_append.mp hy with q | q
      · exact dj x q (List.mem_append_left _ hx)
      · exact n12 x hx x (List.mem_append_right _ q) rfl
  · rcases List.mem_append.mp hb with q | q
    · exact .inl (List.mem_append_left _ q)
    · rcases List.mem_append.mp q with q | q
      · exact .inr q
      · exact .inl (List.mem_append_right _ (List.mem_append_right _ q))
theorem RepKs.append : ∀ {ds es : List (D × D)} {vs ws : List (Key × V)} {A B : List Addr}, RepKs K H ds vs A → RepKs K H es ws B → RepKs K H (ds ++ es) (vs ++ ws) (A ++ B)
  | [], _, _, _, _, _, h, q => by simp only [RepKs] at h; rw [h.1, h.2]; exact q
  | (x, y) :: ds, _, _, _, _, _, h, q => by
    simp only [RepKs] at h
    obtain ⟨k, v, vr, B, C, rfl, e, h1, h2, rfl⟩ := h
    show RepKs K H ((x, y) :: (ds ++ _)) _ _
    simp only [RepKs]
    exact ⟨k, v, _, B, _, rfl, e, h1, RepKs.append h2 q, by rw [List.append_assoc]⟩
theorem RepKs.anyK {x : D} {k : Key} (hk : toKey x = some k) : ∀ {kvs : List (D × D)} {ws : List (Key × V)} {B : List Addr}, RepKs K H kvs ws B → (kvs.any fun kv => deq kv.1 x) = ws.any fun kv => decide (kv.1 = k)
  | [], _, _, h => by simp only [RepKs] at h; rw [h.1]; rfl
  | (a, b) :: r, _, _, h => by
    simp only [RepKs] at h
    obtain ⟨q, v, wr, B', C', rfl, ⟨e, _⟩, h1, h2, rfl⟩ := h
    simp only [List.any_cons]
    rw [deq_key e hk, RepKs.anyK hk h2]
theorem RepKs.mapK {x y : D} {k : Key} {v : V} (hk : toKey x = some k) (ry : Rep K H y v []) : ∀ {kvs : List (D × D)} {ws : List (Key × V)} {B : List Addr}, RepKs K H kvs ws B → B.Nodup →
    ∃ B', RepKs K H (kvs.map fun kv => if deq kv.1 x then (kv.1, y) else kv) (ws.map fun kv => if kv.1 = k then (kv.1, v) else kv) B' ∧ B'.Nodup ∧ ∀ b ∈ B', b ∈ B
  | [], _, _, h, _ => by simp only [RepKs] at h; rw [h.1]; exact ⟨[], by simp [RepKs], List.nodup_nil, fun _ z => (nomatch z)⟩
  | (a, b) :: r, _, _, h, nd => by
    simp only [RepKs] at h
    obtain ⟨q, w, wr, B1, C1, rfl, ⟨e, o⟩, h1, h2, rfl⟩ := h
    rw [List.nodup_append] at nd
    obtain ⟨B', i1, i2, i3⟩ := RepKs.mapK hk ry h2 nd.2.1
    simp only [List.map_cons]
    rw [deq_key e hk]
    by_cases z : q = k
    · rw [if_pos (by simpa using z), if_pos z]
      refine ⟨[] ++ B', ?_, by simpa using i2, fun b hb => List.mem_append_right _ (i3 b (by simpa using hb))⟩
      simp only [RepKs]
      exact ⟨q, v, _, [], B', rfl, ⟨e, o⟩, ry, i1, rfl⟩
    · rw [if_neg (by simpa using z), if_neg z]
      refine ⟨B1 ++ B', ?_, List.nodup_append.mpr ⟨nd.1, i2, fun x hx y hy => nd.2.2 x hx y (i3 y hy)⟩, fun b hb => ?_⟩
      · simp only [RepKs]
        exact ⟨q, w, _, B1, B', rfl, ⟨e, o⟩, h1, i1, rfl⟩
      · rcases List.mem_append.mp hb with q | q
        · exact List.mem_append_left _ q
        · exact List.mem_append_right _ (i3 b q)
theorem keyOk_rep {x : D} {v : V} {A : List Addr} (r : Rep K H x v A) : keyOk x = true := by
  cases x <;> first | rfl | (simp only [Rep] at r; exact r.2.2)
/-- d[k] = y in trees -/
theorem RepKs.put {x y : D} {k : Key} {v : V} {A : List Addr} (hk : toKey x = some k) (ok : keyOk x = true) (ry : Rep K H y v A) (nA : A.Nodup) {kvs : List (D × D)} {ws : List (Key × V)} {B : List Addr} (h : RepKs K H kvs ws B) (nd : B.Nodup) (dj : ∀ a ∈ A, a ∉ B)
    (hc : WT.imm y = true ∨ (kvs.any fun kv => deq kv.1 x) = false) : ∃ B', RepKs K H (kput x y kvs) (putK ws k v) B' ∧ B'.Nodup ∧ ∀ b ∈ B', b ∈ B ∨ b ∈ A := by
  unfold kput putK
  rw [RepKs.anyK hk h]
  cases q : ws.any fun kv => decide (kv.1 = k) with
  | true =>
    have hi : WT.imm y = true := hc.resolve_right (by rw [RepKs.anyK hk h, q]; simp)
    have : A = [] := Rep.imm _ ry hi
    subst this
    obtain ⟨B', i1, i2, i3⟩ := RepKs.mapK hk ry h nd
    simp only [if_true]
    exact ⟨B', i1, i2, fun b hb => .inl (i3 b hb)⟩
  | false =>
    simp only [Bool.false_eq_true, if_false]
    refine ⟨B ++ (A ++ []), h.append ?_, ?_, fun b hb => by simpa using hb⟩
    · simp only [RepKs]
      exact ⟨k, v, [], A, [], rfl, ⟨hk, ok⟩, ry, ⟨rfl, rfl⟩, rfl⟩
    · rw [List.append_nil, List.nodup_append]
      exact ⟨nd, nA, fun x hx y hy z => by subst z; exact dj x hy hx⟩
theorem keep_upd {a : Addr} {o o' : HO} {Z : List Addr} (ha : H a = some o) (m : isMut o = true) (hz : ∀ b ∈ Z, b ≠ a) : Keep H (upd H a o') Z := fun b u e q => by
  have nb : b ≠ a := by
    rcases q with q | q
    · exact hz b q
    · intro z; subst z; rw [ha] at e; cases e; rw [m] at q; cases q
  rw [upd_ne nb]; exact e
theorem snd_gsub {io : Nat → Bool} {tn : List Nat} {i : Nat} {x : Dn} {ti : TE} (hx : SndE K ti x.e) : SndG K io tn (gSub (tVar i) ti rSetA) (gnSub i x) := by
  intro d fr Γ Γ' e σ H g H0 Γ0 g0 v A S s r Q h
  simp only [gnSub] at e
  split at e
  case isFalse => cases e
  rename_i hd
  simp only [Option.bind_eq_some_iff] at e
  obtain ⟨c0, e0, ⟨k, f, Γ1⟩, e1, e2⟩ := e
  simp only at e2
  split at e2
  case h_2 => cases e2
  rename_i c hc
  simp only [Option.map_eq_some_iff] at e2
  obtain ⟨c', e3, e4⟩ := e2
  subst e4
  obtain ⟨w0, ew, _⟩ := S.rd e0
  refine ⟨w0, ew, ?_⟩
  refine hx Γ k f Γ1 e1 σ H g S _ fun kv H1 g1 Ak S1 s1 rk => ?_
  have s01 := s.trans s1
  have r1 := r.wait S s s1
  have hA : A.Nodup ∧ ∀ a ∈ A, H0 a = none ∧ ¬ reg g1 a := by
    rw [Bool.or_eq_true] at hd
    rcases hd with hd | hd
    · rw [Rep.imm _ r.rep hd]; exact ⟨List.nodup_nil, fun _ z => (nomatch z)⟩
    · exact r1.new hd
  obtain ⟨w1, ew1, rc, nd⟩ := S1.own i c hc
  rw [ew] at ew1; cases ew1
  have fin : ∀ (a : Addr) (B B' : List Addr) (o' : HO), w0 = .ref a → g1 i = a :: B → Rep K (upd H1 a o') c' (.ref a) (a :: B') → (a :: B').Nodup → (∀ b ∈ B', b ∈ B ∨ b ∈ A) → Q σ (upd H1 a o') := by
    intro a B B' o' ea eg r' n' hB
    subst ea
    obtain ⟨S2, s2⟩ := own_upd s01 S1 hc ew eg r' n' fun b hb => (hB b hb).imp id fun z => hA.2 b z
    refine h σ _ _ S2 s2 ⟨rfl, fun _ _ => rfl⟩ (fun _ _ => rfl) ⟨fun b o e n => ?_, fun b z => ?_, fun b e => ?_, fun b z => ?_⟩
    · have h1 := s1.keep b o e n
      have nb : b ≠ a := fun z => by
        subst z
        rcases s1.fp (a := b) ⟨i, ⟨c, hc⟩, by rw [eg]; simp⟩ with q | q
        · exact n q
        · rw [e] at q; cases q
      rw [upd_ne nb]; exact h1
    · have inA : b ∈ A → (fr = true ∧ b ∈ A) := fun z => by
        refine ⟨?_, z⟩
        cases hf : fr with
        | true => rfl
        | false =>
          rw [hf, Bool.or_false] at hd
          rw [Rep.imm _ r.rep hd] at z; cases z
      obtain ⟨j, oj, hj⟩ := z
      by_cases hji : j = i
      · subst hji
        rw [putG_same] at hj
        have : b ∈ g1 j ∨ b ∈ A := by
          rw [eg]
          rcases List.mem_cons.mp hj with q | q
          · rw [q]; simp
          · rcases hB b q with z | z
            · exact .inl (List.mem_cons_of_mem _ z)
            · exact .inr z
        rcases this with z | z
        · exact (s1.fp ⟨j, ⟨c, hc⟩, z⟩).imp id .inr
        · exact .inr (.inl (inA z))
      · rw [putG_ne hji] at hj
        exact (s1.fp ⟨j, isOwn_set oj hji, hj⟩).imp id .inr
    · have nb : b ≠ a := fun z => by subst z; rw [upd_same] at e; cases e
      rw [upd_ne nb] at e
      exact s1.mono b e
    · obtain ⟨j, hj⟩ := z
      by_cases hji : j = i
      · subst hji
        rw [putG_same] at hj
        have : b ∈ g1 j ∨ b ∈ A := by
          rw [eg]
          rcases List.mem_cons.mp hj with q | q
          · rw [q]; simp
          · rcases hB b q with z | z
            · exact .inl (List.mem_cons_of_mem _ z)
            · exact .inr z
        rcases this with z | z
        · exact (s1.reg b ⟨j, z⟩).imp id .inr
        · exact .inr (.inl z)
      · rw [putG_ne hji] at hj
        exact (s1.reg b ⟨j, hj⟩).imp id .inr
  have dj : ∀ a ∈ A, a ∉ g1 i := fun a ha z => (hA.2 a ha).2 ⟨i, z⟩
  unfold setPrim at e3
  split at e3
  · rename_i xs n
    simp only [Option.map_eq_some_iff] at e3
    obtain ⟨j, ej, rfl⟩ := e3
    simp only [Rep] at rc
    obtain ⟨a, us, B, rfl, q, rx, eg⟩ := rc
    rw [eg] at nd dj
    have rk' := rk.rep
    simp only [Rep] at rk'
    have hj : j < xs.length := (ixN_seq ej).2.1
    obtain ⟨B', i1, i2, i3⟩ := rx.putAt hj (List.nodup_cons.mp nd).2 r1.rep hA.1 fun a ha z => dj a ha (List.mem_cons_of_mem _ z)
    have na : ∀ b ∈ B', b ≠ a := fun b hb z => by
      subst z
      rcases i3 b hb with z | z
      · exact (List.nodup_cons.mp nd).1 z
      · exact dj b z List.mem_cons_self
    refine .inl ⟨a, us, n, j, rfl, rk'.1, q, by rw [← rx.length]; exact ej, ?_⟩
    refine fin a B B' _ rfl eg ?_ (List.nodup_cons.mpr ⟨fun z => na a z rfl, i2⟩) i3
    simp only [Rep]
    exact ⟨a, _, B', rfl, upd_same, Reps.keep _ i1 (keep_upd q rfl na), rfl⟩
  · split at e3 <;> cases e3
    rename_i hz
    simp only [Bool.and_eq_true, Bool.or_eq_true, Bool.not_eq_true', decide_eq_true_eq] at hz
    obtain ⟨⟨hz1, hz2⟩, hz3⟩ := hz
    simp only [Rep] at rc
    obtain ⟨a, us, B, rfl, q, rx, eg⟩ := rc
    rw [eg] at nd dj
    obtain ⟨kk, hk⟩ := isKey_to hz2
    obtain ⟨rfl, _⟩ := toKey_rep hk rk.rep
    obtain ⟨B', i1, i2, i3⟩ := rx.put hk (keyOk_rep rk.rep) r1.rep hA.1 (List.nodup_cons.mp nd).2 (fun a ha z => dj a ha (List.mem_cons_of_mem _ z)) hz3
    have na : ∀ b ∈ B', b ≠ a := fun b hb z => by
      subst z
      rcases i3 b hb with z | z
      · exact (List.nodup_cons.mp nd).1 z
      · exact dj b z List.mem_cons_self
    refine .inr ⟨a, _, rfl, DPut.k q (by rw [← rx.length, ← line_eq]; exact hz1), ?_⟩
    refine fin a B B' _ rfl eg ?_ (List.nodup_cons.mpr ⟨fun z => na a z rfl, i2⟩) i3
    simp only [Rep]
    exact ⟨a, _, B', rfl, upd_same, RepKs.keep _ i1 (keep_upd q rfl na), rfl⟩
  · cases e3
end
end WT

/-! WT: what is walked; comprehensions. -/
namespace WT
open PySem L2
section
variable {K : PySem.W.Frag} {X : Cx} {H H' H1 H2 H0 : Hp} {Γ Γ' Γ1 Γ2 Γ0 : Env} {g g' g1 g2 g0 : Nat → List Addr} {σ σ' : L2.St}
/-- the iterator gives the trees ds, as long as A stays as it was in Hs -/
structure WalkD (K : PySem.W.Frag) (J : L2.It) (ds : List D) (A : List Addr) (Hs : Hp) : Prop where
  go : ∀ i H, i < ds.length → Keep Hs H A → J.go i H
  stop : ∀ H, Keep Hs H A → J.stop ds.length H
  yld : ∀ i H x H', i < ds.length → Keep Hs H A → J.yld i H x H' → Grow H H' ∧ ∃ d B, ds[i]? = some d ∧ Rep K H' d x B ∧ ∀ b ∈ B, b ∈ A
def SndI (K : PySem.W.Frag) (w : TI) (it : In) : Prop :=
  ∀ Γ ds Γ', it Γ = some (ds, Γ') → ∀ (σ : L2.St) (H : Hp) (g : Nat → List Addr), StRel K Γ g σ H → ∀ R : L2.It → Hp → Prop,
    (∀ J H' g' A, StRel K Γ' g' σ H' → Step H Γ g H' Γ' g' → WalkD K J ds A H' → (∀ a ∈ A, ¬ fpset Γ' g' a) → (∀ a ∈ A, reg g a ∨ H a = none) → (∀ a ∈ A, ∃ o, H' a = some o) → R J H') → w σ H R
theorem PI.or {tg e : Expr} {w w' : TI} (h : PI X tg e w) (h' : PI X tg e w') : PI X tg e (fun σ H R => w σ H R ∨ w' σ H R) := by
  refine ⟨fun pins s σ H R I q => ?_⟩
  rcases q with q | q
  · exact h.run pins s σ H R I q
  · exact h'.run pins s σ H R I q
theorem keep_l {a : Addr} {us : List V} {B : List Addr} (k : Keep H H' (a :: B)) (h : H a = some (.lst us)) : SqL K H' a us := SqL.of (k a _ h (.inl List.mem_cons_self))
theorem walkD_list {a : Addr} {us : List V} {xs : List D} {B : List Addr} (ha : H a = some (.lst us)) (r : Reps K H xs us B) : WalkD K (Itl K a) xs (a :: B) H := by
  refine ⟨fun i H' hi k => ?_, fun H' k => ⟨us, keep_l k ha, by rw [r.length]; exact Nat.le_refl _⟩, fun i H' x H2 hi k y => ?_⟩
  · rw [r.length] at hi
    exact ⟨us, us[i], keep_l k ha, by simp [hi]⟩
  · obtain ⟨rfl, q⟩ := y
    have e : xs[i]? = some xs[i] := List.getElem?_eq_getElem hi
    obtain ⟨v, C, h1, h2, h3⟩ := r.get e
    have := q us (keep_l k ha)
    rw [h1] at this; cases this
    exact ⟨Grow.refl _, xs[i], C, e, Rep.keep _ h2 (k.mono fun b hb => List.mem_cons_of_mem _ (h3 b hb)), fun b hb => List.mem_cons_of_mem _ (h3 b hb)⟩
theorem walkD_tup {a : Addr} {us : List V} {xs : List D} {B : List Addr} (ha : SqT K H a us) (r : Reps K H xs us B) : WalkD K (Itt K a) xs B H := by
  refine ⟨fun i H' hi k => ?_, fun H' k => ⟨us, keep_t k ha, by rw [r.length]; exact Nat.le_refl _⟩, fun i H' x H2 hi k y => ?_⟩
  · rw [r.length] at hi
    exact ⟨us, us[i], keep_t k ha, by simp [hi]⟩
  · obtain ⟨rfl, q⟩ := y
    have e : xs[i]? = some xs[i] := List.getElem?_eq_getElem hi
    obtain ⟨v, C, h1, h2, h3⟩ := r.get e
    have := q us (keep_t k ha)
    rw [h1] at this; cases this
    exact ⟨Grow.refl _, xs[i], C, e, Rep.keep _ h2 (k.mono h3), h3⟩
theorem walkD_scr {a : Addr} {xs : List Int} (ha : ScrAt K H a (xs.map .int)) : WalkD K (Itl K a) (xs.map .int) [] H := by
  have ls : ∀ H', Keep H H' [] → SqL K H' a (xs.map .int) := fun H' k => (ha.keep k).sq
  refine ⟨fun i H' hi k => ?_, fun H' k => ⟨_, ls H' k, by simp⟩, fun i H' x H2 hi k y => ?_⟩
  · rw [List.length_map] at hi
    exact ⟨_, .int xs[i], ls H' k, by simp [hi]⟩
  · obtain ⟨rfl, q⟩ := y
    rw [List.length_map] at hi
    have := q _ (ls _ k)
    rw [List.getElem?_map, List.getElem?_eq_getElem hi] at this
    cases this
    exact ⟨Grow.refl _, .int xs[i], [], by simp [hi], by simp [Rep], fun _ z => (nomatch z)⟩
theorem walkD_str {s : List Nat} (ok : strOkL s = true) : WalkD K (Its (sV s)) (s.map fun c => .str [c]) [] H := by
  have sz : (sV s).cps.size = s.length := by simp [sV]
  refine ⟨fun i H' hi k => ?_, fun H' k => ?_, fun i H' x H2 hi k y => ?_⟩
  · show i < (sV s).cps.size
    rw [sz]; simpa using hi
  · show (sV s).cps.size ≤ _
    rw [sz]; simp
  · obtain ⟨rfl, c, hc, rfl⟩ := y
    have hc' : s[i]? = some c := by simpa [sV] using hc
    refine ⟨Grow.refl _, .str [c], [], by simp [hc'], ?_, fun _ z => (nomatch z)⟩
    have := strOk_sub ok (b := [c]) (by simpa using List.mem_of_getElem? hc')
    simp [Rep, this]
theorem rangeL_get : ∀ (n : Nat) (lo : Int) (i : Nat), i < n → (rangeL lo n)[i]? = some (lo + (i : Nat))
  | 0, _, _, h => by omega
  | n + 1, lo, 0, _ => by simp [rangeL]
  | n + 1, lo, i + 1, h => by
    show (rangeL (lo + 1) n)[i]? = _
    rw [rangeL_get n (lo + 1) i (by omega)]
    congr 1
    omega
theorem rangeL_length : ∀ (n : Nat) (lo : Int), (rangeL lo n).length = n
  | 0, _ => rfl
  | n + 1, lo => by simp [rangeL, rangeL_length n]
theorem walkD_range {lo : Int} {n : Nat} : WalkD K (Itr lo n) ((rangeL lo n).map .int) [] H := by
  refine ⟨fun i H' hi k => ?_, fun H' k => ?_, fun i H' x H2 hi k y => ?_⟩
  · rw [List.length_map, rangeL_length] at hi; exact hi
  · show n ≤ _
    rw [List.length_map, rangeL_length]; exact Nat.le_refl _
  · obtain ⟨rfl, rfl⟩ := y
    rw [List.length_map, rangeL_length] at hi
    exact ⟨Grow.refl _, .int (lo + i), [], by rw [List.getElem?_map, rangeL_get n lo i hi]; rfl, by simp [Rep], fun _ z => (nomatch z)⟩
/-- a value that is walked -/
def iVal (K : PySem.W.Frag) (t : TE) : TI := fun σ H R => iList K t σ H R ∨ iTup K t σ H R ∨ iStr t σ H R
theorem pi_val {tg e : Expr} {t : TE} (h : PE X e t) : PI X tg e (iVal X.K t) := PI.or (pi_list h) (PI.or (pi_tup h) (pi_str h))
theorem snd_ival {t : TE} {x : Dn} (h : SndE K t x.e) : SndI K (iVal K t) (inVal x) := by
  intro Γ ds Γ' e σ H g S R q
  simp only [inVal, Option.bind_eq_some_iff, Option.map_eq_some_iff] at e
  obtain ⟨⟨d, fr, Γ1⟩, e1, xs, e2, e3⟩ := e
  obtain ⟨rfl, rfl⟩ : xs = ds ∧ Γ1 = Γ' := by simpa using e3
  have some_of : ∀ {H' : Hp} {g' : Nat → List Addr} {v : V} {A : List Addr}, Res K H Γ g d fr H' Γ1 g' v A → ∀ a ∈ A, ∃ o, H' a = some o := fun r a ha => let ⟨o, e, _⟩ := Rep.mut d r.rep a ha; ⟨o, e⟩
  cases d <;> simp only [items] at e2 <;> cases e2
  · refine .inr (.inr (h Γ _ fr Γ1 e1 σ H g S _ fun v H' g' A S' s' r' => ?_))
    have so := some_of r'
    have rr := r'.rep
    simp only [Rep] at rr
    exact ⟨_, rr.1, q _ H' g' [] S' s' (walkD_str rr.2.2) (fun _ z => (nomatch z)) (fun _ z => (nomatch z)) (fun _ z => (nomatch z))⟩
  · refine .inr (.inl (h Γ _ fr Γ1 e1 σ H g S _ fun v H' g' A S' s' r' => ?_))
    have so := some_of r'
    have rr := r'.rep
    simp only [Rep] at rr
    obtain ⟨a, us, rfl, q1, rr⟩ := rr
    exact ⟨a, rfl, ⟨us, q1⟩, q _ H' g' A S' s' (walkD_tup q1 rr) r'.out r'.src so⟩
  · refine .inl (h Γ _ fr Γ1 e1 σ H g S _ fun v H' g' A S' s' r' => ?_)
    have so := some_of r'
    have rr := r'.rep
    simp only [Rep] at rr
    obtain ⟨a, us, B, rfl, q1, rr, rfl⟩ := rr
    exact ⟨a, rfl, ⟨us, SqL.of q1⟩, q _ H' g' _ S' s' (walkD_list q1 rr) r'.out r'.src so⟩
  · refine .inl (h Γ _ fr Γ1 e1 σ H g S _ fun v H' g' A S' s' r' => ?_)
    have rr := r'.rep
    simp only [Rep] at rr
    obtain ⟨a, o, rfl, q1, rfl⟩ := rr
    exact ⟨a, rfl, ⟨_, q1.sq⟩, q _ H' g' [] S' s' (walkD_scr q1) (fun _ z => (nomatch z)) (fun _ z => (nomatch z)) (fun _ z => (nomatch z))⟩
theorem seqE_len : ∀ {xs : List Dn} {Γ : Env} {ds : List D} {fr : Bool} {Γ' : Env}, seqE xs Γ = some (ds, fr, Γ') → ds.length = xs.length
  | [], _, _, _, _, e => by simp only [seqE, Option.some.injEq, Prod.mk.injEq] at e; rw [← e.1]; rfl
  | x :: xs, Γ, ds, fr, Γ', e => by
    simp only [seqE, Option.bind_eq_some_iff, Option.map_eq_some_iff] at e
    obtain ⟨⟨d, f1, Γ1⟩, e1, ⟨es, f2, Γ2⟩, e2, e3⟩ := e
    simp only [Prod.mk.injEq] at e3
    rw [← e3.1]
    simp [seqE_len e2]
theorem snd_irange1 {t : TE} {x : Dn} (h : SndD K t x) : SndI K (iRng1 (tAs [t])) (inRange [x]) := by
  intro Γ ds Γ' e σ H g S R q
  simp only [inRange, Option.bind_eq_some_iff, Option.map_eq_some_iff] at e
  obtain ⟨⟨es, fr, Γ1⟩, e1, xs, e2, e3⟩ := e
  obtain ⟨rfl, rfl⟩ : xs = ds ∧ Γ1 = Γ' := by simpa using e3
  have hl := seqE_len e1
  refine snd_seqE (.cons h .nil) e1 S _ fun vs H1 g1 A S1 s1 r1 => ?_
  simp only at e2
  unfold rangeD at e2
  split at e2
  · split at e2 <;> cases e2
    rename_i n hn
    have rr := r1.rep
    obtain ⟨v, rfl, rv⟩ := reps_one_inv rr
    simp only [Rep] at rv
    exact ⟨n, by rw [rv.1], by omega, by omega, q _ H1 g1 [] S1 s1 walkD_range (fun _ z => (nomatch z)) (fun _ z => (nomatch z)) (fun _ z => (nomatch z))⟩
  · simp at hl
  · simp at hl
  · cases e2
theorem snd_irange2 {t u : TE} {x y : Dn} (h : SndD K t x) (h' : SndD K u y) : SndI K (iRng2 (tAs [t, u])) (inRange [x, y]) := by
  intro Γ ds Γ' e σ H g S R q
  simp only [inRange, Option.bind_eq_some_iff, Option.map_eq_some_iff] at e
  obtain ⟨⟨es, fr, Γ1⟩, e1, xs, e2, e3⟩ := e
  obtain ⟨rfl, rfl⟩ : xs = ds ∧ Γ1 = Γ' := by simpa using e3
  have hl := seqE_len e1
  refine snd_seqE (.cons h (.cons h' .nil)) e1 S _ fun vs H1 g1 A S1 s1 r1 => ?_
  simp only at e2
  unfold rangeD at e2
  split at e2
  · simp at hl
  · split at e2 <;> cases e2
    rename_i i j hn
    simp only [Bool.and_eq_true, decide_eq_true_eq] at hn
    have rr := r1.rep
    simp only [Reps] at rr
    obtain ⟨v, vr, B, C, rfl, r2, ⟨w, wr, B2, C2, rfl, r3, ⟨rfl, _⟩, _⟩, _⟩ := rr
    simp only [Rep] at r2 r3
    exact ⟨i, j, by rw [r2.1, r3.1], ⟨by omega, by omega, by omega, by omega⟩, q _ H1 g1 [] S1 s1 walkD_range (fun _ z => (nomatch z)) (fun _ z => (nomatch z)) (fun _ z => (nomatch z))⟩
  · simp at hl
  · cases e2
theorem rangeC_get : ∀ (n : Nat) (lo c : Int) (i : Nat), i < n → (rangeC lo c n)[i]? = some (lo + (i : Nat) * c)
  | 0, _, _, _, h => by omega
  | n + 1, lo, c, 0, _ => by simp [rangeC]
  | n + 1, lo, c, i + 1, h => by
    simp only [rangeC, List.getElem?_cons_succ]
    rw [rangeC_get n (lo + c) c i (by omega)]
    have : ((i + 1 : Nat) : Int) * c = (i : Int) * c + c := by
      rw [Int.natCast_add, Int.add_mul]; simp
    rw [this]
    congr 1
    omega
theorem rangeC_length : ∀ (n : Nat) (lo c : Int), (rangeC lo c n).length = n
  | 0, _, _ => rfl
  | n + 1, lo, c => by simp [rangeC, rangeC_length n]
theorem walkD_rangeC {lo c : Int} {n : Nat} : WalkD K (Itc lo c n) ((rangeC lo c n).map .int) [] H := by
  refine ⟨fun i H' hi k => ?_, fun H' k => ?_, fun i H' x H2 hi k y => ?_⟩
  · rw [List.length_map, rangeC_length] at hi; exact hi
  · show n ≤ _
    rw [List.length_map, rangeC_length]; exact Nat.le_refl _
  · obtain ⟨rfl, rfl⟩ := y
    rw [List.length_map, rangeC_length] at hi
    exact ⟨Grow.refl _, .int (lo + i * c), [], by rw [List.getElem?_map, rangeC_get n lo c i hi]; rfl, by simp [Rep], fun _ z => (nomatch z)⟩
theorem snd_irange3 {t u w : TE} {x y z : Dn} (h : SndD K t x) (h' : SndD K u y) (h2 : SndD K w z) : SndI K (iRng3 (tAs [t, u, w])) (inRange [x, y, z]) := by
  intro Γ ds Γ' e σ H g S R q
  simp only [inRange, Option.bind_eq_some_iff, Option.map_eq_some_iff] at e
  obtain ⟨⟨es, fr, Γ1⟩, e1, xs, e2, e3⟩ := e
  obtain ⟨rfl, rfl⟩ : xs = ds ∧ Γ1 = Γ' := by simpa using e3
  have hl := seqE_len e1
  refine snd_seqE (.cons h (.cons h' (.cons h2 .nil))) e1 S _ fun vs H1 g1 A S1 s1 r1 => ?_
  simp only at e2
  unfold rangeD at e2
  split at e2
  · simp at hl
  · simp at hl
  · split at e2 <;> cases e2
    rename_i i j c hn
    simp only [Bool.and_eq_true, decide_eq_true_eq, beq_iff_eq] at hn
    obtain ⟨⟨hi, hj⟩, rfl⟩ := hn
    have rr := r1.rep
    simp only [Reps] at rr
    obtain ⟨v, vr, B, C, rfl, r2, ⟨w, wr, B2, C2, rfl, r3, ⟨w3, wr3, B3, C3, rfl, r4, ⟨rfl, _⟩, _⟩, _⟩, _⟩ := rr
    simp only [Rep] at r2 r3 r4
    exact ⟨i, j, -1, (i - j).toNat, by rw [r2.1, r3.1, r4.1], RgC.neg (by omega) (by omega) (by omega) (by omega), q _ H1 g1 [] S1 s1 walkD_rangeC (fun _ z => (nomatch z)) (fun _ z => (nomatch z)) (fun _ z => (nomatch z))⟩
  · cases e2
end
end WT

/-! WT: comprehensions. -/
namespace WT
open PySem L2
section
variable {K : PySem.W.Frag} {X : Cx} {H H' H1 H2 H0 : Hp} {Γ Γ' Γ1 Γ2 Γ0 : Env} {g g' g1 g2 g0 : Nat → List Addr} {σ σ' : L2.St}
theorem wipe_get (σ : L2.St) (i : Nat) : ∀ vs : List Nat, (wipe σ vs)[i]? = if i ∈ vs ∧ i < σ.length then some none else σ[i]?
  | [] => by simp [wipe]
  | v :: vs => by
    show ((wipe σ vs).set v none)[i]? = _
    by_cases h : v = i
    · subst h
      by_cases hl : v < σ.length
      · rw [List.getElem?_set_self (by rw [wipe_length]; exact hl), if_pos ⟨List.mem_cons_self, hl⟩]
      · rw [if_neg (fun z => hl z.2), List.getElem?_eq_none (by rw [List.length_set, wipe_length]; omega), List.getElem?_eq_none (by omega)]
    · rw [List.getElem?_set_ne h, wipe_get σ i vs]
      have : i ∈ v :: vs ↔ i ∈ vs := by
        rw [List.mem_cons]
        exact ⟨fun z => z.resolve_left (fun q => h q.symm), .inr⟩
      simp only [this]
theorem wipe_same {vs : List Nat} (h : Same' vs σ σ') : wipe σ' vs = wipe σ vs := by
  apply List.ext_getElem?
  intro i
  rw [wipe_get, wipe_get, h.1]
  by_cases hi : i ∈ vs
  · by_cases hl : i < σ.length
    · rw [if_pos ⟨hi, hl⟩, if_pos ⟨hi, hl⟩]
    · rw [if_neg (fun z => hl z.2), if_neg (fun z => hl z.2), List.getElem?_eq_none (by rw [h.1]; omega), List.getElem?_eq_none (by omega)]
  · rw [if_neg (fun z => hi z.1), if_neg (fun z => hi z.1), h.2 i hi]
theorem same_wipe (σ : L2.St) (vs : List Nat) : Same' vs σ (wipe σ vs) := ⟨wipe_length _ _, fun j hj => by rw [wipe_get, if_neg (fun z => hj z.1)]⟩
theorem Same'.symm {vs : List Nat} (h : Same' vs σ σ') : Same' vs σ' σ := ⟨h.1.symm, fun j hj => (h.2 j hj).symm⟩
theorem Same'.trans {vs : List Nat} {σ2 : L2.St} (h : Same' vs σ σ') (q : Same' vs σ' σ2) : Same' vs σ σ2 := ⟨q.1.trans h.1, fun j hj => (q.2 j hj).trans (h.2 j hj)⟩
theorem wipeE_get (Γ : Env) (i : Nat) : ∀ vs : List Nat, (wipeE vs Γ)[i]? = if i ∈ vs ∧ i < Γ.length then some .un else Γ[i]?
  | [] => by simp [wipeE]
  | v :: vs => by
    show ((wipeE vs Γ).set v .un)[i]? = _
    have wl : (wipeE vs Γ).length = Γ.length := by
      clear wipeE_get
      induction vs with
      | nil => rfl
      | cons a r ih => show ((wipeE r Γ).set a .un).length = _; rw [List.length_set, ih]
    by_cases h : v = i
    · subst h
      by_cases hl : v < Γ.length
      · rw [List.getElem?_set_self (by rw [wl]; exact hl), if_pos ⟨List.mem_cons_self, hl⟩]
      · rw [if_neg (fun z => hl z.2), List.getElem?_eq_none (by rw [List.length_set, wl]; omega), List.getElem?_eq_none (by omega)]
    · rw [List.getElem?_set_ne h, wipeE_get Γ i vs]
      have : i ∈ v :: vs ↔ i ∈ vs := by
        rw [List.mem_cons]
        exact ⟨fun z => z.resolve_left (fun q => h q.symm), .inr⟩
      simp only [this]
theorem wipeE_length (Γ : Env) : ∀ vs : List Nat, (wipeE vs Γ).length = Γ.length
  | [] => rfl
  | v :: vs => by show ((wipeE vs Γ).set v .un).length = _; rw [List.length_set, wipeE_length Γ vs]
def wipeG (vs : List Nat) (g : Nat → List Addr) : Nat → List Addr := fun j => if j ∈ vs then [] else g j
theorem wipeG_in {vs : List Nat} {j : Nat} {a : Addr} (h : a ∈ wipeG vs g j) : j ∉ vs ∧ a ∈ g j := by
  unfold wipeG at h
  split at h
  · cases h
  · exact ⟨‹_›, h⟩
theorem isOwn_wipe {vs : List Nat} {j : Nat} (h : isOwn (wipeE vs Γ) j) : isOwn Γ j := by
  obtain ⟨d, e⟩ := h
  rw [wipeE_get] at e
  split at e
  · cases e
  · exact ⟨d, e⟩
theorem StRel.wipe (S : StRel K Γ g σ H) (vs : List Nat) : StRel K (wipeE vs Γ) (wipeG vs g) (L2.wipe σ vs) H := by
  refine ⟨by rw [wipeE_length, wipe_length]; exact S.len, fun j d e => ?_, fun j d e => ?_, fun j e => ?_, fun j l hjl oj b hb z => ?_⟩
  · rw [wipeE_get] at e
    split at e
    · cases e
    · rename_i hj
      obtain ⟨v, e1, r⟩ := S.val j d e
      have hl : j < Γ.length := (List.getElem?_eq_some_iff.mp e).1
      have nj : j ∉ vs := fun z => hj ⟨z, hl⟩
      refine ⟨v, ?_, ?_⟩
      · rw [wipe_get, if_neg (fun z => nj z.1)]; exact e1
      · unfold wipeG; rw [if_neg nj]; exact r
  · rw [wipeE_get] at e
    split at e
    · cases e
    · rename_i hj
      obtain ⟨v, e1, r, n⟩ := S.own j d e
      have hl : j < Γ.length := (List.getElem?_eq_some_iff.mp e).1
      have nj : j ∉ vs := fun z => hj ⟨z, hl⟩
      refine ⟨v, ?_, ?_, ?_⟩
      · rw [wipe_get, if_neg (fun z => nj z.1)]; exact e1
      · unfold wipeG; rw [if_neg nj]; exact r
      · unfold wipeG; rw [if_neg nj]; exact n
  · unfold wipeG
    split
    · rfl
    · rename_i nj
      rw [wipeE_get, if_neg (fun z => nj z.1)] at e
      exact S.un j e
  · exact S.sep j l hjl (isOwn_wipe oj) b (wipeG_in hb).2 (wipeG_in z).2
theorem Step.wipe (vs : List Nat) : Step H Γ g H (wipeE vs Γ) (wipeG vs g) :=
  ⟨fun _ _ e _ => e, fun _ e => e, fun j oj b hb => .inl ⟨isOwn_wipe oj, (wipeG_in hb).2⟩, fun b hb => let ⟨j, z⟩ := hb; .inl ⟨j, (wipeG_in z).2⟩⟩
/-- an object on the side is changed -/
theorem keep_side {a : Addr} {o' : HO} {Z : List Addr} (hz : ∀ b ∈ Z, b ≠ a) (hm : ∀ o, H a = some o → isMut o = true) : Keep H (upd H a o') Z := fun b u e q => by
  have nb : b ≠ a := by
    rcases q with q | q
    · exact hz b q
    · intro z; subst z; rw [hm u e] at q; cases q
  rw [upd_ne nb]; exact e
theorem StRel.side {a : Addr} {o' : HO} (S : StRel K Γ g σ H) (ha : ¬ reg g a) (hm : ∀ o, H a = some o → isMut o = true) : StRel K Γ g σ (upd H a o') := by
  have kp : ∀ j, Keep H (upd H a o') (g j) := fun j => keep_side (fun b hb z => ha ⟨j, z ▸ hb⟩) hm
  exact ⟨S.len, fun j d e => let ⟨v, e1, r⟩ := S.val j d e; ⟨v, e1, Rep.keep d r (kp j)⟩, fun j d e => let ⟨v, e1, r, n⟩ := S.own j d e; ⟨v, e1, Rep.keep d r (kp j), n⟩, S.un, S.sep⟩
theorem Step.side {a : Addr} {o' : HO} (s : Step H0 Γ0 g0 H Γ g) (ha : H0 a = none) : Step H0 Γ0 g0 (upd H a o') Γ g where
  keep := fun b o e n => by
    have nb : b ≠ a := fun z => by subst z; rw [ha] at e; cases e
    rw [upd_ne nb]; exact s.keep b o e n
  mono := fun b e => by
    have nb : b ≠ a := fun z => by subst z; rw [upd_same] at e; cases e
    rw [upd_ne nb] at e; exact s.mono b e
  own := s.own
  reg := s.reg
theorem Nr.side {F R : Addr → Prop} {a : Addr} {o' : HO} (s : Nr F R H0 Γ0 g0 H Γ g) (ha : H0 a = none) : Nr F R H0 Γ0 g0 (upd H a o') Γ g where
  keep := fun b o e n => by
    have nb : b ≠ a := fun z => by subst z; rw [ha] at e; cases e
    rw [upd_ne nb]; exact s.keep b o e n
  mono := fun b e => by
    have nb : b ≠ a := fun z => by subst z; rw [upd_same] at e; cases e
    rw [upd_ne nb] at e; exact s.mono b e
  fp := s.fp
  reg := s.reg
theorem backE_get (Γ0 Γ : Env) (i : Nat) : ∀ vs : List Nat, (backE Γ0 vs Γ)[i]? = if i ∈ vs ∧ i < Γ.length then some (Γ0.getD i .un) else Γ[i]?
  | [] => by simp [backE]
  | v :: vs => by
    show ((backE Γ0 vs Γ).set v (Γ0.getD v .un))[i]? = _
    have wl : (backE Γ0 vs Γ).length = Γ.length := by
      clear backE_get
      induction vs with
      | nil => rfl
      | cons a r ih => show ((backE Γ0 r Γ).set a _).length = _; rw [List.length_set, ih]
    by_cases h : v = i
    · subst h
      by_cases hl : v < Γ.length
      · rw [List.getElem?_set_self (by rw [wl]; exact hl), if_pos ⟨List.mem_cons_self, hl⟩]
      · rw [if_neg (fun z => hl z.2), List.getElem?_eq_none (by rw [List.length_set, wl]; omega), List.getElem?_eq_none (by omega)]
    · rw [List.getElem?_set_ne h, backE_get Γ0 Γ i vs]
      have : i ∈ v :: vs ↔ i ∈ vs := by
        rw [List.mem_cons]
        exact ⟨fun z => z.resolve_left (fun q => h q.symm), .inr⟩
      simp only [this]
theorem backE_length (Γ0 Γ : Env) : ∀ vs : List Nat, (backE Γ0 vs Γ).length = Γ.length
  | [] => rfl
  | v :: vs => by show ((backE Γ0 vs Γ).set v _).length = _; rw [List.length_set, backE_length Γ0 Γ vs]
end
end WT

/-! WT: comprehensions, the whole. -/
namespace WT
open PySem L2
section
variable {K : PySem.W.Frag} {X : Cx} {H H' H1 H2 H0 Hs Ha Hb : Hp} {Γ Γ' Γ1 Γ2 Γ0 Γs Γa Γb : Env} {g g' g1 g2 g0 gs ga gb : Nat → List Addr} {σ σ' σa σb : L2.St}
theorem Nr.keeps {F R : Addr → Prop} (S : StRel K Γ g σ H) (s : Nr F R H Γ g H1 Γ1 g1) {A : List Addr} (h : ∀ a ∈ A, ¬ fpset Γ g a) : Keep H H1 A := fun a o e q => by
  refine s.keep a o e ?_
  rcases q with q | q
  · exact h a q
  · intro f
    obtain ⟨i, _, ha⟩ := f
    obtain ⟨o', e', m⟩ := S.mut ha
    rw [e] at e'; cases e'
    rw [q] at m; cases m
/-- between two turns -/
structure CInv (K : PySem.W.Frag) (vs : List Nat) (σ : L2.St) (Hs : Hp) (Γs : Env) (gs : Nat → List Addr) (A : List Addr) (H1 : Hp) (Γ1 : Env) (g1 : Nat → List Addr) (D : Addr)
    (H : Hp) (Γ : Env) (g : Nat → List Addr) (σ' : L2.St) (acc : List WT.D) (fa : Bool) (us : List V) (B : List Addr) : Prop where
  st : StRel K Γ g σ' H
  sm : Same' vs σ σ'
  stp : Step Hs Γs gs H Γ g
  nr : Nr (fun _ => False) (· ∈ A) H1 Γ1 g1 H Γ g
  obj : H D = some (.lst us)
  rep : Reps K H acc us B
  nD : ¬ reg g D
  out : ∀ b ∈ B, ¬ fpset Γ g b
  src : ∀ b ∈ B, reg gs b ∨ Hs b = none
  new : fa = true → B.Nodup ∧ ∀ b ∈ B, H1 b = none ∧ ¬ reg g b
  nDB : D ∉ B
theorem CInv.move {vs : List Nat} {A : List Addr} {D : Addr} {acc : List WT.D} {fa : Bool} {us : List V} {B : List Addr} (c : CInv K vs σ Hs Γs gs A H1 Γ1 g1 D Ha Γa ga σa acc fa us B) (tA : ∀ a ∈ A, ∃ o, H1 a = some o) (hD : H1 D = none)
    (S : StRel K Γb gb σb Hb) (sm : Same' vs σ σb) (s : Step Hs Γs gs Hb Γb gb) (n : Nr (fun _ => False) (· ∈ A) Ha Γa ga Hb Γb gb) : CInv K vs σ Hs Γs gs A H1 Γ1 g1 D Hb Γb gb σb acc fa us B where
  st := S
  sm := sm
  stp := s
  nr := c.nr.trans n
  obj := n.keep D _ c.obj fun f => c.nD (StRel.fp_reg f)
  rep := Reps.keep acc c.rep (n.keeps c.st c.out)
  nD := fun q => by
    rcases n.reg D q with z | z | z
    · exact c.nD z
    · obtain ⟨o, e⟩ := tA D z; rw [hD] at e; cases e
    · rw [c.obj] at z; cases z
  out := fun b hb f => by
    rcases n.fp b f with z | z | z
    · exact c.out b hb z
    · exact z
    · obtain ⟨o, e, _⟩ := Reps.mut acc c.rep b hb; rw [z] at e; cases e
  src := c.src
  new := fun f => ⟨(c.new f).1, fun b hb => ⟨((c.new f).2 b hb).1, fun q => by
    rcases n.reg b q with z | z | z
    · exact ((c.new f).2 b hb).2 z
    · obtain ⟨o, e⟩ := tA b z; rw [((c.new f).2 b hb).1] at e; cases e
    · obtain ⟨o, e, _⟩ := Reps.mut acc c.rep b hb; rw [z] at e; cases e⟩⟩
  nDB := c.nDB
/-- an item is appended -/
theorem CInv.app {vs : List Nat} {A : List Addr} {D : Addr} {acc : List WT.D} {fa fx : Bool} {us : List V} {B : List Addr} {x : WT.D} {y : V} {Ay : List Addr} (c : CInv K vs σ Hs Γs gs A H1 Γ1 g1 D Ha Γa ga σa acc fa us B) (tA : ∀ a ∈ A, ∃ o, H1 a = some o) (hD : H1 D = none) (hDs : Hs D = none)
    (S : StRel K Γb gb σa Hb) (s : Step Ha Γa ga Hb Γb gb) (r : Res K Ha Γa ga x fx Hb Γb gb y Ay) : Hb D = some (.lst us) ∧ CInv K vs σ Hs Γs gs A H1 Γ1 g1 D (upd Hb D (.lst (us ++ [y]))) Γb gb σa (acc ++ [x]) (fa && fx) (us ++ [y]) (B ++ Ay) := by
  have m := c.move tA hD S c.sm (c.stp.trans s) s.nr
  refine ⟨m.obj, ?_⟩
  have hm : ∀ o, Hb D = some o → isMut o = true := fun o e => by rw [m.obj] at e; cases e; rfl
  have nAy : ∀ a ∈ Ay, a ≠ D := fun a ha z => by
    subst z
    rcases r.src a ha with q | q
    · exact c.nD q
    · rw [c.obj] at q; cases q
  have nB : ∀ a ∈ B, a ≠ D := fun a ha z => c.nDB (z ▸ ha)
  refine ⟨S.side m.nD hm, c.sm, m.stp.side hDs, m.nr.side hD, upd_same, ?_, m.nD, fun b hb => ?_, fun b hb => ?_, fun f => ?_, fun z => ?_⟩
  · exact (Reps.keep acc m.rep (keep_side nB hm)).append (reps_one (Rep.keep x r.rep (keep_side nAy hm)))
  · rcases List.mem_append.mp hb with q | q
    · exact m.out b q
    · exact r.out b q
  · rcases List.mem_append.mp hb with q | q
    · exact c.src b q
    · rcases r.src b q with z | z
      · exact c.stp.reg b z
      · exact .inr (c.stp.mono b z)
  · rw [Bool.and_eq_true] at f
    have h1 := m.new f.1
    have h2 := r.new f.2
    refine ⟨List.nodup_append.mpr ⟨h1.1, h2.1, fun a ha b hb z => ?_⟩, fun b hb => ?_⟩
    · subst z
      obtain ⟨o, e, _⟩ := Reps.mut acc c.rep a ha
      rw [(h2.2 a hb).1] at e; cases e
    · rcases List.mem_append.mp hb with q | q
      · exact h1.2 b q
      · exact ⟨c.nr.mono b (h2.2 b q).1, (h2.2 b q).2⟩
  · rcases List.mem_append.mp z with q | q
    · exact c.nDB q
    · exact nAy D q rfl
theorem noOwn_ok {vs : List Nat} (h : noOwn Γ vs = true) : ∀ j ∈ vs, ¬ isOwn Γ j := by
  induction vs with
  | nil => intro j hj; cases hj
  | cons v vs ih =>
    simp only [noOwn, Bool.and_eq_true] at h
    intro j hj o
    rcases List.mem_cons.mp hj with rfl | hj
    · obtain ⟨d, e⟩ := o
      rw [e] at h
      exact absurd h.1 (by simp)
    · exact ih h.2 j hj o
def mixG (vs : List Nat) (g1 g : Nat → List Addr) : Nat → List Addr := fun j => if j ∈ vs then g1 j else g j
theorem mixG_in {vs : List Nat} {j : Nat} (h : j ∈ vs) : mixG vs g1 g j = g1 j := if_pos h
theorem mixG_out {vs : List Nat} {j : Nat} (h : j ∉ vs) : mixG vs g1 g j = g j := if_neg h
/-- the end of a comprehension -/
theorem CInv.fin {vs : List Nat} {A : List Addr} {D : Addr} {xs : List WT.D} {fr : Bool} {us : List V} {B : List Addr} (S1 : StRel K Γ1 g1 σ H1) (s1 : Step Hs Γs gs H1 Γ1 g1) (no : noOwn Γ1 vs = true) (hD : H1 D = none)
    (c : CInv K vs σ Hs Γs gs A H1 Γ1 g1 D H Γ g σ' xs fr us B) :
    ∃ g', StRel K (backE Γ1 vs Γ) g' σ H ∧ Step Hs Γs gs H (backE Γ1 vs Γ) g' ∧ Res K Hs Γs gs (.lst xs) fr H (backE Γ1 vs Γ) g' (.ref D) (D :: B) := by
  have no := noOwn_ok no
  have ll : Γ.length = Γ1.length := by rw [c.st.len, c.sm.1, S1.len]
  have back : ∀ j, j ∈ vs → j < Γ1.length → (backE Γ1 vs Γ)[j]? = Γ1[j]? := fun j hj hl => by
    rw [backE_get, if_pos ⟨hj, by rw [ll]; exact hl⟩, List.getElem?_eq_getElem hl]
    simp [List.getD, List.getElem?_eq_getElem hl]
  have off : ∀ j, j ∉ vs → (backE Γ1 vs Γ)[j]? = Γ[j]? := fun j hj => by rw [backE_get, if_neg (fun z => hj z.1)]
  have far : ∀ j, ¬ j < Γ1.length → (backE Γ1 vs Γ)[j]? = none := fun j hl => List.getElem?_eq_none (by rw [backE_length, ll]; omega)
  have own' : ∀ j, isOwn (backE Γ1 vs Γ) j → j ∉ vs ∧ isOwn Γ j := fun j ⟨d, e⟩ => by
    by_cases hj : j ∈ vs
    · by_cases hl : j < Γ1.length
      · rw [back j hj hl] at e
        exact absurd ⟨d, e⟩ (no j hj)
      · rw [far j hl] at e; cases e
    · rw [off j hj] at e
      exact ⟨hj, d, e⟩
  have fp' : ∀ a, fpset (backE Γ1 vs Γ) (mixG vs g1 g) a → fpset Γ g a := fun a ⟨j, o, ha⟩ => by
    obtain ⟨nj, o'⟩ := own' j o
    rw [mixG_out nj] at ha
    exact ⟨j, o', ha⟩
  have keep1 : ∀ j, j ∈ vs → Keep H1 H (g1 j) := fun j hj => c.nr.keeps S1 fun a ha f => by
    obtain ⟨l, ol, hl⟩ := f
    exact S1.sep l j (fun z => no j hj (z ▸ ol)) ol a hl ha
  have nDm : ¬ reg (mixG vs g1 g) D := fun ⟨j, hj⟩ => by
    by_cases z : j ∈ vs
    · rw [mixG_in z] at hj
      obtain ⟨o, e, _⟩ := S1.mut hj
      rw [hD] at e; cases e
    · rw [mixG_out z] at hj
      exact c.nD ⟨j, hj⟩
  refine ⟨mixG vs g1 g, ⟨?_, fun j d e => ?_, fun j d e => ?_, fun j e => ?_, fun j l hjl oj b hb z => ?_⟩, ⟨?_, c.stp.mono, fun j oj b hb => ?_, fun b ⟨j, hb⟩ => ?_⟩, ?_⟩
  · rw [backE_length, c.st.len, c.sm.1]
  · by_cases hj : j ∈ vs
    · by_cases hl : j < Γ1.length
      · rw [back j hj hl] at e
        obtain ⟨v, e1, r⟩ := S1.val j d e
        rw [mixG_in hj]
        exact ⟨v, e1, Rep.keep d r (keep1 j hj)⟩
      · rw [far j hl] at e; cases e
    · rw [off j hj] at e
      obtain ⟨v, e1, r⟩ := c.st.val j d e
      rw [mixG_out hj]
      exact ⟨v, by rw [← c.sm.2 j hj]; exact e1, r⟩
  · obtain ⟨hj, _⟩ := own' j ⟨d, e⟩
    rw [off j hj] at e
    obtain ⟨v, e1, r⟩ := c.st.own j d e
    rw [mixG_out hj]
    exact ⟨v, by rw [← c.sm.2 j hj]; exact e1, r⟩
  · by_cases hj : j ∈ vs
    · rw [mixG_in hj]
      by_cases hl : j < Γ1.length
      · rw [back j hj hl] at e
        exact S1.un j e
      · exact S1.un j (.inl (List.getElem?_eq_none (by omega)))
    · rw [off j hj] at e
      rw [mixG_out hj]
      exact c.st.un j e
  · obtain ⟨hj, oj'⟩ := own' j oj
    rw [mixG_out hj] at hb
    by_cases hl : l ∈ vs
    · rw [mixG_in hl] at z
      rcases c.nr.fp b ⟨j, oj', hb⟩ with q | q | q
      · obtain ⟨m, om, hm⟩ := q
        exact S1.sep m l (fun y => no l hl (y ▸ om)) om b hm z
      · exact q
      · obtain ⟨o, e, _⟩ := S1.mut z
        rw [q] at e; cases e
    · rw [mixG_out hl] at z
      exact c.st.sep j l hjl oj' b hb z
  · exact fun a o e n => c.stp.keep a o e n
  · obtain ⟨hj, oj'⟩ := own' j oj
    rw [mixG_out hj] at hb
    exact c.stp.own j oj' b hb
  · by_cases hj : j ∈ vs
    · rw [mixG_in hj] at hb
      exact s1.reg b ⟨j, hb⟩
    · rw [mixG_out hj] at hb
      exact c.stp.reg b ⟨j, hb⟩
  · refine ⟨?_, fun a ha f => ?_, fun a ha => ?_, fun f => ⟨List.nodup_cons.mpr ⟨c.nDB, (c.new f).1⟩, fun a ha => ?_⟩⟩
    · simp only [Rep]
      exact ⟨D, us, B, rfl, c.obj, c.rep, rfl⟩
    · rcases List.mem_cons.mp ha with rfl | ha
      · exact nDm (StRel.fp_reg f)
      · exact c.out a ha (fp' a f)
    · rcases List.mem_cons.mp ha with rfl | ha
      · exact .inr (s1.mono a hD)
      · exact c.src a ha
    · rcases List.mem_cons.mp ha with rfl | ha
      · exact ⟨s1.mono a hD, nDm⟩
      · have := (c.new f).2 a ha
        refine ⟨s1.mono a this.1, fun ⟨j, hj⟩ => ?_⟩
        by_cases z : j ∈ vs
        · rw [mixG_in z] at hj
          obtain ⟨o, e, _⟩ := S1.mut hj
          rw [this.1] at e; cases e
        · rw [mixG_out z] at hj
          exact this.2 ⟨j, hj⟩
theorem compL_len {vs : List Nat} {gn : Gn} {t : Env → Option (Bool × Env)} {e : Dn} {acc : List WT.D} {fa : Bool} {d : WT.D} {r : List WT.D} {Γ : Env} {res : List WT.D × Bool × Env} (h : compL vs gn t e acc fa (d :: r) Γ = some res) :
    ∃ Γa c Γb, gn d (WT.imm d) (wipeE vs Γ) = some Γa ∧ t Γa = some (c, Γb) ∧ ((c = true ∧ ∃ x fx Γc, e.e Γb = some (x, fx, Γc) ∧ acc.length < line ∧ compL vs gn t e (acc ++ [x]) (fa && fx) r Γc = some res) ∨ (c = false ∧ compL vs gn t e acc fa r Γb = some res)) := by
  simp only [compL, Option.bind_eq_some_iff] at h
  obtain ⟨Γa, h1, ⟨c, Γb⟩, h2, h3⟩ := h
  refine ⟨Γa, c, Γb, h1, h2, ?_⟩
  cases c with
  | true =>
    simp only [if_true, Option.bind_eq_some_iff] at h3
    obtain ⟨⟨x, fx, Γc⟩, h4, h5⟩ := h3
    simp only at h5
    split at h5
    · exact .inl ⟨rfl, x, fx, Γc, h4, ‹_›, h5⟩
    · cases h5
  | false => exact .inr ⟨rfl, by simpa using h3⟩
theorem immL_at : ∀ {ds : List WT.D} {i : Nat} (h : i < ds.length), immL ds = true → WT.imm ds[i] = true
  | [], i, h, _ => absurd h (by simp)
  | d :: r, 0, h, z => by simp only [immL, Bool.and_eq_true] at z; exact z.1
  | d :: r, i + 1, h, z => by
    simp only [immL, Bool.and_eq_true] at z
    exact immL_at (ds := r) (i := i) (by simpa using h) z.2
/-- a comprehension from one state, what is walked told of that state -/
theorem snd_comp_at {vs : List Nat} {io : Nat → Bool} {g : TG} {gn : Gn} {w : TI} {tt : TT} {t : Env → Option (Bool × Env)} {te : TE} {e : Dn} (hg : SndG K io vs g gn) (ht : SndT K tt t) (he : SndE K te e.e)
    {Γ Γ1 : Env} {ds xs : List WT.D} {fr0 : Bool} {Γ2 : Env} {σ : L2.St} {H : Hp} {gs : Nat → List Addr}
    (hi : ∀ R : L2.It → Hp → Prop, (∀ J H' g' A, StRel K Γ1 g' σ H' → Step H Γ gs H' Γ1 g' → WalkD K J ds A H' → (∀ a ∈ A, ¬ fpset Γ1 g' a) → ((∀ a ∈ A, reg gs a ∨ H a = none) ∨ immL ds = true) → (∀ a ∈ A, ∃ o, H' a = some o) → R J H') → w σ H R)
    (no : noOwn Γ1 vs = true) (e3 : compL vs gn t e [] true ds Γ1 = some (xs, fr0, Γ2)) (Q : VK)
    (h : ∀ v H' g' A, StRel K (backE Γ1 vs Γ2) g' σ H' → Step H Γ gs H' (backE Γ1 vs Γ2) g' → Res K H Γ gs (.lst xs) fr0 H' (backE Γ1 vs Γ2) g' v A → Q v H') : tLc w g tt te vs σ H Q := by
  refine hi _ fun J H1 g1 A S1 s1 wk nA sA tA => ?_
  intro D nD
  have hDs : H D = none := s1.mono D nD
  have keepA : ∀ {H' : Hp} {Γ' : Env} {g' : Nat → List Addr}, Nr (fun _ => False) (· ∈ A) H1 Γ1 g1 H' Γ' g' → Keep H1 H' A := fun n => n.keeps S1 nA
  refine ⟨fun i m H' => m = ds.length - i ∧ i ≤ ds.length ∧ ∃ Γi gi σi acc fa us B, compL vs gn t e acc fa (ds.drop i) Γi = some (xs, fr0, Γ2) ∧ CInv K vs σ H Γ gs A H1 Γ1 g1 D H' Γi gi σi acc fa us B, ⟨ds.length, by simp, Nat.zero_le _, ?_⟩, ?_⟩
  · have G : Grow H1 (upd H1 D (.lst [])) := Grow.new nD
    have nr1 : ¬ reg g1 D := fun q => by obtain ⟨o, e⟩ := S1.reg_some q; rw [nD] at e; cases e
    exact ⟨Γ1, g1, σ, [], true, [], [], e3, ⟨S1.grow G, ⟨rfl, fun _ _ => rfl⟩, s1.trans (G.step _ _), (G.step _ _).nr, upd_same, by simp [Reps], nr1, fun _ z => (nomatch z), fun _ z => (nomatch z), fun _ => ⟨List.nodup_nil, fun _ z => (nomatch z)⟩, by simp⟩⟩
  · rintro i m H' ⟨rfl, hi, Γi, gi, σi, acc, fa, us, B, ec, c⟩
    by_cases hlt : i < ds.length
    · refine .inr ⟨wk.go i H' hlt (keepA c.nr), fun H'' => ∃ Γi gi σi acc fa us B, compL vs gn t e acc fa (ds.drop (i + 1)) Γi = some (xs, fr0, Γ2) ∧ CInv K vs σ H Γ gs A H1 Γ1 g1 D H'' Γi gi σi acc fa us B, fun H'' p => ⟨ds.length - (i + 1), by omega, rfl, hlt, p⟩, fun x H2 y => ?_⟩
      rw [List.drop_eq_getElem_cons hlt] at ec
      obtain ⟨Γa, cb, Γb, ea, et, ex⟩ := compL_len ec
      obtain ⟨G, d0, Bd, ed, rd, sB⟩ := wk.yld i H' x H2 hlt (keepA c.nr) y
      rw [List.getElem?_eq_getElem hlt] at ed
      obtain rfl := Option.some.inj ed
      have hw : wipe σ vs = wipe σi vs := (wipe_same c.sm).symm
      have Sw : StRel K (wipeE vs Γi) (wipeG vs gi) (wipe σ vs) H2 := by rw [hw]; exact (c.st.wipe vs).grow G
      have n1 : Nr (fun _ => False) (· ∈ A) H' Γi gi H2 (wipeE vs Γi) (wipeG vs gi) := (Step.wipe vs).nr.trans (G.step _ _).nr
      have stw : Step H Γ gs H2 (wipeE vs Γi) (wipeG vs gi) := (c.stp.trans (Step.wipe vs)).trans (G.step _ _)
      have rx : Res K H Γ gs ds[i] (WT.imm ds[i]) H2 (wipeE vs Γi) (wipeG vs gi) x Bd := by
        refine ⟨rd, fun a ha f => ?_, fun a ha => sA.elim (fun z => z a (sB a ha)) (fun z => by rw [Rep.imm _ rd (immL_at hlt z)] at ha; cases ha), fun f => ?_⟩
        · rcases (c.nr.trans n1).fp a f with z | z | z
          · exact nA a (sB a ha) z
          · exact z
          · obtain ⟨o, e⟩ := tA a (sB a ha); rw [z] at e; cases e
        · have z := Rep.imm _ rd f
          subst z
          exact ⟨List.nodup_nil, fun _ z => (nomatch z)⟩
      refine hg ds[i] (WT.imm ds[i]) (wipeE vs Γi) Γa ea (wipe σ vs) H2 (wipeG vs gi) H Γ gs x Bd Sw stw rx _ fun σ2 H3 g3 S3 s3 sm3 _ n3 => ?_
      have sm2 : Same' vs σ σ2 := (same_wipe σ vs).trans sm3
      refine ⟨wipe_same sm2, ?_⟩
      have n3' : Nr (fun _ => False) (· ∈ A) H2 (wipeE vs Γi) (wipeG vs gi) H3 Γa g3 := n3.imp (fun a z => by
        have z2 := Rep.imm _ rd z.1
        rw [z2] at z; cases z.2) fun a z => sB a z
      refine ht Γa cb Γb et σ2 H3 g3 S3 _ fun H4 g4 S4 s4 => ?_
      have c4 := c.move tA nD S4 sm2 (s3.trans s4) ((n1.trans n3').trans s4.nr)
      rcases ex with ⟨rfl, x0, fx, Γc, ee, hl, er⟩ | ⟨rfl, er⟩
      · rw [if_pos rfl]
        refine he Γb x0 fx Γc ee σ2 H4 g4 S4 _ fun y H5 g5 Ay S5 s5 ry => ?_
        obtain ⟨h1, c5⟩ := c4.app tA nD hDs S5 s5 ry
        exact ⟨us, h1, by rw [← c.rep.length, ← line_eq]; exact hl, Γc, g5, σ2, acc ++ [x0], fa && fx, us ++ [y], B ++ Ay, er, c5⟩
      · rw [if_neg (by simp)]
        exact ⟨Γb, g4, σ2, acc, fa, us, B, er, c4⟩
    · have ei : i = ds.length := by omega
      subst ei
      rw [List.drop_length] at ec
      simp only [compL, Option.some.injEq, Prod.mk.injEq] at ec
      obtain ⟨rfl, rfl, rfl⟩ := ec
      obtain ⟨g', a, b, r⟩ := c.fin S1 s1 no nD
      exact .inl ⟨wk.stop H' (keepA c.nr), h _ H' g' _ a b r⟩
theorem snd_comp {vs : List Nat} {io : Nat → Bool} {g : TG} {gn : Gn} {w : TI} {it : In} {tt : TT} {t : Env → Option (Bool × Env)} {te : TE} {e : Dn} (hi : SndI K w it) (hg : SndG K io vs g gn) (ht : SndT K tt t) (he : SndE K te e.e) :
    SndE K (tLc w g tt te vs) (dComp vs gn it t e).e := by
  intro Γ d fr Γ' ev σ H gs S Q h
  simp only [dComp, mkDn, Option.bind_eq_some_iff] at ev
  obtain ⟨⟨ds, Γ1⟩, e1, e2⟩ := ev
  simp only at e2
  split at e2
  case isFalse => cases e2
  rename_i no
  simp only [Option.map_eq_some_iff] at e2
  obtain ⟨⟨xs, fr0, Γ2⟩, e3, e4⟩ := e2
  simp only [Prod.mk.injEq] at e4
  obtain ⟨rfl, rfl, rfl⟩ := e4
  exact snd_comp_at hg ht he (fun R q => hi Γ ds Γ1 e1 σ H gs S R fun J H' g' A S' s' wk nA sA tA => q J H' g' A S' s' wk nA (.inl sA) tA) no e3 Q h
end
end WT

/-! WT: zip and enumerate over lists, tuples and texts. -/
namespace WT
open PySem L2
open PySem.Sem (wp)

/-- what an iterator is made of -/
inductive Src where
  | l (a : Addr) | t (a : Addr) | s (x : Str)
def Src.v : Src → V
  | .l a => .ref a | .t a => .ref a | .s x => .str x
def Src.has (K : PySem.W.Frag) (H : Hp) : Src → List V → Prop
  | .l a, xs => SqL K H a xs
  | .t a, xs => SqT K H a xs
  | .s x, xs => xs = x.cps.toList.map fun c => V.str ⟨#[c]⟩
def Src.st : Src → Addr → Nat → Heap → Prop
  | .l a, it, i, h => h.IsListIter it a i
  | .t a, it, i, h => h.IsTupleIter it a i
  | .s x, it, i, h => ∃ t, h.IsStrIter it (strIterType x) x t i
def Src.apart : Src → Addr → Prop
  | .l a, c => a ≠ c | .t a, c => a ≠ c | .s _, _ => True
def Src.it : Src → Value → Obj
  | .l _, u => { cls := .type "list_iterator", data := .fields #[u, .int 0 0] }
  | .t _, u => { cls := .type "tuple_iterator", data := .fields #[u, .int 0 0] }
  | .s x, u => { cls := .type (strIterType x), data := .fields #[u, .int 0 0] }
def Src.live : Src → Heap → Prop
  | .l a, h => ∃ xs, h.IsList a xs
  | .t a, h => ∃ xs, h.IsTuple a xs
  | .s _, _ => True

section
variable {prog : Program} {w : World} {A : Around} {E : Value → Shared → Prop} {s : Shared}
theorem draws_tuple (hh : A.handled = none) (it l : Addr) (hne : l ≠ it) (items : Array Value) :
    Draws prog w A it [it, l] items.size (fun i v => items[i]? = some v) (fun i h => h.IsTupleIter it l i ∧ h.IsTuple l items) where
  live := fun _ _ st => let ⟨o, ho, _⟩ := st.1; ⟨o, ho⟩
  frame := fun _ _ _ st hk => ⟨st.1.at fun o e => hk it (by simp) o e, st.2.at fun o e => hk l (by simp) o e⟩
  item := fun i s Q E hi st hQ => by
    refine RZ.nextOf_tuple_item st.1 st.2 (x := items[i]) (by simp [hi]) fun h' hit' hs' => ?_
    exact hQ _ h' s.toks (by simp [hi]) ⟨hit', st.2.extBut hs'.extBut hne⟩ hs'
  done := fun s Q E st hE => RZ.nextOf_tuple_end hh st.1 st.2 (by simp) hE

theorem src_pyIter {S : Src} {u : Value} (hu : RelV S.v u) (hl : S.live s.heap) {Q : Value → Shared → Prop} (hQ : Q (.ref s.heap.objs.size) { s with heap := s.heap.push (S.it u) }) : wpAny (model prog w) A (pyIter u) Q E s := by
  cases S with
  | l a => cases hu; obtain ⟨xs, h⟩ := hl; exact wpAny_pyIter_list h hQ
  | t a => cases hu; obtain ⟨xs, h⟩ := hl; exact wpAny_pyIter_tuple h hQ
  | s x => obtain ⟨t, rfl⟩ := hu; exact wpAny_pyIter_strU hQ
theorem src_st0 {S : Src} {u : Value} (hu : RelV S.v u) (h : Heap) : S.st h.objs.size 0 (h.push (S.it u)) := by
  cases S with
  | l a => cases hu; exact ⟨_, Heap.get?_push_size _ rfl, rfl, rfl⟩
  | t a => cases hu; exact ⟨_, Heap.get?_push_size _ rfl, rfl, rfl⟩
  | s x => obtain ⟨t, rfl⟩ := hu; exact ⟨t, _, Heap.get?_push_size _ rfl, rfl, rfl⟩
theorem src_st_at {S : Src} {it : Addr} {i : Nat} {h h' : Heap} (x : S.st it i h) (e : ∀ o, h.get? it = some o → h'.get? it = some o) : S.st it i h' := by
  cases S with
  | l a => obtain ⟨o, ho, r⟩ := x; exact ⟨o, e _ ho, r⟩
  | t a => obtain ⟨o, ho, r⟩ := x; exact ⟨o, e _ ho, r⟩
  | s x' => obtain ⟨t, o, ho, r⟩ := x; exact ⟨t, o, e _ ho, r⟩
theorem src_st_get {S : Src} {it : Addr} {i : Nat} {h : Heap} (x : S.st it i h) : ∃ o, h.get? it = some o ∧ ∀ v, o.data ≠ .cell v := by
  cases S with
  | l a => obtain ⟨o, ho, _, d⟩ := x; exact ⟨o, ho, fun v q => by rw [d] at q; cases q⟩
  | t a => obtain ⟨o, ho, _, d⟩ := x; exact ⟨o, ho, fun v q => by rw [d] at q; cases q⟩
  | s x' => obtain ⟨t, o, ho, _, d⟩ := x; exact ⟨o, ho, fun v q => by rw [d] at q; cases q⟩
theorem src_live_push {S : Src} {h : Heap} (x : S.live h) (o : Obj) : S.live (h.push o) := by
  cases S with
  | l a => obtain ⟨xs, x⟩ := x; exact ⟨xs, x.push o⟩
  | t a => obtain ⟨xs, x⟩ := x; exact ⟨xs, x.push o⟩
  | s x' => trivial
theorem ofL {l : Addr} {h : Heap} {xs : Array Value} (x : h.IsList l xs) : l < h.objs.size := let ⟨_, e, _⟩ := x; Heap.lt_size e
theorem ofT {l : Addr} {h : Heap} {xs : Array Value} (x : h.IsTuple l xs) : l < h.objs.size := let ⟨_, e, _⟩ := x; Heap.lt_size e
theorem src_apart {S : Src} {h : Heap} (x : S.live h) {c : Addr} (hc : h.objs.size ≤ c) : S.apart c := by
  cases S with
  | l a => obtain ⟨xs, x⟩ := x; exact Nat.ne_of_lt (Nat.lt_of_lt_of_le (ofL x) hc)
  | t a => obtain ⟨xs, x⟩ := x; exact Nat.ne_of_lt (Nat.lt_of_lt_of_le (ofT x) hc)
  | s x' => trivial

/-! ### zip.__next__ -/
structure ZA (z TI TO i1 i2 : Addr) : Prop where
  TIz : TI ≠ z
  TOz : TO ≠ z
  i1z : i1 ≠ z
  i2z : i2 ≠ z
  TITO : TI ≠ TO
  TIi1 : TI ≠ i1
  TIi2 : TI ≠ i2
  TOi1 : TO ≠ i1
  TOi2 : TO ≠ i2
  i12 : i1 ≠ i2
structure ZF (z TO i1 i2 : Addr) (f1 f2 : List Addr) : Prop where
  z1 : z ∉ f1
  z2 : z ∉ f2
  TO1 : TO ∉ f1
  TO2 : TO ∉ f2
  i12 : i1 ∉ f2
  i21 : i2 ∉ f1
theorem ne_of_mem {b c : Addr} {f : List Addr} (h : b ∈ f) (n : c ∉ f) : b ≠ c := fun q => n (q ▸ h)
variable {z TI TO i1 i2 : Addr} {f1 f2 : List Addr} {n1 n2 k : Nat} {P1 P2 : Nat → Value → Prop} {St1 St2 : Nat → Heap → Prop} {a b : Value}
theorem zip_next_itemD {Q : Value → Shared → Prop} (D : ZA z TI TO i1 i2) (F : ZF z TO i1 i2 f1 f2) (D1 : Draws prog w A i1 f1 n1 P1 St1) (D2 : Draws prog w A i2 f2 n2 P2 St2)
    (hz : IsZip s.heap z TI TO .none) (hTI : IsPair s.heap TI (.ref i1) (.ref i2)) (hTO : IsPair s.heap TO a b)
    (h1 : St1 k s.heap) (h2 : St2 k s.heap) (l1 : k < n1) (l2 : k < n2)
    (hQ : ∀ x y h' tk, P1 k x → P2 k y → IsZip h' z TI TO (rawInt s.heap.objs.size) → IsPair h' TO x y → St1 (k + 1) h' → St2 (k + 1) h' → IsPair h' s.heap.objs.size x y → h'.objs.size = s.heap.objs.size + 1 →
      (∀ c o, c ≠ z → c ≠ TO → c ≠ i1 → c ≠ i2 → s.heap.get? c = some o → h'.get? c = some o) → Q (.ref s.heap.objs.size) { s with heap := h', toks := tk }) :
    wpAny (model prog w) A (Builtin.«zip.__next__» ⟨[.ref z], []⟩) (fun fin s' => ∃ v, fin = .done (.ret v) ∧ Q v s') E s := by
  obtain ⟨hp, gg, dd, tk₀, os⟩ := s
  show wpAny _ _ (field (.ref z) 2 >>= _) _ _ _
  refine wpAny_bind (wpAny_field hz rfl (x := .bool false) rfl ?_)
  show wpAny _ _ (field (.ref z) 3 >>= _) _ _ _
  refine wpAny_bind (wpAny_field hz rfl (x := .ref TI) rfl ?_)
  refine wpAny_bind (wpAny_seqItems hTI rfl ?_)
  show wpAny _ _ (Builtin.SmallTypes.ownedTupleIsFree (.ref z) >>= _) _ _ _
  refine wpAny_bind ?_
  unfold Builtin.SmallTypes.ownedTupleIsFree
  refine wpAny_bind (wpAny_field hz rfl (x := .none) rfl (wpAny_pure ?_))
  simp only [if_true]
  refine wpAny_bind (wpAny_rule ?_)
  refine wpAny_bind (wpAny_field hz rfl (x := .ref TO) rfl ?_)
  refine wpAny_bind (wpAny_setField_rec hz (by simp) fun h₁ hz₁ hs₁ => ?_)
  replace hs₁ : Heap.SameBut z hp h₁ := hs₁
  replace hz₁ : IsZip h₁ z TI TO .ellipsis := hz₁
  have h1₁ : St1 k h₁ := D1.frame _ _ _ h1 fun b hb o e => hs₁.extBut _ _ (ne_of_mem hb F.z1) e
  have h2₁ : St2 k h₁ := D2.frame _ _ _ h2 fun b hb o e => hs₁.extBut _ _ (ne_of_mem hb F.z2) e
  refine wpAny_bind ?_
  simp only [List.zipIdx_cons, List.zipIdx_nil, List.forIn_cons, List.forIn_nil]
  refine wpAny_bind (wpAny_bind (wpAny_onRaise ?_))
  show wpAny _ _ (Builtin.SmallTypes.nextOf (.ref i1) >>= _) _ _ _
  refine wpAny_bind (D1.item k _ _ _ l1 h1₁ fun x h₂ tk₂ hPx h1₂ hs₂ => wpAny_pure ?_)
  replace hs₂ : Heap.SameBut i1 h₁ h₂ := hs₂
  have hTO₁ : IsPair h₁ TO a b := hs₁.extBut _ _ D.TOz hTO
  have hTO₂ : IsPair h₂ TO a b := hs₂.extBut _ _ D.TOi1 hTO₁
  have h2₂ : St2 k h₂ := D2.frame _ _ _ h2₁ fun b hb o e => hs₂.extBut _ _ (ne_of_mem hb F.i12) e
  refine wpAny_bind (wpAny_seqItems (show IsPair (Shared.heap ⟨h₂, gg, dd, tk₂, os⟩) TO a b from hTO₂) rfl ?_)
  refine wpAny_bind (wpAny_updateSeq_pair (show IsPair (Shared.heap ⟨h₂, gg, dd, tk₂, os⟩) TO a b from hTO₂) fun h₃ hTO₃ hs₃ => ?_)
  replace hs₃ : Heap.SameBut TO h₂ h₃ := hs₃
  replace hTO₃ : IsPair h₃ TO x b := hTO₃
  have h1₃ : St1 (k + 1) h₃ := D1.frame _ _ _ h1₂ fun b hb o e => hs₃.extBut _ _ (ne_of_mem hb F.TO1) e
  have h2₃ : St2 k h₃ := D2.frame _ _ _ h2₂ fun b hb o e => hs₃.extBut _ _ (ne_of_mem hb F.TO2) e
  refine wpAny_bind (wpAny_letGo (wpAny_pure ?_))
  refine wpAny_bind (wpAny_bind (wpAny_onRaise ?_))
  show wpAny _ _ (Builtin.SmallTypes.nextOf (.ref i2) >>= _) _ _ _
  refine wpAny_bind (D2.item k _ _ _ l2 h2₃ fun y h₄ tk₄ hPy h2₄ hs₄ => wpAny_pure ?_)
  replace hs₄ : Heap.SameBut i2 h₃ h₄ := hs₄
  have hTO₄ : IsPair h₄ TO x b := hs₄.extBut _ _ D.TOi2 hTO₃
  have h1₄ : St1 (k + 1) h₄ := D1.frame _ _ _ h1₃ fun b hb o e => hs₄.extBut _ _ (ne_of_mem hb F.i21) e
  refine wpAny_bind (wpAny_seqItems (show IsPair (Shared.heap ⟨h₄, gg, dd, tk₄, os⟩) TO x b from hTO₄) rfl ?_)
  refine wpAny_bind (wpAny_updateSeq_pair (show IsPair (Shared.heap ⟨h₄, gg, dd, tk₄, os⟩) TO x b from hTO₄) fun h₅ hTO₅ hs₅ => ?_)
  replace hs₅ : Heap.SameBut TO h₄ h₅ := hs₅
  replace hTO₅ : IsPair h₅ TO x y := hTO₅
  refine wpAny_bind (wpAny_letGo (wpAny_pure (wpAny_pure ?_)))
  refine wpAny_bind (wpAny_seqItems (show IsPair (Shared.heap ⟨h₅, gg, dd, tk₄, os⟩) TO x y from hTO₅) rfl ?_)
  refine wpAny_bind (wpAny_newTuple ?_)
  have hsz : h₅.objs.size = hp.objs.size := by rw [hs₅.1, hs₄.1, hs₃.1, hs₂.1, hs₁.1]
  have hz₅ : IsZip h₅ z TI TO .ellipsis := hs₅.extBut _ _ D.TOz.symm (hs₄.extBut _ _ D.i2z.symm (hs₃.extBut _ _ D.TOz.symm (hs₂.extBut _ _ D.i1z.symm hz₁)))
  have hk₅ : ∀ c o, c ≠ z → c ≠ TO → c ≠ i1 → c ≠ i2 → hp.get? c = some o → h₅.get? c = some o := fun c o c1 c2 c3 c4 e =>
    hs₅.extBut _ _ c2 (hs₄.extBut _ _ c4 (hs₃.extBut _ _ c2 (hs₂.extBut _ _ c3 (hs₁.extBut _ _ c1 e))))
  have h1₅ : St1 (k + 1) h₅ := D1.frame _ _ _ h1₄ fun b hb o e => hs₅.extBut _ _ (ne_of_mem hb F.TO1) e
  have h2₅ : St2 (k + 1) h₅ := D2.frame _ _ _ h2₄ fun b hb o e => hs₅.extBut _ _ (ne_of_mem hb F.TO2) e
  have hzlt : z < h₅.objs.size := Heap.lt_size hz₅
  show wpAny _ _ (Builtin.SmallTypes.ownedTupleHandOut (.ref z) (.ref h₅.objs.size) >>= _) _ _ _
  refine wpAny_bind ?_
  unfold Builtin.SmallTypes.ownedTupleHandOut
  have hz₆ : IsZip (h₅.push { cls := .type "tuple", data := .seq #[x, y] }) z TI TO .ellipsis := Heap.get?_push_of_some _ hz₅
  refine wpAny_bind (wpAny_setField_rec hz₆ (by simp) fun h₇ hz₇ hs₇ => ?_)
  replace hs₇ : Heap.SameBut z (h₅.push { cls := .type "tuple", data := .seq #[x, y] }) h₇ := hs₇
  replace hz₇ : IsZip h₇ z TI TO (rawInt h₅.objs.size) := hz₇
  refine wpAny_setField_rec hz₇ (by simp) fun h₈ hz₈ hs₈ => ?_
  replace hs₈ : Heap.SameBut z h₇ h₈ := hs₈
  replace hz₈ : IsZip h₈ z TI TO (rawInt h₅.objs.size) := hz₈
  have up : ∀ c o, c ≠ z → h₅.get? c = some o → h₈.get? c = some o := fun c o c1 e => hs₈.extBut _ _ c1 (hs₇.extBut _ _ c1 (Heap.get?_push_of_some _ e))
  have hT₈ : IsPair h₈ h₅.objs.size x y := hs₈.extBut _ _ (Nat.ne_of_gt hzlt) (hs₇.extBut _ _ (Nat.ne_of_gt hzlt) (Heap.get?_push_size _ rfl))
  have hz8 : h₈.objs.size = h₅.objs.size + 1 := by rw [hs₈.1, hs₇.1, Heap.size_push]
  rw [hsz] at hz₈ hT₈ hz8
  refine wpAny_pure ⟨_, rfl, ?_⟩
  show Q (.ref h₅.objs.size) _
  rw [hsz]
  exact hQ x y h₈ tk₄ hPx hPy hz₈ (up _ _ D.TOz hTO₅) (D1.frame _ _ _ h1₅ fun b hb o e => up _ o (ne_of_mem hb F.z1) e) (D2.frame _ _ _ h2₅ fun b hb o e => up _ o (ne_of_mem hb F.z2) e) hT₈ hz8 fun c o c1 c2 c3 c4 e => up c o c1 (hk₅ c o c1 c2 c3 c4 e)

theorem zip_next_endD {Q : PySem.Fin → Shared → Prop} (hh : A.handled = none) (D : ZA z TI TO i1 i2) (F : ZF z TO i1 i2 f1 f2) (D1 : Draws prog w A i1 f1 n1 P1 St1) (D2 : Draws prog w A i2 f2 n2 P2 St2)
    (hz : IsZip s.heap z TI TO .none) (hTI : IsPair s.heap TI (.ref i1) (.ref i2)) (hTO : IsPair s.heap TO a b)
    (h1 : St1 k s.heap) (h2 : St2 k s.heap) (hend : k = n1 ∨ (k < n1 ∧ k = n2))
    (hE : ∀ h' tk e, (∀ c o, c ≠ z → c ≠ TO → c ≠ i1 → c ≠ i2 → s.heap.get? c = some o → h'.get? c = some o) → (∃ o, h'.get? e = some o ∧ o.cls = .type "StopIteration") → E (.ref e) { s with heap := h', toks := tk }) :
    wpAny (model prog w) A (Builtin.«zip.__next__» ⟨[.ref z], []⟩) Q E s := by
  obtain ⟨hp, gg, dd, tk₀, os⟩ := s
  show wpAny _ _ (field (.ref z) 2 >>= _) _ _ _
  refine wpAny_bind (wpAny_field hz rfl (x := .bool false) rfl ?_)
  show wpAny _ _ (field (.ref z) 3 >>= _) _ _ _
  refine wpAny_bind (wpAny_field hz rfl (x := .ref TI) rfl ?_)
  refine wpAny_bind (wpAny_seqItems hTI rfl ?_)
  show wpAny _ _ (Builtin.SmallTypes.ownedTupleIsFree (.ref z) >>= _) _ _ _
  refine wpAny_bind ?_
  unfold Builtin.SmallTypes.ownedTupleIsFree
  refine wpAny_bind (wpAny_field hz rfl (x := .none) rfl (wpAny_pure ?_))
  simp only [if_true]
  refine wpAny_bind (wpAny_rule ?_)
  refine wpAny_bind (wpAny_field hz rfl (x := .ref TO) rfl ?_)
  refine wpAny_bind (wpAny_setField_rec hz (by simp) fun h₁ hz₁ hs₁ => ?_)
  replace hs₁ : Heap.SameBut z hp h₁ := hs₁
  replace hz₁ : IsZip h₁ z TI TO .ellipsis := hz₁
  have h1₁ : St1 k h₁ := D1.frame _ _ _ h1 fun b hb o e => hs₁.extBut _ _ (ne_of_mem hb F.z1) e
  have h2₁ : St2 k h₁ := D2.frame _ _ _ h2 fun b hb o e => hs₁.extBut _ _ (ne_of_mem hb F.z2) e
  refine wpAny_bind ?_
  simp only [List.zipIdx_cons, List.zipIdx_nil, List.forIn_cons, List.forIn_nil]
  refine wpAny_bind (wpAny_bind (wpAny_onRaise ?_))
  show wpAny _ _ (Builtin.SmallTypes.nextOf (.ref i1) >>= _) _ _ _
  rcases hend with rfl | ⟨l1, rfl⟩
  · refine wpAny_bind (D1.done _ _ _ h1₁ fun h₂ e hs₂ he => ?_)
    replace hs₂ : Heap.ExtBut i1 h₁ h₂ := hs₂
    obtain ⟨oe, hoe, hce⟩ := he
    have hz₂ : IsZip h₂ z TI TO .ellipsis := hs₂ _ _ D.i1z.symm hz₁
    have hez : e ≠ z := fun x => by subst x; rw [hz₂] at hoe; cases hoe; simp at hce
    refine wpAny_setField_rec (s := ⟨h₂, gg, dd, tk₀, os⟩) hz₂ (by simp) fun h₃ _ hs₃ => ?_
    replace hs₃ : Heap.SameBut z h₂ h₃ := hs₃
    exact hE h₃ _ e (fun c o c1 _ c3 _ x => hs₃.extBut _ _ c1 (hs₂ _ _ c3 (hs₁.extBut _ _ c1 x))) ⟨oe, hs₃.extBut _ _ hez hoe, hce⟩
  · refine wpAny_bind (D1.item k _ _ _ l1 h1₁ fun x h₂ tk₂ hPx h1₂ hs₂ => wpAny_pure ?_)
    replace hs₂ : Heap.SameBut i1 h₁ h₂ := hs₂
    have hTO₁ : IsPair h₁ TO a b := hs₁.extBut _ _ D.TOz hTO
    have hTO₂ : IsPair h₂ TO a b := hs₂.extBut _ _ D.TOi1 hTO₁
    have h2₂ : St2 k h₂ := D2.frame _ _ _ h2₁ fun b hb o e => hs₂.extBut _ _ (ne_of_mem hb F.i12) e
    refine wpAny_bind (wpAny_seqItems (show IsPair (Shared.heap ⟨h₂, gg, dd, tk₂, os⟩) TO a b from hTO₂) rfl ?_)
    refine wpAny_bind (wpAny_updateSeq_pair (show IsPair (Shared.heap ⟨h₂, gg, dd, tk₂, os⟩) TO a b from hTO₂) fun h₃ hTO₃ hs₃ => ?_)
    replace hs₃ : Heap.SameBut TO h₂ h₃ := hs₃
    have h2₃ : St2 k h₃ := D2.frame _ _ _ h2₂ fun b hb o e => hs₃.extBut _ _ (ne_of_mem hb F.TO2) e
    refine wpAny_bind (wpAny_letGo (wpAny_pure ?_))
    refine wpAny_bind (wpAny_bind (wpAny_onRaise ?_))
    show wpAny _ _ (Builtin.SmallTypes.nextOf (.ref i2) >>= _) _ _ _
    refine wpAny_bind (D2.done _ _ _ h2₃ fun h₄ e hs₄ he => ?_)
    replace hs₄ : Heap.ExtBut i2 h₃ h₄ := hs₄
    obtain ⟨oe, hoe, hce⟩ := he
    have hz₄ : IsZip h₄ z TI TO .ellipsis := hs₄ _ _ D.i2z.symm (hs₃.extBut _ _ D.TOz.symm (hs₂.extBut _ _ D.i1z.symm hz₁))
    have hez : e ≠ z := fun x => by subst x; rw [hz₄] at hoe; cases hoe; simp at hce
    refine wpAny_setField_rec (s := ⟨h₄, gg, dd, tk₂, os⟩) hz₄ (by simp) fun h₅ _ hs₅ => ?_
    replace hs₅ : Heap.SameBut z h₄ h₅ := hs₅
    exact hE h₅ _ e (fun c o c1 c2 c3 c4 x => hs₅.extBut _ _ c1 (hs₄ _ _ c4 (hs₃.extBut _ _ c2 (hs₂.extBut _ _ c3 (hs₁.extBut _ _ c1 x))))) ⟨oe, hs₅.extBut _ _ hez hoe, hce⟩

theorem pyNext_zip_itemD {Q : Option Value → Shared → Prop} (D : ZA z TI TO i1 i2) (F : ZF z TO i1 i2 f1 f2) (D1 : Draws prog w A.in1 i1 f1 n1 P1 St1) (D2 : Draws prog w A.in1 i2 f2 n2 P2 St2)
    (hz : IsZip s.heap z TI TO .none) (hTI : IsPair s.heap TI (.ref i1) (.ref i2)) (hTO : IsPair s.heap TO a b)
    (h1 : St1 k s.heap) (h2 : St2 k s.heap) (l1 : k < n1) (l2 : k < n2)
    (hQ : ∀ x y h' tk, P1 k x → P2 k y → IsZip h' z TI TO (rawInt s.heap.objs.size) → IsPair h' TO x y → St1 (k + 1) h' → St2 (k + 1) h' → IsPair h' s.heap.objs.size x y → h'.objs.size = s.heap.objs.size + 1 →
      (∀ c o, c ≠ z → c ≠ TO → c ≠ i1 → c ≠ i2 → s.heap.get? c = some o → h'.get? c = some o) → Q (some (.ref s.heap.objs.size)) { s with heap := h', toks := tk }) :
    wpAny (model prog w) A (pyNext (.ref z)) Q E s := by
  have hT : s.TypeIs (.ref z) "zip" := ⟨_, hz, rfl⟩
  unfold pyNext
  exact wpAny_bind (wpAny_attempt (wpAny_callSpecial?_slot (name := Str.ofString "__next__") hT PySem.F.slot_zip_next
    (wpAny_call_entry PySem.F.slot_zip_next hT PySem.F.entry_zip_next
      (zip_next_itemD D F D1 D2 hz hTI hTO h1 h2 l1 l2 fun x y h' tk a1 a2 a3 a4 a5 a6 a7 a8 a9 => wpAny_pure (hQ x y h' tk a1 a2 a3 a4 a5 a6 a7 a8 a9)) (PySem.F.args_zip_next_1 _))))
theorem pyNext_zip_endD {Q : Option Value → Shared → Prop} (hh : A.handled = none) (D : ZA z TI TO i1 i2) (F : ZF z TO i1 i2 f1 f2) (D1 : Draws prog w A.in1 i1 f1 n1 P1 St1) (D2 : Draws prog w A.in1 i2 f2 n2 P2 St2)
    (hz : IsZip s.heap z TI TO .none) (hTI : IsPair s.heap TI (.ref i1) (.ref i2)) (hTO : IsPair s.heap TO a b)
    (h1 : St1 k s.heap) (h2 : St2 k s.heap) (hend : k = n1 ∨ (k < n1 ∧ k = n2))
    (hQ : ∀ h' tk, (∀ c o, c ≠ z → c ≠ TO → c ≠ i1 → c ≠ i2 → s.heap.get? c = some o → h'.get? c = some o) → Q none { s with heap := h', toks := tk }) : wpAny (model prog w) A (pyNext (.ref z)) Q E s := by
  have hT : s.TypeIs (.ref z) "zip" := ⟨_, hz, rfl⟩
  unfold pyNext
  refine wpAny_bind (wpAny_attempt (wpAny_callSpecial?_slot (name := Str.ofString "__next__") hT PySem.F.slot_zip_next
    (wpAny_call_entry PySem.F.slot_zip_next hT PySem.F.entry_zip_next (zip_next_endD hh D F D1 D2 hz hTI hTO h1 h2 hend fun h' tk e hk he => ?_) (PySem.F.args_zip_next_1 _))))
  obtain ⟨o, ho, hc⟩ := he
  refine wpAny_bind (wpAny_isInstance (T := "StopIteration") (b := true) ⟨o, ho, hc⟩ isSubtype_stop ?_)
  exact wpAny_pure (hQ _ _ hk)
end
end WT

/-! WT: the turns of zip and enumerate. -/
namespace WT
open PySem PySem.Spec PyProof.Rows L2
open PySem.Sem (wp)

section
variable {X : Cx} {pins : List (Addr × Obj)} {σ : L2.St} {H : Hp} {s : Shared}
theorem src_live (I : Inv X pins σ H s) {S : Src} {xs : List V} (h : S.has X.K H xs) : S.live s.heap := by
  cases S with
  | l a => obtain ⟨its, _, p, _⟩ := I.list h; exact ⟨_, p.isList⟩
  | t a => obtain ⟨its, _, p, _⟩ := I.tuple h; exact ⟨_, p⟩
  | s x => trivial
theorem src_inj (I : Inv X pins σ H s) {S : Src} {xs ys : List V} (h : S.has X.K H xs) (h' : S.has X.K H ys) : xs = ys := by
  cases S with
  | l a => exact I.list_inj h h'
  | t a => exact I.tuple_inj h h'
  | s x => exact h.trans h'.symm
theorem src_draw (I : Inv X pins σ H s) {S : Src} {it : Addr} {i : Nat} {xs : List V} {A : Around} (hs : S.has X.K H xs) (hit : S.st it i s.heap) (ha : S.apart it) (hh : A.handled = none) :
    ∃ fp P St, Draws X.prog X.w A it fp xs.length P St ∧ it ∈ fp ∧ (∀ b ∈ fp, b = it ∨ ∀ c, S.apart c → b ≠ c) ∧ St i s.heap ∧ (∀ j v, P j v → ∃ x, xs[j]? = some x ∧ RelV x v) ∧ ∀ j h, St j h → S.st it j h := by
  cases S with
  | l a =>
    obtain ⟨its, rv, p, _⟩ := I.list hs
    have hl : its.toArray.size = xs.length := by rw [List.size_toArray]; exact rv.length.symm
    refine ⟨[it, a], _, _, hl ▸ Draws.list hh it a ha its.toArray, by simp, fun b hb => ?_, ⟨hit, p.isList⟩, fun j v hv => ?_, fun j h st => st.1⟩
    · rcases List.mem_cons.mp hb with q | q
      · exact .inl q
      · exact .inr fun c hc => by rw [List.mem_singleton.mp q]; exact hc
    · have hj : its[j]? = some v := by simpa using hv
      have hjl : j < xs.length := by rw [rv.length]; exact (List.getElem?_eq_some_iff.mp hj).1
      obtain ⟨u, hu, ru⟩ := rv.get (List.getElem?_eq_getElem hjl)
      rw [hj] at hu; cases hu
      exact ⟨_, List.getElem?_eq_getElem hjl, ru⟩
  | t a =>
    obtain ⟨its, rv, p, _⟩ := I.tuple hs
    have hl : its.toArray.size = xs.length := by rw [List.size_toArray]; exact rv.length.symm
    refine ⟨[it, a], _, _, hl ▸ draws_tuple hh it a ha its.toArray, by simp, fun b hb => ?_, ⟨hit, p⟩, fun j v hv => ?_, fun j h st => st.1⟩
    · rcases List.mem_cons.mp hb with q | q
      · exact .inl q
      · exact .inr fun c hc => by rw [List.mem_singleton.mp q]; exact hc
    · have hj : its[j]? = some v := by simpa using hv
      have hjl : j < xs.length := by rw [rv.length]; exact (List.getElem?_eq_some_iff.mp hj).1
      obtain ⟨u, hu, ru⟩ := rv.get (List.getElem?_eq_getElem hjl)
      rw [hj] at hu; cases hu
      exact ⟨_, List.getElem?_eq_getElem hjl, ru⟩
  | s x =>
    obtain ⟨t, hit⟩ := hit
    have hx : xs = x.cps.toList.map fun c => V.str ⟨#[c]⟩ := hs
    have hl : x.cps.size = xs.length := by rw [hx]; simp
    have rel : ∀ (j : Nat) (v : Value), (∃ (c : Nat) (u : Tok), x.cps[j]? = some c ∧ v = Value.str ⟨#[c]⟩ u) → ∃ y, xs[j]? = some y ∧ RelV y v := fun j v ⟨c, u, hc, ev⟩ => by
      refine ⟨.str ⟨#[c]⟩, ?_, u, ev⟩
      rw [hx, List.getElem?_map, Array.getElem?_toList, hc]; rfl
    cases hA : x.cps.all (· < 128) with
    | true =>
      have et : strIterType x = "str_ascii_iterator" := by simp [strIterType, hA]
      rw [et] at hit
      refine ⟨[it], _, _, hl ▸ Draws.strAscii hh it x t, by simp, fun b hb => .inl (List.mem_singleton.mp hb), hit, rel, fun j h st => ⟨t, by rw [et]; exact st⟩⟩
    | false =>
      have et : strIterType x = "str_iterator" := by simp [strIterType, hA]
      rw [et] at hit
      refine ⟨[it], _, _, hl ▸ Draws.strWide hh it x t, by simp, fun b hb => .inl (List.mem_singleton.mp hb), hit, rel, fun j h st => ⟨t, by rw [et]; exact st⟩⟩
end
theorem zf_of {S1 S2 : Src} {z TI TO i1 i2 : Addr} {f1 f2 : List Addr} (D : ZA z TI TO i1 i2) (a1 : ∀ b ∈ f1, b = i1 ∨ ∀ c, S1.apart c → b ≠ c) (a2 : ∀ b ∈ f2, b = i2 ∨ ∀ c, S2.apart c → b ≠ c)
    (h1 : ∀ c ∈ [z, TI, TO, i1, i2], S1.apart c) (h2 : ∀ c ∈ [z, TI, TO, i1, i2], S2.apart c) : ZF z TO i1 i2 f1 f2 where
  z1 := fun m => (a1 _ m).elim (fun q => D.i1z q.symm) fun q => q z (h1 z (by simp)) rfl
  z2 := fun m => (a2 _ m).elim (fun q => D.i2z q.symm) fun q => q z (h2 z (by simp)) rfl
  TO1 := fun m => (a1 _ m).elim (fun q => D.TOi1 q) fun q => q TO (h1 TO (by simp)) rfl
  TO2 := fun m => (a2 _ m).elim (fun q => D.TOi2 q) fun q => q TO (h2 TO (by simp)) rfl
  i12 := fun m => (a2 _ m).elim (fun q => D.i12 q) fun q => q i1 (h2 i1 (by simp)) rfl
  i21 := fun m => (a1 _ m).elim (fun q => D.i12 q.symm) fun q => q i2 (h1 i2 (by simp)) rfl

def ItzS (K : PySem.W.Frag) (S1 S2 : Src) : L2.It :=
  ⟨fun i H => ∃ (xs ys : List V) (x y : V), S1.has K H xs ∧ S2.has K H ys ∧ xs[i]? = some x ∧ ys[i]? = some y,
    fun i H v H' => ∃ T x y, v = .ref T ∧ H T = none ∧ H' = upd H T (.tup [x, y]) ∧ (∀ xs, S1.has K H xs → xs[i]? = some x) ∧ ∀ ys, S2.has K H ys → ys[i]? = some y,
    fun i H => ∃ xs ys : List V, S1.has K H xs ∧ S2.has K H ys ∧ (i = xs.length ∨ (i < xs.length ∧ i = ys.length)) ∧ i ≤ ys.length⟩
theorem turn_zipS {P : Program} {w : World} {K : PySem.W.Frag} {elts : List Expr} {kk : Nat} {tpos : Pos} {z TI TO i1 i2 : Addr} {S1 S2 : Src} (D : ZA z TI TO i1 i2)
    (ap1 : ∀ c ∈ [z, TI, TO, i1, i2], S1.apart c) (ap2 : ∀ c ∈ [z, TI, TO, i1, i2], S2.apart c) :
    Turn P w K (.Tuple elts kk tpos) (ItzS K S1 S2) [z, TI, TO, i1, i2] z (fun i h => IsZip h z TI TO .none ∧ IsPair h TI (.ref i1) (.ref i2) ∧ (∃ x y, IsPair h TO x y) ∧ S1.st i1 i h ∧ S2.st i2 i h) where
  mem := by simp
  obj := fun i h st c hc => by
    obtain ⟨hz, hTI, ⟨x, y, hTO⟩, h1, h2⟩ := st
    have e' : c = z ∨ c = TI ∨ c = TO ∨ c = i1 ∨ c = i2 := by simpa using hc
    rcases e' with q | q | q | q | q
    · rw [q]; exact ⟨_, hz, fun v q => nomatch q⟩
    · rw [q]; exact ⟨_, hTI, fun v q => nomatch q⟩
    · rw [q]; exact ⟨_, hTO, fun v q => nomatch q⟩
    · rw [q]; exact src_st_get h1
    · rw [q]; exact src_st_get h2
  keep := fun i h h' st k => by
    obtain ⟨hz, hTI, ⟨x, y, hTO⟩, h1, h2⟩ := st
    exact ⟨k z (by simp) _ hz, k TI (by simp) _ hTI, ⟨x, y, k TO (by simp) _ hTO⟩, src_st_at h1 fun o q => k i1 (by simp) o q, src_st_at h2 fun o q => k i2 (by simp) o q⟩
  item := by
    intro X hP hw hK hc i pins s σ H E I hf st hg
    subst hP hw hK
    obtain ⟨hz, hTI, ⟨x0, y0, hTO⟩, h1, h2⟩ := st
    obtain ⟨xs, ys, x, y, hqx, hqy, hx, hy⟩ := hg
    obtain ⟨f1, P1, St1, D1, m1, a1, s1, r1, b1⟩ := src_draw (A := X.A.in1) I hqx h1 (ap1 _ (by simp)) (I.ok.hd hc)
    obtain ⟨f2, P2, St2, D2, m2, a2, s2, r2, b2⟩ := src_draw (A := X.A.in1) I hqy h2 (ap2 _ (by simp)) (I.ok.hd hc)
    have F := zf_of D a1 a2 ap1 ap2
    have hzl : z < s.heap.objs.size := Heap.lt_size hz
    refine pyNext_zip_itemD D F D1 D2 hz hTI hTO s1 s2 (List.getElem?_eq_some_iff.mp hx).1 (List.getElem?_eq_some_iff.mp hy).1 fun u u2 h' tk hu hu2 z' TO' h1' h2' hT hsz hk => ?_
    obtain ⟨x', ex, ru⟩ := r1 i u hu
    obtain ⟨y', ey, ru2⟩ := r2 i u2 hu2
    rw [hx] at ex; cases ex
    rw [hy] at ey; cases ey
    refine ⟨_, rfl, wpAny_letOwnedTupleGo_zip (s := { s with heap := h', toks := tk }) z' fun h'' z'' sb => ?_⟩
    have hT2 : h''.get? s.heap.objs.size = some { cls := .type "tuple", data := .seq #[u, u2] } := (sb.2 _ (Nat.ne_of_gt hzl)).trans hT
    have new : ObjOk X.prog X.w (upd H s.heap.objs.size (.tup [x, y])) h'' s.heap.objs.size (.tup [x, y]) :=
      ⟨by show 2 ≤ sizeLine; decide, [u, u2], .cons ru (.cons ru2 .nil), ⟨_, hT2, rfl, _, rfl⟩⟩
    have I1 : Inv X pins σ (upd H s.heap.objs.size (.tup [x, y])) { s with heap := h'', toks := tk } :=
      I.turnedNew (t' := tk) (ch := [z, TI, TO, i1, i2]) (fun c o hb q => (sb.2 c (fun q' => hb (by simp [q']))).trans (hk c o (fun q' => hb (by simp [q'])) (fun q' => hb (by simp [q'])) (fun q' => hb (by simp [q'])) (fun q' => hb (by simp [q'])) q)) hf (Nat.le_refl _) new
    refine ⟨.ref s.heap.objs.size, _, I1, rfl, ⟨_, x, y, rfl, I.hok.fresh (Nat.le_refl _), rfl, fun l hl => by rw [src_inj I hl hqx]; exact hx, fun l hl => by rw [src_inj I hl hqy]; exact hy⟩, ⟨z'', ?_, ⟨u, u2, ?_⟩, ?_, ?_⟩, fun c hcm => ?_⟩
    · exact (sb.2 _ D.TIz).trans (hk _ _ D.TIz D.TITO D.TIi1 D.TIi2 hTI)
    · exact (sb.2 _ D.TOz).trans TO'
    · exact src_st_at (b1 _ _ h1') fun o q => (sb.2 _ D.i1z).trans q
    · exact src_st_at (b2 _ _ h2') fun o q => (sb.2 _ D.i2z).trans q
    · have hlt : c < s.heap.objs.size := by
        have e' : c = z ∨ c = TI ∨ c = TO ∨ c = i1 ∨ c = i2 := by simpa using hcm
        rcases e' with q | q | q | q | q
        · rw [q]; exact hzl
        · rw [q]; exact Heap.lt_size hTI
        · rw [q]; exact Heap.lt_size hTO
        · rw [q]; obtain ⟨_, e1, _⟩ := src_st_get h1; exact Heap.lt_size e1
        · rw [q]; obtain ⟨_, e2, _⟩ := src_st_get h2; exact Heap.lt_size e2
      rw [upd_ne (Nat.ne_of_lt hlt)]
      exact (hf c hcm).1
  done := by
    intro X hP hw hK hc i pins s σ H E I hf st hg
    subst hP hw hK
    obtain ⟨hz, hTI, ⟨x0, y0, hTO⟩, h1, h2⟩ := st
    obtain ⟨xs, ys, hqx, hqy, hend, _⟩ := hg
    obtain ⟨f1, P1, St1, D1, m1, a1, s1, r1, b1⟩ := src_draw (A := X.A.in1) I hqx h1 (ap1 _ (by simp)) (I.ok.hd hc)
    obtain ⟨f2, P2, St2, D2, m2, a2, s2, r2, b2⟩ := src_draw (A := X.A.in1) I hqy h2 (ap2 _ (by simp)) (I.ok.hd hc)
    have F := zf_of D a1 a2 ap1 ap2
    exact pyNext_zip_endD (I.ok.hd hc) D F D1 D2 hz hTI hTO s1 s2 hend fun h' tk hk => ⟨rfl, I.turnedL (t' := tk) (ch := [z, TI, TO, i1, i2]) (fun c o hb q =>
      hk c o (fun q' => hb (by simp [q'])) (fun q' => hb (by simp [q'])) (fun q' => hb (by simp [q'])) (fun q' => hb (by simp [q'])) q) hf⟩
  self := fun A i s Q E st h => wpAny_pyIter_zip st.1 h

/-! ### zip(..), enumerate(..) -/
abbrev zsH1 (h : Heap) (S1 : Src) (u1 : Value) : Heap := h.push (S1.it u1)
abbrev zsH2 (h : Heap) (S1 S2 : Src) (u1 u2 : Value) : Heap := (zsH1 h S1 u1).push (S2.it u2)
abbrev zsH3 (h : Heap) (S1 S2 : Src) (u1 u2 : Value) : Heap := (zsH2 h S1 S2 u1 u2).push { cls := .type "tuple", data := .seq #[.ref h.objs.size, .ref (zsH1 h S1 u1).objs.size] }
abbrev zsH4 (h : Heap) (S1 S2 : Src) (u1 u2 : Value) : Heap := (zsH3 h S1 S2 u1 u2).push { cls := .type "tuple", data := .seq #[.none, .none] }
abbrev zsH5 (h : Heap) (S1 S2 : Src) (u1 u2 : Value) : Heap := (zsH4 h S1 S2 u1 u2).push { cls := .type "zip", data := .fields #[.none, .bool false, .bool false, .ref (zsH2 h S1 S2 u1 u2).objs.size, .ref (zsH3 h S1 S2 u1 u2).objs.size] }
theorem meets_zipS_new (S1 S2 : Src) (u1 u2 : Value) (r1 : RelV S1.v u1) (r2 : RelV S2.v u2) :
    Meets (Builtin.«zip.__new__» ⟨[.type "zip", u1, u2], []⟩) (fun _ R s => S1.live s.heap ∧ S2.live s.heap ∧
      R (.ok (.ret (.ref (zsH4 s.heap S1 S2 u1 u2).objs.size))) { s with heap := zsH5 s.heap S1 S2 u1 u2 }) :=
  .of_wp fun prog w A R s h => by
    obtain ⟨hp, g, d, tk, os⟩ := s; obtain ⟨hl1, hl2, h⟩ := h
    have hsub := sub_zip
    have hL1 : S1.live (Shared.heap ⟨hp, g, d, tk, os⟩) := hl1
    have hL2 : S2.live (Shared.heap ⟨hp.push (S1.it u1), g, d, tk, os⟩) := src_live_push hl2 _
    wp_walk using src_pyIter r1 hL1, src_pyIter r2 hL2
    exact ⟨_, rfl, h⟩
section
variable {prog : Program} {w : World} {A : Around} {E : Value → Shared → Prop} {s : Shared}
theorem call_zipS {S1 S2 : Src} {u1 u2 : Value} {Q : Value → Shared → Prop} (r1 : RelV S1.v u1) (r2 : RelV S2.v u2) (hl1 : S1.live s.heap) (hl2 : S2.live s.heap)
    (h : ∀ h', IsZip h' (s.heap.objs.size + 4) (s.heap.objs.size + 2) (s.heap.objs.size + 3) .none → IsPair h' (s.heap.objs.size + 2) (.ref s.heap.objs.size) (.ref (s.heap.objs.size + 1)) →
      IsPair h' (s.heap.objs.size + 3) .none .none → S1.st s.heap.objs.size 0 h' → S2.st (s.heap.objs.size + 1) 0 h' → h'.objs.size = s.heap.objs.size + 5 →
      (∀ c o, s.heap.get? c = some o → h'.get? c = some o) → Q (.ref (s.heap.objs.size + 4)) { s with heap := h' }) :
    wpAny (model prog w) A (call (.type "zip") [u1, u2]) Q E s := by
  refine callType_new F.called_zip (by decide) (F.typeCall_zip_2 _ _) (F.newCall_zip_2 _ _) (fun obj => F.args_object_init_3 obj _ _) F.entry_zip_new
    (meets_zipS_new S1 S2 u1 u2 r1 r2) ⟨hl1, hl2, ?_⟩
  have z1 : (zsH1 s.heap S1 u1).objs.size = s.heap.objs.size + 1 := Heap.size_push ..
  have z2 : (zsH2 s.heap S1 S2 u1 u2).objs.size = s.heap.objs.size + 2 := by rw [Heap.size_push, z1]
  have z3 : (zsH3 s.heap S1 S2 u1 u2).objs.size = s.heap.objs.size + 3 := by rw [Heap.size_push, z2]
  have z4 : (zsH4 s.heap S1 S2 u1 u2).objs.size = s.heap.objs.size + 4 := by rw [Heap.size_push, z3]
  have z5 : (zsH5 s.heap S1 S2 u1 u2).objs.size = s.heap.objs.size + 5 := by rw [Heap.size_push, z4]
  have g5 : (zsH5 s.heap S1 S2 u1 u2).get? (zsH4 s.heap S1 S2 u1 u2).objs.size = some _ := Heap.get?_push_size _ rfl
  have g4 : (zsH5 s.heap S1 S2 u1 u2).get? (zsH3 s.heap S1 S2 u1 u2).objs.size = some _ := Heap.get?_push_of_some _ (Heap.get?_push_size _ rfl)
  have g3 : (zsH5 s.heap S1 S2 u1 u2).get? (zsH2 s.heap S1 S2 u1 u2).objs.size = some _ := Heap.get?_push_of_some _ (Heap.get?_push_of_some _ (Heap.get?_push_size _ rfl))
  have g2 : S2.st (zsH1 s.heap S1 u1).objs.size 0 (zsH5 s.heap S1 S2 u1 u2) := src_st_at (src_st0 r2 _) fun o q => Heap.get?_push_of_some _ (Heap.get?_push_of_some _ (Heap.get?_push_of_some _ q))
  have g1 : S1.st s.heap.objs.size 0 (zsH5 s.heap S1 S2 u1 u2) := src_st_at (src_st0 r1 _) fun o q => Heap.get?_push_of_some _ (Heap.get?_push_of_some _ (Heap.get?_push_of_some _ (Heap.get?_push_of_some _ q)))
  show _ ∧ _
  rw [z2, z3, z4] at g5
  rw [z1, z2] at g3
  rw [z3] at g4
  rw [z1] at g2
  rw [z4]
  exact ⟨⟨_, g5, rfl⟩, h _ g5 g3 g4 g1 g2 z5 fun c o x =>
    Heap.get?_push_of_some _ (Heap.get?_push_of_some _ (Heap.get?_push_of_some _ (Heap.get?_push_of_some _ (Heap.get?_push_of_some _ x))))⟩
end
def iZipS (K : PySem.W.Frag) (ta : TA) : TI := fun σ H R => ta σ H fun vs H1 => ∃ S1 S2 xs ys, vs = [Src.v S1, Src.v S2] ∧ S1.has K H1 xs ∧ S2.has K H1 ys ∧ R (ItzS K S1 S2) H1
theorem za_of (n : Nat) : ZA (n + 4) (n + 2) (n + 3) n (n + 1) := by
  constructor <;> (intro h; have h : (_ : Nat) = _ := h; omega)
theorem pi_zipS {X : Cx} {e e2 : Expr} {ta : TA} {p pos tpos : Pos} {elts : List Expr} {kk : Nat} (hg : Gl X "zip") (hm : X.mg "zip" = none) (ha : PA X [e, e2] ta)
    (hs : starEach [e, e2] X.env = (false, eval e X.env) :: starEach [e2] X.env) (hpl : (backTo pos (starEach [e2] X.env)).any (·.1) = false) :
    PI X (.Tuple elts kk tpos) (.Call (.Name "zip" p) [e, e2] [] pos) (iZipS X.K ta) := by
  refine ⟨fun pins s σ H R I h => ?_⟩
  refine Call_ (ld_blt I hg hm PyProof.Rows.boot_zip (PyProof.Rows.callWith_type1 (thn (ha.run pos pins s σ H _ I h) fun us s1 ⟨vs, H1, I1, r1, q1⟩ => ?_) hs hpl))
  obtain ⟨S1, S2, xs, ys, ex, h1, h2, q⟩ := q1
  subst ex
  cases r1 with
  | cons r rr =>
    cases rr with
    | cons r' rr =>
      cases rr
      have l1 := src_live I1 h1
      have l2 := src_live I1 h2
      refine call_zipS r r' l1 l2 fun h' hz hTI hTO g1 g2 hsz hk => wpAny_pyIter_zip hz ?_
      have I2 : Inv X pins σ H1 { s1 with heap := h' } := I1.kept (t' := s1.toks) hk
      have le5 : ∀ c ∈ [s1.heap.objs.size + 4, s1.heap.objs.size + 2, s1.heap.objs.size + 3, s1.heap.objs.size, s1.heap.objs.size + 1], s1.heap.objs.size ≤ c := fun c hc => by
        have e' : c = s1.heap.objs.size + 4 ∨ c = s1.heap.objs.size + 2 ∨ c = s1.heap.objs.size + 3 ∨ c = s1.heap.objs.size ∨ c = s1.heap.objs.size + 1 := by simpa using hc
        rcases e' with z | z | z | z | z
        · rw [z]; exact Nat.le_add_right _ _
        · rw [z]; exact Nat.le_add_right _ _
        · rw [z]; exact Nat.le_add_right _ _
        · rw [z]; exact Nat.le_refl _
        · rw [z]; exact Nat.le_add_right _ _
      exact ⟨s1.heap.objs.size + 4, [s1.heap.objs.size + 4, s1.heap.objs.size + 2, s1.heap.objs.size + 3, s1.heap.objs.size, s1.heap.objs.size + 1], _, _, H1, rfl, I2, turn_zipS (za_of _) (fun c hc => src_apart l1 (le5 c hc)) (fun c hc => src_apart l2 (le5 c hc)),
        ⟨hz, hTI, ⟨_, _, hTO⟩, g1, g2⟩, fun c hc => I1.fpOk (le5 c hc) (I1.hok.fresh (le5 c hc)), q⟩

/-! ### enumerate -/
def ItnS (K : PySem.W.Frag) (S : Src) : L2.It :=
  ⟨fun i H => ∃ (xs : List V) (x : V), S.has K H xs ∧ xs[i]? = some x,
    fun i H v H' => ∃ T x, v = .ref T ∧ H T = none ∧ H' = upd H T (.tup [.int (i : Nat), x]) ∧ ∀ xs, S.has K H xs → xs[i]? = some x,
    fun i H => ∃ xs : List V, S.has K H xs ∧ i = xs.length⟩
theorem turn_enumS {P : Program} {w : World} {K : PySem.W.Frag} {elts : List Expr} {kk : Nat} {tpos : Pos} {S : Src} (e it : Addr) (ap : ∀ c ∈ [e, it], S.apart c) :
    Turn P w K (.Tuple elts kk tpos) (ItnS K S) [e, it] e (fun i h => (∃ old, IsEnum h e it ((i : Nat) : Int) old) ∧ S.st it i h ∧ e ≠ it) where
  mem := by simp
  obj := fun i h st b hb => by
    obtain ⟨⟨old, he⟩, h1, _⟩ := st
    have e' : b = e ∨ b = it := by simpa using hb
    rcases e' with z | z
    · rw [z]; exact ⟨_, he, fun v q => nomatch q⟩
    · rw [z]; exact src_st_get h1
  keep := fun i h h' st k => let ⟨⟨old, he⟩, hi, hne⟩ := st; ⟨⟨old, k e (by simp) _ he⟩, src_st_at hi fun o q => k it (by simp) o q, hne⟩
  item := by
    intro X hP hw hK hc i pins s σ H E I hf st hg
    subst hP hw hK
    obtain ⟨⟨old, he⟩, hit, hne⟩ := st
    obtain ⟨xs, x, hq, hx⟩ := hg
    obtain ⟨f1, P1, St1, D1, m1, a1, s1, r1, b1⟩ := src_draw (A := X.A.in1) I hq hit (ap _ (by simp)) (I.ok.hd hc)
    have hel : e < s.heap.objs.size := Heap.lt_size he
    have hil : it < s.heap.objs.size := by obtain ⟨_, q, _⟩ := src_st_get hit; exact Heap.lt_size q
    have hef : e ∉ f1 := fun m => (a1 _ m).elim hne fun q => q e (ap _ (by simp)) rfl
    refine wpAny_pyNext_enum_itemD D1 he s1 (List.getElem?_eq_some_iff.mp hx).1 hne hef fun u h' tk hu ho hit' hT hsz hk => ?_
    obtain ⟨x', ex, ru⟩ := r1 i u hu
    rw [hx] at ex; cases ex
    refine ⟨_, rfl, wpAny_letOwnedTupleGo_enum (s := { s with heap := h', toks := tk + 1 }) ho fun h'' he' sb => ?_⟩
    have hT2 : h''.get? s.heap.objs.size = some { cls := .type "tuple", data := .seq #[.int i tk, u] } := (sb.2 _ (Nat.ne_of_gt hel)).trans hT
    have new : ObjOk X.prog X.w (upd H s.heap.objs.size (.tup [.int (i : Nat), x])) h'' s.heap.objs.size (.tup [.int (i : Nat), x]) :=
      ⟨by show 2 ≤ sizeLine; decide, [.int i tk, u], .cons ⟨_, rfl⟩ (.cons ru .nil), ⟨_, hT2, rfl, _, rfl⟩⟩
    have I1 : Inv X pins σ (upd H s.heap.objs.size (.tup [.int (i : Nat), x])) { s with heap := h'', toks := tk + 1 } :=
      I.turnedNew (ch := [e, it]) (fun b ob hb q => (sb.2 b (fun z => hb (by simp [z]))).trans (hk b ob (fun z => hb (by simp [z])) (fun z => hb (by simp [z])) q)) hf (Nat.le_refl _) new
    refine ⟨.ref s.heap.objs.size, _, I1, rfl, ⟨_, x, rfl, I.hok.fresh (Nat.le_refl _), rfl, fun ys hy => by rw [src_inj I hy hq]; exact hx⟩, ⟨⟨u, ?_⟩, src_st_at (b1 _ _ hit') fun o q => (sb.2 it (Ne.symm hne)).trans q, hne⟩, fun b hb => ?_⟩
    · have e1 : ((i + 1 : Nat) : Int) = (i : Int) + 1 := by omega
      rw [e1]; exact he'
    · have hb' : b < s.heap.objs.size := by
        have e' : b = e ∨ b = it := by simpa using hb
        rcases e' with z | z
        · rw [z]; exact hel
        · rw [z]; exact hil
      rw [upd_ne (Nat.ne_of_lt hb')]
      exact (hf b hb).1
  done := by
    intro X hP hw hK hc i pins s σ H E I hf st hg
    subst hP hw hK
    obtain ⟨⟨old, he⟩, hit, hne⟩ := st
    obtain ⟨xs, hq, rfl⟩ := hg
    obtain ⟨f1, P1, St1, D1, m1, a1, s1, r1, b1⟩ := src_draw (A := X.A.in1) I hq hit (ap _ (by simp)) (I.ok.hd hc)
    obtain ⟨f0, f1', f2, f3, f4, f5⟩ := hf it (by simp)
    exact wpAny_pyNext_enum_endD D1 he s1 fun h' eb => ⟨rfl, I.turned (t' := s.toks) (fun b o hb q => eb b o hb q) f0 f1' f3 f4 f5⟩
  self := fun A i s Q E st h => let ⟨⟨_, he⟩, _⟩ := st; wpAny_pyIter_enum he h

theorem meets_enumerate_newT (l : Addr) (items : Array Value) (n : Nat) (dct : Option Addr) (sl : Array (Option Value)) :
    Meets (Builtin.«enumerate.__new__» ⟨[.type "enumerate", .ref l], []⟩) (fun _ R s => s.heap.get? l = some { cls := .type "tuple", dict := dct, data := .seq items n, slots := sl } ∧
      R (.ok (.ret (.ref (s.heap.push { cls := .type "tuple_iterator", data := .fields #[.ref l, .int 0 0] }).objs.size)))
        { s with heap := (s.heap.push { cls := .type "tuple_iterator", data := .fields #[.ref l, .int 0 0] }).push { cls := .type "enumerate", data := .fields #[.none, .bool false, .ref s.heap.objs.size, rawInt 0, .none, .none] } }) :=
  .of_wp fun prog w A R s h => by
    obtain ⟨hp, g, d, tk, os⟩ := s; obtain ⟨hl, h⟩ := h
    have hsub := sub_enumerate
    have hL : Heap.IsTuple (Shared.heap ⟨hp, g, d, tk, os⟩) l items := ⟨_, hl, rfl, n, rfl⟩
    wp_walk using AutoSeq1.wpAny_loadPart' hl
    refine wpAny_stack_any fun st => wpAny_pure ?_
    split
    · rename_i c _ _ _ _ _
      cases (c == Value.type "enumerate")
      · wp_walk using AutoSeq1.wpAny_loadPart' hl, wpAny_pyIter_tuple hL
        exact ⟨_, rfl, h⟩
      · wp_walk using AutoSeq1.wpAny_loadPart' hl, wpAny_pyIter_tuple hL
        exact ⟨_, rfl, h⟩
    · wp_walk using AutoSeq1.wpAny_loadPart' hl, wpAny_pyIter_tuple hL
      exact ⟨_, rfl, h⟩
section
variable {prog : Program} {w : World} {A : Around} {E : Value → Shared → Prop} {s : Shared}
theorem call_enumerate_tuple {l : Addr} {items : Array Value} {Q : Value → Shared → Prop} (hL : s.heap.IsTuple l items)
    (h : ∀ h', IsEnum h' (s.heap.objs.size + 1) s.heap.objs.size 0 .none → h'.IsTupleIter s.heap.objs.size l 0 → h'.objs.size = s.heap.objs.size + 2 →
      (∀ b o, s.heap.get? b = some o → h'.get? b = some o) → Q (.ref (s.heap.objs.size + 1)) { s with heap := h' }) :
    wpAny (model prog w) A (call (.type "enumerate") [.ref l]) Q E s := by
  obtain ⟨⟨c, dct, dt, sl⟩, hl, hc, n, hd⟩ := hL
  replace hc : c = .type "tuple" := hc
  replace hd : dt = .seq items n := hd
  subst hc hd
  refine callType_new F.called_enumerate (by decide) (F.typeCall_enumerate_1 _) (F.newCall_enumerate_1 _) (fun obj => F.args_object_init_2 obj _) F.entry_enumerate_new
    (meets_enumerate_newT l items n dct sl) ⟨hl, ?_⟩
  have hz : (s.heap.push { cls := .type "tuple_iterator", data := .fields #[.ref l, .int 0 0] }).objs.size = s.heap.objs.size + 1 := Heap.size_push ..
  show _ ∧ _
  rw [hz]
  have he : IsEnum ((s.heap.push { cls := .type "tuple_iterator", data := .fields #[.ref l, .int 0 0] }).push
      { cls := .type "enumerate", data := .fields #[.none, .bool false, .ref s.heap.objs.size, rawInt 0, .none, .none] }) (s.heap.objs.size + 1) s.heap.objs.size 0 .none := by
    have := Heap.get?_push_size (s.heap.push { cls := .type "tuple_iterator", data := .fields #[.ref l, .int 0 0] })
      (o := { cls := .type "enumerate", data := .fields #[.none, .bool false, .ref s.heap.objs.size, rawInt 0, .none, .none] }) rfl
    rw [hz] at this; exact this
  refine ⟨⟨_, he, rfl⟩, h _ he ⟨_, Heap.get?_push_of_some _ (Heap.get?_push_size _ rfl), rfl, rfl⟩ (by rw [Heap.size_push, hz]) fun b o x => Heap.get?_push_of_some _ (Heap.get?_push_of_some _ x)⟩
theorem call_enumerateS {S : Src} {u : Value} {Q : Value → Shared → Prop} (r : RelV S.v u) (hl : S.live s.heap)
    (h : ∀ h', IsEnum h' (s.heap.objs.size + 1) s.heap.objs.size 0 .none → S.st s.heap.objs.size 0 h' → (∀ b o, s.heap.get? b = some o → h'.get? b = some o) → Q (.ref (s.heap.objs.size + 1)) { s with heap := h' }) :
    wpAny (model prog w) A (call (.type "enumerate") [u]) Q E s := by
  cases S with
  | l a => cases r; obtain ⟨xs, hL⟩ := hl; exact call_enumerate_list hL fun h' a b c d => h h' a b d
  | t a => cases r; obtain ⟨xs, hL⟩ := hl; exact call_enumerate_tuple hL fun h' a b c d => h h' a b d
  | s x => obtain ⟨t, rfl⟩ := r; exact call_enumerate_str fun h' a b c d => h h' a ⟨t, b⟩ d
end
def iEnumS (K : PySem.W.Frag) (ta : TA) : TI := fun σ H R => ta σ H fun vs H1 => ∃ S xs, vs = [Src.v S] ∧ S.has K H1 xs ∧ R (ItnS K S) H1
theorem pi_enumS {X : Cx} {e : Expr} {ta : TA} {p pos tpos : Pos} {elts : List Expr} {kk : Nat} (hg : Gl X "enumerate") (hm : X.mg "enumerate" = none) (ha : PA X [e] ta) (hs : starEach [e] X.env = [(false, eval e X.env)]) :
    PI X (.Tuple elts kk tpos) (.Call (.Name "enumerate" p) [e] [] pos) (iEnumS X.K ta) := by
  refine ⟨fun pins s σ H R I h => ?_⟩
  refine Call_ (ld_blt I hg hm boot_enumerate (PyProof.Rows.callWith_type1 (thn (ha.run pos pins s σ H _ I h) fun us s1 ⟨vs, H1, I1, r1, q1⟩ => ?_) hs rfl))
  obtain ⟨S, xs, ex, h1, q⟩ := q1
  subst ex
  cases r1 with
  | cons r rr =>
    cases rr
    have l1 := src_live I1 h1
    refine call_enumerateS r l1 fun h' he hit hk => wpAny_pyIter_enum he ?_
    have I2 : Inv X pins σ H1 { s1 with heap := h' } := I1.kept (t' := s1.toks) hk
    have le2 : ∀ b ∈ [s1.heap.objs.size + 1, s1.heap.objs.size], s1.heap.objs.size ≤ b := fun b hb => by
      have e' : b = s1.heap.objs.size + 1 ∨ b = s1.heap.objs.size := by simpa using hb
      rcases e' with z | z
      · rw [z]; exact Nat.le_add_right _ _
      · rw [z]; exact Nat.le_refl _
    exact ⟨s1.heap.objs.size + 1, [s1.heap.objs.size + 1, s1.heap.objs.size], _, _, H1, rfl, I2, turn_enumS (s1.heap.objs.size + 1) s1.heap.objs.size (fun c hc => src_apart l1 (le2 c hc)), ⟨⟨.none, he⟩, hit, Nat.succ_ne_self _⟩,
      fun b hb => I1.fpOk (le2 b hb) (I1.hok.fresh (le2 b hb)), q⟩
end WT

/-! WT: zip and enumerate by values. -/
namespace WT
open PySem L2
section
variable {K : PySem.W.Frag} {H H' H1 H2 H0 : Hp} {Γ Γ' Γ1 Γ2 Γ0 : Env} {g g' g1 g2 g0 : Nat → List Addr} {σ σ' : L2.St}
theorem src_of {d : D} {xs : List D} {v : V} {A : List Addr} (e : items d = some xs) (r : Rep K H d v A) :
    ∃ S us, v = Src.v S ∧ us.length = xs.length ∧ (∀ H', Keep H H' A → S.has K H' us) ∧ ∀ (j : Nat) (x : D), xs[j]? = some x → ∃ u B, us[j]? = some u ∧ Rep K H x u B ∧ ∀ b ∈ B, b ∈ A := by
  cases d <;> simp only [items] at e <;> cases e
  · rename_i s
    simp only [Rep] at r
    obtain ⟨rfl, rfl, ok⟩ := r
    refine ⟨.s (sV s), s.map fun c => V.str ⟨#[c]⟩, rfl, by simp, fun H' k => ?_, fun j x hx => ?_⟩
    · show _ = _
      simp [sV]
    · rw [List.getElem?_map] at hx
      cases hc : s[j]? with
      | none => rw [hc] at hx; cases hx
      | some c =>
        rw [hc] at hx; cases hx
        refine ⟨.str ⟨#[c]⟩, [], by rw [List.getElem?_map, hc]; rfl, ?_, fun _ z => (nomatch z)⟩
        have := strOk_sub ok (b := [c]) (by simpa using List.mem_of_getElem? hc)
        simp [Rep, this]
  · simp only [Rep] at r
    obtain ⟨a, us, rfl, q, r⟩ := r
    exact ⟨.t a, us, rfl, r.length.symm, fun H' k => keep_t k q, fun j x hx => r.get hx⟩
  · simp only [Rep] at r
    obtain ⟨a, us, B, rfl, q, r, rfl⟩ := r
    refine ⟨.l a, us, rfl, r.length.symm, fun H' k => SqL.of (k a _ q (.inl List.mem_cons_self)), fun j x hx => ?_⟩
    obtain ⟨u, C, h1, h2, h3⟩ := r.get hx
    exact ⟨u, C, h1, h2, fun b hb => List.mem_cons_of_mem _ (h3 b hb)⟩
  · rename_i ns
    simp only [Rep] at r
    obtain ⟨a, o, rfl, q, rfl⟩ := r
    refine ⟨.l a, ns.map V.int, rfl, by simp, fun H' k => (q.keep k).sq, fun j x hx => ?_⟩
    rw [List.getElem?_map] at hx
    cases hc : ns[j]? with
    | none => rw [hc] at hx; cases hx
    | some c =>
      rw [hc] at hx; cases hx
      exact ⟨.int c, [], by rw [List.getElem?_map, hc]; rfl, by simp [Rep], fun _ z => (nomatch z)⟩
theorem zipD_len : ∀ (xs ys : List D), (zipD xs ys).length = min xs.length ys.length
  | [], ys => by simp [zipD]
  | x :: xs, [] => by simp [zipD]
  | x :: xs, y :: ys => by
    show (zipD xs ys).length + 1 = _
    rw [zipD_len xs ys]
    simp only [List.length_cons]
    omega
theorem zipD_get : ∀ {xs ys : List D} {i : Nat} {x y : D}, xs[i]? = some x → ys[i]? = some y → (zipD xs ys)[i]? = some (.tup [x, y])
  | [], _, _, _, _, h, _ => by simp at h
  | _ :: _, [], _, _, _, _, h => by simp at h
  | a :: xs, b :: ys, 0, x, y, h, h' => by
    simp at h h'; subst h h'; rfl
  | a :: xs, b :: ys, i + 1, x, y, h, h' => by
    show (zipD xs ys)[i]? = _
    exact zipD_get (by simpa using h) (by simpa using h')
theorem enumD_len : ∀ (n : Int) (xs : List D), (enumD n xs).length = xs.length
  | _, [] => rfl
  | n, x :: xs => by show (enumD (n + 1) xs).length + 1 = _; rw [enumD_len]; rfl
theorem enumD_get : ∀ {n : Int} {xs : List D} {i : Nat} {x : D}, xs[i]? = some x → (enumD n xs)[i]? = some (.tup [.int (n + (i : Nat)), x])
  | n, [], _, _, h => by simp at h
  | n, a :: xs, 0, x, h => by simp at h; subst h; simp [enumD]
  | n, a :: xs, i + 1, x, h => by
    show (enumD (n + 1) xs)[i]? = _
    rw [enumD_get (by simpa using h)]
    congr 4
    omega
theorem pair_rep {T : Addr} {x y : V} {d e : D} {A B : List Addr} (hT : H T = none) (r : Rep K H d x A) (q : Rep K H e y B) : Rep K (upd H T (.tup [x, y])) (.tup [d, e]) (.ref T) (A ++ B) := by
  have G : Grow H (upd H T (.tup [x, y])) := Grow.new hT
  simp only [Rep]
  refine ⟨T, [x, y], rfl, .inl (.inl upd_same), ?_⟩
  simp only [Reps]
  exact ⟨x, [y], A, B, rfl, Rep.keep d r (G.keep _), ⟨y, [], B, [], rfl, Rep.keep e q (G.keep _), ⟨rfl, rfl⟩, by simp⟩, rfl⟩
theorem walkD_zip {xs ys : List D} {S1 S2 : Src} {us ws : List V} {A B : List Addr} (l1 : us.length = xs.length) (l2 : ws.length = ys.length) (h1 : ∀ H', Keep H H' A → S1.has K H' us) (h2 : ∀ H', Keep H H' B → S2.has K H' ws)
    (r1 : ∀ (j : Nat) (x : D), xs[j]? = some x → ∃ u C, us[j]? = some u ∧ Rep K H x u C ∧ ∀ b ∈ C, b ∈ A) (r2 : ∀ (j : Nat) (x : D), ys[j]? = some x → ∃ u C, ws[j]? = some u ∧ Rep K H x u C ∧ ∀ b ∈ C, b ∈ B) :
    WalkD K (ItzS K S1 S2) (zipD xs ys) (A ++ B) H := by
  have kA : ∀ {H'}, Keep H H' (A ++ B) → Keep H H' A := fun k => k.mono fun b hb => List.mem_append_left _ hb
  have kB : ∀ {H'}, Keep H H' (A ++ B) → Keep H H' B := fun k => k.mono fun b hb => List.mem_append_right _ hb
  refine ⟨fun i H' hi k => ?_, fun H' k => ?_, fun i H' x H2 hi k y => ?_⟩
  · rw [zipD_len] at hi
    have i1 : i < us.length := by omega
    have i2 : i < ws.length := by omega
    exact ⟨us, ws, us[i], ws[i], h1 H' (kA k), h2 H' (kB k), List.getElem?_eq_getElem i1, List.getElem?_eq_getElem i2⟩
  · rw [zipD_len]
    refine ⟨us, ws, h1 H' (kA k), h2 H' (kB k), ?_, by omega⟩
    by_cases q : xs.length ≤ ys.length
    · left; omega
    · right; omega
  · obtain ⟨T, u, w, rfl, hT, rfl, f1, f2⟩ := y
    rw [zipD_len] at hi
    have e1 : xs[i]? = some xs[i] := List.getElem?_eq_getElem (by omega)
    have e2 : ys[i]? = some ys[i] := List.getElem?_eq_getElem (by omega)
    obtain ⟨u', C, g1, g2, g3⟩ := r1 i _ e1
    obtain ⟨w', C', g4, g5, g6⟩ := r2 i _ e2
    have q1 := f1 us (h1 _ (kA k))
    have q2 := f2 ws (h2 _ (kB k))
    rw [g1] at q1; cases q1
    rw [g4] at q2; cases q2
    exact ⟨Grow.new hT, _, C ++ C', zipD_get e1 e2, pair_rep hT (Rep.keep _ g2 ((kA k).mono g3)) (Rep.keep _ g5 ((kB k).mono g6)), fun b hb => (List.mem_append.mp hb).elim (fun z => List.mem_append_left _ (g3 b z)) fun z => List.mem_append_right _ (g6 b z)⟩
theorem walkD_enum {xs : List D} {S : Src} {us : List V} {A : List Addr} (l1 : us.length = xs.length) (h1 : ∀ H', Keep H H' A → S.has K H' us)
    (r1 : ∀ (j : Nat) (x : D), xs[j]? = some x → ∃ u C, us[j]? = some u ∧ Rep K H x u C ∧ ∀ b ∈ C, b ∈ A) : WalkD K (ItnS K S) (enumD 0 xs) A H := by
  refine ⟨fun i H' hi k => ?_, fun H' k => ?_, fun i H' x H2 hi k y => ?_⟩
  · rw [enumD_len] at hi
    have i1 : i < us.length := by omega
    exact ⟨us, us[i], h1 H' k, List.getElem?_eq_getElem i1⟩
  · rw [enumD_len]
    exact ⟨us, h1 H' k, l1.symm⟩
  · obtain ⟨T, u, rfl, hT, rfl, f1⟩ := y
    rw [enumD_len] at hi
    have e1 : xs[i]? = some xs[i] := List.getElem?_eq_getElem hi
    obtain ⟨u', C, g1, g2, g3⟩ := r1 i _ e1
    have q1 := f1 us (h1 _ k)
    rw [g1] at q1; cases q1
    refine ⟨Grow.new hT, _, [] ++ C, enumD_get e1, ?_, fun b hb => g3 b (by simpa using hb)⟩
    exact pair_rep hT (by simp [Rep]) (Rep.keep _ g2 (k.mono g3))
theorem snd_izip {t u : TE} {x y : Dn} (h : SndD K t x) (h' : SndD K u y) : SndI K (iZipS K (tAs [t, u])) (inZip x y) := by
  intro Γ ds Γ' e σ H g S R q
  simp only [inZip, Option.bind_eq_some_iff] at e
  obtain ⟨⟨es, fr, Γ1⟩, e1, e2⟩ := e
  simp only at e2
  split at e2
  · rename_i d1 d2
    simp only [Option.bind_eq_some_iff, Option.map_eq_some_iff] at e2
    obtain ⟨xs, e3, ys, e4, e5⟩ := e2
    obtain ⟨rfl, rfl⟩ : zipD xs ys = ds ∧ Γ1 = Γ' := by simpa using e5
    refine snd_seqE (.cons h (.cons h' .nil)) e1 S _ fun vs H1 g1 A S1 s1 r1 => ?_
    have rr := r1.rep
    simp only [Reps] at rr
    obtain ⟨v, vr, B, C, rfl, r2, ⟨w, wr, B2, C2, rfl, r3, ⟨rfl, rfl⟩, rfl⟩, rfl⟩ := rr
    obtain ⟨Z1, us, rfl, l1, h1, q1⟩ := src_of e3 r2
    obtain ⟨Z2, ws, rfl, l2, h2, q2⟩ := src_of e4 r3
    have kr : ∀ A, Keep H1 H1 A := fun A a o e _ => e
    refine ⟨Z1, Z2, us, ws, rfl, h1 _ (kr _), h2 _ (kr _), q _ H1 g1 (B ++ B2) S1 s1 (walkD_zip l1 l2 h1 h2 q1 q2) (fun a ha => r1.out a (by simpa using ha)) (fun a ha => r1.src a (by simpa using ha)) fun a ha => ?_⟩
    rcases List.mem_append.mp ha with z | z
    · obtain ⟨o, e, _⟩ := Rep.mut _ r2 a z; exact ⟨o, e⟩
    · obtain ⟨o, e, _⟩ := Rep.mut _ r3 a z; exact ⟨o, e⟩
  · cases e2
theorem snd_ienum {t : TE} {x : Dn} (h : SndD K t x) : SndI K (iEnumS K (tAs [t])) (inEnum x) := by
  intro Γ ds Γ' e σ H g S R q
  simp only [inEnum, Option.bind_eq_some_iff, Option.map_eq_some_iff] at e
  obtain ⟨⟨d, fr, Γ1⟩, e1, xs, e2, e3⟩ := e
  obtain ⟨rfl, rfl⟩ : enumD 0 xs = ds ∧ Γ1 = Γ' := by simpa using e3
  refine h.e Γ d fr Γ1 e1 σ H g S _ fun v H1 g1 A S1 s1 r1 => ?_
  obtain ⟨Z1, us, rfl, l1, h1, q1⟩ := src_of e2 r1.rep
  have kr : ∀ A, Keep H1 H1 A := fun A a o e _ => e
  exact ⟨Z1, us, rfl, h1 _ (kr _), q _ H1 g1 A S1 s1 (walkD_enum l1 h1 q1) r1.out r1.src fun a ha => by obtain ⟨o, e, _⟩ := Rep.mut _ r1.rep a ha; exact ⟨o, e⟩⟩
end
end WT

/-! WT: a local list that is walked by a comprehension and stays local. -/
namespace WT
open PySem L2
section
variable {K : PySem.W.Frag} {H H' H1 H2 H0 : Hp} {Γ Γ' Γ1 Γ2 Γ0 : Env} {g g' g1 g2 g0 : Nat → List Addr} {σ σ' : L2.St}
theorem StRel.hide (S : StRel K Γ g σ H) (i : Nat) : StRel K (Γ.set i .un) (putG g i []) σ H := by
  have off : ∀ j, j ≠ i → (Γ.set i .un)[j]? = Γ[j]? := fun j h => List.getElem?_set_ne (Ne.symm h)
  have at_ : ∀ s, (Γ.set i .un)[i]? = some s → s = .un := fun s e => by
    by_cases h : i < Γ.length
    · rw [List.getElem?_set_self h] at e; exact (Option.some.inj e).symm
    · rw [List.getElem?_eq_none (by rw [List.length_set]; omega)] at e; cases e
  refine ⟨by rw [List.length_set]; exact S.len, fun j d e => ?_, fun j d e => ?_, fun j e => ?_, fun j l hjl oj b hb => ?_⟩
  · by_cases h : j = i
    · subst h; cases at_ _ e
    · rw [off j h] at e; rw [putG_ne h]; exact S.val j d e
  · by_cases h : j = i
    · subst h; cases at_ _ e
    · rw [off j h] at e; rw [putG_ne h]; exact S.own j d e
  · by_cases h : j = i
    · subst h; exact putG_same
    · rw [off j h] at e; rw [putG_ne h]; exact S.un j e
  · by_cases h : j = i
    · subst h; rw [putG_same] at hb; cases hb
    · rw [putG_ne h] at hb
      by_cases h2 : l = i
      · subst h2; rw [putG_same]; exact fun z => nomatch z
      · rw [putG_ne h2]; exact S.sep j l hjl (isOwn_set oj h) b hb
theorem isOwn_un {i j : Nat} (h : isOwn (Γ.set i .un) j) : j ≠ i ∧ isOwn Γ j := by
  have hj : j ≠ i := fun z => by
    subst z
    obtain ⟨d, e⟩ := h
    by_cases hl : j < Γ.length
    · rw [List.getElem?_set_self hl] at e; cases e
    · rw [List.getElem?_eq_none (by rw [List.length_set]; omega)] at e; cases e
  exact ⟨hj, isOwn_set h hj⟩
theorem fp_hide {i : Nat} {a : Addr} (h : fpset (Γ.set i .un) (putG g i []) a) : fpset Γ g a := by
  obtain ⟨j, o, ha⟩ := h
  obtain ⟨hj, o'⟩ := isOwn_un o
  rw [putG_ne hj] at ha
  exact ⟨j, o', ha⟩
theorem reg_hide {i : Nat} {a : Addr} (h : reg (putG g i []) a) : ∃ j, j ≠ i ∧ a ∈ g j := by
  obtain ⟨j, ha⟩ := h
  by_cases hj : j = i
  · subst hj; rw [putG_same] at ha; cases ha
  · rw [putG_ne hj] at ha; exact ⟨j, hj, ha⟩
/-- what has come while slot i was hidden: the slot is as it was -/
theorem unhide {i : Nat} {a : Addr} {us : List V} {xs : List D} {d : D} {v : V} {A : List Addr} (S : StRel K Γ g σ H) (hi : Γ[i]? = some (.own (.lst xs))) (ev : σ[i]? = some (some (.ref a))) (ha : H a = some (.lst us)) (rx : Reps K H xs us []) (eg : g i = [a])
    (S2 : StRel K Γ2 g2 σ H2) (s2 : Step H (Γ.set i .un) (putG g i []) H2 Γ2 g2) (h2 : Γ2[i]? = some .un) (r : Res K H (Γ.set i .un) (putG g i []) d true H2 Γ2 g2 v A) :
    StRel K (Γ2.set i (.own (.lst xs))) (putG g2 i [a]) σ H2 ∧ Step H Γ g H2 (Γ2.set i (.own (.lst xs))) (putG g2 i [a]) ∧ Res K H Γ g d true H2 (Γ2.set i (.own (.lst xs))) (putG g2 i [a]) v A := by
  have oi : isOwn Γ i := ⟨_, hi⟩
  have ai : a ∈ g i := by rw [eg]; simp
  have nfp : ¬ fpset (Γ.set i .un) (putG g i []) a := fun ⟨j, o, hj⟩ => by
    obtain ⟨nj, o'⟩ := isOwn_un o
    rw [putG_ne nj] at hj
    exact S.sep i j (Ne.symm nj) oi a ai hj
  have ha2 : H2 a = some (.lst us) := s2.keep a _ ha nfp
  have nreg : ¬ reg g2 a := fun q => by
    rcases s2.reg a q with q | q
    · obtain ⟨j, hj, z⟩ := reg_hide q
      exact S.sep i j (Ne.symm hj) oi a ai z
    · rw [ha] at q; cases q
  have kk : Keep H H2 [] := s2.keeps (S.hide i) fun _ z => (nomatch z)
  have off : ∀ j, j ≠ i → (Γ2.set i (.own (.lst xs)))[j]? = Γ2[j]? := fun j h => List.getElem?_set_ne (Ne.symm h)
  have at_ : (Γ2.set i (.own (.lst xs)))[i]? = some (.own (.lst xs)) := set_self h2
  have rl : Rep K H2 (.lst xs) (.ref a) [a] := by
    simp only [Rep]
    exact ⟨a, us, [], rfl, ha2, Reps.keep xs rx kk, rfl⟩
  have nA := (r.new rfl).2
  have nAi : ∀ b ∈ A, b ≠ a := fun b hb z => by
    subst z
    have := (nA b hb).1
    rw [ha] at this; cases this
  have nregA : ∀ b ∈ A, ¬ reg (putG g2 i [a]) b := fun b hb ⟨j, hj⟩ => by
    by_cases h : j = i
    · subst h; rw [putG_same] at hj; exact nAi b hb (by simpa using hj)
    · rw [putG_ne h] at hj; exact (nA b hb).2 ⟨j, hj⟩
  refine ⟨⟨by rw [List.length_set]; exact S2.len, fun j x e => ?_, fun j x e => ?_, fun j e => ?_, fun j l hjl oj b hb z => ?_⟩, ⟨fun b o e n => s2.keep b o e fun f => n (fp_hide f), s2.mono, fun j oj b hb => ?_, fun b ⟨j, hb⟩ => ?_⟩, ⟨r.rep, fun b hb f => nregA b hb (StRel.fp_reg f), fun b hb => .inr (nA b hb).1, fun _ => ⟨(r.new rfl).1, fun b hb => ⟨(nA b hb).1, nregA b hb⟩⟩⟩⟩
  · by_cases h : j = i
    · subst h; rw [at_] at e; cases e
    · rw [off j h] at e; rw [putG_ne h]; exact S2.val j x e
  · by_cases h : j = i
    · subst h; rw [at_] at e; cases e
      rw [putG_same]
      exact ⟨_, ev, rl, by simp⟩
    · rw [off j h] at e; rw [putG_ne h]; exact S2.own j x e
  · by_cases h : j = i
    · subst h; rw [at_] at e; rcases e with e | e <;> cases e
    · rw [off j h] at e; rw [putG_ne h]; exact S2.un j e
  · by_cases h : j = i
    · subst h
      rw [putG_same] at hb
      have : b = a := by simpa using hb
      subst this
      rw [putG_ne (Ne.symm hjl)] at z
      exact nreg ⟨l, z⟩
    · rw [putG_ne h] at hb
      by_cases h2' : l = i
      · subst h2'
        rw [putG_same] at z
        have : b = a := by simpa using z
        subst this
        exact nreg ⟨j, hb⟩
      · rw [putG_ne h2'] at z
        obtain ⟨x, e⟩ := oj
        rw [off j h] at e
        exact S2.sep j l hjl ⟨x, e⟩ b hb z
  · by_cases h : j = i
    · subst h
      rw [putG_same] at hb
      have : b = a := by simpa using hb
      subst this
      exact .inl ⟨oi, ai⟩
    · rw [putG_ne h] at hb
      obtain ⟨x, e⟩ := oj
      rw [off j h] at e
      rcases s2.own j ⟨x, e⟩ b hb with ⟨o, q⟩ | q
      · obtain ⟨nj, o'⟩ := isOwn_un o
        rw [putG_ne nj] at q
        exact .inl ⟨o', q⟩
      · exact .inr q
  · by_cases h : j = i
    · subst h
      rw [putG_same] at hb
      have : b = a := by simpa using hb
      subst this
      exact .inl ⟨j, ai⟩
    · rw [putG_ne h] at hb
      rcases s2.reg b ⟨j, hb⟩ with q | q
      · obtain ⟨l, _, z⟩ := reg_hide q
        exact .inl ⟨l, z⟩
      · exact .inr q
theorem immL_zip : ∀ {xs ys : List D}, immL xs = true → immL ys = true → immL (zipD xs ys) = true
  | [], _, _, _ => by simp [zipD, immL]
  | _ :: _, [], _, _ => by simp [zipD, immL]
  | x :: xs, y :: ys, h, h' => by
    simp only [immL, Bool.and_eq_true] at h h'
    simp [zipD, immL, WT.imm, h.1, h'.1, immL_zip h.2 h'.2]
def wHid (K : PySem.W.Frag) (i : Nat) : Option Nat → TI
  | none => iVal K (tVar i)
  | some j => iZipS K (tAs [tVar i, tVar j])
theorem snd_compo {i : Nat} {j : Option Nat} {vs : List Nat} {io : Nat → Bool} {tg : TG} {gn : Gn} {tt : TT} {t : Env → Option (Bool × Env)} {te : TE} {e : Dn} (hg : SndG K io vs tg gn) (ht : SndT K tt t) (he : SndE K te e.e) :
    SndE K (tLc (wHid K i j) tg tt te vs) (dCompH i j vs gn t e).e := by
  intro Γ d fr Γ' ev σ H g S Q h
  simp only [dCompH, mkDn] at ev
  split at ev
  case h_2 => cases ev
  rename_i xs hi
  split at ev
  case isFalse => cases ev
  rename_i hc
  simp only [Bool.and_eq_true] at hc
  obtain ⟨⟨him, no⟩, _⟩ := hc
  simp only [Option.bind_eq_some_iff] at ev
  obtain ⟨ds, ed, ⟨ys, fr0, Γ2⟩, ec, e2⟩ := ev
  simp only at e2
  split at e2
  case h_2 => cases e2
  rename_i hu
  split at e2
  case isFalse => cases e2
  rename_i hfr
  cases e2
  subst hfr
  obtain ⟨v, evv, rv, nd⟩ := S.own i _ hi
  have rv0 := rv
  simp only [Rep] at rv
  obtain ⟨a, us, B, rfl, ha, rx, eg⟩ := rv
  obtain rfl : B = [] := Reps.imm xs rx him
  have oi : isOwn Γ i := ⟨_, hi⟩
  have ai : a ∈ g i := by rw [eg]; simp
  have Sh := S.hide i
  have nfp : ∀ b ∈ [a], ¬ fpset (Γ.set i .un) (putG g i []) b := fun b hb ⟨l, o, hl⟩ => by
    have : b = a := by simpa using hb
    subst this
    obtain ⟨nl, o'⟩ := isOwn_un o
    rw [putG_ne nl] at hl
    exact S.sep i l (Ne.symm nl) oi b ai hl
  refine snd_comp_at (Γ := Γ.set i .un) (Γ1 := Γ.set i .un) (gs := putG g i []) hg ht he (ds := ds) (fun R q => ?_) no ec Q fun v H' g' A S' s' r => ?_
  · cases j with
    | none =>
      simp only [hidI, Option.some.injEq] at ed
      subst ed
      refine .inl ⟨.ref a, evv, a, rfl, ⟨us, SqL.of ha⟩, ?_⟩
      exact q _ H _ [a] Sh .refl (walkD_list ha rx) nfp (.inr him) fun b hb => by
        have : b = a := by simpa using hb
        subst this; exact ⟨_, ha⟩
    | some j =>
      simp only [hidI] at ed
      split at ed
      · cases ed
      · rename_i hij
        simp only [Option.bind_eq_some_iff] at ed
        obtain ⟨d2, er, ys2, ei, e3⟩ := ed
        split at e3 <;> cases e3
        rename_i him2
        rw [Bool.and_eq_true] at him2
        obtain ⟨w, ew, rw2⟩ := S.rd er
        obtain ⟨Z1, us1, ez1, l1, q1, p1⟩ := src_of (show items (.lst xs) = some xs from rfl) rv0
        obtain ⟨Z2, ws, rfl, l2, q2, p2⟩ := src_of ei rw2
        have kr : ∀ A, Keep H H A := fun A a o e _ => e
        have gj : g j = [] := Rep.imm d2 rw2 him2.1
        rw [gj] at q2 p2
        rw [eg] at q1 p1
        refine ⟨.ref a, evv, Z2.v, ew, Z1, Z2, us1, ws, by rw [ez1], q1 _ (kr _), q2 _ (kr _), ?_⟩
        exact q _ H _ ([a] ++ []) Sh .refl (walkD_zip l1 l2 q1 q2 p1 p2) (fun b hb => nfp b (by simpa using hb)) (.inr (immL_zip him him2.2)) fun b hb => by
          have : b = a := by simpa using hb
          subst this; exact ⟨_, ha⟩
  · obtain ⟨a1, a2, a3⟩ := unhide S hi evv ha rx eg S' s' hu r
    exact h v H' _ A a1 a2 a3
end
end WT

/-! WT: calls. -/
namespace WT
open PySem L2
section
variable {K : PySem.W.Frag} {X : Cx} {H H' H1 H2 H0 : Hp} {Γ Γ' Γ1 Γ2 Γ0 : Env} {g g' g1 g2 g0 : Nat → List Addr} {σ σ' : L2.St}
/-- what a changed parameter must be: alone -/
def IoSep (io : Option Nat) (As : List (List Addr)) : Prop := ∀ p B, io = some p → As[p]? = some B → B.Nodup ∧ ∀ q C, q ≠ p → As[q]? = some C → Dj B C
structure CallPost (K : PySem.W.Frag) (io : Option Nat) (H : Hp) (vs : List V) (As : List (List Addr)) (d : D) (fr : Bool) (o : Option D) (H' : Hp) (v : V) (A : List Addr) : Prop where
  keep : ∀ a ob, H a = some ob → (∀ p B, io = some p → As[p]? = some B → a ∉ B) → H' a = some ob
  mono : ∀ a, H' a = none → H a = none
  rep : Rep K H' d v A
  src : ∀ a ∈ A, a ∈ As.flatten ∨ H a = none
  new : fr = true → A.Nodup ∧ ∀ a ∈ A, H a = none
  io : ∀ p, io = some p → ∃ o' w B B', o = some o' ∧ vs[p]? = some w ∧ As[p]? = some B ∧ Rep K H' o' w B' ∧ B'.Nodup ∧ (∀ b ∈ B', b ∈ B ∨ H b = none) ∧ ∀ a ∈ A, a ∉ B'
/-- a def's promise: what the evaluator says -/
def spF (K : PySem.W.Frag) (np : Nat) (io : Option Nat) (r : List D → Option (D × Bool × Option D)) : Sp := fun vs H Q _ =>
  vs.length = np ∧ ∃ ds As d fr o, r ds = some (d, fr, o) ∧ Reps3 K H ds vs As ∧ IoSep io As ∧ ∀ v H' A, CallPost K io H vs As d fr o H' v A → Q v H'

/-! ### operands by place -/
theorem ArgsR.lens : ∀ {as : List Arg} {vs : List V} {As : List (List Addr)}, ArgsR K σ H Γ g H' Γ' g' as vs As → vs.length = as.length ∧ As.length = as.length
  | _, _, _, .nil => ⟨rfl, rfl⟩
  | _, _, _, .cons _ _ q _ => by simp [q.lens.1, q.lens.2]
theorem ArgsR.at : ∀ {as : List Arg} {vs : List V} {As : List (List Addr)}, ArgsR K σ H Γ g H' Γ' g' as vs As → ∀ (j : Nat) (a : Arg), as[j]? = some a → ∃ v A, vs[j]? = some v ∧ As[j]? = some A ∧ ArgR K σ H Γ g a H' Γ' g' v A ∧ (∀ i, a = .pl i → A = [])
  | _, _, _, .nil, j, a, e => by simp at e
  | _, _, _, .cons r n q _, 0, a, e => by
    simp at e; subst e
    exact ⟨_, _, rfl, rfl, r, n⟩
  | _, _, _, .cons r n q _, j + 1, a, e => by
    obtain ⟨v, A, h1, h2, h3, h4⟩ := ArgsR.at q j a (by simpa using e)
    exact ⟨v, A, by simpa using h1, by simpa using h2, h3, h4⟩
theorem ArgsR.dj : ∀ {as : List Arg} {vs : List V} {As : List (List Addr)}, ArgsR K σ H Γ g H' Γ' g' as vs As → ∀ (j l : Nat) (a b : Arg) (A B : List Addr), j ≠ l → as[j]? = some a → as[l]? = some b → As[j]? = some A → As[l]? = some B → (a.fr = true ∨ b.fr = true) → Dj A B
  | _, _, _, .nil, j, l, a, b, A, B, n, e, _, _, _, _ => by simp at e
  | _, _, _, .cons r n q d, 0, 0, a, b, A, B, ne, _, _, _, _, _ => absurd rfl ne
  | _, _, _, .cons (as := as) (As := As) r n q d, 0, l + 1, a, b, A, B, ne, e1, e2, e3, e4, f => by
    simp at e1 e3; subst e1 e3
    have hm : (b, B) ∈ as.zip As := by
      have : (as.zip As)[l]? = some (b, B) := by
        rw [List.getElem?_zip_eq_some]
        exact ⟨by simpa using e2, by simpa using e4⟩
      exact List.mem_of_getElem? this
    exact d (b, B) hm f
  | _, _, _, .cons (as := as) (As := As) r n q d, j + 1, 0, a, b, A, B, ne, e1, e2, e3, e4, f => by
    simp at e2 e4; subst e2 e4
    have hm : (a, A) ∈ as.zip As := by
      have : (as.zip As)[j]? = some (a, A) := by
        rw [List.getElem?_zip_eq_some]
        exact ⟨by simpa using e1, by simpa using e3⟩
      exact List.mem_of_getElem? this
    exact (d (a, A) hm f.symm).symm
  | _, _, _, .cons r n q d, j + 1, l + 1, a, b, A, B, ne, e1, e2, e3, e4, f => ArgsR.dj q j l a b A B (fun z => ne (by rw [z])) (by simpa using e1) (by simpa using e2) (by simpa using e3) (by simpa using e4) f
/-- the operands in the parameters' order -/
structure ArgsP (K : PySem.W.Frag) (σ : L2.St) (H : Hp) (Γ : Env) (g : Nat → List Addr) (H' : Hp) (Γ' : Env) (g' : Nat → List Addr) (as : List Arg) (vs : List V) (As : List (List Addr)) : Prop where
  l1 : vs.length = as.length
  l2 : As.length = as.length
  at_ : ∀ (j : Nat) (a : Arg), as[j]? = some a → ∃ v A, vs[j]? = some v ∧ As[j]? = some A ∧ ArgR K σ H Γ g a H' Γ' g' v A ∧ (∀ i, a = .pl i → A = [])
  dj : ∀ (j l : Nat) (a b : Arg) (A B : List Addr), j ≠ l → as[j]? = some a → as[l]? = some b → As[j]? = some A → As[l]? = some B → (a.fr = true ∨ b.fr = true) → Dj A B
theorem ArgsR.p {as : List Arg} {vs : List V} {As : List (List Addr)} (r : ArgsR K σ H Γ g H' Γ' g' as vs As) : ArgsP K σ H Γ g H' Γ' g' as vs As := ⟨r.lens.1, r.lens.2, r.at, r.dj⟩
theorem ordL_get {α : Type} {as bs : List α} {ix : List Nat} (h : ix ≠ []) (e : ordL as ix = some bs) : bs.length = ix.length ∧ ∀ p : Nat, bs[p]? = (ix[p]?).bind fun j => as[j]? := by
  unfold ordL at e
  rw [if_neg h] at e
  clear h
  induction ix generalizing bs with
  | nil => simp at e; subst e; exact ⟨rfl, fun p => by simp⟩
  | cons i ix ih =>
    simp only [List.mapM_cons, Option.bind_eq_bind, Option.bind_eq_some_iff, Option.pure_def, Option.some.injEq] at e
    obtain ⟨b, h1, r, h2, rfl⟩ := e
    obtain ⟨h3, h4⟩ := ih h2
    refine ⟨by simp [h3], fun p => ?_⟩
    cases p with
    | zero => simp [h1]
    | succ p => simpa using h4 p
theorem ordL_ex {α β : Type} {as bs : List α} {vs : List β} {ix : List Nat} (hl : vs.length = as.length) (e : ordL as ix = some bs) : ∃ ws, ordL vs ix = some ws := by
  by_cases h : ix = []
  · exact ⟨vs, by unfold ordL; rw [if_pos h]⟩
  · unfold ordL at e ⊢
    rw [if_neg h] at e ⊢
    clear h
    induction ix generalizing bs with
    | nil => exact ⟨[], rfl⟩
    | cons i ix ih =>
      simp only [List.mapM_cons, Option.bind_eq_bind, Option.bind_eq_some_iff, Option.pure_def, Option.some.injEq] at e
      obtain ⟨b, h1, r, h2, rfl⟩ := e
      obtain ⟨ws, h3⟩ := ih h2
      have hi : i < vs.length := by rw [hl]; exact (List.getElem?_eq_some_iff.mp h1).1
      exact ⟨vs[i] :: ws, by simp [List.mapM_cons, List.getElem?_eq_getElem hi, h3]⟩
theorem ArgsP.ord {as bs : List Arg} {vs : List V} {As : List (List Addr)} {ix : List Nat} (r : ArgsP K σ H Γ g H' Γ' g' as vs As) (hn : ix.Nodup) (e : ordL as ix = some bs) :
    ∃ ws Bs, ordL vs ix = some ws ∧ ArgsP K σ H Γ g H' Γ' g' bs ws Bs := by
  by_cases h : ix = []
  · subst h
    unfold ordL at e
    rw [if_pos rfl] at e; cases e
    exact ⟨vs, As, by unfold ordL; rw [if_pos rfl], r⟩
  · obtain ⟨ws, h1⟩ := ordL_ex (vs := vs) r.l1 e
    obtain ⟨Bs, h2⟩ := ordL_ex (vs := As) r.l2 e
    obtain ⟨la, ga⟩ := ordL_get h e
    obtain ⟨lv, gv⟩ := ordL_get h h1
    obtain ⟨lA, gA⟩ := ordL_get h h2
    have un : ∀ {p : Nat} {a : Arg}, bs[p]? = some a → ∃ j, ix[p]? = some j ∧ as[j]? = some a := fun {p a} q => by
      rw [ga p, Option.bind_eq_some_iff] at q
      exact q
    refine ⟨ws, Bs, h1, ⟨by rw [lv, la], by rw [lA, la], fun p a q => ?_, fun p l a b A B ne q1 q2 q3 q4 f => ?_⟩⟩
    · obtain ⟨j, e1, e2⟩ := un q
      obtain ⟨v, A, h3, h4, h5, h6⟩ := r.at_ j a e2
      exact ⟨v, A, by rw [gv p, e1]; exact h3, by rw [gA p, e1]; exact h4, h5, h6⟩
    · obtain ⟨j1, e1, e2⟩ := un q1
      obtain ⟨j2, e3, e4⟩ := un q2
      rw [gA p, e1] at q3
      rw [gA l, e3] at q4
      refine r.dj j1 j2 a b A B (fun z => ne ?_) e2 e4 (by simpa using q3) (by simpa using q4) f
      subst z
      obtain ⟨a1, b1⟩ := List.getElem?_eq_some_iff.mp e1
      obtain ⟨a2, b2⟩ := List.getElem?_eq_some_iff.mp e3
      exact (List.getElem_inj hn).mp (b1.trans b2.symm)
/-- footprints as they are used -/
def useP (g : Nat → List Addr) (as : List Arg) (As : List (List Addr)) : List (List Addr) := useAs g as As
theorem useAs_get (g : Nat → List Addr) : ∀ {as : List Arg} {As : List (List Addr)} {j : Nat} {a : Arg} {A : List Addr}, as[j]? = some a → As[j]? = some A → (useAs g as As)[j]? = some (useA g a A)
  | [], _, j, a, A, e, _ => by simp at e
  | x :: as, [], j, a, A, _, e => by simp at e
  | x :: as, Y :: As, 0, a, A, e, e' => by simp at e e'; subst e e'; rfl
  | x :: as, Y :: As, j + 1, a, A, e, e' => by
    show (useAs g as As)[j]? = _
    exact useAs_get g (by simpa using e) (by simpa using e')
theorem useAs_inv (g : Nat → List Addr) : ∀ {as : List Arg} {As : List (List Addr)} {j : Nat} {C : List Addr}, (useAs g as As)[j]? = some C → ∃ a A, as[j]? = some a ∧ As[j]? = some A ∧ C = useA g a A
  | [], As, j, C, e => by cases As <;> simp [useAs] at e
  | x :: as, [], j, C, e => by simp [useAs] at e
  | x :: as, Y :: As, 0, C, e => by simp [useAs] at e; exact ⟨x, Y, rfl, rfl, e.symm⟩
  | x :: as, Y :: As, j + 1, C, e => by
    obtain ⟨a, A, h1, h2, h3⟩ := useAs_inv g (as := as) (As := As) (j := j) (by simpa [useAs] using e)
    exact ⟨a, A, by simpa using h1, by simpa using h2, h3⟩
theorem reps3_of (S : StRel K Γ' g' σ H') : ∀ {as : List Arg} {vs : List V} {As : List (List Addr)} {ds : List D}, ArgsP K σ H Γ g H' Γ' g' as vs As → getAll Γ' as = some ds → Reps3 K H' ds vs (useAs g' as As)
  | [], vs, As, ds, r, e => by
    have h1 := r.l1
    have h2 := r.l2
    cases vs <;> cases As <;> first | (simp at h1; done) | (simp at h2; done) | (cases e; exact .nil)
  | a :: as, vs, As, ds, r, e => by
    have h1 := r.l1
    have h2 := r.l2
    cases vs with
    | nil => simp at h1
    | cons v vs =>
      cases As with
      | nil => simp at h2
      | cons A As =>
        simp only [getAll, Option.bind_eq_some_iff, Option.map_eq_some_iff] at e
        obtain ⟨x, e1, xs, e2, rfl⟩ := e
        obtain ⟨v', A', h3, h4, h5, _⟩ := r.at_ 0 a rfl
        simp at h3 h4; subst h3 h4
        refine .cons (h5.use S e1) (reps3_of S ⟨by simpa using h1, by simpa using h2, fun j b q => ?_, fun j l b c B C ne q1 q2 q3 q4 f => ?_⟩ e2)
        · obtain ⟨w, B, h6, h7, h8⟩ := r.at_ (j + 1) b (by simpa using q)
          exact ⟨w, B, by simpa using h6, by simpa using h7, h8⟩
        · exact r.dj (j + 1) (l + 1) b c B C (by omega) (by simpa using q1) (by simpa using q2) (by simpa using q3) (by simpa using q4) f
theorem flat_get {As : List (List Addr)} {b : Addr} (h : b ∈ As.flatten) : ∃ (j : Nat) (C : List Addr), As[j]? = some C ∧ b ∈ C := by
  obtain ⟨C, h1, h2⟩ := List.mem_flatten.mp h
  obtain ⟨j, h3⟩ := List.getElem?_of_mem h1
  exact ⟨j, C, h3, h2⟩
theorem ArgsP.used {as : List Arg} {vs : List V} {As : List (List Addr)} (r : ArgsP K σ H Γ g H' Γ' g' as vs As) {j : Nat} {C : List Addr} (e : (useAs g' as As)[j]? = some C) {b : Addr} (hb : b ∈ C) :
    ∃ a, as[j]? = some a ∧ ((∃ i, a = .pl i ∧ b ∈ g' i) ∨ ((reg g b ∨ H b = none) ∧ ¬ fpset Γ' g' b)) := by
  obtain ⟨a, A, h1, h2, rfl⟩ := useAs_inv g' e
  obtain ⟨v, A', h3, h4, h5, h6⟩ := r.at_ j a h1
  rw [h2] at h4; cases h4
  refine ⟨a, h1, ?_⟩
  cases a with
  | v x fr => exact .inr ⟨Res.src h5 b hb, Res.out h5 b hb⟩
  | pl i => exact .inl ⟨i, rfl, hb⟩
/-- the parameter that is changed stands alone -/
theorem ioSep_of {as : List Arg} {vs : List V} {As : List (List Addr)} {p : Nat} {a : Arg} (S : StRel K Γ' g' σ H') (r : ArgsP K σ H Γ g H' Γ' g' as vs As) (hp : as[p]? = some a)
    (ha : (∃ d, a = .v d true) ∨ ∃ i, a = .pl i ∧ isOwn Γ' i ∧ ∀ q, q ≠ p → as[q]? ≠ some (.pl i)) : IoSep (some p) (useAs g' as As) := by
  intro p' B ep eB
  cases ep
  obtain ⟨a', A, h1, h2, rfl⟩ := useAs_inv g' eB
  rw [hp] at h1; cases h1
  obtain ⟨v, A', h3, h4, h5, h6⟩ := r.at_ p a hp
  rw [h2] at h4; cases h4
  rcases ha with ⟨d, rfl⟩ | ⟨i, rfl, oi, hq⟩
  · have rr : Res K H Γ g d true H' Γ' g' v A := h5
    refine ⟨(rr.new rfl).1, fun q C ne eC => ?_⟩
    obtain ⟨b, B, q1, q2, rfl⟩ := useAs_inv g' eC
    cases b with
    | v x fr => exact r.dj p q _ _ A B (Ne.symm ne) hp q1 h2 q2 (.inl rfl)
    | pl l => exact fun z hz hz' => ((rr.new rfl).2 z hz).2 ⟨l, hz'⟩
  · obtain ⟨dd, ed⟩ := oi
    obtain ⟨_, _, _, nd⟩ := S.own i dd ed
    refine ⟨nd, fun q C ne eC => ?_⟩
    obtain ⟨b, B, q1, q2, rfl⟩ := useAs_inv g' eC
    cases b with
    | v x fr =>
      obtain ⟨w, B', h7, h8, h9, _⟩ := r.at_ q _ q1
      rw [q2] at h8; cases h8
      exact fun z hz hz' => Res.out h9 z hz' ⟨i, ⟨dd, ed⟩, hz⟩
    | pl l => exact fun z hz hz' => S.sep i l (fun y => hq q ne (y ▸ q1)) ⟨dd, ed⟩ z hz hz'
/-- an owned slot's object is changed by a callee -/
theorem own_call (s : Step H0 Γ0 g0 H Γ g) (S : StRel K Γ g σ H) {i : Nat} {w : V} {d d' : D} {B' : List Addr} (hi : Γ[i]? = some (.own d)) (ev : σ[i]? = some (some w)) (keep : ∀ a o, H a = some o → a ∉ g i → H' a = some o) (mono : ∀ a, H' a = none → H a = none)
    (r' : Rep K H' d' w B') (nd : B'.Nodup) (hB : ∀ b ∈ B', b ∈ g i ∨ H b = none) :
    StRel K (Γ.set i (.own d')) (putG g i B') σ H' ∧ Step H0 Γ0 g0 H' (Γ.set i (.own d')) (putG g i B') := by
  have oi : isOwn Γ i := ⟨d, hi⟩
  have kp : ∀ j, j ≠ i → Keep H H' (g j) := fun j hj b o e q => by
    refine keep b o e fun z => ?_
    rcases q with q | q
    · exact S.sep i j (Ne.symm hj) oi b z q
    · obtain ⟨o2, e2, m⟩ := S.mut z
      rw [e] at e2; cases e2; rw [q] at m; cases m
  have freshR : ∀ b, H b = none → ¬ reg g b := fun b e q => by obtain ⟨o, e2⟩ := S.reg_some q; rw [e] at e2; cases e2
  constructor
  · refine ⟨by rw [List.length_set]; exact S.len, fun j x e => ?_, fun j x e => ?_, fun j e => ?_, fun j l hjl oj b hb => ?_⟩
    · by_cases hj : j = i
      · subst hj; rw [set_self hi] at e; cases e
      · rw [List.getElem?_set_ne (Ne.symm hj)] at e
        obtain ⟨v, e1, r⟩ := S.val j x e
        rw [putG_ne hj]
        exact ⟨v, e1, Rep.keep x r (kp j hj)⟩
    · by_cases hj : j = i
      · subst hj; rw [set_self hi] at e; cases e
        rw [putG_same]
        exact ⟨_, ev, r', nd⟩
      · rw [List.getElem?_set_ne (Ne.symm hj)] at e
        obtain ⟨v, e1, r, n⟩ := S.own j x e
        rw [putG_ne hj]
        exact ⟨v, e1, Rep.keep x r (kp j hj), n⟩
    · by_cases hj : j = i
      · subst hj; rw [set_self hi] at e; rcases e with e | e <;> cases e
      · rw [List.getElem?_set_ne (Ne.symm hj)] at e
        rw [putG_ne hj]
        exact S.un j e
    · by_cases hj : j = i
      · subst hj
        rw [putG_same] at hb
        rw [putG_ne (Ne.symm hjl)]
        rcases hB b hb with q | q
        · exact S.sep j l hjl oi b q
        · exact fun z => freshR b q ⟨l, z⟩
      · rw [putG_ne hj] at hb
        by_cases hl : l = i
        · subst hl
          rw [putG_same]
          intro z
          rcases hB b z with q | q
          · exact S.sep j l hjl (isOwn_set oj hj) b hb q
          · exact freshR b q ⟨j, hb⟩
        · rw [putG_ne hl]
          exact S.sep j l hjl (isOwn_set oj hj) b hb
  · refine ⟨fun b o e n => ?_, fun b e => s.mono b (mono b e), fun j oj b hb => ?_, fun b hb => ?_⟩
    · refine keep b o (s.keep b o e n) fun z => ?_
      rcases s.fp ⟨i, oi, z⟩ with q | q
      · exact n q
      · rw [e] at q; cases q
    · by_cases hj : j = i
      · subst hj
        rw [putG_same] at hb
        rcases hB b hb with q | q
        · exact s.own j oi b q
        · exact .inr (s.mono b q)
      · rw [putG_ne hj] at hb
        exact s.own j (isOwn_set oj hj) b hb
    · obtain ⟨j, hb⟩ := hb
      by_cases hj : j = i
      · subst hj
        rw [putG_same] at hb
        rcases hB b hb with q | q
        · exact s.reg b ⟨j, q⟩
        · exact .inr (s.mono b q)
      · rw [putG_ne hj] at hb
        exact s.reg b ⟨j, hb⟩
end
end WT

/-! WT: calls, the whole. -/
namespace WT
open PySem L2
section
variable {K : PySem.W.Frag} {X : Cx} {H H' H1 H2 H0 : Hp} {Γ Γ' Γ1 Γ2 Γ0 Γx : Env} {g g' g1 g2 g0 gx : Nat → List Addr} {σ σ' : L2.St}
theorem fin_call {as bs : List Arg} {vs : List V} {As : List (List Addr)} {d : D} {fr : Bool} {v : V} {A : List Addr} (S1 : StRel K Γ1 g1 σ H1) (s1 : Step H Γ g H1 Γ1 g1) (rp : ArgsP K σ H Γ g H1 Γ1 g1 as vs As) (Sx : StRel K Γx gx σ H2) (sx : Step H Γ g H2 Γx gx)
    (rep : Rep K H2 d v A) (src : ∀ a ∈ A, a ∈ (useAs g1 as As).flatten ∨ H1 a = none) (new : fr = true → A.Nodup ∧ ∀ a ∈ A, H1 a = none)
    (hx : ∀ a ∈ A, ∀ j, isOwn Γx j → a ∈ gx j → isOwn Γ1 j ∧ a ∈ g1 j) (hr : ∀ a ∈ A, reg gx a → reg g1 a) (hb : ∀ (q l : Nat), as[q]? = some (.pl l) → Arg.pl l ∈ bs ∨ ∀ a ∈ A, a ∉ gx l)
    {d' : D} {fr' : Bool} {Γ' : Env} (e : (if (WT.imm d || fr) = true then (d, true, Γx) else (d, false, frz bs Γx)) = (d', fr', Γ')) :
    StRel K Γ' gx σ H2 ∧ Step H Γ g H2 Γ' gx ∧ Res K H Γ g d' fr' H2 Γ' gx v A := by
  have inReg : ∀ a, H1 a = none → ¬ reg g1 a := fun a e q => by obtain ⟨o, e2⟩ := S1.reg_some q; rw [e] at e2; cases e2
  have srcH : ∀ a ∈ A, reg g a ∨ H a = none := fun a ha => by
    rcases src a ha with q | q
    · obtain ⟨j, C, h1, h2⟩ := flat_get q
      obtain ⟨ar, _, h3⟩ := rp.used h1 h2
      rcases h3 with ⟨i, _, hi⟩ | ⟨h3, _⟩
      · exact s1.reg a ⟨i, hi⟩
      · exact h3
    · exact .inr (s1.mono a q)
  by_cases hc : (WT.imm d || fr) = true
  · rw [if_pos hc] at e
    cases e
    have fresh : A.Nodup ∧ ∀ a ∈ A, H1 a = none := by
      rw [Bool.or_eq_true] at hc
      rcases hc with hc | hc
      · rw [Rep.imm _ rep hc]; exact ⟨List.nodup_nil, fun _ z => (nomatch z)⟩
      · exact new hc
    refine ⟨Sx, sx, rep, fun a ha f => ?_, srcH, fun _ => ⟨fresh.1, fun a ha => ⟨s1.mono a (fresh.2 a ha), fun q => inReg a (fresh.2 a ha) (hr a ha q)⟩⟩⟩
    exact inReg a (fresh.2 a ha) (hr a ha (StRel.fp_reg f))
  · rw [if_neg hc] at e
    cases e
    refine ⟨StRel.frz bs Sx, sx.trans (Step.frz bs), rep, fun a ha f => ?_, srcH, fun z => (nomatch z)⟩
    obtain ⟨j, o, hj⟩ := f
    obtain ⟨o1, ne⟩ := isOwn_frz o
    obtain ⟨o2, hj2⟩ := hx a ha j o1 hj
    rcases src a ha with q | q
    · obtain ⟨k, C, h1, h2⟩ := flat_get q
      obtain ⟨ar, h4, h3⟩ := rp.used h1 h2
      rcases h3 with ⟨i, rfl, hi⟩ | ⟨_, h3⟩
      · by_cases z : j = i
        · subst z
          rcases hb k j h4 with z | z
          · exact ne j z rfl
          · exact z a ha hj
        · exact S1.sep j i z o2 a hj2 hi
      · exact h3 ⟨j, o2, hj2⟩
    · exact inReg a q ⟨j, hj2⟩
theorem mem_erase {as : List Arg} {p q : Nat} {b : Arg} (h : as[q]? = some b) (ne : q ≠ p) : b ∈ as.eraseIdx p := by
  rw [erase_td]
  rcases Nat.lt_or_ge q p with z | z
  · refine List.mem_append_left _ ?_
    have : (as.take p)[q]? = some b := by rw [List.getElem?_take_of_lt z]; exact h
    exact List.mem_of_getElem? this
  · refine List.mem_append_right _ ?_
    have : (as.drop (p + 1))[q - (p + 1)]? = some b := by rw [List.getElem?_drop, show p + 1 + (q - (p + 1)) = q by omega]; exact h
    exact List.mem_of_getElem? this
/-- THE call -/
theorem snd_call {F : FT} {f np : Nat} {io : Option Nat} {ix : List Nat} {ts : List TE} {xs : List Dn} {R : List V → Hp → VK → Prop} {t : TE} {E : XK} (hs : SndDs K ts xs) (hn : ix.Nodup) (hnp : ∀ ds r, F f ds = some r → ds.length = np)
    (hR : ∀ vs0 vs H Q, ordL vs0 ix = some vs → spF K np io (F f) vs H Q E → R vs0 H Q) (ht : ∀ σ H Q, tAs ts σ H (fun vs H1 => R vs H1 Q) → t σ H Q) : SndE K t (dCall F f io xs ix).e := by
  intro Γ d fr Γ' e σ H g S Q h
  simp only [dCall, mkDn, Option.bind_eq_some_iff] at e
  obtain ⟨⟨args0, Γ1⟩, e1, args, e2, ds, e3, ⟨d0, fr0, o⟩, e4, e5⟩ := e
  simp only at e2 e3 e5
  refine ht σ H Q (snd_seqA hs e1 S _ fun vs0 H1 g1 As0 S1 s1 ra => ?_)
  obtain ⟨vs, As, ev, rp⟩ := ra.p.ord hn e2
  refine hR vs0 vs H1 Q ev ?_
  have r3 : Reps3 K H1 ds vs (useAs g1 args As) := reps3_of S1 rp e3
  have hlen : vs.length = np := by
    have : ∀ {ds : List D} {vs : List V} {As : List (List Addr)}, Reps3 K H1 ds vs As → vs.length = ds.length := by
      intro ds vs As r
      induction r with
      | nil => rfl
      | cons _ _ ih => simp [ih]
    rw [this r3]; exact hnp ds _ e4
  have freshR : ∀ b, H1 b = none → ¬ reg g1 b := fun b e q => by obtain ⟨o, e2⟩ := S1.reg_some q; rw [e] at e2; cases e2
  cases io with
  | none =>
    simp only [Option.some.injEq] at e5
    refine ⟨hlen, ds, _, d0, fr0, o, e4, r3, fun p B ep => (nomatch ep), fun v H2 A post => ?_⟩
    have G : Grow H1 H2 := fun a ob e => post.keep a ob e fun p B ep => (nomatch ep)
    obtain ⟨a, b, c⟩ := fin_call (bs := args) S1 s1 rp (S1.grow G) (s1.trans (G.step _ _)) post.rep post.src post.new (fun a ha j o hj => ⟨o, hj⟩) (fun a ha q => q) (fun q l e => .inl (List.mem_of_getElem? e)) e5
    exact h v H2 g1 A a b c
  | some p =>
    simp only [Option.bind_eq_some_iff] at e5
    obtain ⟨a, ea, o', eo, e6⟩ := e5
    cases a with
    | v dv frv =>
      simp only at e6
      split at e6
      case isFalse => cases e6
      rename_i hf
      subst hf
      simp only [Option.some.injEq] at e6
      refine ⟨hlen, ds, _, d0, fr0, o, e4, r3, ioSep_of S1 rp ea (.inl ⟨dv, rfl⟩), fun v H2 A post => ?_⟩
      obtain ⟨w, Ap, h1, h2, h3, _⟩ := rp.at_ p _ ea
      have rr : Res K H Γ g dv true H1 Γ1 g1 w Ap := h3
      have uP : (useAs g1 args As)[p]? = some Ap := useAs_get g1 ea h2
      have keep2 : ∀ a ob, H1 a = some ob → a ∉ Ap → H2 a = some ob := fun a ob e n => post.keep a ob e fun p' B ep eB => by
        cases ep; rw [uP] at eB; cases eB; exact n
      have kp : ∀ j, Keep H1 H2 (g1 j) := fun j a ob e q => keep2 a ob e fun z => by
        rcases q with q | q
        · exact ((rr.new rfl).2 a z).2 ⟨j, q⟩
        · obtain ⟨o2, e2, m⟩ := Rep.mut _ rr.rep a z
          rw [e] at e2; cases e2; rw [q] at m; cases m
      have S2 : StRel K Γ1 g1 σ H2 := ⟨S1.len, fun j x e => let ⟨v, e1, r⟩ := S1.val j x e; ⟨v, e1, Rep.keep x r (kp j)⟩, fun j x e => let ⟨v, e1, r, n⟩ := S1.own j x e; ⟨v, e1, Rep.keep x r (kp j), n⟩, S1.un, S1.sep⟩
      have s2 : Step H Γ g H2 Γ1 g1 := ⟨fun a ob e n => keep2 a ob (s1.keep a ob e n) fun z => (by rw [((rr.new rfl).2 a z).1] at e; cases e), fun a e => s1.mono a (post.mono a e), s1.own, s1.reg⟩
      obtain ⟨a, b, c⟩ := fin_call (bs := args) S1 s1 rp S2 s2 post.rep post.src post.new (fun a ha j o hj => ⟨o, hj⟩) (fun a ha q => q) (fun q l e => .inl (List.mem_of_getElem? e)) e6
      exact h v H2 g1 A a b c
    | pl i =>
      simp only at e6
      split at e6
      case h_2 => cases e6
      rename_i dd hdd
      split at e6
      case isTrue => cases e6
      rename_i hany
      simp only [Option.some.injEq] at e6
      have alone : ∀ q, q ≠ p → args[q]? ≠ some (.pl i) := fun q ne z => by
        refine hany (List.any_eq_true.mpr ⟨.pl i, mem_erase z ne, by simp [isPl]⟩)
      refine ⟨hlen, ds, _, d0, fr0, o, e4, r3, ioSep_of S1 rp ea (.inr ⟨i, rfl, ⟨dd, hdd⟩, alone⟩), fun v H2 A post => ?_⟩
      obtain ⟨w, Ap, h1, h2, h3, _⟩ := rp.at_ p _ ea
      have uP : (useAs g1 args As)[p]? = some (g1 i) := useAs_get g1 ea h2
      have h3 : σ[i]? = some (some w) := h3
      obtain ⟨o2, w2, B, B', p1, p2, p3, p4, p5, p6, p7⟩ := post.io p rfl
      rw [eo] at p1; cases p1
      rw [h1] at p2; cases p2
      rw [uP] at p3; cases p3
      have keep2 : ∀ a ob, H1 a = some ob → a ∉ g1 i → H2 a = some ob := fun a ob e n => post.keep a ob e fun p' B ep eB => by
        cases ep; rw [uP] at eB; cases eB; exact n
      obtain ⟨S2, s2⟩ := own_call s1 S1 hdd h3 keep2 post.mono p4 p5 p6
      obtain ⟨a, b, c⟩ := fin_call (bs := args.eraseIdx p) S1 s1 rp S2 s2 post.rep post.src post.new (fun a ha j oj hj => by
          by_cases z : j = i
          · subst z; rw [putG_same] at hj; exact absurd hj (p7 a ha)
          · rw [putG_ne z] at hj; exact ⟨isOwn_set oj z, hj⟩) (fun a ha ⟨j, hj⟩ => by
          by_cases z : j = i
          · subst z; rw [putG_same] at hj; exact absurd hj (p7 a ha)
          · rw [putG_ne z] at hj; exact ⟨j, hj⟩) (fun q l e => by
          by_cases z : q = p
          · subst z; rw [ea] at e; cases e
            exact .inr fun a ha => by rw [putG_same]; exact p7 a ha
          · exact .inl (mem_erase e z)) e6
      exact h v H2 _ A a b c
end
end WT

/-! WT: calls in the text. -/
namespace WT
open PySem L2
abbrev CXn : CXT := fun _ _ _ _ _ _ => False
abbrev En : XK := fun _ _ _ => False
structure FnOkI (X : Cx) (F : FT) (k f : Nat) (i : FnI) : Prop where
  ex : ∃ a fd, X.mg i.name = some (.ref a) ∧ PySem.W.keepIn X.K (.ref a) = true ∧ FnOk X.prog X.w X.K X.mg X.base CXn k a fd i.ps (spF X.K i.ps.length i.io (F f)) ∧
    ∀ c ∈ i.cb, ∀ (s : Shared) (us ws vs : List Value), us.length = c.2.1 → ws.length = c.1.length → ordL (us ++ ws) c.2.2 = some vs → BindsTo s fd ⟨us, c.1.zip ws⟩ (i.ps.zip vs)
  np : ∀ ds r, F f ds = some r → ds.length = i.ps.length
def rCall (K : PySem.W.Frag) (np : Nat) (io : Option Nat) (r : List D → Option (D × Bool × Option D)) (ix : List Nat) : List V → Hp → VK → Prop := fun vs0 H Q =>
  match ordL vs0 ix with
  | some vs => spF K np io r vs H Q En
  | none => False
theorem tAs_app : ∀ (ts us : List TE) (σ : L2.St) (H : Hp) (Q : List V → Hp → Prop), tAs (ts ++ us) σ H Q = tAs ts σ H fun vs H1 => tAs us σ H1 fun ws H2 => Q (vs ++ ws) H2
  | [], us, σ, H, Q => rfl
  | t :: ts, us, σ, H, Q => by
    show t σ H _ = t σ H _
    congr 1
    funext v H1
    exact tAs_app ts us σ H1 _
theorem vals_at {vs : List V} {us : List Value} (h : Vals vs us) : ∀ (j : Nat) (v : V), vs[j]? = some v → ∃ u, us[j]? = some u ∧ RelV v u := by
  induction h with
  | nil => intro j v e; simp at e
  | cons r _ ih =>
    intro j v e
    cases j with
    | zero => simp at e; subst e; exact ⟨_, rfl, r⟩
    | succ j => simpa using ih j v (by simpa using e)
theorem vals_ord {vs ws : List V} {us : List Value} {ix : List Nat} (h : Vals vs us) (e : ordL vs ix = some ws) : ∃ zs, ordL us ix = some zs ∧ Vals ws zs := by
  unfold ordL at e ⊢
  by_cases q : ix = []
  · rw [if_pos q] at e ⊢; cases e; exact ⟨us, rfl, h⟩
  · rw [if_neg q] at e ⊢
    clear q
    induction ix generalizing ws with
    | nil => simp at e; subst e; exact ⟨[], rfl, .nil⟩
    | cons j ix ih =>
      simp only [List.mapM_cons, bind, Option.bind_eq_some_iff, pure, Option.some.injEq] at e
      obtain ⟨v, e1, vr, e2, rfl⟩ := e
      obtain ⟨u, e3, r⟩ := vals_at h j v e1
      obtain ⟨zs, e4, r2⟩ := ih e2
      refine ⟨u :: zs, ?_, .cons r r2⟩
      simp only [List.mapM_cons, bind, e3, Option.bind_some, e4, pure]
section
variable {X : Cx} {cx : Ctx} {k : Nat} {ts us : List TE} {xs ys : List Dn}
theorem run_call {F : FT} {f : Nat} {i : FnI} {c : List Str × Nat × List Nat} {pins : List (Addr × Obj)} {σ : L2.St} {H : Hp} {s : Shared} {Q : VK} {us ws : List Value} {vs zs : List V} {a : Addr} {fd : FuncData}
    (FO : FnOk X.prog X.w X.K X.mg X.base CXn k a fd i.ps (spF X.K i.ps.length i.io (F f))) (hr : Room k X.A)
    (hb : ∀ (s : Shared) (us ws vs : List Value), us.length = c.2.1 → ws.length = c.1.length → ordL (us ++ ws) c.2.2 = some vs → BindsTo s fd ⟨us, c.1.zip ws⟩ (i.ps.zip vs))
    (I : Inv X pins σ H s) (r : Vals vs us) (rz : Vals zs ws) (l1 : us.length = c.2.1) (l2 : ws.length = c.1.length) (h : rCall X.K i.ps.length i.io (F f) c.2.2 (vs ++ zs) H Q) : wpAny (model X.prog X.w) X.A (call (.ref a) us (c.1.zip ws)) (EP X pins σ Q) X.xe s := by
  unfold rCall at h
  split at h
  · rename_i vv e
    obtain ⟨uu, e2, r2⟩ := vals_ord (r.append rz) e
    refine wpAny_call (codeAny_mono (FO.run X.A X.stack s H ⟨us, c.1.zip ws⟩ uu vv Q En hr I.env0 (hb s us ws uu l1 l2 e2) r2 h) fun r s' hq => ?_)
    cases r with
    | error e => exact absurd hq (by intro z; exact z.elim)
    | ok fl =>
      cases fl with
      | ret u => exact I.after hq
      | next => exact False.elim hq
      | brk => exact False.elim hq
      | cont => exact False.elim hq
  · exact h.elim
theorem PEs.len : ∀ {es : List Expr} {ts : List TE} {xs : List Dn}, PEs X es ts xs → es.length = ts.length
  | _, _, _, .nil => rfl
  | _, _, _, .cons _ _ _ r => by simp [r.len]
theorem PEs.split : ∀ {es fs : List Expr} {ts : List TE} {xs : List Dn}, PEs X (es ++ fs) ts xs → ∃ t1 t2 x1 x2, ts = t1 ++ t2 ∧ xs = x1 ++ x2 ∧ PEs X es t1 x1 ∧ PEs X fs t2 x2
  | [], fs, ts, xs, h => ⟨[], ts, [], xs, rfl, rfl, .nil, h⟩
  | e :: es, fs, _, _, .cons h s p r => by
    obtain ⟨t1, t2, x1, x2, rfl, rfl, r1, r2⟩ := r.split
    exact ⟨_ :: t1, t2, _ :: x1, x2, rfl, rfl, .cons h s p r1, r2⟩
theorem PEs.pk : ∀ {kws : List Keyword} {ts : List TE} {xs : List Dn}, PEs X (kws.map (·.value)) ts xs → PK X kws (tAs ts)
  | [], _, _, .nil => pk_nil
  | ⟨nm, e, kp⟩ :: kws, _, _, .cons h s p r => pk_cons h r.pk
theorem kw_names (pos : Pos) (env : PySem.Env) : ∀ (kws : List Keyword), (backToKw pos (keywordEach kws env)).filterMap (·.1) = kws.filterMap (·.arg)
  | [] => rfl
  | ⟨none, e, kp⟩ :: kws => by
    have := kw_names pos env kws
    simpa [backToKw, keywordEach, List.filterMap_cons] using this
  | ⟨some n, e, kp⟩ :: kws => by
    have := kw_names pos env kws
    simp only [backToKw, keywordEach, List.map_cons, List.filterMap_cons] at this ⊢
    rw [this]
theorem kw_all (pos : Pos) (env : PySem.Env) : ∀ (kws : List Keyword), kws.all (·.arg.isSome) = true → (backToKw pos (keywordEach kws env)).all (·.1.isSome) = true
  | [], _ => rfl
  | ⟨none, e, kp⟩ :: kws, h => by simp at h
  | ⟨some n, e, kp⟩ :: kws, h => by
    have := kw_all pos env kws (by simpa using h)
    simpa [backToKw, keywordEach] using this
theorem kw_none (pos : Pos) (env : PySem.Env) : ∀ (kws : List Keyword), kws.all (·.arg.isSome) = true → (backToKw pos (keywordEach kws env)).any (·.1.isNone) = false
  | [], _ => rfl
  | ⟨none, e, kp⟩ :: kws, h => by simp at h
  | ⟨some n, e, kp⟩ :: kws, h => by
    have := kw_none pos env kws (by simpa using h)
    simpa [backToKw, keywordEach] using this
theorem tAs_len : ∀ (ts : List TE) (σ : L2.St) (H : Hp) (Q : List V → Hp → Prop), tAs ts σ H Q = tAs ts σ H fun vs H1 => vs.length = ts.length ∧ Q vs H1
  | [], σ, H, Q => propext ⟨fun h => ⟨rfl, h⟩, fun h => h.2⟩
  | t :: ts, σ, H, Q => by
    show t σ H _ = t σ H _
    congr 1
    funext v H1
    rw [tAs_len ts σ H1]
    simp
theorem pe_callG {F : FT} {f : Nat} {i : FnI} {c : List Str × Nat × List Nat} {es : List Expr} {kws : List Keyword} {p pos : Pos} (h : FnOkI X F k f i) (hr : Room k X.A) (hg : Gl X i.name) (hc : c ∈ i.cb)
    (hes : PEs X (es ++ kws.map (·.value)) ts xs) (hn : kws.filterMap (·.arg) = c.1) (hl : es.length = c.2.1) (hall : kws.all (·.arg.isSome) = true) (hdb : (i.name == ("__debug__" : Str)) = false) :
    PE X (.Call (.Name i.name p) es kws pos) (fun σ H Q => tAs ts σ H fun vs0 H1 => rCall X.K i.ps.length i.io (F f) c.2.2 vs0 H1 Q) := by
  obtain ⟨a, fd, hm, hk, FO, hb⟩ := h.ex
  have hb := hb c hc
  obtain ⟨t1, t2, x1, x2, rfl, rfl, r1, r2⟩ := hes.split
  have lk : kws.length = c.1.length := by
    rw [← hn]
    clear r2 hes hn
    induction kws with
    | nil => rfl
    | cons y kws ih =>
      obtain ⟨nm, e, kp⟩ := y
      cases nm with
      | none => simp at hall
      | some n => simp only [List.filterMap_cons, List.length_cons]; rw [ih (by simpa using hall)]
  have l1 := r1.len
  have l2 := r2.len
  rw [List.length_map] at l2
  refine ⟨fun pins s σ H Q I q => ?_⟩
  refine wpAny_Call_Name_kw (ld_glob I hg hm ?_ hdb)
  rw [tAs_app, tAs_len] at q
  cases kws with
  | nil =>
    cases r2
    cases es with
    | nil =>
      cases r1
      refine PySem.W.callWith_K0 I.kIn hk ?_
      have := run_call (us := []) (ws := []) (vs := []) (zs := []) FO hr hb I .nil .nil hl lk q.2
      rw [List.zip_nil_right] at this
      exact this
    | cons e es =>
      have st := pa_star1 (pos := pos) r1
      refine PySem.W.callWith_K (h₀ := X.base) I.ok.mod.kin hk (thn (r1.pa.run pos pins s σ H _ I q) fun us s1 ⟨vs, H1, I1, r, q1⟩ => ⟨I1.kIn, ?_⟩) st.1 st.2
      have := run_call (us := us) (ws := []) (vs := vs) (zs := []) FO hr hb I1 r .nil (by rw [← r.length, q1.1, ← l1, hl]) lk q1.2
      rw [List.zip_nil_right] at this
      exact this
  | cons y kws =>
    cases es with
    | nil =>
      cases r1
      refine PySem.W.callWith_KW0 I.kIn hk (kw_all pos X.env _ hall) ?_ ?_
      · have q2 := q.2
        rw [tAs_len] at q2
        refine thn (r2.pk.run pos pins s σ H _ I q2) fun ws s2 ⟨zs, H2, I2, rz, q3⟩ => ⟨I2.kIn, ?_⟩
        rw [kw_names, hn]
        exact run_call (us := []) (ws := ws) (vs := []) (zs := zs) FO hr hb I2 .nil rz hl (by rw [← rz.length, q3.1, ← l2, lk]) q3.2
      · rw [Bool.or_eq_false_iff]
        exact ⟨rfl, kw_none pos X.env _ hall⟩
    | cons e es =>
      have st := pa_star1 (pos := pos) r1
      refine PySem.W.callWith_KW (h₀ := X.base) I.ok.mod.kin hk (kw_all pos X.env _ hall) (thn (r1.pa.run pos pins s σ H _ I q) fun us s1 ⟨vs, H1, I1, r, q1⟩ => ?_) ?_ st.1
      · have q2 := q1.2
        rw [tAs_len] at q2
        refine thn (r2.pk.run pos pins s1 σ H1 _ I1 q2) fun ws s2 ⟨zs, H2, I2, rz, q3⟩ => ⟨I2.kIn, ?_⟩
        rw [kw_names, hn]
        exact run_call (us := us) (ws := ws) (vs := vs) (zs := zs) FO hr hb I2 r rz (by rw [← r.length, q1.1, ← l1, hl]) (by rw [← rz.length, q3.1, ← l2, lk]) q3.2
      · rw [Bool.or_eq_false_iff]
        exact ⟨r1.any, kw_none pos X.env _ hall⟩
theorem ge_callG {F : FT} {f : Nat} {i : FnI} {c : List Str × Nat × List Nat} {es : List Expr} {kws : List Keyword} {p pos : Pos} (h : FnOkI X F k f i) (hr : Room k X.A) (hg : Gl X i.name) (hc : c ∈ i.cb) (hx : c.2.2.Nodup)
    (hes : PEs X (es ++ kws.map (·.value)) ts xs) (hn : kws.filterMap (·.arg) = c.1) (hl : es.length = c.2.1) (hall : kws.all (·.arg.isSome) = true) (hdb : (i.name == ("__debug__" : Str)) = false) (hsu : (i.name != ("super" : Str)) = true) :
    GE X (.Call (.Name i.name p) es kws pos) (dCall F f i.io xs c.2.2) := by
  refine ge_mk (pe_callG h hr hg hc hes hn hl hall hdb) (snd_call (E := En) hes.snd hx h.np (fun vs0 vs H Q e q => ?_) (fun _ _ _ z => z)) ?_ rfl
  · show rCall X.K i.ps.length i.io (F f) c.2.2 vs0 H Q
    unfold rCall
    rw [e]
    exact q
  · cases es <;> cases kws <;> first | rfl | exact hsu
end
end WT

/-! WT: a call that changes one of a list's elements; readings that are named by their meaning. -/
namespace WT
open PySem L2
section
variable {K : PySem.W.Frag} {H H' H1 H2 H0 : Hp} {Γ Γ' Γ1 Γ2 Γ0 : Env} {g g' g1 g2 g0 : Nat → List Addr} {σ σ' : L2.St}
theorem set_td2 {α : Type} {xs : List α} {j : Nat} {d y : α} (h : xs[j]? = some d) : xs.set j y = xs.take j ++ ([y] ++ xs.drop (j + 1)) := by
  obtain ⟨hj, rfl⟩ := List.getElem?_eq_some_iff.mp h
  rw [List.set_eq_take_append_cons_drop, if_pos hj]
  rfl
/-- one of a row is taken apart -/
theorem Reps.mid {xs : List D} {us : List V} {B : List Addr} {j : Nat} {d : D} (r : Reps K H xs us B) (h : xs[j]? = some d) :
    ∃ w C B1 B2 u1 u2, us = u1 ++ ([w] ++ u2) ∧ B = B1 ++ (C ++ B2) ∧ us[j]? = some w ∧ Rep K H d w C ∧ Reps K H (xs.take j) u1 B1 ∧ Reps K H (xs.drop (j + 1)) u2 B2 := by
  rw [take_drop_at h] at r
  obtain ⟨u1, u2, B1, B2, rfl, rfl, r1, r2⟩ := r.split
  obtain ⟨u3, u4, B3, B4, rfl, rfl, r3, r4⟩ := r2.split
  obtain ⟨w, rfl, rd⟩ := reps_one_inv r3
  have hj : (xs.take j).length = j := List.length_take_of_le (Nat.le_of_lt (List.getElem?_eq_some_iff.mp h).1)
  have lj : u1.length = j := by rw [← r1.length, hj]
  refine ⟨w, B3, B1, B4, u1, u4, rfl, rfl, ?_, rd, r1, r4⟩
  rw [← lj, List.getElem?_append_right (Nat.le_refl _)]
  simp
theorem snd_callp {F : FT} {f np i : Nat} {e : Dn} {te : TE} (he : SndE K te e.e) (hnp : ∀ ds r, F f ds = some r → ds.length = np) :
    SndE K (fun σ H Q => tAs [tOp (rIx K) (tVar i) te] σ H fun vs0 H1 => rCall K np (some 0) (F f) [] vs0 H1 Q) (dCallp F f i e).e := by
  intro Γ d fr Γ' ev σ H g S Q h
  simp only [dCallp, mkDn, Option.bind_eq_some_iff] at ev
  obtain ⟨dr, er, ⟨kd, fk, Γ1⟩, e1, e2⟩ := ev
  simp only at e2
  split at e2
  case h_2 => cases e2
  rename_i n ds hi
  simp only [Option.bind_eq_some_iff] at e2
  obtain ⟨j, ej, d0, ed, ⟨rr, fr0, o⟩, eF, d', eo, e3⟩ := e2
  simp only at e3 eo
  split at e3
  case isFalse => cases e3
  rename_i hfr
  cases e3
  subst eo
  obtain ⟨v, evv, rv0⟩ := S.rd er
  refine ⟨v, evv, ?_⟩
  refine he Γ _ fk Γ1 e1 σ H g S _ fun y H1 g1 A S1 s1 r1 => ?_
  have ry := r1.rep
  simp only [Rep] at ry
  obtain ⟨v1, ev1, rv1, nd1⟩ := S1.own i _ hi
  rw [evv] at ev1; cases ev1
  simp only [Rep] at rv1
  obtain ⟨a, us, B, rfl, q1, rx, eg⟩ := rv1
  obtain ⟨w, C, B1, B2, u1, u2, eu, eB, ew, rw1, ra, rb⟩ := rx.mid ed
  refine .inl ⟨a, us, n, w, rfl, ry.1, SqL.of q1, ?_, ?_⟩
  · unfold atI
    rw [← rx.length, ej]
    exact ew
  show rCall K np (some 0) (F f) [] [w] H1 Q
  unfold rCall
  show spF K np (some 0) (F f) [w] H1 Q En
  rw [eg] at nd1
  subst eB
  have nd2 := List.nodup_cons.mp nd1
  obtain ⟨n1, n2, n12⟩ := List.nodup_append.mp nd2.2
  obtain ⟨n3, n4, n34⟩ := List.nodup_append.mp n2
  have aC : a ∉ C := fun z => nd2.1 (List.mem_append_right _ (List.mem_append_left _ z))
  refine ⟨by rw [← hnp _ _ eF]; rfl, [d0], [C], d, fr0, some d', eF, .cons rw1 .nil, ?_, fun v H2 A2 P => ?_⟩
  · intro p Z ep eZ
    cases ep
    simp at eZ
    subst eZ
    refine ⟨n3, fun q D' nq eq => ?_⟩
    cases q with
    | zero => exact absurd rfl nq
    | succ q => simp at eq
  obtain ⟨o', w', Z, B', eo, ew', eZ, rp, np', hB', hA⟩ := P.io 0 rfl
  cases eo
  simp at ew' eZ
  subst ew' eZ
  have keep : ∀ b o, H1 b = some o → b ∉ C → H2 b = some o := fun b o eb nb => P.keep b o eb fun p Z ep eZ => by
    cases ep; simp at eZ; subst eZ; exact nb
  have q2 : H2 a = some (.lst us) := keep a _ q1 aC
  have kK : ∀ {Z : List Addr}, (∀ b ∈ Z, b ∉ C) → Keep H1 H2 Z := fun {Z} hz b o eb q => by
    refine keep b o eb fun z => ?_
    rcases q with q | q
    · exact hz b q z
    · obtain ⟨o', e', m⟩ := Rep.mut d0 rw1 b z
      rw [eb] at e'; cases e'; rw [q] at m; cases m
  have ra' := Reps.keep _ ra (kK fun b hb z => n12 b hb b (List.mem_append_left _ z) rfl)
  have rb' := Reps.keep _ rb (kK fun b hb z => n34 b z b hb rfl)
  have rl : Rep K H2 (.lst (ds.set j d')) (.ref a) (a :: (B1 ++ (B' ++ B2))) := by
    simp only [Rep]
    refine ⟨a, us, B1 ++ (B' ++ B2), rfl, q2, ?_, rfl⟩
    rw [set_td2 ed, eu]
    exact ra'.append ((reps_one rp).append rb')
  have fresh : ∀ b ∈ B', b ∈ C ∨ H1 b = none := hB'
  have mB : ∀ b, b ∈ a :: (B1 ++ (C ++ B2)) → ∃ o, H1 b = some o := fun b hb => by
    rw [← eg] at hb
    obtain ⟨o, e', _⟩ := S1.mut hb
    exact ⟨o, e'⟩
  have dis : ∀ b ∈ B', ∀ c, c ∈ a :: (B1 ++ (C ++ B2)) → c ∉ C → b ≠ c := fun b hb c hc nc z => by
    subst z
    rcases fresh b hb with q | q
    · exact nc q
    · obtain ⟨o, e'⟩ := mB b hc
      rw [q] at e'; cases e'
  have nd3 : (a :: (B1 ++ (B' ++ B2))).Nodup := by
    refine List.nodup_cons.mpr ⟨fun z => ?_, List.nodup_append.mpr ⟨n1, List.nodup_append.mpr ⟨np', n4, fun b hb c hc => dis b hb c (by simp [hc]) (fun z => n34 c z c hc rfl)⟩, fun b hb c hc => ?_⟩⟩
    · rcases List.mem_append.mp z with z | z
      · exact nd2.1 (List.mem_append_left _ z)
      · rcases List.mem_append.mp z with z | z
        · exact dis a z a List.mem_cons_self aC rfl
        · exact nd2.1 (List.mem_append_right _ (List.mem_append_right _ z))
    · rcases List.mem_append.mp hc with z | z
      · exact (dis c z b (by simp [hb]) fun q => n12 b hb b (List.mem_append_left _ q) rfl).symm
      · exact n12 b hb c (List.mem_append_right _ z)
  obtain ⟨S2, s2⟩ := own_call (w := .ref a) (B' := a :: (B1 ++ (B' ++ B2))) s1 S1 hi evv (fun b o eb nb => keep b o eb fun z => nb (by rw [eg]; simp [z])) P.mono rl nd3 fun b hb => by
    rw [eg]
    rcases List.mem_cons.mp hb with rfl | hb
    · exact .inl List.mem_cons_self
    · rcases List.mem_append.mp hb with z | z
      · exact .inl (by simp [z])
      · rcases List.mem_append.mp z with z | z
        · rcases fresh b z with q | q
          · exact .inl (by simp [q])
          · exact .inr q
        · exact .inl (by simp [z])
  have key : A2.Nodup ∧ ∀ b ∈ A2, H1 b = none := by
    rw [Bool.or_eq_true] at hfr
    rcases hfr with q | q
    · have := Rep.imm _ P.rep q
      subst this
      exact ⟨List.nodup_nil, fun _ z => (nomatch z)⟩
    · exact P.new q
  have nreg : ∀ b ∈ A2, ¬ reg (putG g1 i (a :: (B1 ++ (B' ++ B2)))) b := fun b hb ⟨l, hl⟩ => by
    have hn := key.2 b hb
    by_cases z : l = i
    · subst z
      rw [putG_same] at hl
      rcases List.mem_cons.mp hl with q | q
      · subst q; rw [q1] at hn; cases hn
      · rcases List.mem_append.mp q with q | q
        · obtain ⟨o, e'⟩ := mB b (by simp [q]); rw [hn] at e'; cases e'
        · rcases List.mem_append.mp q with q | q
          · exact hA b hb q
          · obtain ⟨o, e'⟩ := mB b (by simp [q]); rw [hn] at e'; cases e'
    · rw [putG_ne z] at hl
      obtain ⟨o, e', _⟩ := S1.mut hl
      rw [hn] at e'; cases e'
  exact h v H2 _ A2 S2 s2 ⟨P.rep, fun b hb q => nreg b hb (StRel.fp_reg q), fun b hb => .inr (s1.mono b (key.2 b hb)), fun _ => ⟨key.1, fun b hb => ⟨s1.mono b (key.2 b hb), nreg b hb⟩⟩⟩

/-! ### readings by meaning -/
def tU (K : PySem.W.Frag) (f : Env → Option (D × Bool × Env)) : TE := fun σ H Q => ∃ Γ g d fr Γ', f Γ = some (d, fr, Γ') ∧ StRel K Γ g σ H ∧
  ∀ v H' g' A, StRel K Γ' g' σ H' → Step H Γ g H' Γ' g' → Res K H Γ g d fr H' Γ' g' v A → Q v H'
def ttU (K : PySem.W.Frag) (f : Env → Option (Bool × Env)) : TT := fun σ H Q => ∃ Γ g b Γ', f Γ = some (b, Γ') ∧ StRel K Γ g σ H ∧ ∀ H' g', StRel K Γ' g' σ H' → Step H Γ g H' Γ' g' → Q b H'
def tgU (K : PySem.W.Frag) (io : Nat → Bool) (tn : List Nat) (gn : Gn) : TG := fun v σ H Q => ∃ d fr Γ Γ' g H0 Γ0 g0 A, gn d fr Γ = some Γ' ∧ StRel K Γ g σ H ∧ Step H0 Γ0 g0 H Γ g ∧ Res K H0 Γ0 g0 d fr H Γ g v A ∧
  ∀ σ' H' g', StRel K Γ' g' σ' H' → Step H0 Γ0 g0 H' Γ' g' → Same' tn σ σ' → (∀ i, io i = true → σ'[i]? = σ[i]?) → Nr (fun a => fr = true ∧ a ∈ A) (· ∈ A) H Γ g H' Γ' g' → Q σ' H'
def tiU (K : PySem.W.Frag) (it : In) : TI := fun σ H R => ∃ Γ g ds Γ', it Γ = some (ds, Γ') ∧ StRel K Γ g σ H ∧
  ∀ J H' g' A, StRel K Γ' g' σ H' → Step H Γ g H' Γ' g' → WalkD K J ds A H' → (∀ a ∈ A, ¬ fpset Γ' g' a) → (∀ a ∈ A, reg g a ∨ H a = none) → (∀ a ∈ A, ∃ o, H' a = some o) → R J H'
theorem snd_u {f : Env → Option (D × Bool × Env)} : SndE K (tU K f) f := fun Γ d fr Γ' e σ H g S Q h => ⟨Γ, g, d, fr, Γ', e, S, h⟩
theorem snd_tu {f : Env → Option (Bool × Env)} : SndT K (ttU K f) f := fun Γ b Γ' e σ H g S Q h => ⟨Γ, g, b, Γ', e, S, h⟩
theorem snd_gu {io : Nat → Bool} {tn : List Nat} {gn : Gn} : SndG K io tn (tgU K io tn gn) gn := fun d fr Γ Γ' e σ H g H0 Γ0 g0 v A S s r Q h => ⟨d, fr, Γ, Γ', g, H0, Γ0, g0, A, e, S, s, r, h⟩
theorem snd_iu {it : In} : SndI K (tiU K it) it := fun Γ ds Γ' e σ H g S R h => ⟨Γ, g, ds, Γ', e, S, h⟩
end
section
variable {X : Cx}
theorem pe_u {e : Expr} {t : TE} {f : Env → Option (D × Bool × Env)} (p : PE X e t) (s : SndE X.K t f) : PE X e (tU X.K f) :=
  ⟨fun pins s0 σ H Q I ⟨Γ, g, d, fr, Γ', e1, S, h⟩ => p.run pins s0 σ H Q I (s Γ d fr Γ' e1 σ H g S Q h)⟩
theorem pt_u {e : Expr} {t : TT} {f : Env → Option (Bool × Env)} (p : PT X e t) (s : SndT X.K t f) : PT X e (ttU X.K f) :=
  ⟨fun pins s0 σ H Q I ⟨Γ, g, b, Γ', e1, S, h⟩ => p.run pins s0 σ H Q I (s Γ b Γ' e1 σ H g S Q h)⟩
theorem pg_u {e : Expr} {t : TG} {io : Nat → Bool} {tn : List Nat} {gn : Gn} (p : PG X e t) (s : SndG X.K io tn t gn) : PG X e (tgU X.K io tn gn) :=
  ⟨fun pins s0 σ H v u Q I r ⟨d, fr, Γ, Γ', g, H0, Γ0, g0, A, e1, S, s1, r1, h⟩ => p.run pins s0 σ H v u Q I r (s d fr Γ Γ' e1 σ H g H0 Γ0 g0 v A S s1 r1 Q h)⟩
theorem pi_u {tg e : Expr} {t : TI} {it : In} (p : PI X tg e t) (s : SndI X.K t it) : PI X tg e (tiU X.K it) :=
  ⟨fun pins s0 σ H R I ⟨Γ, g, ds, Γ', e1, S, h⟩ => p.run pins s0 σ H R I (s Γ ds Γ' e1 σ H g S R h)⟩
theorem SndG.wide {K : PySem.W.Frag} {io : Nat → Bool} {tn tm : List Nat} {t : TG} {gn : Gn} (h : SndG K io tn t gn) (hs : ∀ i ∈ tn, i ∈ tm) : SndG K io tm t gn :=
  fun d fr Γ Γ' e σ H g H0 Γ0 g0 v A S s r Q q => h d fr Γ Γ' e σ H g H0 Γ0 g0 v A S s r Q fun σ' H' g' S' s' sm => q σ' H' g' S' s' ⟨sm.1, fun j hj => sm.2 j fun z => hj (hs j z)⟩
end
end WT

/-! WT: targets, iterators, slices, methods, comprehensions in the text. -/
namespace WT
open PySem L2
section
variable {K : PySem.W.Frag} {H H' H1 H2 H0 : Hp} {Γ Γ' Γ1 Γ2 Γ0 : Env} {g g' g1 g2 g0 : Nat → List Addr} {σ σ' : L2.St}
theorem gnAll_len : ∀ {gs : List Gn} {ds : List D} {fr : Bool} {Γ Γ' : Env}, gnAll gs ds fr Γ = some Γ' → ds.length = gs.length
  | [], [], _, _, _, _ => rfl
  | g :: gs, d :: ds, fr, Γ, Γ', e => by
    simp only [gnAll, Option.bind_eq_some_iff] at e
    obtain ⟨Γ1, _, e2⟩ := e
    simp [gnAll_len e2]
  | [], _ :: _, _, _, _, e => by simp [gnAll] at e
  | _ :: _, [], _, _, _, e => by simp [gnAll] at e
theorem SndGs.len {io : Nat → Bool} {tn : List Nat} {ts : List TG} {gs : List Gn} (h : SndGs K io tn ts gs) : ts.length = gs.length := by
  induction h with
  | nil => rfl
  | cons _ _ ih => simp [ih]
theorem snd_gtup {io : Nat → Bool} {tn : List Nat} {ts : List TG} {gs : List Gn} {n : Nat} (hn : n = ts.length) (hg : SndGs K io tn ts gs) : SndG K io tn (gTup K n (gAll ts)) (gnTup gs) := by
  intro d fr Γ Γ' e σ H g H0 Γ0 g0 v A S s r Q h
  unfold gnTup at e
  split at e
  · rename_i ds
    have rr := r.rep
    simp only [Rep] at rr
    obtain ⟨a, vs, rfl, q, rr⟩ := rr
    refine ⟨a, vs, rfl, q, by rw [← rr.length, gnAll_len e, ← hg.len, hn], ?_⟩
    refine snd_gall hg e S s ⟨rr, r.out, r.src, fun f => (nomatch f)⟩ Q fun σ' H' g' S' s' sm si nr => h σ' H' g' S' s' sm si (nr.imp (fun _ z => z.elim) fun _ z => z)
  · cases e
theorem snd_tyes : SndT K tYes tYesE := by
  intro Γ b Γ' e σ H g S Q h
  cases e
  exact h H g S .refl
end
/-- a target and what it stores -/
structure GT (X : Cx) (io : Nat → Bool) (tn : List Nat) (e : Expr) (gn : Gn) : Prop where
  pg : PG X e (tgU X.K io tn gn)
  pl : plainE e = true
structure GI (X : Cx) (tg e : Expr) (it : In) : Prop where
  pi : PI X tg e (tiU X.K it)
  pl : plainE e = true
def locB (sc : Scope) (x : Str) : Bool := match sc.names.lookup x with
  | some .local => true | some .cell => true | _ => false
def stoB (cx : Ctx) (x : Str) : Bool := locB cx.sc x && (cx.fnF x || match cx.sc.names.lookup x with | some .local => true | _ => false)
inductive GTs (X : Cx) (io : Nat → Bool) (tn : List Nat) : List Expr → List Gn → Prop
  | nil : GTs X io tn [] []
  | cons {e es g gs} : GT X io tn e g → GTs X io tn es gs → GTs X io tn (e :: es) (g :: gs)
section
variable {X : Cx} {cx : Ctx} {k : Nat} {ts : List TE} {xs : List Dn} {io : Nat → Bool} {tn : List Nat}
theorem loc_of (ok : XOk X cx k) {x : Str} (h : stoB cx x = true) : L2.Loc X.env.scope x ∧ (X.fn x = true ∨ X.env.scope.names.lookup x = some .local) := by
  unfold stoB locB at h
  rw [ok.hsc, ok.hfn]
  unfold L2.Loc
  rw [Bool.and_eq_true] at h
  obtain ⟨h1, h2⟩ := h
  constructor
  · split at h1 <;> rename_i q <;> first | exact .inl q | exact .inr q | cases h1
  · rw [Bool.or_eq_true] at h2
    rcases h2 with q | q
    · exact .inl q
    · right
      split at q
      · assumption
      · cases q
theorem pg_nm (ok : XOk X cx k) {i : Nat} {x : Str} {pos : Pos} (hN : cx.N[i]? = some x) (hv : stoB cx x = true) : PG X (.Name x pos) (gName i) :=
  pg_name ok.nd (by rw [ok.hN]; exact hN) (loc_of ok hv).1 (loc_of ok hv).2
theorem gt_nm (ok : XOk X cx k) {i : Nat} {x : Str} {pos : Pos} (hN : cx.N[i]? = some x) (hv : stoB cx x = true) (hi : i ∈ tn) : GT X io tn (.Name x pos) (gnNm io i) :=
  ⟨pg_u (pg_nm ok hN hv) (snd_gnm.wide fun j hj => by simp at hj; rw [hj]; exact hi), rfl⟩
theorem asg_cons {e : Expr} (h : plainE e = true) (es : List Expr) (env : PySem.Env) : assignEach (e :: es) env = (false, assign e env) :: assignEach es env := by
  cases e <;> first | rfl | (simp [plainE] at h)
theorem GTs.pgs : ∀ {es : List Expr} {gs : List Gn}, GTs X io tn es gs → PGs X es (gAll (gs.map (tgU X.K io tn)))
  | _, _, .nil => pgs_nil
  | _, _, .cons h r => pgs_cons h.pg r.pgs (by rw [asg_cons h.pl]; rfl)
theorem GTs.snd : ∀ {es : List Expr} {gs : List Gn}, GTs X io tn es gs → SndGs X.K io tn (gs.map (tgU X.K io tn)) gs
  | _, _, .nil => .nil
  | _, _, .cons h r => .cons snd_gu r.snd
theorem GTs.len : ∀ {es : List Expr} {gs : List Gn}, GTs X io tn es gs → (assignEach es X.env).length = gs.length ∧ (assignEach es X.env).findIdx? (·.1) = none
  | _, _, .nil => ⟨rfl, rfl⟩
  | _, _, .cons h r => by
    rw [asg_cons h.pl]
    refine ⟨by simp [r.len.1], ?_⟩
    rw [List.findIdx?_cons]
    simp [r.len.2]
theorem gt_tup (ok : XOk X cx k) {es : List Expr} {gs : List Gn} {j : Nat} {pos : Pos} (h : GTs X io tn es gs) : GT X io tn (.Tuple es j pos) (gnTup gs) :=
  ⟨pg_u (pg_tup ok.calm h.pgs h.len.1 h.len.2) (snd_gtup (by simp) h.snd), rfl⟩
/-- names in a row -/
def chkNs (cx : Ctx) : List Nat → List Expr → Bool
  | [], [] => true
  | i :: is, .Name x _ :: es => decide (cx.N[i]? = some x) && stoB cx x && chkNs cx is es
  | _, _ => false
theorem ns_of (ok : XOk X cx k) : ∀ {is : List Nat} {es : List Expr}, chkNs cx is es = true → PGs X es (gNames is) ∧ (assignEach es X.env).length = is.length ∧ (assignEach es X.env).findIdx? (·.1) = none
  | [], [], _ => ⟨pgs_nil, rfl, rfl⟩
  | i :: is, .Name x pos :: es, h => by
    simp only [chkNs, Bool.and_eq_true, decide_eq_true_eq] at h
    obtain ⟨⟨h1, h2⟩, h3⟩ := h
    obtain ⟨a, b, c⟩ := ns_of ok h3
    refine ⟨pgs_cons (pg_nm ok h1 h2) a (by rfl), ?_, ?_⟩
    · rw [asg_cons rfl]; simp [b]
    · rw [asg_cons rfl, List.findIdx?_cons]; simp [c]
  | [], _ :: _, h => by simp [chkNs] at h
  | i :: is, [], h => by simp [chkNs] at h
theorem gt_tupN (ok : XOk X cx k) {is : List Nat} {es : List Expr} {j : Nat} {pos : Pos} (h : chkNs cx is es = true) (hi : ∀ i ∈ is, i ∈ tn) : GT X io tn (.Tuple es j pos) (gnTupN io is) := by
  obtain ⟨a, b, c⟩ := ns_of ok h
  exact ⟨pg_u (pg_tup ok.calm a b c) ((snd_gtupN rfl).wide hi), rfl⟩
theorem gt_sub (ok : XOk X cx k) {i : Nat} {x : Str} {e : Expr} {y : Dn} {p pos : Pos} (hN : cx.N[i]? = some x) (hv : visB cx.sc x = true) (hd : (x == ("__debug__" : Str)) = false) (hcd : (x == ("__classdict__" : Str)) = false) (h : GE X e y) :
    GT X io tn (.Subscript (.Name x p) e pos) (gnSub i y) := by
  obtain ⟨t, pe, se⟩ := h.ex
  refine ⟨pg_u (pg_sub (pe_var (by rw [ok.hN]; exact hN) (vis_of ok hv) hd hcd) pe (pset_all (by have := units_of ok; omega)) ?_) (snd_gsub se.e), rfl⟩
  have hp := h.pl
  intro v
  cases e <;> first | rfl | (simp [plainE] at hp)

/-! ### what is walked -/
theorem gi_val {tg e : Expr} {x : Dn} (h : GE X e x) : GI X tg e (inVal x) := by
  obtain ⟨t, pe, se⟩ := h.ex
  exact ⟨pi_u (pi_val pe) (snd_ival se.e), h.pl⟩
theorem gi_range (ok : XOk X cx k) {tg : Expr} {es : List Expr} {p pos : Pos} (hb : bltB cx "range" = true) (h : PEs X es ts xs) (hl : es.length = 1 ∨ es.length = 2 ∨ es.length = 3) : GI X tg (.Call (.Name "range" p) es [] pos) (inRange xs) := by
  obtain ⟨hg, hm⟩ := blt_of ok hb
  cases h with
  | nil => simp at hl
  | cons p1 s1 q1 r =>
    cases r with
    | nil => exact ⟨pi_u (pi_range1 hg hm (PEs.pa (.cons p1 s1 q1 .nil)) (star_of q1 _ _)) (snd_irange1 s1), rfl⟩
    | cons p2 s2 q2 r =>
      cases r with
      | nil => exact ⟨pi_u (pi_range2 hg hm (PEs.pa (.cons p1 s1 q1 (.cons p2 s2 q2 .nil))) (by rw [star_of q1, star_of q2]; rfl) (star_of q2 _ _)) (snd_irange2 s1 s2), rfl⟩
      | cons p3 s3 q3 r =>
        cases r with
        | nil => exact ⟨pi_u (pi_range3 hg hm (PEs.pa (.cons p1 s1 q1 (.cons p2 s2 q2 (.cons p3 s3 q3 .nil)))) (star_of q1 _ _) (PEs.any (.cons p2 s2 q2 (.cons p3 s3 q3 .nil)))) (snd_irange3 s1 s2 s3), rfl⟩
        | cons _ _ _ _ => simp at hl

theorem gi_enum (ok : XOk X cx k) {elts : List Expr} {kk : Nat} {tpos : Pos} {e : Expr} {x : Dn} {p pos : Pos} (hb : bltB cx "enumerate" = true) (h : GE X e x) : GI X (.Tuple elts kk tpos) (.Call (.Name "enumerate" p) [e] [] pos) (inEnum x) := by
  obtain ⟨hg, hm⟩ := blt_of ok hb
  obtain ⟨t, pe, se⟩ := h.ex
  exact ⟨pi_u (pi_enumS hg hm (PEs.pa (.cons pe se h.pl .nil)) (star_of h.pl _ _)) (snd_ienum se), rfl⟩
theorem gi_zip (ok : XOk X cx k) {elts : List Expr} {kk : Nat} {tpos : Pos} {e f : Expr} {x y : Dn} {p pos : Pos} (hb : bltB cx "zip" = true) (h : GE X e x) (h' : GE X f y) : GI X (.Tuple elts kk tpos) (.Call (.Name "zip" p) [e, f] [] pos) (inZip x y) := by
  obtain ⟨hg, hm⟩ := blt_of ok hb
  obtain ⟨t, pe, se⟩ := h.ex
  obtain ⟨t', pe', se'⟩ := h'.ex
  exact ⟨pi_u (pi_zipS hg hm (PEs.pa (.cons pe se h.pl (.cons pe' se' h'.pl .nil))) (star_of h.pl _ _) (PEs.any (.cons pe' se' h'.pl .nil))) (snd_izip se se'), rfl⟩

/-! ### slices, methods -/
theorem ge_gl (ok : XOk X cx k) {x : Str} {d : D} {pos : Pos} (hg : glB cx.sc x = true) (hd : (x, d) ∈ cx.gv) (hdb : (x == ("__debug__" : Str)) = false) : GE X (.Name x pos) (mkDn fun Γ => some (d, true, Γ)) := by
  obtain ⟨v, u, hm, r, hr⟩ := ok.gvs _ hd
  exact ge_mk (pe_glob (gl_of ok hg) hm r hdb) (snd_const hr).e rfl rfl
/-- an end of a slice -/
structure GPt (X : Cx) (b : Bool) (e : Option Expr) (x : Dn) : Prop where
  ex : ∃ t, PO X e t ∧ SndPt X.K b t x
theorem gpt_some {e : Expr} {x : Dn} (h : GE X e x) : GPt X true (some e) x := by
  obtain ⟨t, pe, se⟩ := h.ex
  exact ⟨_, po_some pe, snd_part se.e⟩
theorem gpt_none : GPt X false none (mkDn fun Γ => some (.non, true, Γ)) := ⟨_, po_none, snd_noPart⟩
theorem ge_sl {bl bh : Bool} {e : Expr} {lo hi : Option Expr} {x l u : Dn} {p2 pos : Pos} (h : GE X e x) (hl : GPt X bl lo l) (hu : GPt X bh hi u) : GE X (.Subscript e (.Slice lo hi none p2) pos) (dSl bl bh x l u) := by
  obtain ⟨t, pe, se⟩ := h.ex
  obtain ⟨t1, p1, s1⟩ := hl.ex
  obtain ⟨t2, p2, s2⟩ := hu.ex
  exact ge_mk (pe_slice sl_allA pe p1 p2) (snd_sl se s1 s2) rfl rfl
theorem PEs.allp {pos : Pos} {es : List Expr} (h : PEs X es ts xs) : (backTo pos (starEach es X.env)).all (fun x => !x.1) = true := by
  have := h.any (pos := pos)
  rw [List.all_eq_not_any_not]
  simp only [Bool.not_not]
  rw [this]; rfl
theorem few_of {e : Expr} {es : List Expr} {cpos : Pos} (h : PEs X (e :: es) ts xs) (hl : es.length < 29) : ((backTo cpos (starEach (e :: es) X.env)).all (fun x => !x.1) && (backToKw cpos (keywordEach [] X.env)).all (fun x => x.1.isSome)
      && decide ((e :: es).length + ([] : List Keyword).length + (if ([] : List Keyword).isEmpty then 0 else 1) < 30)) = true := by
  rw [h.allp]
  simp [keywordEach, backToKw]
  omega
theorem ge_join {o a : Expr} {x : Dn} {apos cpos : Pos} (ho : GE X o x) (ha : PEs X [a] ts xs) (hline : (apos.endLine == cpos.line) = true) : GE X (.Call (.Attribute o "join" apos) [a] [] cpos) (dMop .join x xs) := by
  obtain ⟨t, pe, se⟩ := ho.ex
  exact ge_mk (pe_bm PySem.F.plainAttrs_str PySem.F.slot_str_join PySem.F.type_str_join mt_join pe ha.pa (base_of ho.pl _ _ _) (few_of ha (by simp)) hline (pa_star1 (pos := cpos) ha).1 (pa_star1 ha).2) (snd_mop se ha.snd snd_join) rfl rfl
theorem ge_lindex (ok : XOk X cx k) {o a : Expr} {x : Dn} {apos cpos : Pos} (ho : GE X o x) (ha : PEs X [a] ts xs) (hline : (apos.endLine == cpos.line) = true) : GE X (.Call (.Attribute o "index" apos) [a] [] cpos) (dMop .lindex x xs) := by
  obtain ⟨t, pe, se⟩ := ho.ex
  exact ge_mk (pe_bm PySem.F.plainAttrs_list PySem.F.slot_list_index PySem.F.type_list_index (mt_indexD (by have := units_of ok; omega)) pe ha.pa (base_of ho.pl _ _ _) (few_of ha (by simp)) hline (pa_star1 (pos := cpos) ha).1 (pa_star1 ha).2) (snd_mop se ha.snd snd_lindex) rfl rfl
def mtName : Mt → Str
  | .append => "append" | .pop => "pop" | .popAt => "pop" | .extend => "extend" | .remove => "remove"
theorem ge_meth1 {m : Mt} {i : Nat} {o a : Expr} {nm : Str} {apos cpos : Pos} (hm : (m = .append ∨ m = .extend ∨ m = .popAt ∨ m = .remove)) (he : nm = mtName m) (ho : PE X o (tVar i)) (hp : plainE o = true) (ha : PEs X [a] ts xs) (hline : (apos.endLine == cpos.line) = true) :
    GE X (.Call (.Attribute o nm apos) [a] [] cpos) (dMeth m i xs) := by
  subst he
  rcases hm with rfl | rfl | rfl | rfl
  · exact ge_mk (pe_bm PySem.F.plainAttrs_list PySem.F.slot_list_append PySem.F.type_list_append mt_append ho ha.pa (base_of hp _ _ _) (few_of ha (by simp)) hline (pa_star1 (pos := cpos) ha).1 (pa_star1 ha).2) (snd_meth ha.snd mt_ok_append) rfl rfl
  · exact ge_mk (pe_bm PySem.F.plainAttrs_list PySem.F.slot_list_extend PySem.F.type_list_extend mt_extend ho ha.pa (base_of hp _ _ _) (few_of ha (by simp)) hline (pa_star1 (pos := cpos) ha).1 (pa_star1 ha).2) (snd_meth ha.snd mt_ok_extend) rfl rfl
  · exact ge_mk (pe_bm PySem.F.plainAttrs_list PySem.F.slot_list_pop PySem.F.type_list_pop mt_popAt ho ha.pa (base_of hp _ _ _) (few_of ha (by simp)) hline (pa_star1 (pos := cpos) ha).1 (pa_star1 ha).2) (snd_meth ha.snd mt_ok_popAt) rfl rfl
  · exact ge_mk (pe_bm PySem.F.plainAttrs_list PySem.F.slot_list_remove PySem.F.type_list_remove mt_removeS ho ha.pa (base_of hp _ _ _) (few_of ha (by simp)) hline (pa_star1 (pos := cpos) ha).1 (pa_star1 ha).2) (snd_meth ha.snd mt_ok_remove) rfl rfl
theorem ge_pop0 {i : Nat} {o : Expr} {apos cpos : Pos} (ho : PE X o (tVar i)) (hp : plainE o = true) (hline : (apos.endLine == cpos.line) = true) :
    GE X (.Call (.Attribute o "pop" apos) [] [] cpos) (dMeth .pop i []) :=
  ge_mk (pe_bm0 PySem.F.plainAttrs_list PySem.F.slot_list_pop PySem.F.type_list_pop mt_pop ho (base_of hp _ _ _) hline) (snd_meth .nil mt_ok_pop) rfl rfl

/-! ### comprehensions -/
def relabelS (scope sc : Scope) : Scope :=
  { scope with names := scope.names.map fun (n, k) => if (k == .free && sc.kind == .function && sc.names.lookup n == some .cell) then (n, .cell) else (n, k) }
def Ctx.blk (cx : Ctx) (scope : Scope) : Ctx := { cx with sc := relabelS scope cx.sc, own := some scope }
theorem XOk.blk (ok : XOk X cx k) (s : Shared) (H : Hp) (scope : Scope) (cl : List (Str × Addr)) (C : Addr) (fp : List Addr) : XOk (X.blk s H scope (compEnvC scope cl C X.env) fp) (cx.blk scope) k where
  calm := ok.calm
  hN := ok.hN
  nd := ok.nd
  hsc := by
    show relabel scope X.env = relabelS scope cx.sc
    rw [← ok.hsc]; rfl
  hfn := rfl
  room := ok.room
  blt := ok.blt
  gvs := ok.gvs
def ownOf (cx : Ctx) (vs : List Nat) : List (Str × Nat) := vs.map fun i => (cx.N.getD i "", i)
theorem ownOf_snd (cx : Ctx) (vs : List Nat) : (ownOf cx vs).map (·.2) = vs := by
  unfold ownOf; rw [List.map_map]
  have : ((fun x => x.2) ∘ fun i => (cx.N.getD i "", i)) = (id : Nat → Nat) := rfl
  rw [this, List.map_id]
/-- a comprehension's tests -/
structure GF (X : Cx) (ifs : List Expr) (t : Env → Option (Bool × Env)) : Prop where
  pt : PTs X ifs (ttU X.K t)
theorem gf_nil : GF X [] tYesE := ⟨⟨fun pins s σ H Q I ⟨Γ, g, b, Γ', e1, S, h⟩ => pts_nil.run pins s σ H Q I (snd_tyes Γ b Γ' e1 σ H g S Q h)⟩⟩
theorem gf_one {c : Expr} {x : Dn} (h : GE X c x) (ht : testable c = true) : GF X [c] x.t := by
  obtain ⟨t, p, s⟩ := h.tt ht
  exact ⟨pts_one (pt_u p s)⟩
theorem ge_comp (ok : XOk X cx k) {vs : List Nat} {gn : Gn} {it : In} {t : Env → Option (Bool × Env)} {y : Dn} {elt tg iter : Expr} {ifs : List Expr} {scope : Scope} {pos : Pos} (hb : blkC cx.N cx.sc scope (ownOf cx vs) = true) (hi : GI X tg iter it)
    (hin : ∀ X', X'.prog = X.prog → X'.w = X.w → X'.K = X.K → X'.mg = X.mg → X'.base = X.base → XOk X' (cx.blk scope) k → GT X' io vs tg gn ∧ GF X' ifs t ∧ GE X' elt y) :
    GE X (.ListComp elt [⟨tg, iter, ifs, 0⟩] scope pos) (dComp vs gn it t y) := by
  have hin' := fun (s : Shared) (H : Hp) (C : Addr) (cl : List (Str × Addr)) (fp : List Addr) => hin (X.blk s H scope (compEnvC scope cl C X.env) fp) rfl rfl rfl rfl rfl (ok.blk s H scope cl C fp)
  have bo : BlkOk X.N X.env.scope scope (ownOf cx vs) := by
    rw [ok.hN, ok.hsc]
    exact blkOk_by hb
  have p := pe_lc (pos := pos) (te := tU X.K y.e) (tt := ttU X.K t) (g := tgU X.K io vs gn) ok.calm ok.nd hi.pi bo (fun s H C cl fp => (hin' s H C cl fp).1.pg) (fun s H C cl fp => (hin' s H C cl fp).2.1.pt)
    (fun s H C cl fp => by obtain ⟨t', p, q⟩ := (hin' s H C cl fp).2.2.ex; exact pe_u p q.e) (fold_of hi.pl _)
  rw [ownOf_snd] at p
  exact ge_mk p (snd_comp snd_iu snd_gu snd_tu snd_u) rfl rfl
/-- a local list walked, by itself or beside another name's items -/
def hidE (cx : Ctx) (i : Nat) (j : Option Nat) (tg iter : Expr) : Bool := match j, iter with
  | none, .Name x _ => nmB0 cx i x
  | some j, .Call (.Name f _) [.Name x _, .Name y _] [] _ => (match tg with | .Tuple _ _ _ => true | _ => false) && decide (f = "zip") && bltB cx "zip" && nmB0 cx i x && nmB0 cx j y
  | _, _ => false
where nmB0 (cx : Ctx) (i : Nat) (x : Str) : Bool := decide (cx.N[i]? = some x) && visB cx.sc x && !(x == ("__debug__" : Str)) && !(x == ("__classdict__" : Str))
theorem pv_of (ok : XOk X cx k) {i : Nat} {x : Str} {p : Pos} (h : hidE.nmB0 cx i x = true) : PE X (.Name x p) (tVar i) := by
  unfold hidE.nmB0 at h
  simp only [Bool.and_eq_true, decide_eq_true_eq, Bool.not_eq_true'] at h
  exact pe_var (by rw [ok.hN]; exact h.1.1.1) (vis_of ok h.1.1.2) h.1.2 h.2
theorem pi_hid (ok : XOk X cx k) {i : Nat} {j : Option Nat} {tg iter : Expr} (h : hidE cx i j tg iter = true) : PI X tg iter (wHid X.K i j) ∧ plainE iter = true := by
  unfold hidE at h
  split at h
  · exact ⟨pi_val (pv_of ok h), rfl⟩
  · simp only [Bool.and_eq_true, decide_eq_true_eq] at h
    obtain ⟨⟨⟨⟨h1, rfl⟩, h2⟩, h3⟩, h4⟩ := h
    split at h1
    · obtain ⟨hg, hm⟩ := blt_of ok h2
      refine ⟨pi_zipS hg hm (pa_cons (pv_of ok h3) (pa_cons (pv_of ok h4) pa_nil rfl) rfl) rfl rfl, rfl⟩
    · cases h1
  · cases h
theorem ge_compo (ok : XOk X cx k) {i : Nat} {j : Option Nat} {vs : List Nat} {gn : Gn} {t : Env → Option (Bool × Env)} {y : Dn} {elt tg iter : Expr} {ifs : List Expr} {scope : Scope} {pos : Pos} (hb : blkC cx.N cx.sc scope (ownOf cx vs) = true) (hi : hidE cx i j tg iter = true)
    (hin : ∀ X', X'.prog = X.prog → X'.w = X.w → X'.K = X.K → X'.mg = X.mg → X'.base = X.base → XOk X' (cx.blk scope) k → GT X' io vs tg gn ∧ GF X' ifs t ∧ GE X' elt y) :
    GE X (.ListComp elt [⟨tg, iter, ifs, 0⟩] scope pos) (dCompH i j vs gn t y) := by
  have hin' := fun (s : Shared) (H : Hp) (C : Addr) (cl : List (Str × Addr)) (fp : List Addr) => hin (X.blk s H scope (compEnvC scope cl C X.env) fp) rfl rfl rfl rfl rfl (ok.blk s H scope cl C fp)
  have bo : BlkOk X.N X.env.scope scope (ownOf cx vs) := by
    rw [ok.hN, ok.hsc]
    exact blkOk_by hb
  obtain ⟨pi, pl⟩ := pi_hid ok hi
  have p := pe_lc (pos := pos) (te := tU X.K y.e) (tt := ttU X.K t) (g := tgU X.K io vs gn) ok.calm ok.nd pi bo (fun s H C cl fp => (hin' s H C cl fp).1.pg) (fun s H C cl fp => (hin' s H C cl fp).2.1.pt)
    (fun s H C cl fp => by obtain ⟨t', p, q⟩ := (hin' s H C cl fp).2.2.ex; exact pe_u p q.e) (fold_of pl _)
  rw [ownOf_snd] at p
  exact ge_mk p (snd_compo snd_gu snd_tu snd_u) rfl rfl
end
end WT

/-! WT: a core term is the text's expression. -/
namespace WT
open PySem L2
mutual
def beqD : D → D → Bool
  | .non, .non => true
  | .bl a, .bl b => a == b
  | .int a, .int b => a == b
  | .str a, .str b => a == b
  | .tup a, .tup b => beqDs a b
  | _, _ => false
def beqDs : List D → List D → Bool
  | [], [] => true
  | x :: xs, y :: ys => beqD x y && beqDs xs ys
  | _, _ => false
end
mutual
theorem beqD_ok : ∀ (a b : D), beqD a b = true → a = b
  | .non, b, h => by cases b <;> simp [beqD] at h <;> rfl
  | .bl x, b, h => by cases b <;> simp [beqD] at h <;> rw [h]
  | .int x, b, h => by cases b <;> simp [beqD] at h <;> rw [h]
  | .str x, b, h => by cases b <;> simp [beqD] at h <;> rw [h]
  | .tup xs, b, h => by
    cases b <;> simp only [beqD] at h <;> first | cases h | skip
    rw [beqDs_ok _ _ h]
  | .lst _, _, h => by simp [beqD] at h
  | .dct _, _, h => by simp [beqD] at h
  | .scr _, _, h => by simp [beqD] at h
  | .ins _ _, _, h => by simp [beqD] at h
  | .fn _, _, h => by simp [beqD] at h
theorem beqDs_ok : ∀ (a b : List D), beqDs a b = true → a = b
  | [], b, h => by cases b <;> simp [beqDs] at h <;> rfl
  | x :: xs, b, h => by
    cases b <;> simp only [beqDs] at h <;> first | cases h | skip
    rw [Bool.and_eq_true] at h
    rw [beqD_ok _ _ h.1, beqDs_ok _ _ h.2]
end
def nmB (cx : Ctx) (i : Nat) (x : Str) : Bool := decide (cx.N[i]? = some x) && visB cx.sc x && !(x == ("__debug__" : Str)) && !(x == ("__classdict__" : Str))
def isNonC : C → Bool
  | .k .non => true
  | _ => false
def fnB (cx : Ctx) (f : Nat) (io : Option Nat) (x : Str) (kw : List (Option Str)) (n : Nat) (ix : List Nat) : Bool := match cx.fns[f]? with
  | some i => decide (x = i.name) && glB cx.sc x && decide (io = i.io) && decide ((kw.filterMap id, n, ix) ∈ i.cb) && decide ix.Nodup && kw.all (·.isSome) && !(x == ("__debug__" : Str)) && (x != ("super" : Str))
  | none => false
mutual
def chk (cx : Ctx) : C → Expr → Bool
  | .k d, e => match e with
    | .Constant c _ _ => (match c, d with
      | .none, .non => true | .bool a, .bl b => a == b | .int a, .int b => a == b | .str a, .str b => decide (a = sV b) && strOkL b | _, _ => false)
    | _ => false
  | .gl x d, e => match e with
    | .Name y _ => decide (y = sV x) && glB cx.sc y && (cx.gv.any fun p => decide (p.1 = y) && beqD p.2 d) && !(y == ("__debug__" : Str))
    | _ => false
  | .var i, e => match e with
    | .Name x _ => nmB cx i x
    | _ => false
  | .op o as, e => match opShape cx o e with
    | some es => chkL cx as es
    | none => false
  | .tup as, e => match e with
    | .Tuple es _ _ => chkL cx as es
    | _ => false
  | .lst as, e => match e with
    | .List es _ => chkL cx as es
    | _ => false
  | .dct0, e => match e with
    | .Dict [] [] _ => true
    | _ => false
  | .sl bl bh x lo hi, e => match e with
    | .Subscript v (.Slice l h none _) _ => chk cx x v && (match bl, l with
        | true, some le => chk cx lo le | false, none => isNonC lo | _, _ => false) && (match bh, h with
        | true, some he => chk cx hi he | false, none => isNonC hi | _, _ => false)
    | _ => false
  | .mop o x as, e => match e with
    | .Call (.Attribute v nm apos) [a] [] cpos => chk cx x v && chkL cx as [a] && (apos.endLine == cpos.line) && (match o with
        | .join => decide (nm = "join") | .lindex => decide (nm = "index"))
    | _ => false
  | .and a b, e => match e with
    | .BoolOp .And (x :: y :: rest) pos => testable x && chk cx a x && (match rest with
        | [] => testable y && chk cx b y
        | z :: r => chk cx b (.BoolOp .And (y :: z :: r) pos))
    | _ => false
  | .or a b, e => match e with
    | .BoolOp .Or (x :: y :: rest) pos => testable x && chk cx a x && (match rest with
        | [] => testable y && chk cx b y
        | z :: r => chk cx b (.BoolOp .Or (y :: z :: r) pos))
    | _ => false
  | .not a, e => match e with
    | .UnaryOp .Not x _ => testable x && chk cx a x
    | _ => false
  | .ife t a b, e => match e with
    | .IfExp c x y _ => testable c && chk cx t c && chk cx a x && chk cx b y
    | _ => false
  | .chain o1 o2 a b c, e => match e with
    | .Compare x [c1, c2] [y, z] _ => cmpO o1 c1 && cmpO o2 c2 && chk cx a x && chk cx b y && chk cx c z
    | _ => false
  | .call f io as ix, e => match e with
    | .Call (.Name x _) es kws _ => fnB cx f io x (kws.map (·.arg)) es.length ix && chkL cx as (es ++ kws.map (·.value))
    | _ => false
  | .callp f i c, e => match e with
    | .Call (.Name x _) [.Subscript (.Name l _) idx _] [] _ => fnB cx f (some 0) x [] 1 [] && nmB cx i l && chk cx c idx
    | _ => false
  | .comp vs tg it ifs c, e => match e with
    | .ListComp elt [⟨tg', iter, ifs', n⟩] scope _ => decide (n = 0) && blkC cx.N cx.sc scope (ownOf cx vs) && chkI cx it tg' iter && chkG (cx.blk scope) vs tg tg' && (match ifs, ifs' with
        | none, [] => true
        | some t, [x] => testable x && chk (cx.blk scope) t x
        | _, _ => false) && chk (cx.blk scope) c elt
    | _ => false
  | .compo i j vs tg ifs c, e => match e with
    | .ListComp elt [⟨tg', iter, ifs', n⟩] scope _ => decide (n = 0) && blkC cx.N cx.sc scope (ownOf cx vs) && hidE cx i j tg' iter && chkG (cx.blk scope) vs tg tg' && (match ifs, ifs' with
        | none, [] => true
        | some t, [x] => testable x && chk (cx.blk scope) t x
        | _, _ => false) && chk (cx.blk scope) c elt
    | _ => false
  | .meth m i as, e => match e with
    | .Call (.Attribute (.Name x _) nm apos) es [] cpos => nmB cx i x && decide (nm = mtName m) && (apos.endLine == cpos.line) && chkL cx as es && (match m, es with
        | .pop, [] => true | .append, [_] => true | .extend, [_] => true | .popAt, [_] => true | .remove, [_] => true | _, _ => false)
    | _ => false
def chkL (cx : Ctx) : List C → List Expr → Bool
  | [], [] => true
  | c :: cs, e :: es => chk cx c e && chkL cx cs es
  | _, _ => false
def chkI (cx : Ctx) : It → Expr → Expr → Bool
  | .val c, _, e => chk cx c e
  | .range as, _, e => match e with
    | .Call (.Name f _) es [] _ => decide (f = "range") && bltB cx "range" && (es.length == 1 || es.length == 2 || es.length == 3) && chkL cx as es
    | _ => false
  | .enum c, tg, e => match tg, e with
    | .Tuple _ _ _, .Call (.Name f _) [x] [] _ => decide (f = "enumerate") && bltB cx "enumerate" && chk cx c x
    | _, _ => false
  | .zip a b, tg, e => match tg, e with
    | .Tuple _ _ _, .Call (.Name f _) [x, y] [] _ => decide (f = "zip") && bltB cx "zip" && chk cx a x && chk cx b y
    | _, _ => false
def chkG (cx : Ctx) (tn : List Nat) : Tg → Expr → Bool
  | .nm i, e => match e with
    | .Name x _ => decide (cx.N[i]? = some x) && stoB cx x && tn.contains i
    | _ => false
  | .tupN is, e => match e with
    | .Tuple es _ _ => chkNs cx is es && is.all tn.contains
    | _ => false
  | .tup ts, e => match e with
    | .Tuple es _ _ => chkGs cx tn ts es
    | _ => false
  | .sub i c, e => match e with
    | .Subscript (.Name x _) idx _ => nmB cx i x && chk cx c idx
    | _ => false
def chkGs (cx : Ctx) (tn : List Nat) : List Tg → List Expr → Bool
  | [], [] => true
  | t :: ts, e :: es => chkG cx tn t e && chkGs cx tn ts es
  | _, _ => false
end
def FnsOk (X : Cx) (fns : List FnI) (F : FT) (k : Nat) : Prop := ∀ f i, fns[f]? = some i → FnOkI X F k f i
theorem FnsOk.move {X X' : Cx} {fns : List FnI} {F : FT} {k : Nat} (h : FnsOk X fns F k) (h1 : X'.prog = X.prog) (h2 : X'.w = X.w) (h3 : X'.K = X.K) (h4 : X'.mg = X.mg) (h5 : X'.base = X.base) : FnsOk X' fns F k := by
  intro f i e
  obtain ⟨a, b⟩ := h f i e
  refine ⟨?_, b⟩
  rw [h1, h2, h3, h4, h5]
  exact a
theorem nmB_ok {cx : Ctx} {i : Nat} {x : Str} (h : nmB cx i x = true) : cx.N[i]? = some x ∧ visB cx.sc x = true ∧ (x == ("__debug__" : Str)) = false ∧ (x == ("__classdict__" : Str)) = false := by
  unfold nmB at h
  simp only [Bool.and_eq_true, decide_eq_true_eq, Bool.not_eq_true'] at h
  exact ⟨h.1.1.1, h.1.1.2, h.1.2, h.2⟩
theorem fnB_ok {cx : Ctx} {f : Nat} {io : Option Nat} {x : Str} {kw : List (Option Str)} {n : Nat} {ix : List Nat} (h : fnB cx f io x kw n ix = true) :
    ∃ i, cx.fns[f]? = some i ∧ x = i.name ∧ glB cx.sc x = true ∧ io = i.io ∧ (kw.filterMap id, n, ix) ∈ i.cb ∧ ix.Nodup ∧ kw.all (·.isSome) = true ∧ (x == ("__debug__" : Str)) = false ∧ (x != ("super" : Str)) = true := by
  unfold fnB at h
  split at h
  · rename_i i e
    simp only [Bool.and_eq_true, decide_eq_true_eq, Bool.not_eq_true'] at h
    obtain ⟨⟨⟨⟨⟨⟨⟨h1, h2⟩, h3⟩, h4⟩, h5⟩, h6⟩, h7⟩, h8⟩ := h
    exact ⟨i, e, h1, h2, h3, h4, h5, h6, h7, h8⟩
  · cases h
theorem isNonC_ok {c : C} (h : isNonC c = true) : c = .k .non := by
  unfold isNonC at h
  split at h
  · rfl
  · cases h
end WT

/-! WT: every expression that is checked. -/
namespace WT
open PySem L2
theorem GE.cons {X : Cx} {e : Expr} {es : List Expr} {x : Dn} {ts : List TE} {xs : List Dn} (h : GE X e x) (r : PEs X es ts xs) : ∃ ts, PEs X (e :: es) ts (x :: xs) := by
  obtain ⟨t, p, s⟩ := h.ex
  exact ⟨_, .cons p s h.pl r⟩
section
variable (P : Prm) {k : Nat}
theorem kw_map (kws : List Keyword) : (kws.map (·.arg)).filterMap id = kws.filterMap (·.arg) := by
  rw [List.filterMap_map]; rfl
theorem kw_map2 (kws : List Keyword) (h : (kws.map (·.arg)).all (·.isSome) = true) : kws.all (·.arg.isSome) = true := by
  rw [List.all_map] at h; exact h
mutual
theorem chk_ok : ∀ (c : C) {X : Cx} {cx : Ctx} {e : Expr}, XOk X cx k → FnsOk X cx.fns P.F k → chk cx c e = true → GE X e (ev P c)
  | .k d, X, cx, e, ok, fs, h => by
    simp only [chk] at h
    split at h
    · exact ge_const h
    · cases h
  | .gl x d, X, cx, e, ok, fs, h => by
    simp only [chk] at h
    split at h
    · rename_i y pos
      simp only [Bool.and_eq_true, decide_eq_true_eq, Bool.not_eq_true', List.any_eq_true] at h
      obtain ⟨⟨⟨rfl, h2⟩, ⟨⟨p1, p2⟩, hp, e1, e2⟩⟩, h4⟩ := h
      have e3 := beqD_ok _ _ e2
      simp only at e1 e3
      subst e1 e3
      exact ge_gl ok h2 hp h4
    · cases h
  | .var i, X, cx, e, ok, fs, h => by
    simp only [chk] at h
    split at h
    · obtain ⟨a, b, c, d⟩ := nmB_ok h
      exact ge_var ok a b c d
    · cases h
  | .op o as, X, cx, e, ok, fs, h => by
    simp only [chk] at h
    split at h
    · rename_i es he
      obtain ⟨ts, hs⟩ := chkL_ok as ok fs h
      exact ge_op ok o he hs
    · cases h
  | .tup as, X, cx, e, ok, fs, h => by
    simp only [chk] at h
    split at h
    · obtain ⟨ts, hs⟩ := chkL_ok as ok fs h
      exact ge_tup hs
    · cases h
  | .lst as, X, cx, e, ok, fs, h => by
    simp only [chk] at h
    split at h
    · obtain ⟨ts, hs⟩ := chkL_ok as ok fs h
      exact ge_lst hs
    · cases h
  | .dct0, X, cx, e, ok, fs, h => by
    simp only [chk] at h
    split at h
    · exact ge_dct0
    · cases h
  | .sl bl bh x lo hi, X, cx, e, ok, fs, h => by
    simp only [chk] at h
    split at h
    · rename_i v l u _ _
      simp only [Bool.and_eq_true] at h
      obtain ⟨⟨h1, h2⟩, h3⟩ := h
      have a := chk_ok x ok fs h1
      have b : GPt X bl l (ev P lo) := by
        split at h2
        · exact gpt_some (chk_ok lo ok fs h2)
        · rw [isNonC_ok h2]; exact gpt_none
        · cases h2
      have c : GPt X bh u (ev P hi) := by
        split at h3
        · exact gpt_some (chk_ok hi ok fs h3)
        · rw [isNonC_ok h3]; exact gpt_none
        · cases h3
      exact ge_sl a b c
    · cases h
  | .mop o x as, X, cx, e, ok, fs, h => by
    simp only [chk] at h
    split at h
    · simp only [Bool.and_eq_true] at h
      obtain ⟨⟨⟨h1, h2⟩, h3⟩, h4⟩ := h
      have a := chk_ok x ok fs h1
      obtain ⟨ts, hs⟩ := chkL_ok as ok fs h2
      split at h4
      · rw [decide_eq_true_eq] at h4; subst h4
        exact ge_join a hs h3
      · rw [decide_eq_true_eq] at h4; subst h4
        exact ge_lindex ok a hs h3
    · cases h
  | .and a b, X, cx, e, ok, fs, h => by
    simp only [chk] at h
    split at h
    · rename_i x y rest pos
      simp only [Bool.and_eq_true] at h
      obtain ⟨⟨h1, h2⟩, h3⟩ := h
      have g1 := chk_ok a ok fs h2
      split at h3
      · simp only [Bool.and_eq_true] at h3
        exact ge_and2 g1 (chk_ok b ok fs h3.2) h1 h3.1
      · exact ge_andN g1 (chk_ok b ok fs h3) h1
    · cases h
  | .or a b, X, cx, e, ok, fs, h => by
    simp only [chk] at h
    split at h
    · rename_i x y rest pos
      simp only [Bool.and_eq_true] at h
      obtain ⟨⟨h1, h2⟩, h3⟩ := h
      have g1 := chk_ok a ok fs h2
      split at h3
      · simp only [Bool.and_eq_true] at h3
        exact ge_or2 g1 (chk_ok b ok fs h3.2) h1 h3.1
      · exact ge_orN g1 (chk_ok b ok fs h3) h1
    · cases h
  | .not a, X, cx, e, ok, fs, h => by
    simp only [chk] at h
    split at h
    · rw [Bool.and_eq_true] at h
      exact ge_not (chk_ok a ok fs h.2) h.1
    · cases h
  | .ife t a b, X, cx, e, ok, fs, h => by
    simp only [chk] at h
    split at h
    · simp only [Bool.and_eq_true] at h
      exact ge_ife (chk_ok t ok fs h.1.1.2) (chk_ok a ok fs h.1.2) (chk_ok b ok fs h.2) h.1.1.1
    · cases h
  | .chain o1 o2 a b c, X, cx, e, ok, fs, h => by
    simp only [chk] at h
    split at h
    · simp only [Bool.and_eq_true] at h
      exact ge_chain h.1.1.1.1 h.1.1.1.2 (chk_ok a ok fs h.1.1.2) (chk_ok b ok fs h.1.2) (chk_ok c ok fs h.2)
    · cases h
  | .call f io as ix, X, cx, e, ok, fs, h => by
    simp only [chk] at h
    split at h
    · rename_i x p es kws pos
      rw [Bool.and_eq_true] at h
      obtain ⟨i, hi, rfl, h2, rfl, h4, h5, h6, h7, h8⟩ := fnB_ok h.1
      obtain ⟨ts, hs⟩ := chkL_ok as ok fs h.2
      exact ge_callG (fs f i hi) ok.room (gl_of ok h2) h4 h5 hs (kw_map kws).symm rfl (kw_map2 kws h6) h7 h8
    · cases h
  | .callp f i c, X, cx, e, ok, fs, h => by
    simp only [chk] at h
    split at h
    · rename_i x p l lp idx sp pos
      simp only [Bool.and_eq_true] at h
      obtain ⟨⟨h1, h2⟩, h3⟩ := h
      obtain ⟨fi, hi, rfl, h2', h3', h4, h5, h6, h7, h8⟩ := fnB_ok h1
      obtain ⟨n1, n2, n3, n4⟩ := nmB_ok h2
      have ge := chk_ok c ok fs h3
      obtain ⟨t, pe, se⟩ := ge.ex
      have FO := fs f fi hi
      have pv : PE X (.Name l lp) (tVar i) := pe_var (by rw [ok.hN]; exact n1) (vis_of ok n2) n3 n4
      have pix : PE X (.Subscript (.Name l lp) idx sp) (tOp (rIx X.K) (tVar i) t) := pe_ix ix_seq pv pe (ix_of ge.pl)
      have sdx : SndD X.K (tOp (rIx X.K) (tVar i) t) (mkDn fun _ => none) := by
        refine ⟨?_, ?_⟩
        · intro Γ d fr Γ' z; cases z
        · intro Γ a Γ' z; cases z
      have pc := pe_callG (es := [.Subscript (.Name l lp) idx sp]) (p := p) (pos := pos) (kws := []) FO ok.room (gl_of ok h2') h4 (PEs.cons pix sdx rfl .nil) rfl rfl rfl h7
      have sc := snd_callp (F := P.F) (f := f) (np := fi.ps.length) (i := i) se.e FO.np
      rw [← h3'] at pc
      exact ge_mk pc sc rfl rfl
    · cases h
  | .comp vs tg it ifs c, X, cx, e, ok, fs, h => by
    cases ifs with
    | none =>
      rw [chk.eq_def] at h; simp only at h
      split at h
      · rename_i elt tg' iter ifs' n scope pos
        simp only [Bool.and_eq_true, decide_eq_true_eq] at h
        obtain ⟨⟨⟨⟨⟨rfl, h2⟩, h3⟩, h4⟩, h5⟩, h6⟩ := h
        split at h5
        · exact ge_comp ok h2 (chkI_ok it ok fs h3) fun X' e1 e2 e3 e4 e5 ok' => ⟨chkG_ok tg ok' (fs.move e1 e2 e3 e4 e5) h4, gf_nil, chk_ok c ok' (fs.move e1 e2 e3 e4 e5) h6⟩
        · rename_i q; exact nomatch q
        · cases h5
      · cases h
    | some t =>
      rw [chk.eq_def] at h; simp only at h
      split at h
      · rename_i elt tg' iter ifs' n scope pos
        simp only [Bool.and_eq_true, decide_eq_true_eq] at h
        obtain ⟨⟨⟨⟨⟨rfl, h2⟩, h3⟩, h4⟩, h5⟩, h6⟩ := h
        split at h5
        · rename_i q; exact nomatch q
        · rename_i t' x q
          cases q
          rw [Bool.and_eq_true] at h5
          exact ge_comp ok h2 (chkI_ok it ok fs h3) fun X' e1 e2 e3 e4 e5 ok' => ⟨chkG_ok tg ok' (fs.move e1 e2 e3 e4 e5) h4, gf_one (chk_ok t ok' (fs.move e1 e2 e3 e4 e5) h5.2) h5.1, chk_ok c ok' (fs.move e1 e2 e3 e4 e5) h6⟩
        · cases h5
      · cases h
  | .compo i j vs tg ifs c, X, cx, e, ok, fs, h => by
    cases ifs with
    | none =>
      rw [chk.eq_def] at h; simp only at h
      split at h
      · rename_i elt tg' iter ifs' n scope pos
        simp only [Bool.and_eq_true, decide_eq_true_eq] at h
        obtain ⟨⟨⟨⟨⟨rfl, h2⟩, h3⟩, h4⟩, h5⟩, h6⟩ := h
        split at h5
        · exact ge_compo ok h2 h3 fun X' e1 e2 e3 e4 e5 ok' => ⟨chkG_ok tg ok' (fs.move e1 e2 e3 e4 e5) h4, gf_nil, chk_ok c ok' (fs.move e1 e2 e3 e4 e5) h6⟩
        · rename_i q; exact nomatch q
        · cases h5
      · cases h
    | some t =>
      rw [chk.eq_def] at h; simp only at h
      split at h
      · rename_i elt tg' iter ifs' n scope pos
        simp only [Bool.and_eq_true, decide_eq_true_eq] at h
        obtain ⟨⟨⟨⟨⟨rfl, h2⟩, h3⟩, h4⟩, h5⟩, h6⟩ := h
        split at h5
        · rename_i q; exact nomatch q
        · rename_i t' x q
          cases q
          rw [Bool.and_eq_true] at h5
          exact ge_compo ok h2 h3 fun X' e1 e2 e3 e4 e5 ok' => ⟨chkG_ok tg ok' (fs.move e1 e2 e3 e4 e5) h4, gf_one (chk_ok t ok' (fs.move e1 e2 e3 e4 e5) h5.2) h5.1, chk_ok c ok' (fs.move e1 e2 e3 e4 e5) h6⟩
        · cases h5
      · cases h
  | .meth m i as, X, cx, e, ok, fs, h => by
    simp only [chk] at h
    split at h
    · rename_i x p nm apos es cpos
      simp only [Bool.and_eq_true, decide_eq_true_eq] at h
      obtain ⟨⟨⟨⟨h1, rfl⟩, h3⟩, h4⟩, h5⟩ := h
      obtain ⟨n1, n2, n3, n4⟩ := nmB_ok h1
      have pv : PE X (.Name x p) (tVar i) := pe_var (by rw [ok.hN]; exact n1) (vis_of ok n2) n3 n4
      obtain ⟨ts, hs⟩ := chkL_ok as ok fs h4
      show GE X _ (dMeth m i (evL P as))
      split at h5
      · have z : ∀ ys, PEs X [] ts ys → ys = [] := fun ys q => by cases q; rfl
        rw [z _ hs]
        exact ge_pop0 pv rfl h3
      · exact ge_meth1 (.inl rfl) rfl pv rfl hs h3
      · exact ge_meth1 (.inr (.inl rfl)) rfl pv rfl hs h3
      · exact ge_meth1 (.inr (.inr (.inl rfl))) rfl pv rfl hs h3
      · exact ge_meth1 (.inr (.inr (.inr rfl))) rfl pv rfl hs h3
      · cases h5
    · cases h
theorem chkL_ok : ∀ (cs : List C) {X : Cx} {cx : Ctx} {es : List Expr}, XOk X cx k → FnsOk X cx.fns P.F k → chkL cx cs es = true → ∃ ts, PEs X es ts (evL P cs)
  | [], X, cx, es, ok, fs, h => by
    cases es with
    | nil => exact ⟨[], .nil⟩
    | cons _ _ => simp [chkL] at h
  | c :: cs, X, cx, es, ok, fs, h => by
    cases es with
    | nil => simp [chkL] at h
    | cons e es =>
      simp only [chkL, Bool.and_eq_true] at h
      obtain ⟨ts, hs⟩ := chkL_ok cs ok fs h.2
      exact (chk_ok c ok fs h.1).cons hs
theorem chkI_ok : ∀ (it : It) {X : Cx} {cx : Ctx} {tg e : Expr}, XOk X cx k → FnsOk X cx.fns P.F k → chkI cx it tg e = true → GI X tg e (evI P it)
  | .val c, X, cx, tg, e, ok, fs, h => by
    simp only [chkI] at h
    exact gi_val (chk_ok c ok fs h)
  | .range as, X, cx, tg, e, ok, fs, h => by
    simp only [chkI] at h
    split at h
    · simp only [Bool.and_eq_true, decide_eq_true_eq, Bool.or_eq_true, beq_iff_eq] at h
      obtain ⟨⟨⟨rfl, h2⟩, h3⟩, h4⟩ := h
      obtain ⟨ts, hs⟩ := chkL_ok as ok fs h4
      exact gi_range ok h2 hs (by omega)
    · cases h
  | .enum c, X, cx, tg, e, ok, fs, h => by
    simp only [chkI] at h
    split at h
    · simp only [Bool.and_eq_true, decide_eq_true_eq] at h
      obtain ⟨⟨rfl, h2⟩, h3⟩ := h
      exact gi_enum ok h2 (chk_ok c ok fs h3)
    · cases h
  | .zip a b, X, cx, tg, e, ok, fs, h => by
    simp only [chkI] at h
    split at h
    · simp only [Bool.and_eq_true, decide_eq_true_eq] at h
      obtain ⟨⟨⟨rfl, h2⟩, h3⟩, h4⟩ := h
      exact gi_zip ok h2 (chk_ok a ok fs h3) (chk_ok b ok fs h4)
    · cases h
theorem chkG_ok : ∀ (tg : Tg) {X : Cx} {cx : Ctx} {tn : List Nat} {e : Expr}, XOk X cx k → FnsOk X cx.fns P.F k → chkG cx tn tg e = true → GT X P.io tn e (evG P tg)
  | .nm i, X, cx, tn, e, ok, fs, h => by
    simp only [chkG] at h
    split at h
    · simp only [Bool.and_eq_true, decide_eq_true_eq] at h
      exact gt_nm ok h.1.1 h.1.2 (by simpa using h.2)
    · cases h
  | .tupN is, X, cx, tn, e, ok, fs, h => by
    simp only [chkG] at h
    split at h
    · simp only [Bool.and_eq_true, List.all_eq_true] at h
      exact gt_tupN ok h.1 fun i hi => by simpa using h.2 i hi
    · cases h
  | .tup ts, X, cx, tn, e, ok, fs, h => by
    simp only [chkG] at h
    split at h
    · exact gt_tup ok (chkGs_ok ts ok fs h)
    · cases h
  | .sub i c, X, cx, tn, e, ok, fs, h => by
    simp only [chkG] at h
    split at h
    · rw [Bool.and_eq_true] at h
      obtain ⟨a, b, c', d⟩ := nmB_ok h.1
      exact gt_sub ok a b c' d (chk_ok c ok fs h.2)
    · cases h
theorem chkGs_ok : ∀ (tgs : List Tg) {X : Cx} {cx : Ctx} {tn : List Nat} {es : List Expr}, XOk X cx k → FnsOk X cx.fns P.F k → chkGs cx tn tgs es = true → GTs X P.io tn es (evGs P tgs)
  | [], X, cx, tn, es, ok, fs, h => by
    cases es with
    | nil => exact .nil
    | cons _ _ => simp [chkGs] at h
  | t :: ts, X, cx, tn, es, ok, fs, h => by
    cases es with
    | nil => simp [chkGs] at h
    | cons e es =>
      simp only [chkGs, Bool.and_eq_true] at h
      exact .cons (chkG_ok t ok fs h.1) (chkGs_ok ts ok fs h.2)
end
end
end WT

/-! WT: statements by their meaning. -/
namespace WT
open PySem L2
section
variable {K : PySem.W.Frag} {H H' H1 H2 H0 : Hp} {Γ Γ' Γ1 Γ2 Γ0 : Env} {g g' g1 g2 g0 : Nat → List Addr} {σ σ' σ0 : L2.St}
def IoU (io : Nat → Bool) (σ σ' : L2.St) : Prop := ∀ i, io i = true → σ'[i]? = σ[i]?
theorem IoU.refl {io : Nat → Bool} : IoU io σ σ := fun _ _ => rfl
theorem IoU.trans {io : Nat → Bool} {σ1 σ2 : L2.St} (h : IoU io σ σ1) (h' : IoU io σ1 σ2) : IoU io σ σ2 := fun i e => (h' i e).trans (h i e)
/-- what an ending must allow -/
def PostS (K : PySem.W.Frag) (io : Nat → Bool) (H0 : Hp) (Γ0 : Env) (g0 : Nat → List Addr) (σ : L2.St) (H : Hp) (Γ : Env) (g : Nat → List Addr) (D : Ends) (Γ' : Env) : Flow → Prop
  | .nx => ∀ σ' H' g', StRel K Γ' g' σ' H' → Step H Γ g H' Γ' g' → IoU io σ σ' → D.nx σ' H'
  | .brk => ∀ σ' H' g', StRel K Γ' g' σ' H' → Step H Γ g H' Γ' g' → IoU io σ σ' → D.bk σ' H'
  | .cnt => ∀ σ' H' g', StRel K Γ' g' σ' H' → Step H Γ g H' Γ' g' → IoU io σ σ' → D.ct σ' H'
  | .ret d fr => ∀ v σ' H' g' A, StRel K Γ' g' σ' H' → Step H Γ g H' Γ' g' → IoU io σ σ' → Res K H0 Γ0 g0 d fr H' Γ' g' v A → D.rt v H'
def SndS (K : PySem.W.Frag) (io : Nat → Bool) (t : TS) (s : Sn) : Prop :=
  ∀ Γ f Γ', s Γ = some (f, Γ') → ∀ (σ : L2.St) (H : Hp) (g : Nat → List Addr) (H0 : Hp) (Γ0 : Env) (g0 : Nat → List Addr), StRel K Γ g σ H → Step H0 Γ0 g0 H Γ g → (∀ i, isOwn Γ0 i → io i = true) → ∀ D : Ends,
    PostS K io H0 Γ0 g0 σ H Γ g D Γ' f → t D σ H
/-- an ending seen from an earlier point -/
theorem PostS.later {io : Nat → Bool} {D : Ends} {f : Flow} (p : PostS K io H0 Γ0 g0 σ H Γ g D Γ' f) (s : Step H Γ g H1 Γ1 g1) (u : IoU io σ σ') : PostS K io H0 Γ0 g0 σ' H1 Γ1 g1 D Γ' f := by
  cases f with
  | nx => exact fun σ2 H2 g2 S2 s2 u2 => p σ2 H2 g2 S2 (s.trans s2) (u.trans u2)
  | brk => exact fun σ2 H2 g2 S2 s2 u2 => p σ2 H2 g2 S2 (s.trans s2) (u.trans u2)
  | cnt => exact fun σ2 H2 g2 S2 s2 u2 => p σ2 H2 g2 S2 (s.trans s2) (u.trans u2)
  | ret d fr => exact fun v σ2 H2 g2 A S2 s2 u2 r => p v σ2 H2 g2 A S2 (s.trans s2) (u.trans u2) r
theorem snd_next {io : Nat → Bool} : SndS K io tNext sNx := by
  intro Γ f Γ' e σ H g H0 Γ0 g0 S s ho D p
  cases e
  exact p σ H g S .refl .refl
theorem snd_brk {io : Nat → Bool} : SndS K io tBreak (fun Γ => some (.brk, Γ)) := by
  intro Γ f Γ' e σ H g H0 Γ0 g0 S s ho D p
  cases e
  exact p σ H g S .refl .refl
theorem snd_cnt {io : Nat → Bool} : SndS K io tCont (fun Γ => some (.cnt, Γ)) := by
  intro Γ f Γ' e σ H g H0 Γ0 g0 S s ho D p
  cases e
  exact p σ H g S .refl .refl
theorem snd_never {io : Nat → Bool} : SndS K io tNever (fun _ => none) := by
  intro Γ f Γ' e σ H g H0 Γ0 g0 S s ho D p
  cases e
theorem snd_retN {io : Nat → Bool} : SndS K io tRetN (fun Γ => some (.ret .non true, Γ)) := by
  intro Γ f Γ' e σ H g H0 Γ0 g0 S s ho D p
  cases e
  exact p .non σ H g [] S .refl .refl ⟨by simp [Rep], fun _ z => (nomatch z), fun _ z => (nomatch z), fun _ => ⟨List.nodup_nil, fun _ z => (nomatch z)⟩⟩
theorem snd_seq {io : Nat → Bool} {t u : TS} {a b : Sn} (ha : SndS K io t a) (hb : SndS K io u b) : SndS K io (tSeq t u) (sSeq a b) := by
  intro Γ f Γ' e σ H g H0 Γ0 g0 S s ho D p
  simp only [sSeq, Option.bind_eq_some_iff] at e
  obtain ⟨⟨f1, Γ1⟩, e1, e2⟩ := e
  refine ha Γ f1 Γ1 e1 σ H g H0 Γ0 g0 S s ho _ ?_
  cases f1 with
  | nx => exact fun σ1 H1 g1 S1 s1 u1 => hb Γ1 f Γ' e2 σ1 H1 g1 H0 Γ0 g0 S1 (s.trans s1) ho D (p.later s1 u1)
  | brk => cases e2; exact p
  | cnt => cases e2; exact p
  | ret d fr => cases e2; exact p
theorem snd_if {io : Nat → Bool} {tt : TT} {c : Env → Option (Bool × Env)} {t u : TS} {a b : Sn} (hc : SndT K tt c) (ha : SndS K io t a) (hb : SndS K io u b) : SndS K io (tIfS tt t u) (fun Γ => (c Γ).bind fun (c, Γ1) => if c then a Γ1 else b Γ1) := by
  intro Γ f Γ' e σ H g H0 Γ0 g0 S s ho D p
  simp only [Option.bind_eq_some_iff] at e
  obtain ⟨⟨q, Γ1⟩, e1, e2⟩ := e
  refine hc Γ q Γ1 e1 σ H g S _ fun H1 g1 S1 s1 => ?_
  cases q with
  | true =>
    rw [if_pos rfl] at e2 ⊢
    exact ha Γ1 f Γ' e2 σ H1 g1 H0 Γ0 g0 S1 (s.trans s1) ho D (p.later s1 .refl)
  | false =>
    rw [if_neg (by simp)] at e2 ⊢
    exact hb Γ1 f Γ' e2 σ H1 g1 H0 Γ0 g0 S1 (s.trans s1) ho D (p.later s1 .refl)
theorem snd_drop {io : Nat → Bool} {te : TE} {x : Dn} (h : SndD K te x) : SndS K io (tDrop te) (fun Γ => (x.a Γ).map fun (_, Γ1) => (.nx, Γ1)) := by
  intro Γ f Γ' e σ H g H0 Γ0 g0 S s ho D p
  simp only [Option.map_eq_some_iff] at e
  obtain ⟨⟨a, Γ1⟩, e1, e2⟩ := e
  cases e2
  exact h.a Γ a _ e1 σ H g S _ fun v H1 g1 A S1 s1 _ => p σ H1 g1 S1 s1 .refl
theorem snd_asg {io : Nat → Bool} {tn : List Nat} {te : TE} {f : Env → Option (D × Bool × Env)} {tg : TG} {gn : Gn} (h : SndE K te f) (hg : SndG K io tn tg gn) : SndS K io (tAsg te tg) (fun Γ => (f Γ).bind fun (d, fr, Γ1) => (gn d fr Γ1).map fun Γ2 => (.nx, Γ2)) := by
  intro Γ fl Γ' e σ H g H0 Γ0 g0 S s ho D p
  simp only [Option.bind_eq_some_iff, Option.map_eq_some_iff] at e
  obtain ⟨⟨d, fr, Γ1⟩, e1, Γ2, e2, e3⟩ := e
  cases e3
  refine h Γ d fr Γ1 e1 σ H g S _ fun v H1 g1 A S1 s1 r1 => ?_
  exact hg d fr Γ1 _ e2 σ H1 g1 H Γ g v A S1 s1 r1 _ fun σ2 H2 g2 S2 s2 _ u2 _ => p σ2 H2 g2 S2 s2 u2
theorem snd_ret {io : Nat → Bool} {te : TE} {f : Env → Option (D × Bool × Env)} (h : SndE K te f) : SndS K io (tRet te) (fun Γ => (f Γ).map fun (d, fr, Γ1) => (.ret d fr, Γ1)) := by
  intro Γ fl Γ' e σ H g H0 Γ0 g0 S s ho D p
  simp only [Option.map_eq_some_iff] at e
  obtain ⟨⟨d, fr, Γ1⟩, e1, e2⟩ := e
  cases e2
  exact h Γ d fr _ e1 σ H g S _ fun v H1 g1 A S1 s1 r1 => p v σ H1 g1 A S1 s1 .refl (r1.back s)
/-- a local list goes out as it is -/
theorem snd_retv {io : Nat → Bool} {i : Nat} (hi : io i = false) : SndS K io (tRet (tVar i)) (fun Γ => match Γ[i]? with
    | some (.own d) => some (.ret d true, Γ.set i .un)
    | some (.val d) => some (.ret d (imm d), Γ)
    | _ => none) := by
  intro Γ fl Γ' e σ H g H0 Γ0 g0 S s ho D p
  simp only at e
  split at e
  · rename_i d q
    cases e
    obtain ⟨v, ev, r, nd⟩ := S.own i d q
    refine ⟨v, ev, ?_⟩
    have oi : isOwn Γ i := ⟨d, q⟩
    have hl : i < Γ.length := (List.getElem?_eq_some_iff.mp q).1
    have nio : ∀ a ∈ g i, H0 a = none := fun a ha => by
      rcases s.own i oi a ha with ⟨z, _⟩ | z
      · rw [ho i z] at hi; cases hi
      · exact z
    have st : StRel K (Γ.set i .un) (putG g i []) σ H := by
      refine ⟨by rw [List.length_set]; exact S.len, fun j x e => ?_, fun j x e => ?_, fun j e => ?_, fun j l hjl oj b hb => ?_⟩
      · by_cases hj : j = i
        · subst hj; rw [set_self q] at e; cases e
        · rw [List.getElem?_set_ne (Ne.symm hj)] at e; rw [putG_ne hj]; exact S.val j x e
      · by_cases hj : j = i
        · subst hj; rw [set_self q] at e; cases e
        · rw [List.getElem?_set_ne (Ne.symm hj)] at e; rw [putG_ne hj]; exact S.own j x e
      · by_cases hj : j = i
        · subst hj; exact putG_same
        · rw [List.getElem?_set_ne (Ne.symm hj)] at e; rw [putG_ne hj]; exact S.un j e
      · by_cases hj : j = i
        · subst hj; rw [putG_same] at hb; cases hb
        · rw [putG_ne hj] at hb
          by_cases hz : l = i
          · subst hz; rw [putG_same]; exact fun z => nomatch z
          · rw [putG_ne hz]; exact S.sep j l hjl (isOwn_set oj hj) b hb
    have sub : ∀ {b}, reg (putG g i []) b → ∃ j, j ≠ i ∧ b ∈ g j := fun {b} ⟨j, hj⟩ => by
      by_cases z : j = i
      · subst z; rw [putG_same] at hj; cases hj
      · rw [putG_ne z] at hj; exact ⟨j, z, hj⟩
    have st2 : Step H Γ g H (Γ.set i .un) (putG g i []) := by
      refine ⟨fun b o eb _ => eb, fun b eb => eb, fun j oj b hb => ?_, fun b hb => ?_⟩
      · by_cases hj : j = i
        · subst hj; rw [putG_same] at hb; cases hb
        · rw [putG_ne hj] at hb; exact .inl ⟨isOwn_set oj hj, hb⟩
      · obtain ⟨j, _, hj⟩ := sub hb; exact .inl ⟨j, hj⟩
    have nr : ∀ a ∈ g i, ¬ reg (putG g i []) a := fun a ha q => by
      obtain ⟨j, hj, hb⟩ := sub q
      exact S.sep i j (Ne.symm hj) oi a ha hb
    exact p v σ H _ (g i) st st2 .refl ⟨r, fun a ha f => nr a ha (StRel.fp_reg f), fun a ha => .inr (nio a ha), fun _ => ⟨nd, fun a ha => ⟨nio a ha, nr a ha⟩⟩⟩
  · rename_i d q
    cases e
    obtain ⟨v, ev, r⟩ := S.val i d q
    refine ⟨v, ev, ?_⟩
    refine p v σ H g (g i) S .refl .refl ⟨r, fun a ha f => ?_, fun a ha => s.reg a ⟨i, ha⟩, fun f => ?_⟩
    · obtain ⟨j, oj, hj⟩ := f
      have hij : j ≠ i := fun z => by subst z; obtain ⟨x, e⟩ := oj; rw [q] at e; cases e
      exact S.sep j i hij oj a hj ha
    · have z := Rep.imm _ r f
      rw [z]
      exact ⟨List.nodup_nil, fun _ z => (nomatch z)⟩
  · cases e

/-! ### while -/
theorem snd_while {io : Nat → Bool} {tt : TT} {c : Env → Option (Bool × Env)} {t : TS} {b : Sn} (hc : SndT K tt c) (hb : SndS K io t b) (n : Nat) : SndS K io (tWhile tt t) (whileL c b n) := by
  intro Γ f Γ' e σ H g H0 Γ0 g0 S s ho D p
  refine ⟨fun m σ1 H1 => ∃ Γ1 g1, StRel K Γ1 g1 σ1 H1 ∧ Step H Γ g H1 Γ1 g1 ∧ IoU io σ σ1 ∧ whileL c b m Γ1 = some (f, Γ'), ⟨n, Γ, g, S, .refl, .refl, e⟩, ?_⟩
  rintro m σ1 H1 ⟨Γ1, g1, S1, s1, u1, e1⟩
  cases m with
  | zero => cases e1
  | succ m =>
    simp only [whileL, Option.bind_eq_some_iff] at e1
    obtain ⟨⟨q, Γ2⟩, e2, e3⟩ := e1
    refine hc Γ1 q Γ2 e2 σ1 H1 g1 S1 _ fun H2 g2 S2 s2 => ?_
    cases q with
    | false =>
      rw [if_neg (by simp)] at e3 ⊢
      cases e3
      exact p σ1 H2 g2 S2 (s1.trans s2) u1
    | true =>
      rw [if_pos rfl] at e3 ⊢
      simp only [Option.bind_eq_some_iff] at e3
      obtain ⟨⟨f3, Γ3⟩, e4, e5⟩ := e3
      have s12 := s1.trans s2
      refine ⟨fun σ' H' => ∃ Γ1 g1, StRel K Γ1 g1 σ' H' ∧ Step H Γ g H' Γ1 g1 ∧ IoU io σ σ' ∧ whileL c b m Γ1 = some (f, Γ'), fun σ' H' w => ⟨m, Nat.lt_succ_self m, w⟩, ?_⟩
      refine hb Γ2 f3 Γ3 e4 σ1 H2 g2 H0 Γ0 g0 S2 (s.trans s12) ho _ ?_
      cases f3 with
      | nx => exact fun σ' H' g' S' s' u' => ⟨Γ3, g', S', s12.trans s', u1.trans u', e5⟩
      | cnt => exact fun σ' H' g' S' s' u' => ⟨Γ3, g', S', s12.trans s', u1.trans u', e5⟩
      | brk => cases e5; exact fun σ' H' g' S' s' u' => p σ' H' g' S' (s12.trans s') (u1.trans u')
      | ret d fr => cases e5; exact fun v σ' H' g' A S' s' u' r => p v σ' H' g' A S' (s12.trans s') (u1.trans u') r

/-! ### for -/
theorem snd_for {io : Nat → Bool} {tn : List Nat} {w : TI} {it : In} {tg : TG} {gn : Gn} {t : TS} {b : Sn} (hi : SndI K w it) (hg : SndG K io tn tg gn) (hb : SndS K io t b) :
    SndS K io (tFor w tg t) (fun Γ => (it Γ).bind fun (ds, Γ1) => forL gn b ds Γ1) := by
  intro Γ f Γ' e σ H g H0 Γ0 g0 S s ho D p
  simp only [Option.bind_eq_some_iff] at e
  obtain ⟨⟨ds, Γs⟩, e1, e2⟩ := e
  refine hi Γ ds Γs e1 σ H g S _ fun J Hs gs A Ss ss W oA sA xA => ?_
  refine ⟨fun i m σ1 H1 => ∃ Γ1 g1, i ≤ ds.length ∧ m = ds.length - i ∧ StRel K Γ1 g1 σ1 H1 ∧ Step H Γ g H1 Γ1 g1 ∧ IoU io σ σ1 ∧ Keep Hs H1 A ∧ (∀ a ∈ A, ¬ fpset Γ1 g1 a) ∧ forL gn b (ds.drop i) Γ1 = some (f, Γ'),
    ⟨ds.length, Γs, gs, by omega, by omega, Ss, ss, .refl, fun _ _ e _ => e, oA, by simpa using e2⟩, ?_⟩
  rintro i m σ1 H1 ⟨Γ1, g1, hi1, rfl, S1, s1, u1, k1, o1, e3⟩
  rcases Nat.lt_or_ge i ds.length with hlt | hge
  · right
    refine ⟨W.go i H1 hlt k1, fun σ' H' => ∃ Γ1 g1, i + 1 ≤ ds.length ∧ StRel K Γ1 g1 σ' H' ∧ Step H Γ g H' Γ1 g1 ∧ IoU io σ σ' ∧ Keep Hs H' A ∧ (∀ a ∈ A, ¬ fpset Γ1 g1 a) ∧ forL gn b (ds.drop (i + 1)) Γ1 = some (f, Γ'),
      fun σ' H' ⟨Γ2, g2, q1, q2, q3, q4, q5, q6, q7⟩ => ⟨ds.length - (i + 1), by omega, Γ2, g2, q1, rfl, q2, q3, q4, q5, q6, q7⟩, fun x H2 hy => ?_⟩
    obtain ⟨G, d, B, ed, rd, hB⟩ := W.yld i H1 x H2 hlt k1 hy
    have xA1 : ∀ a ∈ A, ∃ o, H1 a = some o := fun a ha => by
      obtain ⟨o, eo⟩ := xA a ha
      exact ⟨o, k1 a o eo (.inl ha)⟩
    have S2 := S1.grow G
    have s2 := s1.trans (G.step Γ1 g1)
    rw [List.drop_eq_getElem_cons hlt] at e3
    have ed' : ds[i] = d := by
      have := List.getElem?_eq_getElem hlt
      rw [ed] at this
      exact (Option.some.inj this).symm
    rw [ed'] at e3
    simp only [forL, Option.bind_eq_some_iff] at e3
    obtain ⟨Γ2, e4, ⟨f3, Γ3⟩, e5, e6⟩ := e3
    have rs : Res K H Γ g d (imm d) H2 Γ1 g1 x B := ⟨rd, fun a ha => o1 a (hB a ha), fun a ha => sA a (hB a ha), fun z => by
      have := Rep.imm _ rd z
      subst this
      exact ⟨List.nodup_nil, fun _ z => (nomatch z)⟩⟩
    refine hg d (imm d) Γ1 Γ2 e4 σ1 H2 g1 H Γ g x B S2 s2 rs _ fun σ3 H3 g3 S3 s3 _ u3 nr => ?_
    have nr' : Nr (fun _ => False) (· ∈ B) H2 Γ1 g1 H3 Γ2 g3 := nr.imp (fun a ⟨z, hb⟩ => by
      have := Rep.imm _ rd z
      subst this
      cases hb) fun _ z => z
    have o2 : ∀ a ∈ A, ¬ fpset Γ1 g1 a := o1
    have k2 : Keep Hs H2 A := fun a o ea q => G a o (k1 a o ea q)
    have k3 : Keep Hs H3 A := fun a o ea q => by
      exact (nr'.keeps S2 o2) a o (k2 a o ea q) q
    have xA2 : ∀ a ∈ A, ∃ o, H2 a = some o := fun a ha => by
      obtain ⟨o, eo⟩ := xA1 a ha
      exact ⟨o, G a o eo⟩
    have o3 : ∀ a ∈ A, ¬ fpset Γ2 g3 a := fun a ha f => by
      rcases nr'.fp a f with q | q | q
      · exact o2 a ha q
      · exact q
      · obtain ⟨o, eo⟩ := xA2 a ha
        rw [q] at eo; cases eo
    have xA3 : ∀ a ∈ A, ∃ o, H3 a = some o := fun a ha => by
      obtain ⟨o, eo⟩ := xA a ha
      exact ⟨o, k3 a o eo (.inl ha)⟩
    have after : ∀ {σ' H' g' Γ3}, StRel K Γ3 g' σ' H' → Step H3 Γ2 g3 H' Γ3 g' → IoU io σ3 σ' → Step H Γ g H' Γ3 g' ∧ IoU io σ σ' ∧ Keep Hs H' A ∧ (∀ a ∈ A, ¬ fpset Γ3 g' a) := fun S' s' u' => by
      refine ⟨s3.trans s', (u1.trans u3).trans u', fun a o ea q => (s'.keeps S3 o3) a o (k3 a o ea q) q, fun a ha f => ?_⟩
      rcases s'.fp f with q | q
      · exact o3 a ha q
      · obtain ⟨o, eo⟩ := xA3 a ha
        rw [q] at eo; cases eo
    refine hb Γ2 f3 Γ3 e5 σ3 H3 g3 H0 Γ0 g0 S3 (s.trans s3) ho _ ?_
    cases f3 with
    | nx =>
      intro σ' H' g' S' s' u'
      obtain ⟨q1, q2, q3, q4⟩ := after S' s' u'
      exact ⟨Γ3, g', hlt, S', q1, q2, q3, q4, e6⟩
    | cnt =>
      intro σ' H' g' S' s' u'
      obtain ⟨q1, q2, q3, q4⟩ := after S' s' u'
      exact ⟨Γ3, g', hlt, S', q1, q2, q3, q4, e6⟩
    | brk => cases e6; exact fun σ' H' g' S' s' u' => p σ' H' g' S' (s3.trans s') ((u1.trans u3).trans u')
    | ret d fr => cases e6; exact fun v σ' H' g' A S' s' u' r => p v σ' H' g' A S' (s3.trans s') ((u1.trans u3).trans u') r
  · left
    have hi2 : i = ds.length := by omega
    subst hi2
    rw [List.drop_length] at e3
    cases e3
    exact ⟨W.stop H1 k1, p σ1 H1 g1 S1 s1 u1⟩
end
end WT

/-! WT: several stores at once; which stores the compiler swaps. -/
namespace WT
open PySem L2
section
variable {K : PySem.W.Frag} {H H' H1 H2 H0 : Hp} {Γ Γ' Γ1 Γ2 Γ0 : Env} {g g' g1 g2 g0 : Nat → List Addr} {σ σ' σ0 : L2.St}
def av (p : D × Bool) : Arg := .v p.1 p.2
theorem seqP_seqA : ∀ {xs : List Dn} {Γ : Env} {ds : List (D × Bool)} {Γ' : Env}, seqP xs Γ = some (ds, Γ') → seqA (xs.map fun x => mkDn x.e) Γ = some (ds.map av, Γ')
  | [], Γ, ds, Γ', e => by cases e; rfl
  | x :: xs, Γ, ds, Γ', e => by
    simp only [seqP, Option.bind_eq_some_iff, Option.map_eq_some_iff] at e
    obtain ⟨⟨d, fr, Γ1⟩, e1, ⟨es, Γ2⟩, e2, e3⟩ := e
    cases e3
    have := seqP_seqA e2
    simp only [List.map_cons, seqA, mkDn, e1, Option.map_some, Option.bind_some]
    simp only [mkDn] at this
    rw [this]
    rfl
theorem SndDs.vs {ts : List TE} {xs : List Dn} (h : SndDs K ts xs) : SndDs K ts (xs.map fun x => mkDn x.e) := by
  induction h with
  | nil => exact .nil
  | cons s _ ih => exact .cons (snd_mk s.e) ih
def setV : List Nat → List V → L2.St → L2.St
  | i :: is, v :: vs, σ => setV is vs (σ.set i (some v))
  | _, _, σ => σ
theorem args_after {io : Nat → Bool} {i : Nat} {d : D} {fr : Bool} {A : List Addr} {τ τ' : L2.St} (e : gnNm io i d fr Γ = some Γ') : ∀ {ds : List (D × Bool)} {vs : List V} {As : List (List Addr)}, ArgsR K τ H0 Γ0 g0 H Γ g (ds.map av) vs As → (∀ p ∈ (ds.map av).zip As, fr = true ∨ p.1.fr = true → Dj A p.2) →
    ArgsR K τ' H0 Γ0 g0 H Γ' (putG g i A) (ds.map av) vs As
  | [], _, _, q, _ => by cases q; exact .nil
  | p :: ds, _, _, q, dj => by
    cases q with
    | cons r n q d' =>
      rename_i w vs B As
      have d1 := dj (av p, B) List.mem_cons_self
      have qr := args_after (τ' := τ') e q fun z hz => dj z (List.mem_cons_of_mem _ hz)
      refine .cons ?_ n qr d'
      clear qr
      unfold gnNm at e
      split at e
      · cases e
      rename_i hio
      split at e <;> cases e
      rename_i hi
      have r : Res K H0 Γ0 g0 p.1 p.2 H Γ g w B := r
      show Res K H0 Γ0 g0 p.1 p.2 H _ _ w B
      refine ⟨r.rep, fun b hb f => ?_, r.src, fun f => ⟨(r.new f).1, fun b hb => ⟨((r.new f).2 b hb).1, fun z => ?_⟩⟩⟩
      · obtain ⟨j, oj, hj⟩ := f
        by_cases z : j = i
        · subst z
          rw [putG_same] at hj
          obtain ⟨x, q⟩ := oj
          rw [List.getElem?_set_self hi] at q
          unfold mkSl at q
          cases fr with
          | false => simp at q
          | true => exact d1 (.inl rfl) b hj hb
        · rw [putG_ne z] at hj
          exact r.out b hb ⟨j, isOwn_set oj z, hj⟩
      · obtain ⟨j, hj⟩ := z
        by_cases y : j = i
        · subst y
          rw [putG_same] at hj
          exact d1 (.inr f) b hj hb
        · rw [putG_ne y] at hj
          exact ((r.new f).2 b hb).2 ⟨j, hj⟩
theorem setP_ok {io : Nat → Bool} {τ : L2.St} : ∀ {is : List Nat} {ds : List (D × Bool)} {Γ Γ' : Env}, setP io is ds Γ = some Γ' → ∀ {σ : L2.St} {g : Nat → List Addr} {vs : List V} {As : List (List Addr)}, StRel K Γ g σ H → Step H0 Γ0 g0 H Γ g → ArgsR K τ H0 Γ0 g0 H Γ g (ds.map av) vs As →
    ∃ g', StRel K Γ' g' (setV is vs σ) H ∧ Step H0 Γ0 g0 H Γ' g' ∧ IoU io σ (setV is vs σ)
  | [], [], Γ, Γ', e, σ, g, vs, As, S, s, q => by cases e; cases q; exact ⟨g, S, s, .refl⟩
  | i :: is, (d, fr) :: ds, Γ, Γ', e, σ, g, vs, As, S, s, q => by
    simp only [setP, Option.bind_eq_some_iff] at e
    obtain ⟨Γ1, e1, e2⟩ := e
    cases q with
    | cons r n q dj =>
      have r : Res K H0 Γ0 g0 d fr H Γ g _ _ := r
      obtain ⟨_, S1, s1, _, u1, _⟩ := nm_upd e1 S s r
      have q1 := args_after (τ' := τ) e1 q dj
      obtain ⟨g', S2, s2, u2⟩ := setP_ok e2 S1 s1 q1
      exact ⟨g', S2, s2, fun j hj => (u2 j hj).trans (u1 j hj)⟩
  | [], _ :: _, _, _, e, _, _, _, _, _, _, _ => by simp [setP] at e
  | _ :: _, [], _, _, e, _, _, _, _, _, _, _ => by simp [setP] at e
theorem setP_len {io : Nat → Bool} : ∀ {is : List Nat} {ds : List (D × Bool)} {Γ Γ' : Env}, setP io is ds Γ = some Γ' → ds.length = is.length
  | [], [], _, _, _ => rfl
  | i :: is, (d, fr) :: ds, Γ, Γ', e => by
    simp only [setP, Option.bind_eq_some_iff] at e
    obtain ⟨Γ1, _, e2⟩ := e
    simp [setP_len e2]
  | [], _ :: _, _, _, e => by simp [setP] at e
  | _ :: _, [], _, _, e => by simp [setP] at e
theorem snd_parG {io : Nat → Bool} {is : List Nat} {ts : List TE} {xs : List Dn} {t : TS} (hs : SndDs K ts xs) (ht : ∀ D σ H, tAs ts σ H (fun vs H1 => vs.length = is.length ∧ D.nx (setV is vs σ) H1) → t D σ H) :
    SndS K io t (fun Γ => (seqP xs Γ).bind fun (ds, Γ1) => (setP io is ds Γ1).map fun Γ2 => (.nx, Γ2)) := by
  intro Γ f Γ' e σ H g H0 Γ0 g0 S s ho D p
  simp only [Option.bind_eq_some_iff, Option.map_eq_some_iff] at e
  obtain ⟨⟨ds, Γ1⟩, e1, Γ2, e2, e3⟩ := e
  cases e3
  refine ht D σ H (snd_seqA hs.vs (seqP_seqA e1) S _ fun vs H1 g1 As S1 s1 ra => ⟨?_, ?_⟩)
  · rw [ra.lens.1, List.length_map, setP_len e2]
  · obtain ⟨g', S2, s2, u2⟩ := setP_ok e2 S1 s1 ra
    exact p _ H1 g' S2 s2 u2
theorem snd_par2 {io : Nat → Bool} {i j : Nat} {ts : List TE} {xs : List Dn} (hs : SndDs K ts xs) : SndS K io (tPar i j (tAs ts)) (fun Γ => (seqP xs Γ).bind fun (ds, Γ1) => (setP io [i, j] ds Γ1).map fun Γ2 => (.nx, Γ2)) := by
  refine snd_parG hs fun D σ H q => ?_
  show tAs ts σ H _
  have : (fun (vs : List V) (H1 : Hp) => vs.length = [i, j].length ∧ D.nx (setV [i, j] vs σ) H1) = fun vs H1 => ∃ v w, vs = [v, w] ∧ D.nx ((σ.set i (some v)).set j (some w)) H1 := by
    funext vs H1
    apply propext
    constructor
    · rintro ⟨h1, h2⟩
      match vs, h1 with
      | [v, w], _ => exact ⟨v, w, rfl, h2⟩
    · rintro ⟨v, w, rfl, h2⟩
      exact ⟨rfl, h2⟩
  rw [← this]
  exact q
theorem snd_par3 {io : Nat → Bool} {i j l : Nat} {ts : List TE} {xs : List Dn} (hs : SndDs K ts xs) : SndS K io (tPar3 i j l (tAs ts)) (fun Γ => (seqP xs Γ).bind fun (ds, Γ1) => (setP io [i, j, l] ds Γ1).map fun Γ2 => (.nx, Γ2)) := by
  refine snd_parG hs fun D σ H q => ?_
  show tAs ts σ H _
  have : (fun (vs : List V) (H1 : Hp) => vs.length = [i, j, l].length ∧ D.nx (setV [i, j, l] vs σ) H1) = fun vs H1 => ∃ u v w, vs = [u, v, w] ∧ D.nx (((σ.set i (some u)).set j (some v)).set l (some w)) H1 := by
    funext vs H1
    apply propext
    constructor
    · rintro ⟨h1, h2⟩
      match vs, h1 with
      | [u, v, w], _ => exact ⟨u, v, w, rfl, h2⟩
    · rintro ⟨u, v, w, rfl, h2⟩
      exact ⟨rfl, h2⟩
  rw [← this]
  exact q
end

/-! ### which stores the compiler swaps -/
def blkS (sc : Scope) : ScopeKind := if sc.kind.isAnnotationScope then .function else sc.kind
def two (tg e : Expr) : Option (List Expr × List Expr) := match [tg], e with
  | [.Tuple ts _ _], .Tuple vs _ _ | [.List ts _], .Tuple vs _ _ => some (ts, vs)
  | _, _ => none
def swapQ (sc : Scope) (tg e : Expr) : Option (Option (List Str)) := match two tg e with
  | none => some none
  | some (ts, vs) =>
    if !(ts.length == 2 || ts.length == 3) || vs.length != ts.length || blkS sc != .function then some none
    else if vs.any (fun | .Starred .. => true | _ => false) then some none
    else
      let line := (ts.head?.map (·.pos.line)).getD 0
      let names := ts.filterMap fun
        | .Name id pos => if sc.names.lookup id == some .local && pos.line == line then some id else none
        | _ => none
      if names.length != ts.length || names.eraseDups.length != names.length then some none
      else if vs.all (foldedForSure 8) then some none
      else if vs.all (constantsAlone 8) then none
      else some (some names)
theorem swapQ_ok {env : PySem.Env} {tg e : Expr} {r : Option (List Str)} (h : swapQ env.scope tg e = some r) : swappedStores [tg] e env = pure r := by
  unfold swapQ at h
  unfold swappedStores
  split at h
  · rename_i q
    cases h
    split
    · rename_i q2
      have q2 : two tg e = some _ := q2
      rw [q] at q2; cases q2
    · rfl
  · rename_i ts vs q
    split
    · rename_i ts' vs' q2
      have q2 : two tg e = some (ts', vs') := q2
      rw [q] at q2; cases q2
      have bk : env.blockKind = blkS env.scope := rfl
      simp only [bk]
      split at h
      · rename_i c; cases h; simp only [c, if_true]
      · rename_i c1
        rw [if_neg c1]
        split at h
        · rename_i c; cases h; exact if_pos c
        · rename_i c2
          refine (if_neg c2).trans ?_
          simp only at h
          split at h
          · rename_i c; cases h; exact if_pos c
          · rename_i c3
            refine (if_neg c3).trans ?_
            split at h
            · rename_i c; cases h; exact if_pos c
            · rename_i c4
              refine (if_neg c4).trans ?_
              split at h
              · cases h
              · rename_i c5
                cases h
                exact if_neg c5
    · rename_i z; exact absurd q (z _ _)
/-- a comprehension that is assigned -/
def swB (sc : Scope) (e : Expr) (t : Expr) : Option Bool := match e with
  | .ListComp _ _ s p => (match t with
    | .Name x pos => some (blkS sc == .function && sc.names.lookup x == some .local && pos.line == p.line && !(s.names.any fun (n, k) => n == x && (k == .local || k == .cell)))
    | _ => some false)
  | .SetComp .. => none
  | .DictComp .. => none
  | _ => some false
theorem swB_ok {env : PySem.Env} {e t : Expr} {l : Nat} {b : Bool} (h : swB env.scope e t = some b) : swapsWith e (some t) l env = pure b := by
  unfold swB at h
  split at h
  · split at h
    · cases h; rfl
    · rename_i z
      cases h
      cases t <;> first | rfl | exact absurd rfl (z _ _)
  · cases h
  · cases h
  · rename_i z1 z2 z3
    cases h
    cases e <;> first | rfl | exact absurd rfl (z1 _ _ _ _) | exact absurd rfl (z2 _ _ _ _) | exact absurd rfl (z3 _ _ _ _ _)
end WT

/-! WT: a core statement is the text's statement. -/
namespace WT
open PySem L2
structure SOk (X : Cx) (cx : Ctx) (k : Nat) : Prop extends XOk X cx k where
  po : PassesOwn (model X.prog X.w) X.A X.env X.xe
structure GS (X : Cx) (io : Nat → Bool) (st : Stmt) (s : Sn) : Prop where
  ex : ∃ t, PS X st t ∧ SndS X.K io t s
structure GSs (X : Cx) (io : Nat → Bool) (st : List Stmt) (s : Sn) : Prop where
  ex : ∃ t, PSs X st t ∧ SndS X.K io t s
def locOnly (cx : Ctx) (x : Str) : Bool := match cx.sc.names.lookup x with
  | some .local => true
  | _ => false
theorem locOnly_ok {cx : Ctx} {x : Str} (h : locOnly cx x = true) : cx.sc.names.lookup x = some .local := by
  unfold locOnly at h
  split at h
  · assumption
  · cases h
def isComp : C → Bool
  | .comp .. => true | .compo .. => true
  | _ => false
def allTn (cx : Ctx) : List Nat := List.range cx.N.length
mutual
def chkS (cx : Ctx) : S → Stmt → Bool
  | .expr c, st => match st with
    | .Expr e _ => chk cx c e && !isLC e
    | _ => false
  | .ret c, st => match st with
    | .Return (some e) _ => chk cx c e
    | _ => false
  | .retN, st => match st with
    | .Return none _ => true
    | _ => false
  | .asg tg c, st => match st with
    | .Assign [t] e _ => chkG cx (allTn cx) tg t && chk cx c e && decide (swapQ cx.sc t e = some none) && (match swB cx.sc e t with
      | some false => true
      | some true => (match tg, t with
        | .nm i, .Name y _ => isComp c && decide (cx.N[i]? = some y) && locOnly cx y
        | _, _ => false)
      | none => false)
    | _ => false
  | .par is cs, st => match st with
    | .Assign [.Tuple [.Name x px, .Name y py] kt pt] (.Tuple [a, b] k2 pt2) _ => (match is with
      | [i, j] => decide (cx.N[i]? = some x) && decide (cx.N[j]? = some y) && decide (i ≠ j) && locOnly cx x && locOnly cx y && chkL cx cs [a, b] && decide (swapQ cx.sc (.Tuple [.Name x px, .Name y py] kt pt) (.Tuple [a, b] k2 pt2) = some (some [x, y]))
      | _ => false)
    | .Assign [.Tuple [.Name x px, .Name y py, .Name z pz] kt pt] (.Tuple [a, b, c] k2 pt2) _ => (match is with
      | [i, j, l] => decide (cx.N[i]? = some x) && decide (cx.N[j]? = some y) && decide (cx.N[l]? = some z) && decide (i ≠ j) && decide (i ≠ l) && decide (j ≠ l) && locOnly cx x && locOnly cx y && locOnly cx z && chkL cx cs [a, b, c] &&
          decide (swapQ cx.sc (.Tuple [.Name x px, .Name y py, .Name z pz] kt pt) (.Tuple [a, b, c] k2 pt2) = some (some [x, y, z]))
      | _ => false)
    | _ => false
  | .ife t a b, st => match st with
    | .If c p q _ => testable c && chk cx t c && chkSs cx a p && chkSs cx b q
    | _ => false
  | .for tg it b, st => match st with
    | .For t e body [] _ => chkG cx (allTn cx) tg t && chkI cx it t e && chkSs cx b body
    | _ => false
  | .while t b, st => match st with
    | .While c body [] _ => testable c && chk cx t c && chkSs cx b body
    | _ => false
  | .brk, st => match st with
    | .Break _ => true
    | _ => false
  | .cnt, st => match st with
    | .Continue _ => true
    | _ => false
  | .pass, st => match st with
    | .Pass _ => true
    | _ => false
  | .never, _ => true
def chkSs (cx : Ctx) : List S → List Stmt → Bool
  | [], [] => true
  | s :: ss, st :: sts => chkS cx s st && chkSs cx ss sts
  | _, _ => false
end
section
variable (P : Prm) {k : Nat}
theorem comp_parts {vs : List Nat} {tg : Tg} {it : It} {ifs : Option C} {c : C} {X : Cx} {cx : Ctx} {e : Expr} (ok : XOk X cx k) (fs : FnsOk X cx.fns P.F k) (h : chk cx (.comp vs tg it ifs c) e = true) :
    ∃ elt tg' iter ifs' scope pos, e = .ListComp elt [⟨tg', iter, ifs', 0⟩] scope pos ∧ blkC cx.N cx.sc scope (ownOf cx vs) = true ∧ GI X tg' iter (evI P it) ∧
      ∀ X', X'.prog = X.prog → X'.w = X.w → X'.K = X.K → X'.mg = X.mg → X'.base = X.base → XOk X' (cx.blk scope) k → GT X' P.io vs tg' (evG P tg) ∧ GF X' ifs' (match ifs with | none => tYesE | some c => (ev P c).t) ∧ GE X' elt (ev P c) := by
  cases ifs with
  | none =>
    rw [chk.eq_def] at h; simp only at h
    split at h
    · rename_i elt tg' iter ifs' n scope pos
      simp only [Bool.and_eq_true, decide_eq_true_eq] at h
      obtain ⟨⟨⟨⟨⟨rfl, h2⟩, h3⟩, h4⟩, h5⟩, h6⟩ := h
      split at h5
      · exact ⟨_, _, _, _, _, _, rfl, h2, chkI_ok P it ok fs h3, fun X' e1 e2 e3 e4 e5 ok' => ⟨chkG_ok P tg ok' (fs.move e1 e2 e3 e4 e5) h4, gf_nil, chk_ok P c ok' (fs.move e1 e2 e3 e4 e5) h6⟩⟩
      · rename_i q; exact nomatch q
      · cases h5
    · cases h
  | some t =>
    rw [chk.eq_def] at h; simp only at h
    split at h
    · rename_i elt tg' iter ifs' n scope pos
      simp only [Bool.and_eq_true, decide_eq_true_eq] at h
      obtain ⟨⟨⟨⟨⟨rfl, h2⟩, h3⟩, h4⟩, h5⟩, h6⟩ := h
      split at h5
      · rename_i q; exact nomatch q
      · rename_i t' x q
        cases q
        rw [Bool.and_eq_true] at h5
        exact ⟨_, _, _, _, _, _, rfl, h2, chkI_ok P it ok fs h3, fun X' e1 e2 e3 e4 e5 ok' => ⟨chkG_ok P tg ok' (fs.move e1 e2 e3 e4 e5) h4, gf_one (chk_ok P t ok' (fs.move e1 e2 e3 e4 e5) h5.2) h5.1, chk_ok P c ok' (fs.move e1 e2 e3 e4 e5) h6⟩⟩
      · cases h5
    · cases h
theorem compo_parts {i : Nat} {j : Option Nat} {vs : List Nat} {tg : Tg} {ifs : Option C} {c : C} {X : Cx} {cx : Ctx} {e : Expr} (ok : XOk X cx k) (fs : FnsOk X cx.fns P.F k) (h : chk cx (.compo i j vs tg ifs c) e = true) :
    ∃ elt tg' iter ifs' scope pos, e = .ListComp elt [⟨tg', iter, ifs', 0⟩] scope pos ∧ blkC cx.N cx.sc scope (ownOf cx vs) = true ∧ hidE cx i j tg' iter = true ∧
      ∀ X', X'.prog = X.prog → X'.w = X.w → X'.K = X.K → X'.mg = X.mg → X'.base = X.base → XOk X' (cx.blk scope) k → GT X' P.io vs tg' (evG P tg) ∧ GF X' ifs' (match ifs with | none => tYesE | some c => (ev P c).t) ∧ GE X' elt (ev P c) := by
  cases ifs with
  | none =>
    rw [chk.eq_def] at h; simp only at h
    split at h
    · rename_i elt tg' iter ifs' n scope pos
      simp only [Bool.and_eq_true, decide_eq_true_eq] at h
      obtain ⟨⟨⟨⟨⟨rfl, h2⟩, h3⟩, h4⟩, h5⟩, h6⟩ := h
      split at h5
      · exact ⟨_, _, _, _, _, _, rfl, h2, h3, fun X' e1 e2 e3 e4 e5 ok' => ⟨chkG_ok P tg ok' (fs.move e1 e2 e3 e4 e5) h4, gf_nil, chk_ok P c ok' (fs.move e1 e2 e3 e4 e5) h6⟩⟩
      · rename_i q; exact nomatch q
      · cases h5
    · cases h
  | some t =>
    rw [chk.eq_def] at h; simp only at h
    split at h
    · rename_i elt tg' iter ifs' n scope pos
      simp only [Bool.and_eq_true, decide_eq_true_eq] at h
      obtain ⟨⟨⟨⟨⟨rfl, h2⟩, h3⟩, h4⟩, h5⟩, h6⟩ := h
      split at h5
      · rename_i q; exact nomatch q
      · rename_i t' x q
        cases q
        rw [Bool.and_eq_true] at h5
        exact ⟨_, _, _, _, _, _, rfl, h2, h3, fun X' e1 e2 e3 e4 e5 ok' => ⟨chkG_ok P tg ok' (fs.move e1 e2 e3 e4 e5) h4, gf_one (chk_ok P t ok' (fs.move e1 e2 e3 e4 e5) h5.2) h5.1, chk_ok P c ok' (fs.move e1 e2 e3 e4 e5) h6⟩⟩
      · cases h5
    · cases h
/-- name = [comprehension], stored by the comprehension -/
theorem gs_setLc {X : Cx} {cx : Ctx} (ok : XOk X cx k) {io : Nat → Bool} {vs : List Nat} {gn : Gn} {it : In} {t : Env → Option (Bool × Env)} {y : Dn} {elt tg iter : Expr} {ifs : List Expr} {scope : Scope} {pos spos py : Pos} {i : Nat} {x : Str}
    (hb : blkC cx.N cx.sc scope (ownOf cx vs) = true) (hi : GI X tg iter it) (hin : ∀ X', X'.prog = X.prog → X'.w = X.w → X'.K = X.K → X'.mg = X.mg → X'.base = X.base → XOk X' (cx.blk scope) k → GT X' io vs tg gn ∧ GF X' ifs t ∧ GE X' elt y)
    (hx : cx.N[i]? = some x) (hl : cx.sc.names.lookup x = some .local) (hsw : swapsWith (.ListComp elt [⟨tg, iter, ifs, 0⟩] scope pos) (some (.Name x py)) spos.line X.env = pure true) :
    GS X io (.Assign [.Name x py] (.ListComp elt [⟨tg, iter, ifs, 0⟩] scope pos) spos) (fun Γ => ((dComp vs gn it t y).e Γ).bind fun (d, fr, Γ1) => (gnNm io i d fr Γ1).map fun Γ2 => (.nx, Γ2)) := by
  have hin' := fun (s : Shared) (H : Hp) (C : Addr) (cl : List (Str × Addr)) (fp : List Addr) => hin (X.blk s H scope (compEnvC scope cl C X.env) fp) rfl rfl rfl rfl rfl (ok.blk s H scope cl C fp)
  have bo : BlkOk X.N X.env.scope scope (ownOf cx vs) := by
    rw [ok.hN, ok.hsc]
    exact blkOk_by hb
  have p := ps_setLc (i := i) (pos := pos) (spos := spos) (te := tU X.K y.e) (tt := ttU X.K t) (g := tgU X.K io vs gn) ok.calm ok.nd (by rw [ok.hN]; exact hx) (by rw [ok.hsc]; exact hl) hsw hi.pi bo (fun s H C cl fp => (hin' s H C cl fp).1.pg) (fun s H C cl fp => (hin' s H C cl fp).2.1.pt)
    (fun s H C cl fp => by obtain ⟨t', p, q⟩ := (hin' s H C cl fp).2.2.ex; exact pe_u p q.e) (fold_of hi.pl _)
  rw [ownOf_snd] at p
  exact ⟨_, p, snd_asg (snd_comp snd_iu snd_gu snd_tu snd_u) snd_gnm⟩
/-- name = [comprehension], stored by the comprehension -/
theorem gs_setLcH {X : Cx} {cx : Ctx} (ok : XOk X cx k) {io : Nat → Bool} {vs : List Nat} {hi0 : Nat} {hj : Option Nat} {gn : Gn} {t : Env → Option (Bool × Env)} {y : Dn} {elt tg iter : Expr} {ifs : List Expr} {scope : Scope} {pos spos py : Pos} {i : Nat} {x : Str}
    (hb : blkC cx.N cx.sc scope (ownOf cx vs) = true) (hi : hidE cx hi0 hj tg iter = true) (hin : ∀ X', X'.prog = X.prog → X'.w = X.w → X'.K = X.K → X'.mg = X.mg → X'.base = X.base → XOk X' (cx.blk scope) k → GT X' io vs tg gn ∧ GF X' ifs t ∧ GE X' elt y)
    (hx : cx.N[i]? = some x) (hl : cx.sc.names.lookup x = some .local) (hsw : swapsWith (.ListComp elt [⟨tg, iter, ifs, 0⟩] scope pos) (some (.Name x py)) spos.line X.env = pure true) :
    GS X io (.Assign [.Name x py] (.ListComp elt [⟨tg, iter, ifs, 0⟩] scope pos) spos) (fun Γ => ((dCompH hi0 hj vs gn t y).e Γ).bind fun (d, fr, Γ1) => (gnNm io i d fr Γ1).map fun Γ2 => (.nx, Γ2)) := by
  have hin' := fun (s : Shared) (H : Hp) (C : Addr) (cl : List (Str × Addr)) (fp : List Addr) => hin (X.blk s H scope (compEnvC scope cl C X.env) fp) rfl rfl rfl rfl rfl (ok.blk s H scope cl C fp)
  have bo : BlkOk X.N X.env.scope scope (ownOf cx vs) := by
    rw [ok.hN, ok.hsc]
    exact blkOk_by hb
  have p := ps_setLc (i := i) (pos := pos) (spos := spos) (te := tU X.K y.e) (tt := ttU X.K t) (g := tgU X.K io vs gn) ok.calm ok.nd (by rw [ok.hN]; exact hx) (by rw [ok.hsc]; exact hl) hsw (pi_hid ok hi).1 bo (fun s H C cl fp => (hin' s H C cl fp).1.pg) (fun s H C cl fp => (hin' s H C cl fp).2.1.pt)
    (fun s H C cl fp => by obtain ⟨t', p, q⟩ := (hin' s H C cl fp).2.2.ex; exact pe_u p q.e) (fold_of (pi_hid ok hi).2 _)
  rw [ownOf_snd] at p
  exact ⟨_, p, snd_asg (snd_compo snd_gu snd_tu snd_u) snd_gnm⟩
mutual
theorem chkS_ok : ∀ (s : S) {X : Cx} {cx : Ctx} {st : Stmt}, SOk X cx k → FnsOk X cx.fns P.F k → chkS cx s st = true → GS X P.io st (evS P s)
  | .expr c, X, cx, st, ok, fs, h => by
    simp only [chkS] at h
    split at h
    · simp only [Bool.and_eq_true, Bool.not_eq_true'] at h
      have ge := chk_ok P c ok.toXOk fs h.1
      obtain ⟨t, p, s⟩ := ge.ex
      exact ⟨_, ps_expr p (swap_of ge.pl h.2 _ _ _), snd_drop s⟩
    · cases h
  | .ret c, X, cx, st, ok, fs, h => by
    simp only [chkS] at h
    split at h
    · rename_i e pos
      have ge := chk_ok P c ok.toXOk fs h
      obtain ⟨t, p, s⟩ := ge.ex
      show GS X P.io _ (sRet P c)
      cases c
      case var i =>
        by_cases hio : P.io i = true
        · refine ⟨_, ps_ret p, ?_⟩
          have := snd_ret (io := P.io) s.e
          have e2 : sRet P (.var i) = fun Γ => ((ev P (.var i)).e Γ).map fun (d, fr, Γ1) => (.ret d fr, Γ1) := by
            funext Γ
            unfold sRet
            show (if P.io i = true then _ else _) = _
            exact if_pos hio
          rw [e2]; exact this
        · simp only [chk] at h
          split at h
          · rename_i x xp
            obtain ⟨a, b, c, d⟩ := nmB_ok h
            have pv : PE X (.Name x xp) (tVar i) := pe_var (by rw [ok.hN]; exact a) (vis_of ok.toXOk b) c d
            refine ⟨_, ps_ret pv, ?_⟩
            have := snd_retv (K := X.K) (io := P.io) (i := i) (by simpa using hio)
            have e2 : sRet P (.var i) = fun Γ => match Γ[i]? with
              | some (.own d) => some (.ret d true, Γ.set i .un)
              | some (.val d) => some (.ret d (imm d), Γ)
              | _ => none := by
              funext Γ
              unfold sRet
              show (if P.io i = true then _ else _) = _
              exact if_neg hio
            rw [e2]; exact this
          · cases h
      all_goals exact ⟨_, ps_ret p, snd_ret s.e⟩
    · cases h
  | .retN, X, cx, st, ok, fs, h => by
    simp only [chkS] at h
    split at h
    · exact ⟨_, ps_retN, snd_retN⟩
    · cases h
  | .asg tg c, X, cx, st, ok, fs, h => by
    simp only [chkS] at h
    split at h
    · rename_i t e pos
      simp only [Bool.and_eq_true, decide_eq_true_eq] at h
      obtain ⟨⟨⟨h1, h2⟩, h3⟩, h4⟩ := h
      have ge := chk_ok P c ok.toXOk fs h2
      have gt := chkG_ok P tg ok.toXOk fs h1
      split at h4
      · rename_i hs
        obtain ⟨te, p, s⟩ := ge.ex
        refine ⟨_, ps_asg p gt.pg (swB_ok (by rw [ok.hsc]; exact hs)) (swapQ_ok (by rw [ok.hsc]; exact h3)) (by rw [asg_cons gt.pl]; rfl), snd_asg s.e snd_gu⟩
      · rename_i hs
        split at h4
        · rename_i i y py
          simp only [Bool.and_eq_true, decide_eq_true_eq] at h4
          obtain ⟨⟨q1, q2⟩, q3⟩ := h4
          cases c <;> simp only [isComp] at q1 <;> first | cases q1 | skip
          · rename_i vs tg it ifs c
            obtain ⟨elt, tg', iter, ifs', scope, lpos, rfl, b1, b2, b3⟩ := comp_parts P ok.toXOk fs h2
            have r := gs_setLc (spos := pos) (pos := lpos) (py := py) ok.toXOk b1 b2 b3 q2 (locOnly_ok q3) (swB_ok (by rw [ok.hsc]; exact hs))
            cases ifs <;> exact r
          · rename_i hi0 hj vs tg ifs c
            obtain ⟨elt, tg', iter, ifs', scope, lpos, rfl, b1, b2, b3⟩ := compo_parts P ok.toXOk fs h2
            have r := gs_setLcH (spos := pos) (pos := lpos) (py := py) ok.toXOk b1 b2 b3 q2 (locOnly_ok q3) (swB_ok (by rw [ok.hsc]; exact hs))
            cases ifs <;> exact r
        · cases h4
      · cases h4
    · cases h
  | .par is cs, X, cx, st, ok, fs, h => by
    simp only [chkS] at h
    split at h
    · split at h
      · simp only [Bool.and_eq_true, decide_eq_true_eq] at h
        obtain ⟨⟨⟨⟨⟨⟨h1, h2⟩, h3⟩, h4⟩, h5⟩, h6⟩, h7⟩ := h
        obtain ⟨ts, hs⟩ := chkL_ok P cs ok.toXOk fs h6
        exact ⟨_, ps_par ok.calm ok.nd (by rw [ok.hN]; exact h1) (by rw [ok.hN]; exact h2) h3 (by rw [ok.hsc]; exact locOnly_ok h4) (by rw [ok.hsc]; exact locOnly_ok h5) hs.pa (swapQ_ok (by rw [ok.hsc]; exact h7)) rfl, snd_par2 hs.snd⟩
      · cases h
    · split at h
      · simp only [Bool.and_eq_true, decide_eq_true_eq] at h
        obtain ⟨⟨⟨⟨⟨⟨⟨⟨⟨⟨h1, h2⟩, h3⟩, h4⟩, h5⟩, h6⟩, h7⟩, h8⟩, h9⟩, h10⟩, h11⟩ := h
        obtain ⟨ts, hs⟩ := chkL_ok P cs ok.toXOk fs h10
        exact ⟨_, ps_par3 ok.calm ok.nd (by rw [ok.hN]; exact h1) (by rw [ok.hN]; exact h2) (by rw [ok.hN]; exact h3) h4 h5 h6 (by rw [ok.hsc]; exact locOnly_ok h7) (by rw [ok.hsc]; exact locOnly_ok h8) (by rw [ok.hsc]; exact locOnly_ok h9) hs.pa (swapQ_ok (by rw [ok.hsc]; exact h11)) rfl, snd_par3 hs.snd⟩
      · cases h
    · cases h
  | .ife t a b, X, cx, st, ok, fs, h => by
    simp only [chkS] at h
    split at h
    · simp only [Bool.and_eq_true] at h
      obtain ⟨⟨⟨h1, h2⟩, h3⟩, h4⟩ := h
      obtain ⟨tt, p, s⟩ := (chk_ok P t ok.toXOk fs h2).tt h1
      obtain ⟨ta, pa, sa⟩ := (chkSs_ok a ok fs h3).ex
      obtain ⟨tb, pb, sb⟩ := (chkSs_ok b ok fs h4).ex
      exact ⟨_, ps_if p pa pb, snd_if s sa sb⟩
    · cases h
  | .for tg it b, X, cx, st, ok, fs, h => by
    simp only [chkS] at h
    split at h
    · simp only [Bool.and_eq_true] at h
      obtain ⟨⟨h1, h2⟩, h3⟩ := h
      have gt := chkG_ok P tg ok.toXOk fs h1
      have gi := chkI_ok P it ok.toXOk fs h2
      obtain ⟨tb, pb, sb⟩ := (chkSs_ok b ok fs h3).ex
      exact ⟨_, ps_for ok.po ok.calm gi.pi gt.pg pb (fold_of gi.pl _), snd_for snd_iu snd_gu sb⟩
    · cases h
  | .while t b, X, cx, st, ok, fs, h => by
    simp only [chkS] at h
    split at h
    · simp only [Bool.and_eq_true] at h
      obtain ⟨⟨h1, h2⟩, h3⟩ := h
      obtain ⟨tt, p, s⟩ := (chk_ok P t ok.toXOk fs h2).tt h1
      obtain ⟨tb, pb, sb⟩ := (chkSs_ok b ok fs h3).ex
      exact ⟨_, ps_while ok.po p pb, snd_while s sb P.fuel⟩
    · cases h
  | .brk, X, cx, st, ok, fs, h => by
    simp only [chkS] at h
    split at h
    · exact ⟨_, ps_break, snd_brk⟩
    · cases h
  | .cnt, X, cx, st, ok, fs, h => by
    simp only [chkS] at h
    split at h
    · exact ⟨_, ps_continue, snd_cnt⟩
    · cases h
  | .pass, X, cx, st, ok, fs, h => by
    simp only [chkS] at h
    split at h
    · exact ⟨_, ps_pass, snd_next⟩
    · cases h
  | .never, X, cx, st, ok, fs, h => ⟨_, ps_never, snd_never⟩
theorem chkSs_ok : ∀ (ss : List S) {X : Cx} {cx : Ctx} {sts : List Stmt}, SOk X cx k → FnsOk X cx.fns P.F k → chkSs cx ss sts = true → GSs X P.io sts (evSs P ss)
  | [], X, cx, sts, ok, fs, h => by
    cases sts with
    | nil => exact ⟨_, pss_nil, snd_next⟩
    | cons _ _ => simp [chkSs] at h
  | s :: ss, X, cx, sts, ok, fs, h => by
    cases sts with
    | nil => simp [chkSs] at h
    | cons st sts =>
      simp only [chkSs, Bool.and_eq_true] at h
      obtain ⟨t, p, s1⟩ := (chkS_ok s ok fs h.1).ex
      obtain ⟨u, q, s2⟩ := (chkSs_ok ss ok fs h.2).ex
      exact ⟨_, pss_cons p q, snd_seq s1 s2⟩
end
end
end WT

/-! WT: defs. -/
namespace WT
open PySem L2
structure DefI where
  i : FnI
  fd : FunD
  cx : Ctx
  st : Stmt
def parB (sc : Scope) (x : Str) : Bool := match sc.names.lookup x with
  | some .local => true | some .cell => true | _ => false
def isFree : NameKind → Bool
  | .free => true
  | _ => false
def scopeB (N ps : List Str) (sc : Scope) : Bool :=
  (match sc.kind with | .function => true | _ => false) && !sc.isCoroutine && !sc.isGenerator && decide N.Nodup && decide (N.take ps.length = ps) && ps.all (parB sc) && sc.names.all (fun y => !isFree y.2)
theorem scopeB_ok {N ps : List Str} {sc : Scope} (h : scopeB N ps sc = true) : FnScope N ps sc := by
  unfold scopeB at h
  simp only [Bool.and_eq_true, Bool.not_eq_true', decide_eq_true_eq, List.all_eq_true] at h
  obtain ⟨⟨⟨⟨⟨⟨h1, h2⟩, h3⟩, h4⟩, h5⟩, h6⟩, h7⟩ := h
  refine ⟨?_, h2, h3, h4, h5, fun x hx => ?_, fun y hy z => ?_⟩
  · revert h1
    cases sc.kind <;> intro h1 <;> first | rfl | cases h1
  · have := h6 x hx
    unfold parB at this
    split at this
    · rename_i q; exact .inl q
    · rename_i q; exact .inr q
    · cases this
  · have := h7 y hy
    rw [z] at this
    cases this
def DefI.ok (d : DefI) (ds : List DefI) : Bool :=
  chkSs { d.cx with sc := defScope d.st, own := none, fns := ds.map (·.i) } d.fd.body (defBody d.st) && scopeB d.cx.N d.i.ps (defScope d.st) && decide (d.fd.np = d.i.ps.length) && decide (d.fd.ns = d.cx.N.length) && decide (d.fd.io = d.i.io) && (match d.fd.io with | none => true | some p => decide (p < d.i.ps.length))
section
variable {K : PySem.W.Frag} {H H' : Hp} {Γ Γ' : Env} {g g' : Nat → List Addr} {σ σ' : L2.St}
theorem Reps3.at : ∀ {ds : List D} {vs : List V} {As : List (List Addr)}, Reps3 K H ds vs As → vs.length = ds.length ∧ As.length = ds.length ∧ ∀ (j : Nat) (d : D), ds[j]? = some d → ∃ v A, vs[j]? = some v ∧ As[j]? = some A ∧ Rep K H d v A
  | _, _, _, .nil => ⟨rfl, rfl, fun j d e => by simp at e⟩
  | _, _, _, .cons r q => by
    obtain ⟨h1, h2, h3⟩ := q.at
    refine ⟨by simp [h1], by simp [h2], fun j d e => ?_⟩
    cases j with
    | zero => simp at e; subst e; exact ⟨_, _, rfl, rfl, r⟩
    | succ j => simpa using h3 j d (by simpa using e)
theorem startE_len : ∀ (ds : List D) (i : Nat) (io : Option Nat) (n : Nat), (startE i io ds n).length = ds.length + (n - ds.length)
  | [], i, io, n => by simp [startE]
  | d :: ds, i, io, n => by
    simp only [startE, List.length_cons, startE_len ds]
    omega
theorem startE_get : ∀ (ds : List D) (i : Nat) (io : Option Nat) (n j : Nat), (startE i io ds n)[j]? = if h : j < ds.length then some (if io = some (i + j) then .own ds[j] else .val ds[j]) else (List.replicate (n - ds.length) Sl.un)[j - ds.length]?
  | [], i, io, n, j => by simp [startE]
  | d :: ds, i, io, n, 0 => by simp [startE]
  | d :: ds, i, io, n, j + 1 => by
    simp only [startE, List.getElem?_cons_succ, List.length_cons]
    rw [startE_get ds (i + 1) io (n - 1) j]
    by_cases h : j < ds.length
    · rw [dif_pos h, dif_pos (by omega)]
      have : i + 1 + j = i + (j + 1) := by omega
      rw [this]
      rfl
    · rw [dif_neg h, dif_neg (by omega)]
      have h1 : n - 1 - ds.length = n - (ds.length + 1) := by omega
      have h2 : j - ds.length = j + 1 - (ds.length + 1) := by omega
      rw [h1, h2]
theorem start_get {N : List Str} {vs : List V} {j : Nat} {v : V} (h : vs[j]? = some v) : (start N vs)[j]? = some (some v) := by
  unfold L2.start
  obtain ⟨hj, e⟩ := List.getElem?_eq_some_iff.mp h
  rw [List.getElem?_append_left (by rw [List.length_map]; exact hj), List.getElem?_map, h]
  rfl
def gOf (As : List (List Addr)) (i : Nat) : List Addr := As.getD i []
theorem gOf_get {As : List (List Addr)} {i : Nat} {A : List Addr} (h : As[i]? = some A) : gOf As i = A := by
  unfold gOf; rw [List.getD_eq_getElem?_getD, h]; rfl
theorem gOf_mem {As : List (List Addr)} {i : Nat} {a : Addr} (h : a ∈ gOf As i) : As[i]? = some (gOf As i) := by
  unfold gOf at h ⊢
  rw [List.getD_eq_getElem?_getD] at h ⊢
  cases e : As[i]? with
  | none => rw [e] at h; cases h
  | some A => rfl
theorem start_own {io : Option Nat} {ds : List D} {n j : Nat} (h : isOwn (startE 0 io ds n) j) : io = some j ∧ ∃ d, ds[j]? = some d := by
  obtain ⟨d, e⟩ := h
  rw [startE_get] at e
  split at e
  · rename_i hj
    split at e <;> cases e
    rename_i q
    exact ⟨by simpa using q, _, List.getElem?_eq_getElem hj⟩
  · rw [List.getElem?_replicate] at e
    split at e <;> cases e
theorem start_rel {N : List Str} {io : Option Nat} {ds : List D} {vs : List V} {As : List (List Addr)} (r : Reps3 K H ds vs As) (h : IoSep io As) (hl : vs.length ≤ N.length) : StRel K (startE 0 io ds N.length) (gOf As) (start N vs) H := by
  obtain ⟨l1, l2, at_⟩ := r.at
  have get : ∀ {j : Nat} {s : Sl}, (startE 0 io ds N.length)[j]? = some s → (∃ d, ds[j]? = some d ∧ s = if io = some j then .own d else .val d) ∨ s = .un := fun {j s} e => by
    rw [startE_get] at e
    split at e
    · rename_i hj
      left
      refine ⟨ds[j], List.getElem?_eq_getElem hj, ?_⟩
      have := Option.some.inj e
      rw [← this]
      simp
    · rw [List.getElem?_replicate] at e
      split at e <;> cases e
      exact .inr rfl
  refine ⟨?_, fun i d e => ?_, fun i d e => ?_, fun i e => ?_, fun i j hij oi a ha => ?_⟩
  · rw [startE_len]
    unfold L2.start
    rw [List.length_append, List.length_map, List.length_replicate, l1]
  · rcases get e with ⟨d', e1, e2⟩ | e2
    · split at e2 <;> cases e2
      obtain ⟨v, A, q1, q2, q3⟩ := at_ i _ e1
      exact ⟨v, start_get q1, by rw [gOf_get q2]; exact q3⟩
    · cases e2
  · rcases get e with ⟨d', e1, e2⟩ | e2
    · split at e2 <;> cases e2
      rename_i q
      obtain ⟨v, A, q1, q2, q3⟩ := at_ i _ e1
      exact ⟨v, start_get q1, by rw [gOf_get q2]; exact q3, by rw [gOf_get q2]; exact (h i A q q2).1⟩
    · cases e2
  · unfold gOf
    rw [List.getD_eq_getElem?_getD]
    have : ds.length ≤ i := by
      refine Nat.le_of_not_lt fun hj => ?_
      rw [startE_get, dif_pos hj] at e
      rcases e with e | e
      · cases e
      · split at e <;> cases e
    rw [List.getElem?_eq_none (by omega)]
    rfl
  · obtain ⟨q, d, e⟩ := start_own oi
    intro hb
    have e1 := gOf_mem ha
    have e2 := gOf_mem hb
    exact (h i _ q e1).2 j _ (Ne.symm hij) e2 a ha hb
end
/-- what the module's first run leaves -/
structure ModF (K : PySem.W.Frag) (mg : Str → Option Value) (ds : List DefI) (bl : List Str) (gv : List (Str × D)) : Prop where
  fn : ∀ (f : Nat) (d : DefI), ds[f]? = some d → ∃ a fd, mg d.i.name = some (.ref a) ∧ Fun K d.i.name d.i.name d.st a fd
  bl : ∀ x, bl.contains x = true → mg x = none
  gv : ∀ p ∈ gv, ∃ v u, mg p.1 = some u ∧ RelV v u ∧ ∀ H, Rep K H p.2 v []
def BindF (ds : List DefI) : Prop := ∀ (f : Nat) (d : DefI), ds[f]? = some d → ∀ c ∈ d.i.cb, ∀ (kV doc pm : Value) (an : Option Addr) (cdv ct : Value) (us ws vs : List Value), us.length = c.2.1 → ws.length = c.1.length → ordL (us ++ ws) c.2.2 = some vs →
  bindArgs (PySem.W.fnOf d.i.name d.i.name (defArgs d.st) (defBody d.st) (defScope d.st) .none kV doc pm an cdv ct) ⟨us, c.1.zip ws⟩ = pure (d.i.ps.zip vs)
section
variable {P : Program} {w : World} {K : PySem.W.Frag} {mg : Str → Option Value} {base : Heap} {ds : List DefI} {bl : List Str} {gv : List (Str × D)} {fuel : Nat}
abbrev tabF (ds : List DefI) : List FunD := ds.map (·.fd)
theorem runF_len {fd : FunD} {F : FT} {fuel : Nat} {as : List D} {r : D × Bool × Option D} (h : runF fd F fuel as = some r) : as.length = fd.np := by
  unfold runF at h
  split at h
  · assumption
  · cases h
theorem bind_all (B : BindF ds) : ∀ (f : Nat) (d : DefI), ds[f]? = some d → ∀ (a : Addr) (fd : FuncData), Fun K d.i.name d.i.name d.st a fd → ∀ c ∈ d.i.cb, ∀ (s : Shared) (us ws vs : List Value), us.length = c.2.1 → ws.length = c.1.length → ordL (us ++ ws) c.2.2 = some vs → BindsTo s fd ⟨us, c.1.zip ws⟩ (d.i.ps.zip vs) := by
  intro f d e a fd F c hc s us ws vs l1 l2 eo
  obtain ⟨oc, od, kV, doc, pm, an, cdv, ct, osl, rfl, lk, hcd⟩ := F.ex
  exact BindsTo.of_eq (B f d e c hc kV doc pm an cdv ct us ws vs l1 l2 eo)
theorem fn_all (M : ModF K mg ds bl gv) (B : BindF ds) (hok : ∀ d ∈ ds, d.ok ds = true) (hbl : ∀ d ∈ ds, d.cx.bl = bl ∧ d.cx.gv = gv) : ∀ (n f : Nat) (d : DefI), ds[f]? = some d → ∀ (a : Addr) (fd : FuncData), Fun K d.i.name d.i.name d.st a fd →
    FnOk P w K mg base CXn n a fd d.i.ps (spF K d.i.ps.length d.i.io (denF (tabF ds) fuel n f)) ∧ ∀ as r, denF (tabF ds) fuel n f as = some r → as.length = d.i.ps.length := by
  intro n
  induction n with
  | zero =>
    intro f d e a fd F
    refine ⟨⟨fun vs H Q E h => h.1, fun A outer s H args us vs Q E hr h0 hb hv h => ?_⟩, fun as r h => by cases h⟩
    obtain ⟨_, as, As, x, fr, o, z, _⟩ := h
    cases z
  | succ n ih =>
    intro f d e a fd F
    have hd := List.mem_of_getElem? e
    have ok := hok d hd
    unfold DefI.ok at ok
    simp only [Bool.and_eq_true, decide_eq_true_eq] at ok
    obtain ⟨⟨⟨⟨⟨hchk, hsc⟩, hnp⟩, hns⟩, hio⟩, hp⟩ := ok
    have S := scopeB_ok hsc
    have den : ∀ as, denF (tabF ds) fuel (n + 1) f as = runF d.fd (denF (tabF ds) fuel n) fuel as := fun as => by
      show ((tabF ds)[f]?.bind fun fd => runF fd (denF (tabF ds) fuel n) fuel as) = _
      rw [List.getElem?_map, e]
      rfl
    have hN : d.i.ps.length ≤ d.cx.N.length := by
      have := congrArg List.length S.pre
      rw [List.length_take] at this
      omega
    refine ⟨?_, fun as r h => by rw [den] at h; rw [runF_len h, hnp]⟩
    refine F.ok S (fun vs H Q E h => h.1) fun cdv A outer s H vs Q E hr h => ?_
    obtain ⟨hl, as, As, x, fr, o, er, rs, sp, hq⟩ := h
    rw [den] at er
    unfold runF at er
    rw [if_pos (by have := rs.at.1; omega)] at er
    simp only [Option.bind_eq_some_iff] at er
    obtain ⟨⟨fl, Γ'⟩, e1, oo, e2, e3⟩ := er
    simp only at e2
    have sok : SOk (cxOf CX0 P w K mg base d.cx.N d.i.name (defScope d.st) a cdv A outer s H E).nox { d.cx with sc := defScope d.st, own := none, fns := ds.map (·.i) } n := {
      calm := rfl
      hN := rfl
      nd := S.nd
      hsc := rfl
      hfn := rfl
      room := hr
      blt := by rw [(hbl d hd).1]; exact M.bl
      gvs := by rw [(hbl d hd).2]; exact M.gv
      po := PassesOwn.never }
    have fs : FnsOk (cxOf CX0 P w K mg base d.cx.N d.i.name (defScope d.st) a cdv A outer s H E).nox (ds.map (·.i)) (denF (tabF ds) fuel n) n := by
      intro f' i' e'
      rw [List.getElem?_map] at e'
      cases ed : ds[f']? with
      | none => rw [ed] at e'; cases e'
      | some d' =>
        rw [ed] at e'
        cases e'
        obtain ⟨a', fd', hm', F'⟩ := M.fn f' d' ed
        obtain ⟨p1, p2⟩ := ih f' d' ed a' fd' F'
        exact ⟨⟨a', fd', hm', F'.kp, p1, bind_all B f' d' ed a' fd' F'⟩, p2⟩
    obtain ⟨t, pt, st⟩ := (chkSs_ok ⟨denF (tabF ds) fuel n, fun i => d.fd.io == some i, fuel⟩ d.fd.body sok fs hchk).ex
    refine ⟨t, pt, ?_⟩
    rw [hns] at e1
    have S0 := start_rel (N := d.cx.N) (io := d.fd.io) rs (by rw [hio]; exact sp) (by omega)
    refine st _ fl Γ' e1 _ H (gOf As) H _ (gOf As) S0 .refl (fun i oi => by have := (start_own oi).1; simpa using this) _ ?_
    -- what is kept
    have fin : ∀ (v : V) (σ' : L2.St) (H' : Hp) (g' : Nat → List Addr) (A' : List Addr), StRel K Γ' g' σ' H' → Step H (startE 0 d.fd.io as d.cx.N.length) (gOf As) H' Γ' g' → IoU (fun i => d.fd.io == some i) (start d.cx.N vs) σ' →
        Res K H (startE 0 d.fd.io as d.cx.N.length) (gOf As) x fr H' Γ' g' v A' → oo = o → CallPost K d.i.io H vs As x fr o H' v A' := by
      intro v σ' H' g' A' S' s' u' r' eo
      subst eo
      refine ⟨fun b ob eb nb => s'.keep b ob eb fun q => ?_, s'.mono, r'.rep, fun b hb => ?_, fun q => ⟨(r'.new q).1, fun b hb => ((r'.new q).2 b hb).1⟩, fun p ep => ?_⟩
      · obtain ⟨i, oi, hi⟩ := q
        exact nb i _ (by rw [← hio]; exact (start_own oi).1) (gOf_mem hi) hi
      · rcases r'.src b hb with ⟨i, hi⟩ | q
        · exact .inl (List.mem_flatten.mpr ⟨_, List.mem_of_getElem? (gOf_mem hi), hi⟩)
        · exact .inr q
      · rw [← hio] at ep
        rw [ep] at e2 hp
        simp only [decide_eq_true_eq] at hp
        simp only [out] at e2
        split at e2
        · rename_i d' ed'
          cases e2
          obtain ⟨w', ew', rw', nd'⟩ := S'.own p d' ed'
          have hpl : p < vs.length := by omega
          have e5 : vs[p]? = some vs[p] := List.getElem?_eq_getElem hpl
          have e4 := u' p (by simp [ep])
          rw [ew', start_get e5] at e4
          have e6 : w' = vs[p] := by simpa using e4
          have lA : As.length = vs.length := by have := rs.at; omega
          have e7 : As[p]? = some (gOf As p) := by
            unfold gOf
            rw [List.getD_eq_getElem?_getD, List.getElem?_eq_getElem (by omega)]
            rfl
          refine ⟨d', vs[p], gOf As p, g' p, rfl, e5, e7, by rw [← e6]; exact rw', nd', fun b hb => ?_, fun b hb hb' => r'.out b hb ⟨p, ⟨d', ed'⟩, hb'⟩⟩
          rcases s'.own p ⟨d', ed'⟩ b hb with ⟨_, q⟩ | q
          · exact .inl q
          · exact .inr q
        · cases e2
    cases fl with
    | nx =>
      simp only [Option.some.injEq, Prod.mk.injEq] at e3
      obtain ⟨rfl, rfl, e3⟩ := e3
      intro σ' H' g' S' s' u'
      exact hq .non H' [] (fin .non σ' H' g' [] S' s' u' ⟨by simp [Rep], fun _ z => (nomatch z), fun _ z => (nomatch z), fun _ => ⟨List.nodup_nil, fun _ z => (nomatch z)⟩⟩ e3)
    | ret x' fr' =>
      simp only [Option.some.injEq, Prod.mk.injEq] at e3
      obtain ⟨rfl, rfl, e3⟩ := e3
      intro v σ' H' g' A' S' s' u' r'
      exact hq v H' A' (fin v σ' H' g' A' S' s' u' r' e3)
    | brk => cases e3
    | cnt => cases e3
/-- the law's def -/
theorem law_mk {fa : Addr} (hfa : mg "law" = some (.ref fa)) (M : ModF K mg ds bl gv) (B : BindF ds) (hok : ∀ d ∈ ds, d.ok ds = true) (hbl : ∀ d ∈ ds, d.cx.bl = bl ∧ d.cx.gv = gv) (n f : Nat) (d : DefI) (e : ds[f]? = some d)
    (hn : d.i.name = ("law" : Str)) (hps : d.i.ps = [("script" : Str)]) (hcb : ([], 1, []) ∈ d.i.cb) (hio : d.i.io = none) :
    ∃ fd : FuncData, (∀ (s : Shared) (v : Value), BindsTo s fd ⟨[v], []⟩ [("script", v)]) ∧ ∀ base : Heap, K.In base → base.Ns mainGlobals mg → FnOk P w K mg base CX0 n fa fd ["script"] (spF K 1 none (denF (tabF ds) fuel n f)) := by
  obtain ⟨a, fd, hm, F⟩ := M.fn f d e
  rw [hn, hfa] at hm
  cases hm
  refine ⟨fd, fun s v => ?_, fun base _ _ => ?_⟩
  · have := bind_all B f d e fa fd F _ hcb s [v] [] [v] rfl rfl rfl
    rw [hps] at this
    exact this
  · have := (fn_all (P := P) (w := w) (base := base) (fuel := fuel) M B hok hbl n f d e fa fd F).1
    rw [hps, hio] at this
    exact this
theorem law_sp {F : FT} {f m : Nat} {H : Hp} {a : Addr} {ns : List Int} (hF : ∀ ns : List Int, ns.length ≤ m → ∃ fr, F f [.scr ns] = some (.bl true, fr, none)) (hl : ns.length ≤ m) (hO : Only H) (hS : SqL K H a (ns.map V.int)) {E : XK} :
    spF K 1 none (F f) [.ref a] H (fun v _ => v = .bl true) E := by
  obtain ⟨fr, e⟩ := hF ns hl
  refine ⟨rfl, [.scr ns], [[]], .bl true, fr, none, e, .cons ?_ .nil, (fun p B z => nomatch z), fun v H' A p => ?_⟩
  · simp only [Rep]
    refine ⟨a, (), rfl, ScrAt.of hS fun z => ?_, trivial⟩
    rcases hO a with q | ⟨o, xs, q⟩ <;> rw [q] at z <;> cases z
  · have := p.rep
    simp only [Rep] at this
    exact this.1
end
end WT

/-! WT: small helps for the printed texts. -/
namespace WT
open PySem L2
theorem all_nil {α : Type} {P : α → Prop} : ∀ x ∈ ([] : List α), P x := fun _ h => nomatch h
theorem all_cons {α : Type} {P : α → Prop} {a : α} {l : List α} (h : P a) (r : ∀ x ∈ l, P x) : ∀ x ∈ a :: l, P x := fun x hx => by
  rcases List.mem_cons.mp hx with rfl | q
  · exact h
  · exact r x q
theorem forall_get {α : Type} {P : α → Prop} {l : List α} (h : ∀ x ∈ l, P x) : ∀ (f : Nat) (d : α), l[f]? = some d → P d := fun f d e => h d (List.mem_of_getElem? e)
theorem contains_all {P : Str → Prop} {l : List Str} (h : ∀ x ∈ l, P x) : ∀ x, l.contains x = true → P x := fun x e => h x (by simpa using e)
def BindC (d : DefI) (c : List Str × Nat × List Nat) : Prop := ∀ (kV doc pm : Value) (an : Option Addr) (cdv ct : Value) (us ws vs : List Value), us.length = c.2.1 → ws.length = c.1.length → ordL (us ++ ws) c.2.2 = some vs →
  bindArgs (PySem.W.fnOf d.i.name d.i.name (defArgs d.st) (defBody d.st) (defScope d.st) .none kV doc pm an cdv ct) ⟨us, c.1.zip ws⟩ = pure (d.i.ps.zip vs)
theorem BindF.of {ds : List DefI} (h : ∀ d ∈ ds, ∀ c ∈ d.i.cb, BindC d c) : BindF ds := forall_get h
def GvOk (K : PySem.W.Frag) (d : D) (u : Value) : Prop := ∃ v, RelV v u ∧ ∀ H, Rep K H d v []
theorem GvOk.get {K : PySem.W.Frag} {d : D} {u : Value} {mg : Str → Option Value} {x : Str} (h : GvOk K d u) (e : mg x = some u) : ∃ v u', mg (x, d).1 = some u' ∧ RelV v u' ∧ ∀ H, Rep K H (x, d).2 v [] := by
  obtain ⟨v, r, q⟩ := h
  exact ⟨v, u, e, r, q⟩
theorem gv_int {K : PySem.W.Frag} {i : Int} {t : Tok} : GvOk K (.int i) (.int i t) := ⟨.int i, ⟨t, rfl⟩, fun H => by simp [Rep]⟩
theorem gv_str {K : PySem.W.Frag} {s : List Nat} {c : Str} {t : Tok} (h : c = sV s) (ok : strOkL s = true) : GvOk K (.str s) (.str c t) := ⟨.str (sV s), ⟨t, by rw [h]⟩, fun H => by simp [Rep, sV, ok]⟩
def gvGo : List Value → List (List Nat) → Bool
  | [], [] => true
  | .str c _ :: us, s :: ss => decide (c = sV s) && strOkL s && gvGo us ss
  | _, _ => false
theorem gvGo_ok : ∀ {us : List Value} {ss : List (List Nat)}, gvGo us ss = true → Vals ((ss.map sV).map V.str) us ∧ ∀ s ∈ ss, strOkL s = true
  | [], [], _ => ⟨.nil, fun _ z => (nomatch z)⟩
  | u :: us, s :: ss, h => by
    cases u <;> simp only [gvGo, Bool.false_eq_true] at h
    simp only [Bool.and_eq_true, decide_eq_true_eq] at h
    obtain ⟨⟨rfl, ok⟩, h3⟩ := h
    obtain ⟨r, q⟩ := gvGo_ok h3
    exact ⟨.cons ⟨_, rfl⟩ r, fun x hx => (List.mem_cons.mp hx).elim (fun e => e ▸ ok) (q x)⟩
  | [], _ :: _, h => by simp [gvGo] at h
  | u :: us, [], h => by cases u <;> simp [gvGo] at h
theorem gv_strs {K : PySem.W.Frag} {a : Addr} {ss : List (List Nat)} {its : Array Value} {n : Nat} {sl : Array (Option Value)} {od : Option Addr} (hk : K.lookup a = some ⟨.type "tuple", od, .seq its n, sl⟩) (h : gvGo its.toList ss = true) (hz : its.size ≤ sizeLine) : GvOk K (.tup (ss.map .str)) (.ref a) := by
  obtain ⟨r, q⟩ := gvGo_ok h
  refine ⟨.ref a, rfl, fun H => ?_⟩
  simp only [Rep]
  exact ⟨a, _, rfl, .inr ⟨_, its, n, hk, rfl, rfl, hz, r⟩, reps_strs H ss q⟩
end WT

/-! WT: the evaluator, step by step. -/
namespace WT
open PySem L2
def Pm (F : FT) (io : Option Nat) (fuel : Nat) : Prm := ⟨F, fun i => io == some i, fuel⟩
section
variable (P : Prm) (F : FT) (io : Option Nat) (fuel : Nat)
theorem Pm_F : (Pm F io fuel).F = F := rfl
theorem Pm_io (i : Nat) : (Pm F io fuel).io i = (io == some i) := rfl
theorem Pm_fuel : (Pm F io fuel).fuel = fuel := rfl
theorem ev_k (d : D) : ev P (.k d) = mkDn fun Γ => some (d, true, Γ) := rfl
theorem ev_gl (x : List Nat) (d : D) : ev P (.gl x d) = mkDn fun Γ => some (d, true, Γ) := rfl
theorem ev_var (i : Nat) : ev P (.var i) = dVar i := rfl
theorem ev_op (o : Op) (as : List C) : ev P (.op o as) = dOp o (evL P as) := rfl
theorem ev_tup (as : List C) : ev P (.tup as) = dTup (evL P as) := rfl
theorem ev_lst (as : List C) : ev P (.lst as) = dLst (evL P as) := rfl
theorem ev_dct0 : ev P .dct0 = mkDn fun Γ => some (.dct [], true, Γ) := rfl
theorem ev_sl (bl bh : Bool) (x lo hi : C) : ev P (.sl bl bh x lo hi) = dSl bl bh (ev P x) (ev P lo) (ev P hi) := rfl
theorem ev_mop (o : Mo) (x : C) (as : List C) : ev P (.mop o x as) = dMop o (ev P x) (evL P as) := rfl
theorem ev_and (a b : C) : ev P (.and a b) = dAnd (ev P a) (ev P b) := rfl
theorem ev_or (a b : C) : ev P (.or a b) = dOr (ev P a) (ev P b) := rfl
theorem ev_not (a : C) : ev P (.not a) = dNot (ev P a) := rfl
theorem ev_ife (t a b : C) : ev P (.ife t a b) = dIfe (ev P t) (ev P a) (ev P b) := rfl
theorem ev_call (f : Nat) (i : Option Nat) (as : List C) (ix : List Nat) : ev P (.call f i as ix) = dCall P.F f i (evL P as) ix := rfl
theorem ev_callp (f i : Nat) (c : C) : ev P (.callp f i c) = dCallp P.F f i (ev P c) := rfl
theorem ev_comp (vs : List Nat) (tg : Tg) (it : WT.It) (e : C) : ev P (.comp vs tg it none e) = dComp vs (evG P tg) (evI P it) tYesE (ev P e) := rfl
theorem ev_compf (vs : List Nat) (tg : Tg) (it : WT.It) (c e : C) : ev P (.comp vs tg it (some c) e) = dComp vs (evG P tg) (evI P it) (ev P c).t (ev P e) := rfl
theorem ev_meth (m : Mt) (i : Nat) (as : List C) : ev P (.meth m i as) = dMeth m i (evL P as) := rfl
theorem evL_nil : evL P [] = [] := rfl
theorem evL_cons (c : C) (r : List C) : evL P (c :: r) = ev P c :: evL P r := rfl
theorem evG_nm (i : Nat) : evG P (.nm i) = gnNm P.io i := rfl
theorem evG_tupN (is : List Nat) : evG P (.tupN is) = gnTupN P.io is := rfl
theorem evG_tup (ts : List Tg) : evG P (.tup ts) = gnTup (evGs P ts) := rfl
theorem evG_sub (i : Nat) (e : C) : evG P (.sub i e) = gnSub i (ev P e) := rfl
theorem evGs_nil : evGs P [] = [] := rfl
theorem evGs_cons (t : Tg) (r : List Tg) : evGs P (t :: r) = evG P t :: evGs P r := rfl
theorem evI_val (c : C) : evI P (.val c) = inVal (ev P c) := rfl
theorem evI_range (as : List C) : evI P (.range as) = inRange (evL P as) := rfl
theorem evS_expr (c : C) (Γ : WT.Env) : evS P (.expr c) Γ = ((ev P c).a Γ).map fun (_, Γ1) => (.nx, Γ1) := rfl
theorem evS_ret (c : C) (Γ : WT.Env) : evS P (.ret c) Γ = sRet P c Γ := rfl
theorem evS_asg (tg : Tg) (c : C) (Γ : WT.Env) : evS P (.asg tg c) Γ = ((ev P c).e Γ).bind fun (d, fr, Γ1) => (evG P tg d fr Γ1).map fun Γ2 => (.nx, Γ2) := rfl
theorem evS_par (is : List Nat) (cs : List C) (Γ : WT.Env) : evS P (.par is cs) Γ = (seqP (evL P cs) Γ).bind fun (ds, Γ1) => (setP P.io is ds Γ1).map fun Γ2 => (.nx, Γ2) := rfl
theorem evS_ife (t : C) (a b : List WT.S) (Γ : WT.Env) : evS P (.ife t a b) Γ = ((ev P t).t Γ).bind fun (c, Γ1) => if c then evSs P a Γ1 else evSs P b Γ1 := rfl
theorem evS_for (tg : Tg) (it : WT.It) (b : List WT.S) (Γ : WT.Env) : evS P (.for tg it b) Γ = (evI P it Γ).bind fun (ds, Γ1) => forL (evG P tg) (evSs P b) ds Γ1 := rfl
theorem evS_never (Γ : WT.Env) : evS P .never Γ = none := rfl
theorem evSs_nil (Γ : WT.Env) : evSs P [] Γ = some (.nx, Γ) := rfl
theorem evSs_cons (s : WT.S) (r : List WT.S) (Γ : WT.Env) : evSs P (s :: r) Γ = (evS P s Γ).bind fun (f, Γ1) => match f with
  | .nx => evSs P r Γ1
  | f => some (f, Γ1) := rfl
end
def fin (io : Option Nat) (r : Option (Flow × WT.Env)) : Option (D × Bool × Option D) := r.bind fun (f, Γ) => (out Γ io).bind fun o => match f with
  | .ret d fr => some (d, fr, o)
  | .nx => some (.non, true, o)
  | _ => none
theorem den_of {T : List FunD} {fuel n f : Nat} {fd : FunD} {xs : List D} (h : T[f]? = some fd) (hl : xs.length = fd.np) : denF T fuel (n + 1) f xs = fin fd.io (evSs (Pm (denF T fuel n) fd.io fuel) fd.body (startE 0 fd.io xs fd.ns)) := by
  show (T[f]?.bind fun fd => runF fd (denF T fuel n) fuel xs) = _
  rw [h]
  show runF fd (denF T fuel n) fuel xs = _
  unfold runF
  rw [if_pos hl]
  rfl
theorem compL_cons {vs : List Nat} {g : Gn} {t : WT.Env → Option (Bool × WT.Env)} {e : Dn} {acc : List D} {fr fx : Bool} {d x : D} {r : List D} {Γ Γ1 Γ2 Γ3 : WT.Env} (h1 : g d (WT.imm d) (wipeE vs Γ) = some Γ1) (h2 : t Γ1 = some (true, Γ2)) (h3 : e.e Γ2 = some (x, fx, Γ3)) (h4 : acc.length < line) :
    compL vs g t e acc fr (d :: r) Γ = compL vs g t e (acc ++ [x]) (fr && fx) r Γ3 := by
  simp [compL, h1, h2, h3, h4]
theorem compL_skip {vs : List Nat} {g : Gn} {t : WT.Env → Option (Bool × WT.Env)} {e : Dn} {acc : List D} {fr : Bool} {d : D} {r : List D} {Γ Γ1 Γ2 : WT.Env} (h1 : g d (WT.imm d) (wipeE vs Γ) = some Γ1) (h2 : t Γ1 = some (false, Γ2)) :
    compL vs g t e acc fr (d :: r) Γ = compL vs g t e acc fr r Γ2 := by
  simp [compL, h1, h2]
theorem forL_nx {g : Gn} {b : Sn} {d : D} {r : List D} {Γ Γ1 Γ2 : WT.Env} (h1 : g d (WT.imm d) Γ = some Γ1) (h2 : b Γ1 = some (.nx, Γ2)) : forL g b (d :: r) Γ = forL g b r Γ2 := by
  simp [forL, h1, h2]
theorem forL_ret {g : Gn} {b : Sn} {d x : D} {fr : Bool} {r : List D} {Γ Γ1 Γ2 : WT.Env} (h1 : g d (WT.imm d) Γ = some Γ1) (h2 : b Γ1 = some (.ret x fr, Γ2)) : forL g b (d :: r) Γ = some (.ret x fr, Γ2) := by
  simp [forL, h1, h2]
/-- a comprehension without a test -/
theorem comp_e {P : Prm} {vs : List Nat} {tg : Tg} {it : WT.It} {e : C} {Γ Γ1 Γ2 : WT.Env} {ds xs : List D} {fr : Bool} (h1 : evI P it Γ = some (ds, Γ1)) (h2 : noOwn Γ1 vs = true) (h3 : compL vs (evG P tg) tYesE (ev P e) [] true ds Γ1 = some (xs, fr, Γ2)) :
    (ev P (.comp vs tg it none e)).e Γ = some (.lst xs, fr, backE Γ1 vs Γ2) := by
  rw [ev_comp]
  simp [dComp, mkDn, h1, h2, h3]
theorem compf_e {P : Prm} {vs : List Nat} {tg : Tg} {it : WT.It} {c e : C} {Γ Γ1 Γ2 : WT.Env} {ds xs : List D} {fr : Bool} (h1 : evI P it Γ = some (ds, Γ1)) (h2 : noOwn Γ1 vs = true) (h3 : compL vs (evG P tg) (ev P c).t (ev P e) [] true ds Γ1 = some (xs, fr, Γ2)) :
    (ev P (.comp vs tg it (some c) e)).e Γ = some (.lst xs, fr, backE Γ1 vs Γ2) := by
  rw [ev_compf]
  simp [dComp, mkDn, h1, h2, h3]
theorem comp_a {P : Prm} {vs : List Nat} {tg : Tg} {it : WT.It} {o : Option C} {e : C} {Γ Γ1 : WT.Env} {d : D} {fr : Bool} (h : (ev P (.comp vs tg it o e)).e Γ = some (d, fr, Γ1)) : (ev P (.comp vs tg it o e)).a Γ = some (.v d fr, Γ1) := by
  cases o <;> simp only [ev_comp, ev_compf, dComp, mkDn] at h ⊢ <;> rw [h] <;> rfl
end WT

/-! WT: comprehensions that change nothing but their own names; more steps. -/
namespace WT
open PySem L2
section
variable (P : Prm)
theorem ev_chain (o1 o2 : Op) (a b c : C) : ev P (.chain o1 o2 a b c) = dChain o1 o2 (ev P a) (ev P b) (ev P c) := rfl
theorem ev_compo (i : Nat) (j : Option Nat) (vs : List Nat) (tg : Tg) (e : C) : ev P (.compo i j vs tg none e) = dCompH i j vs (evG P tg) tYesE (ev P e) := rfl
theorem ev_compof (i : Nat) (j : Option Nat) (vs : List Nat) (tg : Tg) (c e : C) : ev P (.compo i j vs tg (some c) e) = dCompH i j vs (evG P tg) (ev P c).t (ev P e) := rfl
theorem evI_enum (c : C) : evI P (.enum c) = inEnum (ev P c) := rfl
theorem evI_zip (a b : C) : evI P (.zip a b) = inZip (ev P a) (ev P b) := rfl
end
theorem wipeM_get : ∀ (vs : List Nat) (Γ : WT.Env) (j : Nat), (wipeE vs Γ)[j]? = if j ∈ vs ∧ j < Γ.length then some .un else Γ[j]?
  | [], Γ, j => by simp [wipeE]
  | i :: r, Γ, j => by
    have hl : (wipeE r Γ).length = Γ.length := by
      clear j
      induction r with
      | nil => rfl
      | cons a r ih => simp [wipeE, ih]
    simp only [wipeE]
    by_cases e : j = i
    · subst e
      by_cases h : j < Γ.length
      · rw [List.getElem?_set_self (by rw [hl]; exact h), if_pos ⟨by simp, h⟩]
      · rw [List.getElem?_eq_none (by rw [List.length_set, hl]; omega), if_neg (fun z => h z.2), List.getElem?_eq_none (by omega)]
    · rw [List.getElem?_set_ne (Ne.symm e), wipeM_get r Γ j]
      simp [e]
theorem backM_len (Γ0 : WT.Env) : ∀ (vs : List Nat) (Γ : WT.Env), (backE Γ0 vs Γ).length = Γ.length
  | [], Γ => rfl
  | i :: r, Γ => by simp [backE, backM_len Γ0 r Γ]
theorem backM_get (Γ0 : WT.Env) : ∀ (vs : List Nat) (Γ : WT.Env) (j : Nat), (backE Γ0 vs Γ)[j]? = if j ∈ vs ∧ j < Γ.length then some (Γ0.getD j .un) else Γ[j]?
  | [], Γ, j => by simp [backE]
  | i :: r, Γ, j => by
    have hl := backM_len Γ0 r Γ
    simp only [backE]
    by_cases e : j = i
    · subst e
      by_cases h : j < Γ.length
      · rw [List.getElem?_set_self (by rw [hl]; exact h), if_pos ⟨by simp, h⟩]
      · rw [List.getElem?_eq_none (by rw [List.length_set, hl]; omega), if_neg (fun z => h z.2), List.getElem?_eq_none (by omega)]
    · rw [List.getElem?_set_ne (Ne.symm e), backM_get Γ0 r Γ j]
      simp [e]
theorem back_wipe {vs : List Nat} {Γ Γ0 : WT.Env} (h : wipeE vs Γ = wipeE vs Γ0) : backE Γ0 vs Γ = Γ0 := by
  have hl : Γ.length = Γ0.length := by
    have e : ∀ (vs : List Nat) (Γ : WT.Env), (wipeE vs Γ).length = Γ.length := by
      intro vs
      induction vs with
      | nil => intro Γ; rfl
      | cons a r ih => intro Γ; simp [wipeE, ih]
    rw [← e vs Γ, h, e]
  refine List.ext_getElem? fun j => ?_
  rw [backM_get]
  have hj : (wipeE vs Γ)[j]? = (wipeE vs Γ0)[j]? := by rw [h]
  rw [wipeM_get, wipeM_get] at hj
  by_cases q : j ∈ vs ∧ j < Γ.length
  · rw [if_pos q]
    rw [List.getElem?_eq_getElem (by omega), List.getD_eq_getElem?_getD, List.getElem?_eq_getElem (by omega)]
    rfl
  · rw [if_neg q] at hj ⊢
    rw [hj]
    rw [hl] at q
    rw [if_neg q]
/-- each turn stores its item and changes nothing else -/
theorem compL_pure {vs : List Nat} {g : Gn} {t : WT.Env → Option (Bool × WT.Env)} {e : Dn} {Γ0 : WT.Env} {p : D → Bool} {f : D → D} {fx : D → Bool} : ∀ (ds acc : List D) (fr : Bool) (Γ : WT.Env), acc.length + ds.length ≤ line → wipeE vs Γ = wipeE vs Γ0 →
    (∀ d ∈ ds, ∃ Γ2, g d (WT.imm d) (wipeE vs Γ0) = some Γ2 ∧ t Γ2 = some (p d, Γ2) ∧ (p d = true → e.e Γ2 = some (f d, fx d, Γ2)) ∧ wipeE vs Γ2 = wipeE vs Γ0) →
    ∃ Γ', compL vs g t e acc fr ds Γ = some (acc ++ (ds.filter p).map f, fr && (ds.filter p).all fx, Γ') ∧ wipeE vs Γ' = wipeE vs Γ0
  | [], acc, fr, Γ, _, h, _ => ⟨Γ, by simp [compL], h⟩
  | d :: ds, acc, fr, Γ, hl, h, hs => by
    simp only [List.length_cons] at hl
    obtain ⟨Γ2, h1, h2, h3, h4⟩ := hs d List.mem_cons_self
    cases hp : p d with
    | true =>
      obtain ⟨Γ', h5, h6⟩ := compL_pure (p := p) (f := f) (fx := fx) ds (acc ++ [f d]) (fr && fx d) Γ2 (by simp; omega) h4 fun x hx => hs x (List.mem_cons_of_mem _ hx)
      refine ⟨Γ', ?_, h6⟩
      rw [hp] at h2
      rw [compL_cons (by rw [h]; exact h1) h2 (h3 hp) (by omega), h5]
      simp [hp, Bool.and_assoc]
    | false =>
      obtain ⟨Γ', h5, h6⟩ := compL_pure (p := p) (f := f) (fx := fx) ds acc fr Γ2 (by omega) h4 fun x hx => hs x (List.mem_cons_of_mem _ hx)
      refine ⟨Γ', ?_, h6⟩
      rw [hp] at h2
      rw [compL_skip (by rw [h]; exact h1) h2, h5]
      simp [hp]
theorem compf_pure {P : Prm} {vs : List Nat} {tg : Tg} {it : WT.It} {c e : C} {Γ Γ1 : WT.Env} {ds : List D} (p : D → Bool) (f : D → D) (h1 : evI P it Γ = some (ds, Γ1)) (h2 : noOwn Γ1 vs = true) (hl : ds.length ≤ line)
    (hs : ∀ d ∈ ds, ∃ Γ2, evG P tg d (WT.imm d) (wipeE vs Γ1) = some Γ2 ∧ (ev P c).t Γ2 = some (p d, Γ2) ∧ (p d = true → (ev P e).e Γ2 = some (f d, true, Γ2)) ∧ wipeE vs Γ2 = wipeE vs Γ1) :
    (ev P (.comp vs tg it (some c) e)).e Γ = some (.lst ((ds.filter p).map f), true, Γ1) := by
  obtain ⟨Γ', h5, h6⟩ := compL_pure (p := p) (f := f) (fx := fun _ => true) ds [] true Γ1 (by simpa using hl) rfl hs
  have : (ds.filter p).all (fun _ => true) = true := by simp
  rw [this] at h5
  rw [compf_e h1 h2 (by simpa using h5), back_wipe h6]
theorem comp_pure {P : Prm} {vs : List Nat} {tg : Tg} {it : WT.It} {e : C} {Γ Γ1 : WT.Env} {ds : List D} (f : D → D) (h1 : evI P it Γ = some (ds, Γ1)) (h2 : noOwn Γ1 vs = true) (hl : ds.length ≤ line)
    (hs : ∀ d ∈ ds, ∃ Γ2, evG P tg d (WT.imm d) (wipeE vs Γ1) = some Γ2 ∧ (ev P e).e Γ2 = some (f d, true, Γ2) ∧ wipeE vs Γ2 = wipeE vs Γ1) :
    (ev P (.comp vs tg it none e)).e Γ = some (.lst (ds.map f), true, Γ1) := by
  obtain ⟨Γ', h5, h6⟩ := compL_pure (p := fun _ => true) (f := f) (fx := fun _ => true) (t := tYesE) ds [] true Γ1 (by simpa using hl) rfl fun d hd => by
    obtain ⟨Γ2, a, b, c⟩ := hs d hd
    exact ⟨Γ2, a, rfl, fun _ => b, c⟩
  have h7 : ds.filter (fun _ => true) = ds := List.filter_eq_self.mpr fun _ _ => rfl
  rw [h7] at h5
  have : ds.all (fun _ => true) = true := by simp
  rw [this] at h5
  rw [comp_e h1 h2 (by simpa using h5), back_wipe h6]
theorem asBls_map (f : D → Bool) : ∀ ds : List D, asBls (ds.map fun d => .bl (f d)) = some (ds.map f)
  | [] => rfl
  | d :: r => by simp [asBls, asBls_map f r]
theorem asBls_map' {α : Type} (f : α → Bool) : ∀ ds : List α, asBls (ds.map fun d => .bl (f d)) = some (ds.map f)
  | [] => rfl
  | d :: r => by simp [asBls, asBls_map' f r]
theorem atI_of {α : Type} (xs : List α) (r : Int) (h0 : 0 ≤ r) (h1 : r < xs.length) : ∃ d, atI xs r = some d ∧ d ∈ xs := by
  have hr : r.toNat < xs.length := by omega
  refine ⟨xs[r.toNat], ?_, List.getElem_mem hr⟩
  unfold atI ixN
  rw [if_pos h0, if_pos h1]
  simp [hr]
theorem cutHi {α : Type} (x : List α) (m : Nat) : cutL x none (some (m : Int)) = x.take m := by
  unfold cutL
  rw [HT.sIx_nat, HT.sIx_none]
  simp
theorem cutLo {α : Type} (x : List α) (m : Nat) : cutL x (some (m : Int)) none = x.drop m := by
  unfold cutL
  rw [HT.sIx_nat, HT.sIx_none]
  rw [List.take_of_length_le (by rw [List.length_drop]; omega)]
  rcases Nat.le_total m x.length with h | h
  · rw [Nat.min_eq_left h]
  · rw [Nat.min_eq_right h, List.drop_length, List.drop_of_length_le h]
theorem rangeL_mem : ∀ (n : Nat) (lo x : Int), x ∈ rangeL lo n → lo ≤ x ∧ x < lo + n
  | 0, lo, x, h => by cases h
  | n + 1, lo, x, h => by
    rcases List.mem_cons.mp h with rfl | h
    · omega
    · have := rangeL_mem n (lo + 1) x h
      omega
theorem range0 (n : Nat) : (rangeL 0 n).map D.int = (List.range n).map fun (k : Nat) => D.int (k : Int) := by
  have : ∀ (n : Nat) (lo : Nat), (rangeL (lo : Int) n).map D.int = (List.range' lo n).map fun (k : Nat) => D.int (k : Int) := by
    intro n
    induction n with
    | zero => intro lo; rfl
    | succ n ih =>
      intro lo
      have := ih (lo + 1)
      simp only [rangeL, List.map_cons, List.range'_succ]
      rw [← this]
      congr 1
  have := this n 0
  rw [List.range_eq_range']
  exact this
end WT
namespace WT
open PySem L2
def isVar : C → Bool
  | .var _ => true
  | _ => false
theorem sRet_of {P : Prm} {c : C} (h : isVar c = false) (Γ : WT.Env) : sRet P c Γ = ((ev P c).e Γ).map fun (d, fr, Γ1) => (.ret d fr, Γ1) := by
  cases c <;> first | rfl | (simp [isVar] at h)
/-- a def of one return -/
theorem ret1 {T : List FunD} {fuel n f : Nat} {fd : FunD} {xs : List D} {c : C} {Γ Γ' : WT.Env} {d : D} {fr : Bool} (h : T[f]? = some fd) (hl : xs.length = fd.np) (hb : fd.body = [.ret c]) (hio : fd.io = none) (hv : isVar c = false) (h0 : startE 0 none xs fd.ns = Γ)
    (he : (ev (Pm (denF T fuel n) none fuel) c).e Γ = some (d, fr, Γ')) : denF T fuel (n + 1) f xs = some (d, fr, none) := by
  rw [den_of h hl, hb, hio, evSs_cons, evS_ret, sRet_of hv, h0, he]
  rfl
theorem and_e {a b : Dn} {Γ : WT.Env} {x y : Bool} (h1 : a.e Γ = some (.bl x, true, Γ)) (h2 : x = true → b.e Γ = some (.bl y, true, Γ)) : (dAnd a b).e Γ = some (.bl (x && y), true, Γ) := by
  cases x with
  | true => simp [dAnd, h1, h2, isBl]
  | false => simp [dAnd, h1, isBl]
theorem or_e {a b : Dn} {Γ : WT.Env} {x y : Bool} (h1 : a.e Γ = some (.bl x, true, Γ)) (h2 : x = false → b.e Γ = some (.bl y, true, Γ)) : (dOr a b).e Γ = some (.bl (x || y), true, Γ) := by
  cases x with
  | true => simp [dOr, h1, isBl]
  | false => simp [dOr, h1, h2, isBl]
theorem and_t {a b : Dn} {Γ : WT.Env} {x y : Bool} (h1 : a.t Γ = some (x, Γ)) (h2 : x = true → b.t Γ = some (y, Γ)) : (dAnd a b).t Γ = some (x && y, Γ) := by
  cases x with
  | true => simp [dAnd, h1, h2]
  | false => simp [dAnd, h1]
theorem or_t {a b : Dn} {Γ : WT.Env} {x y : Bool} (h1 : a.t Γ = some (x, Γ)) (h2 : x = false → b.t Γ = some (y, Γ)) : (dOr a b).t Γ = some (x || y, Γ) := by
  cases x with
  | true => simp [dOr, h1]
  | false => simp [dOr, h1, h2]
theorem not_t {a : Dn} {Γ : WT.Env} {x : Bool} (h1 : a.t Γ = some (x, Γ)) : (dNot a).t Γ = some (!x, Γ) := by simp [dNot, h1]
theorem not_e {a : Dn} {Γ : WT.Env} {x : Bool} (h1 : a.e Γ = some (.bl x, true, Γ)) : (dNot a).e Γ = some (.bl !x, true, Γ) := by simp [dNot, h1, isBl]
/-- an operation by its operands -/
theorem op_e {P : Prm} {o : Op} {as : List C} {Γ Γ1 Γ2 : WT.Env} {args : List Arg} {ds : List D} {d d' : D} {top fr : Bool} (h1 : seqA (evL P as) Γ = some (args, Γ1)) (h2 : getAll Γ1 args = some ds) (h3 : prim o ds = some (d, top)) (h4 : WT.settle d top args Γ1 = (d', fr, Γ2)) : (ev P (.op o as)).e Γ = some (d', fr, Γ2) := by
  rw [ev_op]
  simp [dOp, mkDn, h1, h2, h3, h4]
theorem op_t {P : Prm} {o : Op} {as : List C} {Γ Γ1 : WT.Env} {b fr : Bool} (h : (ev P (.op o as)).e Γ = some (.bl b, fr, Γ1)) : (ev P (.op o as)).t Γ = some (b, Γ1) := by
  rw [ev_op] at h ⊢
  simp only [dOp, mkDn] at h ⊢
  rw [h]; rfl
theorem op_a {P : Prm} {o : Op} {as : List C} {Γ Γ1 : WT.Env} {d : D} {fr : Bool} (h : (ev P (.op o as)).e Γ = some (d, fr, Γ1)) : (ev P (.op o as)).a Γ = some (.v d fr, Γ1) := by
  rw [ev_op] at h ⊢
  simp only [dOp, mkDn] at h ⊢
  rw [h]; rfl
end WT
namespace WT
open PySem L2
/-- a local list walked by a comprehension that changes nothing -/
theorem compof_pure {P : Prm} {i : Nat} {j : Option Nat} {vs : List Nat} {tg : Tg} {c e : C} {Γ : WT.Env} {xs ds : List D} (p : D → Bool) (f : D → D) (h0 : Γ[i]? = some (.own (.lst xs))) (him : immL xs = true) (h1 : hidI i xs Γ j = some ds) (h2 : noOwn (Γ.set i .un) vs = true) (hv : vs.contains i = false) (hl : ds.length ≤ line)
    (hs : ∀ d ∈ ds, ∃ Γ2, evG P tg d (WT.imm d) (wipeE vs (Γ.set i .un)) = some Γ2 ∧ (ev P c).t Γ2 = some (p d, Γ2) ∧ (p d = true → (ev P e).e Γ2 = some (f d, true, Γ2)) ∧ wipeE vs Γ2 = wipeE vs (Γ.set i .un)) :
    (ev P (.compo i j vs tg (some c) e)).e Γ = some (.lst ((ds.filter p).map f), true, Γ) := by
  obtain ⟨Γ', h5, h6⟩ := compL_pure (p := p) (f := f) (fx := fun _ => true) ds [] true (Γ.set i .un) (by simpa using hl) rfl hs
  have : (ds.filter p).all (fun _ => true) = true := by simp
  rw [this] at h5
  rw [ev_compof]
  have hil : i < Γ.length := (List.getElem?_eq_some_iff.mp h0).1
  have hu : (Γ.set i .un)[i]? = some .un := List.getElem?_set_self hil
  have hb : ((Γ.set i .un).set i (.own (.lst xs))) = Γ := by
    rw [List.set_set]
    apply List.ext_getElem?
    intro k
    by_cases hk : k = i
    · subst hk; rw [List.getElem?_set_self hil, h0]
    · rw [List.getElem?_set_ne (Ne.symm hk)]
  simp only [List.nil_append, Bool.and_true] at h5
  have hv2 : i ∉ vs := by simpa using hv
  simp [dCompH, mkDn, h0, him, h2, hv2, h1, h5, back_wipe h6, hu, hb]
end WT
namespace WT
open PySem L2
theorem meth_e {P : Prm} {m : Mt} {i : Nat} {as : List C} {Γ Γ1 : WT.Env} {xs ys zs ds : List D} {r : D} (h0 : Γ[i]? = some (.own (.lst xs))) (h1 : seqE (evL P as) Γ = some (ds, true, Γ1)) (h2 : Γ1[i]? = some (.own (.lst ys))) (h3 : mtPrim m ys ds = some (r, zs)) :
    (ev P (.meth m i as)).e Γ = some (r, WT.imm r, Γ1.set i (.own (.lst zs))) := by
  rw [ev_meth]
  simp [dMeth, mkDn, h0, h1, h2, h3]
theorem expr_meth {P : Prm} {m : Mt} {i : Nat} {as : List C} {Γ Γ1 : WT.Env} {r : D} {fr : Bool} (h : (ev P (.meth m i as)).e Γ = some (r, fr, Γ1)) : evS P (.expr (.meth m i as)) Γ = some (.nx, Γ1) := by
  rw [evS_expr]
  rw [ev_meth] at h ⊢
  simp only [dMeth, mkDn] at h ⊢
  rw [h]; rfl
end WT

/-! the defs that the law reaches, as core terms (printed by gen.py) -/
namespace K56
open PySem L2 WT
def topS (i : Nat) : Stmt := PySem.Challenge.pw_wordtiles_k56_whole_answers_and_marks.main.body.getD i (.Pass ⟨0, 0, 0, 0⟩)
def bl : List Str := ["isinstance", "str", "all", "len", "tuple", "enumerate", "zip", "int", "abs", "divmod", "range", "bool", "list", "dict", "sorted", "min", "max"]
def gv : List (Str × D) := [("LETTERS", (.str [97, 98, 99, 100, 101, 102, 103, 104, 105, 106, 107, 108, 109, 110, 111, 112, 113, 114, 115, 116, 117, 118, 119, 120, 121, 122])), ("MOST_LETTERS", (.int 8)), ("RIGHT", (.int 2)), ("THERE", (.int 1))]
def sc0 : Scope := { kind := .function, names := [], isGenerator := false, isCoroutine := false }
/-- is_word -/
def b0 : List S := [.ret (.and (.op (.isi .str) [.var 0]) (.and (.op .ne [.var 0, .k (.str [])]) (.op .all [.comp [1] (.nm 1) (.val (.var 0)) none (.op .isin [.var 1, .gl [76, 69, 84, 84, 69, 82, 83] (.str [97, 98, 99, 100, 101, 102, 103, 104, 105, 106, 107, 108, 109, 110, 111, 112, 113, 114, 115, 116, 117, 118, 119, 120, 121, 122])])])))]
def fd0 : FunD := { np := 1, ns := 2, io := none, body := b0 }
def d0 : DefI := ⟨⟨"is_word", ["value"], none, [([], 1, [])]⟩, fd0, { N := ["value", "sign"], sc := sc0, own := none, bl := bl, gv := gv, fns := [] }, topS 3⟩
/-- is_letter -/
def b1 : List S := [.ret (.and (.call 0 none [.var 0] []) (.op .eq [.op .len [.var 0], .k (.int 1)]))]
def fd1 : FunD := { np := 1, ns := 1, io := none, body := b1 }
def d1 : DefI := ⟨⟨"is_letter", ["value"], none, [([], 1, [])]⟩, fd1, { N := ["value"], sc := sc0, own := none, bl := bl, gv := gv, fns := [] }, topS 4⟩
/-- is_letters -/
def b2 : List S := [.ret (.and (.call 0 none [.var 0] []) (.op .le [.op .len [.var 0], .gl [77, 79, 83, 84, 95, 76, 69, 84, 84, 69, 82, 83] (.int 8)]))]
def fd2 : FunD := { np := 1, ns := 1, io := none, body := b2 }
def d2 : DefI := ⟨⟨"is_letters", ["value"], none, [([], 1, [])]⟩, fd2, { N := ["value"], sc := sc0, own := none, bl := bl, gv := gv, fns := [] }, topS 5⟩
/-- check_word -/
def b3 : List S := [.ife (.not (.call 2 none [.var 0] [])) [.never] []]
def fd3 : FunD := { np := 1, ns := 1, io := none, body := b3 }
def d3 : DefI := ⟨⟨"check_word", ["word"], none, [([], 1, [])]⟩, fd3, { N := ["word"], sc := sc0, own := none, bl := bl, gv := gv, fns := [] }, topS 10⟩
/-- answer_by -/
def b4 : List S := [.ret (.op .tuple [.comp [2, 3] (.tupN [2, 3]) (.enum (.var 0)) (some (.op .eq [.var 3, .var 1])) (.var 2)])]
def fd4 : FunD := { np := 2, ns := 4, io := none, body := b4 }
def d4 : DefI := ⟨⟨"answer_by", ["word", "letter"], none, [([], 2, [])]⟩, fd4, { N := ["word", "letter", "at", "sign"], sc := sc0, own := none, bl := bl, gv := gv, fns := [] }, topS 14⟩
/-- marks_by -/
def b5 : List S := [.asg (.nm 2) (.comp [3, 4] (.tupN [3, 4]) (.zip (.var 0) (.var 1)) none (.ife (.op .eq [.var 3, .var 4]) (.gl [82, 73, 71, 72, 84] (.int 2)) (.k (.int 0)))),
  .asg (.nm 5) (.compo 2 (some 1) [6, 4] (.tupN [6, 4]) (some (.op .eq [.var 6, .k (.int 0)])) (.var 4)),
  .for (.tupN [7, 8]) (.enum (.var 0)) [.ife (.and (.op .eq [.op .ix [.var 2, .var 7], .k (.int 0)]) (.op .isin [.var 8, .var 5])) [.asg (.sub 2 (.var 7)) (.gl [84, 72, 69, 82, 69] (.int 1)), .expr (.meth .remove 5 [.var 8])] []],
  .ret (.op .tuple [.var 2])]
def fd5 : FunD := { np := 2, ns := 9, io := none, body := b5 }
def d5 : DefI := ⟨⟨"marks_by", ["word", "other"], none, [([], 2, [])]⟩, fd5, { N := ["word", "other", "found", "one", "two", "left", "mark", "at", "letter"], sc := sc0, own := none, bl := bl, gv := gv, fns := [] }, topS 15⟩
/-- answer -/
def b6 : List S := [.expr (.call 3 none [.var 0] []),
  .ife (.not (.call 1 none [.var 1] [])) [.never] [],
  .ret (.call 4 none [.var 0, .var 1] [])]
def fd6 : FunD := { np := 2, ns := 2, io := none, body := b6 }
def d6 : DefI := ⟨⟨"answer", ["word", "letter"], none, [([], 2, []), (["letter", "word"], 0, [1, 0])]⟩, fd6, { N := ["word", "letter"], sc := sc0, own := none, bl := bl, gv := gv, fns := [] }, topS 17⟩
/-- marks -/
def b7 : List S := [.expr (.call 3 none [.var 0] []),
  .expr (.call 3 none [.var 1] []),
  .ife (.op .ne [.op .len [.var 0], .op .len [.var 1]]) [.never] [],
  .ret (.call 5 none [.var 0, .var 1] [])]
def fd7 : FunD := { np := 2, ns := 2, io := none, body := b7 }
def d7 : DefI := ⟨⟨"marks", ["word", "other"], none, [([], 2, []), (["other", "word"], 0, [1, 0])]⟩, fd7, { N := ["word", "other"], sc := sc0, own := none, bl := bl, gv := gv, fns := [] }, topS 18⟩
/-- _law_well -/
def b8 : List S := [.asg (.nm 2) (.op .add [.k (.int 704969), .op .mul [.k (.int 6121), .var 1]]),
  .for (.nm 3) (.val (.sl false true (.var 0) (.k .non) (.k (.int 16)))) [.asg (.nm 2) (.op .mod [.op .int [.op .add [.op .add [.op .mul [.var 2, .k (.int 48271)], .op .mod [.op .int [.var 3], .k (.int 2147483549)]], .k (.int 23)]], .k (.int 2147483587)])],
  .asg (.nm 4) (.ife (.op .lt [.var 1, .op .len [.var 0]]) (.op .int [.op .ix [.var 0, .var 1]]) (.k (.int 0))),
  .asg (.nm 2) (.op .mod [.op .int [.op .add [.op .add [.op .mul [.var 2, .k (.int 53)], .op .mul [.op .mod [.op .int [.var 4], .k (.int 2147483549)], .k (.int 15013)]], .k (.int 11)]], .k (.int 2147483587)]),
  .ret (.lst [.ife (.or (.op .lt [.var 4, .k (.int 0)]) (.op .ge [.var 4, .op .pow [.k (.int 10), .k (.int 15)]])) (.op .abs [.var 4]) (.k (.int 0)), .var 2, .k (.int 0)])]
def fd8 : FunD := { np := 2, ns := 5, io := none, body := b8 }
def d8 : DefI := ⟨⟨"_law_well", ["script", "lap"], none, [([], 2, [])]⟩, fd8, { N := ["script", "lap", "stirred", "cell", "own"], sc := sc0, own := none, bl := bl, gv := gv, fns := [] }, topS 20⟩
/-- _law_draw -/
def b9 : List S := [.ife (.op .gt [.op .ix [.var 0, .k (.int 0)], .k (.int 0)]) [.asg (.tup [.sub 0 (.k (.int 0)), .nm 2]) (.op .divm [.op .ix [.var 0, .k (.int 0)], .var 1]), .ret (.var 2)] [],
  .asg (.sub 0 (.k (.int 2))) (.op .add [.op .ix [.var 0, .k (.int 2)], .k (.int 1)]),
  .asg (.nm 3) (.op .mod [.op .int [.op .add [.op .add [.op .mul [.op .ix [.var 0, .k (.int 1)], .k (.int 40009)], .op .mul [.k (.int 15013), .op .ix [.var 0, .k (.int 2)]]], .k (.int 3)]], .k (.int 2147483587)]),
  .asg (.sub 0 (.k (.int 1))) (.op .mod [.op .int [.op .add [.op .mul [.var 3, .op .add [.op .mod [.op .int [.var 3], .k (.int 5003)], .k (.int 20011)]], .op .ix [.var 0, .k (.int 2)]]], .k (.int 2147483587)]),
  .ret (.op .mod [.op .int [.op .fdiv [.op .ix [.var 0, .k (.int 1)], .k (.int 1031)]], .var 1])]
def fd9 : FunD := { np := 2, ns := 4, io := some 0, body := b9 }
def d9 : DefI := ⟨⟨"_law_draw", ["well", "limit"], some 0, [([], 2, [])]⟩, fd9, { N := ["well", "limit", "figure", "mixed"], sc := sc0, own := none, bl := bl, gv := gv, fns := [] }, topS 21⟩
/-- _law_of -/
def b10 : List S := [.ret (.op .ix [.var 1, .call 9 (some 0) [.var 0, .op .len [.var 1]] []])]
def fd10 : FunD := { np := 2, ns := 2, io := some 0, body := b10 }
def d10 : DefI := ⟨⟨"_law_of", ["well", "some"], some 0, [([], 2, [])]⟩, fd10, { N := ["well", "some"], sc := sc0, own := none, bl := bl, gv := gv, fns := [] }, topS 22⟩
/-- _law_same -/
def b11 : List S := [.ife (.op (.isi .tuple) [.var 1]) [.ife (.or (.not (.op (.isi .tuple) [.var 0])) (.op .ne [.op .len [.var 0], .op .len [.var 1]])) [.ret (.k (.bl false))] [], .ret (.op .all [.comp [2] (.nm 2) (.range [.op .len [.var 1]]) none (.call 11 none [.op .ix [.var 0, .var 2], .op .ix [.var 1, .var 2]] [])])] [],
  .ife (.op (.isi .bool) [.var 1]) [.ret (.and (.op (.isi .bool) [.var 0]) (.op .eq [.var 0, .var 1]))] [],
  .ife (.op (.isi .int) [.var 1]) [.ret (.and (.op (.isi .int) [.var 0]) (.and (.not (.op (.isi .bool) [.var 0])) (.op .eq [.var 0, .var 1])))] [],
  .ife (.op (.isi .str) [.var 1]) [.ret (.and (.op (.isi .str) [.var 0]) (.op .eq [.var 0, .var 1]))] [],
  .ife (.op .isN [.var 1]) [.ret (.op .isN [.var 0])] [],
  .asg (.nm 3) (.and (.op .eq [.op (.isi .list) [.var 0], .op (.isi .list) [.var 1]]) (.op .eq [.op (.isi .dict) [.var 0], .op (.isi .dict) [.var 1]])),
  .ret (.and (.var 3) (.and (.not (.op (.isi .tuple) [.var 0])) (.op .isTr [.op .eq [.var 0, .var 1]])))]
def fd11 : FunD := { np := 2, ns := 4, io := none, body := b11 }
def d11 : DefI := ⟨⟨"_law_same", ["one", "two"], none, [([], 2, [])]⟩, fd11, { N := ["one", "two", "k", "alike"], sc := sc0, own := none, bl := bl, gv := gv, fns := [] }, topS 23⟩
/-- _law_word -/
def b12 : List S := [.ret (.mop .join (.k (.str [])) [.comp [3] (.nm 3) (.range [.op .add [.k (.int 1), .call 9 (some 0) [.var 0, .var 2] []]]) none (.call 10 (some 0) [.var 0, .var 1] [])])]
def fd12 : FunD := { np := 3, ns := 4, io := some 0, body := b12 }
def d12 : DefI := ⟨⟨"_law_word", ["well", "letters", "most"], some 0, [([], 3, [])]⟩, fd12, { N := ["well", "letters", "most", "lap"], sc := sc0, own := none, bl := bl, gv := gv, fns := [] }, topS 24⟩
/-- _law_words -/
def b13 : List S := [.asg (.tupN [3, 4]) (.tup [.k (.str [97, 98, 99, 100, 101, 102, 103, 104, 105, 106, 107, 108, 109, 110, 111, 112, 113, 114, 115, 116, 117, 118, 119, 120, 121, 122]), .dct0]),
  .asg (.tupN [5, 6]) (.tup [.call 9 (some 0) [.var 0, .k (.int 26)] [], .call 10 (some 0) [.var 0, .tup [.k (.int 2), .k (.int 2), .k (.int 3), .k (.int 4)]] []]),
  .asg (.nm 7) (.comp [8] (.nm 8) (.range [.var 6]) none (.op .ix [.var 3, .op .mod [.op .int [.op .add [.var 5, .op .mul [.k (.int 5), .var 8]]], .k (.int 26)]])),
  .for (.nm 9) (.range [.var 1]) [.asg (.sub 4 (.call 12 (some 0) [.var 0, .var 7, .var 2] [])) (.k (.bl true))],
  .ret (.op .tuple [.op .sorted [.op .list [.var 4]]])]
def fd13 : FunD := { np := 3, ns := 10, io := some 0, body := b13 }
def d13 : DefI := ⟨⟨"_law_words", ["well", "many", "most"], some 0, [([], 3, [])]⟩, fd13, { N := ["well", "many", "most", "letters", "found", "off", "few", "own", "k", "lap"], sc := sc0, own := none, bl := bl, gv := gv, fns := [] }, topS 25⟩
/-- _law_places -/
def b14 : List S := [.ret (.op .tuple [.comp [2] (.nm 2) (.range [.op .len [.var 0]]) (some (.op .eq [.op .ix [.var 0, .var 2], .var 1])) (.var 2)])]
def fd14 : FunD := { np := 2, ns := 3, io := none, body := b14 }
def d14 : DefI := ⟨⟨"_law_places", ["word", "letter"], none, [([], 2, [])]⟩, fd14, { N := ["word", "letter", "k"], sc := sc0, own := none, bl := bl, gv := gv, fns := [] }, topS 26⟩
/-- _law_marks -/
def b15 : List S := [.asg (.nm 2) (.comp [3] (.nm 3) (.range [.op .len [.var 0]]) none (.ife (.op .eq [.op .ix [.var 0, .var 3], .op .ix [.var 1, .var 3]]) (.k (.int 2)) (.k (.int 0)))),
  .asg (.nm 4) (.comp [3] (.nm 3) (.range [.op .len [.var 0]]) (some (.op .eq [.op .ix [.var 2, .var 3], .k (.int 0)])) (.op .ix [.var 1, .var 3])),
  .for (.nm 3) (.range [.op .len [.var 0]]) [.ife (.and (.op .eq [.op .ix [.var 2, .var 3], .k (.int 0)]) (.op .isin [.op .ix [.var 0, .var 3], .var 4])) [.asg (.sub 2 (.var 3)) (.k (.int 1)), .expr (.meth .popAt 4 [.mop .lindex (.var 4) [.op .ix [.var 0, .var 3]]])] []],
  .ret (.op .tuple [.var 2])]
def fd15 : FunD := { np := 2, ns := 5, io := none, body := b15 }
def d15 : DefI := ⟨⟨"_law_marks", ["guess", "hidden"], none, [([], 2, [])]⟩, fd15, { N := ["guess", "hidden", "found", "k", "left"], sc := sc0, own := none, bl := bl, gv := gv, fns := [] }, topS 27⟩
/-- _law_right -/
def b16 : List S := [.asg (.nm 1) (.call 13 (some 0) [.var 0, .k (.int 6), .k (.int 8)] []),
  .asg (.nm 2) (.call 10 (some 0) [.var 0, .var 1] []),
  .for (.nm 3) (.val (.tup [.op .ix [.var 2, .k (.int 0)], .op .ix [.var 2, .op .neg [.k (.int 1)]], .call 10 (some 0) [.var 0, .k (.str [97, 98, 99, 100, 101, 102, 103, 104, 105, 106, 107, 108, 109, 110, 111, 112, 113, 114, 115, 116, 117, 118, 119, 120, 121, 122])] []])) [.asg (.nm 4) (.call 14 none [.var 2, .var 3] []), .ife (.not (.call 11 none [.tup [.call 6 none [.var 2, .var 3] [], .call 6 none [.var 3, .var 2] [1, 0]], .tup [.var 4, .var 4]] [])) [.ret (.k (.bl false))] []],
  .for (.nm 5) (.val (.op .add [.comp [6] (.nm 6) (.val (.var 1)) none (.sl false true (.op .mul [.var 6, .k (.int 8)]) (.k .non) (.op .len [.var 2])), .lst [.op .rev [.var 2], .var 2, .op .add [.sl true false (.var 2) (.k (.int 1)) (.k .non), .sl false true (.var 2) (.k .non) (.k (.int 1))]]])) [.asg (.nm 4) (.call 15 none [.var 2, .var 5] []), .ife (.not (.call 11 none [.tup [.call 7 none [.var 2, .var 5] [], .call 7 none [.var 5, .var 2] [1, 0]], .tup [.var 4, .var 4]] [])) [.ret (.k (.bl false))] [], .asg (.nm 7) (.comp [6] (.nm 6) (.val (.call 7 none [.var 5, .var 2] [])) (some (.op .gt [.var 6, .k (.int 0)])) (.var 6)), .ife (.or (.op .ne [.op .eq [.op .minB [.var 4], .k (.int 2)], .op .eq [.var 2, .var 5]]) (.op .ne [.op .len [.comp [6] (.nm 6) (.val (.var 4)) (some (.op .gt [.var 6, .k (.int 0)])) (.var 6)], .op .len [.var 7]])) [.ret (.k (.bl false))] []],
  .ret (.k (.bl true))]
def fd16 : FunD := { np := 1, ns := 8, io := some 0, body := b16 }
def d16 : DefI := ⟨⟨"_law_right", ["well"], some 0, [([], 1, [])]⟩, fd16, { N := ["well", "words", "word", "letter", "due", "other", "each", "back"], sc := sc0, own := none, bl := bl, gv := gv, fns := [] }, topS 28⟩
/-- law -/
def b17 : List S := [.asg (.nm 1) (.comp [2] (.nm 2) (.range [.op .maxB [.k (.int 1), .op .minB [.op .len [.var 0], .k (.int 3)]]]) none (.call 8 none [.var 0, .var 2] [])),
  .ret (.op .all [.comp [2] (.nm 2) (.range [.k (.int 15)]) none (.callp 16 1 (.op .mod [.op .int [.var 2], .op .len [.var 1]]))])]
def fd17 : FunD := { np := 1, ns := 3, io := none, body := b17 }
def d17 : DefI := ⟨⟨"law", ["script"], none, [([], 1, [])]⟩, fd17, { N := ["script", "wells", "lap"], sc := sc0, own := none, bl := bl, gv := gv, fns := [] }, topS 29⟩
def ds : List DefI := [d0, d1, d2, d3, d4, d5, d6, d7, d8, d9, d10, d11, d12, d13, d14, d15, d16, d17]
theorem ok0 : d0.ok ds = true := by decide +kernel
theorem ok1 : d1.ok ds = true := by decide +kernel
theorem ok2 : d2.ok ds = true := by decide +kernel
theorem ok3 : d3.ok ds = true := by decide +kernel
theorem ok4 : d4.ok ds = true := by decide +kernel
theorem ok5 : d5.ok ds = true := by decide +kernel
theorem ok6 : d6.ok ds = true := by decide +kernel
theorem ok7 : d7.ok ds = true := by decide +kernel
theorem ok8 : d8.ok ds = true := by decide +kernel
theorem ok9 : d9.ok ds = true := by decide +kernel
theorem ok10 : d10.ok ds = true := by decide +kernel
theorem ok11 : d11.ok ds = true := by decide +kernel
theorem ok12 : d12.ok ds = true := by decide +kernel
theorem ok13 : d13.ok ds = true := by decide +kernel
theorem ok14 : d14.ok ds = true := by decide +kernel
theorem ok15 : d15.ok ds = true := by decide +kernel
theorem ok16 : d16.ok ds = true := by decide +kernel
theorem ok17 : d17.ok ds = true := by decide +kernel
theorem ok : ∀ d ∈ ds, d.ok ds = true := all_cons ok0 (all_cons ok1 (all_cons ok2 (all_cons ok3 (all_cons ok4 (all_cons ok5 (all_cons ok6 (all_cons ok7 (all_cons ok8 (all_cons ok9 (all_cons ok10 (all_cons ok11 (all_cons ok12 (all_cons ok13 (all_cons ok14 (all_cons ok15 (all_cons ok16 (all_cons ok17 all_nil)))))))))))))))))
theorem okbl : ∀ d ∈ ds, d.cx.bl = bl ∧ d.cx.gv = gv := all_cons ⟨rfl, rfl⟩ (all_cons ⟨rfl, rfl⟩ (all_cons ⟨rfl, rfl⟩ (all_cons ⟨rfl, rfl⟩ (all_cons ⟨rfl, rfl⟩ (all_cons ⟨rfl, rfl⟩ (all_cons ⟨rfl, rfl⟩ (all_cons ⟨rfl, rfl⟩ (all_cons ⟨rfl, rfl⟩ (all_cons ⟨rfl, rfl⟩ (all_cons ⟨rfl, rfl⟩ (all_cons ⟨rfl, rfl⟩ (all_cons ⟨rfl, rfl⟩ (all_cons ⟨rfl, rfl⟩ (all_cons ⟨rfl, rfl⟩ (all_cons ⟨rfl, rfl⟩ (all_cons ⟨rfl, rfl⟩ (all_cons ⟨rfl, rfl⟩ all_nil)))))))))))))))))
theorem bd0_0 : BindC d0 ([], 1, []) := fun kV doc pm an cdv ct us ws vs l1 l2 eo => match us, l1, ws, l2, eo with | [u0], _, [], _, eo => by cases eo; rfl
theorem bd1_0 : BindC d1 ([], 1, []) := fun kV doc pm an cdv ct us ws vs l1 l2 eo => match us, l1, ws, l2, eo with | [u0], _, [], _, eo => by cases eo; rfl
theorem bd2_0 : BindC d2 ([], 1, []) := fun kV doc pm an cdv ct us ws vs l1 l2 eo => match us, l1, ws, l2, eo with | [u0], _, [], _, eo => by cases eo; rfl
theorem bd3_0 : BindC d3 ([], 1, []) := fun kV doc pm an cdv ct us ws vs l1 l2 eo => match us, l1, ws, l2, eo with | [u0], _, [], _, eo => by cases eo; rfl
theorem bd4_0 : BindC d4 ([], 2, []) := fun kV doc pm an cdv ct us ws vs l1 l2 eo => match us, l1, ws, l2, eo with | [u0, u1], _, [], _, eo => by cases eo; rfl
theorem bd5_0 : BindC d5 ([], 2, []) := fun kV doc pm an cdv ct us ws vs l1 l2 eo => match us, l1, ws, l2, eo with | [u0, u1], _, [], _, eo => by cases eo; rfl
theorem bd6_0 : BindC d6 ([], 2, []) := fun kV doc pm an cdv ct us ws vs l1 l2 eo => match us, l1, ws, l2, eo with | [u0, u1], _, [], _, eo => by cases eo; rfl
theorem bd6_1 : BindC d6 (["letter", "word"], 0, [1, 0]) := fun kV doc pm an cdv ct us ws vs l1 l2 eo => match us, l1, ws, l2, eo with | [], _, [w0, w1], _, eo => by cases eo; rfl
theorem bd7_0 : BindC d7 ([], 2, []) := fun kV doc pm an cdv ct us ws vs l1 l2 eo => match us, l1, ws, l2, eo with | [u0, u1], _, [], _, eo => by cases eo; rfl
theorem bd7_1 : BindC d7 (["other", "word"], 0, [1, 0]) := fun kV doc pm an cdv ct us ws vs l1 l2 eo => match us, l1, ws, l2, eo with | [], _, [w0, w1], _, eo => by cases eo; rfl
theorem bd8_0 : BindC d8 ([], 2, []) := fun kV doc pm an cdv ct us ws vs l1 l2 eo => match us, l1, ws, l2, eo with | [u0, u1], _, [], _, eo => by cases eo; rfl
theorem bd9_0 : BindC d9 ([], 2, []) := fun kV doc pm an cdv ct us ws vs l1 l2 eo => match us, l1, ws, l2, eo with | [u0, u1], _, [], _, eo => by cases eo; rfl
theorem bd10_0 : BindC d10 ([], 2, []) := fun kV doc pm an cdv ct us ws vs l1 l2 eo => match us, l1, ws, l2, eo with | [u0, u1], _, [], _, eo => by cases eo; rfl
theorem bd11_0 : BindC d11 ([], 2, []) := fun kV doc pm an cdv ct us ws vs l1 l2 eo => match us, l1, ws, l2, eo with | [u0, u1], _, [], _, eo => by cases eo; rfl
theorem bd12_0 : BindC d12 ([], 3, []) := fun kV doc pm an cdv ct us ws vs l1 l2 eo => match us, l1, ws, l2, eo with | [u0, u1, u2], _, [], _, eo => by cases eo; rfl
theorem bd13_0 : BindC d13 ([], 3, []) := fun kV doc pm an cdv ct us ws vs l1 l2 eo => match us, l1, ws, l2, eo with | [u0, u1, u2], _, [], _, eo => by cases eo; rfl
theorem bd14_0 : BindC d14 ([], 2, []) := fun kV doc pm an cdv ct us ws vs l1 l2 eo => match us, l1, ws, l2, eo with | [u0, u1], _, [], _, eo => by cases eo; rfl
theorem bd15_0 : BindC d15 ([], 2, []) := fun kV doc pm an cdv ct us ws vs l1 l2 eo => match us, l1, ws, l2, eo with | [u0, u1], _, [], _, eo => by cases eo; rfl
theorem bd16_0 : BindC d16 ([], 1, []) := fun kV doc pm an cdv ct us ws vs l1 l2 eo => match us, l1, ws, l2, eo with | [u0], _, [], _, eo => by cases eo; rfl
theorem bd17_0 : BindC d17 ([], 1, []) := fun kV doc pm an cdv ct us ws vs l1 l2 eo => match us, l1, ws, l2, eo with | [u0], _, [], _, eo => by cases eo; rfl
theorem bind : BindF ds := BindF.of (all_cons (all_cons bd0_0 all_nil) (all_cons (all_cons bd1_0 all_nil) (all_cons (all_cons bd2_0 all_nil) (all_cons (all_cons bd3_0 all_nil) (all_cons (all_cons bd4_0 all_nil) (all_cons (all_cons bd5_0 all_nil) (all_cons (all_cons bd6_0 (all_cons bd6_1 all_nil)) (all_cons (all_cons bd7_0 (all_cons bd7_1 all_nil)) (all_cons (all_cons bd8_0 all_nil) (all_cons (all_cons bd9_0 all_nil) (all_cons (all_cons bd10_0 all_nil) (all_cons (all_cons bd11_0 all_nil) (all_cons (all_cons bd12_0 all_nil) (all_cons (all_cons bd13_0 all_nil) (all_cons (all_cons bd14_0 all_nil) (all_cons (all_cons bd15_0 all_nil) (all_cons (all_cons bd16_0 all_nil) (all_cons (all_cons bd17_0 all_nil) all_nil))))))))))))))))))
abbrev T : List FunD := tabF ds
end K56

namespace K56
open PySem L2 WT
theorem s1 : WT.small64 40009 = true := by decide
theorem s2 : WT.small64 15013 = true := by decide
theorem small_mod (x : Int) : WT.small64 (x % 2147483587) = true := by
  have h1 := Int.emod_nonneg x (show (2147483587 : Int) ≠ 0 by decide)
  have h2 := Int.emod_lt_of_pos x (show (0 : Int) < 2147483587 by decide)
  unfold WT.small64
  simp only [Bool.and_eq_true, decide_eq_true_eq]
  omega
theorem draw (fuel n : Nat) (a b c l : Int) (h0 : 0 < l) (h1 : l < 1073741824) : ∃ r a' b' c', denF T fuel (n + 1) 9 [.lst [.int a, .int b, .int c], .int l] = some (.int r, true, some (.lst [.int a', .int b', .int c'])) ∧ 0 ≤ r ∧ r < l := by
  have e : ∀ xs, denF T fuel (n + 1) 9 xs = runF fd9 (denF T fuel n) fuel xs := fun _ => rfl
  by_cases ha : 0 < a
  · refine ⟨a % l, a / l, b, c, ?_, Int.emod_nonneg _ (by omega), Int.emod_lt_of_pos _ h0⟩
    rw [e]
    simp [fd9, b9, runF, evSs, evS, ev, evL, evI, evG, evGs, sSeq, sNx, dOp, mkDn, seqA, seqE, dVar, rd, getAll, Arg.get, prim, WT.settle, WT.imm, startE, tru, isBl, gnTup, gnAll, gnSub, gnNm, gnTupN, gnNms, setPrim, immL, immEl, frz1, frz, sRet, out, mkSl, dCall, ordL, isPl, dAnd, dOr, dNot, dIfe, dTup, dLst, dSl, part, slP, seqP, setP, dMop, recv, mprim, p_add, p_sub, p_mul, p_fdiv, p_mod, p_pow, p_neg, p_eq, p_ne, p_lt, p_le, p_gt, p_ge, p_isN, p_notN, p_isTr, p_ix, p_len, p_minB, p_maxB, p_abs, p_int, p_divm, p_list, p_tuple, p_isi, isT, atI, ixN, shal, shalL, deq, deqL, b2, isKey, ha, h0, h1]
  · rw [e]
    simp [fd9, b9, runF, evSs, evS, ev, evL, evI, evG, evGs, sSeq, sNx, dOp, mkDn, seqA, seqE, dVar, rd, getAll, Arg.get, prim, WT.settle, WT.imm, startE, tru, isBl, gnTup, gnAll, gnSub, gnNm, gnTupN, gnNms, setPrim, immL, immEl, frz1, frz, sRet, out, mkSl, dCall, ordL, isPl, dAnd, dOr, dNot, dIfe, dTup, dLst, dSl, part, slP, seqP, setP, dMop, recv, mprim, p_add, p_sub, p_mul, p_fdiv, p_mod, p_pow, p_neg, p_eq, p_ne, p_lt, p_le, p_gt, p_ge, p_isN, p_notN, p_isTr, p_ix, p_len, p_minB, p_maxB, p_abs, p_int, p_divm, p_list, p_tuple, p_isi, isT, atI, ixN, shal, shalL, deq, deqL, b2, isKey, ha, h0, h1, s1, s2, small_mod]
    exact ⟨Int.emod_nonneg _ (by omega), Int.emod_lt_of_pos _ h0⟩
end K56

namespace K56
open PySem L2 WT
theorem atI_of {α : Type} (xs : List α) (r : Int) (h0 : 0 ≤ r) (h1 : r < xs.length) : ∃ d, atI xs r = some d ∧ d ∈ xs := by
  have hr : r.toNat < xs.length := by omega
  refine ⟨xs[r.toNat], ?_, List.getElem_mem hr⟩
  unfold atI ixN
  rw [if_pos h0, if_pos h1]
  simp [hr]
theorem lawOf (fuel n : Nat) (a b c : Int) (L : D) (xs : List D) (hL : L = .lst xs ∨ L = .tup xs) (hx : xs ≠ []) (hl : xs.length < 1073741824) (hi : ∀ x ∈ xs, WT.imm x = true) :
    ∃ d a' b' c', denF T fuel (n + 2) 10 [.lst [.int a, .int b, .int c], L] = some (d, true, some (.lst [.int a', .int b', .int c'])) ∧ d ∈ xs := by
  have e : ∀ xs, denF T fuel (n + 2) 10 xs = runF fd10 (denF T fuel (n + 1)) fuel xs := fun _ => rfl
  have hp : 0 < xs.length := List.length_pos_iff.mpr hx
  obtain ⟨r, a', b', c', e1, r0, r1⟩ := draw fuel n a b c xs.length (by omega) (by omega)
  obtain ⟨d, ed, hd⟩ := atI_of xs r r0 r1
  have himm := hi d hd
  refine ⟨d, a', b', c', ?_, hd⟩
  rw [e]
  rcases hL with rfl | rfl
  · simp [fd10, b10, runF, evSs, evS, sRet, ev, evL, dOp, mkDn, seqA, dVar, rd, dCall, ordL, getAll, Arg.get, prim, p_len, startE, e1, WT.imm, isPl, p_ix, ed, WT.settle, himm, out, sSeq, sNx]
  · simp [fd10, b10, runF, evSs, evS, sRet, ev, evL, dOp, mkDn, seqA, dVar, rd, dCall, ordL, getAll, Arg.get, prim, p_len, startE, e1, WT.imm, isPl, p_ix, ed, WT.settle, himm, out, sSeq, sNx]
/-- a list of one-letter texts -/
def lets (ls : List Nat) : List D := ls.map fun c => .str [c]
theorem imm_lets (ls : List Nat) : ∀ x ∈ lets ls, WT.imm x = true := by
  intro x hx
  simp only [lets, List.mem_map] at hx
  obtain ⟨c, _, rfl⟩ := hx
  rfl
theorem wordLoop (fuel n : Nat) (ls : List Nat) (m : D) (hx : ls ≠ []) (hl : ls.length < 1073741824) : ∀ (items : List Int) (acc : List Nat) (a b c : Int) (s : Sl), acc.length + items.length ≤ 100 →
    ∃ new a' b' c' s', compL [3] (evG (Pm (denF T fuel (n + 2)) (some 0) fuel) (.nm 3)) tYesE (ev (Pm (denF T fuel (n + 2)) (some 0) fuel) (.call 10 (some 0) [.var 0, .var 1] [])) (lets acc) true (items.map .int) [.own (.lst [.int a, .int b, .int c]), .val (.lst (lets ls)), .val m, s] =
      some (lets (acc ++ new), true, [.own (.lst [.int a', .int b', .int c']), .val (.lst (lets ls)), .val m, s']) ∧ new.length = items.length ∧ ∀ x ∈ new, x ∈ ls
  | [], acc, a, b, c, s, _ => ⟨[], a, b, c, s, by simp [compL], rfl, by simp⟩
  | i :: items, acc, a, b, c, s, hz => by
    obtain ⟨d, a1, b1, c1, e1, hd⟩ := lawOf fuel n a b c (.lst (lets ls)) (lets ls) (.inl rfl) (by simpa [lets] using hx) (by simpa [lets] using hl) (imm_lets ls)
    simp only [lets, List.mem_map] at hd
    obtain ⟨x, hxm, rfl⟩ := hd
    simp only [List.length_cons] at hz
    obtain ⟨new, a', b', c', s', e2, h1, h2⟩ := wordLoop fuel n ls m hx hl items (acc ++ [x]) a1 b1 c1 (.val (.int i)) (by simp; omega)
    refine ⟨x :: new, a', b', c', s', ?_, by simp [h1], fun y hy => ?_⟩
    · have hacc : acc.length < line := by unfold line; omega
      have e3 : lets (acc ++ [x]) = lets acc ++ [.str [x]] := by simp [lets]
      have hll : (lets acc).length = acc.length := by simp [lets]
      rw [e3] at e2
      simp only [List.append_assoc, List.singleton_append] at e2
      refine (compL_cons (Γ1 := [.own (.lst [.int a, .int b, .int c]), .val (.lst (lets ls)), .val m, .val (.int i)]) (Γ2 := [.own (.lst [.int a, .int b, .int c]), .val (.lst (lets ls)), .val m, .val (.int i)]) (x := .str [x]) (fx := true) (Γ3 := [.own (.lst [.int a1, .int b1, .int c1]), .val (.lst (lets ls)), .val m, .val (.int i)]) ?_ rfl ?_ (by rw [hll]; exact hacc)).trans e2
      · simp [wipeE, ev_k, ev_gl, ev_var, ev_op, ev_tup, ev_lst, ev_dct0, ev_sl, ev_mop, ev_and, ev_or, ev_not, ev_ife, ev_call, evL_nil, evL_cons, evG_nm, evG_tupN, evG_tup, evG_sub, evGs_nil, evGs_cons, Pm_F, Pm_io, Pm_fuel, mkDn, seqA, seqE, dVar, dOp, rd, getAll, Arg.get, prim, WT.settle, WT.imm, tru, isBl, gnTup, gnAll, gnSub, gnNm, gnTupN, gnNms, setPrim, immL, immEl, frz1, frz, sRet, mkSl, dCall, ordL, isPl, dAnd, dOr, dNot, dIfe, dTup, dLst, dSl, part, slP, seqP, setP, dMop, recv, mprim]
      · simp [ev_k, ev_gl, ev_var, ev_op, ev_tup, ev_lst, ev_dct0, ev_sl, ev_mop, ev_and, ev_or, ev_not, ev_ife, ev_call, evL_nil, evL_cons, evG_nm, evG_tupN, evG_tup, evG_sub, evGs_nil, evGs_cons, Pm_F, Pm_io, Pm_fuel, mkDn, seqA, seqE, dVar, dOp, rd, getAll, Arg.get, prim, WT.settle, WT.imm, tru, isBl, gnTup, gnAll, gnSub, gnNm, gnTupN, gnNms, setPrim, immL, immEl, frz1, frz, sRet, mkSl, dCall, ordL, isPl, dAnd, dOr, dNot, dIfe, dTup, dLst, dSl, part, slP, seqP, setP, dMop, recv, mprim, e1]
    · rcases List.mem_cons.mp hy with rfl | hy
      · exact hxm
      · exact h2 y hy
theorem joinS_lets : ∀ (ls : List Nat), joinS [] (ls.map fun c => [c]) = ls
  | [] => rfl
  | [x] => rfl
  | x :: y :: r => by
    have := joinS_lets (y :: r)
    simp only [List.map_cons] at this ⊢
    simp only [joinS, List.nil_append]
    rw [this]
    rfl
theorem asStrs_lets : ∀ (ls : List Nat), asStrs (lets ls) = some (ls.map fun c => [c])
  | [] => rfl
  | x :: r => by
    have := asStrs_lets r
    simp only [lets] at this
    simp [lets, asStrs, this]
theorem sum_ones : ∀ (ls : List Nat), ((ls.map fun c => [c]).map List.length).sum = ls.length
  | [] => rfl
  | x :: r => by
    have := sum_ones r
    simp only [List.map_map] at this
    simp [this]; omega
theorem rangeInts_len (lo : Int) (n : Nat) : ((rangeL lo n).map D.int).length = n := by rw [List.length_map, rangeL_length]
theorem lawWord (fuel n : Nat) (ls : List Nat) (m : Int) (hx : ls ≠ []) (hl : ls.length < 1073741824) (hm : 0 < m) (hm2 : m ≤ 8) (a b c : Int) :
    ∃ s a' b' c', denF T fuel (n + 3) 12 [.lst [.int a, .int b, .int c], .lst (lets ls), .int m] = some (.str s, true, some (.lst [.int a', .int b', .int c'])) ∧ 1 ≤ s.length ∧ (s.length : Int) ≤ m ∧ ∀ x ∈ s, x ∈ ls := by
  obtain ⟨r, a1, b1, c1, e1, r0, r1⟩ := draw fuel (n + 1) a b c m (by omega) (by omega)
  obtain ⟨new, a', b', c', s', e2, h1, h2⟩ := wordLoop fuel n ls (.int m) hx hl (rangeL 0 (1 + r).toNat) [] a1 b1 c1 .un (by rw [rangeL_length]; simp; omega)
  rw [rangeL_length] at h1
  refine ⟨new, a', b', c', ?_, by omega, by omega, h2⟩
  have hb : (1 + r).natAbs < 2 ^ 60 := by omega
  have hs : (List.map (List.length ∘ fun c => [c]) new).sum = new.length := by rw [← List.map_map]; exact sum_ones new
  have ha := asStrs_lets new
  have hj := joinS_lets new
  have hline : new.length ≤ line := by unfold line; omega
  rw [den_of (fd := fd12) rfl rfl]
  have hc := comp_a (comp_e (P := Pm (denF T fuel (n + 2)) (some 0) fuel) (vs := [3]) (tg := .nm 3) (it := .range [.op .add [.k (.int 1), .call 9 (some 0) [.var 0, .var 2] []]]) (e := .call 10 (some 0) [.var 0, .var 1] [])
    (Γ := [.own (.lst [.int a, .int b, .int c]), .val (.lst (lets ls)), .val (.int m), .un]) (by
      simp [evI_range, inRange, ev_k, ev_gl, ev_var, ev_op, ev_tup, ev_lst, ev_dct0, ev_sl, ev_mop, ev_and, ev_or, ev_not, ev_ife, ev_call, evL_nil, evL_cons, evG_nm, evG_tupN, evG_tup, evG_sub, evGs_nil, evGs_cons, Pm_F, Pm_io, Pm_fuel, mkDn, seqA, seqE, dVar, dOp, rd, getAll, Arg.get, prim, WT.settle, WT.imm, tru, isBl, gnTup, gnAll, gnSub, gnNm, gnTupN, gnNms, setPrim, immL, immEl, frz1, frz, sRet, mkSl, dCall, ordL, isPl, dAnd, dOr, dNot, dIfe, dTup, dLst, dSl, part, slP, seqP, setP, dMop, recv, mprim, p_add, p_sub, p_mul, p_fdiv, p_mod, p_pow, p_neg, p_eq, p_ne, p_lt, p_le, p_gt, p_ge, p_isN, p_notN, p_isTr, p_ix, p_len, p_minB, p_maxB, p_abs, p_int, p_divm, p_list, p_tuple, p_isi, isT, atI, ixN, shal, shalL, deq, deqL, b2, isKey, e1, rangeD, hb]) rfl e2)
  simp only [fd12, b12, startE, fin, evS_expr, evS_ret, evS_asg, evS_par, evS_ife, evS_never, evSs_nil, evSs_cons, sRet, ev_mop, evL_cons, evL_nil, ev_k, mkDn, dMop, Option.bind_some, Option.map_some, Arg.get, recv, if_true, seqA, List.length_cons, List.length_nil]
  simp [hc, getAll, Arg.get, mprim, m_join, ha, hs, hj, hline, WT.settle, WT.imm, out, backE]
end K56

namespace K56
open PySem L2 WT
def LET : List Nat := [97, 98, 99, 100, 101, 102, 103, 104, 105, 106, 107, 108, 109, 110, 111, 112, 113, 114, 115, 116, 117, 118, 119, 120, 121, 122]
structure GW (s : List Nat) : Prop where
  pos : 1 ≤ s.length
  le : s.length ≤ 8
  al : ∀ c ∈ s, c ∈ LET
theorem GW.line {s : List Nat} (h : GW s) : s.length ≤ line := by have := h.le; unfold WT.line; omega
def sgs (w : List Nat) : List D := w.map fun c => .str [c]
theorem sgs_len (w : List Nat) : (sgs w).length = w.length := by simp [sgs]
theorem isWord (fuel n : Nat) (s : List Nat) (h : GW s) : denF T fuel (n + 1) 0 [.str s] = some (.bl true, true, none) := by
  rw [den_of (fd := fd0) rfl rfl]
  have hc := comp_a (comp_pure (P := Pm (denF T fuel n) none fuel) (vs := [1]) (tg := .nm 1) (it := .val (.var 0)) (e := .op .isin [.var 1, .gl [76, 69, 84, 84, 69, 82, 83] (.str LET)])
    (Γ := [.val (.str s), .un]) (Γ1 := [.val (.str s), .un]) (ds := sgs s) (fun _ => .bl true) (by simp [evI_val, inVal, ev_k, ev_gl, ev_var, ev_op, ev_tup, ev_lst, ev_dct0, ev_sl, ev_mop, ev_and, ev_or, ev_not, ev_ife, ev_call, evL_nil, evL_cons, evG_nm, evG_tupN, evG_tup, evG_sub, evGs_nil, evGs_cons, Pm_F, Pm_io, Pm_fuel, mkDn, seqA, seqE, dVar, dOp, rd, getAll, Arg.get, prim, WT.settle, WT.imm, tru, isBl, gnTup, gnAll, gnSub, gnNm, gnTupN, gnNms, setPrim, immL, immEl, frz1, frz, sRet, mkSl, dCall, ordL, isPl, dAnd, dOr, dNot, dIfe, dTup, dLst, dSl, part, slP, seqP, setP, dMop, recv, mprim, items, sgs]) rfl (by simpa [sgs] using h.line) (fun d hd => by
      obtain ⟨c, hc, rfl⟩ := List.mem_map.mp hd
      have hc : c ∈ LET := h.al c hc
      refine ⟨[.val (.str s), .val (.str [c])], ?_, ?_, rfl⟩
      · simp [wipeE, ev_k, ev_gl, ev_var, ev_op, ev_tup, ev_lst, ev_dct0, ev_sl, ev_mop, ev_and, ev_or, ev_not, ev_ife, ev_call, evL_nil, evL_cons, evG_nm, evG_tupN, evG_tup, evG_sub, evGs_nil, evGs_cons, Pm_F, Pm_io, Pm_fuel, mkDn, seqA, seqE, dVar, dOp, rd, getAll, Arg.get, prim, WT.settle, WT.imm, tru, isBl, gnTup, gnAll, gnSub, gnNm, gnTupN, gnNms, setPrim, immL, immEl, frz1, frz, sRet, mkSl, dCall, ordL, isPl, dAnd, dOr, dNot, dIfe, dTup, dLst, dSl, part, slP, seqP, setP, dMop, recv, mprim]
      · simp [ev_k, ev_gl, ev_var, ev_op, ev_tup, ev_lst, ev_dct0, ev_sl, ev_mop, ev_and, ev_or, ev_not, ev_ife, ev_call, evL_nil, evL_cons, evG_nm, evG_tupN, evG_tup, evG_sub, evGs_nil, evGs_cons, Pm_F, Pm_io, Pm_fuel, mkDn, seqA, seqE, dVar, dOp, rd, getAll, Arg.get, prim, WT.settle, WT.imm, tru, isBl, gnTup, gnAll, gnSub, gnNm, gnTupN, gnNms, setPrim, immL, immEl, frz1, frz, sRet, mkSl, dCall, ordL, isPl, dAnd, dOr, dNot, dIfe, dTup, dLst, dSl, part, slP, seqP, setP, dMop, recv, mprim, p_isin, hc]))
  have hb : asBls ((sgs s).map fun _ => D.bl true) = some ((sgs s).map fun _ => true) := asBls_map (fun _ => true) _
  have hs : s ≠ [] := fun z => by have := h.pos; rw [z] at this; simp at this
  have hs2 : (s == []) = false := by simpa using hs
  have ha : ((sgs s).map fun _ => true).all id = true := by simp
  unfold LET at hc
  simp only [fd0, b0, startE, fin, evS_expr, evS_ret, evS_asg, evS_par, evS_ife, evS_never, evSs_nil, evSs_cons, sRet, ev_and, ev_op, evL_cons, evL_nil]
  simp [hc, ev_k, ev_gl, ev_var, ev_op, ev_tup, ev_lst, ev_dct0, ev_sl, ev_mop, ev_and, ev_or, ev_not, ev_ife, ev_call, evL_nil, evL_cons, evG_nm, evG_tupN, evG_tup, evG_sub, evGs_nil, evGs_cons, Pm_F, Pm_io, Pm_fuel, mkDn, seqA, seqE, dVar, dOp, rd, getAll, Arg.get, prim, WT.settle, WT.imm, tru, isBl, gnTup, gnAll, gnSub, gnNm, gnTupN, gnNms, setPrim, immL, immEl, frz1, frz, sRet, mkSl, dCall, ordL, isPl, dAnd, dOr, dNot, dIfe, dTup, dLst, dSl, part, slP, seqP, setP, dMop, recv, mprim, p_add, p_sub, p_mul, p_fdiv, p_mod, p_pow, p_neg, p_eq, p_ne, p_lt, p_le, p_gt, p_ge, p_isN, p_notN, p_isTr, p_ix, p_len, p_minB, p_maxB, p_abs, p_int, p_divm, p_list, p_tuple, p_isi, isT, atI, ixN, shal, shalL, deq, deqL, b2, isKey, p_all, hb, out, backE, hs2, hs, startE, ha]
theorem isLetters (fuel n : Nat) (s : List Nat) (h : GW s) : denF T fuel (n + 2) 2 [.str s] = some (.bl true, true, none) := by
  have e := isWord fuel n s h
  have h1 : s.length ≤ line := h.line
  have h2 : (s.length : Int) ≤ 8 := by have := h.le; omega
  rw [den_of (fd := fd2) rfl rfl]
  simp [fd2, b2, startE, fin, evS_expr, evS_ret, evS_asg, evS_par, evS_ife, evS_never, evSs_nil, evSs_cons, ev_k, ev_gl, ev_var, ev_op, ev_tup, ev_lst, ev_dct0, ev_sl, ev_mop, ev_and, ev_or, ev_not, ev_ife, ev_call, evL_nil, evL_cons, evG_nm, evG_tupN, evG_tup, evG_sub, evGs_nil, evGs_cons, Pm_F, Pm_io, Pm_fuel, mkDn, seqA, seqE, dVar, dOp, rd, getAll, Arg.get, prim, WT.settle, WT.imm, tru, isBl, gnTup, gnAll, gnSub, gnNm, gnTupN, gnNms, setPrim, immL, immEl, frz1, frz, sRet, mkSl, dCall, ordL, isPl, dAnd, dOr, dNot, dIfe, dTup, dLst, dSl, part, slP, seqP, setP, dMop, recv, mprim, p_add, p_sub, p_mul, p_fdiv, p_mod, p_pow, p_neg, p_eq, p_ne, p_lt, p_le, p_gt, p_ge, p_isN, p_notN, p_isTr, p_ix, p_len, p_minB, p_maxB, p_abs, p_int, p_divm, p_list, p_tuple, p_isi, isT, atI, ixN, shal, shalL, deq, deqL, b2, isKey, e, out, h1, h2]
theorem isLetter (fuel n : Nat) (c : Nat) (h : c ∈ LET) : denF T fuel (n + 2) 1 [.str [c]] = some (.bl true, true, none) := by
  have e := isWord fuel n [c] ⟨by simp, by simp, fun x hx => by simp at hx; rw [hx]; exact h⟩
  have l1 : 1 ≤ line := by decide
  rw [den_of (fd := fd1) rfl rfl]
  simp [fd1, b1, startE, fin, evS_expr, evS_ret, evS_asg, evS_par, evS_ife, evS_never, evSs_nil, evSs_cons, ev_k, ev_gl, ev_var, ev_op, ev_tup, ev_lst, ev_dct0, ev_sl, ev_mop, ev_and, ev_or, ev_not, ev_ife, ev_call, evL_nil, evL_cons, evG_nm, evG_tupN, evG_tup, evG_sub, evGs_nil, evGs_cons, Pm_F, Pm_io, Pm_fuel, mkDn, seqA, seqE, dVar, dOp, rd, getAll, Arg.get, prim, WT.settle, WT.imm, tru, isBl, gnTup, gnAll, gnSub, gnNm, gnTupN, gnNms, setPrim, immL, immEl, frz1, frz, sRet, mkSl, dCall, ordL, isPl, dAnd, dOr, dNot, dIfe, dTup, dLst, dSl, part, slP, seqP, setP, dMop, recv, mprim, p_add, p_sub, p_mul, p_fdiv, p_mod, p_pow, p_neg, p_eq, p_ne, p_lt, p_le, p_gt, p_ge, p_isN, p_notN, p_isTr, p_ix, p_len, p_minB, p_maxB, p_abs, p_int, p_divm, p_list, p_tuple, p_isi, isT, atI, ixN, shal, shalL, deq, deqL, b2, isKey, e, out, l1]
theorem checkWord (fuel n : Nat) (s : List Nat) (h : GW s) : denF T fuel (n + 3) 3 [.str s] = some (.non, true, none) := by
  have e := isLetters fuel n s h
  rw [den_of (fd := fd3) rfl rfl]
  simp [fd3, b3, startE, fin, evS_expr, evS_ret, evS_asg, evS_par, evS_ife, evS_never, evSs_nil, evSs_cons, ev_k, ev_gl, ev_var, ev_op, ev_tup, ev_lst, ev_dct0, ev_sl, ev_mop, ev_and, ev_or, ev_not, ev_ife, ev_call, evL_nil, evL_cons, evG_nm, evG_tupN, evG_tup, evG_sub, evGs_nil, evGs_cons, Pm_F, Pm_io, Pm_fuel, mkDn, seqA, seqE, dVar, dOp, rd, getAll, Arg.get, prim, WT.settle, WT.imm, tru, isBl, gnTup, gnAll, gnSub, gnNm, gnTupN, gnNms, setPrim, immL, immEl, frz1, frz, sRet, mkSl, dCall, ordL, isPl, dAnd, dOr, dNot, dIfe, dTup, dLst, dSl, part, slP, seqP, setP, dMop, recv, mprim, p_add, p_sub, p_mul, p_fdiv, p_mod, p_pow, p_neg, p_eq, p_ne, p_lt, p_le, p_gt, p_ge, p_isN, p_notN, p_isTr, p_ix, p_len, p_minB, p_maxB, p_abs, p_int, p_divm, p_list, p_tuple, p_isi, isT, atI, ixN, shal, shalL, deq, deqL, b2, isKey, e, out]
/-! ### where a letter stands -/
def at_ (w : List Nat) (k : Nat) : Nat := w.getD k 0
def plc (w : List Nat) (l : Nat) : List Nat := (List.range w.length).filter fun k => at_ w k == l
theorem enum_eq (w : List Nat) : enumD 0 (sgs w) = (List.range w.length).map fun (k : Nat) => D.tup [.int (k : Int), .str [at_ w k]] := by
  apply List.ext_getElem?
  intro i
  rcases Nat.lt_or_ge i w.length with h | h
  · have e1 : (sgs w)[i]? = some (.str [at_ w i]) := by
      rw [sgs, List.getElem?_map, List.getElem?_eq_getElem h]
      simp [at_, h]
    rw [enumD_get e1, List.getElem?_map, List.getElem?_range h]
    simp
  · rw [List.getElem?_eq_none (by rw [enumD_len, sgs_len]; exact h), List.getElem?_eq_none (by simpa using h)]
theorem at_get {w : List Nat} {k : Nat} (h : k < w.length) : atI w (k : Int) = some (at_ w k) := by
  unfold atI ixN
  rw [if_pos (by omega), if_pos (by omega)]
  simp [at_, h]
def p1 (l : Nat) : D → Bool
  | .tup [_, .str s] => s == [l]
  | _ => false
def f1 : D → D
  | .tup [a, _] => a
  | _ => .non
def p2 (w : List Nat) (l : Nat) : D → Bool
  | .int k => at_ w k.toNat == l
  | _ => false
theorem answerBy (fuel n : Nat) (w : List Nat) (l : Nat) (hw : GW w) : denF T fuel (n + 1) 4 [.str w, .str [l]] = some (.tup ((plc w l).map fun (k : Nat) => .int (k : Int)), true, none) := by
  have l1 := hw.line
  have hc := comp_a (compf_pure (P := Pm (denF T fuel n) none fuel) (vs := [2, 3]) (tg := .tupN [2, 3]) (it := .enum (.var 0)) (c := .op .eq [.var 3, .var 1]) (e := .var 2)
    (Γ := [.val (.str w), .val (.str [l]), .un, .un]) (Γ1 := [.val (.str w), .val (.str [l]), .un, .un]) (ds := enumD 0 (sgs w)) (p1 l) f1 (by
      simp [evI_enum, inEnum, ev_k, ev_gl, ev_var, ev_op, ev_tup, ev_lst, ev_dct0, ev_sl, ev_mop, ev_and, ev_or, ev_not, ev_ife, ev_call, evL_nil, evL_cons, evG_nm, evG_tupN, evG_tup, evG_sub, evGs_nil, evGs_cons, Pm_F, Pm_io, Pm_fuel, mkDn, seqA, seqE, dVar, dOp, rd, getAll, Arg.get, prim, WT.settle, WT.imm, tru, isBl, gnTup, gnAll, gnSub, gnNm, gnTupN, gnNms, setPrim, immL, immEl, frz1, frz, sRet, mkSl, dCall, ordL, isPl, dAnd, dOr, dNot, dIfe, dTup, dLst, dSl, part, slP, seqP, setP, dMop, recv, mprim, items, sgs]) rfl (by rw [enumD_len, sgs_len]; exact l1) (fun d hd => by
      rw [enum_eq] at hd
      obtain ⟨k, hk, rfl⟩ := List.mem_map.mp hd
      refine ⟨[.val (.str w), .val (.str [l]), .val (.int k), .val (.str [at_ w k])], by simp [wipeE, ev_k, ev_gl, ev_var, ev_op, ev_tup, ev_lst, ev_dct0, ev_sl, ev_mop, ev_and, ev_or, ev_not, ev_ife, ev_call, evL_nil, evL_cons, evG_nm, evG_tupN, evG_tup, evG_sub, evGs_nil, evGs_cons, Pm_F, Pm_io, Pm_fuel, mkDn, seqA, seqE, dVar, dOp, rd, getAll, Arg.get, prim, WT.settle, WT.imm, tru, isBl, gnTup, gnAll, gnSub, gnNm, gnTupN, gnNms, setPrim, immL, immEl, frz1, frz, sRet, mkSl, dCall, ordL, isPl, dAnd, dOr, dNot, dIfe, dTup, dLst, dSl, part, slP, seqP, setP, dMop, recv, mprim], by simp [ev_k, ev_gl, ev_var, ev_op, ev_tup, ev_lst, ev_dct0, ev_sl, ev_mop, ev_and, ev_or, ev_not, ev_ife, ev_call, evL_nil, evL_cons, evG_nm, evG_tupN, evG_tup, evG_sub, evGs_nil, evGs_cons, Pm_F, Pm_io, Pm_fuel, mkDn, seqA, seqE, dVar, dOp, rd, getAll, Arg.get, prim, WT.settle, WT.imm, tru, isBl, gnTup, gnAll, gnSub, gnNm, gnTupN, gnNms, setPrim, immL, immEl, frz1, frz, sRet, mkSl, dCall, ordL, isPl, dAnd, dOr, dNot, dIfe, dTup, dLst, dSl, part, slP, seqP, setP, dMop, recv, mprim, p_eq, shal, deq, p1], fun _ => by simp [ev_k, ev_gl, ev_var, ev_op, ev_tup, ev_lst, ev_dct0, ev_sl, ev_mop, ev_and, ev_or, ev_not, ev_ife, ev_call, evL_nil, evL_cons, evG_nm, evG_tupN, evG_tup, evG_sub, evGs_nil, evGs_cons, Pm_F, Pm_io, Pm_fuel, mkDn, seqA, seqE, dVar, dOp, rd, getAll, Arg.get, prim, WT.settle, WT.imm, tru, isBl, gnTup, gnAll, gnSub, gnNm, gnTupN, gnNms, setPrim, immL, immEl, frz1, frz, sRet, mkSl, dCall, ordL, isPl, dAnd, dOr, dNot, dIfe, dTup, dLst, dSl, part, slP, seqP, setP, dMop, recv, mprim, f1], rfl⟩))
  have he : ((enumD 0 (sgs w)).filter (p1 l)).map f1 = (plc w l).map fun (k : Nat) => D.int (k : Int) := by
    rw [enum_eq, List.filter_map, List.map_map, plc]
    have : (p1 l ∘ fun (k : Nat) => D.tup [.int (k : Int), .str [at_ w k]]) = fun k => at_ w k == l := by
      funext k
      show ([at_ w k] == [l]) = _
      simp
    rw [this]
    rfl
  have hi : immL ((plc w l).map fun (k : Nat) => D.int (k : Int)) = true := by
    induction plc w l with
    | nil => rfl
    | cons a r ih => simp [immL, WT.imm, ih]
  refine ret1 (fd := fd4) (Γ := [.val (.str w), .val (.str [l]), .un, .un]) (Γ' := [.val (.str w), .val (.str [l]), .un, .un]) rfl rfl rfl rfl rfl rfl ?_
  rw [he] at hc
  refine op_e (args := [.v (.lst ((plc w l).map fun (k : Nat) => .int (k : Int))) true]) (Γ1 := [.val (.str w), .val (.str [l]), .un, .un]) (ds := [.lst ((plc w l).map fun (k : Nat) => .int (k : Int))]) (d := .tup ((plc w l).map fun (k : Nat) => .int (k : Int))) (top := true) ?_ rfl rfl ?_
  · simp only [evL_cons, evL_nil, seqA, hc, Option.bind_some, Option.map_some]
  · simp [WT.settle, immEl, hi]
theorem lawPlaces (fuel n : Nat) (w : List Nat) (l : Nat) (hw : GW w) : denF T fuel (n + 1) 14 [.str w, .str [l]] = some (.tup ((plc w l).map fun (k : Nat) => .int (k : Int)), true, none) := by
  have l1 := hw.line
  have hb : w.length < 2 ^ 60 := by have := hw.le; omega
  have hc := comp_a (compf_pure (P := Pm (denF T fuel n) none fuel) (vs := [2]) (tg := .nm 2) (it := .range [.op .len [.var 0]]) (c := .op .eq [.op .ix [.var 0, .var 2], .var 1]) (e := .var 2)
    (Γ := [.val (.str w), .val (.str [l]), .un]) (Γ1 := [.val (.str w), .val (.str [l]), .un]) (ds := (rangeL 0 w.length).map .int) (p2 w l) id (by
      simp [evI_range, inRange, ev_k, ev_gl, ev_var, ev_op, ev_tup, ev_lst, ev_dct0, ev_sl, ev_mop, ev_and, ev_or, ev_not, ev_ife, ev_call, evL_nil, evL_cons, evG_nm, evG_tupN, evG_tup, evG_sub, evGs_nil, evGs_cons, Pm_F, Pm_io, Pm_fuel, mkDn, seqA, seqE, dVar, dOp, rd, getAll, Arg.get, prim, WT.settle, WT.imm, tru, isBl, gnTup, gnAll, gnSub, gnNm, gnTupN, gnNms, setPrim, immL, immEl, frz1, frz, sRet, mkSl, dCall, ordL, isPl, dAnd, dOr, dNot, dIfe, dTup, dLst, dSl, part, slP, seqP, setP, dMop, recv, mprim, p_len, l1, rangeD, hb]) rfl (by rw [List.length_map, rangeL_length]; exact l1) (fun d hd => by
      rw [range0] at hd
      obtain ⟨k, hk, rfl⟩ := List.mem_map.mp hd
      have hk : k < w.length := by simpa using hk
      refine ⟨[.val (.str w), .val (.str [l]), .val (.int k)], by simp [wipeE, ev_k, ev_gl, ev_var, ev_op, ev_tup, ev_lst, ev_dct0, ev_sl, ev_mop, ev_and, ev_or, ev_not, ev_ife, ev_call, evL_nil, evL_cons, evG_nm, evG_tupN, evG_tup, evG_sub, evGs_nil, evGs_cons, Pm_F, Pm_io, Pm_fuel, mkDn, seqA, seqE, dVar, dOp, rd, getAll, Arg.get, prim, WT.settle, WT.imm, tru, isBl, gnTup, gnAll, gnSub, gnNm, gnTupN, gnNms, setPrim, immL, immEl, frz1, frz, sRet, mkSl, dCall, ordL, isPl, dAnd, dOr, dNot, dIfe, dTup, dLst, dSl, part, slP, seqP, setP, dMop, recv, mprim], ?_, fun _ => by simp [ev_k, ev_gl, ev_var, ev_op, ev_tup, ev_lst, ev_dct0, ev_sl, ev_mop, ev_and, ev_or, ev_not, ev_ife, ev_call, evL_nil, evL_cons, evG_nm, evG_tupN, evG_tup, evG_sub, evGs_nil, evGs_cons, Pm_F, Pm_io, Pm_fuel, mkDn, seqA, seqE, dVar, dOp, rd, getAll, Arg.get, prim, WT.settle, WT.imm, tru, isBl, gnTup, gnAll, gnSub, gnNm, gnTupN, gnNms, setPrim, immL, immEl, frz1, frz, sRet, mkSl, dCall, ordL, isPl, dAnd, dOr, dNot, dIfe, dTup, dLst, dSl, part, slP, seqP, setP, dMop, recv, mprim], rfl⟩
      simp [ev_k, ev_gl, ev_var, ev_op, ev_tup, ev_lst, ev_dct0, ev_sl, ev_mop, ev_and, ev_or, ev_not, ev_ife, ev_call, evL_nil, evL_cons, evG_nm, evG_tupN, evG_tup, evG_sub, evGs_nil, evGs_cons, Pm_F, Pm_io, Pm_fuel, mkDn, seqA, seqE, dVar, dOp, rd, getAll, Arg.get, prim, WT.settle, WT.imm, tru, isBl, gnTup, gnAll, gnSub, gnNm, gnTupN, gnNms, setPrim, immL, immEl, frz1, frz, sRet, mkSl, dCall, ordL, isPl, dAnd, dOr, dNot, dIfe, dTup, dLst, dSl, part, slP, seqP, setP, dMop, recv, mprim, p_ix, p_eq, l1, at_get hk, shal, deq, p2]))
  have he : (((rangeL 0 w.length).map D.int).filter (p2 w l)).map id = (plc w l).map fun (k : Nat) => D.int (k : Int) := by
    rw [range0, List.map_id, List.filter_map, plc]
    have : (p2 w l ∘ fun (k : Nat) => D.int (k : Int)) = fun k => at_ w k == l := by
      funext k
      show (at_ w (k : Int).toNat == l) = _
      simp
    rw [this]
  have hi : immL ((plc w l).map fun (k : Nat) => D.int (k : Int)) = true := by
    induction plc w l with
    | nil => rfl
    | cons a r ih => simp [immL, WT.imm, ih]
  refine ret1 (fd := fd14) (Γ := [.val (.str w), .val (.str [l]), .un]) (Γ' := [.val (.str w), .val (.str [l]), .un]) rfl rfl rfl rfl rfl rfl ?_
  rw [he] at hc
  refine op_e (args := [.v (.lst ((plc w l).map fun (k : Nat) => .int (k : Int))) true]) (Γ1 := [.val (.str w), .val (.str [l]), .un]) (ds := [.lst ((plc w l).map fun (k : Nat) => .int (k : Int))]) (d := .tup ((plc w l).map fun (k : Nat) => .int (k : Int))) (top := true) ?_ rfl rfl ?_
  · simp only [evL_cons, evL_nil, seqA, hc, Option.bind_some, Option.map_some]
  · simp [WT.settle, immEl, hi]
theorem answer (fuel n : Nat) (w : List Nat) (l : Nat) (hw : GW w) (hl : l ∈ LET) : denF T fuel (n + 4) 6 [.str w, .str [l]] = some (.tup ((plc w l).map fun (k : Nat) => .int (k : Int)), true, none) := by
  have e1 := checkWord fuel n w hw
  have e2 : denF T fuel (n + 3) 1 [.str [l]] = _ := isLetter fuel (n + 1) l hl
  have e3 : denF T fuel (n + 3) 4 [.str w, .str [l]] = _ := answerBy fuel (n + 2) w l hw
  rw [den_of (fd := fd6) rfl rfl]
  simp [fd6, b6, startE, fin, evS_expr, evS_ret, evS_asg, evS_par, evS_ife, evS_never, evSs_nil, evSs_cons, ev_k, ev_gl, ev_var, ev_op, ev_tup, ev_lst, ev_dct0, ev_sl, ev_mop, ev_and, ev_or, ev_not, ev_ife, ev_call, evL_nil, evL_cons, evG_nm, evG_tupN, evG_tup, evG_sub, evGs_nil, evGs_cons, Pm_F, Pm_io, Pm_fuel, mkDn, seqA, seqE, dVar, dOp, rd, getAll, Arg.get, prim, WT.settle, WT.imm, tru, isBl, gnTup, gnAll, gnSub, gnNm, gnTupN, gnNms, setPrim, immL, immEl, frz1, frz, sRet, mkSl, dCall, ordL, isPl, dAnd, dOr, dNot, dIfe, dTup, dLst, dSl, part, slP, seqP, setP, dMop, recv, mprim, p_add, p_sub, p_mul, p_fdiv, p_mod, p_pow, p_neg, p_eq, p_ne, p_lt, p_le, p_gt, p_ge, p_isN, p_notN, p_isTr, p_ix, p_len, p_minB, p_maxB, p_abs, p_int, p_divm, p_list, p_tuple, p_isi, isT, atI, ixN, shal, shalL, deq, deqL, b2, isKey, e1, e2, e3, out]
/-! ### the same thing told -/
theorem sameInt (fuel n : Nat) (i : Int) : denF T fuel (n + 1) 11 [.int i, .int i] = some (.bl true, true, none) := by
  rw [den_of (fd := fd11) rfl rfl]
  simp [fd11, b11, startE, fin, evS_expr, evS_ret, evS_asg, evS_par, evS_ife, evS_never, evSs_nil, evSs_cons, ev_k, ev_gl, ev_var, ev_op, ev_tup, ev_lst, ev_dct0, ev_sl, ev_mop, ev_and, ev_or, ev_not, ev_ife, ev_call, evL_nil, evL_cons, evG_nm, evG_tupN, evG_tup, evG_sub, evGs_nil, evGs_cons, Pm_F, Pm_io, Pm_fuel, mkDn, seqA, seqE, dVar, dOp, rd, getAll, Arg.get, prim, WT.settle, WT.imm, tru, isBl, gnTup, gnAll, gnSub, gnNm, gnTupN, gnNms, setPrim, immL, immEl, frz1, frz, sRet, mkSl, dCall, ordL, isPl, dAnd, dOr, dNot, dIfe, dTup, dLst, dSl, part, slP, seqP, setP, dMop, recv, mprim, p_add, p_sub, p_mul, p_fdiv, p_mod, p_pow, p_neg, p_eq, p_ne, p_lt, p_le, p_gt, p_ge, p_isN, p_notN, p_isTr, p_ix, p_len, p_minB, p_maxB, p_abs, p_int, p_divm, p_list, p_tuple, p_isi, isT, atI, ixN, shal, shalL, deq, deqL, b2, isKey, out]
theorem immL_get : ∀ {ds : List D}, immL ds = true → ∀ d ∈ ds, WT.imm d = true
  | [], _, d, h => by cases h
  | x :: r, hi, d, h => by
    simp only [immL, Bool.and_eq_true] at hi
    rcases List.mem_cons.mp h with rfl | h
    · exact hi.1
    · exact immL_get hi.2 d h
theorem sameTup (fuel n : Nat) (ds : List D) (hi : immL ds = true) (hl : ds.length ≤ 100) (hs : ∀ d ∈ ds, denF T fuel (n + 1) 11 [d, d] = some (.bl true, true, none)) : denF T fuel (n + 2) 11 [.tup ds, .tup ds] = some (.bl true, true, none) := by
  have l1 : ds.length ≤ line := by unfold line; omega
  have hb : ds.length < 2 ^ 60 := by omega
  have hc := comp_a (comp_pure (P := Pm (denF T fuel (n + 1)) none fuel) (vs := [2]) (tg := .nm 2) (it := .range [.op .len [.var 1]]) (e := .call 11 none [.op .ix [.var 0, .var 2], .op .ix [.var 1, .var 2]] [])
    (Γ := [.val (.tup ds), .val (.tup ds), .un, .un]) (Γ1 := [.val (.tup ds), .val (.tup ds), .un, .un]) (ds := (rangeL 0 ds.length).map .int) (fun _ => .bl true) (by
      simp [evI_range, inRange, ev_k, ev_gl, ev_var, ev_op, ev_tup, ev_lst, ev_dct0, ev_sl, ev_mop, ev_and, ev_or, ev_not, ev_ife, ev_call, evL_nil, evL_cons, evG_nm, evG_tupN, evG_tup, evG_sub, evGs_nil, evGs_cons, Pm_F, Pm_io, Pm_fuel, mkDn, seqA, seqE, dVar, dOp, rd, getAll, Arg.get, prim, WT.settle, WT.imm, tru, isBl, gnTup, gnAll, gnSub, gnNm, gnTupN, gnNms, setPrim, immL, immEl, frz1, frz, sRet, mkSl, dCall, ordL, isPl, dAnd, dOr, dNot, dIfe, dTup, dLst, dSl, part, slP, seqP, setP, dMop, recv, mprim, p_len, rangeD, hb, hi]) rfl (by rw [List.length_map, rangeL_length]; exact l1) (fun d hd => by
      rw [range0] at hd
      obtain ⟨k, hk, rfl⟩ := List.mem_map.mp hd
      have hk : k < ds.length := by simpa using hk
      have ea : atI ds (k : Int) = some ds[k] := by
        unfold atI ixN
        rw [if_pos (by omega), if_pos (by omega)]
        simp [hk]
      have him := immL_get hi _ (List.getElem_mem hk)
      have es := hs _ (List.getElem_mem hk)
      refine ⟨[.val (.tup ds), .val (.tup ds), .val (.int k), .un], by simp [wipeE, ev_k, ev_gl, ev_var, ev_op, ev_tup, ev_lst, ev_dct0, ev_sl, ev_mop, ev_and, ev_or, ev_not, ev_ife, ev_call, evL_nil, evL_cons, evG_nm, evG_tupN, evG_tup, evG_sub, evGs_nil, evGs_cons, Pm_F, Pm_io, Pm_fuel, mkDn, seqA, seqE, dVar, dOp, rd, getAll, Arg.get, prim, WT.settle, WT.imm, tru, isBl, gnTup, gnAll, gnSub, gnNm, gnTupN, gnNms, setPrim, immL, immEl, frz1, frz, sRet, mkSl, dCall, ordL, isPl, dAnd, dOr, dNot, dIfe, dTup, dLst, dSl, part, slP, seqP, setP, dMop, recv, mprim], ?_, rfl⟩
      simp [ev_k, ev_gl, ev_var, ev_op, ev_tup, ev_lst, ev_dct0, ev_sl, ev_mop, ev_and, ev_or, ev_not, ev_ife, ev_call, evL_nil, evL_cons, evG_nm, evG_tupN, evG_tup, evG_sub, evGs_nil, evGs_cons, Pm_F, Pm_io, Pm_fuel, mkDn, seqA, seqE, dVar, dOp, rd, getAll, Arg.get, prim, WT.settle, WT.imm, tru, isBl, gnTup, gnAll, gnSub, gnNm, gnTupN, gnNms, setPrim, immL, immEl, frz1, frz, sRet, mkSl, dCall, ordL, isPl, dAnd, dOr, dNot, dIfe, dTup, dLst, dSl, part, slP, seqP, setP, dMop, recv, mprim, p_ix, ea, hi, him, es]))
  have hb2 : asBls (((rangeL 0 ds.length).map D.int).map fun _ => D.bl true) = some (((rangeL 0 ds.length).map D.int).map fun _ => true) := asBls_map (fun _ => true) _
  have ha : ((((rangeL 0 ds.length).map D.int).map fun _ => true).all id) = true := by simp
  have e0 : startE 0 none [.tup ds, .tup ds] 4 = [.val (.tup ds), .val (.tup ds), .un, .un] := rfl
  rw [den_of (fd := fd11) rfl rfl]
  simp only [fd11, b11, evSs_cons, fin, evS_ife]
  rw [e0]
  have t1 : (ev (Pm (denF T fuel (n + 1)) none fuel) (.op (.isi .tuple) [.var 1])).t [.val (.tup ds), .val (.tup ds), .un, .un] = some (true, [.val (.tup ds), .val (.tup ds), .un, .un]) := by
    simp [ev_k, ev_gl, ev_var, ev_op, ev_tup, ev_lst, ev_dct0, ev_sl, ev_mop, ev_and, ev_or, ev_not, ev_ife, ev_call, evL_nil, evL_cons, evG_nm, evG_tupN, evG_tup, evG_sub, evGs_nil, evGs_cons, Pm_F, Pm_io, Pm_fuel, mkDn, seqA, seqE, dVar, dOp, rd, getAll, Arg.get, prim, WT.settle, WT.imm, tru, isBl, gnTup, gnAll, gnSub, gnNm, gnTupN, gnNms, setPrim, immL, immEl, frz1, frz, sRet, mkSl, dCall, ordL, isPl, dAnd, dOr, dNot, dIfe, dTup, dLst, dSl, part, slP, seqP, setP, dMop, recv, mprim, p_isi, isT]
  have t2 : (ev (Pm (denF T fuel (n + 1)) none fuel) (.or (.not (.op (.isi .tuple) [.var 0])) (.op .ne [.op .len [.var 0], .op .len [.var 1]]))).t [.val (.tup ds), .val (.tup ds), .un, .un] = some (false, [.val (.tup ds), .val (.tup ds), .un, .un]) := by
    simp [ev_k, ev_gl, ev_var, ev_op, ev_tup, ev_lst, ev_dct0, ev_sl, ev_mop, ev_and, ev_or, ev_not, ev_ife, ev_call, evL_nil, evL_cons, evG_nm, evG_tupN, evG_tup, evG_sub, evGs_nil, evGs_cons, Pm_F, Pm_io, Pm_fuel, mkDn, seqA, seqE, dVar, dOp, rd, getAll, Arg.get, prim, WT.settle, WT.imm, tru, isBl, gnTup, gnAll, gnSub, gnNm, gnTupN, gnNms, setPrim, immL, immEl, frz1, frz, sRet, mkSl, dCall, ordL, isPl, dAnd, dOr, dNot, dIfe, dTup, dLst, dSl, part, slP, seqP, setP, dMop, recv, mprim, p_isi, isT, p_len, p_ne, shal, deq]
  rw [t1]
  simp only [Option.bind_some, if_true]
  rw [t2]
  simp only [Option.bind_some, Bool.false_eq_true, if_false, evSs_nil, evS_ret]
  have t3 : (ev (Pm (denF T fuel (n + 1)) none fuel) (.op .all [.comp [2] (.nm 2) (.range [.op .len [.var 1]]) none (.call 11 none [.op .ix [.var 0, .var 2], .op .ix [.var 1, .var 2]] [])])).e [.val (.tup ds), .val (.tup ds), .un, .un] = some (.bl true, true, [.val (.tup ds), .val (.tup ds), .un, .un]) := by
    rw [ev_op]
    simp only [evL_cons, evL_nil, dOp, mkDn, seqA, hc, Option.bind_some, Option.map_some, getAll, Arg.get, prim, p_all, hb2, ha]
    simp [WT.settle, WT.imm]
  rw [sRet_of rfl, t3]
  rfl
def tupI (ks : List Int) : D := .tup (ks.map .int)
theorem immL_ints : ∀ r : List Int, immL (r.map D.int) = true := by
  intro r
  induction r with
  | nil => rfl
  | cons a r ih => simp [immL, WT.imm, ih]
theorem same2 (fuel n : Nat) (ks : List Int) (hl : ks.length ≤ 100) : denF T fuel (n + 3) 11 [.tup [tupI ks, tupI ks], .tup [tupI ks, tupI ks]] = some (.bl true, true, none) := by
  have h1 : denF T fuel (n + 2) 11 [tupI ks, tupI ks] = some (.bl true, true, none) := sameTup fuel n _ (immL_ints ks) (by simpa using hl) fun d hd => by
    obtain ⟨i, _, rfl⟩ := List.mem_map.mp hd
    exact sameInt fuel n i
  refine sameTup fuel (n + 1) [tupI ks, tupI ks] ?_ (by simp) fun d hd => ?_
  · simp [immL, tupI, WT.imm, immL_ints]
  · have : d = tupI ks := by simpa using hd
    rw [this]; exact h1
end K56

namespace K56
open PySem L2 WT
theorem s3 : WT.small64 48271 = true := by decide
theorem s4 : WT.small64 6121 = true := by decide
theorem s5 : WT.small64 53 = true := by decide
theorem stirLoop (P : Prm) (h2 : P.io 2 = false) (h3 : P.io 3 = false) (d0 d1 : D) : ∀ (items : List Int) (s : Int) (sl : Sl), ∃ s' sl', forL (evG P (.nm 3)) (evSs P [.asg (.nm 2) (.op .mod [.op .int [.op .add [.op .add [.op .mul [.var 2, .k (.int 48271)], .op .mod [.op .int [.var 3], .k (.int 2147483549)]], .k (.int 23)]], .k (.int 2147483587)])]) (items.map .int) [.val d0, .val d1, .val (.int s), sl, .un] =
    some (.nx, [.val d0, .val d1, .val (.int s'), sl', .un])
  | [], s, sl => ⟨s, sl, rfl⟩
  | i :: items, s, sl => by
    obtain ⟨s', sl', e⟩ := stirLoop P h2 h3 d0 d1 items ((s * 48271 + i % 2147483549 + 23) % 2147483587) (.val (.int i))
    refine ⟨s', sl', (forL_nx (Γ1 := [.val d0, .val d1, .val (.int s), .val (.int i), .un]) (Γ2 := [.val d0, .val d1, .val (.int ((s * 48271 + i % 2147483549 + 23) % 2147483587)), .val (.int i), .un]) ?_ ?_).trans e⟩
    · simp [evG_nm, gnNm, h3, mkSl, WT.imm]
    · simp [evS_expr, evS_ret, evS_asg, evS_par, evS_ife, evS_never, evSs_nil, evSs_cons, ev_k, ev_gl, ev_var, ev_op, ev_tup, ev_lst, ev_dct0, ev_sl, ev_mop, ev_and, ev_or, ev_not, ev_ife, ev_call, evL_nil, evL_cons, evG_nm, evG_tupN, evG_tup, evG_sub, evGs_nil, evGs_cons, Pm_F, Pm_io, Pm_fuel, mkDn, seqA, seqE, dVar, dOp, rd, getAll, Arg.get, prim, WT.settle, WT.imm, tru, isBl, gnTup, gnAll, gnSub, gnNm, gnTupN, gnNms, setPrim, immL, immEl, frz1, frz, sRet, mkSl, dCall, ordL, isPl, dAnd, dOr, dNot, dIfe, dTup, dLst, dSl, part, slP, seqP, setP, dMop, recv, mprim, p_add, p_sub, p_mul, p_fdiv, p_mod, p_pow, p_neg, p_eq, p_ne, p_lt, p_le, p_gt, p_ge, p_isN, p_notN, p_isTr, p_ix, p_len, p_minB, p_maxB, p_abs, p_int, p_divm, p_list, p_tuple, p_isi, isT, atI, ixN, shal, shalL, deq, deqL, b2, isKey, h2, h3, s3]
theorem lawWell (fuel n : Nat) (ns : List Int) (lap : Nat) : ∃ a b, denF T fuel (n + 1) 8 [.scr ns, .int lap] = some (.lst [.int a, .int b, .int 0], true, none) := by
  rw [den_of (fd := fd8) rfl rfl]
  have e0 : startE 0 none [.scr ns, .int lap] 5 = [.val (.scr ns), .val (.int lap), .un, .un, .un] := rfl
  obtain ⟨s', sl', e⟩ := stirLoop (Pm (denF T fuel n) none fuel) rfl rfl (.scr ns) (.int lap) (cutL ns none (some 16)) (704969 + 6121 * lap) .un
  have h1 : evS (Pm (denF T fuel n) none fuel) (.asg (.nm 2) (.op .add [.k (.int 704969), .op .mul [.k (.int 6121), .var 1]])) [.val (.scr ns), .val (.int lap), .un, .un, .un] = some (.nx, [.val (.scr ns), .val (.int lap), .val (.int (704969 + 6121 * lap)), .un, .un]) := by
    simp [evS_asg, ev_k, ev_gl, ev_var, ev_op, ev_tup, ev_lst, ev_dct0, ev_sl, ev_mop, ev_and, ev_or, ev_not, ev_ife, ev_call, evL_nil, evL_cons, evG_nm, evG_tupN, evG_tup, evG_sub, evGs_nil, evGs_cons, Pm_F, Pm_io, Pm_fuel, mkDn, seqA, seqE, dVar, dOp, rd, getAll, Arg.get, prim, WT.settle, WT.imm, tru, isBl, gnTup, gnAll, gnSub, gnNm, gnTupN, gnNms, setPrim, immL, immEl, frz1, frz, sRet, mkSl, dCall, ordL, isPl, dAnd, dOr, dNot, dIfe, dTup, dLst, dSl, part, slP, seqP, setP, dMop, recv, mprim, p_add, p_sub, p_mul, p_fdiv, p_mod, p_pow, p_neg, p_eq, p_ne, p_lt, p_le, p_gt, p_ge, p_isN, p_notN, p_isTr, p_ix, p_len, p_minB, p_maxB, p_abs, p_int, p_divm, p_list, p_tuple, p_isi, isT, atI, ixN, shal, shalL, deq, deqL, b2, isKey, s4]
  have himm : ∀ r : List Int, immL (r.map D.int) = true := by
    intro r
    induction r with
    | nil => rfl
    | cons a r ih => simp [immL, WT.imm, ih]
  have h2 : evI (Pm (denF T fuel n) none fuel) (.val (.sl false true (.var 0) (.k .non) (.k (.int 16)))) [.val (.scr ns), .val (.int lap), .val (.int (704969 + 6121 * lap)), .un, .un] = some ((cutL ns none (some 16)).map .int, [.val (.scr ns), .val (.int lap), .val (.int (704969 + 6121 * lap)), .un, .un]) := by
    simp [evI_val, inVal, ev_k, ev_gl, ev_var, ev_op, ev_tup, ev_lst, ev_dct0, ev_sl, ev_mop, ev_and, ev_or, ev_not, ev_ife, ev_call, evL_nil, evL_cons, evG_nm, evG_tupN, evG_tup, evG_sub, evGs_nil, evGs_cons, Pm_F, Pm_io, Pm_fuel, mkDn, seqA, seqE, dVar, dOp, rd, getAll, Arg.get, prim, WT.settle, WT.imm, tru, isBl, gnTup, gnAll, gnSub, gnNm, gnTupN, gnNms, setPrim, immL, immEl, frz1, frz, sRet, mkSl, dCall, ordL, isPl, dAnd, dOr, dNot, dIfe, dTup, dLst, dSl, part, slP, seqP, setP, dMop, recv, mprim, items, himm]
  simp only [fd8, b8, evSs_cons, fin, evS_for]
  rw [e0, h1]
  simp only [Option.bind_some, h2, e]
  have own : ∃ o : Int, evS (Pm (denF T fuel n) none fuel) (.asg (.nm 4) (.ife (.op .lt [.var 1, .op .len [.var 0]]) (.op .int [.op .ix [.var 0, .var 1]]) (.k (.int 0)))) [.val (.scr ns), .val (.int lap), .val (.int s'), sl', .un] = some (.nx, [.val (.scr ns), .val (.int lap), .val (.int s'), sl', .val (.int o)]) := by
    by_cases hl : lap < ns.length
    · obtain ⟨d, ed, _⟩ := atI_of ns lap (by omega) (by omega)
      refine ⟨d, ?_⟩
      unfold atI at ed
      have hl2 : ¬ ns.length ≤ lap := by omega
      simp [evS_asg, ev_k, ev_gl, ev_var, ev_op, ev_tup, ev_lst, ev_dct0, ev_sl, ev_mop, ev_and, ev_or, ev_not, ev_ife, ev_call, evL_nil, evL_cons, evG_nm, evG_tupN, evG_tup, evG_sub, evGs_nil, evGs_cons, Pm_F, Pm_io, Pm_fuel, mkDn, seqA, seqE, dVar, dOp, rd, getAll, Arg.get, prim, WT.settle, WT.imm, tru, isBl, gnTup, gnAll, gnSub, gnNm, gnTupN, gnNms, setPrim, immL, immEl, frz1, frz, sRet, mkSl, dCall, ordL, isPl, dAnd, dOr, dNot, dIfe, dTup, dLst, dSl, part, slP, seqP, setP, dMop, recv, mprim, p_lt, p_len, p_int, p_ix, hl]
      simp [atI, ed, mkDn, seqA, seqE, dVar, dOp, rd, getAll, Arg.get, prim, WT.settle, WT.imm, tru, isBl, gnTup, gnAll, gnSub, gnNm, gnTupN, gnNms, setPrim, immL, immEl, frz1, frz, sRet, mkSl, dCall, ordL, isPl, dAnd, dOr, dNot, dIfe, dTup, dLst, dSl, part, slP, seqP, setP, dMop, recv, mprim, p_int]
    · refine ⟨0, ?_⟩
      simp [evS_asg, ev_k, ev_gl, ev_var, ev_op, ev_tup, ev_lst, ev_dct0, ev_sl, ev_mop, ev_and, ev_or, ev_not, ev_ife, ev_call, evL_nil, evL_cons, evG_nm, evG_tupN, evG_tup, evG_sub, evGs_nil, evGs_cons, Pm_F, Pm_io, Pm_fuel, mkDn, seqA, seqE, dVar, dOp, rd, getAll, Arg.get, prim, WT.settle, WT.imm, tru, isBl, gnTup, gnAll, gnSub, gnNm, gnTupN, gnNms, setPrim, immL, immEl, frz1, frz, sRet, mkSl, dCall, ordL, isPl, dAnd, dOr, dNot, dIfe, dTup, dLst, dSl, part, slP, seqP, setP, dMop, recv, mprim, p_lt, p_len, p_int, p_ix, hl]
  obtain ⟨o, ho⟩ := own
  rw [ho]
  simp only [Option.bind_some]
  have h3 : evS (Pm (denF T fuel n) none fuel) (.asg (.nm 2) (.op .mod [.op .int [.op .add [.op .add [.op .mul [.var 2, .k (.int 53)], .op .mul [.op .mod [.op .int [.var 4], .k (.int 2147483549)], .k (.int 15013)]], .k (.int 11)]], .k (.int 2147483587)])) [.val (.scr ns), .val (.int lap), .val (.int s'), sl', .val (.int o)] =
      some (.nx, [.val (.scr ns), .val (.int lap), .val (.int ((s' * 53 + o % 2147483549 * 15013 + 11) % 2147483587)), sl', .val (.int o)]) := by
    simp [evS_asg, ev_k, ev_gl, ev_var, ev_op, ev_tup, ev_lst, ev_dct0, ev_sl, ev_mop, ev_and, ev_or, ev_not, ev_ife, ev_call, evL_nil, evL_cons, evG_nm, evG_tupN, evG_tup, evG_sub, evGs_nil, evGs_cons, Pm_F, Pm_io, Pm_fuel, mkDn, seqA, seqE, dVar, dOp, rd, getAll, Arg.get, prim, WT.settle, WT.imm, tru, isBl, gnTup, gnAll, gnSub, gnNm, gnTupN, gnNms, setPrim, immL, immEl, frz1, frz, sRet, mkSl, dCall, ordL, isPl, dAnd, dOr, dNot, dIfe, dTup, dLst, dSl, part, slP, seqP, setP, dMop, recv, mprim, p_add, p_sub, p_mul, p_fdiv, p_mod, p_pow, p_neg, p_eq, p_ne, p_lt, p_le, p_gt, p_ge, p_isN, p_notN, p_isTr, p_ix, p_len, p_minB, p_maxB, p_abs, p_int, p_divm, p_list, p_tuple, p_isi, isT, atI, ixN, shal, shalL, deq, deqL, b2, isKey, s5, s2]
  rw [h3]
  simp only [Option.bind_some]
  have h4 : ∃ x : Int, (ev (Pm (denF T fuel n) none fuel) (.ife (.or (.op .lt [.var 4, .k (.int 0)]) (.op .ge [.var 4, .op .pow [.k (.int 10), .k (.int 15)]])) (.op .abs [.var 4]) (.k (.int 0)))).e [.val (.scr ns), .val (.int lap), .val (.int ((s' * 53 + o % 2147483549 * 15013 + 11) % 2147483587)), sl', .val (.int o)] =
      some (.int x, true, [.val (.scr ns), .val (.int lap), .val (.int ((s' * 53 + o % 2147483549 * 15013 + 11) % 2147483587)), sl', .val (.int o)]) := by
    by_cases c1 : o < 0
    · refine ⟨o.natAbs, ?_⟩
      simp [ev_k, ev_gl, ev_var, ev_op, ev_tup, ev_lst, ev_dct0, ev_sl, ev_mop, ev_and, ev_or, ev_not, ev_ife, ev_call, evL_nil, evL_cons, evG_nm, evG_tupN, evG_tup, evG_sub, evGs_nil, evGs_cons, Pm_F, Pm_io, Pm_fuel, mkDn, seqA, seqE, dVar, dOp, rd, getAll, Arg.get, prim, WT.settle, WT.imm, tru, isBl, gnTup, gnAll, gnSub, gnNm, gnTupN, gnNms, setPrim, immL, immEl, frz1, frz, sRet, mkSl, dCall, ordL, isPl, dAnd, dOr, dNot, dIfe, dTup, dLst, dSl, part, slP, seqP, setP, dMop, recv, mprim, p_add, p_sub, p_mul, p_fdiv, p_mod, p_pow, p_neg, p_eq, p_ne, p_lt, p_le, p_gt, p_ge, p_isN, p_notN, p_isTr, p_ix, p_len, p_minB, p_maxB, p_abs, p_int, p_divm, p_list, p_tuple, p_isi, isT, atI, ixN, shal, shalL, deq, deqL, b2, isKey, c1]
    · by_cases c2 : 1000000000000000 ≤ o
      · refine ⟨o.natAbs, ?_⟩
        simp [ev_k, ev_gl, ev_var, ev_op, ev_tup, ev_lst, ev_dct0, ev_sl, ev_mop, ev_and, ev_or, ev_not, ev_ife, ev_call, evL_nil, evL_cons, evG_nm, evG_tupN, evG_tup, evG_sub, evGs_nil, evGs_cons, Pm_F, Pm_io, Pm_fuel, mkDn, seqA, seqE, dVar, dOp, rd, getAll, Arg.get, prim, WT.settle, WT.imm, tru, isBl, gnTup, gnAll, gnSub, gnNm, gnTupN, gnNms, setPrim, immL, immEl, frz1, frz, sRet, mkSl, dCall, ordL, isPl, dAnd, dOr, dNot, dIfe, dTup, dLst, dSl, part, slP, seqP, setP, dMop, recv, mprim, p_add, p_sub, p_mul, p_fdiv, p_mod, p_pow, p_neg, p_eq, p_ne, p_lt, p_le, p_gt, p_ge, p_isN, p_notN, p_isTr, p_ix, p_len, p_minB, p_maxB, p_abs, p_int, p_divm, p_list, p_tuple, p_isi, isT, atI, ixN, shal, shalL, deq, deqL, b2, isKey, c1, c2]
      · refine ⟨0, ?_⟩
        simp [ev_k, ev_gl, ev_var, ev_op, ev_tup, ev_lst, ev_dct0, ev_sl, ev_mop, ev_and, ev_or, ev_not, ev_ife, ev_call, evL_nil, evL_cons, evG_nm, evG_tupN, evG_tup, evG_sub, evGs_nil, evGs_cons, Pm_F, Pm_io, Pm_fuel, mkDn, seqA, seqE, dVar, dOp, rd, getAll, Arg.get, prim, WT.settle, WT.imm, tru, isBl, gnTup, gnAll, gnSub, gnNm, gnTupN, gnNms, setPrim, immL, immEl, frz1, frz, sRet, mkSl, dCall, ordL, isPl, dAnd, dOr, dNot, dIfe, dTup, dLst, dSl, part, slP, seqP, setP, dMop, recv, mprim, p_add, p_sub, p_mul, p_fdiv, p_mod, p_pow, p_neg, p_eq, p_ne, p_lt, p_le, p_gt, p_ge, p_isN, p_notN, p_isTr, p_ix, p_len, p_minB, p_maxB, p_abs, p_int, p_divm, p_list, p_tuple, p_isi, isT, atI, ixN, shal, shalL, deq, deqL, b2, isKey, c1, c2]
  obtain ⟨x, hx⟩ := h4
  refine ⟨x, (s' * 53 + o % 2147483549 * 15013 + 11) % 2147483587, ?_⟩
  rw [evS_ret]
  simp only [sRet]
  rw [ev_lst]
  simp only [dLst, mkDn, evL_cons, evL_nil, seqE, hx, Option.bind_some, Option.map_some]
  simp [ev_k, ev_gl, ev_var, ev_op, ev_tup, ev_lst, ev_dct0, ev_sl, ev_mop, ev_and, ev_or, ev_not, ev_ife, ev_call, evL_nil, evL_cons, evG_nm, evG_tupN, evG_tup, evG_sub, evGs_nil, evGs_cons, Pm_F, Pm_io, Pm_fuel, mkDn, seqA, seqE, dVar, dOp, rd, getAll, Arg.get, prim, WT.settle, WT.imm, tru, isBl, gnTup, gnAll, gnSub, gnNm, gnTupN, gnNms, setPrim, immL, immEl, frz1, frz, sRet, mkSl, dCall, ordL, isPl, dAnd, dOr, dNot, dIfe, dTup, dLst, dSl, part, slP, seqP, setP, dMop, recv, mprim, out, line]
end K56

namespace K56
open PySem L2 WT
theorem s6 : WT.small64 5 = true := by decide
theorem pickLoop (P : Prm) (h8 : P.io 8 = false) (d0 : Sl) (d1 d2 f w : D) (off : Int) (d4 : Sl) : ∀ (items : List Int) (acc : List Nat) (sl : Sl), acc.length + items.length ≤ 100 →
    ∃ new sl', compL [8] (evG P (.nm 8)) tYesE (ev P (.op .ix [.var 3, .op .mod [.op .int [.op .add [.var 5, .op .mul [.k (.int 5), .var 8]]], .k (.int 26)]])) (lets acc) true (items.map .int) [d0, .val d1, .val d2, .val (.str LET), d4, .val (.int off), .val f, .un, sl, .un] =
      some (lets (acc ++ new), true, [d0, .val d1, .val d2, .val (.str LET), d4, .val (.int off), .val f, .un, sl', .un]) ∧ new.length = items.length ∧ ∀ c ∈ new, c ∈ LET
  | [], acc, sl, _ => ⟨[], sl, by simp [compL], rfl, by simp⟩
  | i :: items, acc, sl, hz => by
    simp only [List.length_cons] at hz
    have r0 := Int.emod_nonneg (off + 5 * i) (show (26 : Int) ≠ 0 by decide)
    have r1 := Int.emod_lt_of_pos (off + 5 * i) (show (0 : Int) < 26 by decide)
    obtain ⟨c, ec, hc⟩ := atI_of LET ((off + 5 * i) % 26) r0 (by rw [show LET.length = 26 from rfl]; exact r1)
    obtain ⟨new, sl', e, h1, h2⟩ := pickLoop P h8 d0 d1 d2 f w off d4 items (acc ++ [c]) (.val (.int i)) (by simp; omega)
    refine ⟨c :: new, sl', ?_, by simp [h1], fun y hy => ?_⟩
    · have hll : (lets acc).length < line := by simp [lets]; unfold line; omega
      have e3 : lets (acc ++ [c]) = lets acc ++ [.str [c]] := by simp [lets]
      rw [e3] at e
      simp only [List.append_assoc, List.singleton_append] at e
      refine (compL_cons (Γ1 := [d0, .val d1, .val d2, .val (.str LET), d4, .val (.int off), .val f, .un, .val (.int i), .un]) (Γ2 := [d0, .val d1, .val d2, .val (.str LET), d4, .val (.int off), .val f, .un, .val (.int i), .un]) (x := .str [c]) (fx := true) (Γ3 := [d0, .val d1, .val d2, .val (.str LET), d4, .val (.int off), .val f, .un, .val (.int i), .un]) ?_ rfl ?_ hll).trans e
      · simp [wipeE, evG_nm, gnNm, h8, mkSl, WT.imm]
      · have hl : LET.length ≤ line := by decide
        simp [ev_k, ev_gl, ev_var, ev_op, ev_tup, ev_lst, ev_dct0, ev_sl, ev_mop, ev_and, ev_or, ev_not, ev_ife, ev_call, evL_nil, evL_cons, evG_nm, evG_tupN, evG_tup, evG_sub, evGs_nil, evGs_cons, Pm_F, Pm_io, Pm_fuel, mkDn, seqA, seqE, dVar, dOp, rd, getAll, Arg.get, prim, WT.settle, WT.imm, tru, isBl, gnTup, gnAll, gnSub, gnNm, gnTupN, gnNms, setPrim, immL, immEl, frz1, frz, sRet, mkSl, dCall, ordL, isPl, dAnd, dOr, dNot, dIfe, dTup, dLst, dSl, part, slP, seqP, setP, dMop, recv, mprim, p_mul, p_add, p_int, p_mod, p_ix, s6, ec, hl]
    · rcases List.mem_cons.mp hy with rfl | hy
      · exact hc
      · exact h2 y hy
def Kv (kvs : List (D × D)) : Prop := ∀ p ∈ kvs, ∃ s, p.1 = .str s ∧ GW s
theorem kput_ok (s : List Nat) (kvs : List (D × D)) (h : Kv kvs) (hs : GW s) : Kv (kput (.str s) (.bl true) kvs) ∧ (kput (.str s) (.bl true) kvs).length ≤ kvs.length + 1 ∧ kput (.str s) (.bl true) kvs ≠ [] := by
  unfold kput
  split
  · rename_i q
    refine ⟨fun p hp => ?_, by simp, fun z => ?_⟩
    · obtain ⟨p', hp', rfl⟩ := List.mem_map.mp hp
      obtain ⟨s', e, g⟩ := h p' hp'
      refine ⟨s', ?_, g⟩
      split <;> exact e
    · have : kvs = [] := by simpa using z
      rw [this] at q
      simp at q
  · refine ⟨fun p hp => ?_, by simp, by simp⟩
    rcases List.mem_append.mp hp with q | q
    · exact h p q
    · simp at q
      subst q
      exact ⟨s, rfl, hs⟩
abbrev WΓ (a b c : Int) (kvs : List (D × D)) (off few : Int) (ls : List Nat) (sl : Sl) : WT.Env := [.own (.lst [.int a, .int b, .int c]), .val (.int 6), .val (.int 8), .val (.str LET), .own (.dct kvs), .val (.int off), .val (.int few), .own (.lst (lets ls)), .un, sl]
theorem putLoop (fuel n : Nat) (off few : Int) (ls : List Nat) (hx : ls ≠ []) (hl : ls.length < 1073741824) (ha : ∀ c ∈ ls, c ∈ LET) : ∀ (items : List Int) (a b c : Int) (kvs : List (D × D)) (sl : Sl), kvs.length + items.length ≤ 60 → Kv kvs →
    ∃ a' b' c' kvs' sl', forL (evG (Pm (denF T fuel (n + 3)) (some 0) fuel) (.nm 9)) (evSs (Pm (denF T fuel (n + 3)) (some 0) fuel) [.asg (.sub 4 (.call 12 (some 0) [.var 0, .var 7, .var 2] [])) (.k (.bl true))]) (items.map .int) (WΓ a b c kvs off few ls sl) =
      some (.nx, WΓ a' b' c' kvs' off few ls sl') ∧ Kv kvs' ∧ kvs'.length ≤ kvs.length + items.length ∧ (items ≠ [] ∨ kvs ≠ [] → kvs' ≠ [])
  | [], a, b, c, kvs, sl, hz, hk => ⟨a, b, c, kvs, sl, rfl, hk, by simp, fun h => h.elim (fun z => absurd rfl z) id⟩
  | i :: items, a, b, c, kvs, sl, hz, hk => by
    simp only [List.length_cons] at hz
    obtain ⟨s, a1, b1, c1, e1, p1, p2, p3⟩ := lawWord fuel n ls 8 hx hl (by decide) (by decide) a b c
    have gs : GW s := ⟨p1, by omega, fun c hc => ha c (p3 c hc)⟩
    obtain ⟨k1, k2, k3⟩ := kput_ok s kvs hk gs
    obtain ⟨a', b', c', kvs', sl', e, h1, h2, h3⟩ := putLoop fuel n off few ls hx hl ha items a1 b1 c1 (kput (.str s) (.bl true) kvs) (.val (.int i)) (by omega) k1
    refine ⟨a', b', c', kvs', sl', (forL_nx (Γ1 := WΓ a b c kvs off few ls (.val (.int i))) (Γ2 := WΓ a1 b1 c1 (kput (.str s) (.bl true) kvs) off few ls (.val (.int i))) ?_ ?_).trans e, h1, by simp only [List.length_cons]; omega, fun _ => h3 (.inr k3)⟩
    · simp [evG_nm, gnNm, Pm_io, mkSl, WT.imm]
    · have hline : kvs.length < line := by unfold line; omega
      simp [evS_expr, evS_ret, evS_asg, evS_par, evS_ife, evS_never, evSs_nil, evSs_cons, ev_k, ev_gl, ev_var, ev_op, ev_tup, ev_lst, ev_dct0, ev_sl, ev_mop, ev_and, ev_or, ev_not, ev_ife, ev_call, evL_nil, evL_cons, evG_nm, evG_tupN, evG_tup, evG_sub, evGs_nil, evGs_cons, Pm_F, Pm_io, Pm_fuel, mkDn, seqA, seqE, dVar, dOp, rd, getAll, Arg.get, prim, WT.settle, WT.imm, tru, isBl, gnTup, gnAll, gnSub, gnNm, gnTupN, gnNms, setPrim, immL, immEl, frz1, frz, sRet, mkSl, dCall, ordL, isPl, dAnd, dOr, dNot, dIfe, dTup, dLst, dSl, part, slP, seqP, setP, dMop, recv, mprim, isKey, e1, hline]
end K56

namespace K56
open PySem L2 WT
theorem asStrs_map : ∀ (ws : List (List Nat)), asStrs (ws.map .str) = some ws
  | [] => rfl
  | w :: r => by simp [asStrs, asStrs_map r]
theorem keys_of : ∀ (kvs : List (D × D)), Kv kvs → ∃ ws : List (List Nat), kvs.map (·.1) = ws.map .str ∧ (∀ w ∈ ws, GW w) ∧ ws.length = kvs.length
  | [], _ => ⟨[], rfl, by simp, rfl⟩
  | (k, v) :: r, h => by
    obtain ⟨ws, e, g, l⟩ := keys_of r fun p hp => h p (List.mem_cons_of_mem _ hp)
    obtain ⟨s, es, gs⟩ := h (k, v) List.mem_cons_self
    simp only at es
    subst es
    refine ⟨s :: ws, by simp [e], fun w hw => ?_, by simp [l]⟩
    rcases List.mem_cons.mp hw with rfl | hw
    · exact gs
    · exact g w hw
theorem immL_strs : ∀ (ws : List (List Nat)), immL (ws.map .str) = true
  | [] => rfl
  | w :: r => by simp [immL, WT.imm, immL_strs r]
theorem lawWords (fuel n : Nat) (a b c : Int) : ∃ ws a' b' c', denF T fuel (n + 4) 13 [.lst [.int a, .int b, .int c], .int 6, .int 8] = some (.tup (ws.map .str), true, some (.lst [.int a', .int b', .int c'])) ∧ ws ≠ [] ∧ ws.length ≤ 6 ∧ ∀ w ∈ ws, GW w := by
  obtain ⟨off, a1, b1, c1, e1, o0, o1⟩ := draw fuel (n + 2) a b c 26 (by decide) (by decide)
  obtain ⟨d, a2, b2, c2, e2, hd⟩ := lawOf fuel (n + 1) a1 b1 c1 (.tup [.int 2, .int 2, .int 3, .int 4]) [.int 2, .int 2, .int 3, .int 4] (.inr rfl) (by simp) (by decide) (by simp [WT.imm])
  obtain ⟨few, rfl, hf⟩ : ∃ few : Int, d = .int few ∧ (few = 2 ∨ few = 3 ∨ few = 4) := by
    simp at hd
    rcases hd with h | h | h
    · exact ⟨2, h, .inl rfl⟩
    · exact ⟨3, h, .inr (.inl rfl)⟩
    · exact ⟨4, h, .inr (.inr rfl)⟩
  have e1 : denF T fuel (n + 3) 9 [.lst [.int a, .int b, .int c], .int 26] = some (.int off, true, some (.lst [.int a1, .int b1, .int c1])) := e1
  have e2 : denF T fuel (n + 3) 10 [.lst [.int a1, .int b1, .int c1], .tup [.int 2, .int 2, .int 3, .int 4]] = some (.int few, true, some (.lst [.int a2, .int b2, .int c2])) := e2
  obtain ⟨ls, sl', ec, hl1, hl2⟩ := pickLoop (Pm (denF T fuel (n + 3)) (some 0) fuel) rfl (.own (.lst [.int a2, .int b2, .int c2])) (.int 6) (.int 8) (.int few) (.int 0) off (.own (.dct [])) (rangeL 0 few.toNat) [] .un (by rw [rangeL_length]; simp; omega)
  rw [rangeL_length] at hl1
  have hx : ls ≠ [] := fun z => by rw [z] at hl1; simp at hl1; omega
  obtain ⟨a3, b3, c3, kvs, sl2, ef, k1, k2, k3⟩ := putLoop fuel n off few ls hx (by omega) hl2 (rangeL 0 6) a2 b2 c2 [] .un (by rw [rangeL_length]; simp) (fun p hp => nomatch hp)
  rw [rangeL_length] at k2
  have kne : kvs ≠ [] := k3 (.inl (by simp [rangeL]))
  obtain ⟨ws, ew, gw, lw⟩ := keys_of kvs k1
  have wne : ws ≠ [] := fun z => by rw [z] at lw; exact kne (List.length_eq_zero_iff.mp lw.symm)
  simp only [List.length_nil, Nat.zero_add] at k2
  refine ⟨ws.mergeSort leS, a3, b3, c3, ?_, fun z => wne (by have := congrArg List.length z; rw [List.length_mergeSort] at this; exact List.length_eq_zero_iff.mp this), by rw [List.length_mergeSort]; omega, fun w hw => gw w (by simpa using hw)⟩
  rw [den_of (fd := fd13) rfl rfl]
  have e0 : startE 0 (some 0) [.lst [.int a, .int b, .int c], .int 6, .int 8] 10 = [.own (.lst [.int a, .int b, .int c]), .val (.int 6), .val (.int 8), .un, .un, .un, .un, .un, .un, .un] := rfl
  have h1 : evS (Pm (denF T fuel (n + 3)) (some 0) fuel) (.asg (.tupN [3, 4]) (.tup [.k (.str LET), .dct0])) [.own (.lst [.int a, .int b, .int c]), .val (.int 6), .val (.int 8), .un, .un, .un, .un, .un, .un, .un] =
      some (.nx, [.own (.lst [.int a, .int b, .int c]), .val (.int 6), .val (.int 8), .val (.str LET), .own (.dct []), .un, .un, .un, .un, .un]) := by
    simp [evS_asg, ev_k, ev_gl, ev_var, ev_op, ev_tup, ev_lst, ev_dct0, ev_sl, ev_mop, ev_and, ev_or, ev_not, ev_ife, ev_call, evL_nil, evL_cons, evG_nm, evG_tupN, evG_tup, evG_sub, evGs_nil, evGs_cons, Pm_F, Pm_io, Pm_fuel, mkDn, seqA, seqE, dVar, dOp, rd, getAll, Arg.get, prim, WT.settle, WT.imm, tru, isBl, gnTup, gnAll, gnSub, gnNm, gnTupN, gnNms, setPrim, immL, immEl, frz1, frz, sRet, mkSl, dCall, ordL, isPl, dAnd, dOr, dNot, dIfe, dTup, dLst, dSl, part, slP, seqP, setP, dMop, recv, mprim, line]
  have h2 : evS (Pm (denF T fuel (n + 3)) (some 0) fuel) (.asg (.tupN [5, 6]) (.tup [.call 9 (some 0) [.var 0, .k (.int 26)] [], .call 10 (some 0) [.var 0, .tup [.k (.int 2), .k (.int 2), .k (.int 3), .k (.int 4)]] []])) [.own (.lst [.int a, .int b, .int c]), .val (.int 6), .val (.int 8), .val (.str LET), .own (.dct []), .un, .un, .un, .un, .un] =
      some (.nx, [.own (.lst [.int a2, .int b2, .int c2]), .val (.int 6), .val (.int 8), .val (.str LET), .own (.dct []), .val (.int off), .val (.int few), .un, .un, .un]) := by
    simp [evS_asg, ev_k, ev_gl, ev_var, ev_op, ev_tup, ev_lst, ev_dct0, ev_sl, ev_mop, ev_and, ev_or, ev_not, ev_ife, ev_call, evL_nil, evL_cons, evG_nm, evG_tupN, evG_tup, evG_sub, evGs_nil, evGs_cons, Pm_F, Pm_io, Pm_fuel, mkDn, seqA, seqE, dVar, dOp, rd, getAll, Arg.get, prim, WT.settle, WT.imm, tru, isBl, gnTup, gnAll, gnSub, gnNm, gnTupN, gnNms, setPrim, immL, immEl, frz1, frz, sRet, mkSl, dCall, ordL, isPl, dAnd, dOr, dNot, dIfe, dTup, dLst, dSl, part, slP, seqP, setP, dMop, recv, mprim, line, e1, e2]
  have hc := comp_e (P := Pm (denF T fuel (n + 3)) (some 0) fuel) (vs := [8]) (tg := .nm 8) (it := .range [.var 6]) (e := .op .ix [.var 3, .op .mod [.op .int [.op .add [.var 5, .op .mul [.k (.int 5), .var 8]]], .k (.int 26)]])
    (Γ := [.own (.lst [.int a2, .int b2, .int c2]), .val (.int 6), .val (.int 8), .val (.str LET), .own (.dct []), .val (.int off), .val (.int few), .un, .un, .un]) (Γ1 := [.own (.lst [.int a2, .int b2, .int c2]), .val (.int 6), .val (.int 8), .val (.str LET), .own (.dct []), .val (.int off), .val (.int few), .un, .un, .un]) (ds := (rangeL 0 few.toNat).map .int) (by
      have hb : few.natAbs < 2 ^ 60 := by omega
      simp [evI_range, inRange, ev_k, ev_gl, ev_var, ev_op, ev_tup, ev_lst, ev_dct0, ev_sl, ev_mop, ev_and, ev_or, ev_not, ev_ife, ev_call, evL_nil, evL_cons, evG_nm, evG_tupN, evG_tup, evG_sub, evGs_nil, evGs_cons, Pm_F, Pm_io, Pm_fuel, mkDn, seqA, seqE, dVar, dOp, rd, getAll, Arg.get, prim, WT.settle, WT.imm, tru, isBl, gnTup, gnAll, gnSub, gnNm, gnTupN, gnNms, setPrim, immL, immEl, frz1, frz, sRet, mkSl, dCall, ordL, isPl, dAnd, dOr, dNot, dIfe, dTup, dLst, dSl, part, slP, seqP, setP, dMop, recv, mprim, rangeD, hb]) rfl ec
  have h3 : evS (Pm (denF T fuel (n + 3)) (some 0) fuel) (.asg (.nm 7) (.comp [8] (.nm 8) (.range [.var 6]) none (.op .ix [.var 3, .op .mod [.op .int [.op .add [.var 5, .op .mul [.k (.int 5), .var 8]]], .k (.int 26)]]))) [.own (.lst [.int a2, .int b2, .int c2]), .val (.int 6), .val (.int 8), .val (.str LET), .own (.dct []), .val (.int off), .val (.int few), .un, .un, .un] =
      some (.nx, WΓ a2 b2 c2 [] off few ls .un) := by
    rw [evS_asg, hc]
    simp [evG_nm, gnNm, Pm_io, mkSl, WT.imm, backE]
  have h4 : evI (Pm (denF T fuel (n + 3)) (some 0) fuel) (.range [.var 1]) (WΓ a2 b2 c2 [] off few ls .un) = some ((rangeL 0 6).map .int, WΓ a2 b2 c2 [] off few ls .un) := by
    simp [evI_range, inRange, ev_k, ev_gl, ev_var, ev_op, ev_tup, ev_lst, ev_dct0, ev_sl, ev_mop, ev_and, ev_or, ev_not, ev_ife, ev_call, evL_nil, evL_cons, evG_nm, evG_tupN, evG_tup, evG_sub, evGs_nil, evGs_cons, Pm_F, Pm_io, Pm_fuel, mkDn, seqA, seqE, dVar, dOp, rd, getAll, Arg.get, prim, WT.settle, WT.imm, tru, isBl, gnTup, gnAll, gnSub, gnNm, gnTupN, gnNms, setPrim, immL, immEl, frz1, frz, sRet, mkSl, dCall, ordL, isPl, dAnd, dOr, dNot, dIfe, dTup, dLst, dSl, part, slP, seqP, setP, dMop, recv, mprim, rangeD]
  simp only [fd13, b13, evSs_cons, fin, evS_for]
  rw [e0, show evS (Pm (denF T fuel (n + 3)) (some 0) fuel) (.asg (.tupN [3, 4]) (.tup [.k (.str [97, 98, 99, 100, 101, 102, 103, 104, 105, 106, 107, 108, 109, 110, 111, 112, 113, 114, 115, 116, 117, 118, 119, 120, 121, 122]), .dct0])) _ = _ from h1]
  simp only [Option.bind_some]
  rw [h2]
  simp only [Option.bind_some]
  rw [h3]
  simp only [Option.bind_some]
  rw [h4]
  simp only [Option.bind_some]
  rw [ef]
  have hs : asStrs (ws.map .str) = some ws := asStrs_map ws
  have hi : asInts (ws.map .str) = none := by
    cases ws with
    | nil => exact absurd rfl wne
    | cons w r => rfl
  have hl6 : ws.length < 64 := by omega
  have i1 := immL_strs ws
  have i2 := immL_strs (ws.mergeSort leS)
  simp only [Option.bind_some, evS_ret, sRet]
  simp [ev_k, ev_gl, ev_var, ev_op, ev_tup, ev_lst, ev_dct0, ev_sl, ev_mop, ev_and, ev_or, ev_not, ev_ife, ev_call, evL_nil, evL_cons, evG_nm, evG_tupN, evG_tup, evG_sub, evGs_nil, evGs_cons, Pm_F, Pm_io, Pm_fuel, mkDn, seqA, seqE, dVar, dOp, rd, getAll, Arg.get, prim, WT.settle, WT.imm, tru, isBl, gnTup, gnAll, gnSub, gnNm, gnTupN, gnNms, setPrim, immL, immEl, frz1, frz, sRet, mkSl, dCall, ordL, isPl, dAnd, dOr, dNot, dIfe, dTup, dLst, dSl, part, slP, seqP, setP, dMop, recv, mprim, p_list, p_sorted, p_tuple, ew, hs, hi, hl6, i1, i2, out, evSs_nil]
end K56

namespace K56
open PySem L2 WT
/-! ### marks -/
def f0 (w o : List Nat) (k : Nat) : Int := if at_ w k = at_ o k then 2 else 0
def F0 (w o : List Nat) : List Int := (List.range w.length).map (f0 w o)
def L0 (w o : List Nat) : List Nat := ((List.range w.length).filter fun k => f0 w o k == 0).map (at_ o)
abbrev St := List Int × List Nat
def mstep (w : List Nat) (st : St) (k : Nat) : St := if st.1.getD k 0 = 0 ∧ at_ w k ∈ st.2 then (st.1.set k 1, st.2.erase (at_ w k)) else st
def mloop (w : List Nat) (ks : List Nat) (st : St) : St := ks.foldl (mstep w) st
def marks (w o : List Nat) : List Int := (mloop w (List.range w.length) (F0 w o, L0 w o)).1
theorem mstep_len (w : List Nat) (st : St) (k : Nat) : (mstep w st k).1.length = st.1.length := by
  unfold mstep
  split <;> simp
theorem mstep_len2 (w : List Nat) (st : St) (k : Nat) : (mstep w st k).2.length ≤ st.2.length := by
  unfold mstep
  split
  · exact List.length_erase_le
  · exact Nat.le_refl _
theorem zip_eq (w o : List Nat) (h : w.length = o.length) : zipD (sgs w) (sgs o) = (List.range w.length).map fun (k : Nat) => D.tup [.str [at_ w k], .str [at_ o k]] := by
  apply List.ext_getElem?
  intro i
  rcases Nat.lt_or_ge i w.length with hi | hi
  · have e1 : (sgs w)[i]? = some (.str [at_ w i]) := by
      rw [sgs, List.getElem?_map, List.getElem?_eq_getElem hi]; simp [at_, hi]
    have e2 : (sgs o)[i]? = some (.str [at_ o i]) := by
      have : i < o.length := by omega
      rw [sgs, List.getElem?_map, List.getElem?_eq_getElem this]; simp [at_, this]
    rw [zipD_get e1 e2, List.getElem?_map, List.getElem?_range hi]; rfl
  · rw [List.getElem?_eq_none (by rw [zipD_len, sgs_len, sgs_len]; omega), List.getElem?_eq_none (by simpa using hi)]
theorem zip_eq2 (w o : List Nat) (h : w.length = o.length) : zipD ((F0 w o).map .int) (sgs o) = (List.range w.length).map fun (k : Nat) => D.tup [.int (f0 w o k), .str [at_ o k]] := by
  apply List.ext_getElem?
  intro i
  rcases Nat.lt_or_ge i w.length with hi | hi
  · have e1 : ((F0 w o).map D.int)[i]? = some (.int (f0 w o i)) := by
      rw [F0, List.getElem?_map, List.getElem?_map, List.getElem?_range hi]; rfl
    have e2 : (sgs o)[i]? = some (.str [at_ o i]) := by
      have : i < o.length := by omega
      rw [sgs, List.getElem?_map, List.getElem?_eq_getElem this]; simp [at_, this]
    rw [zipD_get e1 e2, List.getElem?_map, List.getElem?_range hi]; rfl
  · rw [List.getElem?_eq_none (by rw [zipD_len, sgs_len, List.length_map, F0, List.length_map, List.length_range]; omega), List.getElem?_eq_none (by simpa using hi)]
theorem immL_sgs : ∀ (w : List Nat), immL (sgs w) = true
  | [] => rfl
  | c :: r => by
    have := immL_sgs r
    simp only [sgs] at this
    simp [sgs, immL, WT.imm, this]
theorem shalL_sgs (n : Nat) : ∀ (w : List Nat), shalL n (sgs w) = true
  | [] => rfl
  | c :: r => by
    have := shalL_sgs n r
    simp only [sgs] at this
    simp [sgs, shalL, shal, this]
theorem any_sgs (c : Nat) : ∀ (l : List Nat), ((sgs l).any fun y => deq y (.str [c])) = decide (c ∈ l)
  | [] => rfl
  | x :: r => by
    have := any_sgs c r
    simp only [sgs] at this
    simp only [sgs, List.map_cons, List.any_cons, this, deq]
    by_cases e : x = c
    · subst e; simp
    · have e2 : ¬ c = x := fun z => e z.symm
      simp [e, e2]
theorem asStrs_sgs : ∀ (l : List Nat), asStrs (sgs l) = some (l.map fun c => [c])
  | [] => rfl
  | x :: r => by
    have := asStrs_sgs r
    simp only [sgs] at this
    simp [sgs, asStrs, this]
theorem erase_idx (c : Nat) : ∀ (l : List Nat), c ∈ l → l.eraseIdx (l.idxOf c) = l.erase c
  | [], h => by cases h
  | x :: r, h => by
    by_cases e : x = c
    · subst e
      simp [List.idxOf_cons]
    · have hr : c ∈ r := by
        rcases List.mem_cons.mp h with q | q
        · exact absurd q.symm e
        · exact q
      have hb : (x == c) = false := beq_eq_false_iff_ne.mpr e
      rw [List.idxOf_cons, hb, List.erase_cons, hb]
      simp [erase_idx c r hr]
theorem sgs_erase (l : List Nat) (i : Nat) : (sgs l).eraseIdx i = sgs (l.eraseIdx i) := by
  unfold sgs
  induction l generalizing i with
  | nil => simp
  | cons a r ih =>
    cases i with
    | zero => simp
    | succ i => simp [ih]
theorem idx_map (c : Nat) : ∀ (l : List Nat), (l.map fun c => [c]).idxOf [c] = l.idxOf c
  | [] => rfl
  | x :: r => by
    rw [List.map_cons, List.idxOf_cons, List.idxOf_cons, idx_map c r]
    have : (([x] : List Nat) == [c]) = (x == c) := by simp
    rw [this]
theorem rem_ok (c : Nat) (l : List Nat) (h : c ∈ l) : q_remove (sgs l) [.str [c]] = some (.non, sgs (l.erase c)) := by
  unfold q_remove
  simp only [asStrs_sgs, Option.bind_some]
  rw [if_pos (by simpa using h), idx_map, sgs_erase, erase_idx c l h]
theorem idx_ok (c : Nat) : ∀ (l : List Nat), c ∈ l → idx? (.str [c]) (sgs l) = some (l.idxOf c)
  | [], h => by cases h
  | x :: r, h => by
    show (if deq (.str [x]) (.str [c]) then some 0 else (idx? (.str [c]) (sgs r)).map (· + 1)) = _
    by_cases e : x = c
    · subst e
      simp [deq, List.idxOf_cons]
    · have hr : c ∈ r := by
        rcases List.mem_cons.mp h with q | q
        · exact absurd q.symm e
        · exact q
      have hb : (x == c) = false := beq_eq_false_iff_ne.mpr e
      rw [idx_ok c r hr, List.idxOf_cons, hb]
      simp [deq, e]
theorem pop_ok (c : Nat) (l : List Nat) (h : c ∈ l) (hl : l.length ≤ 100) : q_popAt (sgs l) [.int ((l.idxOf c : Nat) : Int)] = some (.str [c], sgs (l.erase c)) := by
  have hi : l.idxOf c < l.length := List.idxOf_lt_length_of_mem h
  unfold q_popAt
  simp only
  rw [if_pos ⟨by omega, by omega⟩]
  have hx : ixN (sgs l).length ((l.idxOf c : Nat) : Int) = some (l.idxOf c) := by
    unfold ixN
    rw [if_pos (by omega), if_pos (by rw [sgs_len]; omega)]
    simp
  have hg : (sgs l)[l.idxOf c]? = some (.str [c]) := by
    rw [sgs, List.getElem?_map, List.getElem?_eq_getElem hi]
    simp
  rw [hx]
  simp only [Option.bind_some, hg, Option.map_some]
  rw [sgs_erase, erase_idx c l h]
theorem fget {f : List Int} {k : Nat} (h : k < f.length) : atI (f.map D.int) (k : Int) = some (.int (f.getD k 0)) := by
  unfold atI ixN
  rw [if_pos (by omega), if_pos (by simpa using h)]
  simp [h]
theorem fset {f : List Int} {k : Nat} (h : k < f.length) : setPrim (.lst (f.map D.int)) (.int (k : Int)) (.int 1) = some (.lst ((f.set k 1).map .int)) := by
  simp only [setPrim]
  have : ixN (f.map D.int).length (k : Int) = some k := by
    unfold ixN
    rw [if_pos (by omega), if_pos (by simpa using h)]
    simp
  rw [this]
  simp [List.map_set]
abbrev MΓ (w o : List Nat) (st : St) (a b c d e : Sl) : WT.Env := [.val (.str w), .val (.str o), .own (.lst (st.1.map .int)), a, b, .own (.lst (sgs st.2)), c, d, e]
def mb : List WT.S := [.ife (.and (.op .eq [.op .ix [.var 2, .var 7], .k (.int 0)]) (.op .isin [.var 8, .var 5])) [.asg (.sub 2 (.var 7)) (.gl [84, 72, 69, 82, 69] (.int 1)), .expr (.meth .remove 5 [.var 8])] []]
theorem markStep (P : Prm) (hio : ∀ i, P.io i = false) (w o : List Nat) (st : St) (k : Nat) (hk : k < st.1.length) (a b c : Sl) :
    evSs P mb (MΓ w o st a b c (.val (.int k)) (.val (.str [at_ w k]))) = some (.nx, MΓ w o (mstep w st k) a b c (.val (.int k)) (.val (.str [at_ w k]))) := by
  have h1 := fget hk
  have h2 := shalL_sgs 59 st.2
  have h3 := any_sgs (at_ w k) st.2
  have t : (ev P (.and (.op .eq [.op .ix [.var 2, .var 7], .k (.int 0)]) (.op .isin [.var 8, .var 5]))).t (MΓ w o st a b c (.val (.int k)) (.val (.str [at_ w k]))) = some (decide (st.1.getD k 0 = 0) && decide (at_ w k ∈ st.2), MΓ w o st a b c (.val (.int k)) (.val (.str [at_ w k]))) := by
    rw [ev_and]
    refine and_t (op_t (fr := true) ?_) fun _ => op_t (fr := true) ?_
    · simp [ev_k, ev_gl, ev_var, ev_op, ev_tup, ev_lst, ev_dct0, ev_sl, ev_mop, ev_and, ev_or, ev_not, ev_ife, ev_call, evL_nil, evL_cons, evG_nm, evG_tupN, evG_tup, evG_sub, evGs_nil, evGs_cons, Pm_F, Pm_io, Pm_fuel, mkDn, seqA, seqE, dVar, dOp, rd, getAll, Arg.get, prim, WT.settle, WT.imm, tru, isBl, gnTup, gnAll, gnSub, gnNm, gnTupN, gnNms, setPrim, immL, immEl, frz1, frz, sRet, mkSl, dCall, ordL, isPl, dAnd, dOr, dNot, dIfe, dTup, dLst, dSl, part, slP, seqP, setP, dMop, recv, mprim, p_ix, p_eq, h1, shal, deq]
      by_cases e : st.1[k]?.getD 0 = 0 <;> simp [e]
    · simp [ev_k, ev_gl, ev_var, ev_op, ev_tup, ev_lst, ev_dct0, ev_sl, ev_mop, ev_and, ev_or, ev_not, ev_ife, ev_call, evL_nil, evL_cons, evG_nm, evG_tupN, evG_tup, evG_sub, evGs_nil, evGs_cons, Pm_F, Pm_io, Pm_fuel, mkDn, seqA, seqE, dVar, dOp, rd, getAll, Arg.get, prim, WT.settle, WT.imm, tru, isBl, gnTup, gnAll, gnSub, gnNm, gnTupN, gnNms, setPrim, immL, immEl, frz1, frz, sRet, mkSl, dCall, ordL, isPl, dAnd, dOr, dNot, dIfe, dTup, dLst, dSl, part, slP, seqP, setP, dMop, recv, mprim, p_isin, h2, h3, shal]
  unfold mb
  simp only [evSs_cons, evS_ife, t, Option.bind_some, evSs_nil]
  by_cases c1 : st.1.getD k 0 = 0
  · by_cases c2 : at_ w k ∈ st.2
    · have h4 := fset hk
      have h5 := rem_ok (at_ w k) st.2 c2
      have hm : mstep w st k = (st.1.set k 1, st.2.erase (at_ w k)) := if_pos ⟨c1, c2⟩
      have q1 : evS P (.asg (.sub 2 (.var 7)) (.gl [84, 72, 69, 82, 69] (.int 1))) (MΓ w o st a b c (.val (.int k)) (.val (.str [at_ w k]))) = some (.nx, MΓ w o (st.1.set k 1, st.2) a b c (.val (.int k)) (.val (.str [at_ w k]))) := by
        have ixk : ixN st.1.length (k : Int) = some k := by
          unfold ixN
          rw [if_pos (by omega), if_pos (by omega)]
          simp
        simp [evS_asg, ev_k, ev_gl, ev_var, ev_op, ev_tup, ev_lst, ev_dct0, ev_sl, ev_mop, ev_and, ev_or, ev_not, ev_ife, ev_call, evL_nil, evL_cons, evG_nm, evG_tupN, evG_tup, evG_sub, evGs_nil, evGs_cons, Pm_F, Pm_io, Pm_fuel, mkDn, seqA, seqE, dVar, dOp, rd, getAll, Arg.get, prim, WT.settle, WT.imm, tru, isBl, gnTup, gnAll, gnSub, gnNm, gnTupN, gnNms, setPrim, immL, immEl, frz1, frz, sRet, mkSl, dCall, ordL, isPl, dAnd, dOr, dNot, dIfe, dTup, dLst, dSl, part, slP, seqP, setP, dMop, recv, mprim, ixk, List.map_set]
      have q2 : evS P (.expr (.meth .remove 5 [.var 8])) (MΓ w o (st.1.set k 1, st.2) a b c (.val (.int k)) (.val (.str [at_ w k]))) = some (.nx, MΓ w o (st.1.set k 1, st.2.erase (at_ w k)) a b c (.val (.int k)) (.val (.str [at_ w k]))) := by
        simp [evS_expr, ev_meth, dMeth, mtPrim, ev_k, ev_gl, ev_var, ev_op, ev_tup, ev_lst, ev_dct0, ev_sl, ev_mop, ev_and, ev_or, ev_not, ev_ife, ev_call, evL_nil, evL_cons, evG_nm, evG_tupN, evG_tup, evG_sub, evGs_nil, evGs_cons, Pm_F, Pm_io, Pm_fuel, mkDn, seqA, seqE, dVar, dOp, rd, getAll, Arg.get, prim, WT.settle, WT.imm, tru, isBl, gnTup, gnAll, gnSub, gnNm, gnTupN, gnNms, setPrim, immL, immEl, frz1, frz, sRet, mkSl, dCall, ordL, isPl, dAnd, dOr, dNot, dIfe, dTup, dLst, dSl, part, slP, seqP, setP, dMop, recv, mprim, h5]
      rw [hm, decide_eq_true c1, decide_eq_true c2]
      simp only [Bool.and_self, if_true, q1, Option.bind_some, q2]
    · have hm : mstep w st k = st := if_neg (fun z => c2 z.2)
      rw [hm, decide_eq_false c2]
      simp
  · have hm : mstep w st k = st := if_neg (fun z => c1 z.1)
    rw [hm, decide_eq_false c1]
    simp
theorem markLoop (P : Prm) (hio : ∀ i, P.io i = false) (w o : List Nat) (a b c : Sl) : ∀ (ks : List Nat) (st : St) (d e : Sl), (∀ k ∈ ks, k < st.1.length) →
    ∃ d' e', forL (evG P (.tupN [7, 8])) (evSs P mb) (ks.map fun (k : Nat) => D.tup [.int (k : Int), .str [at_ w k]]) (MΓ w o st a b c d e) = some (.nx, MΓ w o (mloop w ks st) a b c d' e')
  | [], st, d, e, _ => ⟨d, e, rfl⟩
  | k :: ks, st, d, e, h => by
    obtain ⟨d', e', h2⟩ := markLoop P hio w o a b c ks (mstep w st k) (.val (.int k)) (.val (.str [at_ w k])) fun j hj => by rw [mstep_len]; exact h j (List.mem_cons_of_mem _ hj)
    refine ⟨d', e', (forL_nx (Γ1 := MΓ w o st a b c (.val (.int k)) (.val (.str [at_ w k]))) ?_ (markStep P hio w o st k (h k List.mem_cons_self) a b c)).trans h2⟩
    simp [ev_k, ev_gl, ev_var, ev_op, ev_tup, ev_lst, ev_dct0, ev_sl, ev_mop, ev_and, ev_or, ev_not, ev_ife, ev_call, evL_nil, evL_cons, evG_nm, evG_tupN, evG_tup, evG_sub, evGs_nil, evGs_cons, Pm_F, Pm_io, Pm_fuel, mkDn, seqA, seqE, dVar, dOp, rd, getAll, Arg.get, prim, WT.settle, WT.imm, tru, isBl, gnTup, gnAll, gnSub, gnNm, gnTupN, gnNms, setPrim, immL, immEl, frz1, frz, sRet, mkSl, dCall, ordL, isPl, dAnd, dOr, dNot, dIfe, dTup, dLst, dSl, part, slP, seqP, setP, dMop, recv, mprim, hio]
def fz : D → D
  | .tup [.str a, .str b] => .int (if a == b then 2 else 0)
  | _ => .non
def pz : D → Bool
  | .tup [.int m, _] => m == 0
  | _ => false
def sz : D → D
  | .tup [_, b] => b
  | _ => .non
theorem F0_len (w o : List Nat) : (F0 w o).length = w.length := by simp [F0]
theorem fz_eq (w o : List Nat) : (((List.range w.length).map fun (k : Nat) => D.tup [.str [at_ w k], .str [at_ o k]]).map fz) = (F0 w o).map .int := by
  rw [List.map_map, F0, List.map_map]
  apply List.map_congr_left
  intro k _
  simp [fz, f0]
theorem sz_eq (w o : List Nat) : ((((List.range w.length).map fun (k : Nat) => D.tup [.int (f0 w o k), .str [at_ o k]]).filter pz).map sz) = sgs (L0 w o) := by
  rw [List.filter_map, List.map_map, L0, sgs, List.map_map]
  have : (pz ∘ fun (k : Nat) => D.tup [.int (f0 w o k), .str [at_ o k]]) = fun k => f0 w o k == 0 := by
    funext k; rfl
  rw [this]
  rfl
theorem marks_len (w o : List Nat) : ∀ (ks : List Nat) (st : St), (mloop w ks st).1.length = st.1.length
  | [], st => rfl
  | k :: ks, st => by
    show (mloop w ks (mstep w st k)).1.length = _
    rw [marks_len w o ks, mstep_len]
theorem marksBy (fuel n : Nat) (w o : List Nat) (hw : GW w) (ho : GW o) (hl : w.length = o.length) : denF T fuel (n + 1) 5 [.str w, .str o] = some (.tup ((marks w o).map .int), true, none) := by
  have l1 := hw.line
  have l2 := ho.line
  have e0 : startE 0 none [.str w, .str o] 9 = [.val (.str w), .val (.str o), .un, .un, .un, .un, .un, .un, .un] := rfl
  have c1 := comp_pure (P := Pm (denF T fuel n) none fuel) (vs := [3, 4]) (tg := .tupN [3, 4]) (it := .zip (.var 0) (.var 1)) (e := .ife (.op .eq [.var 3, .var 4]) (.gl [82, 73, 71, 72, 84] (.int 2)) (.k (.int 0)))
    (Γ := [.val (.str w), .val (.str o), .un, .un, .un, .un, .un, .un, .un]) (Γ1 := [.val (.str w), .val (.str o), .un, .un, .un, .un, .un, .un, .un]) (ds := zipD (sgs w) (sgs o)) fz (by
      simp [evI_zip, inZip, ev_k, ev_gl, ev_var, ev_op, ev_tup, ev_lst, ev_dct0, ev_sl, ev_mop, ev_and, ev_or, ev_not, ev_ife, ev_call, evL_nil, evL_cons, evG_nm, evG_tupN, evG_tup, evG_sub, evGs_nil, evGs_cons, Pm_F, Pm_io, Pm_fuel, mkDn, seqA, seqE, dVar, dOp, rd, getAll, Arg.get, prim, WT.settle, WT.imm, tru, isBl, gnTup, gnAll, gnSub, gnNm, gnTupN, gnNms, setPrim, immL, immEl, frz1, frz, sRet, mkSl, dCall, ordL, isPl, dAnd, dOr, dNot, dIfe, dTup, dLst, dSl, part, slP, seqP, setP, dMop, recv, mprim, items, sgs]) rfl (by rw [zipD_len, sgs_len]; omega) (fun d hd => by
      rw [zip_eq w o hl] at hd
      obtain ⟨k, hk, rfl⟩ := List.mem_map.mp hd
      refine ⟨[.val (.str w), .val (.str o), .un, .val (.str [at_ w k]), .val (.str [at_ o k]), .un, .un, .un, .un], by simp [wipeE, ev_k, ev_gl, ev_var, ev_op, ev_tup, ev_lst, ev_dct0, ev_sl, ev_mop, ev_and, ev_or, ev_not, ev_ife, ev_call, evL_nil, evL_cons, evG_nm, evG_tupN, evG_tup, evG_sub, evGs_nil, evGs_cons, Pm_F, Pm_io, Pm_fuel, mkDn, seqA, seqE, dVar, dOp, rd, getAll, Arg.get, prim, WT.settle, WT.imm, tru, isBl, gnTup, gnAll, gnSub, gnNm, gnTupN, gnNms, setPrim, immL, immEl, frz1, frz, sRet, mkSl, dCall, ordL, isPl, dAnd, dOr, dNot, dIfe, dTup, dLst, dSl, part, slP, seqP, setP, dMop, recv, mprim], ?_, rfl⟩
      by_cases e : at_ w k = at_ o k
      · simp [ev_k, ev_gl, ev_var, ev_op, ev_tup, ev_lst, ev_dct0, ev_sl, ev_mop, ev_and, ev_or, ev_not, ev_ife, ev_call, evL_nil, evL_cons, evG_nm, evG_tupN, evG_tup, evG_sub, evGs_nil, evGs_cons, Pm_F, Pm_io, Pm_fuel, mkDn, seqA, seqE, dVar, dOp, rd, getAll, Arg.get, prim, WT.settle, WT.imm, tru, isBl, gnTup, gnAll, gnSub, gnNm, gnTupN, gnNms, setPrim, immL, immEl, frz1, frz, sRet, mkSl, dCall, ordL, isPl, dAnd, dOr, dNot, dIfe, dTup, dLst, dSl, part, slP, seqP, setP, dMop, recv, mprim, p_eq, shal, deq, e, fz]
      · simp [ev_k, ev_gl, ev_var, ev_op, ev_tup, ev_lst, ev_dct0, ev_sl, ev_mop, ev_and, ev_or, ev_not, ev_ife, ev_call, evL_nil, evL_cons, evG_nm, evG_tupN, evG_tup, evG_sub, evGs_nil, evGs_cons, Pm_F, Pm_io, Pm_fuel, mkDn, seqA, seqE, dVar, dOp, rd, getAll, Arg.get, prim, WT.settle, WT.imm, tru, isBl, gnTup, gnAll, gnSub, gnNm, gnTupN, gnNms, setPrim, immL, immEl, frz1, frz, sRet, mkSl, dCall, ordL, isPl, dAnd, dOr, dNot, dIfe, dTup, dLst, dSl, part, slP, seqP, setP, dMop, recv, mprim, p_eq, shal, deq, e, fz])
  rw [zip_eq w o hl, fz_eq] at c1
  have s1 : evS (Pm (denF T fuel n) none fuel) (.asg (.nm 2) (.comp [3, 4] (.tupN [3, 4]) (.zip (.var 0) (.var 1)) none (.ife (.op .eq [.var 3, .var 4]) (.gl [82, 73, 71, 72, 84] (.int 2)) (.k (.int 0))))) [.val (.str w), .val (.str o), .un, .un, .un, .un, .un, .un, .un] =
      some (.nx, [.val (.str w), .val (.str o), .own (.lst ((F0 w o).map .int)), .un, .un, .un, .un, .un, .un]) := by
    rw [evS_asg, c1]
    simp [ev_k, ev_gl, ev_var, ev_op, ev_tup, ev_lst, ev_dct0, ev_sl, ev_mop, ev_and, ev_or, ev_not, ev_ife, ev_call, evL_nil, evL_cons, evG_nm, evG_tupN, evG_tup, evG_sub, evGs_nil, evGs_cons, Pm_F, Pm_io, Pm_fuel, mkDn, seqA, seqE, dVar, dOp, rd, getAll, Arg.get, prim, WT.settle, WT.imm, tru, isBl, gnTup, gnAll, gnSub, gnNm, gnTupN, gnNms, setPrim, immL, immEl, frz1, frz, sRet, mkSl, dCall, ordL, isPl, dAnd, dOr, dNot, dIfe, dTup, dLst, dSl, part, slP, seqP, setP, dMop, recv, mprim]
  have c2 := compof_pure (P := Pm (denF T fuel n) none fuel) (i := 2) (j := some 1) (vs := [6, 4]) (tg := .tupN [6, 4]) (c := .op .eq [.var 6, .k (.int 0)]) (e := .var 4)
    (Γ := [.val (.str w), .val (.str o), .own (.lst ((F0 w o).map .int)), .un, .un, .un, .un, .un, .un]) (xs := (F0 w o).map .int) (ds := zipD ((F0 w o).map .int) (sgs o)) pz sz rfl (immL_ints _) (by
      have := immL_sgs o
      simp only [sgs] at this
      simp [hidI, rd, items, sgs, WT.imm, this]) rfl rfl (by rw [zipD_len, sgs_len]; omega) (fun d hd => by
      rw [zip_eq2 w o hl] at hd
      obtain ⟨k, hk, rfl⟩ := List.mem_map.mp hd
      refine ⟨[.val (.str w), .val (.str o), .un, .un, .val (.str [at_ o k]), .un, .val (.int (f0 w o k)), .un, .un], by simp [wipeE, ev_k, ev_gl, ev_var, ev_op, ev_tup, ev_lst, ev_dct0, ev_sl, ev_mop, ev_and, ev_or, ev_not, ev_ife, ev_call, evL_nil, evL_cons, evG_nm, evG_tupN, evG_tup, evG_sub, evGs_nil, evGs_cons, Pm_F, Pm_io, Pm_fuel, mkDn, seqA, seqE, dVar, dOp, rd, getAll, Arg.get, prim, WT.settle, WT.imm, tru, isBl, gnTup, gnAll, gnSub, gnNm, gnTupN, gnNms, setPrim, immL, immEl, frz1, frz, sRet, mkSl, dCall, ordL, isPl, dAnd, dOr, dNot, dIfe, dTup, dLst, dSl, part, slP, seqP, setP, dMop, recv, mprim], ?_, fun _ => by simp [ev_k, ev_gl, ev_var, ev_op, ev_tup, ev_lst, ev_dct0, ev_sl, ev_mop, ev_and, ev_or, ev_not, ev_ife, ev_call, evL_nil, evL_cons, evG_nm, evG_tupN, evG_tup, evG_sub, evGs_nil, evGs_cons, Pm_F, Pm_io, Pm_fuel, mkDn, seqA, seqE, dVar, dOp, rd, getAll, Arg.get, prim, WT.settle, WT.imm, tru, isBl, gnTup, gnAll, gnSub, gnNm, gnTupN, gnNms, setPrim, immL, immEl, frz1, frz, sRet, mkSl, dCall, ordL, isPl, dAnd, dOr, dNot, dIfe, dTup, dLst, dSl, part, slP, seqP, setP, dMop, recv, mprim, sz], rfl⟩
      simp [ev_k, ev_gl, ev_var, ev_op, ev_tup, ev_lst, ev_dct0, ev_sl, ev_mop, ev_and, ev_or, ev_not, ev_ife, ev_call, evL_nil, evL_cons, evG_nm, evG_tupN, evG_tup, evG_sub, evGs_nil, evGs_cons, Pm_F, Pm_io, Pm_fuel, mkDn, seqA, seqE, dVar, dOp, rd, getAll, Arg.get, prim, WT.settle, WT.imm, tru, isBl, gnTup, gnAll, gnSub, gnNm, gnTupN, gnNms, setPrim, immL, immEl, frz1, frz, sRet, mkSl, dCall, ordL, isPl, dAnd, dOr, dNot, dIfe, dTup, dLst, dSl, part, slP, seqP, setP, dMop, recv, mprim, p_eq, shal, deq, pz])
  rw [zip_eq2 w o hl, sz_eq] at c2
  have s2 : evS (Pm (denF T fuel n) none fuel) (.asg (.nm 5) (.compo 2 (some 1) [6, 4] (.tupN [6, 4]) (some (.op .eq [.var 6, .k (.int 0)])) (.var 4))) [.val (.str w), .val (.str o), .own (.lst ((F0 w o).map .int)), .un, .un, .un, .un, .un, .un] =
      some (.nx, MΓ w o (F0 w o, L0 w o) .un .un .un .un .un) := by
    rw [evS_asg, c2]
    simp [ev_k, ev_gl, ev_var, ev_op, ev_tup, ev_lst, ev_dct0, ev_sl, ev_mop, ev_and, ev_or, ev_not, ev_ife, ev_call, evL_nil, evL_cons, evG_nm, evG_tupN, evG_tup, evG_sub, evGs_nil, evGs_cons, Pm_F, Pm_io, Pm_fuel, mkDn, seqA, seqE, dVar, dOp, rd, getAll, Arg.get, prim, WT.settle, WT.imm, tru, isBl, gnTup, gnAll, gnSub, gnNm, gnTupN, gnNms, setPrim, immL, immEl, frz1, frz, sRet, mkSl, dCall, ordL, isPl, dAnd, dOr, dNot, dIfe, dTup, dLst, dSl, part, slP, seqP, setP, dMop, recv, mprim]
  obtain ⟨d', e', s3⟩ := markLoop (Pm (denF T fuel n) none fuel) (fun i => rfl) w o .un .un .un (List.range w.length) (F0 w o, L0 w o) .un .un (fun k hk => by rw [F0_len]; simpa using hk)
  have it : evI (Pm (denF T fuel n) none fuel) (.enum (.var 0)) (MΓ w o (F0 w o, L0 w o) .un .un .un .un .un) = some ((List.range w.length).map fun (k : Nat) => D.tup [.int (k : Int), .str [at_ w k]], MΓ w o (F0 w o, L0 w o) .un .un .un .un .un) := by
    rw [← enum_eq]
    simp [evI_enum, inEnum, ev_k, ev_gl, ev_var, ev_op, ev_tup, ev_lst, ev_dct0, ev_sl, ev_mop, ev_and, ev_or, ev_not, ev_ife, ev_call, evL_nil, evL_cons, evG_nm, evG_tupN, evG_tup, evG_sub, evGs_nil, evGs_cons, Pm_F, Pm_io, Pm_fuel, mkDn, seqA, seqE, dVar, dOp, rd, getAll, Arg.get, prim, WT.settle, WT.imm, tru, isBl, gnTup, gnAll, gnSub, gnNm, gnTupN, gnNms, setPrim, immL, immEl, frz1, frz, sRet, mkSl, dCall, ordL, isPl, dAnd, dOr, dNot, dIfe, dTup, dLst, dSl, part, slP, seqP, setP, dMop, recv, mprim, items, sgs]
  have hb : fd5.body = [.asg (.nm 2) (.comp [3, 4] (.tupN [3, 4]) (.zip (.var 0) (.var 1)) none (.ife (.op .eq [.var 3, .var 4]) (.gl [82, 73, 71, 72, 84] (.int 2)) (.k (.int 0)))), .asg (.nm 5) (.compo 2 (some 1) [6, 4] (.tupN [6, 4]) (some (.op .eq [.var 6, .k (.int 0)])) (.var 4)), .for (.tupN [7, 8]) (.enum (.var 0)) mb, .ret (.op .tuple [.var 2])] := rfl
  rw [den_of (fd := fd5) rfl rfl, hb]
  simp only [fd5, evSs_cons, fin]
  rw [e0, s1]
  simp only [Option.bind_some]
  rw [s2]
  simp only [Option.bind_some, evS_for]
  rw [it]
  simp only [Option.bind_some]
  rw [s3]
  have hi := immL_ints (marks w o)
  simp only [Option.bind_some, evS_ret]
  rw [sRet_of rfl]
  unfold marks at hi ⊢
  simp [ev_k, ev_gl, ev_var, ev_op, ev_tup, ev_lst, ev_dct0, ev_sl, ev_mop, ev_and, ev_or, ev_not, ev_ife, ev_call, evL_nil, evL_cons, evG_nm, evG_tupN, evG_tup, evG_sub, evGs_nil, evGs_cons, Pm_F, Pm_io, Pm_fuel, mkDn, seqA, seqE, dVar, dOp, rd, getAll, Arg.get, prim, WT.settle, WT.imm, tru, isBl, gnTup, gnAll, gnSub, gnNm, gnTupN, gnNms, setPrim, immL, immEl, frz1, frz, sRet, mkSl, dCall, ordL, isPl, dAnd, dOr, dNot, dIfe, dTup, dLst, dSl, part, slP, seqP, setP, dMop, recv, mprim, p_tuple, hi, out]
end K56

namespace K56
open PySem L2 WT
/-! ### the law's own marks -/
abbrev GΓ (w o : List Nat) (st : St) (d : Sl) : WT.Env := [.val (.str w), .val (.str o), .own (.lst (st.1.map .int)), d, .own (.lst (sgs st.2))]
def gb : List WT.S := [.ife (.and (.op .eq [.op .ix [.var 2, .var 3], .k (.int 0)]) (.op .isin [.op .ix [.var 0, .var 3], .var 4])) [.asg (.sub 2 (.var 3)) (.k (.int 1)), .expr (.meth .popAt 4 [.mop .lindex (.var 4) [.op .ix [.var 0, .var 3]]])] []]
theorem lidx (P : Prm) (w o : List Nat) (st : St) (k : Nat) (hkw : k < w.length) (l1 : w.length ≤ line) (c2 : at_ w k ∈ st.2) : (ev P (.mop .lindex (.var 4) [.op .ix [.var 0, .var 3]])).e (GΓ w o st (.val (.int k))) = some (.int ((st.2.idxOf (at_ w k) : Nat) : Int), true, GΓ w o st (.val (.int k))) := by
  have h0 := at_get hkw
  have h2 := shalL_sgs 59 st.2
  have h6 := idx_ok (at_ w k) st.2 c2
  have hix : (ev P (.op .ix [.var 0, .var 3])).a (GΓ w o st (.val (.int k))) = some (.v (.str [at_ w k]) true, GΓ w o st (.val (.int k))) := by
    simp [ev_k, ev_gl, ev_var, ev_op, ev_tup, ev_lst, ev_dct0, ev_sl, ev_mop, ev_and, ev_or, ev_not, ev_ife, ev_call, evL_nil, evL_cons, evG_nm, evG_tupN, evG_tup, evG_sub, evGs_nil, evGs_cons, Pm_F, Pm_io, Pm_fuel, mkDn, seqA, seqE, dVar, dOp, rd, getAll, Arg.get, prim, WT.settle, WT.imm, tru, isBl, gnTup, gnAll, gnSub, gnNm, gnTupN, gnNms, setPrim, immL, immEl, frz1, frz, sRet, mkSl, dCall, ordL, isPl, dAnd, dOr, dNot, dIfe, dTup, dLst, dSl, part, slP, seqP, setP, dMop, recv, mprim, p_ix, h0, l1]
  have hm : m_lindex (.lst (sgs st.2)) [.str [at_ w k]] = some (.int ((st.2.idxOf (at_ w k) : Nat) : Int), true) := by
    have hs : shal 59 (.str [at_ w k]) = true := by simp [shal]
    simp only [m_lindex, hs, h2, h6, Bool.and_self, if_true, Option.map_some]
  rw [ev_mop]
  simp only [dMop, mkDn, ev_var, dVar, rd, evL_cons, evL_nil, seqA, List.getElem?_cons_succ, List.getElem?_cons_zero, Option.map_some, Option.bind_some, Arg.get, recv, if_true, hix, getAll, mprim, hm]
  rfl
theorem mtPop : mtPrim .popAt = q_popAt := rfl
theorem lpop (P : Prm) (hio : ∀ i, P.io i = false) (w o : List Nat) (st : St) (hst : st.2.length ≤ 100) (k : Nat) (hkw : k < w.length) (l1 : w.length ≤ line) (c2 : at_ w k ∈ st.2) :
    evS P (.expr (.meth .popAt 4 [.mop .lindex (.var 4) [.op .ix [.var 0, .var 3]]])) (GΓ w o st (.val (.int k))) = some (.nx, GΓ w o (st.1, st.2.erase (at_ w k)) (.val (.int k))) := by
  have h5 : mtPrim .popAt (sgs st.2) [.int ((st.2.idxOf (at_ w k) : Nat) : Int)] = some (.str [at_ w k], sgs (st.2.erase (at_ w k))) := by
    rw [mtPop]
    exact pop_ok (at_ w k) st.2 c2 hst
  have h6 := lidx P w o st k hkw l1 c2
  have h7 : seqE (evL P [.mop .lindex (.var 4) [.op .ix [.var 0, .var 3]]]) (GΓ w o st (.val (.int k))) = some ([.int ((st.2.idxOf (at_ w k) : Nat) : Int)], true, GΓ w o st (.val (.int k))) := by
    simp only [evL_cons, evL_nil, seqE, h6, Option.bind_some, Option.map_some, Bool.and_self]
  exact expr_meth (meth_e (Γ := GΓ w o st (.val (.int k))) rfl h7 rfl h5)
theorem lmarkStep (P : Prm) (hio : ∀ i, P.io i = false) (w o : List Nat) (hw : w.length ≤ 8) (st : St) (hst : st.2.length ≤ 100) (k : Nat) (hk : k < st.1.length) (hkw : k < w.length) :
    evSs P gb (GΓ w o st (.val (.int k))) = some (.nx, GΓ w o (mstep w st k) (.val (.int k))) := by
  have l1 : w.length ≤ line := by unfold line; omega
  have h0 := at_get hkw
  have h1 := fget hk
  have h2 := shalL_sgs 59 st.2
  have h3 := any_sgs (at_ w k) st.2
  have t : (ev P (.and (.op .eq [.op .ix [.var 2, .var 3], .k (.int 0)]) (.op .isin [.op .ix [.var 0, .var 3], .var 4]))).t (GΓ w o st (.val (.int k))) = some (decide (st.1.getD k 0 = 0) && decide (at_ w k ∈ st.2), GΓ w o st (.val (.int k))) := by
    rw [ev_and]
    refine and_t (op_t (fr := true) ?_) fun _ => op_t (fr := true) ?_
    · simp [ev_k, ev_gl, ev_var, ev_op, ev_tup, ev_lst, ev_dct0, ev_sl, ev_mop, ev_and, ev_or, ev_not, ev_ife, ev_call, evL_nil, evL_cons, evG_nm, evG_tupN, evG_tup, evG_sub, evGs_nil, evGs_cons, Pm_F, Pm_io, Pm_fuel, mkDn, seqA, seqE, dVar, dOp, rd, getAll, Arg.get, prim, WT.settle, WT.imm, tru, isBl, gnTup, gnAll, gnSub, gnNm, gnTupN, gnNms, setPrim, immL, immEl, frz1, frz, sRet, mkSl, dCall, ordL, isPl, dAnd, dOr, dNot, dIfe, dTup, dLst, dSl, part, slP, seqP, setP, dMop, recv, mprim, p_ix, p_eq, h1, shal, deq]
      by_cases e : st.1[k]?.getD 0 = 0 <;> simp [e]
    · simp [ev_k, ev_gl, ev_var, ev_op, ev_tup, ev_lst, ev_dct0, ev_sl, ev_mop, ev_and, ev_or, ev_not, ev_ife, ev_call, evL_nil, evL_cons, evG_nm, evG_tupN, evG_tup, evG_sub, evGs_nil, evGs_cons, Pm_F, Pm_io, Pm_fuel, mkDn, seqA, seqE, dVar, dOp, rd, getAll, Arg.get, prim, WT.settle, WT.imm, tru, isBl, gnTup, gnAll, gnSub, gnNm, gnTupN, gnNms, setPrim, immL, immEl, frz1, frz, sRet, mkSl, dCall, ordL, isPl, dAnd, dOr, dNot, dIfe, dTup, dLst, dSl, part, slP, seqP, setP, dMop, recv, mprim, p_ix, p_isin, h0, l1, h2, h3, shal]
  unfold gb
  simp only [evSs_cons, evS_ife, t, Option.bind_some, evSs_nil]
  by_cases c1 : st.1.getD k 0 = 0
  · by_cases c2 : at_ w k ∈ st.2
    · have h5 := pop_ok (at_ w k) st.2 c2 hst
      have h6 := idx_ok (at_ w k) st.2 c2
      have hm : mstep w st k = (st.1.set k 1, st.2.erase (at_ w k)) := if_pos ⟨c1, c2⟩
      have q1 : evS P (.asg (.sub 2 (.var 3)) (.k (.int 1))) (GΓ w o st (.val (.int k))) = some (.nx, GΓ w o (st.1.set k 1, st.2) (.val (.int k))) := by
        have ixk : ixN st.1.length (k : Int) = some k := by
          unfold ixN
          rw [if_pos (by omega), if_pos (by omega)]
          simp
        simp [evS_asg, ev_k, ev_gl, ev_var, ev_op, ev_tup, ev_lst, ev_dct0, ev_sl, ev_mop, ev_and, ev_or, ev_not, ev_ife, ev_call, evL_nil, evL_cons, evG_nm, evG_tupN, evG_tup, evG_sub, evGs_nil, evGs_cons, Pm_F, Pm_io, Pm_fuel, mkDn, seqA, seqE, dVar, dOp, rd, getAll, Arg.get, prim, WT.settle, WT.imm, tru, isBl, gnTup, gnAll, gnSub, gnNm, gnTupN, gnNms, setPrim, immL, immEl, frz1, frz, sRet, mkSl, dCall, ordL, isPl, dAnd, dOr, dNot, dIfe, dTup, dLst, dSl, part, slP, seqP, setP, dMop, recv, mprim, ixk, List.map_set]
      have q2 : evS P (.expr (.meth .popAt 4 [.mop .lindex (.var 4) [.op .ix [.var 0, .var 3]]])) (GΓ w o (st.1.set k 1, st.2) (.val (.int k))) = some (.nx, GΓ w o (st.1.set k 1, st.2.erase (at_ w k)) (.val (.int k))) := by
        exact lpop P hio w o (st.1.set k 1, st.2) hst k hkw l1 c2
      rw [hm, decide_eq_true c1, decide_eq_true c2]
      simp only [Bool.and_self, if_true, q1, Option.bind_some, q2]
    · have hm : mstep w st k = st := if_neg (fun z => c2 z.2)
      rw [hm, decide_eq_false c2]
      simp
  · have hm : mstep w st k = st := if_neg (fun z => c1 z.1)
    rw [hm, decide_eq_false c1]
    simp
theorem lmarkLoop (P : Prm) (hio : ∀ i, P.io i = false) (w o : List Nat) (hw : w.length ≤ 8) : ∀ (ks : List Nat) (st : St) (d : Sl), st.2.length ≤ 100 → (∀ k ∈ ks, k < st.1.length ∧ k < w.length) →
    ∃ d', forL (evG P (.nm 3)) (evSs P gb) (ks.map fun (k : Nat) => D.int (k : Int)) (GΓ w o st d) = some (.nx, GΓ w o (mloop w ks st) d')
  | [], st, d, _, _ => ⟨d, rfl⟩
  | k :: ks, st, d, hst, h => by
    obtain ⟨d', h2⟩ := lmarkLoop P hio w o hw ks (mstep w st k) (.val (.int k)) (Nat.le_trans (mstep_len2 w st k) hst) fun j hj => by rw [mstep_len]; exact h j (List.mem_cons_of_mem _ hj)
    refine ⟨d', (forL_nx (Γ1 := GΓ w o st (.val (.int k))) ?_ (lmarkStep P hio w o hw st hst k (h k List.mem_cons_self).1 (h k List.mem_cons_self).2)).trans h2⟩
    simp [ev_k, ev_gl, ev_var, ev_op, ev_tup, ev_lst, ev_dct0, ev_sl, ev_mop, ev_and, ev_or, ev_not, ev_ife, ev_call, evL_nil, evL_cons, evG_nm, evG_tupN, evG_tup, evG_sub, evGs_nil, evGs_cons, Pm_F, Pm_io, Pm_fuel, mkDn, seqA, seqE, dVar, dOp, rd, getAll, Arg.get, prim, WT.settle, WT.imm, tru, isBl, gnTup, gnAll, gnSub, gnNm, gnTupN, gnNms, setPrim, immL, immEl, frz1, frz, sRet, mkSl, dCall, ordL, isPl, dAnd, dOr, dNot, dIfe, dTup, dLst, dSl, part, slP, seqP, setP, dMop, recv, mprim, hio]
def fg (w o : List Nat) : D → D
  | .int k => .int (f0 w o k.toNat)
  | _ => .non
def pg (w o : List Nat) : D → Bool
  | .int k => f0 w o k.toNat == 0
  | _ => false
def sg (o : List Nat) : D → D
  | .int k => .str [at_ o k.toNat]
  | _ => .non
theorem L0_len (w o : List Nat) : (L0 w o).length ≤ w.length := by
  unfold L0
  rw [List.length_map]
  refine Nat.le_trans (List.length_filter_le _ _) ?_
  simp
theorem lawMarks (fuel n : Nat) (w o : List Nat) (hw : GW w) (ho : GW o) (hl : w.length = o.length) : denF T fuel (n + 1) 15 [.str w, .str o] = some (.tup ((marks w o).map .int), true, none) := by
  have l1 := hw.line
  have l2 := ho.line
  have hb0 : w.length < 2 ^ 60 := by have := hw.le; omega
  have e0 : startE 0 none [.str w, .str o] 5 = [.val (.str w), .val (.str o), .un, .un, .un] := rfl
  have rng : ∀ (P : Prm) (Γ : WT.Env), rd Γ 0 = some (.str w) → evI P (.range [.op .len [.var 0]]) Γ = some ((rangeL 0 w.length).map .int, Γ) := fun P Γ h => by
    simp only [rd] at h
    simp [evI_range, inRange, ev_k, ev_gl, ev_var, ev_op, ev_tup, ev_lst, ev_dct0, ev_sl, ev_mop, ev_and, ev_or, ev_not, ev_ife, ev_call, evL_nil, evL_cons, evG_nm, evG_tupN, evG_tup, evG_sub, evGs_nil, evGs_cons, Pm_F, Pm_io, Pm_fuel, mkDn, seqA, seqE, dVar, dOp, rd, getAll, Arg.get, prim, WT.settle, WT.imm, tru, isBl, gnTup, gnAll, gnSub, gnNm, gnTupN, gnNms, setPrim, immL, immEl, frz1, frz, sRet, mkSl, dCall, ordL, isPl, dAnd, dOr, dNot, dIfe, dTup, dLst, dSl, part, slP, seqP, setP, dMop, recv, mprim, p_len, l1, rangeD, hb0, h]
  have c1 := comp_pure (P := Pm (denF T fuel n) none fuel) (vs := [3]) (tg := .nm 3) (it := .range [.op .len [.var 0]]) (e := .ife (.op .eq [.op .ix [.var 0, .var 3], .op .ix [.var 1, .var 3]]) (.k (.int 2)) (.k (.int 0)))
    (Γ := [.val (.str w), .val (.str o), .un, .un, .un]) (Γ1 := [.val (.str w), .val (.str o), .un, .un, .un]) (ds := (rangeL 0 w.length).map .int) (fg w o) (rng _ _ rfl) rfl (by rw [List.length_map, rangeL_length]; exact l1) (fun d hd => by
      rw [range0] at hd
      obtain ⟨k, hk, rfl⟩ := List.mem_map.mp hd
      have hk : k < w.length := by simpa using hk
      have a1 := at_get hk
      have a2 := at_get (w := o) (k := k) (by omega)
      refine ⟨[.val (.str w), .val (.str o), .un, .val (.int k), .un], by simp [wipeE, ev_k, ev_gl, ev_var, ev_op, ev_tup, ev_lst, ev_dct0, ev_sl, ev_mop, ev_and, ev_or, ev_not, ev_ife, ev_call, evL_nil, evL_cons, evG_nm, evG_tupN, evG_tup, evG_sub, evGs_nil, evGs_cons, Pm_F, Pm_io, Pm_fuel, mkDn, seqA, seqE, dVar, dOp, rd, getAll, Arg.get, prim, WT.settle, WT.imm, tru, isBl, gnTup, gnAll, gnSub, gnNm, gnTupN, gnNms, setPrim, immL, immEl, frz1, frz, sRet, mkSl, dCall, ordL, isPl, dAnd, dOr, dNot, dIfe, dTup, dLst, dSl, part, slP, seqP, setP, dMop, recv, mprim], ?_, rfl⟩
      by_cases e : at_ w k = at_ o k
      · simp [ev_k, ev_gl, ev_var, ev_op, ev_tup, ev_lst, ev_dct0, ev_sl, ev_mop, ev_and, ev_or, ev_not, ev_ife, ev_call, evL_nil, evL_cons, evG_nm, evG_tupN, evG_tup, evG_sub, evGs_nil, evGs_cons, Pm_F, Pm_io, Pm_fuel, mkDn, seqA, seqE, dVar, dOp, rd, getAll, Arg.get, prim, WT.settle, WT.imm, tru, isBl, gnTup, gnAll, gnSub, gnNm, gnTupN, gnNms, setPrim, immL, immEl, frz1, frz, sRet, mkSl, dCall, ordL, isPl, dAnd, dOr, dNot, dIfe, dTup, dLst, dSl, part, slP, seqP, setP, dMop, recv, mprim, p_ix, p_eq, shal, deq, a1, a2, l1, l2, e, fg, f0]
      · simp [ev_k, ev_gl, ev_var, ev_op, ev_tup, ev_lst, ev_dct0, ev_sl, ev_mop, ev_and, ev_or, ev_not, ev_ife, ev_call, evL_nil, evL_cons, evG_nm, evG_tupN, evG_tup, evG_sub, evGs_nil, evGs_cons, Pm_F, Pm_io, Pm_fuel, mkDn, seqA, seqE, dVar, dOp, rd, getAll, Arg.get, prim, WT.settle, WT.imm, tru, isBl, gnTup, gnAll, gnSub, gnNm, gnTupN, gnNms, setPrim, immL, immEl, frz1, frz, sRet, mkSl, dCall, ordL, isPl, dAnd, dOr, dNot, dIfe, dTup, dLst, dSl, part, slP, seqP, setP, dMop, recv, mprim, p_ix, p_eq, shal, deq, a1, a2, l1, l2, e, fg, f0])
  have hf : ((rangeL 0 w.length).map D.int).map (fg w o) = (F0 w o).map .int := by
    rw [range0, List.map_map, F0, List.map_map]
    apply List.map_congr_left
    intro k _
    simp [fg]
  rw [hf] at c1
  have s1 : evS (Pm (denF T fuel n) none fuel) (.asg (.nm 2) (.comp [3] (.nm 3) (.range [.op .len [.var 0]]) none (.ife (.op .eq [.op .ix [.var 0, .var 3], .op .ix [.var 1, .var 3]]) (.k (.int 2)) (.k (.int 0))))) [.val (.str w), .val (.str o), .un, .un, .un] = some (.nx, [.val (.str w), .val (.str o), .own (.lst ((F0 w o).map .int)), .un, .un]) := by
    rw [evS_asg, c1]
    simp [ev_k, ev_gl, ev_var, ev_op, ev_tup, ev_lst, ev_dct0, ev_sl, ev_mop, ev_and, ev_or, ev_not, ev_ife, ev_call, evL_nil, evL_cons, evG_nm, evG_tupN, evG_tup, evG_sub, evGs_nil, evGs_cons, Pm_F, Pm_io, Pm_fuel, mkDn, seqA, seqE, dVar, dOp, rd, getAll, Arg.get, prim, WT.settle, WT.imm, tru, isBl, gnTup, gnAll, gnSub, gnNm, gnTupN, gnNms, setPrim, immL, immEl, frz1, frz, sRet, mkSl, dCall, ordL, isPl, dAnd, dOr, dNot, dIfe, dTup, dLst, dSl, part, slP, seqP, setP, dMop, recv, mprim]
  have c2 := compf_pure (P := Pm (denF T fuel n) none fuel) (vs := [3]) (tg := .nm 3) (it := .range [.op .len [.var 0]]) (c := .op .eq [.op .ix [.var 2, .var 3], .k (.int 0)]) (e := .op .ix [.var 1, .var 3])
    (Γ := [.val (.str w), .val (.str o), .own (.lst ((F0 w o).map .int)), .un, .un]) (Γ1 := [.val (.str w), .val (.str o), .own (.lst ((F0 w o).map .int)), .un, .un]) (ds := (rangeL 0 w.length).map .int) (pg w o) (sg o) (rng _ _ rfl) rfl (by rw [List.length_map, rangeL_length]; exact l1) (fun d hd => by
      rw [range0] at hd
      obtain ⟨k, hk, rfl⟩ := List.mem_map.mp hd
      have hk : k < w.length := by simpa using hk
      have a2 := at_get (w := o) (k := k) (by omega)
      have a3 := fget (f := F0 w o) (k := k) (by rw [F0_len]; exact hk)
      have a4 : (F0 w o).getD k 0 = f0 w o k := by
        simp [F0, hk]
      rw [a4] at a3
      refine ⟨[.val (.str w), .val (.str o), .own (.lst ((F0 w o).map .int)), .val (.int k), .un], by simp [wipeE, ev_k, ev_gl, ev_var, ev_op, ev_tup, ev_lst, ev_dct0, ev_sl, ev_mop, ev_and, ev_or, ev_not, ev_ife, ev_call, evL_nil, evL_cons, evG_nm, evG_tupN, evG_tup, evG_sub, evGs_nil, evGs_cons, Pm_F, Pm_io, Pm_fuel, mkDn, seqA, seqE, dVar, dOp, rd, getAll, Arg.get, prim, WT.settle, WT.imm, tru, isBl, gnTup, gnAll, gnSub, gnNm, gnTupN, gnNms, setPrim, immL, immEl, frz1, frz, sRet, mkSl, dCall, ordL, isPl, dAnd, dOr, dNot, dIfe, dTup, dLst, dSl, part, slP, seqP, setP, dMop, recv, mprim], ?_, fun _ => by simp [ev_k, ev_gl, ev_var, ev_op, ev_tup, ev_lst, ev_dct0, ev_sl, ev_mop, ev_and, ev_or, ev_not, ev_ife, ev_call, evL_nil, evL_cons, evG_nm, evG_tupN, evG_tup, evG_sub, evGs_nil, evGs_cons, Pm_F, Pm_io, Pm_fuel, mkDn, seqA, seqE, dVar, dOp, rd, getAll, Arg.get, prim, WT.settle, WT.imm, tru, isBl, gnTup, gnAll, gnSub, gnNm, gnTupN, gnNms, setPrim, immL, immEl, frz1, frz, sRet, mkSl, dCall, ordL, isPl, dAnd, dOr, dNot, dIfe, dTup, dLst, dSl, part, slP, seqP, setP, dMop, recv, mprim, p_ix, a2, l2, sg], rfl⟩
      simp [ev_k, ev_gl, ev_var, ev_op, ev_tup, ev_lst, ev_dct0, ev_sl, ev_mop, ev_and, ev_or, ev_not, ev_ife, ev_call, evL_nil, evL_cons, evG_nm, evG_tupN, evG_tup, evG_sub, evGs_nil, evGs_cons, Pm_F, Pm_io, Pm_fuel, mkDn, seqA, seqE, dVar, dOp, rd, getAll, Arg.get, prim, WT.settle, WT.imm, tru, isBl, gnTup, gnAll, gnSub, gnNm, gnTupN, gnNms, setPrim, immL, immEl, frz1, frz, sRet, mkSl, dCall, ordL, isPl, dAnd, dOr, dNot, dIfe, dTup, dLst, dSl, part, slP, seqP, setP, dMop, recv, mprim, p_ix, p_eq, shal, deq, a3, pg])
  have hs : (((rangeL 0 w.length).map D.int).filter (pg w o)).map (sg o) = sgs (L0 w o) := by
    rw [range0, List.filter_map, List.map_map, L0, sgs, List.map_map]
    have : (pg w o ∘ fun (k : Nat) => D.int (k : Int)) = fun k => f0 w o k == 0 := by
      funext k
      simp [pg]
    rw [this]
    apply List.map_congr_left
    intro k _
    simp [sg]
  rw [hs] at c2
  have s2 : evS (Pm (denF T fuel n) none fuel) (.asg (.nm 4) (.comp [3] (.nm 3) (.range [.op .len [.var 0]]) (some (.op .eq [.op .ix [.var 2, .var 3], .k (.int 0)])) (.op .ix [.var 1, .var 3]))) [.val (.str w), .val (.str o), .own (.lst ((F0 w o).map .int)), .un, .un] = some (.nx, GΓ w o (F0 w o, L0 w o) .un) := by
    rw [evS_asg, c2]
    simp [ev_k, ev_gl, ev_var, ev_op, ev_tup, ev_lst, ev_dct0, ev_sl, ev_mop, ev_and, ev_or, ev_not, ev_ife, ev_call, evL_nil, evL_cons, evG_nm, evG_tupN, evG_tup, evG_sub, evGs_nil, evGs_cons, Pm_F, Pm_io, Pm_fuel, mkDn, seqA, seqE, dVar, dOp, rd, getAll, Arg.get, prim, WT.settle, WT.imm, tru, isBl, gnTup, gnAll, gnSub, gnNm, gnTupN, gnNms, setPrim, immL, immEl, frz1, frz, sRet, mkSl, dCall, ordL, isPl, dAnd, dOr, dNot, dIfe, dTup, dLst, dSl, part, slP, seqP, setP, dMop, recv, mprim]
  obtain ⟨d', s3⟩ := lmarkLoop (Pm (denF T fuel n) none fuel) (fun i => rfl) w o hw.le (List.range w.length) (F0 w o, L0 w o) .un (by have := L0_len w o; have := hw.le; simp; omega) (fun k hk => by rw [F0_len]; simpa using hk)
  have it := rng (Pm (denF T fuel n) none fuel) (GΓ w o (F0 w o, L0 w o) .un) rfl
  rw [range0] at it
  have hb : fd15.body = [.asg (.nm 2) (.comp [3] (.nm 3) (.range [.op .len [.var 0]]) none (.ife (.op .eq [.op .ix [.var 0, .var 3], .op .ix [.var 1, .var 3]]) (.k (.int 2)) (.k (.int 0)))), .asg (.nm 4) (.comp [3] (.nm 3) (.range [.op .len [.var 0]]) (some (.op .eq [.op .ix [.var 2, .var 3], .k (.int 0)])) (.op .ix [.var 1, .var 3])), .for (.nm 3) (.range [.op .len [.var 0]]) gb, .ret (.op .tuple [.var 2])] := rfl
  rw [den_of (fd := fd15) rfl rfl, hb]
  simp only [fd15, evSs_cons, fin]
  rw [e0, s1]
  simp only [Option.bind_some]
  rw [s2]
  simp only [Option.bind_some, evS_for]
  rw [it]
  simp only [Option.bind_some]
  rw [s3]
  have hi := immL_ints (marks w o)
  simp only [Option.bind_some, evS_ret]
  rw [sRet_of rfl]
  unfold marks at hi ⊢
  simp [ev_k, ev_gl, ev_var, ev_op, ev_tup, ev_lst, ev_dct0, ev_sl, ev_mop, ev_and, ev_or, ev_not, ev_ife, ev_call, evL_nil, evL_cons, evG_nm, evG_tupN, evG_tup, evG_sub, evGs_nil, evGs_cons, Pm_F, Pm_io, Pm_fuel, mkDn, seqA, seqE, dVar, dOp, rd, getAll, Arg.get, prim, WT.settle, WT.imm, tru, isBl, gnTup, gnAll, gnSub, gnNm, gnTupN, gnNms, setPrim, immL, immEl, frz1, frz, sRet, mkSl, dCall, ordL, isPl, dAnd, dOr, dNot, dIfe, dTup, dLst, dSl, part, slP, seqP, setP, dMop, recv, mprim, p_tuple, hi, out]
theorem marksE (fuel n : Nat) (w o : List Nat) (hw : GW w) (ho : GW o) (hl : w.length = o.length) : denF T fuel (n + 4) 7 [.str w, .str o] = some (.tup ((marks w o).map .int), true, none) := by
  have e1 := checkWord fuel n w hw
  have e2 := checkWord fuel n o ho
  have e3 : denF T fuel (n + 3) 5 [.str w, .str o] = _ := marksBy fuel (n + 2) w o hw ho hl
  have l1 := hw.line
  have l2 := ho.line
  rw [den_of (fd := fd7) rfl rfl]
  rw [hl] at l1
  simp [fd7, b7, startE, fin, evS_expr, evS_ret, evS_asg, evS_par, evS_ife, evS_never, evSs_nil, evSs_cons, ev_k, ev_gl, ev_var, ev_op, ev_tup, ev_lst, ev_dct0, ev_sl, ev_mop, ev_and, ev_or, ev_not, ev_ife, ev_call, evL_nil, evL_cons, evG_nm, evG_tupN, evG_tup, evG_sub, evGs_nil, evGs_cons, Pm_F, Pm_io, Pm_fuel, mkDn, seqA, seqE, dVar, dOp, rd, getAll, Arg.get, prim, WT.settle, WT.imm, tru, isBl, gnTup, gnAll, gnSub, gnNm, gnTupN, gnNms, setPrim, immL, immEl, frz1, frz, sRet, mkSl, dCall, ordL, isPl, dAnd, dOr, dNot, dIfe, dTup, dLst, dSl, part, slP, seqP, setP, dMop, recv, mprim, p_add, p_sub, p_mul, p_fdiv, p_mod, p_pow, p_neg, p_eq, p_ne, p_lt, p_le, p_gt, p_ge, p_isN, p_notN, p_isTr, p_ix, p_len, p_minB, p_maxB, p_abs, p_int, p_divm, p_list, p_tuple, p_isi, isT, atI, ixN, shal, shalL, deq, deqL, b2, isKey, e1, e2, e3, out, l1, l2, hl]
end K56

namespace K56
open PySem L2 WT
/-! ### how many marks there are -/
def bagI : List Nat → List Nat → Nat
  | [], _ => 0
  | c :: r, b => if c ∈ b then 1 + bagI r (b.erase c) else bagI r b
theorem bag_cons (c : Nat) : ∀ (a b : List Nat), bagI a (c :: b) = if c ∈ a then 1 + bagI (a.erase c) b else bagI a b
  | [], b => by simp [bagI]
  | d :: r, b => by
    by_cases e : d = c
    · subst e
      simp [bagI]
    · have hb : (d == c) = false := beq_eq_false_iff_ne.mpr e
      have hb2 : (c == d) = false := beq_eq_false_iff_ne.mpr (Ne.symm e)
      have hne : ¬ c = d := fun z => e z.symm
      have m1 : (d ∈ c :: b) ↔ d ∈ b := by simp [e]
      have m2 : (c ∈ d :: r) ↔ c ∈ r := by simp [hne]
      simp only [bagI, m1, m2, List.erase_cons, hb, hb2, Bool.false_eq_true, if_false]
      by_cases hd : d ∈ b
      · rw [if_pos hd, bag_cons c r (b.erase d)]
        by_cases hc : c ∈ r
        · rw [if_pos hc, if_pos hc, if_pos hd]
        · rw [if_neg hc, if_neg hc, if_pos hd]
      · rw [if_neg hd, bag_cons c r b]
        by_cases hc : c ∈ r
        · rw [if_pos hc, if_pos hc, if_neg hd]
        · rw [if_neg hc, if_neg hc, if_neg hd]
theorem bag_sym : ∀ (b a : List Nat), bagI a b = bagI b a
  | [], a => by
    cases a with
    | nil => rfl
    | cons c r =>
      have : ∀ a : List Nat, bagI a [] = 0 := by
        intro a
        induction a with
        | nil => rfl
        | cons c r ih => simp [bagI, ih]
      rw [this]; rfl
  | c :: b, a => by
    rw [bag_cons c a b]
    simp only [bagI]
    by_cases hc : c ∈ a
    · rw [if_pos hc, if_pos hc, bag_sym b (a.erase c)]
    · rw [if_neg hc, if_neg hc, bag_sym b a]
def npos (l : List Int) : Nat := (l.filter fun x => decide (0 < x)).length
theorem npos_set : ∀ (l : List Int) (k : Nat), k < l.length → l.getD k 0 = 0 → npos (l.set k 1) = npos l + 1
  | [], k, h, _ => absurd h (by simp)
  | x :: r, 0, _, h => by
    have : x = 0 := by simpa using h
    subst this
    simp [npos]
  | x :: r, k + 1, h, h0 => by
    have := npos_set r k (by simpa using h) (by simpa using h0)
    simp only [npos] at this ⊢
    by_cases hx : 0 < x
    · simp [hx, this]
    · simp [hx, this]
theorem npos_loop (w : List Nat) : ∀ (ks : List Nat) (st : St), ks.Nodup → (∀ k ∈ ks, k < st.1.length) →
    npos (mloop w ks st).1 = npos st.1 + bagI ((ks.filter fun k => st.1.getD k 0 == 0).map (at_ w)) st.2
  | [], st, _, _ => by simp [mloop, bagI]
  | k :: ks, st, nd, h => by
    obtain ⟨n1, n2⟩ := List.nodup_cons.mp nd
    have hk := h k List.mem_cons_self
    show npos (mloop w ks (mstep w st k)).1 = _
    rw [npos_loop w ks (mstep w st k) n2 (fun j hj => by rw [mstep_len]; exact h j (List.mem_cons_of_mem _ hj))]
    have hf : ks.filter (fun j => (mstep w st k).1.getD j 0 == 0) = ks.filter (fun j => st.1.getD j 0 == 0) := by
      apply List.filter_congr
      intro j hj
      have hne : k ≠ j := fun z => n1 (z ▸ hj)
      unfold mstep
      split
      · simp only [List.getD_eq_getElem?_getD]
        rw [List.getElem?_set_ne hne]
      · rfl
    rw [hf]
    by_cases c1 : st.1.getD k 0 = 0
    · have hc : (st.1.getD k 0 == 0) = true := by rw [c1]; rfl
      rw [List.filter_cons_of_pos (by exact hc), List.map_cons]
      simp only [bagI]
      by_cases c2 : at_ w k ∈ st.2
      · have hm : mstep w st k = (st.1.set k 1, st.2.erase (at_ w k)) := if_pos ⟨c1, c2⟩
        rw [hm, if_pos c2]
        show npos (st.1.set k 1) + _ = _
        rw [npos_set st.1 k hk c1]
        dsimp only
        omega
      · have hm : mstep w st k = st := if_neg (fun z => c2 z.2)
        rw [hm, if_neg c2]
    · have hc : ¬ (st.1.getD k 0 == 0) = true := by simpa using c1
      have hm : mstep w st k = st := if_neg (fun z => c1 z.1)
      rw [hm, List.filter_cons_of_neg (by exact hc)]
theorem F0_get (w o : List Nat) (k : Nat) (hk : k < w.length) : (F0 w o).getD k 0 = f0 w o k := by simp [F0, hk]
theorem npos_marks (w o : List Nat) : npos (marks w o) = npos (F0 w o) + bagI (((List.range w.length).filter fun k => f0 w o k == 0).map (at_ w)) (L0 w o) := by
  unfold marks
  rw [npos_loop w (List.range w.length) (F0 w o, L0 w o) List.nodup_range (fun k hk => by rw [F0_len]; simpa using hk)]
  have : (List.range w.length).filter (fun k => (F0 w o).getD k 0 == 0) = (List.range w.length).filter fun k => f0 w o k == 0 := by
    apply List.filter_congr
    intro k hk
    rw [F0_get w o k (by simpa using hk)]
  simp only [this]
theorem f0_sym (w o : List Nat) (k : Nat) : f0 w o k = f0 o w k := by
  unfold f0
  by_cases e : at_ w k = at_ o k
  · rw [if_pos e, if_pos e.symm]
  · rw [if_neg e, if_neg fun z => e z.symm]
theorem npos_sym (w o : List Nat) (hl : w.length = o.length) : npos (marks w o) = npos (marks o w) := by
  have e1 : F0 w o = F0 o w := by
    unfold F0
    rw [hl]
    apply List.map_congr_left
    intro k _
    exact f0_sym w o k
  have e2 : ((List.range w.length).filter fun k => f0 w o k == 0).map (at_ w) = L0 o w := by
    unfold L0
    rw [hl]
    congr 1
    apply List.filter_congr
    intro k _
    rw [f0_sym]
  have e3 : ((List.range o.length).filter fun k => f0 o w k == 0).map (at_ o) = L0 w o := by
    unfold L0
    rw [hl]
    congr 1
    apply List.filter_congr
    intro k _
    rw [f0_sym]
  rw [npos_marks, npos_marks, e1, e2, e3, bag_sym]
/-! ### all right just for the word itself -/
theorem low_loop (w : List Nat) (k : Nat) : ∀ (ks : List Nat) (st : St), st.1.getD k 0 ≤ 1 → (mloop w ks st).1.getD k 0 ≤ 1
  | [], st, h => h
  | j :: ks, st, h => by
    show (mloop w ks (mstep w st j)).1.getD k 0 ≤ 1
    refine low_loop w k ks _ ?_
    unfold mstep
    split
    · simp only [List.getD_eq_getElem?_getD]
      by_cases e : j = k
      · subst e
        by_cases hl : j < st.1.length
        · rw [List.getElem?_set_self hl]; simp
        · rw [List.getElem?_eq_none (by simpa using hl)]; simp
      · rw [List.getElem?_set_ne e]
        simpa using h
    · exact h
theorem at_ext {w o : List Nat} (hl : w.length = o.length) (h : ∀ k, k < w.length → at_ w k = at_ o k) : w = o := by
  apply List.ext_getElem hl
  intro i h1 h2
  have := h i h1
  simpa [at_, h1, h2] using this
theorem marks_self (w : List Nat) : marks w w = List.replicate w.length 2 := by
  have e1 : L0 w w = [] := by
    unfold L0
    have : (List.range w.length).filter (fun k => f0 w w k == 0) = [] := by
      apply List.filter_eq_nil_iff.mpr
      intro k _
      simp [f0]
    rw [this]; rfl
  have e2 : F0 w w = List.replicate w.length 2 := by
    unfold F0
    apply List.ext_getElem
    · simp
    · intro i h1 h2
      simp [f0]
  have e3 : ∀ (ks : List Nat) (f : List Int), (mloop w ks (f, [])).1 = f := by
    intro ks
    induction ks with
    | nil => intro f; rfl
    | cons k ks ih =>
      intro f
      show (mloop w ks (mstep w (f, []) k)).1 = f
      have : mstep w (f, []) k = (f, []) := if_neg (fun z => by simpa using z.2)
      rw [this]; exact ih f
  unfold marks
  rw [e1, e3, e2]
theorem marks_two (w o : List Nat) (hl : w.length = o.length) (h : ∀ x ∈ marks w o, x = 2) : w = o := by
  refine at_ext hl fun k hk => ?_
  by_cases e : at_ w k = at_ o k
  · exact e
  · exfalso
    have h0 : (F0 w o).getD k 0 ≤ 1 := by rw [F0_get w o k hk, f0, if_neg e]; decide
    have h1 := low_loop w k (List.range w.length) (F0 w o, L0 w o) h0
    have hlen : (marks w o).length = w.length := by unfold marks; rw [marks_len w o, F0_len]
    have h2 := h ((marks w o)[k]'(by omega)) (List.getElem_mem _)
    have h3 : (marks w o).getD k 0 = 2 := by
      rw [List.getD_eq_getElem?_getD, List.getElem?_eq_getElem (by omega)]
      exact h2
    unfold marks at h3
    omega
theorem min_two (w o : List Nat) (hw : 1 ≤ w.length) (hl : w.length = o.length) : ∃ x r, marks w o = x :: r ∧ (minI x r == 2) = (w == o) := by
  have hlen : (marks w o).length = w.length := by unfold marks; rw [marks_len w o, F0_len]
  obtain ⟨x, r, e⟩ : ∃ x r, marks w o = x :: r := by
    cases h : marks w o with
    | nil => rw [h] at hlen; simp at hlen; omega
    | cons x r => exact ⟨x, r, rfl⟩
  refine ⟨x, r, e, ?_⟩
  obtain ⟨m1, m2⟩ := minI_spec r x
  by_cases h : w = o
  · subst h
    rw [marks_self] at e
    have hx : ∀ y ∈ x :: r, y = 2 := fun y hy => by
      rw [← e] at hy
      exact (List.mem_replicate.mp hy).2
    rw [hx _ m1]
    simp
  · have : minI x r ≠ 2 := by
      intro z
      refine h (marks_two w o hl fun y hy => ?_)
      have hle : ∀ y ∈ marks w o, y ≤ 2 := by
        have : ∀ (ks : List Nat) (st : St), (∀ y ∈ st.1, y ≤ 2) → ∀ y ∈ (mloop w ks st).1, y ≤ 2 := by
          intro ks
          induction ks with
          | nil => intro st h; exact h
          | cons k ks ih =>
            intro st h
            refine ih (mstep w st k) ?_
            unfold mstep
            split
            · intro y hy
              rcases List.mem_or_eq_of_mem_set hy with q | q
              · exact h y q
              · rw [q]; decide
            · exact h
        unfold marks
        refine this _ _ fun y hy => ?_
        obtain ⟨k, _, rfl⟩ := List.mem_map.mp hy
        unfold f0
        split <;> decide
      have h1 := hle y hy
      rw [e] at hy
      have h2 := m2 y hy
      omega
    rw [beq_eq_false_iff_ne.mpr this, beq_eq_false_iff_ne.mpr h]
end K56

namespace K56
open PySem L2 WT
abbrev RΓ (t : D) (ws : D) (w : D) (s3 s4 s5 s6 s7 : Sl) : WT.Env := [.own t, .val ws, .val w, s3, s4, s5, s6, s7]
/-! ### the answers -/
def ab : List WT.S := [.asg (.nm 4) (.call 14 none [.var 2, .var 3] []), .ife (.not (.call 11 none [.tup [.call 6 none [.var 2, .var 3] [], .call 6 none [.var 3, .var 2] [1, 0]], .tup [.var 4, .var 4]] [])) [.ret (.k (.bl false))] []]
theorem ansStep (fuel n : Nat) (t ws : D) (w : List Nat) (hw : GW w) (l : Nat) (hl : l ∈ LET) (s4 s5 s6 s7 : Sl) :
    ∃ s4', evSs (Pm (denF T fuel (n + 4)) (some 0) fuel) ab (RΓ t ws (.str w) (.val (.str [l])) s4 s5 s6 s7) = some (.nx, RΓ t ws (.str w) (.val (.str [l])) s4' s5 s6 s7) := by
  have e1 : denF T fuel (n + 4) 14 [.str w, .str [l]] = _ := lawPlaces fuel (n + 3) w l hw
  have e2 := answer fuel n w l hw hl
  have hk : (plc w l).length ≤ 100 := by
    have : (plc w l).length ≤ w.length := by
      unfold plc
      refine Nat.le_trans (List.length_filter_le _ _) ?_
      simp
    have := hw.le
    omega
  have e3 : denF T fuel (n + 4) 11 _ = _ := same2 fuel (n + 1) ((plc w l).map fun (k : Nat) => (k : Int)) (by simpa using hk)
  have ei : tupI ((plc w l).map fun (k : Nat) => (k : Int)) = .tup ((plc w l).map fun (k : Nat) => .int (k : Int)) := by
    unfold tupI
    rw [List.map_map]; rfl
  rw [ei] at e3
  have hi : immL ((plc w l).map fun (k : Nat) => D.int (k : Int)) = true := by
    have := immL_ints ((plc w l).map fun (k : Nat) => (k : Int))
    rw [List.map_map] at this
    exact this
  have l2 : 2 ≤ line := by decide
  refine ⟨.val (.tup ((plc w l).map fun (k : Nat) => .int (k : Int))), ?_⟩
  have h1 : evS (Pm (denF T fuel (n + 4)) (some 0) fuel) (.asg (.nm 4) (.call 14 none [.var 2, .var 3] [])) (RΓ t ws (.str w) (.val (.str [l])) s4 s5 s6 s7) = some (.nx, RΓ t ws (.str w) (.val (.str [l])) (.val (.tup ((plc w l).map fun (k : Nat) => .int (k : Int)))) s5 s6 s7) := by
    simp [evS_asg, ev_k, ev_gl, ev_var, ev_op, ev_tup, ev_lst, ev_dct0, ev_sl, ev_mop, ev_and, ev_or, ev_not, ev_ife, ev_call, evL_nil, evL_cons, evG_nm, evG_tupN, evG_tup, evG_sub, evGs_nil, evGs_cons, Pm_F, Pm_io, Pm_fuel, mkDn, seqA, seqE, dVar, dOp, rd, getAll, Arg.get, prim, WT.settle, WT.imm, tru, isBl, gnTup, gnAll, gnSub, gnNm, gnTupN, gnNms, setPrim, immL, immEl, frz1, frz, sRet, mkSl, dCall, ordL, isPl, dAnd, dOr, dNot, dIfe, dTup, dLst, dSl, part, slP, seqP, setP, dMop, recv, mprim, e1, hi]
  have h2 : (ev (Pm (denF T fuel (n + 4)) (some 0) fuel) (.not (.call 11 none [.tup [.call 6 none [.var 2, .var 3] [], .call 6 none [.var 3, .var 2] [1, 0]], .tup [.var 4, .var 4]] []))).t (RΓ t ws (.str w) (.val (.str [l])) (.val (.tup ((plc w l).map fun (k : Nat) => .int (k : Int)))) s5 s6 s7) =
      some (false, RΓ t ws (.str w) (.val (.str [l])) (.val (.tup ((plc w l).map fun (k : Nat) => .int (k : Int)))) s5 s6 s7) := by
    simp [ev_k, ev_gl, ev_var, ev_op, ev_tup, ev_lst, ev_dct0, ev_sl, ev_mop, ev_and, ev_or, ev_not, ev_ife, ev_call, evL_nil, evL_cons, evG_nm, evG_tupN, evG_tup, evG_sub, evGs_nil, evGs_cons, Pm_F, Pm_io, Pm_fuel, mkDn, seqA, seqE, dVar, dOp, rd, getAll, Arg.get, prim, WT.settle, WT.imm, tru, isBl, gnTup, gnAll, gnSub, gnNm, gnTupN, gnNms, setPrim, immL, immEl, frz1, frz, sRet, mkSl, dCall, ordL, isPl, dAnd, dOr, dNot, dIfe, dTup, dLst, dSl, part, slP, seqP, setP, dMop, recv, mprim, e2, e3, hi, l2]
  unfold ab
  simp only [evSs_cons, h1, Option.bind_some, evS_ife, h2, Bool.false_eq_true, if_false, evSs_nil]
theorem ansLoop (fuel n : Nat) (t ws : D) (w : List Nat) (hw : GW w) : ∀ (ls : List Nat) (s3 s4 s5 s6 s7 : Sl), (∀ l ∈ ls, l ∈ LET) →
    ∃ s3' s4', forL (evG (Pm (denF T fuel (n + 4)) (some 0) fuel) (.nm 3)) (evSs (Pm (denF T fuel (n + 4)) (some 0) fuel) ab) (sgs ls) (RΓ t ws (.str w) s3 s4 s5 s6 s7) = some (.nx, RΓ t ws (.str w) s3' s4' s5 s6 s7)
  | [], s3, s4, s5, s6, s7, _ => ⟨s3, s4, rfl⟩
  | l :: ls, s3, s4, s5, s6, s7, h => by
    obtain ⟨a4, e⟩ := ansStep fuel n t ws w hw l (h l List.mem_cons_self) s4 s5 s6 s7
    obtain ⟨b3, b4, e2⟩ := ansLoop fuel n t ws w hw ls (.val (.str [l])) a4 s5 s6 s7 fun x hx => h x (List.mem_cons_of_mem _ hx)
    refine ⟨b3, b4, (forL_nx (Γ1 := RΓ t ws (.str w) (.val (.str [l])) s4 s5 s6 s7) ?_ e).trans e2⟩
    simp [ev_k, ev_gl, ev_var, ev_op, ev_tup, ev_lst, ev_dct0, ev_sl, ev_mop, ev_and, ev_or, ev_not, ev_ife, ev_call, evL_nil, evL_cons, evG_nm, evG_tupN, evG_tup, evG_sub, evGs_nil, evGs_cons, Pm_F, Pm_io, Pm_fuel, mkDn, seqA, seqE, dVar, dOp, rd, getAll, Arg.get, prim, WT.settle, WT.imm, tru, isBl, gnTup, gnAll, gnSub, gnNm, gnTupN, gnNms, setPrim, immL, immEl, frz1, frz, sRet, mkSl, dCall, ordL, isPl, dAnd, dOr, dNot, dIfe, dTup, dLst, dSl, part, slP, seqP, setP, dMop, recv, mprim]
/-! ### the marks -/
def ob : List WT.S := [.asg (.nm 4) (.call 15 none [.var 2, .var 5] []), .ife (.not (.call 11 none [.tup [.call 7 none [.var 2, .var 5] [], .call 7 none [.var 5, .var 2] [1, 0]], .tup [.var 4, .var 4]] [])) [.ret (.k (.bl false))] [], .asg (.nm 7) (.comp [6] (.nm 6) (.val (.call 7 none [.var 5, .var 2] [])) (some (.op .gt [.var 6, .k (.int 0)])) (.var 6)), .ife (.or (.op .ne [.op .eq [.op .minB [.var 4], .k (.int 2)], .op .eq [.var 2, .var 5]]) (.op .ne [.op .len [.comp [6] (.nm 6) (.val (.var 4)) (some (.op .gt [.var 6, .k (.int 0)])) (.var 6)], .op .len [.var 7]])) [.ret (.k (.bl false))] []]
def ppos : D → Bool
  | .int i => decide (0 < i)
  | _ => false
theorem ppos_map : ∀ (l : List Int), ((l.map D.int).filter ppos).map id = (l.filter fun x => decide (0 < x)).map .int
  | [] => rfl
  | x :: r => by
    have := ppos_map r
    rw [List.map_id] at this ⊢
    have e : ppos (.int x) = decide (0 < x) := rfl
    by_cases h : 0 < x
    · simp [e, h, this]
    · simp [e, h, this]
theorem marks_l (w o : List Nat) : (marks w o).length = w.length := by unfold marks; rw [marks_len w o, F0_len]
theorem markOther (fuel n : Nat) (t ws : D) (w o : List Nat) (hw : GW w) (ho : GW o) (hl : w.length = o.length) (s3 s4 s6 s7 : Sl) (hs6 : noOwn [s6] [0] = true) :
    ∃ s4' s6' s7', evSs (Pm (denF T fuel (n + 4)) (some 0) fuel) ob (RΓ t ws (.str w) s3 s4 (.val (.str o)) s6 s7) = some (.nx, RΓ t ws (.str w) s3 s4' (.val (.str o)) s6' s7') ∧ noOwn [s6'] [0] = true := by
  have e1 : denF T fuel (n + 4) 15 [.str w, .str o] = _ := lawMarks fuel (n + 3) w o hw ho hl
  have e2 := marksE fuel n w o hw ho hl
  have e4 := marksE fuel n o w ho hw hl.symm
  have hk : (marks w o).length ≤ 100 := by rw [marks_l]; have := hw.le; omega
  have hk2 : (marks o w).length ≤ 100 := by rw [marks_l]; have := ho.le; omega
  have e3 : denF T fuel (n + 4) 11 _ = _ := same2 fuel (n + 1) (marks w o) hk
  unfold tupI at e3
  have hi := immL_ints (marks w o)
  have hi2 := immL_ints (marks o w)
  have l2 : 2 ≤ line := by decide
  let Γ1 : WT.Env := RΓ t ws (.str w) s3 (.val (.tup ((marks w o).map .int))) (.val (.str o)) s6 s7
  have h1 : evS (Pm (denF T fuel (n + 4)) (some 0) fuel) (.asg (.nm 4) (.call 15 none [.var 2, .var 5] [])) (RΓ t ws (.str w) s3 s4 (.val (.str o)) s6 s7) = some (.nx, Γ1) := by
    simp [evS_asg, ev_k, ev_gl, ev_var, ev_op, ev_tup, ev_lst, ev_dct0, ev_sl, ev_mop, ev_and, ev_or, ev_not, ev_ife, ev_call, evL_nil, evL_cons, evG_nm, evG_tupN, evG_tup, evG_sub, evGs_nil, evGs_cons, Pm_F, Pm_io, Pm_fuel, mkDn, seqA, seqE, dVar, dOp, rd, getAll, Arg.get, prim, WT.settle, WT.imm, tru, isBl, gnTup, gnAll, gnSub, gnNm, gnTupN, gnNms, setPrim, immL, immEl, frz1, frz, sRet, mkSl, dCall, ordL, isPl, dAnd, dOr, dNot, dIfe, dTup, dLst, dSl, part, slP, seqP, setP, dMop, recv, mprim, e1, hi, Γ1]
  have h2 : (ev (Pm (denF T fuel (n + 4)) (some 0) fuel) (.not (.call 11 none [.tup [.call 7 none [.var 2, .var 5] [], .call 7 none [.var 5, .var 2] [1, 0]], .tup [.var 4, .var 4]] []))).t Γ1 = some (false, Γ1) := by
    simp [ev_k, ev_gl, ev_var, ev_op, ev_tup, ev_lst, ev_dct0, ev_sl, ev_mop, ev_and, ev_or, ev_not, ev_ife, ev_call, evL_nil, evL_cons, evG_nm, evG_tupN, evG_tup, evG_sub, evGs_nil, evGs_cons, Pm_F, Pm_io, Pm_fuel, mkDn, seqA, seqE, dVar, dOp, rd, getAll, Arg.get, prim, WT.settle, WT.imm, tru, isBl, gnTup, gnAll, gnSub, gnNm, gnTupN, gnNms, setPrim, immL, immEl, frz1, frz, sRet, mkSl, dCall, ordL, isPl, dAnd, dOr, dNot, dIfe, dTup, dLst, dSl, part, slP, seqP, setP, dMop, recv, mprim, e2, e3, hi, l2, Γ1]
  have no1 : noOwn Γ1 [6] = true := by
    simp only [noOwn, Γ1, RΓ, List.getElem?_cons_succ, List.getElem?_cons_zero] at hs6 ⊢
    exact hs6
  have c1 := compf_pure (P := Pm (denF T fuel (n + 4)) (some 0) fuel) (vs := [6]) (tg := .nm 6) (it := .val (.call 7 none [.var 5, .var 2] [])) (c := .op .gt [.var 6, .k (.int 0)]) (e := .var 6) (Γ := Γ1) (Γ1 := Γ1) (ds := (marks o w).map .int) ppos id (by
      simp [evI_val, inVal, ev_k, ev_gl, ev_var, ev_op, ev_tup, ev_lst, ev_dct0, ev_sl, ev_mop, ev_and, ev_or, ev_not, ev_ife, ev_call, evL_nil, evL_cons, evG_nm, evG_tupN, evG_tup, evG_sub, evGs_nil, evGs_cons, Pm_F, Pm_io, Pm_fuel, mkDn, seqA, seqE, dVar, dOp, rd, getAll, Arg.get, prim, WT.settle, WT.imm, tru, isBl, gnTup, gnAll, gnSub, gnNm, gnTupN, gnNms, setPrim, immL, immEl, frz1, frz, sRet, mkSl, dCall, ordL, isPl, dAnd, dOr, dNot, dIfe, dTup, dLst, dSl, part, slP, seqP, setP, dMop, recv, mprim, e4, hi2, items, Γ1]) no1 (by rw [List.length_map]; unfold line; omega) (fun d hd => by
      obtain ⟨i, _, rfl⟩ := List.mem_map.mp hd
      refine ⟨RΓ t ws (.str w) s3 (.val (.tup ((marks w o).map .int))) (.val (.str o)) (.val (.int i)) s7, by simp [wipeE, ev_k, ev_gl, ev_var, ev_op, ev_tup, ev_lst, ev_dct0, ev_sl, ev_mop, ev_and, ev_or, ev_not, ev_ife, ev_call, evL_nil, evL_cons, evG_nm, evG_tupN, evG_tup, evG_sub, evGs_nil, evGs_cons, Pm_F, Pm_io, Pm_fuel, mkDn, seqA, seqE, dVar, dOp, rd, getAll, Arg.get, prim, WT.settle, WT.imm, tru, isBl, gnTup, gnAll, gnSub, gnNm, gnTupN, gnNms, setPrim, immL, immEl, frz1, frz, sRet, mkSl, dCall, ordL, isPl, dAnd, dOr, dNot, dIfe, dTup, dLst, dSl, part, slP, seqP, setP, dMop, recv, mprim, Γ1], by simp [ev_k, ev_gl, ev_var, ev_op, ev_tup, ev_lst, ev_dct0, ev_sl, ev_mop, ev_and, ev_or, ev_not, ev_ife, ev_call, evL_nil, evL_cons, evG_nm, evG_tupN, evG_tup, evG_sub, evGs_nil, evGs_cons, Pm_F, Pm_io, Pm_fuel, mkDn, seqA, seqE, dVar, dOp, rd, getAll, Arg.get, prim, WT.settle, WT.imm, tru, isBl, gnTup, gnAll, gnSub, gnNm, gnTupN, gnNms, setPrim, immL, immEl, frz1, frz, sRet, mkSl, dCall, ordL, isPl, dAnd, dOr, dNot, dIfe, dTup, dLst, dSl, part, slP, seqP, setP, dMop, recv, mprim, p_gt, ppos], fun _ => by simp [ev_k, ev_gl, ev_var, ev_op, ev_tup, ev_lst, ev_dct0, ev_sl, ev_mop, ev_and, ev_or, ev_not, ev_ife, ev_call, evL_nil, evL_cons, evG_nm, evG_tupN, evG_tup, evG_sub, evGs_nil, evGs_cons, Pm_F, Pm_io, Pm_fuel, mkDn, seqA, seqE, dVar, dOp, rd, getAll, Arg.get, prim, WT.settle, WT.imm, tru, isBl, gnTup, gnAll, gnSub, gnNm, gnTupN, gnNms, setPrim, immL, immEl, frz1, frz, sRet, mkSl, dCall, ordL, isPl, dAnd, dOr, dNot, dIfe, dTup, dLst, dSl, part, slP, seqP, setP, dMop, recv, mprim], rfl⟩)
  rw [ppos_map] at c1
  let back : List D := ((marks o w).filter fun x => decide (0 < x)).map .int
  let Γ2 : WT.Env := RΓ t ws (.str w) s3 (.val (.tup ((marks w o).map .int))) (.val (.str o)) s6 (.own (.lst back))
  have h3 : evS (Pm (denF T fuel (n + 4)) (some 0) fuel) (.asg (.nm 7) (.comp [6] (.nm 6) (.val (.call 7 none [.var 5, .var 2] [])) (some (.op .gt [.var 6, .k (.int 0)])) (.var 6))) Γ1 = some (.nx, Γ2) := by
    rw [evS_asg, c1]
    simp [ev_k, ev_gl, ev_var, ev_op, ev_tup, ev_lst, ev_dct0, ev_sl, ev_mop, ev_and, ev_or, ev_not, ev_ife, ev_call, evL_nil, evL_cons, evG_nm, evG_tupN, evG_tup, evG_sub, evGs_nil, evGs_cons, Pm_F, Pm_io, Pm_fuel, mkDn, seqA, seqE, dVar, dOp, rd, getAll, Arg.get, prim, WT.settle, WT.imm, tru, isBl, gnTup, gnAll, gnSub, gnNm, gnTupN, gnNms, setPrim, immL, immEl, frz1, frz, sRet, mkSl, dCall, ordL, isPl, dAnd, dOr, dNot, dIfe, dTup, dLst, dSl, part, slP, seqP, setP, dMop, recv, mprim, Γ1, Γ2, back]
  have no2 : noOwn Γ2 [6] = true := by
    simp only [noOwn, Γ2, RΓ, List.getElem?_cons_succ, List.getElem?_cons_zero] at hs6 ⊢
    exact hs6
  have c2 := comp_a (compf_pure (P := Pm (denF T fuel (n + 4)) (some 0) fuel) (vs := [6]) (tg := .nm 6) (it := .val (.var 4)) (c := .op .gt [.var 6, .k (.int 0)]) (e := .var 6) (Γ := Γ2) (Γ1 := Γ2) (ds := (marks w o).map .int) ppos id (by
      simp [evI_val, inVal, ev_k, ev_gl, ev_var, ev_op, ev_tup, ev_lst, ev_dct0, ev_sl, ev_mop, ev_and, ev_or, ev_not, ev_ife, ev_call, evL_nil, evL_cons, evG_nm, evG_tupN, evG_tup, evG_sub, evGs_nil, evGs_cons, Pm_F, Pm_io, Pm_fuel, mkDn, seqA, seqE, dVar, dOp, rd, getAll, Arg.get, prim, WT.settle, WT.imm, tru, isBl, gnTup, gnAll, gnSub, gnNm, gnTupN, gnNms, setPrim, immL, immEl, frz1, frz, sRet, mkSl, dCall, ordL, isPl, dAnd, dOr, dNot, dIfe, dTup, dLst, dSl, part, slP, seqP, setP, dMop, recv, mprim, hi, items, Γ2]) no2 (by rw [List.length_map]; unfold line; omega) (fun d hd => by
      obtain ⟨i, _, rfl⟩ := List.mem_map.mp hd
      refine ⟨RΓ t ws (.str w) s3 (.val (.tup ((marks w o).map .int))) (.val (.str o)) (.val (.int i)) (.own (.lst back)), by simp [wipeE, ev_k, ev_gl, ev_var, ev_op, ev_tup, ev_lst, ev_dct0, ev_sl, ev_mop, ev_and, ev_or, ev_not, ev_ife, ev_call, evL_nil, evL_cons, evG_nm, evG_tupN, evG_tup, evG_sub, evGs_nil, evGs_cons, Pm_F, Pm_io, Pm_fuel, mkDn, seqA, seqE, dVar, dOp, rd, getAll, Arg.get, prim, WT.settle, WT.imm, tru, isBl, gnTup, gnAll, gnSub, gnNm, gnTupN, gnNms, setPrim, immL, immEl, frz1, frz, sRet, mkSl, dCall, ordL, isPl, dAnd, dOr, dNot, dIfe, dTup, dLst, dSl, part, slP, seqP, setP, dMop, recv, mprim, Γ2], by simp [ev_k, ev_gl, ev_var, ev_op, ev_tup, ev_lst, ev_dct0, ev_sl, ev_mop, ev_and, ev_or, ev_not, ev_ife, ev_call, evL_nil, evL_cons, evG_nm, evG_tupN, evG_tup, evG_sub, evGs_nil, evGs_cons, Pm_F, Pm_io, Pm_fuel, mkDn, seqA, seqE, dVar, dOp, rd, getAll, Arg.get, prim, WT.settle, WT.imm, tru, isBl, gnTup, gnAll, gnSub, gnNm, gnTupN, gnNms, setPrim, immL, immEl, frz1, frz, sRet, mkSl, dCall, ordL, isPl, dAnd, dOr, dNot, dIfe, dTup, dLst, dSl, part, slP, seqP, setP, dMop, recv, mprim, p_gt, ppos], fun _ => by simp [ev_k, ev_gl, ev_var, ev_op, ev_tup, ev_lst, ev_dct0, ev_sl, ev_mop, ev_and, ev_or, ev_not, ev_ife, ev_call, evL_nil, evL_cons, evG_nm, evG_tupN, evG_tup, evG_sub, evGs_nil, evGs_cons, Pm_F, Pm_io, Pm_fuel, mkDn, seqA, seqE, dVar, dOp, rd, getAll, Arg.get, prim, WT.settle, WT.imm, tru, isBl, gnTup, gnAll, gnSub, gnNm, gnTupN, gnNms, setPrim, immL, immEl, frz1, frz, sRet, mkSl, dCall, ordL, isPl, dAnd, dOr, dNot, dIfe, dTup, dLst, dSl, part, slP, seqP, setP, dMop, recv, mprim], rfl⟩))
  rw [ppos_map] at c2
  obtain ⟨x, r, em, hm⟩ := min_two w o hw.pos hl
  have hns := npos_sym w o hl
  have h4 : (ev (Pm (denF T fuel (n + 4)) (some 0) fuel) (.or (.op .ne [.op .eq [.op .minB [.var 4], .k (.int 2)], .op .eq [.var 2, .var 5]]) (.op .ne [.op .len [.comp [6] (.nm 6) (.val (.var 4)) (some (.op .gt [.var 6, .k (.int 0)])) (.var 6)], .op .len [.var 7]]))).t Γ2 = some (false || false, Γ2) := by
    rw [ev_or]
    refine or_t (op_t (fr := true) ?_) fun _ => op_t (fr := true) ?_
    · have ea : asInts ((marks w o).map D.int) = some (x :: r) := by
        rw [em]
        have : ∀ l : List Int, asInts (l.map D.int) = some l := by
          intro l
          induction l with
          | nil => rfl
          | cons a l ih => simp [asInts, ih]
        exact this _
      simp [ev_k, ev_gl, ev_var, ev_op, ev_tup, ev_lst, ev_dct0, ev_sl, ev_mop, ev_and, ev_or, ev_not, ev_ife, ev_call, evL_nil, evL_cons, evG_nm, evG_tupN, evG_tup, evG_sub, evGs_nil, evGs_cons, Pm_F, Pm_io, Pm_fuel, mkDn, seqA, seqE, dVar, dOp, rd, getAll, Arg.get, prim, WT.settle, WT.imm, tru, isBl, gnTup, gnAll, gnSub, gnNm, gnTupN, gnNms, setPrim, immL, immEl, frz1, frz, sRet, mkSl, dCall, ordL, isPl, dAnd, dOr, dNot, dIfe, dTup, dLst, dSl, part, slP, seqP, setP, dMop, recv, mprim, p_minB, ea, p_eq, p_ne, shal, deq, hi, Γ2]
      rw [hm]
    · rw [ev_op]
      simp only [evL_cons, evL_nil]
      rw [ev_op, ev_op]
      simp only [evL_cons, evL_nil, dOp, mkDn, seqA, c2, Option.bind_some, Option.map_some, getAll, Arg.get, prim, p_len, List.length_map]
      have hn : ((marks w o).filter fun x => decide (0 < x)).length = ((marks o w).filter fun x => decide (0 < x)).length := hns
      simp [ev_var, mkDn, seqA, seqE, dVar, dOp, rd, getAll, Arg.get, prim, WT.settle, WT.imm, tru, isBl, gnTup, gnAll, gnSub, gnNm, gnTupN, gnNms, setPrim, immL, immEl, frz1, frz, sRet, mkSl, dCall, ordL, isPl, dAnd, dOr, dNot, dIfe, dTup, dLst, dSl, part, slP, seqP, setP, dMop, recv, mprim, p_len, p_ne, shal, deq, Γ2, back, hn]
  refine ⟨.val (.tup ((marks w o).map .int)), s6, .own (.lst back), ?_, hs6⟩
  unfold ob
  simp only [evSs_cons, h1, Option.bind_some, evS_ife, h2, Bool.false_eq_true, if_false, evSs_nil, h3, h4, Bool.or_self]
  rfl
theorem markOthers (fuel n : Nat) (t ws : D) (w : List Nat) (hw : GW w) : ∀ (os : List (List Nat)) (s3 s4 s5 s6 s7 : Sl), (∀ o ∈ os, GW o ∧ w.length = o.length) → noOwn [s6] [0] = true →
    ∃ s4' s5' s6' s7', forL (evG (Pm (denF T fuel (n + 4)) (some 0) fuel) (.nm 5)) (evSs (Pm (denF T fuel (n + 4)) (some 0) fuel) ob) (os.map .str) (RΓ t ws (.str w) s3 s4 s5 s6 s7) = some (.nx, RΓ t ws (.str w) s3 s4' s5' s6' s7')
  | [], s3, s4, s5, s6, s7, _, _ => ⟨s4, s5, s6, s7, rfl⟩
  | o :: os, s3, s4, s5, s6, s7, h, h6 => by
    obtain ⟨go, gl⟩ := h o List.mem_cons_self
    obtain ⟨a4, a6, a7, e, h6'⟩ := markOther fuel n t ws w o hw go gl s3 s4 s6 s7 h6
    obtain ⟨b4, b5, b6, b7, e2⟩ := markOthers fuel n t ws w hw os s3 a4 (.val (.str o)) a6 a7 (fun x hx => h x (List.mem_cons_of_mem _ hx)) h6'
    refine ⟨b4, b5, b6, b7, (forL_nx (Γ1 := RΓ t ws (.str w) s3 s4 (.val (.str o)) s6 s7) ?_ e).trans e2⟩
    simp [ev_k, ev_gl, ev_var, ev_op, ev_tup, ev_lst, ev_dct0, ev_sl, ev_mop, ev_and, ev_or, ev_not, ev_ife, ev_call, evL_nil, evL_cons, evG_nm, evG_tupN, evG_tup, evG_sub, evGs_nil, evGs_cons, Pm_F, Pm_io, Pm_fuel, mkDn, seqA, seqE, dVar, dOp, rd, getAll, Arg.get, prim, WT.settle, WT.imm, tru, isBl, gnTup, gnAll, gnSub, gnNm, gnTupN, gnNms, setPrim, immL, immEl, frz1, frz, sRet, mkSl, dCall, ordL, isPl, dAnd, dOr, dNot, dIfe, dTup, dLst, dSl, part, slP, seqP, setP, dMop, recv, mprim]
/-! ### the words asked -/
theorem rep8 (e : List Nat) (he : 1 ≤ e.length) (m : Nat) (hm : m ≤ 8) : (((List.replicate 8 e).flatten).take m).length = m := by
  rw [List.length_take]
  simp
  omega
theorem lawRight (fuel n : Nat) (a b c : Int) : ∃ a' b' c', denF T fuel (n + 5) 16 [.lst [.int a, .int b, .int c]] = some (.bl true, true, some (.lst [.int a', .int b', .int c'])) := by
  obtain ⟨ws, a1, b1, c1, e1, hne, hl6, hg⟩ := lawWords fuel n a b c
  have iw := immL_strs ws
  obtain ⟨d, a2, b2, c2, e2, hd⟩ := lawOf fuel (n + 2) a1 b1 c1 (.tup (ws.map .str)) (ws.map .str) (.inr rfl) (by simpa using hne) (by simp; omega) (fun x hx => by obtain ⟨s, _, rfl⟩ := List.mem_map.mp hx; rfl)
  obtain ⟨w, hwm, rfl⟩ := List.mem_map.mp hd
  have hw := hg w hwm
  have w1 := hw.pos
  have w8 := hw.le
  have l1 := hw.line
  have e2 : denF T fuel (n + 4) 10 [.lst [.int a1, .int b1, .int c1], .tup (ws.map .str)] = _ := e2
  -- a letter of all
  obtain ⟨r, a3, b3, c3, e3, r0, r1⟩ := draw fuel (n + 2) a2 b2 c2 26 (by decide) (by decide)
  obtain ⟨x, ex, hx⟩ := WT.atI_of LET r r0 (by exact r1)
  have e4 : denF T fuel (n + 4) 10 [.lst [.int a2, .int b2, .int c2], .str LET] = some (.str [x], true, some (.lst [.int a3, .int b3, .int c3])) := by
    rw [den_of (fd := fd10) rfl rfl]
    have ll : LET.length ≤ line := by decide
    have e3 : denF T fuel (n + 3) 9 [.lst [.int a2, .int b2, .int c2], .int (LET.length : Nat)] = _ := e3
    simp [fd10, b10, startE, fin, evS_expr, evS_ret, evS_asg, evS_par, evS_ife, evS_never, evSs_nil, evSs_cons, ev_k, ev_gl, ev_var, ev_op, ev_tup, ev_lst, ev_dct0, ev_sl, ev_mop, ev_and, ev_or, ev_not, ev_ife, ev_call, evL_nil, evL_cons, evG_nm, evG_tupN, evG_tup, evG_sub, evGs_nil, evGs_cons, Pm_F, Pm_io, Pm_fuel, mkDn, seqA, seqE, dVar, dOp, rd, getAll, Arg.get, prim, WT.settle, WT.imm, tru, isBl, gnTup, gnAll, gnSub, gnNm, gnTupN, gnNms, setPrim, immL, immEl, frz1, frz, sRet, mkSl, dCall, ordL, isPl, dAnd, dOr, dNot, dIfe, dTup, dLst, dSl, part, slP, seqP, setP, dMop, recv, mprim, p_len, p_ix, ll, e3, ex, out]
  have f0' := at_get (w := w) (k := 0) (by omega)
  obtain ⟨fl, el, hfl⟩ : ∃ y, atI w (-1) = some y ∧ y ∈ w := by
    have : w.length - 1 < w.length := by omega
    refine ⟨w[w.length - 1], ?_, List.getElem_mem _⟩
    unfold atI ixN
    rw [if_neg (by omega), if_pos (by omega)]
    have e : (-1 + (w.length : Int)).toNat = w.length - 1 := by omega
    rw [e]
    simp [this]
  have h0m : at_ w 0 ∈ w := by
    have : 0 < w.length := by omega
    have e : at_ w 0 = w[0] := by simp [at_, this]
    rw [e]; exact List.getElem_mem _
  obtain ⟨b3', b4', e5⟩ := ansLoop fuel n (.lst [.int a3, .int b3, .int c3]) (.tup (ws.map .str)) w hw [at_ w 0, fl, x] .un .un .un .un .un (by
    intro l hl
    simp at hl
    rcases hl with h | h | h
    · rw [h]; exact hw.al _ h0m
    · rw [h]; exact hw.al _ hfl
    · rw [h]; exact hx)
  let os : List (List Nat) := (ws.map fun e => (List.replicate 8 e).flatten.take w.length) ++ [w.reverse, w, w.drop 1 ++ w.take 1]
  have hos : ∀ o ∈ os, GW o ∧ w.length = o.length := by
    intro o ho
    rcases List.mem_append.mp ho with q | q
    · obtain ⟨e, he, rfl⟩ := List.mem_map.mp q
      have ge := hg e he
      have hlen := rep8 e ge.pos w.length w8
      refine ⟨⟨by rw [hlen]; exact w1, by rw [hlen]; exact w8, fun c hc => ?_⟩, hlen.symm⟩
      have hc := List.mem_of_mem_take hc
      obtain ⟨l, hl, hcl⟩ := List.mem_flatten.mp hc
      rw [(List.mem_replicate.mp hl).2] at hcl
      exact ge.al c hcl
    · simp only [List.mem_cons, List.not_mem_nil, or_false] at q
      rcases q with h | h | h
      · subst h
        exact ⟨⟨by simpa using w1, by simpa using w8, fun c hc => hw.al c (by simpa using hc)⟩, by simp⟩
      · subst h; exact ⟨hw, rfl⟩
      · subst h
        have hlen : (w.drop 1 ++ w.take 1).length = w.length := by simp; omega
        refine ⟨⟨by rw [hlen]; exact w1, by rw [hlen]; exact w8, fun c hc => ?_⟩, hlen.symm⟩
        rcases List.mem_append.mp hc with q | q
        · exact hw.al c (List.mem_of_mem_drop q)
        · exact hw.al c (List.mem_of_mem_take q)
  obtain ⟨d4, d5, d6, d7, e6⟩ := markOthers fuel n (.lst [.int a3, .int b3, .int c3]) (.tup (ws.map .str)) w hw os b3' b4' .un .un .un hos rfl
  refine ⟨a3, b3, c3, ?_⟩
  have e0 : startE 0 (some 0) [.lst [.int a, .int b, .int c]] 8 = [.own (.lst [.int a, .int b, .int c]), .un, .un, .un, .un, .un, .un, .un] := rfl
  have h1 : evS (Pm (denF T fuel (n + 4)) (some 0) fuel) (.asg (.nm 1) (.call 13 (some 0) [.var 0, .k (.int 6), .k (.int 8)] [])) [.own (.lst [.int a, .int b, .int c]), .un, .un, .un, .un, .un, .un, .un] = some (.nx, [.own (.lst [.int a1, .int b1, .int c1]), .val (.tup (ws.map .str)), .un, .un, .un, .un, .un, .un]) := by
    simp [evS_asg, ev_k, ev_gl, ev_var, ev_op, ev_tup, ev_lst, ev_dct0, ev_sl, ev_mop, ev_and, ev_or, ev_not, ev_ife, ev_call, evL_nil, evL_cons, evG_nm, evG_tupN, evG_tup, evG_sub, evGs_nil, evGs_cons, Pm_F, Pm_io, Pm_fuel, mkDn, seqA, seqE, dVar, dOp, rd, getAll, Arg.get, prim, WT.settle, WT.imm, tru, isBl, gnTup, gnAll, gnSub, gnNm, gnTupN, gnNms, setPrim, immL, immEl, frz1, frz, sRet, mkSl, dCall, ordL, isPl, dAnd, dOr, dNot, dIfe, dTup, dLst, dSl, part, slP, seqP, setP, dMop, recv, mprim, e1, iw]
  have h2 : evS (Pm (denF T fuel (n + 4)) (some 0) fuel) (.asg (.nm 2) (.call 10 (some 0) [.var 0, .var 1] [])) [.own (.lst [.int a1, .int b1, .int c1]), .val (.tup (ws.map .str)), .un, .un, .un, .un, .un, .un] = some (.nx, RΓ (.lst [.int a2, .int b2, .int c2]) (.tup (ws.map .str)) (.str w) .un .un .un .un .un) := by
    simp [evS_asg, ev_k, ev_gl, ev_var, ev_op, ev_tup, ev_lst, ev_dct0, ev_sl, ev_mop, ev_and, ev_or, ev_not, ev_ife, ev_call, evL_nil, evL_cons, evG_nm, evG_tupN, evG_tup, evG_sub, evGs_nil, evGs_cons, Pm_F, Pm_io, Pm_fuel, mkDn, seqA, seqE, dVar, dOp, rd, getAll, Arg.get, prim, WT.settle, WT.imm, tru, isBl, gnTup, gnAll, gnSub, gnNm, gnTupN, gnNms, setPrim, immL, immEl, frz1, frz, sRet, mkSl, dCall, ordL, isPl, dAnd, dOr, dNot, dIfe, dTup, dLst, dSl, part, slP, seqP, setP, dMop, recv, mprim, e2, iw]
  have h3 : evI (Pm (denF T fuel (n + 4)) (some 0) fuel) (.val (.tup [.op .ix [.var 2, .k (.int 0)], .op .ix [.var 2, .op .neg [.k (.int 1)]], .call 10 (some 0) [.var 0, .k (.str [97, 98, 99, 100, 101, 102, 103, 104, 105, 106, 107, 108, 109, 110, 111, 112, 113, 114, 115, 116, 117, 118, 119, 120, 121, 122])] []])) (RΓ (.lst [.int a2, .int b2, .int c2]) (.tup (ws.map .str)) (.str w) .un .un .un .un .un) =
      some (sgs [at_ w 0, fl, x], RΓ (.lst [.int a3, .int b3, .int c3]) (.tup (ws.map .str)) (.str w) .un .un .un .un .un) := by
    unfold LET at e4
    have f0'' : atI w 0 = some (at_ w 0) := f0'
    have l3 : 3 ≤ line := by decide
    simp [evI_val, inVal, ev_k, ev_gl, ev_var, ev_op, ev_tup, ev_lst, ev_dct0, ev_sl, ev_mop, ev_and, ev_or, ev_not, ev_ife, ev_call, evL_nil, evL_cons, evG_nm, evG_tupN, evG_tup, evG_sub, evGs_nil, evGs_cons, Pm_F, Pm_io, Pm_fuel, mkDn, seqA, seqE, dVar, dOp, rd, getAll, Arg.get, prim, WT.settle, WT.imm, tru, isBl, gnTup, gnAll, gnSub, gnNm, gnTupN, gnNms, setPrim, immL, immEl, frz1, frz, sRet, mkSl, dCall, ordL, isPl, dAnd, dOr, dNot, dIfe, dTup, dLst, dSl, part, slP, seqP, setP, dMop, recv, mprim, p_ix, p_neg, l1, f0'', el, e4, items, l3, sgs]
  let Γ5 : WT.Env := RΓ (.lst [.int a3, .int b3, .int c3]) (.tup (ws.map .str)) (.str w) b3' b4' .un .un .un
  have hc := comp_a (comp_pure (P := Pm (denF T fuel (n + 4)) (some 0) fuel) (vs := [6]) (tg := .nm 6) (it := .val (.var 1)) (e := .sl false true (.op .mul [.var 6, .k (.int 8)]) (.k .non) (.op .len [.var 2])) (Γ := Γ5) (Γ1 := Γ5) (ds := ws.map .str)
    (fun d => match d with | .str e => .str ((List.replicate 8 e).flatten.take w.length) | _ => .non) (by simp [evI_val, inVal, ev_k, ev_gl, ev_var, ev_op, ev_tup, ev_lst, ev_dct0, ev_sl, ev_mop, ev_and, ev_or, ev_not, ev_ife, ev_call, evL_nil, evL_cons, evG_nm, evG_tupN, evG_tup, evG_sub, evGs_nil, evGs_cons, Pm_F, Pm_io, Pm_fuel, mkDn, seqA, seqE, dVar, dOp, rd, getAll, Arg.get, prim, WT.settle, WT.imm, tru, isBl, gnTup, gnAll, gnSub, gnNm, gnTupN, gnNms, setPrim, immL, immEl, frz1, frz, sRet, mkSl, dCall, ordL, isPl, dAnd, dOr, dNot, dIfe, dTup, dLst, dSl, part, slP, seqP, setP, dMop, recv, mprim, iw, items, Γ5]) rfl (by rw [List.length_map]; unfold line; omega) (fun d hd => by
      obtain ⟨e, he, rfl⟩ := List.mem_map.mp hd
      have ge := hg e he
      have q1 : e.length * 8 ≤ line := by have := ge.le; unfold line; omega
      have q2 : 8 * e.length ≤ line := by omega
      have q3 : cutL (List.replicate 8 e).flatten none (some (w.length : Int)) = (List.replicate 8 e).flatten.take w.length := cutHi _ _
      refine ⟨RΓ (.lst [.int a3, .int b3, .int c3]) (.tup (ws.map .str)) (.str w) b3' b4' .un (.val (.str e)) .un, by simp [wipeE, ev_k, ev_gl, ev_var, ev_op, ev_tup, ev_lst, ev_dct0, ev_sl, ev_mop, ev_and, ev_or, ev_not, ev_ife, ev_call, evL_nil, evL_cons, evG_nm, evG_tupN, evG_tup, evG_sub, evGs_nil, evGs_cons, Pm_F, Pm_io, Pm_fuel, mkDn, seqA, seqE, dVar, dOp, rd, getAll, Arg.get, prim, WT.settle, WT.imm, tru, isBl, gnTup, gnAll, gnSub, gnNm, gnTupN, gnNms, setPrim, immL, immEl, frz1, frz, sRet, mkSl, dCall, ordL, isPl, dAnd, dOr, dNot, dIfe, dTup, dLst, dSl, part, slP, seqP, setP, dMop, recv, mprim, Γ5], ?_, rfl⟩
      have hm : (ev (Pm (denF T fuel (n + 4)) (some 0) fuel) (.op .mul [.var 6, .k (.int 8)])).a (RΓ (.lst [.int a3, .int b3, .int c3]) (.tup (ws.map .str)) (.str w) b3' b4' .un (.val (.str e)) .un) = some (.v (.str (List.replicate 8 e).flatten) true, RΓ (.lst [.int a3, .int b3, .int c3]) (.tup (ws.map .str)) (.str w) b3' b4' .un (.val (.str e)) .un) := by
        simp [ev_k, ev_gl, ev_var, ev_op, ev_tup, ev_lst, ev_dct0, ev_sl, ev_mop, ev_and, ev_or, ev_not, ev_ife, ev_call, evL_nil, evL_cons, evG_nm, evG_tupN, evG_tup, evG_sub, evGs_nil, evGs_cons, Pm_F, Pm_io, Pm_fuel, mkDn, seqA, seqE, dVar, dOp, rd, getAll, Arg.get, prim, WT.settle, WT.imm, tru, isBl, gnTup, gnAll, gnSub, gnNm, gnTupN, gnNms, setPrim, immL, immEl, frz1, frz, sRet, mkSl, dCall, ordL, isPl, dAnd, dOr, dNot, dIfe, dTup, dLst, dSl, part, slP, seqP, setP, dMop, recv, mprim, p_mul, q1]
      have hl8 : ((List.replicate 8 e).flatten).length ≤ line := by simp; omega
      rw [ev_sl]
      simp only [dSl, mkDn, hm, Option.bind_some, ev_k, part]
      simp only [ev_op, evL_cons, evL_nil, dOp, mkDn, seqA, ev_var, dVar, rd, List.getElem?_cons_succ, List.getElem?_cons_zero, Option.map_some, Option.bind_some, getAll, Arg.get, prim, p_len, l1, if_true, WT.settle, WT.imm, Bool.true_or, part, slP, hl8, q3]))
  have ho : (ws.map D.str).map (fun d => match d with | .str e => D.str ((List.replicate 8 e).flatten.take w.length) | _ => .non) ++ [.str w.reverse, .str w, .str (w.drop 1 ++ w.take 1)] = os.map .str := by
    simp [os]
  have h4 : evI (Pm (denF T fuel (n + 4)) (some 0) fuel) (.val (.op .add [.comp [6] (.nm 6) (.val (.var 1)) none (.sl false true (.op .mul [.var 6, .k (.int 8)]) (.k .non) (.op .len [.var 2])), .lst [.op .rev [.var 2], .var 2, .op .add [.sl true false (.var 2) (.k (.int 1)) (.k .non), .sl false true (.var 2) (.k .non) (.k (.int 1))]]])) Γ5 = some (os.map .str, Γ5) := by
    have q1 : cutL w (some (1 : Int)) none = w.drop 1 := cutLo w 1
    have q2 : cutL w none (some (1 : Int)) = w.take 1 := cutHi w 1
    have z1 : w.length - 1 + min 1 w.length ≤ line := by unfold line; omega
    have l3 : 3 ≤ line := by decide
    have hd2 : (ev (Pm (denF T fuel (n + 4)) (some 0) fuel) (.lst [.op .rev [.var 2], .var 2, .op .add [.sl true false (.var 2) (.k (.int 1)) (.k .non), .sl false true (.var 2) (.k .non) (.k (.int 1))]])).a Γ5 = some (.v (.lst [.str w.reverse, .str w, .str (w.drop 1 ++ w.take 1)]) true, Γ5) := by
      simp [ev_k, ev_gl, ev_var, ev_op, ev_tup, ev_lst, ev_dct0, ev_sl, ev_mop, ev_and, ev_or, ev_not, ev_ife, ev_call, evL_nil, evL_cons, evG_nm, evG_tupN, evG_tup, evG_sub, evGs_nil, evGs_cons, Pm_F, Pm_io, Pm_fuel, mkDn, seqA, seqE, dVar, dOp, rd, getAll, Arg.get, prim, WT.settle, WT.imm, tru, isBl, gnTup, gnAll, gnSub, gnNm, gnTupN, gnNms, setPrim, immL, immEl, frz1, frz, sRet, mkSl, dCall, ordL, isPl, dAnd, dOr, dNot, dIfe, dTup, dLst, dSl, part, slP, seqP, setP, dMop, recv, mprim, p_rev, p_add, l1, q1, q2, z1, l3, Γ5]
    rw [evI_val, inVal]
    rw [ev_op]
    simp only [dOp, mkDn, evL_cons, evL_nil, seqA, hc, hd2, Option.bind_some, Option.map_some, getAll, Arg.get, prim, p_add]
    rw [if_pos (by simp; unfold line; omega), ho]
    have io := immL_strs os
    simp [WT.settle, WT.imm, immEl, io, items]
  have hb : fd16.body = [.asg (.nm 1) (.call 13 (some 0) [.var 0, .k (.int 6), .k (.int 8)] []), .asg (.nm 2) (.call 10 (some 0) [.var 0, .var 1] []), .for (.nm 3) (.val (.tup [.op .ix [.var 2, .k (.int 0)], .op .ix [.var 2, .op .neg [.k (.int 1)]], .call 10 (some 0) [.var 0, .k (.str [97, 98, 99, 100, 101, 102, 103, 104, 105, 106, 107, 108, 109, 110, 111, 112, 113, 114, 115, 116, 117, 118, 119, 120, 121, 122])] []])) ab,
    .for (.nm 5) (.val (.op .add [.comp [6] (.nm 6) (.val (.var 1)) none (.sl false true (.op .mul [.var 6, .k (.int 8)]) (.k .non) (.op .len [.var 2])), .lst [.op .rev [.var 2], .var 2, .op .add [.sl true false (.var 2) (.k (.int 1)) (.k .non), .sl false true (.var 2) (.k .non) (.k (.int 1))]]])) ob, .ret (.k (.bl true))] := rfl
  rw [den_of (fd := fd16) rfl rfl, hb]
  simp only [fd16, evSs_cons, fin]
  rw [e0, h1]
  simp only [Option.bind_some]
  rw [h2]
  simp only [Option.bind_some, evS_for]
  rw [h3]
  simp only [Option.bind_some]
  rw [e5]
  simp only [Option.bind_some]
  rw [h4]
  simp only [Option.bind_some]
  rw [e6]
  simp [evS_expr, evS_ret, evS_asg, evS_par, evS_ife, evS_never, evSs_nil, evSs_cons, ev_k, ev_gl, ev_var, ev_op, ev_tup, ev_lst, ev_dct0, ev_sl, ev_mop, ev_and, ev_or, ev_not, ev_ife, ev_call, evL_nil, evL_cons, evG_nm, evG_tupN, evG_tup, evG_sub, evGs_nil, evGs_cons, Pm_F, Pm_io, Pm_fuel, mkDn, seqA, seqE, dVar, dOp, rd, getAll, Arg.get, prim, WT.settle, WT.imm, tru, isBl, gnTup, gnAll, gnSub, gnNm, gnTupN, gnNms, setPrim, immL, immEl, frz1, frz, sRet, mkSl, dCall, ordL, isPl, dAnd, dOr, dNot, dIfe, dTup, dLst, dSl, part, slP, seqP, setP, dMop, recv, mprim, out]
end K56

namespace K56
open PySem L2 WT
/-! ### the law -/
def Wl (d : D) : Prop := ∃ a b c : Int, d = .lst [.int a, .int b, .int c]
theorem wellsLoop (fuel n : Nat) (ns : List Int) (s1 : Sl) : ∀ (items : List Nat) (acc : List D) (sl : Sl), acc.length + items.length ≤ 100 → (∀ d ∈ acc, Wl d) →
    ∃ new sl', compL [2] (evG (Pm (denF T fuel (n + 5)) none fuel) (.nm 2)) tYesE (ev (Pm (denF T fuel (n + 5)) none fuel) (.call 8 none [.var 0, .var 2] [])) acc true (items.map fun (i : Nat) => .int i) [.val (.scr ns), s1, sl] =
      some (acc ++ new, true, [.val (.scr ns), s1, sl']) ∧ new.length = items.length ∧ ∀ d ∈ acc ++ new, Wl d
  | [], acc, sl, _, h => ⟨[], sl, by simp [compL], rfl, by simpa using h⟩
  | i :: items, acc, sl, hz, h => by
    simp only [List.length_cons] at hz
    obtain ⟨a, b, e1⟩ := lawWell fuel (n + 4) ns i
    have e1 : denF T fuel (n + 5) 8 [.scr ns, .int i] = some (.lst [.int a, .int b, .int 0], true, none) := e1
    obtain ⟨new, sl', e, h1, h2⟩ := wellsLoop fuel n ns s1 items (acc ++ [.lst [.int a, .int b, .int 0]]) (.val (.int i)) (by simp; omega) (by
      intro d hd
      rcases List.mem_append.mp hd with q | q
      · exact h d q
      · simp at q; subst q; exact ⟨a, b, 0, rfl⟩)
    refine ⟨.lst [.int a, .int b, .int 0] :: new, sl', ?_, by simp [h1], by simpa using h2⟩
    simp only [List.append_assoc, List.singleton_append] at e
    refine (compL_cons (Γ1 := [.val (.scr ns), s1, .val (.int i)]) (Γ2 := [.val (.scr ns), s1, .val (.int i)]) (x := .lst [.int a, .int b, .int 0]) (fx := true) (Γ3 := [.val (.scr ns), s1, .val (.int i)]) ?_ rfl ?_ (by unfold line; omega)).trans e
    · simp [wipeE, ev_k, ev_gl, ev_var, ev_op, ev_tup, ev_lst, ev_dct0, ev_sl, ev_mop, ev_and, ev_or, ev_not, ev_ife, ev_call, evL_nil, evL_cons, evG_nm, evG_tupN, evG_tup, evG_sub, evGs_nil, evGs_cons, Pm_F, Pm_io, Pm_fuel, mkDn, seqA, seqE, dVar, dOp, rd, getAll, Arg.get, prim, WT.settle, WT.imm, tru, isBl, gnTup, gnAll, gnSub, gnNm, gnTupN, gnNms, setPrim, immL, immEl, frz1, frz, sRet, mkSl, dCall, ordL, isPl, dAnd, dOr, dNot, dIfe, dTup, dLst, dSl, part, slP, seqP, setP, dMop, recv, mprim]
    · simp [ev_k, ev_gl, ev_var, ev_op, ev_tup, ev_lst, ev_dct0, ev_sl, ev_mop, ev_and, ev_or, ev_not, ev_ife, ev_call, evL_nil, evL_cons, evG_nm, evG_tupN, evG_tup, evG_sub, evGs_nil, evGs_cons, Pm_F, Pm_io, Pm_fuel, mkDn, seqA, seqE, dVar, dOp, rd, getAll, Arg.get, prim, WT.settle, WT.imm, tru, isBl, gnTup, gnAll, gnSub, gnNm, gnTupN, gnNms, setPrim, immL, immEl, frz1, frz, sRet, mkSl, dCall, ordL, isPl, dAnd, dOr, dNot, dIfe, dTup, dLst, dSl, part, slP, seqP, setP, dMop, recv, mprim, e1]
theorem runLoop (fuel n : Nat) (ns : List Int) : ∀ (items : List Nat) (acc : List D) (wells : List D) (sl : Sl), acc.length + items.length ≤ 100 → wells ≠ [] → wells.length ≤ 100 → (∀ d ∈ wells, Wl d) → (∀ d ∈ acc, d = .bl true) →
    ∃ m wells' sl', compL [2] (evG (Pm (denF T fuel (n + 5)) none fuel) (.nm 2)) tYesE (ev (Pm (denF T fuel (n + 5)) none fuel) (.callp 16 1 (.op .mod [.op .int [.var 2], .op .len [.var 1]]))) acc true (items.map fun (i : Nat) => .int i) [.val (.scr ns), .own (.lst wells), sl] =
      some (acc ++ List.replicate m (.bl true), true, [.val (.scr ns), .own (.lst wells'), sl'])
  | [], acc, wells, sl, _, _, _, _, _ => ⟨0, wells, sl, by simp [compL]⟩
  | i :: items, acc, wells, sl, hz, hw, hl, h, ha => by
    simp only [List.length_cons] at hz
    have hp : 0 < wells.length := List.length_pos_iff.mpr hw
    have r0 := Int.emod_nonneg (i : Int) (show (wells.length : Int) ≠ 0 by omega)
    have r1 := Int.emod_lt_of_pos (i : Int) (show (0 : Int) < wells.length by omega)
    obtain ⟨j, hj⟩ : ∃ j : Nat, (j : Int) = (i : Int) % wells.length := ⟨((i : Int) % wells.length).toNat, by omega⟩
    have hjl : j < wells.length := by omega
    obtain ⟨a, b, c, ew⟩ := h wells[j] (List.getElem_mem hjl)
    obtain ⟨a', b', c', e1⟩ := lawRight fuel n a b c
    obtain ⟨m, wells', sl', e⟩ := runLoop fuel n ns items (acc ++ [.bl true]) (wells.set j (.lst [.int a', .int b', .int c'])) (.val (.int i)) (by simp; omega) (fun z => by have := congrArg List.length z; simp at this; exact hw this) (by simpa using hl) (by
      intro d hd
      rcases List.mem_or_eq_of_mem_set hd with q | q
      · exact h d q
      · exact ⟨a', b', c', q⟩) (by
      intro d hd
      rcases List.mem_append.mp hd with q | q
      · exact ha d q
      · simpa using q)
    refine ⟨m + 1, wells', sl', ?_⟩
    rw [List.replicate_succ]
    simp only [List.append_assoc, List.singleton_append] at e
    refine (compL_cons (Γ1 := [.val (.scr ns), .own (.lst wells), .val (.int i)]) (Γ2 := [.val (.scr ns), .own (.lst wells), .val (.int i)]) (x := .bl true) (fx := true) (Γ3 := [.val (.scr ns), .own (.lst (wells.set j (.lst [.int a', .int b', .int c']))), .val (.int i)]) ?_ rfl ?_ (by unfold line; omega)).trans e
    · simp [wipeE, ev_k, ev_gl, ev_var, ev_op, ev_tup, ev_lst, ev_dct0, ev_sl, ev_mop, ev_and, ev_or, ev_not, ev_ife, ev_call, evL_nil, evL_cons, evG_nm, evG_tupN, evG_tup, evG_sub, evGs_nil, evGs_cons, Pm_F, Pm_io, Pm_fuel, mkDn, seqA, seqE, dVar, dOp, rd, getAll, Arg.get, prim, WT.settle, WT.imm, tru, isBl, gnTup, gnAll, gnSub, gnNm, gnTupN, gnNms, setPrim, immL, immEl, frz1, frz, sRet, mkSl, dCall, ordL, isPl, dAnd, dOr, dNot, dIfe, dTup, dLst, dSl, part, slP, seqP, setP, dMop, recv, mprim]
    · have em : (ev (Pm (denF T fuel (n + 5)) none fuel) (.op .mod [.op .int [.var 2], .op .len [.var 1]])).e [.val (.scr ns), .own (.lst wells), .val (.int i)] = some (.int j, true, [.val (.scr ns), .own (.lst wells), .val (.int i)]) := by
        have p : (0 : Int) < wells.length := by omega
        simp [ev_k, ev_gl, ev_var, ev_op, ev_tup, ev_lst, ev_dct0, ev_sl, ev_mop, ev_and, ev_or, ev_not, ev_ife, ev_call, evL_nil, evL_cons, evG_nm, evG_tupN, evG_tup, evG_sub, evGs_nil, evGs_cons, Pm_F, Pm_io, Pm_fuel, mkDn, seqA, seqE, dVar, dOp, rd, getAll, Arg.get, prim, WT.settle, WT.imm, tru, isBl, gnTup, gnAll, gnSub, gnNm, gnTupN, gnNms, setPrim, immL, immEl, frz1, frz, sRet, mkSl, dCall, ordL, isPl, dAnd, dOr, dNot, dIfe, dTup, dLst, dSl, part, slP, seqP, setP, dMop, recv, mprim, p_int, p_len, p_mod, p, hp, hj]
      have ex : ixN wells.length (j : Int) = some j := by
        unfold ixN
        rw [if_pos (by omega), if_pos (by omega)]
        simp
      have eg : wells[j]? = some (.lst [.int a, .int b, .int c]) := by rw [List.getElem?_eq_getElem hjl, ew]
      rw [ev_callp]
      simp only [dCallp, mkDn, rd, List.getElem?_cons_succ, List.getElem?_cons_zero, Option.bind_some, em, ex, eg, Pm_F, e1]
      simp [WT.imm]
theorem main' (fuel n : Nat) (ns : List Int) : denF T fuel (n + 6) 17 [.scr ns] = some (.bl true, true, none) := by
  obtain ⟨q, hq⟩ : ∃ q : Nat, q = max 1 (min ns.length 3) := ⟨_, rfl⟩
  have q1 : 1 ≤ q := by omega
  have q3 : q ≤ 3 := by omega
  have range_map : ∀ k : Nat, (rangeL 0 k).map D.int = (List.range k).map fun (i : Nat) => D.int i := by
    intro k
    apply List.ext_getElem?
    intro i
    rw [List.getElem?_map, List.getElem?_map]
    rcases Nat.lt_or_ge i k with h | h
    · rw [rangeL_get k 0 i h, List.getElem?_range h]; simp
    · rw [List.getElem?_eq_none (by rw [rangeL_length]; exact h), List.getElem?_eq_none (by simpa using h)]; rfl
  obtain ⟨wells, sl1, e1, l1, w1⟩ := wellsLoop fuel n ns .un (List.range q) [] .un (by simp; omega) (fun d hd => nomatch hd)
  simp only [List.nil_append] at e1 w1
  rw [List.length_range] at l1
  have wne : wells ≠ [] := fun z => by rw [z] at l1; simp at l1; omega
  obtain ⟨m, wells', sl2, e2⟩ := runLoop fuel n ns (List.range 15) [] wells .un (by simp) wne (by omega) w1 (fun d hd => nomatch hd)
  simp only [List.nil_append] at e2
  rw [den_of (fd := fd17) rfl rfl]
  have e0 : startE 0 none [.scr ns] 3 = [.val (.scr ns), .un, .un] := rfl
  have c1 := comp_e (P := Pm (denF T fuel (n + 5)) none fuel) (vs := [2]) (tg := .nm 2) (it := .range [.op .maxB [.k (.int 1), .op .minB [.op .len [.var 0], .k (.int 3)]]]) (e := .call 8 none [.var 0, .var 2] []) (Γ := [.val (.scr ns), .un, .un]) (Γ1 := [.val (.scr ns), .un, .un]) (ds := (List.range q).map fun (i : Nat) => .int i) (by
    have hv : (ev (Pm (denF T fuel (n + 5)) none fuel) (.op .maxB [.k (.int 1), .op .minB [.op .len [.var 0], .k (.int 3)]])).e [.val (.scr ns), .un, .un] = some (.int q, true, [.val (.scr ns), .un, .un]) := by
      simp [ev_k, ev_gl, ev_var, ev_op, ev_tup, ev_lst, ev_dct0, ev_sl, ev_mop, ev_and, ev_or, ev_not, ev_ife, ev_call, evL_nil, evL_cons, evG_nm, evG_tupN, evG_tup, evG_sub, evGs_nil, evGs_cons, Pm_F, Pm_io, Pm_fuel, mkDn, seqA, seqE, dVar, dOp, rd, getAll, Arg.get, prim, WT.settle, WT.imm, tru, isBl, gnTup, gnAll, gnSub, gnNm, gnTupN, gnNms, setPrim, immL, immEl, frz1, frz, sRet, mkSl, dCall, ordL, isPl, dAnd, dOr, dNot, dIfe, dTup, dLst, dSl, part, slP, seqP, setP, dMop, recv, mprim, p_len, p_minB, p_maxB]
      (repeat' split) <;> omega
    have hb : (q : Int).natAbs < 2 ^ 60 := by omega
    rw [← range_map, evI_range]
    simp only [inRange, evL_cons, evL_nil, seqE, hv, Option.bind_some, Option.map_some, rangeD]
    rw [if_pos hb]
    simp) rfl e1
  have s1 : evS (Pm (denF T fuel (n + 5)) none fuel) (.asg (.nm 1) (.comp [2] (.nm 2) (.range [.op .maxB [.k (.int 1), .op .minB [.op .len [.var 0], .k (.int 3)]]]) none (.call 8 none [.var 0, .var 2] []))) [.val (.scr ns), .un, .un] = some (.nx, [.val (.scr ns), .own (.lst wells), .un]) := by
    rw [evS_asg, c1]
    simp [evG_nm, gnNm, Pm_io, mkSl, WT.imm, backE]
  have c2 := comp_a (comp_e (P := Pm (denF T fuel (n + 5)) none fuel) (vs := [2]) (tg := .nm 2) (it := .range [.k (.int 15)]) (e := .callp 16 1 (.op .mod [.op .int [.var 2], .op .len [.var 1]])) (Γ := [.val (.scr ns), .own (.lst wells), .un]) (Γ1 := [.val (.scr ns), .own (.lst wells), .un]) (ds := (List.range 15).map fun (i : Nat) => .int i) (by
    rw [← range_map]
    simp [evI_range, inRange, ev_k, ev_gl, ev_var, ev_op, ev_tup, ev_lst, ev_dct0, ev_sl, ev_mop, ev_and, ev_or, ev_not, ev_ife, ev_call, evL_nil, evL_cons, evG_nm, evG_tupN, evG_tup, evG_sub, evGs_nil, evGs_cons, Pm_F, Pm_io, Pm_fuel, mkDn, seqA, seqE, dVar, dOp, rd, getAll, Arg.get, prim, WT.settle, WT.imm, tru, isBl, gnTup, gnAll, gnSub, gnNm, gnTupN, gnNms, setPrim, immL, immEl, frz1, frz, sRet, mkSl, dCall, ordL, isPl, dAnd, dOr, dNot, dIfe, dTup, dLst, dSl, part, slP, seqP, setP, dMop, recv, mprim, rangeD]) rfl e2)
  have hb : ∀ m : Nat, asBls (List.replicate m (.bl true)) = some (List.replicate m true) := by
    intro m
    induction m with
    | zero => rfl
    | succ m ih => simp [List.replicate_succ, asBls, ih]
  simp only [fd17, b17, evSs_cons, fin]
  rw [e0, s1]
  simp only [Option.bind_some, evS_ret, sRet]
  rw [ev_op]
  simp only [dOp, mkDn, evL_cons, evL_nil, seqA, c2, Option.bind_some, Option.map_some, getAll, Arg.get, prim, p_all, hb]
  simp [WT.settle, WT.imm, out]
def fuel : Nat := 1000000
def depth : Nat := 40
theorem main : ∀ ns : List Int, ns.length ≤ 63 → ∃ fr, denF T fuel depth 17 [.scr ns] = some (.bl true, fr, none) := fun ns _ => ⟨true, main' fuel 34 ns⟩
end K56

/-! what the module's run leaves; the law (printed by gen.py) -/
namespace K56
open PySem L2 WT
theorem all_mk {l : PySem.W.OpenLaw} {w : World} {K : PySem.W.Frag} {h : Heap} {mg : Str → Option Value} {fa f0 f1 f2 f3 f4 f5 f6 f7 f8 f9 f10 f11 f12 f13 f14 f15 f16 f17 : Addr} (X : K.In h) (G : h.Ns mainGlobals mg) (hfa : mg "law" = some (.ref fa))
    {od0 an0 od1 an1 od2 an2 od3 an3 od4 an4 od5 an5 od6 an6 od7 an7 od8 an8 od9 an9 od10 an10 od11 an11 od12 an12 od13 an13 od14 an14 od15 an15 od16 an16 od17 an17 : Option Addr} {sl0 sl1 sl2 sl3 sl4 sl5 sl6 sl7 sl8 sl9 sl10 sl11 sl12 sl13 sl14 sl15 sl16 sl17 : Array (Option Value)} {oc0 kV0 dc0 pm0 cd0 ct0 oc1 kV1 dc1 pm1 cd1 ct1 oc2 kV2 dc2 pm2 cd2 ct2 oc3 kV3 dc3 pm3 cd3 ct3 oc4 kV4 dc4 pm4 cd4 ct4 oc5 kV5 dc5 pm5 cd5 ct5 oc6 kV6 dc6 pm6 cd6 ct6 oc7 kV7 dc7 pm7 cd7 ct7 oc8 kV8 dc8 pm8 cd8 ct8 oc9 kV9 dc9 pm9 cd9 ct9 oc10 kV10 dc10 pm10 cd10 ct10 oc11 kV11 dc11 pm11 cd11 ct11 oc12 kV12 dc12 pm12 cd12 ct12 oc13 kV13 dc13 pm13 cd13 ct13 oc14 kV14 dc14 pm14 cd14 ct14 oc15 kV15 dc15 pm15 cd15 ct15 oc16 kV16 dc16 pm16 cd16 ct16 oc17 kV17 dc17 pm17 cd17 ct17 : Value} {gu0 gu1 gu2 gu3 : Value}
    (a0 : PySem.W.nsIn K mainGlobals "is_word" = some (some (.ref f0))) (l0 : K.lookup f0 = some ⟨oc0, od0, .func (PySem.W.fnOf "is_word" "is_word" (defArgs (topS 3)) (defBody (topS 3)) (defScope (topS 3)) .none kV0 dc0 pm0 an0 cd0 ct0), sl0⟩) (c0 : PySem.W.codeIn K cd0 "is_word" = true) (k0 : PySem.W.keepIn K (.ref f0) = true)
    (a1 : PySem.W.nsIn K mainGlobals "is_letter" = some (some (.ref f1))) (l1 : K.lookup f1 = some ⟨oc1, od1, .func (PySem.W.fnOf "is_letter" "is_letter" (defArgs (topS 4)) (defBody (topS 4)) (defScope (topS 4)) .none kV1 dc1 pm1 an1 cd1 ct1), sl1⟩) (c1 : PySem.W.codeIn K cd1 "is_letter" = true) (k1 : PySem.W.keepIn K (.ref f1) = true)
    (a2 : PySem.W.nsIn K mainGlobals "is_letters" = some (some (.ref f2))) (l2 : K.lookup f2 = some ⟨oc2, od2, .func (PySem.W.fnOf "is_letters" "is_letters" (defArgs (topS 5)) (defBody (topS 5)) (defScope (topS 5)) .none kV2 dc2 pm2 an2 cd2 ct2), sl2⟩) (c2 : PySem.W.codeIn K cd2 "is_letters" = true) (k2 : PySem.W.keepIn K (.ref f2) = true)
    (a3 : PySem.W.nsIn K mainGlobals "check_word" = some (some (.ref f3))) (l3 : K.lookup f3 = some ⟨oc3, od3, .func (PySem.W.fnOf "check_word" "check_word" (defArgs (topS 10)) (defBody (topS 10)) (defScope (topS 10)) .none kV3 dc3 pm3 an3 cd3 ct3), sl3⟩) (c3 : PySem.W.codeIn K cd3 "check_word" = true) (k3 : PySem.W.keepIn K (.ref f3) = true)
    (a4 : PySem.W.nsIn K mainGlobals "answer_by" = some (some (.ref f4))) (l4 : K.lookup f4 = some ⟨oc4, od4, .func (PySem.W.fnOf "answer_by" "answer_by" (defArgs (topS 14)) (defBody (topS 14)) (defScope (topS 14)) .none kV4 dc4 pm4 an4 cd4 ct4), sl4⟩) (c4 : PySem.W.codeIn K cd4 "answer_by" = true) (k4 : PySem.W.keepIn K (.ref f4) = true)
    (a5 : PySem.W.nsIn K mainGlobals "marks_by" = some (some (.ref f5))) (l5 : K.lookup f5 = some ⟨oc5, od5, .func (PySem.W.fnOf "marks_by" "marks_by" (defArgs (topS 15)) (defBody (topS 15)) (defScope (topS 15)) .none kV5 dc5 pm5 an5 cd5 ct5), sl5⟩) (c5 : PySem.W.codeIn K cd5 "marks_by" = true) (k5 : PySem.W.keepIn K (.ref f5) = true)
    (a6 : PySem.W.nsIn K mainGlobals "answer" = some (some (.ref f6))) (l6 : K.lookup f6 = some ⟨oc6, od6, .func (PySem.W.fnOf "answer" "answer" (defArgs (topS 17)) (defBody (topS 17)) (defScope (topS 17)) .none kV6 dc6 pm6 an6 cd6 ct6), sl6⟩) (c6 : PySem.W.codeIn K cd6 "answer" = true) (k6 : PySem.W.keepIn K (.ref f6) = true)
    (a7 : PySem.W.nsIn K mainGlobals "marks" = some (some (.ref f7))) (l7 : K.lookup f7 = some ⟨oc7, od7, .func (PySem.W.fnOf "marks" "marks" (defArgs (topS 18)) (defBody (topS 18)) (defScope (topS 18)) .none kV7 dc7 pm7 an7 cd7 ct7), sl7⟩) (c7 : PySem.W.codeIn K cd7 "marks" = true) (k7 : PySem.W.keepIn K (.ref f7) = true)
    (a8 : PySem.W.nsIn K mainGlobals "_law_well" = some (some (.ref f8))) (l8 : K.lookup f8 = some ⟨oc8, od8, .func (PySem.W.fnOf "_law_well" "_law_well" (defArgs (topS 20)) (defBody (topS 20)) (defScope (topS 20)) .none kV8 dc8 pm8 an8 cd8 ct8), sl8⟩) (c8 : PySem.W.codeIn K cd8 "_law_well" = true) (k8 : PySem.W.keepIn K (.ref f8) = true)
    (a9 : PySem.W.nsIn K mainGlobals "_law_draw" = some (some (.ref f9))) (l9 : K.lookup f9 = some ⟨oc9, od9, .func (PySem.W.fnOf "_law_draw" "_law_draw" (defArgs (topS 21)) (defBody (topS 21)) (defScope (topS 21)) .none kV9 dc9 pm9 an9 cd9 ct9), sl9⟩) (c9 : PySem.W.codeIn K cd9 "_law_draw" = true) (k9 : PySem.W.keepIn K (.ref f9) = true)
    (a10 : PySem.W.nsIn K mainGlobals "_law_of" = some (some (.ref f10))) (l10 : K.lookup f10 = some ⟨oc10, od10, .func (PySem.W.fnOf "_law_of" "_law_of" (defArgs (topS 22)) (defBody (topS 22)) (defScope (topS 22)) .none kV10 dc10 pm10 an10 cd10 ct10), sl10⟩) (c10 : PySem.W.codeIn K cd10 "_law_of" = true) (k10 : PySem.W.keepIn K (.ref f10) = true)
    (a11 : PySem.W.nsIn K mainGlobals "_law_same" = some (some (.ref f11))) (l11 : K.lookup f11 = some ⟨oc11, od11, .func (PySem.W.fnOf "_law_same" "_law_same" (defArgs (topS 23)) (defBody (topS 23)) (defScope (topS 23)) .none kV11 dc11 pm11 an11 cd11 ct11), sl11⟩) (c11 : PySem.W.codeIn K cd11 "_law_same" = true) (k11 : PySem.W.keepIn K (.ref f11) = true)
    (a12 : PySem.W.nsIn K mainGlobals "_law_word" = some (some (.ref f12))) (l12 : K.lookup f12 = some ⟨oc12, od12, .func (PySem.W.fnOf "_law_word" "_law_word" (defArgs (topS 24)) (defBody (topS 24)) (defScope (topS 24)) .none kV12 dc12 pm12 an12 cd12 ct12), sl12⟩) (c12 : PySem.W.codeIn K cd12 "_law_word" = true) (k12 : PySem.W.keepIn K (.ref f12) = true)
    (a13 : PySem.W.nsIn K mainGlobals "_law_words" = some (some (.ref f13))) (l13 : K.lookup f13 = some ⟨oc13, od13, .func (PySem.W.fnOf "_law_words" "_law_words" (defArgs (topS 25)) (defBody (topS 25)) (defScope (topS 25)) .none kV13 dc13 pm13 an13 cd13 ct13), sl13⟩) (c13 : PySem.W.codeIn K cd13 "_law_words" = true) (k13 : PySem.W.keepIn K (.ref f13) = true)
    (a14 : PySem.W.nsIn K mainGlobals "_law_places" = some (some (.ref f14))) (l14 : K.lookup f14 = some ⟨oc14, od14, .func (PySem.W.fnOf "_law_places" "_law_places" (defArgs (topS 26)) (defBody (topS 26)) (defScope (topS 26)) .none kV14 dc14 pm14 an14 cd14 ct14), sl14⟩) (c14 : PySem.W.codeIn K cd14 "_law_places" = true) (k14 : PySem.W.keepIn K (.ref f14) = true)
    (a15 : PySem.W.nsIn K mainGlobals "_law_marks" = some (some (.ref f15))) (l15 : K.lookup f15 = some ⟨oc15, od15, .func (PySem.W.fnOf "_law_marks" "_law_marks" (defArgs (topS 27)) (defBody (topS 27)) (defScope (topS 27)) .none kV15 dc15 pm15 an15 cd15 ct15), sl15⟩) (c15 : PySem.W.codeIn K cd15 "_law_marks" = true) (k15 : PySem.W.keepIn K (.ref f15) = true)
    (a16 : PySem.W.nsIn K mainGlobals "_law_right" = some (some (.ref f16))) (l16 : K.lookup f16 = some ⟨oc16, od16, .func (PySem.W.fnOf "_law_right" "_law_right" (defArgs (topS 28)) (defBody (topS 28)) (defScope (topS 28)) .none kV16 dc16 pm16 an16 cd16 ct16), sl16⟩) (c16 : PySem.W.codeIn K cd16 "_law_right" = true) (k16 : PySem.W.keepIn K (.ref f16) = true)
    (a17 : PySem.W.nsIn K mainGlobals "law" = some (some (.ref f17))) (l17 : K.lookup f17 = some ⟨oc17, od17, .func (PySem.W.fnOf "law" "law" (defArgs (topS 29)) (defBody (topS 29)) (defScope (topS 29)) .none kV17 dc17 pm17 an17 cd17 ct17), sl17⟩) (c17 : PySem.W.codeIn K cd17 "law" = true) (k17 : PySem.W.keepIn K (.ref f17) = true)
    (z0 : PySem.W.nsIn K mainGlobals "isinstance" = some none)
    (z1 : PySem.W.nsIn K mainGlobals "str" = some none)
    (z2 : PySem.W.nsIn K mainGlobals "all" = some none)
    (z3 : PySem.W.nsIn K mainGlobals "len" = some none)
    (z4 : PySem.W.nsIn K mainGlobals "tuple" = some none)
    (z5 : PySem.W.nsIn K mainGlobals "enumerate" = some none)
    (z6 : PySem.W.nsIn K mainGlobals "zip" = some none)
    (z7 : PySem.W.nsIn K mainGlobals "int" = some none)
    (z8 : PySem.W.nsIn K mainGlobals "abs" = some none)
    (z9 : PySem.W.nsIn K mainGlobals "divmod" = some none)
    (z10 : PySem.W.nsIn K mainGlobals "range" = some none)
    (z11 : PySem.W.nsIn K mainGlobals "bool" = some none)
    (z12 : PySem.W.nsIn K mainGlobals "list" = some none)
    (z13 : PySem.W.nsIn K mainGlobals "dict" = some none)
    (z14 : PySem.W.nsIn K mainGlobals "sorted" = some none)
    (z15 : PySem.W.nsIn K mainGlobals "min" = some none)
    (z16 : PySem.W.nsIn K mainGlobals "max" = some none)
    (gvn0 : PySem.W.nsIn K mainGlobals "LETTERS" = some (some gu0)) (gvr0 : GvOk K (.str [97, 98, 99, 100, 101, 102, 103, 104, 105, 106, 107, 108, 109, 110, 111, 112, 113, 114, 115, 116, 117, 118, 119, 120, 121, 122]) gu0)
    (gvn1 : PySem.W.nsIn K mainGlobals "MOST_LETTERS" = some (some gu1)) (gvr1 : GvOk K (.int 8) gu1)
    (gvn2 : PySem.W.nsIn K mainGlobals "RIGHT" = some (some gu2)) (gvr2 : GvOk K (.int 2) gu2)
    (gvn3 : PySem.W.nsIn K mainGlobals "THERE" = some (some gu3)) (gvr3 : GvOk K (.int 1) gu3)
    : ∃ fd : FuncData, (∀ (s : Shared) (v : Value), BindsTo s fd ⟨[v], []⟩ [("script", v)]) ∧ ∀ base : Heap, K.In base → base.Ns mainGlobals mg → FnOk l.prog w K mg base CX0 depth fa fd ["script"] (spF K 1 none (denF T fuel depth 17)) :=
  law_mk hfa ⟨forall_get (all_cons ⟨f0, _, PySem.W.mg_of X G a0, fun_mk l0 c0 k0⟩ (all_cons ⟨f1, _, PySem.W.mg_of X G a1, fun_mk l1 c1 k1⟩ (all_cons ⟨f2, _, PySem.W.mg_of X G a2, fun_mk l2 c2 k2⟩ (all_cons ⟨f3, _, PySem.W.mg_of X G a3, fun_mk l3 c3 k3⟩ (all_cons ⟨f4, _, PySem.W.mg_of X G a4, fun_mk l4 c4 k4⟩ (all_cons ⟨f5, _, PySem.W.mg_of X G a5, fun_mk l5 c5 k5⟩ (all_cons ⟨f6, _, PySem.W.mg_of X G a6, fun_mk l6 c6 k6⟩ (all_cons ⟨f7, _, PySem.W.mg_of X G a7, fun_mk l7 c7 k7⟩ (all_cons ⟨f8, _, PySem.W.mg_of X G a8, fun_mk l8 c8 k8⟩ (all_cons ⟨f9, _, PySem.W.mg_of X G a9, fun_mk l9 c9 k9⟩ (all_cons ⟨f10, _, PySem.W.mg_of X G a10, fun_mk l10 c10 k10⟩ (all_cons ⟨f11, _, PySem.W.mg_of X G a11, fun_mk l11 c11 k11⟩ (all_cons ⟨f12, _, PySem.W.mg_of X G a12, fun_mk l12 c12 k12⟩ (all_cons ⟨f13, _, PySem.W.mg_of X G a13, fun_mk l13 c13 k13⟩ (all_cons ⟨f14, _, PySem.W.mg_of X G a14, fun_mk l14 c14 k14⟩ (all_cons ⟨f15, _, PySem.W.mg_of X G a15, fun_mk l15 c15 k15⟩ (all_cons ⟨f16, _, PySem.W.mg_of X G a16, fun_mk l16 c16 k16⟩ (all_cons ⟨f17, _, PySem.W.mg_of X G a17, fun_mk l17 c17 k17⟩ all_nil)))))))))))))))))), contains_all (all_cons (PySem.W.mg_none_of X G z0) (all_cons (PySem.W.mg_none_of X G z1) (all_cons (PySem.W.mg_none_of X G z2) (all_cons (PySem.W.mg_none_of X G z3) (all_cons (PySem.W.mg_none_of X G z4) (all_cons (PySem.W.mg_none_of X G z5) (all_cons (PySem.W.mg_none_of X G z6) (all_cons (PySem.W.mg_none_of X G z7) (all_cons (PySem.W.mg_none_of X G z8) (all_cons (PySem.W.mg_none_of X G z9) (all_cons (PySem.W.mg_none_of X G z10) (all_cons (PySem.W.mg_none_of X G z11) (all_cons (PySem.W.mg_none_of X G z12) (all_cons (PySem.W.mg_none_of X G z13) (all_cons (PySem.W.mg_none_of X G z14) (all_cons (PySem.W.mg_none_of X G z15) (all_cons (PySem.W.mg_none_of X G z16) all_nil))))))))))))))))), all_cons (gvr0.get (PySem.W.mg_of X G gvn0)) (all_cons (gvr1.get (PySem.W.mg_of X G gvn1)) (all_cons (gvr2.get (PySem.W.mg_of X G gvn2)) (all_cons (gvr3.get (PySem.W.mg_of X G gvn3)) all_nil)))⟩ bind ok okbl depth 17 d17 rfl rfl rfl (by decide) rfl
end K56
open PySem PySem.W PyProof.Rows
set_option maxHeartbeats 0 in
theorem PySem.Challenge.cw_wordtiles_k56_whole_answers_and_marks_holds : PySem.Challenge.rw_wordtiles_k56_whole_answers_and_marks.Holds := by
  w_on; o_law; k_head; (case hw => w_witness2)
  k_fill
  refine L2.walk_of (l := PySem.Challenge.rw_wordtiles_k56_whole_answers_and_marks) (n := 63) (k := K56.depth) (x := "script") (CX := fun _ => L2.CX0) (sp := fun w => WT.spF _ 1 none (WT.denF K56.T K56.fuel K56.depth 17)) rfl (by decide) rfl ⟨rfl, by decide, by decide⟩ (fun w h Y => PySem.W.kIn_of Y) ?F (fun _ _ a ns hl hO hS => WT.law_sp K56.main hl hO hS) (fun _ _ _ _ _ h => h)
  case F =>
    intro w mg fa h KX G hmg
    refine' K56.all_mk KX G hmg ?a0 ?l0 ?c0 ?k0 ?a1 ?l1 ?c1 ?k1 ?a2 ?l2 ?c2 ?k2 ?a3 ?l3 ?c3 ?k3 ?a4 ?l4 ?c4 ?k4 ?a5 ?l5 ?c5 ?k5 ?a6 ?l6 ?c6 ?k6 ?a7 ?l7 ?c7 ?k7 ?a8 ?l8 ?c8 ?k8 ?a9 ?l9 ?c9 ?k9 ?a10 ?l10 ?c10 ?k10 ?a11 ?l11 ?c11 ?k11 ?a12 ?l12 ?c12 ?k12 ?a13 ?l13 ?c13 ?k13 ?a14 ?l14 ?c14 ?k14 ?a15 ?l15 ?c15 ?k15 ?a16 ?l16 ?c16 ?k16 ?a17 ?l17 ?c17 ?k17 ?z0 ?z1 ?z2 ?z3 ?z4 ?z5 ?z6 ?z7 ?z8 ?z9 ?z10 ?z11 ?z12 ?z13 ?z14 ?z15 ?z16 ?gvn0 ?gvr0 ?gvn1 ?gvr1 ?gvn2 ?gvr2 ?gvn3 ?gvr3
    (case a0 => k_is); (case l0 => k_is); (case c0 => k_is); (case k0 => k_is); (case a1 => k_is); (case l1 => k_is); (case c1 => k_is); (case k1 => k_is); (case a2 => k_is); (case l2 => k_is); (case c2 => k_is); (case k2 => k_is); (case a3 => k_is); (case l3 => k_is); (case c3 => k_is); (case k3 => k_is); (case a4 => k_is); (case l4 => k_is); (case c4 => k_is); (case k4 => k_is); (case a5 => k_is); (case l5 => k_is); (case c5 => k_is); (case k5 => k_is); (case a6 => k_is); (case l6 => k_is); (case c6 => k_is); (case k6 => k_is); (case a7 => k_is); (case l7 => k_is); (case c7 => k_is); (case k7 => k_is); (case a8 => k_is); (case l8 => k_is); (case c8 => k_is); (case k8 => k_is); (case a9 => k_is); (case l9 => k_is); (case c9 => k_is); (case k9 => k_is); (case a10 => k_is); (case l10 => k_is); (case c10 => k_is); (case k10 => k_is); (case a11 => k_is); (case l11 => k_is); (case c11 => k_is); (case k11 => k_is); (case a12 => k_is); (case l12 => k_is); (case c12 => k_is); (case k12 => k_is); (case a13 => k_is); (case l13 => k_is); (case c13 => k_is); (case k13 => k_is); (case a14 => k_is); (case l14 => k_is); (case c14 => k_is); (case k14 => k_is); (case a15 => k_is); (case l15 => k_is); (case c15 => k_is); (case k15 => k_is); (case a16 => k_is); (case l16 => k_is); (case c16 => k_is); (case k16 => k_is); (case a17 => k_is); (case l17 => k_is); (case c17 => k_is); (case k17 => k_is); (case z0 => k_is); (case z1 => k_is); (case z2 => k_is); (case z3 => k_is); (case z4 => k_is); (case z5 => k_is); (case z6 => k_is); (case z7 => k_is); (case z8 => k_is); (case z9 => k_is); (case z10 => k_is); (case z11 => k_is); (case z12 => k_is); (case z13 => k_is); (case z14 => k_is); (case z15 => k_is); (case z16 => k_is); (case gvn0 => k_is); (case gvn1 => k_is); (case gvn2 => k_is); (case gvn3 => k_is)
    (case gvr0 => exact WT.gv_str (by decide +kernel) (by decide))
    (case gvr1 => exact WT.gv_int)
    (case gvr2 => exact WT.gv_int)
    (case gvr3 => exact WT.gv_int)

