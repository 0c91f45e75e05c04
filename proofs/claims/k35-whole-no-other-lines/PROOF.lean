import PyProof.Rows.All
import Wide.All
import OpenK.AllK
import Wide.FinOn
import HandS.ForMost
import HandS.TupLe
import KE.SortData
import KE.KeyNested
import HandS.ForExc
import HandS.Walk
import HandS.Zip
import HandS.Conv
import HandS.IsInst
import HandS.TupAny
import HandS.TupMul
import HandS.Deep
import HandS.Style
import HandS.Text
import PyProof.Rows.InDataRows
import PyProof.WalksMore
import PyProof.SumWalkG
import PyProof.TupleOfSeq
import KE.GoesEnum
import HandS.ExcIs
import HandS.HotCalls
import HandS.TryOnly
import HandS.TupSets
import HandS.SetBool
import HandS.Strs
import KE.KDictKeyed
import KE.KDictDisplayH
import KE.KDictCopyH
import KE.DataMinMax
import HandS.StrMore
import HandS.StrSplit
import HandS.WordsExc
import HandS.Ends
import KE.KExcLine
import PyProof.TableCode
import PySem.Challenge.RW_dealtcards_k35_whole_no_other_lines
set_option Elab.async false
set_option linter.all false
set_option maxRecDepth 100000
set_option maxHeartbeats 1000000
/-! Dc: the small by-value language, its meaning. -/
namespace Dc
open PySem

abbrev D := PyData
/-- what a slot holds: nothing, data that stands still, a list of the frame's own that may still change, a dict of the frame's own whose values are all True: its keys -/
inductive Sl where
  | un | fr (d : D) | ol (ds : List D) | od (ds : List D)
abbrev Env := List Sl
inductive R (α : Type) where
  | ok (a : α) (env : Env) | er (c : Nat) (env : Env) | st
def R.bind {α β : Type} : R α → (α → Env → R β) → R β
  | .ok a env, k => k a env
  | .er c env, _ => .er c env
  | .st, _ => .st
/-- how a statement ends -/
inductive Xo where
  | nx (env : Env) | rt (s : Sl) (env : Env) | er (c : Nat) (env : Env) | st
def R.go {α : Type} : R α → (α → Env → Xo) → Xo
  | .ok a env, k => k a env
  | .er c env, _ => .er c env
  | .st, _ => .st
def Xo.bind : Xo → (Env → Xo) → Xo
  | .nx env, k => k env
  | o, _ => o

inductive Prim where
  | add | sub | mul | mod | fdiv | pow
  | eq | ne | lt | le | gt | ge | isin | notin | isN | notN
  | item | slice (lo hi : Bool)
  | len | sum | tuple | list | sorted | all | any | int | str
  | listRg | index | count
  | isInt | isBool | isTup | isList | isStr
  | lenSet | sortSet | min2 | max2
  | idxIn (l : List Str) | max1 | min1 | rev | tupRg | isB2 | notB2
  | split (y : Str) | strip (y : Str) | join (y : Str)
  deriving DecidableEq

mutual
inductive E where
  | var (i : Nat)
  | cst (d : D)
  | glob (x : Str) (d : D)
  | tup (es : Es)
  | lst (es : Es)
  | prim (p : Prim) (es : Es)
  | and (a b : E)
  | or (a b : E)
  | not (a : E)
  | ite (c a b : E)
  | chain (p q : Prim) (a b c : E)
  | comp (elt : E) (tg : List Nat) (it : Itr) (cond : E)
  | call (f : Nat) (es : Es)
  | sel (fs : List Nat) (ix : E) (es : Es)
  | app (i : Nat) (e : E)
  | ext (i : Nat) (e : E)
  | pop (i : Nat)
  | popAt (i : Nat) (e : E)
  | sl2 (a lo hi : E)
  | rg (a : E)
  | dic (es : Es)
  | din (neg : Bool) (e : E) (i : Nat)
  | keys (i : Nat)
inductive Es where
  | nil
  | cons (e : E) (es : Es)
inductive Itr where
  | seq (e : E)
  | rng1 (e : E)
  | rng2 (a b : E)
  | enum (e : E)
  | zip (a b : E)
end
/-- what an except clause does -/
inductive Hd where
  | retWhich (i : Nat) | asgWhich (i j : Nat) | retE (e : E) | raise (c : Nat)
mutual
inductive S where
  | asg (i : Nat) (e : E)
  | asgT (is : List Nat) (e : E)
  | par (i j : Nat) (a b : E)
  | ex (e : E)
  | ret (e : E)
  | iff (c : E) (a b : Ss)
  | for (tg : List Nat) (it : Itr) (body : Ss)
  | while (c : E) (body : Ss)
  | raise (c : Nat)
  | tr (cs : List Nat) (body : Ss) (h : Hd)
  | pass
  | dput (i : Nat) (e : E)
inductive Ss where
  | nil
  | cons (s : S) (ss : Ss)
end

/-! ### keys -/
mutual
def keyD : D → Option NestedKey
  | .int i => some (.num i)
  | .tuple ds => (keysD ds).map .tup
  | _ => none
def keysD : List D → Option (List NestedKey)
  | [] => some []
  | d :: ds => (keyD d).bind fun k => (keysD ds).map (k :: ·)
end
def kOk (d : D) : Bool := match keyD d with
  | some (.tup ks) => decide ((NestedKey.tup ks).depth ≤ 8)
  | _ => false
def hasK (ds : List D) (d : D) : Bool := ds.any fun z => decide (keyD z = keyD d)
def putK (ds : List D) (d : D) : List D := match hasK ds d with
  | true => ds
  | false => ds ++ [d]
/-! ### slots -/
def look (env : Env) (i : Nat) : Sl := env.getD i .un
def toD : Sl → Option D
  | .fr d => some d
  | .ol ds => some (.list ds)
  | _ => none
/-- the slot's list stands still from now on -/
def still : Sl → Sl
  | .ol ds => .fr (.list ds)
  | s => s

/-! ### operations on data -/
def intsOf : List D → Option (List Int)
  | [] => some []
  | .int i :: r => (intsOf r).map (i :: ·)
  | _ :: _ => none
def boolsOf : List D → Option (List Bool)
  | [] => some []
  | .bool b :: r => (boolsOf r).map (b :: ·)
  | _ :: _ => none
/-- the order of tuples of ints -/
def ltI : List Int → List Int → Bool
  | [], [] => false
  | [], _ :: _ => true
  | _ :: _, [] => false
  | x :: xs, y :: ys => if x = y then ltI xs ys else decide (x < y)
def seqOf : D → Option (List D)
  | .list xs => some xs
  | .tuple xs => some xs
  | _ => none
def b2 (b : Bool) : Option Sl := some (.fr (.bool b))
def i2 (i : Int) : Option Sl := some (.fr (.int i))
def guard (b : Bool) (x : Option Sl) : Option Sl := if b then x else none
def addS : D → D → Option Sl
  | .int i, .int j => i2 (i + j)
  | .list xs, .list ys => guard (xs.length + ys.length ≤ sizeLine) (some (.ol (xs ++ ys)))
  | .tuple xs, .tuple ys => guard (xs.length + ys.length ≤ sizeLine) (some (.fr (.tuple (xs ++ ys))))
  | .str x, .str y => guard (x.length + y.length ≤ sizeLine) (some (.fr (.str (x ++ y))))
  | _, _ => none
def small64 (i : Int) : Bool := decide (-(2 ^ 64) < i) && decide (i < 2 ^ 64)
def mulS : D → D → Option Sl
  | .int i, .int j => guard (small64 i || small64 j) (i2 (i * j))
  | .list xs, .int k => guard (decide (-(2 ^ 63) ≤ k) && decide (k < 2 ^ 63) && decide (xs.length * k.toNat ≤ sizeLine)) (some (.ol (List.replicate k.toNat xs).flatten))
  | .tuple xs, .int k => guard (!xs.isEmpty && decide (0 ≤ k) && decide (k ≤ 1000) && decide (xs.length ≤ 1000)) (some (.fr (.tuple (List.replicate k.toNat xs).flatten)))
  | _, _ => none
def eqS (d e : D) : Option Sl := guard (SeqAt.shaped d && SeqAt.shaped e) (b2 (PyData.eqv d e))
def neS (d e : D) : Option Sl := guard (SeqAt.shaped d && SeqAt.shaped e) (b2 (!PyData.eqv d e))
def ltS : D → D → Option Sl
  | .int i, .int j => b2 (decide (i < j))
  | .tuple xs, .tuple ys => match intsOf xs, intsOf ys with
    | some a, some b => b2 (ltI a b)
    | _, _ => none
  | _, _ => none
def inS (neg : Bool) (d e : D) : Option Sl := match seqOf e with
  | some xs => guard (SeqAt.shaped d && SeqAt.shaped e) (b2 (neg ^^ xs.any fun z => PyData.eqv z d))
  | none => match d, e with
    | .str a, .str b => b2 (neg ^^ !(Builtin.Str.occurrences b a 0 b.length 1).isEmpty)
    | _, _ => none
/-- the place of an index -/
def place (n : Nat) (i : Int) : Option Nat := if 0 ≤ i then (if i < n then some i.toNat else none) else if -(n : Int) ≤ i then some (i + n).toNat else none
def itemS : D → D → Option Sl
  | .list xs, .int i => ((place xs.length i).bind fun j => xs[j]?).map .fr
  | .tuple xs, .int i => ((place xs.length i).bind fun j => xs[j]?).map .fr
  | .str z, .int i => guard (z.length ≤ sizeLine) (((place z.cps.toList.length i).bind fun j => z.cps.toList[j]?).map fun c => .fr (.str ⟨#[c]⟩))
  | _, _ => none
/-- a slice's end -/
def clip (n d : Nat) : Option Int → Nat
  | none => d
  | some v => if v < 0 then (v + n).toNat else min v.toNat n
def cut {α : Type} (xs : List α) (lo hi : Option Int) : List α := (xs.drop (clip xs.length 0 lo)).take (clip xs.length xs.length hi - clip xs.length 0 lo)
def sliceS (lo hi : Option Int) : D → Option Sl
  | .list xs => some (.ol (cut xs lo hi))
  | .tuple xs => some (.fr (.tuple (cut xs lo hi)))
  | .str z => guard (z.length ≤ sizeLine) (some (.fr (.str ⟨(cut z.cps.toList lo hi).toArray⟩)))
  | _ => none
def sumI (l : List Int) : Int := l.sum
def strS (i : Int) : Option Sl := guard (i.natAbs.log2 < 1920) (some (.fr (.str (toString i))))
/-- tuples of one or more, alike; or ints: what may be sorted here -/
def sortOk (ds : List D) : Bool := (ds.all fun d => ds.all fun e => PySem.W.alike d e) && ((ds.all fun d => match d with | .tuple (_ :: _) => true | _ => false) || (ds.all fun d => match d with | .int _ => true | _ => false)) && ds.all fun d => decide (d.depth ≤ 64)
def insK (x : D) : List D → List D
  | [] => [x]
  | y :: ys => match PySem.W.dataLe false id x y with
    | true => x :: y :: ys
    | false => y :: insK x ys
/-- the items in their order, stable -/
def sortD : List D → List D
  | [] => []
  | x :: xs => insK x (sortD xs)
/-- the least of ints; of tuples that are alike -/
def minI (l : List Int) : Option Sl := match l with
  | [] => none
  | x :: l => i2 (l.foldl min x)
def leastD (x : D) (l : List D) : D := l.foldl (fun a y => if PySem.W.dataLt y a then y else a) x
def minOk (ds : List D) : Bool := (ds.all fun d => ds.all fun e => PySem.W.alike d e) && (ds.all fun d => match d with | .tuple _ => true | _ => false) && ds.all fun d => decide (d.depth ≤ 64)
def minT (ds : List D) : Option Sl := match ds with
  | [] => none
  | x :: l => guard (minOk (x :: l)) (some (.fr (leastD x l)))
/-- the first ones, each once -/
def firsts : List D → List D
  | [] => []
  | x :: xs => x :: (firsts xs).filter fun y => !PyData.eqv x y
/-- tuples of whole numbers -/
def tupsOf : List D → Option (List (List Int))
  | [] => some []
  | .tuple xs :: r => (intsOf xs).bind fun l => (tupsOf r).map (l :: ·)
  | _ :: _ => none
def tupD (k : List Int) : D := .tuple (k.map .int)
def insS (k : List Int) : List (List Int) → List (List Int)
  | [] => [k]
  | x :: l => if k = x then x :: l else match ltI k x with
    | true => k :: x :: l
    | false => x :: insS k l
/-- sorted(set(..)) of tuples -/
def setSort (ks : List (List Int)) : List (List Int) := ks.foldr insS []
def insI (k : Int) : List Int → List Int
  | [] => [k]
  | x :: l => if k = x then x :: l else match decide (k < x) with
    | true => k :: x :: l
    | false => x :: insI k l
/-- sorted(set(..)) of ints -/
def sortI (ks : List Int) : List Int := ks.foldr insI []
/-- few different ones, of one length, of small numbers: what may be put into a set here -/
def setOk (ks : List (List Int)) : Bool := decide (ks.length < 64 ∨ (setSort ks).length < 63) && ks.all fun k => decide (k.length = (ks.headD [0]).length) && k.all fun i => decide (0 ≤ i) && decide (i < 64)
/-- texts -/
def strsOf : List D → Option (List Str)
  | [] => some []
  | .str x :: r => (strsOf r).map (x :: ·)
  | _ :: _ => none
/-- the first place -/
def firstS (z : Str) : List Str → Option Nat
  | [] => none
  | y :: ys => if y = z then some 0 else (firstS z ys).map (· + 1)
def oneS : Prim → D → Option Sl
  | .len, .list xs => i2 xs.length
  | .len, .tuple xs => i2 xs.length
  | .len, .str z => guard (z.length ≤ sizeLine) (i2 z.length)
  | .sum, d => (seqOf d).bind fun xs => (intsOf xs).bind fun l => i2 l.sum
  | .tuple, .list xs => some (.fr (.tuple xs))
  | .tuple, .tuple xs => some (.fr (.tuple xs))
  | .list, .list xs => some (.ol xs)
  | .list, .tuple xs => some (.ol xs)
  | .all, .list xs => (boolsOf xs).bind fun l => b2 (l.all id)
  | .any, .list xs => (boolsOf xs).bind fun l => b2 (l.any id)
  | .int, .int i => i2 i
  | .int, .bool b => i2 (if b then 1 else 0)
  | .int, .str z => guard (decide (z.length ≤ 640)) ((PySem.intText? z).bind i2)
  | .split y, .str z => guard (!(y.length == 0) && decide (z.length + 2 ≤ sizeLine)) (some (.ol ((Txt.split z y).map .str)))
  | .strip y, .str z => guard (decide (z.length ≤ sizeLine)) (some (.fr (.str (Txt.stripChars z y))))
  | .join y, .list xs => (strsOf xs).bind fun zs => guard (decide ((zs.map (·.length)).sum + zs.length * y.length ≤ 16777216)) (some (.fr (.str (Txt.join y zs))))
  | .str, .int i => strS i
  | .listRg, .int n => guard (decide (0 ≤ n) && decide (n ≤ 16777216)) (some (.ol ((List.range n.toNat).map fun (k : Nat) => .int k)))
  | .isN, d => b2 (match d with | .none => true | _ => false)
  | .notN, d => b2 (match d with | .none => false | _ => true)
  | .isInt, d => b2 (match d with | .int _ => true | .bool _ => true | _ => false)
  | .isBool, d => b2 (match d with | .bool _ => true | _ => false)
  | .isTup, d => b2 (match d with | .tuple _ => true | _ => false)
  | .isList, d => b2 (match d with | .list _ => true | _ => false)
  | .isStr, d => b2 (match d with | .str _ => true | _ => false)
  | .sorted, d => (seqOf d).bind fun xs => guard (sortOk xs && decide (xs.length ≤ sizeLine)) (some (.ol (sortD xs)))
  | .max1, .list xs => (intsOf xs).bind fun l => match l with
    | [] => none
    | x :: l => i2 (l.foldl max x)
  | .min1, .list xs => match intsOf xs with
    | some l => minI l
    | none => minT xs
  | .idxIn l, .str z => (firstS z l).bind fun j => i2 (j : Nat)
  | .rev, .list xs => some (.ol xs.reverse)
  | .tupRg, .int n => guard (decide (0 ≤ n) && decide (n ≤ 16777216)) (some (.fr (.tuple ((List.range n.toNat).map fun (k : Nat) => .int k))))
  | .lenSet, d => (seqOf d).bind fun xs => match boolsOf xs with
    | some l => i2 ((if true ∈ l then 1 else 0) + (if false ∈ l then 1 else 0))
    | none => (intsOf xs).bind fun l => guard (decide (l.length < 4000)) (i2 ((sortI l).length : Nat))
  | .sortSet, d => (seqOf d).bind fun xs => match tupsOf xs with
    | some ks => guard (setOk ks) (some (.ol ((setSort ks).map tupD)))
    | none => (intsOf xs).bind fun l => guard (decide (l.length < 64)) (some (.ol ((sortI l).map .int)))
  | _, _ => none
/-- the first place, of data -/
def firstIx (d : D) : List D → Option Nat
  | [] => none
  | z :: zs => match PyData.eqv z d with
    | true => some 0
    | false => (firstIx d zs).map (· + 1)
def twoS : Prim → D → D → Option Sl
  | .add, d, e => addS d e
  | .sub, .int i, .int j => i2 (i - j)
  | .mul, d, e => mulS d e
  | .mod, .int i, .int j => guard (decide (j ≠ 0)) (i2 (i.fmod j))
  | .fdiv, .int i, .int j => guard (decide (j ≠ 0) && decide (j.natAbs < 1073741824)) (i2 (i.fdiv j))
  | .pow, .int i, .int j => guard (decide (0 ≤ j) && decide (j ≤ 1000000) && decide (i.natAbs < 2 ^ 64)) (i2 (i ^ j.toNat))
  | .eq, d, e => eqS d e
  | .ne, d, e => neS d e
  | .lt, d, e => ltS d e
  | .gt, .int i, .int j => b2 (decide (j < i))
  | .le, .int i, .int j => b2 (decide (i ≤ j))
  | .ge, .int i, .int j => b2 (decide (j ≤ i))
  | .isin, d, e => inS false d e
  | .notin, d, e => inS true d e
  | .item, d, e => itemS d e
  | .slice true false, d, .int i => sliceS (some i) none d
  | .slice false true, d, .int i => sliceS none (some i) d
  | .index, .list ds, d => guard (SeqAt.shaped (.list ds) && SeqAt.shaped d) ((firstIx d ds).bind fun j => i2 (j : Nat))
  | .min2, .int i, .int j => i2 (if j < i then j else i)
  | .max2, .int i, .int j => i2 (if j > i then j else i)
  | .isB2, .bool a, .bool b => b2 (decide (a = b))
  | .notB2, .bool a, .bool b => b2 (!decide (a = b))
  | _, _, _ => none
def primS : Prim → List D → Option Sl
  | p, [d] => oneS p d
  | p, [d, e] => twoS p d e
  | _, _ => none

/-! ### meaning -/
/-- a list that the frame's own slot holds, or data -/
inductive Opd where
  | val (d : D) | slot (i : Nat)
def deref (env : Env) : Opd → Option D
  | .val d => some d
  | .slot i => toD (look env i)
def derefs (env : Env) : List Opd → Option (List D)
  | [] => some []
  | o :: os => (deref env o).bind fun d => (derefs env os).map (d :: ·)
def R.opt {α : Type} (o : Option α) (env : Env) : R α := match o with
  | some a => .ok a env
  | none => .st
def signs (z : Str) : List D := z.cps.toList.map fun c => .str ⟨#[c]⟩
def seqI : D → Option (List D)
  | .list xs => some xs
  | .tuple xs => some xs
  | .str z => if (signs z).length ≤ sizeLine then some (signs z) else none
  | _ => none
def rngD (lo hi : Int) : List D := (List.range (hi - lo).toNat).map fun (k : Nat) => .int (lo + k)
def in62 (i : Int) : Bool := decide (-(2 ^ 62) ≤ i) && decide (i < 2 ^ 62)
def rgOk (n m : Int) : Bool := in62 n && in62 m && decide ((m - n).toNat ≤ sizeLine)
def enumD (k : Nat) : List D → List D
  | [] => []
  | x :: xs => .tuple [.int k, x] :: enumD (k + 1) xs
def zipD : List D → List D → List D
  | x :: xs, y :: ys => .tuple [x, y] :: zipD xs ys
  | _, _ => []
def zipI : D → D → Option (List D)
  | .list xs, .list ys => some (zipD xs ys)
  | .tuple xs, .tuple ys => some (zipD xs ys)
  | _, _ => none
def bindT : List Nat → D → Env → Option Env
  | [i], d, env => some (env.set i (.fr d))
  | [i, j], .tuple [x, y], env => some ((env.set i (.fr x)).set j (.fr y))
  | [i, j, k], .tuple [x, y, z], env => some (((env.set i (.fr x)).set j (.fr y)).set k (.fr z))
  | _, _, _ => none
/-- the names of a comprehension are not seen at its start, and as they were behind it -/
def hide : List Nat → Env → Env
  | [], env => env
  | i :: is, env => (hide is env).set i .un
def back : List Nat → Env → Env → Env
  | [], _, env => env
  | i :: is, old, env => (back is old env).set i (look old i)
/-- these slots hold no list of ours -/
def notOwn : Sl → Bool
  | .ol _ => false
  | .od _ => false
  | _ => true
def hideOk (tg : List Nat) (env : Env) : Bool := tg.all fun i => notOwn (look env i)
def noEr {α : Type} : R α → R α
  | .er _ _ => .st
  | r => r
def forL (tg : List Nat) (body : Env → Xo) : List D → Env → Xo
  | [], env => .nx env
  | x :: xs, env => match bindT tg x env with
    | some env1 => (body env1).bind (forL tg body xs)
    | none => .st
def compL (tg : List Nat) (cond : Env → R Bool) (elt : Env → R D) : List D → Env → R (List D)
  | [], env => .ok [] env
  | x :: xs, env => match bindT tg x env with
    | some env1 => (cond env1).bind fun b env2 => match b with
      | true => (elt env2).bind fun d env3 => (compL tg cond elt xs (hide tg env3)).bind fun ds env4 => .ok (d :: ds) env4
      | false => compL tg cond elt xs (hide tg env2)
    | none => .st
/-- a comprehension -/
def compE (tg : List Nat) (it : Env → R (List D)) (cond : Env → R Bool) (elt : Env → R D) (env : Env) : R Sl := (it env).bind fun xs env1 => match hideOk tg env1 with
  | true => (noEr (compL tg cond elt xs (hide tg env1))).bind fun ds env2 => .ok (.ol ds) (back tg env1 env2)
  | false => .st
def whileL (c : Env → R Bool) (body : Env → Xo) : Nat → Env → Xo
  | 0, _ => .st
  | n + 1, env => (c env).go fun b env1 => match b with
    | true => (body env1).bind (whileL c body n)
    | false => .nx env1
def frz (s : Sl) (env : Env) : R D := R.opt (toD s) env
def asBool (d : D) (env : Env) : R Bool := match d with
  | .bool b => .ok b env
  | _ => .st
/-- how many turns a while has here at most -/
def turns : Nat := 4096

/-- how the arguments of a call are bound: false: by value; true: in and out -/
abbrev Modes := List Bool
def argSl (env : Env) : Opd → Sl
  | .val d => .fr d
  | .slot i => look env i
/-- the slots that are lent out -/
def holes : List Opd → Env → Env
  | [], env => env
  | .slot i :: as, env => holes as (env.set i .un)
  | .val _ :: as, env => holes as env
/-- what comes back -/
def outs : List Opd → Env → Env → Env
  | .slot i :: as, s :: os, env => outs as os (env.set i s)
  | .val _ :: as, _ :: os, env => outs as os env
  | _, _, env => env
def callE (call : List Sl → R Sl) (g : Env → R (List Opd)) (env : Env) : R Sl := (g env).bind fun as env1 => match call (as.map (argSl env1)) with
  | .ok s os => .ok s (outs as os (holes as env1))
  | .er c os => .er c (outs as os (holes as env1))
  | .st => .st
/-- a value that stands still -/
def fz (f : Env → R Sl) (env : Env) : R D := (f env).bind frz
/-- an operand: a list of a slot of ours is read where it stands -/
def opd (e : E) (f : Env → R Sl) (env : Env) : R Opd := match e with
  | .var i => match look env i with
    | .ol _ => .ok (.slot i) env
    | .od _ => .ok (.slot i) env
    | _ => (fz f env).bind fun d env1 => .ok (.val d) env1
  | _ => (fz f env).bind fun d env1 => .ok (.val d) env1
/-- an argument -/
def arg (m : Bool) (e : E) (f : Env → R Sl) (env : Env) : R Opd := match m, e with
  | true, .var i => match look env i with
    | .un => .st
    | _ => .ok (.slot i) env
  | _, _ => (fz f env).bind fun d env1 => .ok (.val d) env1
def two {α : Type} (f : Env → R α) (g : Env → R (List α)) (env : Env) : R (List α) := (f env).bind fun a env1 => (g env1).bind fun as env2 => .ok (a :: as) env2
/-- a[lo:hi] -/
def sliceE (f : Env → R Opd) (g h : Env → R D) (env : Env) : R Sl := (f env).bind fun o env1 => (g env1).bind fun lo env2 => match lo with
  | .int i => (h env2).bind fun hi env3 => match hi with
    | .int j => (R.opt (deref env3 o) env3).bind fun d env4 => R.opt (sliceS (some i) (some j) d) env4
    | _ => .st
  | _ => .st
def tst (f : Env → R Sl) (env : Env) : R Bool := (fz f env).bind asBool

/-- xs.append(e) -/
def appE (i : Nat) (f : Env → R D) (env : Env) : R Sl := match look env i with
  | .ol _ => (f env).bind fun d env1 => match look env1 i with
    | .ol ds => if ds.length < sizeLine then .ok (.fr .none) (env1.set i (.ol (ds ++ [d]))) else .st
    | _ => .st
  | _ => .st
/-- xs.extend(e), e a list of nobody else's -/
def extE (i : Nat) (f : Env → R Sl) (env : Env) : R Sl := match look env i with
  | .ol _ => (f env).bind fun s env1 => match s, look env1 i with
    | .ol xs, .ol ds => if ds.length + xs.length ≤ sizeLine then .ok (.fr .none) (env1.set i (.ol (ds ++ xs))) else .st
    | _, _ => .st
  | _ => .st

/-- xs.pop(e), what is left to do behind e -/
def popAtK (i : Nat) (k : D) (env1 : Env) : R Sl := match look env1 i, k with
  | .ol ds, .int j => match in62 j, place ds.length j with
    | true, some n => match ds[n]? with
      | some d => .ok (.fr d) (env1.set i (.ol (ds.eraseIdx n)))
      | none => .st
    | _, _ => .st
  | _, _ => .st
def popAtE (i : Nat) (f : Env → R D) (env : Env) : R Sl := match look env i with
  | .ol _ => (f env).bind (popAtK i)
  | _ => .st
/-- {}, {k: True} -/
def dicE (g : Env → R (List D)) (env : Env) : R Sl := (g env).bind fun ds env1 => match ds with
  | [] => .ok (.od []) env1
  | [d] => if kOk d then .ok (.od [d]) env1 else .st
  | _ => .st
/-- k in d, k not in d -/
def dinK (neg : Bool) (i : Nat) (d : D) (env1 : Env) : R Sl := match look env1 i with
  | .od ds => if kOk d then .ok (.fr (.bool (neg ^^ hasK ds d))) env1 else .st
  | _ => .st
def dinE (neg : Bool) (i : Nat) (f : Env → R D) (env : Env) : R Sl := (f env).bind (dinK neg i)
/-- list(d) -/
def keysE (i : Nat) (env : Env) : R Sl := match look env i with
  | .od ds => .ok (.ol ds) env
  | _ => .st
/-- d[k] = True -/
def dputK (i : Nat) (d : D) (env1 : Env) : R Unit := match look env1 i with
  | .od ds => if kOk d && decide (ds.length < sizeLine) then .ok () (env1.set i (.od (putK ds d))) else .st
  | _ => .st
def dputE (i : Nat) (f : Env → R D) (env : Env) : R Unit := match look env i with
  | .od _ => (f env).bind (dputK i)
  | _ => .st
section
variable (md : Nat → Modes) (call : Nat → List Sl → R Sl)
mutual
def ev : E → Env → R Sl
  | .var i, env => match look env i with
    | .fr d => .ok (.fr d) env
    | .ol ds => .ok (.fr (.list ds)) (env.set i (.fr (.list ds)))
    | _ => .st
  | .cst d, env => .ok (.fr d) env
  | .glob _ d, env => .ok (.fr d) env
  | .tup es, env => (evs es env).bind fun ds env1 => .ok (.fr (.tuple ds)) env1
  | .lst es, env => (evs es env).bind fun ds env1 => .ok (.ol ds) env1
  | .prim p es, env => (evo es env).bind fun os env1 => match derefs env1 os with
    | some ds => R.opt (primS p ds) env1
    | none => .st
  | .and a b, env => (tst (ev a) env).bind fun c env1 => match c with
    | true => ev b env1
    | false => .ok (.fr (.bool false)) env1
  | .or a b, env => (tst (ev a) env).bind fun c env1 => match c with
    | true => .ok (.fr (.bool true)) env1
    | false => ev b env1
  | .not a, env => (tst (ev a) env).bind fun c env1 => .ok (.fr (.bool !c)) env1
  | .ite c a b, env => (tst (ev c) env).bind fun k env1 => match k with
    | true => ev a env1
    | false => ev b env1
  | .chain p q a b c, env => (fz (ev a) env).bind fun x env1 => (fz (ev b) env1).bind fun y env2 =>
      (fz (R.opt (primS p [x, y])) env2).bind fun d env3 => (asBool d env3).bind fun k env4 => match k with
        | true => (fz (ev c) env4).bind fun z env5 => R.opt (primS q [y, z]) env5
        | false => .ok (.fr (.bool false)) env4
  | .rg a, env => (fz (ev a) env).bind fun d env1 => R.opt (oneS .listRg d) env1
  | .comp elt tg it cond, env => compE tg (evi it) (tst (ev cond)) (fz (ev elt)) env
  | .call f es, env => callE (call f) (eva (md f) es) env
  | .sel fs ix es, env => (fz (ev ix) env).bind fun d env1 => match d with
    | .int k => match place fs.length k with
      | some j => callE (call (fs.getD j 0)) (eva [] es) env1
      | none => .st
    | _ => .st
  | .app i e, env => appE i (fz (ev e)) env
  | .ext i e, env => extE i (ev e) env
  | .pop i, env => match look env i with
    | .ol ds => match ds.getLast? with
      | some d => .ok (.fr d) (env.set i (.ol ds.dropLast))
      | none => .st
    | _ => .st
  | .popAt i e, env => popAtE i (fz (ev e)) env
  | .sl2 a lo hi, env => sliceE (opd a (ev a)) (fz (ev lo)) (fz (ev hi)) env
  | .dic es, env => dicE (evs es) env
  | .din neg e i, env => dinE neg i (fz (ev e)) env
  | .keys i, env => keysE i env
def evs : Es → Env → R (List D)
  | .nil, env => .ok [] env
  | .cons e es, env => two (fz (ev e)) (evs es) env
def evo : Es → Env → R (List Opd)
  | .nil, env => .ok [] env
  | .cons e es, env => two (opd e (ev e)) (evo es) env
def eva : Modes → Es → Env → R (List Opd)
  | _, .nil, env => .ok [] env
  | ms, .cons e es, env => two (arg (ms.headD false) e (ev e)) (eva ms.tail es) env
def evi : Itr → Env → R (List D)
  | .seq e, env => (fz (ev e) env).bind fun d env1 => R.opt (seqI d) env1
  | .rng1 e, env => (fz (ev e) env).bind fun d env1 => match d with
    | .int n => if rgOk 0 n then .ok (rngD 0 n) env1 else .st
    | _ => .st
  | .rng2 a b, env => (fz (ev a) env).bind fun d env1 => (fz (ev b) env1).bind fun d2 env2 => match d, d2 with
    | .int n, .int m => if rgOk n m then .ok (rngD n m) env2 else .st
    | _, _ => .st
  | .enum e, env => (fz (ev e) env).bind fun d env1 => match d with
    | .list xs => .ok (enumD 0 xs) env1
    | .tuple xs => .ok (enumD 0 xs) env1
    | _ => .st
  | .zip a b, env => (fz (ev a) env).bind fun d env1 => (fz (ev b) env1).bind fun d2 env2 => R.opt (zipI d d2) env2
end
def evT (c : E) (env : Env) : R Bool := tst (ev md call c) env
def whichD (c : Nat) : D := .tuple [.str (Str.ofString "refused"), .int (c : Int)]
mutual
def exec : S → Env → Xo
  | .asg i e, env => (ev md call e env).go fun s env1 => .nx (env1.set i s)
  | .asgT is e, env => (fz (ev md call e) env).go fun d env1 => match bindT is d env1 with
    | some env2 => .nx env2
    | none => .st
  | .par i j a b, env => (fz (ev md call a) env).go fun x env1 => (fz (ev md call b) env1).go fun y env2 => .nx ((env2.set i (.fr x)).set j (.fr y))
  | .ex e, env => (ev md call e env).go fun _ env1 => .nx env1
  | .ret (.var i), env => match look env i with
    | .un => .st
    | s => .rt s (env.set i .un)
  | .ret e, env => (ev md call e env).go fun s env1 => .rt s env1
  | .iff c a b, env => (evT md call c env).go fun k env1 => match k with
    | true => execs a env1
    | false => execs b env1
  | .for tg it body, env => (evi md call it env).go fun xs env1 => forL tg (execs body) xs env1
  | .while c body, env => whileL (evT md call c) (execs body) turns env
  | .raise c, env => .er c env
  | .tr cs body h, env => match execs body env with
    | .er c env1 => if cs.contains c then match h with
      | .retWhich i => .rt (.fr (whichD c)) (env1.set i .un)
      | .asgWhich i j => .nx ((env1.set i .un).set j (.fr (whichD c)))
      | .retE e => (noEr (ev md call e env1)).go fun s env2 => .rt s env2
      | .raise c2 => .er c2 env1
      else .st
    | o => o
  | .pass, env => .nx env
  | .dput i e, env => (dputE i (fz (ev md call e)) env).go fun _ env1 => .nx env1
def execs : Ss → Env → Xo
  | .nil, env => .nx env
  | .cons s ss, env => (exec s env).bind (execs ss)
end
end

/-- a def: its parameters' modes, how many slots, its body -/
structure Def where
  modes : Modes
  slots : Nat
  body : Ss
/-- the parameters that come back -/
def mask : Modes → Env → Env
  | [], _ => []
  | m :: ms, env => (match m with | true => env.headD .un | false => .un) :: mask ms env.tail
def modesOf (U : Nat → Option Def) (f : Nat) : Modes := ((U f).map Def.modes).getD []
/-- a def's body, run -/
def runB (U : Nat → Option Def) (call : Nat → List Sl → R Sl) (d : Def) (args : List Sl) : R Sl := if args.length = d.modes.length then
    match execs (modesOf U) call d.body (args ++ List.replicate (d.slots - args.length) .un) with
    | .rt s env => .ok s (mask d.modes env)
    | .nx env => .ok (.fr .none) (mask d.modes env)
    | .er c env => .er c (mask d.modes env)
    | .st => .st
  else .st
/-- a call of a def at most k deep -/
def run (U : Nat → Option Def) : Nat → Nat → List Sl → R Sl
  | 0, _, _ => .st
  | k + 1, f, args => match U f with
    | some d => runB U (run U k) d args
    | none => .st
end Dc

/-! Dc: how the small language's values lie in the abstract heap. -/
namespace Dc
open PySem PySem.Spec PyProof.Rows L2

abbrev St := L2.St
mutual
inductive RV (K : PySem.W.Frag) (F : Hp) : V → D → Prop where
  | non : RV K F .non .none
  | bl (b : Bool) : RV K F (.bl b) (.bool b)
  | int (i : Int) : RV K F (.int i) (.int i)
  | str (x : Str) : RV K F (.str x) (.str x)
  | lst {a : Addr} {xs : List V} {ds : List D} : Rd F a (.lst xs) → RVs K F xs ds → ds.length ≤ sizeLine → RV K F (.ref a) (.list ds)
  | tup {a : Addr} {xs : List V} {ds : List D} : SqT K F a xs → RVs K F xs ds → ds.length ≤ sizeLine → RV K F (.ref a) (.tuple ds)
inductive RVs (K : PySem.W.Frag) (F : Hp) : List V → List D → Prop where
  | nil : RVs K F [] []
  | cons {v : V} {vs : List V} {d : D} {ds : List D} : RV K F v d → RVs K F vs ds → RVs K F (v :: vs) (d :: ds)
end
section
variable {K : PySem.W.Frag} {F F' H : Hp}
theorem rd_mono {a : Addr} {o : HO} (s : Same F F') (h : Rd F a o) : Rd F' a o := by
  rcases h with h | ⟨u, h⟩
  · exact .inl (s _ _ h)
  · exact .inr ⟨u, s _ _ h⟩
theorem sqT_mono {a : Addr} {xs : List V} (s : Same F F') (h : SqT K F a xs) : SqT K F' a xs := by
  rcases h with h | h
  · exact .inl (rd_mono s h)
  · exact .inr h
mutual
theorem RV.mono (s : Same F F') : ∀ {v : V} {d : D}, RV K F v d → RV K F' v d
  | _, _, .non => .non
  | _, _, .bl b => .bl b
  | _, _, .int i => .int i
  | _, _, .str x => .str x
  | _, _, .lst h t z => .lst (rd_mono s h) (RVs.mono s t) z
  | _, _, .tup h t z => .tup (sqT_mono s h) (RVs.mono s t) z
theorem RVs.mono (s : Same F F') : ∀ {vs : List V} {ds : List D}, RVs K F vs ds → RVs K F' vs ds
  | _, _, .nil => .nil
  | _, _, .cons h t => .cons (RV.mono s h) (RVs.mono s t)
end
mutual
theorem RV.dp : ∀ {v : V} {d : D}, RV K F v d → Dp K F v d
  | _, _, .non => .non
  | _, _, .bl b => .bl b
  | _, _, .int i => .int i
  | _, _, .str x => .str x
  | _, _, .lst h t _ => .lst (.inl h) (RVs.dp t)
  | _, _, .tup h t _ => .tup h (RVs.dp t)
theorem RVs.dp : ∀ {vs : List V} {ds : List D}, RVs K F vs ds → DpAll K F vs ds
  | _, _, .nil => .nil
  | _, _, .cons h t => .cons (RV.dp h) (RVs.dp t)
end
theorem RVs.length : ∀ {vs : List V} {ds : List D}, RVs K F vs ds → vs.length = ds.length
  | _, _, .nil => rfl
  | _, _, .cons _ t => by simp [RVs.length t]
theorem RVs.get : ∀ {vs : List V} {ds : List D} {i : Nat} {d : D}, RVs K F vs ds → ds[i]? = some d → ∃ v, vs[i]? = some v ∧ RV K F v d
  | _, _, _, _, .nil, h => by simp at h
  | _, _, 0, _, .cons r _, h => by
    have e := Option.some.inj h
    exact ⟨_, rfl, e ▸ r⟩
  | _, _, i + 1, _, .cons _ t, h => RVs.get (i := i) t h
theorem RVs.append : ∀ {vs ws : List V} {ds es : List D}, RVs K F vs ds → RVs K F ws es → RVs K F (vs ++ ws) (ds ++ es)
  | _, _, _, _, .nil, s => s
  | _, _, _, _, .cons r t, s => .cons r (RVs.append t s)
theorem RVs.take : ∀ {vs : List V} {ds : List D} (n : Nat), RVs K F vs ds → RVs K F (vs.take n) (ds.take n)
  | _, _, 0, _ => by simpa using RVs.nil
  | _, _, _ + 1, .nil => .nil
  | _, _, n + 1, .cons r t => .cons r (RVs.take n t)
theorem RVs.drop : ∀ {vs : List V} {ds : List D} (n : Nat), RVs K F vs ds → RVs K F (vs.drop n) (ds.drop n)
  | _, _, 0, r => r
  | _, _, _ + 1, .nil => .nil
  | _, _, n + 1, .cons _ t => RVs.drop n t
theorem RVs.dropLast : ∀ {vs : List V} {ds : List D}, RVs K F vs ds → RVs K F vs.dropLast ds.dropLast
  | _, _, .nil => .nil
  | _, _, .cons r .nil => .nil
  | _, _, .cons r (.cons r2 t) => .cons r (RVs.dropLast (.cons r2 t))
theorem RVs.eraseIdx : ∀ {vs : List V} {ds : List D} (n : Nat), RVs K F vs ds → RVs K F (vs.eraseIdx n) (ds.eraseIdx n)
  | _, _, _, .nil => .nil
  | _, _, 0, .cons _ t => t
  | _, _, n + 1, .cons r t => .cons r (RVs.eraseIdx n t)
theorem RVs.rep {vs : List V} {ds : List D} (h : RVs K F vs ds) : ∀ n : Nat, RVs K F (List.replicate n vs).flatten (List.replicate n ds).flatten
  | 0 => .nil
  | n + 1 => by
    rw [List.replicate_succ, List.replicate_succ, List.flatten_cons, List.flatten_cons]
    exact h.append (h.rep n)
theorem intsOf_map : ∀ {ds : List D} {l : List Int}, intsOf ds = some l → ds = l.map PyData.int
  | [], _, e => by
    cases e
    rfl
  | .int i :: r, _, e => by
    rw [intsOf, Option.map_eq_some_iff] at e
    obtain ⟨l, e1, rfl⟩ := e
    rw [intsOf_map e1]
    rfl
theorem boolsOf_map : ∀ {ds : List D} {l : List Bool}, boolsOf ds = some l → ds = l.map PyData.bool
  | [], _, e => by
    cases e
    rfl
  | .bool i :: r, _, e => by
    rw [boolsOf, Option.map_eq_some_iff] at e
    obtain ⟨l, e1, rfl⟩ := e
    rw [boolsOf_map e1]
    rfl
theorem RVs.ints' : ∀ {vs : List V} {l : List Int}, RVs K F vs (l.map PyData.int) → vs = l.map V.int
  | _, [], .nil => rfl
  | _, _ :: _, .cons (.int _) t => by rw [RVs.ints' t]; rfl
theorem RVs.bools' : ∀ {vs : List V} {l : List Bool}, RVs K F vs (l.map PyData.bool) → vs = l.map V.bl
  | _, [], .nil => rfl
  | _, _ :: _, .cons (.bl _) t => by rw [RVs.bools' t]; rfl
theorem RVs.ofInts : ∀ (l : List Int), RVs K F (l.map V.int) (l.map PyData.int)
  | [] => .nil
  | _ :: r => .cons (.int _) (RVs.ofInts r)
theorem RVs.ints {vs : List V} {ds : List D} {l : List Int} (r : RVs K F vs ds) (e : intsOf ds = some l) : vs = l.map V.int ∧ ds = l.map PyData.int := by
  have h := intsOf_map e
  subst h
  exact ⟨r.ints', rfl⟩
theorem RVs.bools {vs : List V} {ds : List D} {l : List Bool} (r : RVs K F vs ds) (e : boolsOf ds = some l) : vs = l.map V.bl := by
  have h := boolsOf_map e
  subst h
  exact r.bools'
end

/-! a dict whose values are all True -/
def dicEn (w : World) (x : NestedKey × Addr) : DictEntry := ⟨x.1.hash w, .ref x.2, .bool true⟩
def DicO (a : Addr) (xs : List (NestedKey × Addr)) : HO := .ext fun h => ∃ (w : World) (o : Obj) (es : Array DictEntry) (ep : Nat), h.get? a = some o ∧ o.ExactDict ∧ o.data = .dict es ep ∧ es.toList = xs.map (dicEn w) ∧ (a == sysModules) = false
structure DicK (xs : List (NestedKey × Addr)) (ds : List D) : Prop where
  key : keysD ds = some (xs.map (·.1))
  ok : ∀ d ∈ ds, kOk d = true
  nd : (xs.map (·.1)).Nodup
  sz : ds.length ≤ sizeLine
/-- a slot's value, and the addresses that it owns -/
inductive SlOk (K : PySem.W.Frag) (F H : Hp) : Sl → Option V → List Addr → Prop where
  | un (o : Option V) : SlOk K F H .un o []
  | fr {w : V} {d : D} : RV K F w d → SlOk K F H (.fr d) (some w) []
  | ol {a : Addr} {ws : List V} {ds : List D} : H a = some (.lst ws) → F a = none → RVs K F ws ds → ds.length ≤ sizeLine → SlOk K F H (.ol ds) (some (.ref a)) [a]
  | od {a : Addr} {xs : List (NestedKey × Addr)} {ds : List D} : H a = some (DicO a xs) → F a = none → RVs K F (xs.map fun x => V.ref x.2) ds → DicK xs ds → SlOk K F H (.od ds) (some (.ref a)) [a]
inductive EnvOk (K : PySem.W.Frag) (F H : Hp) : Env → St → List Addr → Prop where
  | nil : EnvOk K F H [] [] []
  | cons {s : Sl} {o : Option V} {f1 f2 : List Addr} {env : Env} {σ : St} : SlOk K F H s o f1 → EnvOk K F H env σ f2 → EnvOk K F H (s :: env) (o :: σ) (f1 ++ f2)
section
variable {K : PySem.W.Frag} {F F' H H' : Hp} {env : Env} {σ : St} {fp : List Addr}
theorem SlOk.mono {s : Sl} {o : Option V} (x : SlOk K F H s o fp) (sm : Same F F') (hh : ∀ a u, a ∈ fp → H a = some u → H' a = some u) (hf : ∀ a, a ∈ fp → F' a = none) : SlOk K F' H' s o fp := by
  cases x with
  | un o => exact .un o
  | fr r => exact .fr (r.mono sm)
  | ol h1 h2 r z => exact .ol (hh _ _ (by simp) h1) (hf _ (by simp)) (r.mono sm) z
  | od h1 h2 r z => exact .od (hh _ _ (by simp) h1) (hf _ (by simp)) (r.mono sm) z
theorem SlOk.there {s : Sl} {o : Option V} (x : SlOk K F H s o fp) : ∀ a ∈ fp, F a = none ∧ ∃ u, H a = some u := by
  cases x with
  | un o => exact fun a h => absurd h (by simp)
  | fr r => exact fun a h => absurd h (by simp)
  | ol h1 h2 r z =>
    intro a h
    obtain rfl : a = _ := by simpa using h
    exact ⟨h2, _, h1⟩
  | od h1 h2 r z =>
    intro a h
    obtain rfl : a = _ := by simpa using h
    exact ⟨h2, _, h1⟩
theorem EnvOk.mono (x : EnvOk K F H env σ fp) (sm : Same F F') (hh : ∀ a u, a ∈ fp → H a = some u → H' a = some u) (hf : ∀ a, a ∈ fp → F' a = none) : EnvOk K F' H' env σ fp := by
  induction x with
  | nil => exact .nil
  | cons h t ih => exact .cons (h.mono sm (fun a u m => hh a u (List.mem_append_left _ m)) fun a m => hf a (List.mem_append_left _ m)) (ih (fun a u m => hh a u (List.mem_append_right _ m)) fun a m => hf a (List.mem_append_right _ m))
theorem EnvOk.there (x : EnvOk K F H env σ fp) : ∀ a ∈ fp, F a = none ∧ ∃ u, H a = some u := by
  induction x with
  | nil => exact fun a h => absurd h (by simp)
  | cons h t ih => exact fun a m => (List.mem_append.mp m).elim (h.there a) (ih a)
theorem EnvOk.len (x : EnvOk K F H env σ fp) : env.length = σ.length := by
  induction x with
  | nil => rfl
  | cons h t ih => simp [ih]
/-- a slot, taken out of its place -/
theorem EnvOk.at (x : EnvOk K F H env σ fp) : ∀ (i : Nat), i < env.length → ∃ o fl fi fr, σ[i]? = some o ∧ SlOk K F H (look env i) o fi ∧ fp = fl ++ (fi ++ fr) ∧
    (∀ F' H' s' o' fi', Same F F' → (∀ a u, a ∈ fl ++ fr → H a = some u → H' a = some u) → (∀ a, a ∈ fl ++ fr → F' a = none) → SlOk K F' H' s' o' fi' → EnvOk K F' H' (env.set i s') (σ.set i o') (fl ++ (fi' ++ fr))) := by
  induction x with
  | nil => exact fun i h => absurd h (by simp)
  | @cons s o f1 f2 env σ h t ih =>
    intro i hi
    cases i with
    | zero =>
      refine ⟨o, [], f1, f2, rfl, h, rfl, fun F' H' s' o' fi' sm hh hf z => ?_⟩
      exact EnvOk.cons (f1 := fi') (f2 := f2) z (t.mono sm (fun a u m => hh a u (by simpa using m)) fun a m => hf a (by simpa using m))
    | succ i =>
      obtain ⟨o1, fl, fi, fr, e1, e2, e3, e4⟩ := ih i (by simpa using hi)
      refine ⟨o1, f1 ++ fl, fi, fr, by simpa using e1, e2, by rw [e3]; simp, fun F' H' s' o' fi' sm hh hf z => ?_⟩
      have := e4 F' H' s' o' fi' sm (fun a u m => hh a u (by
        rw [List.append_assoc]
        exact List.mem_append_right _ m)) (fun a m => hf a (by
        rw [List.append_assoc]
        exact List.mem_append_right _ m)) z
      rw [List.append_assoc]
      refine .cons (h.mono sm (fun a u m => hh a u ?_) fun a m => hf a ?_) this
      · exact List.mem_append_left _ (List.mem_append_left _ m)
      · exact List.mem_append_left _ (List.mem_append_left _ m)
theorem look_un {i : Nat} (h : ¬ i < env.length) : look env i = .un := by
  unfold look
  rw [List.getD_eq_getElem?_getD, List.getElem?_eq_none (by omega)]
  rfl
theorem look_lt {i : Nat} (h : look env i ≠ .un) : i < env.length := by
  by_cases hi : i < env.length
  · exact hi
  · exact absurd (look_un hi) h
end

/-- a state of the small language in the abstract heap: F is what stands still, fp what is owned -/
structure Pre (K : PySem.W.Frag) (F H : Hp) (fp : List Addr) (env : Env) (σ : St) : Prop where
  sub : Same F H
  env : EnvOk K F H env σ fp
  nd : fp.Nodup
/-- what every step leaves -/
structure Stp (F H : Hp) (fp : List Addr) (F' H' : Hp) (fp' : List Addr) : Prop where
  same : Same F F'
  ext : ∀ b o, F' b = some o → F b = none → H b = none ∨ b ∈ fp
  frame : ∀ b o, H b = some o → b ∉ fp → H' b = some o
  fpx : ∀ a ∈ fp', a ∈ fp ∨ H a = none
section
variable {K : PySem.W.Frag} {F F1 F2 H H1 H2 : Hp} {fp fp1 fp2 : List Addr} {env : Env} {σ : St}
theorem Stp.refl : Stp F H fp F H fp := ⟨Same.refl _, fun b o e n => absurd (n.symm.trans e) (by simp), fun b o e _ => e, fun a h => .inl h⟩
theorem Stp.none1 (x : Stp F H fp F1 H1 fp1) {b : Addr} (h : H1 b = none) : H b = none ∨ b ∈ fp := by
  by_cases hb : b ∈ fp
  · exact .inr hb
  · cases e : H b with
    | none => exact .inl rfl
    | some o =>
      rw [x.frame b o e hb] at h
      cases h
theorem Stp.trans (x : Stp F H fp F1 H1 fp1) (y : Stp F1 H1 fp1 F2 H2 fp2) : Stp F H fp F2 H2 fp2 := by
  refine ⟨x.same.trans y.same, fun b o e n => ?_, fun b o e n => ?_, fun a h => ?_⟩
  · cases e1 : F1 b with
    | some u => exact x.ext b u e1 n
    | none =>
      rcases y.ext b o e e1 with z | z
      · exact x.none1 z
      · exact (x.fpx b z).symm
  · refine y.frame b o (x.frame b o e n) fun z => ?_
    rcases x.fpx b z with z | z
    · exact n z
    · rw [e] at z
      cases z
  · rcases y.fpx a h with z | z
    · exact x.fpx a z
    · exact (x.none1 z).symm
theorem same_upd {H : Hp} {a : Addr} {o : HO} (h : H a = none) : Same H (upd H a o) := fun b x e => by
  rw [upd_ne (ne_of_none e h)]
  exact e
/-- a list of ours stands still from now on -/
theorem Pre.hold {a : Addr} {ws : List V} {ds : List D} {fl fr : List Addr} (sub : Same F H) (ha : H a = some (.lst ws)) (hf : F a = none) (r : RVs K F ws ds) (hz : ds.length ≤ sizeLine) :
    Same F (upd F a (.lst ws)) ∧ Same (upd F a (.lst ws)) H ∧ RV K (upd F a (.lst ws)) (.ref a) (.list ds) := by
  refine ⟨same_upd hf, fun b o e => ?_, .lst (.inl upd_same) (r.mono (same_upd hf)) hz⟩
  by_cases hb : b = a
  · subst hb
    rw [upd_same] at e
    cases e
    exact ha
  · rw [upd_ne hb] at e
    exact sub _ _ e
/-- the value on top, frozen -/
theorem Pre.still {s : Sl} {d : D} {w : V} (x : Pre K F H fp (s :: env) (some w :: σ)) (e : toD s = some d) :
    ∃ F1 fp1, Stp F H fp F1 H fp1 ∧ Pre K F1 H fp1 env σ ∧ RV K F1 w d := by
  obtain ⟨sub, en, nd⟩ := x
  cases en with
  | cons h t =>
    cases h with
    | un o => cases e
    | fr r =>
      cases e
      exact ⟨F, _, .refl, ⟨sub, t, nd⟩, r⟩
    | od h1 h2 r hz => cases e
    | @ol a ws ds h1 h2 r hz =>
      cases e
      obtain ⟨s1, s2, r1⟩ := Pre.hold (fl := []) (fr := []) sub h1 h2 r hz
      rename_i f2
      have na : a ∉ f2 := fun m => by
        have := (List.nodup_append.mp nd).2.2 a (by simp) a m
        exact this rfl
      refine ⟨upd F a (.lst ws), f2, ⟨s1, fun b o e n => ?_, fun b o e n => e, fun b m => .inl (List.mem_append_right _ m)⟩, ⟨s2, t.mono s1 (fun _ _ _ e => e) fun b m => ?_, (List.nodup_append.mp nd).2.1⟩, r1⟩
      · by_cases hb : b = a
        · exact .inr (by rw [hb]; simp)
        · rw [upd_ne hb, n] at e
          cases e
      · rw [upd_ne (show b ≠ a from fun z => na (by rw [← z]; exact m))]
        exact (t.there b m).1
end
end Dc

/-! Dc: what the rules of the hand layer ask, in the small language's words. -/
namespace Dc
open PySem PySem.Spec PyProof.Rows L2

/-- the ends of a reading -/
def RQ {α : Type} (ok : α → Env → Prop) (er : Nat → Env → Prop) : R α → Prop
  | .ok a env => ok a env
  | .er c env => er c env
  | .st => False
/-- what a reading of the small language asks: from a state, for each end of the right form -/
def dX (K : PySem.W.Frag) (exc : Nat → Addr) (W : WX) {α β : Type} (fin : St → Hp → Hp → List Addr → β → α → Env → Prop) (f : Env → R α) : St → Hp → (β → Hp → Prop) → Prop := fun σ H Q =>
  ∃ F env fp, Pre K F H fp env σ ∧ RQ (fun a env' => ∀ w F' H' fp', Stp F H fp F' H' fp' → fin σ F' H' fp' w a env' → Q w H')
    (fun c env' => ∀ F' H' fp', Stp F H fp F' H' fp' → Pre K F' H' fp' env' σ → W (.ref (exc c)) none σ H') (f env)
abbrev finG (K : PySem.W.Frag) {α β : Type} (rel : St → Hp → β → α → Prop) : St → Hp → Hp → List Addr → β → α → Env → Prop := fun σ F H fp w a env => Pre K F H fp env σ ∧ rel σ F w a
abbrev dG (K : PySem.W.Frag) (exc : Nat → Addr) (W : WX) {α β : Type} (rel : St → Hp → β → α → Prop) (f : Env → R α) : St → Hp → (β → Hp → Prop) → Prop := dX K exc W (finG K rel) f
/-- for a value that may be a new list of its own -/
abbrev finE (K : PySem.W.Frag) : St → Hp → Hp → List Addr → V → Sl → Env → Prop := fun σ F H fp w s env => Pre K F H fp (s :: env) (some w :: σ)
abbrev dE (K : PySem.W.Frag) (exc : Nat → Addr) (W : WX) (f : Env → R Sl) : TE := dX K exc W (finE K) f
def relD (K : PySem.W.Frag) : St → Hp → V → D → Prop := fun _ F w d => RV K F w d
def relB : St → Hp → Bool → Bool → Prop := fun _ _ w b => w = b
def relO (K : PySem.W.Frag) : St → Hp → V → Opd → Prop := fun σ F w o => match o with
  | .val d => RV K F w d
  | .slot i => σ[i]? = some (some w)
inductive All2 {α β : Type} (r : β → α → Prop) : List β → List α → Prop where
  | nil : All2 r [] []
  | cons {b : β} {bs : List β} {a : α} {as : List α} : r b a → All2 r bs as → All2 r (b :: bs) (a :: as)
def relL {α β : Type} (rel : St → Hp → β → α → Prop) : St → Hp → List β → List α → Prop := fun σ F ws as => All2 (rel σ F) ws as
/-- a relation that stays when more stands still -/
def Mono {α β : Type} (rel : St → Hp → β → α → Prop) : Prop := ∀ σ F F' w a, Same F F' → rel σ F w a → rel σ F' w a
theorem mono_D {K : PySem.W.Frag} : Mono (relD K) := fun _ _ _ _ _ s h => RV.mono s h
theorem mono_B : Mono relB := fun _ _ _ _ _ _ h => h
theorem mono_O {K : PySem.W.Frag} : Mono (relO K) := fun _ _ _ _ a s h => by
  cases a with
  | val d => exact RV.mono s h
  | slot i => exact h
theorem mono_L {α β : Type} {rel : St → Hp → β → α → Prop} (m : Mono rel) : Mono (relL rel) := fun σ F F' w a s h => by
  unfold relL at *
  induction h with
  | nil => exact .nil
  | cons h t ih => exact .cons (m _ _ _ _ _ s h) ih
theorem rvs_of {K : PySem.W.Frag} {σ : St} {F : Hp} {ws : List V} {ds : List D} (h : relL (relD K) σ F ws ds) : RVs K F ws ds := by
  unfold relL at h
  induction h with
  | nil => exact .nil
  | cons h t ih => exact .cons h ih

section
variable {X : Cx} {exc : Nat → Addr} {W : WX} {e a b : Expr} {es : List Expr}
theorem PE.imp {t t' : TE} (h : PE X e t) (i : ∀ σ H Q, t' σ H Q → t σ H Q) : PE X e t' := ⟨fun pins s σ H Q I q => h.run pins s σ H Q I (i σ H Q q)⟩
theorem PT.imp {t t' : TT} (h : PT X e t) (i : ∀ σ H Q, t' σ H Q → t σ H Q) : PT X e t' := ⟨fun pins s σ H Q I q => h.run pins s σ H Q I (i σ H Q q)⟩
theorem PA.imp {t t' : TA} (h : PA X es t) (i : ∀ σ H Q, t' σ H Q → t σ H Q) : PA X es t' := ⟨fun pos pins s σ H Q I q => h.run pos pins s σ H Q I (i σ H Q q)⟩
abbrev eE (X : Cx) (exc : Nat → Addr) (W : WX) (f : Env → R Sl) : TE := dE X.K exc W f
abbrev eD (X : Cx) (exc : Nat → Addr) (W : WX) (f : Env → R D) : TE := dG X.K exc W (relD X.K) f
abbrev eO (X : Cx) (exc : Nat → Addr) (W : WX) (f : Env → R Opd) : TE := dG X.K exc W (relO X.K) f
abbrev eB (X : Cx) (exc : Nat → Addr) (W : WX) (f : Env → R Bool) : TT := dG X.K exc W relB f

/-- one reading behind another -/
theorem dX_bind {α β α' β' : Type} {rel : St → Hp → β → α → Prop} {fin : St → Hp → Hp → List Addr → β' → α' → Env → Prop} {f : Env → R α} {g : α → Env → R α'} {K : PySem.W.Frag} {σ : St} {H : Hp} {Q : β' → Hp → Prop} {T : β → Hp → Prop}
    (h : dX K exc W fin (fun env => (f env).bind g) σ H Q)
    (k : ∀ w H1 F1 a, rel σ F1 w a → dX K exc W (fun σ F' H' fp' w' a' env' => Same F1 F' → fin σ F' H' fp' w' a' env') (g a) σ H1 Q → T w H1) :
    dG K exc W rel f σ H T := by
  obtain ⟨F, env, fp, p, q⟩ := h
  dsimp only at q
  refine ⟨F, env, fp, p, ?_⟩
  cases e : f env with
  | st => rw [e] at q; exact q
  | er c env' => rw [e] at q; exact q
  | ok a1 env1 =>
    rw [e] at q
    intro w F1 H1 fp1 s1 ⟨p1, r1⟩
    refine k w H1 F1 a1 r1 ⟨F1, env1, fp1, p1, ?_⟩
    dsimp only [R.bind] at q
    cases e2 : g a1 env1 with
    | st => rw [e2] at q; exact q
    | er c env' => rw [e2] at q; exact fun F' H' fp' s2 p2 => q F' H' fp' (s1.trans s2) p2
    | ok a2 env2 => rw [e2] at q; exact fun w' F' H' fp' s2 p2 => q w' F' H' fp' (s1.trans s2) (p2 s2.same)
/-- only the end is asked otherwise -/
theorem dX_end {α β β' : Type} {fin : St → Hp → Hp → List Addr → β → α → Env → Prop} {fin' : St → Hp → Hp → List Addr → β' → α → Env → Prop} {f : Env → R α} {K : PySem.W.Frag} {σ : St} {H : Hp} {Q : β → Hp → Prop} {T : β' → Hp → Prop}
    (h : dX K exc W fin f σ H Q) (k : ∀ w' F' H' fp' a env', fin' σ F' H' fp' w' a env' → (∀ w, fin σ F' H' fp' w a env' → Q w H') → T w' H') : dX K exc W fin' f σ H T := by
  obtain ⟨F, env, fp, p, q⟩ := h
  refine ⟨F, env, fp, p, ?_⟩
  cases e : f env with
  | st => rw [e] at q; exact q
  | er c env' => rw [e] at q; exact q
  | ok a1 env1 =>
    rw [e] at q
    exact fun w' F' H' fp' s' r' => k w' F' H' fp' a1 env1 r' fun w r => q w F' H' fp' s' r
/-- nothing was done -/
theorem dX_ok {α β : Type} {fin : St → Hp → Hp → List Addr → β → α → Env → Prop} {a : α} {K : PySem.W.Frag} {σ : St} {H : Hp} {Q : β → Hp → Prop} {w : β}
    (h : dX K exc W fin (fun env => .ok a env) σ H Q) (k : ∀ F fp env, Pre K F H fp env σ → fin σ F H fp w a env) : Q w H := by
  obtain ⟨F, env, fp, p, q⟩ := h
  exact q w F H fp .refl (k F fp env p)

/-! ### values that stand still -/
theorem snd_fz {f : Env → R Sl} (h : PE X e (eE X exc W f)) : PE X e (eD X exc W (fz f)) := by
  refine PE.imp h fun σ H Q q => ?_
  obtain ⟨F, env, fp, p, q⟩ := q
  refine ⟨F, env, fp, p, ?_⟩
  unfold fz at q
  cases e : f env with
  | st => rw [e] at q; exact q
  | er c env' => rw [e] at q; exact q
  | ok s env1 =>
    rw [e] at q
    intro w F' H' fp' s' p'
    dsimp only [R.bind, frz] at q
    cases ed : toD s with
    | none => rw [ed] at q; exact False.elim q
    | some d =>
      rw [ed] at q
      obtain ⟨F1, fp1, s1, p1, r1⟩ := Pre.still p' ed
      exact q w F1 H' fp1 (s'.trans s1) ⟨p1, r1⟩
theorem snd_tst {f : Env → R Sl} (h : PE X e (eE X exc W f)) (he : ∀ whole, isTrue e X.env whole = (do let v ← whole; standAt e.pos; holding [v] (truthy v))) : PT X e (eB X exc W (tst f)) := by
  refine PT.imp (pt_val (snd_fz h) he) fun σ H Q q => ?_
  refine dX_bind q fun w H1 F1 d r q1 => ?_
  unfold asBool at q1
  cases d with
  | bool b =>
    cases r
    exact ⟨b, rfl, dX_ok (w := b) q1 fun F fp env p _ => ⟨p, rfl⟩⟩
  | _ =>
    obtain ⟨_, _, _, _, z⟩ := q1
    exact False.elim z

/-! ### names and constants -/
theorem snd_var {i : Nat} {x : Str} {pos : Pos} {md : Nat → Modes} {call : Nat → List Sl → R Sl} (hN : X.N[i]? = some x) (hv : Vis X.env.scope x) (hd : (x == ("__debug__" : Str)) = false) (hcd : (x == ("__classdict__" : Str)) = false) :
    PE X (.Name x pos) (eE X exc W (ev md call (.var i))) := by
  refine PE.imp (pe_var hN hv hd hcd) fun σ H Q q => ?_
  obtain ⟨F, env, fp, p, q⟩ := q
  unfold ev at q
  by_cases hi : i < env.length
  · obtain ⟨o, fl, fi, fr, e1, e2, e3, e4⟩ := p.env.at i hi
    cases el : look env i with
    | un => rw [el] at q; exact False.elim q
    | od kvs => rw [el] at q; exact False.elim q
    | fr d =>
      rw [el] at q e2
      cases e2 with
      | fr r => exact ⟨_, e1, q _ F H fp .refl ⟨p.sub, EnvOk.cons (f1 := []) (.fr r) p.env, p.nd⟩⟩
    | ol ds =>
      rw [el] at q e2
      cases e2 with
      | @ol a ws _ h1 h2 r hz =>
        refine ⟨_, e1, ?_⟩
        obtain ⟨s1, s2, r1⟩ := Pre.hold (fl := fl) (fr := fr) p.sub h1 h2 r hz
        subst e3
        have nd := p.nd
        have nal : a ∉ fl ++ fr := fun m => by
          rcases List.mem_append.mp m with m | m
          · exact (List.nodup_append.mp nd).2.2 a m a (by simp) rfl
          · exact (List.nodup_append.mp (List.nodup_append.mp nd).2.1).2.2 a (by simp) a m rfl
        have sub : ∀ b, b ∈ fl ++ fr → b ∈ fl ++ ([a] ++ fr) := fun b m => by
          rcases List.mem_append.mp m with m | m
          · exact List.mem_append_left _ m
          · exact List.mem_append_right _ (List.mem_append_right _ m)
        have en := e4 (upd F a (.lst ws)) H (.fr (.list ds)) (some (.ref a)) [] s1 (fun _ _ _ e => e) (fun b m => by
          rw [upd_ne (show b ≠ a from fun z => nal (by rw [← z]; exact m))]
          exact (p.env.there b (sub b m)).1) (.fr r1)
        have hs : σ.set i (some (.ref a)) = σ := by
          refine List.ext_getElem? fun j => ?_
          by_cases hj : i = j
          · subst hj
            rw [List.getElem?_set_self (by rw [← p.env.len]; exact hi), e1]
          · rw [List.getElem?_set_ne hj]
        rw [hs] at en
        have nd2 : (fl ++ fr).Nodup := by
          have z := List.nodup_append.mp nd
          have z2 := List.nodup_append.mp z.2.1
          exact List.nodup_append.mpr ⟨z.1, z2.2.1, fun b m c m2 => z.2.2 b m c (List.mem_append_right _ m2)⟩
        refine q (.ref a) (upd F a (.lst ws)) H (fl ++ fr) ⟨s1, fun b o eb n => ?_, fun b o eb _ => eb, fun b m => .inl (sub b m)⟩ ⟨s2, EnvOk.cons (f1 := []) (.fr r1) en, nd2⟩
        by_cases hb : b = a
        · exact .inr (by rw [hb]; simp)
        · rw [upd_ne hb, n] at eb
          cases eb
  · rw [look_un hi] at q
    exact False.elim q
theorem snd_cst {t : V} {d : D} {f : Env → R Sl} (h : PE X e (tC t)) (hf : f = fun env => .ok (.fr d) env) (r : ∀ F, RV X.K F t d) : PE X e (eE X exc W f) := by
  subst hf
  refine PE.imp h fun σ H Q q => ?_
  exact dX_ok q fun F fp env p => ⟨p.sub, EnvOk.cons (f1 := []) (.fr (r F)) p.env, p.nd⟩
end
end Dc

/-! Dc: operands, arguments, displays, operations. -/
namespace Dc
open PySem PySem.Spec PyProof.Rows L2
def noStar : Expr → Bool
  | .Starred _ _ => false
  | _ => true
theorem star_cons {e : Expr} {es : List Expr} {env : PySem.Env} (h : noStar e = true) : starEach (e :: es) env = (false, eval e env) :: starEach es env := by
  cases e with
  | Starred _ _ => cases h
  | _ => rfl
section
variable {X : Cx} {exc : Nat → Addr} {W : WX} {e a b : Expr} {es : List Expr}
theorem snd_val {f : Env → R Sl} (h : PE X e (eE X exc W f)) : PE X e (eO X exc W (fun env => (fz f env).bind fun d env1 => .ok (.val d) env1)) := by
  refine PE.imp (snd_fz h) fun σ H Q q => ?_
  exact dX_bind q fun w H1 F1 d r q1 => dX_ok (w := w) q1 fun F fp env p s => ⟨p, RV.mono s r⟩
/-- the value of a slot that is something -/
theorem slot_at {K : PySem.W.Frag} {F H : Hp} {fp : List Addr} {env : Env} {σ : St} (p : Pre K F H fp env σ) {i : Nat} (h : look env i ≠ .un) : ∃ w, σ[i]? = some (some w) := by
  obtain ⟨o, fl, fi, fr, e1, e2, e3, e4⟩ := p.env.at i (look_lt h)
  cases el : look env i with
  | un => exact absurd el h
  | fr d =>
    rw [el] at e2
    cases e2
    exact ⟨_, e1⟩
  | ol d =>
    rw [el] at e2
    cases e2
    exact ⟨_, e1⟩
  | od d =>
    rw [el] at e2
    cases e2
    exact ⟨_, e1⟩
theorem dX_slot {K : PySem.W.Frag} {σ : St} {H : Hp} {Q : VK} {i : Nat} (q : dG K exc W (relO K) (fun env => match look env i with | .un => .st | _ => .ok (.slot i) env) σ H Q) : tVar i σ H Q := by
  obtain ⟨F, env, fp, p, q⟩ := q
  have h : look env i ≠ .un := fun z => by
    dsimp only at q
    rw [z] at q
    exact q
  obtain ⟨w, e1⟩ := slot_at p h
  refine ⟨w, e1, ?_⟩
  dsimp only at q
  cases el : look env i with
  | un => exact absurd el h
  | _ =>
    rw [el] at q
    exact q w F H fp .refl ⟨p, e1⟩
theorem snd_opd {f : Env → R Sl} (e' : E) (h : PE X e (eE X exc W f)) (hv : ∀ i, e' = .var i → PE X e (tVar i)) : PE X e (eO X exc W (opd e' f)) := by
  cases e' with
  | var i =>
    refine ⟨fun pins s σ H Q I q => ?_⟩
    obtain ⟨F, env, fp, p, q⟩ := q
    have slot : look env i ≠ .un → RQ (fun a env' => ∀ w F' H' fp', Stp F H fp F' H' fp' → finG X.K (relO X.K) σ F' H' fp' w a env' → Q w H')
        (fun c env' => ∀ F' H' fp', Stp F H fp F' H' fp' → Pre X.K F' H' fp' env' σ → W (.ref (exc c)) none σ H') (.ok (.slot i) env) → wpAny (model X.prog X.w) X.A (eval e X.env) (EP X pins σ Q) X.xe s := fun z q' => by
      obtain ⟨w, e1⟩ := slot_at p z
      exact (hv i rfl).run pins s σ H Q I ⟨w, e1, q' w F H fp .refl ⟨p, e1⟩⟩
    have val : RQ (fun a env' => ∀ w F' H' fp', Stp F H fp F' H' fp' → finG X.K (relO X.K) σ F' H' fp' w a env' → Q w H')
        (fun c env' => ∀ F' H' fp', Stp F H fp F' H' fp' → Pre X.K F' H' fp' env' σ → W (.ref (exc c)) none σ H') ((fz f env).bind fun d env1 => .ok (.val d) env1) → wpAny (model X.prog X.w) X.A (eval e X.env) (EP X pins σ Q) X.xe s := fun q' =>
      (snd_val h).run pins s σ H Q I ⟨F, env, fp, p, q'⟩
    have eo : opd (.var i) f env = match look env i with
      | .ol _ => .ok (.slot i) env
      | .od _ => .ok (.slot i) env
      | _ => (fz f env).bind fun d env1 => .ok (.val d) env1 := rfl
    rw [eo] at q
    cases el : look env i with
    | un => rw [el] at q; exact val q
    | fr d => rw [el] at q; exact val q
    | ol ds => rw [el] at q; exact slot (by rw [el]; exact fun z => by cases z) q
    | od ds => rw [el] at q; exact slot (by rw [el]; exact fun z => by cases z) q
  | _ => exact snd_val h
theorem snd_arg {f : Env → R Sl} (m : Bool) (e' : E) (h : PE X e (eE X exc W f)) (hv : ∀ i, e' = .var i → PE X e (tVar i)) : PE X e (eO X exc W (arg m e' f)) := by
  cases m with
  | false => cases e' <;> exact snd_val h
  | true =>
    cases e' with
    | var i => exact PE.imp (hv i rfl) fun σ H Q q => dX_slot q
    | _ => exact snd_val h
/-- several, from the left -/
theorem snd_nil {α : Type} {rel : St → Hp → V → α → Prop} : PA X [] (dG X.K exc W (relL rel) (fun env => .ok [] env)) :=
  PA.imp pa_nil fun σ H Q q => dX_ok q fun F fp env p => ⟨p, .nil⟩
theorem snd_cons {α : Type} {rel : St → Hp → V → α → Prop} {f : Env → R α} {g : Env → R (List α)} (m : Mono rel) (h : PE X e (dG X.K exc W rel f)) (t : PA X es (dG X.K exc W (relL rel) g)) (hs : noStar e = true) :
    PA X (e :: es) (dG X.K exc W (relL rel) (two f g)) := by
  refine PA.imp (pa_cons h t (star_cons hs)) fun σ H Q q => ?_
  refine dX_bind q fun w H1 F1 a r q1 => ?_
  refine dX_bind q1 fun ws H2 F2 as r2 q2 => ?_
  exact dX_ok (w := w :: ws) q2 fun F fp env p s1 s2 => ⟨p, .cons (m _ _ _ _ _ s2 r) (mono_L m _ _ _ _ _ s1 r2)⟩

/-! ### displays -/
theorem new_tup {K : PySem.W.Frag} {F H : Hp} {fp : List Addr} {env : Env} {σ : St} {ws : List V} {ds : List D} {p : Addr} (x : Pre K F H fp env σ) (r : RVs K F ws ds) (hp : H p = none) (hz : ds.length ≤ sizeLine) :
    Stp F H fp (upd F p (.tup ws)) (upd H p (.tup ws)) fp ∧ Pre K (upd F p (.tup ws)) (upd H p (.tup ws)) fp (.fr (.tuple ds) :: env) (some (.ref p) :: σ) := by
  have hf : F p = none := x.sub.free hp
  have s1 : Same F (upd F p (.tup ws)) := same_upd hf
  have npf : ∀ b, b ∈ fp → b ≠ p := fun b m z => by
    obtain ⟨_, u, e⟩ := x.env.there b m
    rw [z, hp] at e
    cases e
  refine ⟨⟨s1, fun b o e n => ?_, fun b o e _ => same_upd hp b o e, fun b m => .inl m⟩, ⟨fun b o e => ?_, ?_, x.nd⟩⟩
  · by_cases hb : b = p
    · exact .inl (hb ▸ hp)
    · rw [upd_ne hb, n] at e
      cases e
  · by_cases hb : b = p
    · subst hb
      rw [upd_same] at e ⊢
      exact e
    · rw [upd_ne hb] at e ⊢
      exact x.sub b o e
  · refine EnvOk.cons (f1 := []) (.fr (.tup (.inl (.inl upd_same)) (r.mono s1) hz)) (x.env.mono s1 (fun b u _ e => same_upd hp b u e) fun b m => ?_)
    rw [upd_ne (npf b m)]
    exact (x.env.there b m).1
theorem new_lst {K : PySem.W.Frag} {F H : Hp} {fp : List Addr} {env : Env} {σ : St} {ws : List V} {ds : List D} {p : Addr} (x : Pre K F H fp env σ) (r : RVs K F ws ds) (hp : H p = none) (hz : ds.length ≤ sizeLine) :
    Stp F H fp F (upd H p (.lst ws)) (p :: fp) ∧ Pre K F (upd H p (.lst ws)) (p :: fp) (.ol ds :: env) (some (.ref p) :: σ) := by
  have hf : F p = none := x.sub.free hp
  have npf : p ∉ fp := fun m => by
    obtain ⟨_, u, e⟩ := x.env.there p m
    rw [hp] at e
    cases e
  refine ⟨⟨Same.refl _, fun b o e n => by (rw [n] at e; cases e), fun b o e _ => same_upd hp b o e, fun b m => (List.mem_cons.mp m).elim (fun z => .inr (z ▸ hp)) .inl⟩, ⟨fun b o e => same_upd hp b o (x.sub b o e), ?_, List.nodup_cons.mpr ⟨npf, x.nd⟩⟩⟩
  exact EnvOk.cons (f1 := [p]) (.ol upd_same hf r hz) (x.env.mono (Same.refl _) (fun b u _ e => same_upd hp b u e) fun b m => (x.env.there b m).1)
theorem snd_tup {g : Env → R (List D)} {k : Nat} {pos : Pos} (h : PA X es (dG X.K exc W (relL (relD X.K)) g)) (hn : ∀ env ds env', g env = .ok ds env' → ds.length ≤ sizeLine) :
    PE X (.Tuple es k pos) (eE X exc W (fun env => (g env).bind fun ds env1 => .ok (.fr (.tuple ds)) env1)) := by
  refine PE.imp (pe_tup h) fun σ H Q q => ?_
  obtain ⟨F, env, fp, p, q⟩ := q
  refine ⟨F, env, fp, p, ?_⟩
  dsimp only at q
  cases e : g env with
  | st => rw [e] at q; exact q
  | er c env' => rw [e] at q; exact q
  | ok ds env1 =>
    rw [e] at q
    intro ws F1 H1 fp1 s1 ⟨p1, r1⟩
    have rr := rvs_of r1
    refine ⟨by rw [rr.length]; exact hn _ _ _ e, fun a ha => ?_⟩
    obtain ⟨s2, p2⟩ := new_tup p1 rr ha (hn _ _ _ e)
    exact q (.ref a) _ _ _ (s1.trans s2) p2
theorem snd_lst {g : Env → R (List D)} {pos : Pos} (h : PA X es (dG X.K exc W (relL (relD X.K)) g)) (hn : ∀ env ds env', g env = .ok ds env' → ds.length ≤ sizeLine) :
    PE X (.List es pos) (eE X exc W (fun env => (g env).bind fun ds env1 => .ok (.ol ds) env1)) := by
  refine PE.imp (pe_lst h) fun σ H Q q => ?_
  obtain ⟨F, env, fp, p, q⟩ := q
  refine ⟨F, env, fp, p, ?_⟩
  dsimp only at q
  cases e : g env with
  | st => rw [e] at q; exact q
  | er c env' => rw [e] at q; exact q
  | ok ds env1 =>
    rw [e] at q
    intro ws F1 H1 fp1 s1 ⟨p1, r1⟩
    have rr := rvs_of r1
    refine ⟨by rw [rr.length]; exact hn _ _ _ e, fun a ha => ?_⟩
    obtain ⟨s2, p2⟩ := new_lst p1 rr ha (hn _ _ _ e)
    exact q (.ref a) _ _ _ (s1.trans s2) p2
end

/-! ### operations -/
/-- data that may be read: it stands still, or it is a list of ours -/
inductive BV (K : PySem.W.Frag) (F H : Hp) : V → D → Prop where
  | fr {w : V} {d : D} : RV K F w d → BV K F H w d
  | ol {a : Addr} {ws : List V} {ds : List D} : H a = some (.lst ws) → RVs K F ws ds → ds.length ≤ sizeLine → BV K F H (.ref a) (.list ds)
/-- what an operation leaves -/
structure Res (K : PySem.W.Frag) (F H : Hp) (w : V) (s : Sl) (F' H' : Hp) : Prop where
  same : Same F F'
  ext : ∀ b o, F' b = some o → F b = none → H b = none
  sub : Same F' H'
  keep : Same H H'
  rep : ∃ fp, SlOk K F' H' s (some w) fp ∧ fp.Nodup ∧ ∀ a ∈ fp, H a = none
/-- what an operation by values asks -/
def rPn (K : PySem.W.Frag) (p : Prim) : List V → Hp → VK → Prop := fun xs H Q =>
  ∃ F ds s, Same F H ∧ All2 (BV K F H) xs ds ∧ primS p ds = some s ∧ ∀ w F' H', Res K F H w s F' H' → Q w H'
section
variable {K : PySem.W.Frag} {F F' H H' : Hp} {fp : List Addr} {env : Env} {σ : St} {w : V} {s : Sl}
theorem Res.stp (r : Res K F H w s F' H') (p : Pre K F H fp env σ) : ∃ fp', Stp F H fp F' H' fp' ∧ Pre K F' H' fp' (s :: env) (some w :: σ) := by
  obtain ⟨fq, h1, h2, h3⟩ := r.rep
  refine ⟨fq ++ fp, ⟨r.same, fun b o e n => .inl (r.ext b o e n), fun b o e _ => r.keep b o e, fun b m => (List.mem_append.mp m).elim (fun z => .inr (h3 b z)) .inl⟩, ⟨r.sub, EnvOk.cons h1 (p.env.mono r.same (fun b u _ e => r.keep b u e) fun b m => ?_), List.nodup_append.mpr ⟨h2, p.nd, fun b m c m2 z => ?_⟩⟩⟩
  · obtain ⟨q1, u, q2⟩ := p.env.there b m
    cases e : F' b with
    | none => rfl
    | some o =>
      have := r.ext b o e q1
      rw [q2] at this
      cases this
  · subst z
    obtain ⟨q1, u, q2⟩ := p.env.there b m2
    rw [h3 b m] at q2
    cases q2
/-- an answer that needs no room -/
theorem Res.flat {d : D} (sub : Same F H) (h : RV K F w d) : Res K F H w (.fr d) F H := ⟨Same.refl _, fun b o e n => by (rw [n] at e; cases e), sub, Same.refl _, [], .fr h, .nil, fun a m => absurd m (by simp)⟩
theorem Res.tup {ws : List V} {ds : List D} {p : Addr} (sub : Same F H) (r : RVs K F ws ds) (hp : H p = none) (hz : ds.length ≤ sizeLine) : Res K F H (.ref p) (.fr (.tuple ds)) (upd F p (.tup ws)) (upd H p (.tup ws)) := by
  have s1 : Same F (upd F p (.tup ws)) := same_upd (sub.free hp)
  refine ⟨s1, fun b o e n => ?_, fun b o e => ?_, same_upd hp, [], .fr (.tup (.inl (.inl upd_same)) (r.mono s1) hz), .nil, fun a m => absurd m (by simp)⟩
  · by_cases hb : b = p
    · exact hb ▸ hp
    · rw [upd_ne hb, n] at e
      cases e
  · by_cases hb : b = p
    · subst hb
      rw [upd_same] at e ⊢
      exact e
    · rw [upd_ne hb] at e ⊢
      exact sub b o e
theorem Res.lst {ws : List V} {ds : List D} {p : Addr} (sub : Same F H) (r : RVs K F ws ds) (hp : H p = none) (hz : ds.length ≤ sizeLine) : Res K F H (.ref p) (.ol ds) F (upd H p (.lst ws)) :=
  ⟨Same.refl _, fun b o e n => by (rw [n] at e; cases e), fun b o e => same_upd hp b o (sub b o e), same_upd hp, [p], .ol upd_same (sub.free hp) r hz, by simp, fun a m => by
    obtain rfl : a = p := by simpa using m
    exact hp⟩
/-- what is read through -/
theorem BV.deref {o : Opd} {d : D} (p : Pre K F H fp env σ) (r : relO K σ F w o) (e : deref env o = some d) : BV K F H w d := by
  cases o with
  | val d' =>
    cases e
    exact .fr r
  | slot i =>
    have r : σ[i]? = some (some w) := r
    have e : toD (look env i) = some d := e
    have hi : look env i ≠ .un := fun z => by (rw [z] at e; cases e)
    obtain ⟨o, fl, fi, fr, e1, e2, e3, e4⟩ := p.env.at i (look_lt hi)
    rw [r] at e1
    obtain rfl := Option.some.inj e1
    generalize look env i = s at e e2 hi
    cases e2 with
    | un => exact absurd rfl hi
    | fr h => cases e; exact .fr h
    | ol h1 h2 h3 hz => cases e; exact .ol h1 h3 hz
    | od h1 h2 h3 hz => cases e
theorem BVs.deref (p : Pre K F H fp env σ) : ∀ {ws : List V} {os : List Opd} {ds : List D}, All2 (relO K σ F) ws os → derefs env os = some ds → All2 (BV K F H) ws ds
  | _, _, ds, .nil, e => by
    cases e
    exact .nil
  | _, _, ds, .cons (a := o) (as := os) h t, e => by
    unfold derefs at e
    cases e1 : Dc.deref env o with
    | none => rw [e1] at e; cases e
    | some d =>
      rw [e1] at e
      cases e2 : derefs env os with
      | none => rw [e2] at e; cases e
      | some ds' =>
        rw [e2] at e
        cases e
        exact .cons (BV.deref p h e1) (BVs.deref p t e2)
theorem BV.dp {d : D} (sub : Same F H) (h : BV K F H w d) : Dp K H w d := by
  cases h with
  | fr r => exact (RV.mono sub r).dp
  | ol h1 r _ => exact .lst (.inl (.inl h1)) (RVs.mono sub r).dp
/-- a list that may be read -/
theorem BV.list {ds : List D} (sub : Same F H) (h : BV K F H w (.list ds)) : ∃ a ws, w = .ref a ∧ Rd H a (.lst ws) ∧ RVs K F ws ds := by
  cases h with
  | fr r =>
    cases r with
    | lst h1 h2 _ => exact ⟨_, _, rfl, rd_mono sub h1, h2⟩
  | ol h1 r _ => exact ⟨_, _, rfl, .inl h1, r⟩
theorem BV.tuple {ds : List D} (sub : Same F H) (h : BV K F H w (.tuple ds)) : ∃ a ws, w = .ref a ∧ SqT K H a ws ∧ RVs K F ws ds ∧ RV K F w (.tuple ds) := by
  cases h with
  | fr r =>
    cases r with
    | tup h1 h2 hz => exact ⟨_, _, rfl, sqT_mono sub h1, h2, .tup h1 h2 hz⟩
theorem BV.len {ds : List D} (h : BV K F H w (.list ds)) : ds.length ≤ sizeLine := by
  cases h with
  | fr r =>
    cases r with
    | lst _ _ z => exact z
  | ol _ _ z => exact z
theorem BV.lenT {ds : List D} (h : BV K F H w (.tuple ds)) : ds.length ≤ sizeLine := by
  cases h with
  | fr r =>
    cases r with
    | tup _ _ z => exact z
theorem BV.int {i : Int} (h : BV K F H w (.int i)) : w = .int i := by
  cases h with
  | fr r => cases r; rfl
theorem BV.bool {i : Bool} (h : BV K F H w (.bool i)) : w = .bl i := by
  cases h with
  | fr r => cases r; rfl
theorem BV.str {i : Str} (h : BV K F H w (.str i)) : w = .str i := by
  cases h with
  | fr r => cases r; rfl
theorem BV.none (h : BV K F H w .none) : w = .non := by
  cases h with
  | fr r => cases r; rfl
end
section
variable {X : Cx} {exc : Nat → Addr} {W : WX} {e a b : Expr} {es : List Expr}
/-- the end of an operation -/
theorem dX_prim {p : Prim} {σ : St} {H : Hp} {Q : VK} {ws : List V} {os : List Opd} {F0 : Hp} (q : dX X.K exc W (fun σ F' H' fp' w' a' env' => Same F0 F' → finE X.K σ F' H' fp' w' a' env') (fun env => match derefs env os with | some ds => R.opt (primS p ds) env | none => .st) σ H Q)
    (h : ∀ F, Same F0 F → All2 (relO X.K σ F) ws os) (hs : ∀ F env fp, Pre X.K F H fp env σ → Same F0 F) : rPn X.K p ws H Q := by
  obtain ⟨F, env, fp, pr, q⟩ := q
  dsimp only at q
  cases e1 : derefs env os with
  | none => rw [e1] at q; exact False.elim q
  | some ds =>
    rw [e1] at q
    simp only [R.opt] at q
    cases e2 : primS p ds with
    | none => rw [e2] at q; exact False.elim q
    | some s =>
      rw [e2] at q
      refine ⟨F, ds, s, pr.sub, BVs.deref pr (h F (hs F env fp pr)) e1, e2, fun w F' H' r => ?_⟩
      obtain ⟨fp', s1, p1⟩ := r.stp pr
      exact q w F' H' fp' s1 fun _ => p1
end
end Dc

/-! Dc: a tuple, once. -/
namespace Dc
open PySem PySem.Spec PyProof.Rows L2 RZ
theorem tupMul1 (l : Addr) (items : Array Value) (n : Nat) (dd : Option Addr) (sl : Array (Option Value)) (u : Tok) :
    Meets (Builtin.«tuple.__mul__» ⟨[.ref l, .int 1 u], []⟩) (fun _ R s => s.heap.get? l = some { cls := .type "tuple", dict := dd, data := .seq items n, slots := sl } ∧ R (.ok (.ret (Value.ref l))) s) :=
  .of_wp fun prog w A R s h => by
    obtain ⟨hp, g, d, tk, os⟩ := s
    obtain ⟨hl, h⟩ := h
    have f1 := AutoSeq1.idx_int
    have c0 : (decide ((1 : Int) < -(2 ^ 63)) || decide ((1 : Int) ≥ 2 ^ 63)) = false := by decide
    have c1 : (items.isEmpty || (1 : Int) == 1) = true := by simp
    wp_walk using wpAny_loadPart' hl
    repeat (first
      | (refine wpAny_ite_false (decide_eq_false (by rw [c0]; exact Bool.false_ne_true)) ?_; wp_walk using wpAny_loadPart' hl)
      | (refine wpAny_ite_true (decide_eq_true c1) ?_; wp_walk using wpAny_loadPart' hl))
    exact ⟨_, rfl, h⟩
theorem tupMul0 (l : Addr) (items : Array Value) (n : Nat) (dd : Option Addr) (sl : Array (Option Value)) (u : Tok) (hi : items.isEmpty = false) :
    Meets (Builtin.«tuple.__mul__» ⟨[.ref l, .int 0 u], []⟩) (fun _ R s => s.heap.get? l = some { cls := .type "tuple", dict := dd, data := .seq items n, slots := sl } ∧
      R (.ok (.ret (Value.ref s.heap.objs.size))) { s with heap := s.heap.push { cls := Value.type "tuple", data := Data.seq #[] }, toks := s.toks }) :=
  .of_wp fun prog w A R s h => by
    obtain ⟨hp, g, d, tk, os⟩ := s
    obtain ⟨hl, h⟩ := h
    have f1 := AutoSeq1.idx_int
    have c0 : (decide ((0 : Int) < -(2 ^ 63)) || decide ((0 : Int) ≥ 2 ^ 63)) = false := by decide
    have c1 : (items.isEmpty || (0 : Int) == 1) = false := by rw [hi]; rfl
    have c2 : (decide ((0 : Int) ≤ 0) || items.isEmpty) = true := rfl
    wp_walk using wpAny_loadPart' hl
    repeat (first
      | (refine wpAny_ite_false (decide_eq_false (by rw [c0]; exact Bool.false_ne_true)) ?_; wp_walk using wpAny_loadPart' hl)
      | (refine wpAny_ite_false (decide_eq_false (by rw [c1]; exact Bool.false_ne_true)) ?_; wp_walk using wpAny_loadPart' hl)
      | (refine wpAny_ite_true (decide_eq_true c2) ?_; wp_walk using wpAny_loadPart' hl))
    exact ⟨_, rfl, h⟩
section
variable {X : Cx}
theorem op_repT0 : OpR X (binaryOp .Mult) (fun x y H Q => ∃ l xs, x = .ref l ∧ y = .int 0 ∧ SqT X.K H l xs ∧ xs ≠ [] ∧ ∀ p, H p = none → Q (.ref p) (upd H p (.tup []))) := by
  intro pins s σ H x y v u Q I rx ry h
  obtain ⟨l, xs, rfl, rfl, hT, hne, q⟩ := h
  cases rx
  obtain ⟨t, rfl⟩ := ry
  obtain ⟨its, r, ⟨⟨cls, dd, data, sl⟩, ho, hc, n, hd⟩, hs⟩ := I.tuple hT
  simp only at hc hd
  subst hc hd
  have hle : its.length = xs.length := r.length.symm
  have hn : its ≠ [] := fun e => hne (by
    rw [e] at hle
    exact List.eq_nil_of_length_eq_zero hle.symm)
  have hi : its.toArray.isEmpty = false := by
    cases its with
    | nil => exact absurd rfl hn
    | cons a b => rfl
  refine wpAny_binaryOp_repeat_ref (T := "tuple") (U := "int") (by decide) ⟨_, ho, rfl⟩ (fun s' => typeIs_int s' 0 t) noFill_tuple_mul F.fills_int_mul F.slot_int_rmul repeat_tuple F.slot_int_index.lookup
    (call_meets F.slot_int_rmul (typeIs_int s 0 t) F.entry_int_rmul (F.args_int_rmul_2 _ _) (int_rmul_tuple 0 t l its.toArray n dd sl)
      ⟨ho, rfl, ⟨_, ho, rfl⟩, call_meets F.slot_tuple_mul ⟨_, ho, rfl⟩ F.entry_tuple_mul (F.args_tuple_mul_2 _ _) (tupMul0 l its.toArray n dd sl t hi) ⟨ho, ?_⟩⟩)
  refine ⟨.ref s.heap.objs.size, _, I.laid (t' := s.toks) (o := .tup []) (fun b ob q => Heap.get?_push_of_some _ q) (Nat.le_refl _) ?_, rfl, q _ (I.hok.fresh (Nat.le_refl _))⟩
  exact ⟨Nat.zero_le _, [], .nil, IsTup.new _ _⟩
theorem op_repT1 : OpR X (binaryOp .Mult) (fun x y H Q => ∃ l xs, x = .ref l ∧ y = .int 1 ∧ SqT X.K H l xs ∧ Q (.ref l) H) := by
  intro pins s σ H x y v u Q I rx ry h
  obtain ⟨l, xs, rfl, rfl, hT, q⟩ := h
  cases rx
  obtain ⟨t, rfl⟩ := ry
  obtain ⟨its, r, ⟨⟨cls, dd, data, sl⟩, ho, hc, n, hd⟩, hs⟩ := I.tuple hT
  simp only at hc hd
  subst hc hd
  exact wpAny_binaryOp_repeat_ref (T := "tuple") (U := "int") (by decide) ⟨_, ho, rfl⟩ (fun s' => typeIs_int s' 1 t) noFill_tuple_mul F.fills_int_mul F.slot_int_rmul repeat_tuple F.slot_int_index.lookup
    (call_meets F.slot_int_rmul (typeIs_int s 1 t) F.entry_int_rmul (F.args_int_rmul_2 _ _) (int_rmul_tuple 1 t l its.toArray n dd sl)
      ⟨ho, rfl, ⟨_, ho, rfl⟩, call_meets F.slot_tuple_mul ⟨_, ho, rfl⟩ F.entry_tuple_mul (F.args_tuple_mul_2 _ _) (tupMul1 l its.toArray n dd sl t) ⟨ho, .ref l, H, I, rfl, q⟩⟩)
end
end Dc

/-! Dc: each operation of the small language is the model's. -/
namespace Dc
open PySem PySem.Spec PyProof.Rows L2
section
variable {α β : Type} {r : β → α → Prop}
theorem All2.one {x : β} {as : List α} (h : All2 r [x] as) : ∃ a, as = [a] ∧ r x a := by
  cases h with
  | cons h t => cases t; exact ⟨_, rfl, h⟩
theorem All2.pair {x y : β} {as : List α} (h : All2 r [x, y] as) : ∃ a b, as = [a, b] ∧ r x a ∧ r y b := by
  cases h with
  | cons h t =>
    obtain ⟨b, rfl, h2⟩ := t.one
    exact ⟨_, b, rfl, h, h2⟩
theorem guard_some {b : Bool} {x : Option Sl} {s : Sl} (h : guard b x = some s) : b = true ∧ x = some s := by
  cases b with
  | true => exact ⟨rfl, h⟩
  | false => cases h
theorem ltI_lex : ∀ a b : List Int, ltI a b = HT.lexLt a b
  | [], [] => rfl
  | [], _ :: _ => rfl
  | _ :: _, [] => rfl
  | x :: xs, y :: ys => by
    rw [HT.lexLt_cons, ← ltI_lex xs ys]
    rfl
end
section
variable {X : Cx} {k : Nat}
abbrev rP2 (X : Cx) (p : Prim) : R2 := fun x y => rPn X.K p [x, y]
theorem Room.u65 {A : Around} (hr : Room k A) : A.units + 65 < cLine := by
  have := hr.un
  omega
/-- a readable list's own object -/
theorem lst_at {pins : List (Addr × Obj)} {σ : St} {H : Hp} {s : Shared} {l : Addr} {xs : List V} (I : Inv X pins σ H s) (h : Rd H l (.lst xs)) :
    ∃ (its : List Value) (n : Nat), Vals xs its ∧ s.heap.get? l = some { cls := .type "list", data := .seq its.toArray n } := by
  obtain ⟨_, its, n, r, e⟩ := h.ok I.hok
  exact ⟨its, n, r, e⟩
theorem add_ok : OpR X (binaryOp .Add) (rP2 X .add) := by
  intro pins s σ H x y v u Q I rx ry ⟨F, ds, sl, sub, bv, e, q⟩
  obtain ⟨d, d2, rfl, h1, h2⟩ := bv.pair
  replace e : addS d d2 = some sl := e
  unfold addS at e
  split at e
  · cases e
    rw [h1.int] at rx
    rw [h2.int] at ry
    exact op_add pins s σ H _ _ v u Q I rx ry ⟨_, _, rfl, rfl, q _ F H (.flat sub (.int _))⟩
  · obtain ⟨g, e⟩ := guard_some e
    cases e
    obtain ⟨a, ws, rfl, r1, t1⟩ := h1.list sub
    obtain ⟨b, zs, rfl, r2, t2⟩ := h2.list sub
    cases rx
    cases ry
    obtain ⟨i1, n1, v1, g1⟩ := lst_at I r1
    obtain ⟨i2, n2, v2, g2⟩ := lst_at I r2
    have hl : ws.length + zs.length ≤ sizeLine := by
      rw [t1.length, t2.length]
      exact of_decide_eq_true g
    have hl2 : i1.toArray.size + i2.toArray.size ≤ sizeLine := by
      rw [List.size_toArray, List.size_toArray, ← v1.length, ← v2.length]
      exact hl
    refine PySem.P.add_list g1 g2 ?_ hl2
    rw [show i1.toArray ++ i2.toArray = (i1 ++ i2).toArray by simp]
    refine ⟨.ref _, _, I.lnew (t' := s.toks) (v1.append v2) (by simpa using hl), rfl, q _ _ _ (.lst sub (t1.append t2) I.fresh (by rw [List.length_append]; exact of_decide_eq_true g))⟩
  · obtain ⟨g, e⟩ := guard_some e
    cases e
    obtain ⟨a, ws, rfl, r1, t1, w1⟩ := h1.tuple sub
    obtain ⟨b, zs, rfl, r2, t2, w2⟩ := h2.tuple sub
    refine op_catA pins s σ H _ _ v u Q I rx ry ⟨a, b, ws, zs, rfl, rfl, r1, r2, by rw [t1.length, t2.length]; exact of_decide_eq_true g, fun z => ?_, fun _ z => ?_, fun _ _ p hp => q _ _ _ (.tup sub (t1.append t2) hp (by rw [List.length_append]; exact of_decide_eq_true g))⟩
    · subst z
      cases t1
      exact q _ F H (.flat sub w2)
    · subst z
      cases t2
      refine q _ F H (.flat sub ?_)
      rw [List.append_nil]
      exact w1
  · obtain ⟨g, e⟩ := guard_some e
    cases e
    rw [h1.str] at rx
    rw [h2.str] at ry
    exact op_add_str pins s σ H _ _ v u Q I rx ry ⟨_, _, rfl, rfl, of_decide_eq_true g, q _ F H (.flat sub (.str _))⟩
  · cases e
theorem sub_ok : OpR X (binaryOp .Sub) (rP2 X .sub) := by
  intro pins s σ H x y v u Q I rx ry ⟨F, ds, sl, sub, bv, e, q⟩
  obtain ⟨d, d2, rfl, h1, h2⟩ := bv.pair
  cases d <;> cases d2 <;> first | (cases e; done) | skip
  cases e
  rw [h1.int] at rx
  rw [h2.int] at ry
  exact op_sub pins s σ H _ _ v u Q I rx ry ⟨_, _, rfl, rfl, q _ F H (.flat sub (.int _))⟩
theorem mod_ok : OpR X (binaryOp .Mod) (rP2 X .mod) := by
  intro pins s σ H x y v u Q I rx ry ⟨F, ds, sl, sub, bv, e, q⟩
  obtain ⟨d, d2, rfl, h1, h2⟩ := bv.pair
  cases d <;> cases d2 <;> first | (cases e; done) | skip
  obtain ⟨g, e⟩ := guard_some e
  cases e
  rw [h1.int] at rx
  rw [h2.int] at ry
  exact op_modN pins s σ H _ _ v u Q I rx ry ⟨_, _, rfl, rfl, of_decide_eq_true g, q _ F H (.flat sub (.int _))⟩
theorem fdiv_ok : OpR X (binaryOp .FloorDiv) (rP2 X .fdiv) := by
  intro pins s σ H x y v u Q I rx ry ⟨F, ds, sl, sub, bv, e, q⟩
  obtain ⟨d, d2, rfl, h1, h2⟩ := bv.pair
  cases d <;> cases d2 <;> first | (cases e; done) | skip
  obtain ⟨g, e⟩ := guard_some e
  cases e
  rw [Bool.and_eq_true] at g
  rw [h1.int] at rx
  rw [h2.int] at ry
  exact op_fdivN pins s σ H _ _ v u Q I rx ry ⟨_, _, rfl, rfl, ⟨of_decide_eq_true g.1, of_decide_eq_true g.2⟩, q _ F H (.flat sub (.int _))⟩
theorem pow_ok : OpR X (binaryOp .Pow) (rP2 X .pow) := by
  intro pins s σ H x y v u Q I rx ry ⟨F, ds, sl, sub, bv, e, q⟩
  obtain ⟨d, d2, rfl, h1, h2⟩ := bv.pair
  cases d <;> cases d2 <;> first | (cases e; done) | skip
  obtain ⟨g, e⟩ := guard_some e
  cases e
  rw [Bool.and_eq_true, Bool.and_eq_true] at g
  rw [h1.int] at rx
  rw [h2.int] at ry
  exact op_pow pins s σ H _ _ v u Q I rx ry ⟨_, _, rfl, rfl, ⟨of_decide_eq_true g.1.1, of_decide_eq_true g.1.2, of_decide_eq_true g.2⟩, q _ F H (.flat sub (.int _))⟩
theorem rep_at {pins : List (Addr × Obj)} {s : Shared} {σ : St} {H : Hp} {l : Addr} {ws : List V} {m : Int} {t : Tok} {Q : VK} (I : Inv X pins σ H s) (r : Rd H l (.lst ws)) (h1 : -(2 ^ 63) ≤ m) (h2 : m < 2 ^ 63)
    (hz : ws.length * m.toNat ≤ sizeLine) (q : ∀ p, H p = none → Q (.ref p) (upd H p (.lst (List.replicate m.toNat ws).flatten))) :
    wpAny (model X.prog X.w) X.A (binaryOp .Mult (.ref l) (.int m t)) (EP X pins σ Q) X.xe s := by
  obtain ⟨is, n, vs, g⟩ := lst_at I r
  have z1 : is.toArray.size * m.toNat ≤ sizeLine := by
    rw [List.size_toArray, ← vs.length]
    exact hz
  have z2 : ¬ is.toArray.size * m.toNat > (2 ^ 63 - 1) / 8 := by
    have : (sizeLine : Nat) ≤ (2 ^ 63 - 1) / 8 := by decide
    omega
  have z3 : ¬ (!Builtin.List.listFitsIndex m) = true := by rw [fitsIndex_both h1 h2]; simp
  have z4 : ¬ Builtin.List.listTooLong (is.toArray.size * m.toNat) = true := by rw [notLongL z1]; simp
  have z5 : List.foldl (fun x1 x2 => x1 ++ x2) #[] (List.replicate (if is.toArray.isEmpty = true then 0 else m.toNat) is.toArray) = (List.replicate m.toNat is).flatten.toArray := by
    cases is with
    | nil => simp
    | cons a rest =>
      rw [if_neg (by simp)]
      have := foldl_rep (a :: rest) m.toNat []
      simpa using this
  have g1 : s.heap.get? l = some { cls := .type "list", data := .seq is.toArray n } := g
  have ty : s.TypeIs (.ref l) "list" := ⟨_, g, rfl⟩
  refine wpAny_binaryOp_repeat_ref (T := "list") (U := "int") (by decide) ty (fun s' => typeIs_int s' m t) noFill_list_mul F.fills_int_mul F.slot_int_rmul repeat_list F.slot_int_index.lookup ?_
  refine call_meets F.slot_int_rmul (typeIs_int s m t) F.entry_int_rmul (F.args_int_rmul_2 _ _) (int___rmul___int_list m t l is.toArray n) ?_
  refine ⟨g, rfl, ty, ?_⟩
  refine call_meets F.slot_list_mul ty F.entry_list_mul (F.args_list_mul_2 _ _) (AutoListH.list___mul___list_int_3 l is.toArray n m t z3 z2 z4) ?_
  refine ⟨g, ?_⟩
  rw [z5]
  have lz : (List.replicate m.toNat ws).flatten.length ≤ sizeLine := by
    rw [PyProof.Rows.lm_len_rep_flat, Nat.mul_comm]
    exact hz
  exact ⟨.ref _, _, I.lnew (t' := s.toks) (vs.rep m.toNat) lz, rfl, q _ I.fresh⟩
theorem small64_ok {i : Int} (h : small64 i = true) : -(2 ^ 64) < i ∧ i < 2 ^ 64 := by
  unfold small64 at h
  rw [Bool.and_eq_true] at h
  exact ⟨of_decide_eq_true h.1, of_decide_eq_true h.2⟩
theorem mul_ok : OpR X (binaryOp .Mult) (rP2 X .mul) := by
  intro pins s σ H x y v u Q I rx ry ⟨F, ds, sl, sub, bv, e, q⟩
  obtain ⟨d, d2, rfl, h1, h2⟩ := bv.pair
  replace e : mulS d d2 = some sl := e
  unfold mulS at e
  split at e
  · obtain ⟨g, e⟩ := guard_some e
    cases e
    rw [h1.int] at rx
    rw [h2.int] at ry
    refine op_mul pins s σ H _ _ v u Q I rx ry ⟨_, _, rfl, rfl, ?_, q _ F H (.flat sub (.int _))⟩
    rw [Bool.or_eq_true] at g
    exact g.imp small64_ok small64_ok
  · obtain ⟨g, e⟩ := guard_some e
    cases e
    rw [Bool.and_eq_true, Bool.and_eq_true] at g
    obtain ⟨a, ws, rfl, r1, t1⟩ := h1.list sub
    rw [h2.int] at ry
    cases rx
    obtain ⟨t, rfl⟩ := ry
    refine rep_at I r1 (of_decide_eq_true g.1.1) (of_decide_eq_true g.1.2) (by rw [t1.length]; exact of_decide_eq_true g.2) fun p hp => q _ _ _ (.lst sub (t1.rep _) hp (by rw [← (t1.rep _).length, PyProof.Rows.lm_len_rep_flat, Nat.mul_comm, t1.length]; exact of_decide_eq_true g.2))
  · obtain ⟨g, e⟩ := guard_some e
    cases e
    rename_i xs kk
    rw [Bool.and_eq_true, Bool.and_eq_true, Bool.and_eq_true] at g
    have g1 : 0 ≤ kk := of_decide_eq_true g.1.1.2
    have g2 : kk ≤ 1000 := of_decide_eq_true g.1.2
    have g3 : xs.length ≤ 1000 := of_decide_eq_true g.2
    obtain ⟨a, ws, rfl, r1, t1, w1⟩ := h1.tuple sub
    rw [h2.int] at ry
    have hn : ws ≠ [] := fun e => by
      have z := t1.length
      rw [e] at z
      cases xs with
      | nil => cases g.1.1.1
      | cons x xs => cases z
    by_cases h0 : kk = 0
    · subst h0
      exact op_repT0 pins s σ H _ _ v u Q I rx ry ⟨a, ws, rfl, rfl, r1, hn, fun p hp => q _ _ _ (.tup sub .nil hp (Nat.zero_le _))⟩
    by_cases hk : kk = 1
    · subst hk
      have er : (List.replicate (Int.toNat 1) xs).flatten = xs := by
        show (List.replicate 1 xs).flatten = xs
        simp
      rw [er] at q
      exact op_repT1 pins s σ H _ _ v u Q I rx ry ⟨a, ws, rfl, rfl, r1, q _ _ _ (.flat sub w1)⟩
    · refine op_repT pins s σ H _ _ v u Q I rx ry ⟨a, kk, ws, rfl, rfl, r1, hn, by omega, g2, by rw [t1.length]; exact g3, fun p hp => q _ _ _ (.tup sub (t1.rep _) hp ?_)⟩
      rw [← (t1.rep _).length, PyProof.Rows.lm_len_rep_flat, t1.length, sizeLine_eq]
      have a1 : kk.toNat * xs.length ≤ 1000 * 1000 := Nat.mul_le_mul (by omega) g3
      omega
  · cases e
/-! comparisons -/
theorem eq_ok (hr : Room k X.A) : OpR X (compareOp .Eq) (rP2 X .eq) := by
  intro pins s σ H x y v u Q I rx ry ⟨F, ds, sl, sub, bv, e, q⟩
  obtain ⟨d, d2, rfl, h1, h2⟩ := bv.pair
  obtain ⟨g, e⟩ := guard_some (show eqS d d2 = some sl from e)
  cases e
  rw [Bool.and_eq_true] at g
  exact op_eqD hr.units pins s σ H _ _ v u Q I rx ry ⟨d, d2, h1.dp sub, h2.dp sub, g.1, g.2, q _ F H (.flat sub (.bl _))⟩
theorem ne_ok (hr : Room k X.A) : OpR X (compareOp .NotEq) (rP2 X .ne) := by
  intro pins s σ H x y v u Q I rx ry ⟨F, ds, sl, sub, bv, e, q⟩
  obtain ⟨d, d2, rfl, h1, h2⟩ := bv.pair
  obtain ⟨g, e⟩ := guard_some (show neS d d2 = some sl from e)
  cases e
  rw [Bool.and_eq_true] at g
  exact op_neD hr.units pins s σ H _ _ v u Q I rx ry ⟨d, d2, h1.dp sub, h2.dp sub, g.1, g.2, q _ F H (.flat sub (.bl _))⟩
theorem lt_ok (hr : Room k X.A) : OpR X (compareOp .Lt) (rP2 X .lt) := by
  intro pins s σ H x y v u Q I rx ry ⟨F, ds, sl, sub, bv, e, q⟩
  obtain ⟨d, d2, rfl, h1, h2⟩ := bv.pair
  replace e : ltS d d2 = some sl := e
  unfold ltS at e
  split at e
  · cases e
    rw [h1.int] at rx
    rw [h2.int] at ry
    exact op_lt pins s σ H _ _ v u Q I rx ry ⟨_, _, rfl, rfl, q _ F H (.flat sub (.bl _))⟩
  · split at e
    · rename_i l1 l2 e1 e2
      cases e
      obtain ⟨a, ws, rfl, r1, t1, _⟩ := h1.tuple sub
      obtain ⟨b, zs, rfl, r2, t2, _⟩ := h2.tuple sub
      obtain ⟨z1, _⟩ := t1.ints e1
      obtain ⟨z2, _⟩ := t2.ints e2
      subst z1 z2
      exact op_ltT hr.units0 pins s σ H _ _ v u Q I rx ry ⟨a, b, l1, l2, rfl, rfl, r1, r2, by rw [← ltI_lex]; exact q _ F H (.flat sub (.bl _))⟩
    · cases e
  · cases e
theorem gt_ok : OpR X (compareOp .Gt) (rP2 X .gt) := by
  intro pins s σ H x y v u Q I rx ry ⟨F, ds, sl, sub, bv, e, q⟩
  obtain ⟨d, d2, rfl, h1, h2⟩ := bv.pair
  cases d <;> cases d2 <;> first | (cases e; done) | skip
  cases e
  rw [h1.int] at rx
  rw [h2.int] at ry
  exact op_gt pins s σ H _ _ v u Q I rx ry ⟨_, _, rfl, rfl, q _ F H (.flat sub (.bl _))⟩
theorem le_ok : OpR X (compareOp .LtE) (rP2 X .le) := by
  intro pins s σ H x y v u Q I rx ry ⟨F, ds, sl, sub, bv, e, q⟩
  obtain ⟨d, d2, rfl, h1, h2⟩ := bv.pair
  cases d <;> cases d2 <;> first | (cases e; done) | skip
  cases e
  rw [h1.int] at rx
  rw [h2.int] at ry
  exact op_le pins s σ H _ _ v u Q I rx ry ⟨_, _, rfl, rfl, q _ F H (.flat sub (.bl _))⟩
theorem isB2_ok : OpR X (compareOp .Is) (rP2 X .isB2) := by
  intro pins s σ H x y v u Q I rx ry ⟨F, ds, sl, sub, bv, e, q⟩
  obtain ⟨d, d2, rfl, h1, h2⟩ := bv.pair
  cases d <;> cases d2 <;> first | (cases e; done) | skip
  cases e
  rw [h1.bool] at rx
  rw [h2.bool] at ry
  exact op_isBl pins s σ H _ _ v u Q I rx ry ⟨_, _, rfl, rfl, q _ F H (.flat sub (.bl _))⟩
theorem notB2_ok : OpR X (compareOp .IsNot) (rP2 X .notB2) := by
  intro pins s σ H x y v u Q I rx ry ⟨F, ds, sl, sub, bv, e, q⟩
  obtain ⟨d, d2, rfl, h1, h2⟩ := bv.pair
  cases d <;> cases d2 <;> first | (cases e; done) | skip
  cases e
  rw [h1.bool] at rx
  rw [h2.bool] at ry
  exact op_notBl pins s σ H _ _ v u Q I rx ry ⟨_, _, rfl, rfl, q _ F H (.flat sub (.bl _))⟩
theorem ge_ok : OpR X (compareOp .GtE) (rP2 X .ge) := by
  intro pins s σ H x y v u Q I rx ry ⟨F, ds, sl, sub, bv, e, q⟩
  obtain ⟨d, d2, rfl, h1, h2⟩ := bv.pair
  cases d <;> cases d2 <;> first | (cases e; done) | skip
  cases e
  rw [h1.int] at rx
  rw [h2.int] at ry
  exact op_ge pins s σ H _ _ v u Q I rx ry ⟨_, _, rfl, rfl, q _ F H (.flat sub (.bl _))⟩
theorem in_ok (hr : Room k X.A) : OpR X (compareOp .In) (rP2 X .isin) := by
  intro pins s σ H x y v u Q I rx ry ⟨F, ds, sl, sub, bv, e, q⟩
  obtain ⟨d, d2, rfl, h1, h2⟩ := bv.pair
  replace e : inS false d d2 = some sl := e
  unfold inS at e
  split at e
  · rename_i xs e1
    obtain ⟨g, e⟩ := guard_some e
    cases e
    rw [Bool.and_eq_true] at g
    obtain ⟨as, r1⟩ := Dp.reads I d x v (h1.dp sub) rx
    obtain ⟨bs, r2⟩ := Dp.reads I d2 y u (h2.dp sub) ry
    cases d2 <;> cases e1
    · exact SeqAt.in_list_reads r2 r1 (SeqAt.canLay_of_shaped g.2) (SeqAt.canLay_of_shaped g.1) (room_in_shaped g.1 (Room.u65 hr)) ⟨.bl _, H, I, rfl, q _ F H (by simpa using Res.flat sub (.bl _))⟩
    · exact SeqAt.in_tuple_reads r2 r1 (SeqAt.canLay_of_shaped g.2) (SeqAt.canLay_of_shaped g.1) (room_in_shaped g.1 (Room.u65 hr)) ⟨.bl _, H, I, rfl, q _ F H (by simpa using Res.flat sub (.bl _))⟩
  · cases d <;> cases d2 <;> first | (cases e; done) | skip
    cases e
    rw [h1.str] at rx
    rw [h2.str] at ry
    exact op_in_str pins s σ H _ _ v u Q I rx ry ⟨_, _, rfl, rfl, q _ F H (by simpa using Res.flat sub (.bl _))⟩
theorem notin_ok (hr : Room k X.A) : OpR X (compareOp .NotIn) (rP2 X .notin) := by
  intro pins s σ H x y v u Q I rx ry ⟨F, ds, sl, sub, bv, e, q⟩
  obtain ⟨d, d2, rfl, h1, h2⟩ := bv.pair
  replace e : inS true d d2 = some sl := e
  unfold inS at e
  split at e
  · rename_i xs e1
    obtain ⟨g, e⟩ := guard_some e
    cases e
    rw [Bool.and_eq_true] at g
    obtain ⟨as, r1⟩ := Dp.reads I d x v (h1.dp sub) rx
    obtain ⟨bs, r2⟩ := Dp.reads I d2 y u (h2.dp sub) ry
    cases d2 <;> cases e1
    · exact SeqAt.notIn_list_reads r2 r1 (SeqAt.canLay_of_shaped g.2) (SeqAt.canLay_of_shaped g.1) (room_in_shaped g.1 (Room.u65 hr)) ⟨.bl _, H, I, rfl, q _ F H (by simpa using Res.flat sub (.bl _))⟩
    · exact SeqAt.notIn_tuple_reads r2 r1 (SeqAt.canLay_of_shaped g.2) (SeqAt.canLay_of_shaped g.1) (room_in_shaped g.1 (Room.u65 hr)) ⟨.bl _, H, I, rfl, q _ F H (by simpa using Res.flat sub (.bl _))⟩
  · cases d <;> cases d2 <;> first | (cases e; done) | skip
    cases e
    rw [h1.str] at rx
    rw [h2.str] at ry
    exact op_notin_str pins s σ H _ _ v u Q I rx ry ⟨_, _, rfl, rfl, q _ F H (by simpa using Res.flat sub (.bl _))⟩
/-! items, slices -/
theorem place_ix (n : Nat) (i : Int) : place n i = ixN n i := rfl
theorem item_ok : IxR X (rP2 X .item) := by
  intro ve se pins s σ H x y v u Q I rx ry ⟨F, ds, sl, sub, bv, e, q⟩ hpl
  obtain ⟨d, d2, rfl, h1, h2⟩ := bv.pair
  replace e : itemS d d2 = some sl := e
  unfold itemS at e
  split at e
  · rename_i xs i
    rw [Option.map_eq_some_iff] at e
    obtain ⟨z, e, rfl⟩ := e
    rw [Option.bind_eq_some_iff] at e
    obtain ⟨j, e1, e2⟩ := e
    obtain ⟨a, ws, rfl, r1, t1⟩ := h1.list sub
    obtain ⟨w, e3, rw⟩ := t1.get e2
    rw [h2.int] at ry
    refine ix_list ve se pins s σ H _ _ v u Q I rx ry ⟨a, ws, i, w, rfl, rfl, .inl r1, ?_, q _ F H (.flat sub rw)⟩ hpl
    unfold atI
    rw [← place_ix, t1.length, e1]
    exact e3
  · rename_i xs i
    rw [Option.map_eq_some_iff] at e
    obtain ⟨z, e, rfl⟩ := e
    rw [Option.bind_eq_some_iff] at e
    obtain ⟨j, e1, e2⟩ := e
    obtain ⟨a, ws, rfl, r1, t1, _⟩ := h1.tuple sub
    obtain ⟨w, e3, rw⟩ := t1.get e2
    rw [h2.int] at ry
    refine ix_tup ve se pins s σ H _ _ v u Q I rx ry ⟨a, ws, i, w, rfl, rfl, r1, ?_, q _ F H (.flat sub rw)⟩ hpl
    unfold atI
    rw [← place_ix, t1.length, e1]
    exact e3
  · rename_i z i
    obtain ⟨g, e2⟩ := guard_some e
    rw [Option.map_eq_some_iff] at e2
    obtain ⟨c, e3, rfl⟩ := e2
    rw [h1.str] at rx
    rw [h2.int] at ry
    exact ix_str ve se pins s σ H _ _ v u Q I rx ry ⟨z, i, c, rfl, rfl, of_decide_eq_true g, e3, q _ F H (.flat sub (.str _))⟩ hpl
  · cases e
theorem clip_ix (n d : Nat) (o : Option Int) : clip n d o = HT.sIx n d o := by cases o <;> rfl
theorem cut_len {α : Type} (xs : List α) (lo hi : Option Int) : (cut xs lo hi).length ≤ xs.length := by
  unfold cut
  rw [List.length_take, List.length_drop]
  omega
theorem RVs.cut {K : PySem.W.Frag} {F : Hp} {ws : List V} {ds : List D} (h : RVs K F ws ds) (lo hi : Option Int) : RVs K F (Dc.cut ws lo hi) (Dc.cut ds lo hi) := by
  unfold Dc.cut
  rw [h.length]
  exact (h.drop _).take _
/-- what a slice asks -/
def rSlP (K : PySem.W.Frag) : V → Option Int → Option Int → Hp → VK → Prop := fun x lo hi H Q =>
  ∃ F d s, Same F H ∧ BV K F H x d ∧ sliceS lo hi d = some s ∧ ∀ w F' H', Res K F H w s F' H' → Q w H'
theorem slice_ok : SlR X (rSlP X.K) := by
  intro pins s σ H x v vl vu lo hi sl Q I rx hs pl pu ⟨F, d, r, sub, bv, e, q⟩
  unfold sliceS at e
  have ec : ∀ (ws : List V), cutV ws lo hi = cut ws lo hi := fun ws => by
    unfold cutV cut
    rw [clip_ix, clip_ix]
  split at e
  · cases e
    obtain ⟨a, ws, rfl, r1, t1⟩ := bv.list sub
    exact sl_list pins s σ H _ v vl vu lo hi sl Q I rx hs pl pu ⟨a, ws, rfl, .inl r1, fun p hp => by rw [ec]; exact q _ _ _ (.lst sub (t1.cut lo hi) hp (Nat.le_trans (cut_len _ _ _) bv.len))⟩
  · cases e
    obtain ⟨a, ws, rfl, r1, t1, w1⟩ := bv.tuple sub
    refine sl_tupA pins s σ H _ v vl vu lo hi sl Q I rx hs pl pu ⟨a, ws, rfl, r1, fun z => ?_, fun _ p hp => by rw [ec]; exact q _ _ _ (.tup sub (t1.cut lo hi) hp (Nat.le_trans (cut_len _ _ _) bv.lenT))⟩
    rename_i xs
    have hx : cut xs lo hi = xs := by
      unfold cut
      rw [clip_ix, clip_ix, ← t1.length, z.1, z.2, List.drop_zero, Nat.sub_zero, t1.length, List.take_length]
    rw [hx] at q
    exact q _ F H (.flat sub w1)
  · rename_i z
    obtain ⟨g, e⟩ := guard_some e
    cases e
    rw [bv.str] at rx
    refine sl_str pins s σ H _ v vl vu lo hi sl Q I rx hs pl pu ⟨z, rfl, of_decide_eq_true g, ?_⟩
    have hz : cutS z lo hi = ⟨(cut z.cps.toList lo hi).toArray⟩ := by
      unfold cutS cut
      rw [clip_ix, clip_ix]
      first | rfl | simp
    rw [hz]
    exact q _ F H (.flat sub (.str _))
  · cases e
end
end Dc

/-! Dc: built-in functions. -/
namespace Dc
open PySem PySem.Spec PyProof.Rows L2
section
variable {X : Cx} {k : Nat}
theorem oneS_of {K : PySem.W.Frag} {F H : Hp} {p : Prim} {xs : List V} {ds : List D} {sl : Sl} {x : V} (hx : xs = [x]) (bv : All2 (BV K F H) xs ds) (e : primS p ds = some sl) : ∃ d, ds = [d] ∧ BV K F H x d ∧ oneS p d = some sl := by
  subst hx
  obtain ⟨d, rfl, h⟩ := bv.one
  exact ⟨d, rfl, h, e⟩
/-- a builtin of one argument, by values -/
def CallP (X : Cx) (f : Value) (p : Prim) : Prop :=
  ∀ (pins : List (Addr × Obj)) (s : Shared) (σ : St) (H : Hp) (x : V) (u : Value) (Q : VK) (F : Hp) (d : D) (sl : Sl), L2.Inv X pins σ H s → RelV x u → Same F H → BV X.K F H x d → oneS p d = some sl → (∀ w F' H', Res X.K F H w sl F' H' → Q w H') →
    wpAny (model X.prog X.w) X.A (call f [u]) (EP X pins σ Q) X.xe s
theorem CallP.ok {f : Value} {p : Prim} (h : CallP X f p) : CallR X f (fun xs H Q => xs.length = 1 ∧ rPn X.K p xs H Q) := by
  intro pins s σ H xs us Q I rv ⟨hl, F, ds, sl, sub, bv, e, q⟩
  obtain ⟨x, rfl⟩ : ∃ x, xs = [x] := by
    match xs, hl with
    | [x], _ => exact ⟨x, rfl⟩
  obtain ⟨d, rfl, h1, e1⟩ := oneS_of rfl bv e
  obtain ⟨u, rfl, ru⟩ := vals1 rv
  exact h pins s σ H x u Q F d sl I ru sub h1 e1 q
theorem len_ok : CallP X (.builtin "len") .len := by
  intro pins s σ H x u Q F d sl I ru sub bv e q
  cases d with
  | list xs =>
    cases e
    obtain ⟨a, ws, rfl, r1, t1⟩ := bv.list sub
    exact call_len pins s σ H [_] [u] Q I (.cons ru .nil) ⟨_, xs.length, rfl, .inl ⟨ws, .inl r1, t1.length.symm⟩, q _ F H (.flat sub (.int _))⟩
  | tuple xs =>
    cases e
    obtain ⟨a, ws, rfl, r1, t1, _⟩ := bv.tuple sub
    exact call_len pins s σ H [_] [u] Q I (.cons ru .nil) ⟨_, xs.length, rfl, .inr ⟨ws, r1, t1.length.symm⟩, q _ F H (.flat sub (.int _))⟩
  | str z =>
    obtain ⟨g, e⟩ := guard_some e
    cases e
    rw [bv.str] at ru
    exact call_len pins s σ H [_] [u] Q I (.cons ru .nil) ⟨_, z.length, rfl, ⟨of_decide_eq_true g, rfl⟩, q _ F H (.flat sub (.int _))⟩
  | _ => cases e
theorem sum_tup {prog : Program} {w : World} {A : Around} {E : Value → Shared → Prop} {s : Shared} {l : Addr} {is : List Value} {ns : List Int} {Q : Value → Shared → Prop} (hh : A.handled = none) (hl : s.heap.IsTuple l is.toArray) (hi : IntsAre is ns)
    (h : ∀ h' tk t', (∀ b o, s.heap.get? b = some o → h'.get? b = some o) → Q (.int ns.sum t') { s with heap := h', toks := tk }) : wpAny (model prog w) A (call (.builtin "sum") [.ref l]) Q E s := by
  obtain ⟨xs, e⟩ := hi.allInts.items
  have hn : numsOf (intItems xs).toList = ns := by
    rw [← e]
    exact hi.numsOf
  rw [nums_intItems] at hn
  rw [e] at hl
  have hlt : l < s.heap.objs.size := by
    obtain ⟨_, e2, _⟩ := hl
    exact Heap.lt_size e2
  refine call_sum_walkG (wpAny_pyIter_tuple hl ?_)
  refine ⟨_, _, _, _, _, _, numAt xs, rfl, Walks.tuple (A := A.in1) hh _ l (Nat.ne_of_lt hlt) (intItems xs), ⟨⟨_, Heap.get?_push_size _ rfl, rfl, rfl⟩, hl.push _⟩, fun b hb => ?_, fun _ _ => intItems_at, fun h' tk t' hk => ?_⟩
  · show b < (s.heap.push _).objs.size
    rw [Heap.size_push]
    rcases List.mem_cons.mp hb with rfl | hb
    · exact Nat.lt_succ_self _
    · obtain rfl : b = l := by simpa using hb
      exact Nat.lt_succ_of_lt hlt
  · have := h h' tk t' fun b o eb => hk b o (by
      intro m
      obtain rfl : b = s.heap.objs.size := by simpa using m
      exact Nat.lt_irrefl _ (Heap.lt_size eb)) (Heap.get?_push_of_some _ eb)
    have hs : preSum (numAt xs) (intItems xs).size = ns.sum := by
      rw [preSum_eq, List.take_of_length_le (by simp [intItems]), hn]
    rw [hs]
    exact this
theorem sum_ok (hc : X.calm = true) : CallP X (.builtin "sum") .sum := by
  intro pins s σ H x u Q F d sl I ru sub bv e q
  replace e : ((seqOf d).bind fun xs => (intsOf xs).bind fun l => i2 l.sum) = some sl := e
  cases d with
  | list xs =>
    replace e : ((intsOf xs).bind fun l => i2 l.sum) = some sl := e
    cases ei : intsOf xs with
    | none => rw [ei] at e; cases e
    | some l =>
      rw [ei] at e
      cases e
      obtain ⟨a, ws, rfl, r1, t1⟩ := bv.list sub
      obtain ⟨z1, _⟩ := t1.ints ei
      subst z1
      exact cr_sum hc pins s σ H [_] [u] Q I (.cons ru .nil) ⟨a, l, rfl, .inl r1, q _ F H (.flat sub (.int _))⟩
  | tuple xs =>
    replace e : ((intsOf xs).bind fun l => i2 l.sum) = some sl := e
    cases ei : intsOf xs with
    | none => rw [ei] at e; cases e
    | some l =>
      rw [ei] at e
      cases e
      obtain ⟨a, ws, rfl, r1, t1, _⟩ := bv.tuple sub
      obtain ⟨z1, _⟩ := t1.ints ei
      subst z1
      obtain ⟨its, rv, p, _⟩ := I.tuple r1
      cases ru
      exact sum_tup (I.ok.hd hc) (show s.heap.IsTuple a its.toArray from p) rv.ints fun h' tk t' hk => ⟨.int _, H, I.kept hk, ⟨_, rfl⟩, q _ F H (.flat sub (.int _))⟩
  | _ => cases e
theorem tuple_ok : CallP X (.type "tuple") .tuple := by
  intro pins s σ H x u Q F d sl I ru sub bv e q
  cases d with
  | list xs =>
    cases e
    obtain ⟨a, ws, rfl, r1, t1⟩ := bv.list sub
    exact call_tuple_of pins s σ H [_] [u] Q I (.cons ru .nil) ⟨a, ws, rfl, .inl ⟨.inl r1, fun p hp => q _ _ _ (.tup sub t1 hp bv.len)⟩⟩
  | tuple xs =>
    cases e
    obtain ⟨a, ws, rfl, r1, t1, w1⟩ := bv.tuple sub
    exact call_tuple_of pins s σ H [_] [u] Q I (.cons ru .nil) ⟨a, ws, rfl, .inr ⟨r1, q _ _ _ (.flat sub w1)⟩⟩
  | _ => cases e
theorem list_ok : CallP X (.type "list") .list := by
  intro pins s σ H x u Q F d sl I ru sub bv e q
  cases d with
  | list xs =>
    cases e
    obtain ⟨a, ws, rfl, r1, t1⟩ := bv.list sub
    exact call_list_of pins s σ H [_] [u] Q I (.cons ru .nil) ⟨a, ws, rfl, .inl (.inl r1), fun p hp => q _ _ _ (.lst sub t1 hp bv.len)⟩
  | tuple xs =>
    cases e
    obtain ⟨a, ws, rfl, r1, t1, w1⟩ := bv.tuple sub
    exact call_list_of pins s σ H [_] [u] Q I (.cons ru .nil) ⟨a, ws, rfl, .inr r1, fun p hp => q _ _ _ (.lst sub t1 hp bv.lenT)⟩
  | _ => cases e
theorem all_ok (hc : X.calm = true) : CallP X (.builtin "all") .all := by
  intro pins s σ H x u Q F d sl I ru sub bv e q
  cases d with
  | list xs =>
    replace e : ((boolsOf xs).bind fun l => b2 (l.all id)) = some sl := e
    cases ei : boolsOf xs with
    | none => rw [ei] at e; cases e
    | some l =>
      rw [ei] at e
      cases e
      obtain ⟨a, ws, rfl, r1, t1⟩ := bv.list sub
      have z1 := t1.bools ei
      subst z1
      exact cr_all hc pins s σ H [_] [u] Q I (.cons ru .nil) ⟨a, l, rfl, .inl r1, q _ F H (.flat sub (.bl _))⟩
  | _ => cases e
theorem any_ok (hc : X.calm = true) : CallP X (.builtin "any") .any := by
  intro pins s σ H x u Q F d sl I ru sub bv e q
  cases d with
  | list xs =>
    replace e : ((boolsOf xs).bind fun l => b2 (l.any id)) = some sl := e
    cases ei : boolsOf xs with
    | none => rw [ei] at e; cases e
    | some l =>
      rw [ei] at e
      cases e
      obtain ⟨a, ws, rfl, r1, t1⟩ := bv.list sub
      have z1 := t1.bools ei
      subst z1
      exact cr_any hc pins s σ H [_] [u] Q I (.cons ru .nil) ⟨a, l, rfl, .inl r1, q _ F H (.flat sub (.bl _))⟩
  | _ => cases e
theorem int_ok : CallP X (.type "int") .int := by
  intro pins s σ H x u Q F d sl I ru sub bv e q
  cases d with
  | int i =>
    cases e
    rw [bv.int] at ru
    exact call_int1 pins s σ H [_] [u] Q I (.cons ru .nil) (.inl ⟨i, rfl, q _ F H (.flat sub (.int _))⟩)
  | bool b =>
    cases e
    rw [bv.bool] at ru
    exact call_int1 pins s σ H [_] [u] Q I (.cons ru .nil) (.inr ⟨b, rfl, q _ F H (.flat sub (.int _))⟩)
  | str z =>
    obtain ⟨g, e⟩ := guard_some (show guard (decide (z.length ≤ 640)) ((PySem.intText? z).bind i2) = some sl from e)
    rw [Option.bind_eq_some_iff] at e
    obtain ⟨n, en, e⟩ := e
    cases e
    rw [bv.str] at ru
    exact call_int_str pins s σ H [_] [u] Q I (.cons ru .nil) ⟨z, n, rfl, en, of_decide_eq_true g, q _ F H (.flat sub (.int _))⟩
  | _ => cases e
theorem str_ok : CallP X (.type "str") .str := by
  intro pins s σ H x u Q F d sl I ru sub bv e q
  cases d with
  | int i =>
    obtain ⟨g, e⟩ := guard_some (show strS i = some sl from e)
    cases e
    rw [bv.int] at ru
    exact call_str_int pins s σ H [_] [u] Q I (.cons ru .nil) ⟨i, rfl, of_decide_eq_true g, q _ F H (.flat sub (.str _))⟩
  | _ => cases e
/-- what kind of thing data is -/
def kindS : D → String
  | .none => "NoneType"
  | .bool _ => "bool"
  | .int _ => "int"
  | .str _ => "str"
  | .list _ => "list"
  | .tuple _ => "tuple"
  | .dict _ => "dict"
theorem tyX_of {K : PySem.W.Frag} {F H : Hp} {x : V} {d : D} (sub : Same F H) (bv : BV K F H x d) : TyX K H x (.type (kindS d)) := by
  cases bv with
  | fr r =>
    cases r with
    | non => exact .base .non
    | bl b => exact .base (.bl _)
    | int i => exact .base (.int _)
    | str z => exact .base (.str _)
    | lst h t _ =>
      rcases rd_mono sub h with h | ⟨o, h⟩
      · exact .base (.lst h)
      · exact .base (.frz h)
    | tup h t _ =>
      rcases sqT_mono sub h with (h | ⟨o, h⟩) | ⟨o, its, n, h1, h2, _⟩
      · exact .base (.tup h)
      · exact .fTuple h
      · exact .kTuple h1 h2
  | ol h t _ => exact .base (.lst h)
def isKind (t : String) (d : D) : Bool := kindS d == t || (t == "int" && kindS d == "bool")
def kinds : List String := ["NoneType", "bool", "int", "str", "list", "tuple"]
theorem kit_all : ∀ a ∈ kinds, ∀ t ∈ ["int", "bool", "tuple", "list", "str"], kitB a t = some (a == t || (t == "int" && a == "bool")) := by decide +kernel
theorem kind_in {K : PySem.W.Frag} {F H : Hp} {x : V} {d : D} (bv : BV K F H x d) : kindS d ∈ kinds := by
  cases bv with
  | fr r => cases r <;> simp [kindS, kinds]
  | ol h t _ => simp [kindS, kinds]
def isP : String → Prim
  | "int" => .isInt
  | "bool" => .isBool
  | "tuple" => .isTup
  | "list" => .isList
  | _ => .isStr
theorem isP_eq (d : D) : ∀ t ∈ ["int", "bool", "tuple", "list", "str"], oneS (isP t) d = b2 (isKind t d) := by
  intro t ht
  simp only [List.mem_cons, List.not_mem_nil, or_false] at ht
  rcases ht with rfl | rfl | rfl | rfl | rfl <;> cases d <;> rfl
theorem isi_ok {t : String} (ht : t ∈ ["int", "bool", "tuple", "list", "str"]) (pins : List (Addr × Obj)) (s : Shared) (σ : St) (H : Hp) (x : V) (us : List Value) (Q : VK) (F : Hp) (d : D) (sl : Sl) (I : L2.Inv X pins σ H s) (ru : Vals [x, .ty t] us) (sub : Same F H) (bv : BV X.K F H x d)
    (e : oneS (isP t) d = some sl) (q : ∀ w F' H', Res X.K F H w sl F' H' → Q w H') : wpAny (model X.prog X.w) X.A (call (.builtin "isinstance") us) (EP X pins σ Q) X.xe s := by
  rw [isP_eq d t ht] at e
  cases e
  refine call_isi pins s σ H _ us Q I ru ⟨x, .ty t, .type (kindS d), .type t, isKind t d, rfl, .ty t, tyX_of sub bv, kit_ty (kit_all _ (kind_in bv) t ht), q _ F H (.flat sub (.bl _))⟩
/-! two arguments -/
theorem min2_ok (hc : X.calm = true) : CallR X (.builtin "min") (fun xs H Q => xs.length = 2 ∧ rPn X.K .min2 xs H Q) := by
  intro pins s σ H xs us Q I rv ⟨hl, F, ds, sl, sub, bv, e, q⟩
  obtain ⟨x, y, rfl⟩ : ∃ x y, xs = [x, y] := by
    match xs, hl with
    | [x, y], _ => exact ⟨x, y, rfl⟩
  obtain ⟨d, d2, rfl, h1, h2⟩ := bv.pair
  cases d <;> cases d2 <;> first | (cases e; done) | skip
  cases e
  have z1 := h1.int
  have z2 := h2.int
  subst z1 z2
  exact call_min2 hc pins s σ H _ us Q I rv ⟨_, _, rfl, q _ F H (.flat sub (.int _))⟩
theorem max2_ok (hc : X.calm = true) : CallR X (.builtin "max") (fun xs H Q => xs.length = 2 ∧ rPn X.K .max2 xs H Q) := by
  intro pins s σ H xs us Q I rv ⟨hl, F, ds, sl, sub, bv, e, q⟩
  obtain ⟨x, y, rfl⟩ : ∃ x y, xs = [x, y] := by
    match xs, hl with
    | [x, y], _ => exact ⟨x, y, rfl⟩
  obtain ⟨d, d2, rfl, h1, h2⟩ := bv.pair
  cases d <;> cases d2 <;> first | (cases e; done) | skip
  cases e
  have z1 := h1.int
  have z2 := h2.int
  subst z1 z2
  exact call_max2 hc pins s σ H _ us Q I rv ⟨_, _, rfl, q _ F H (.flat sub (.int _))⟩
end
end Dc

/-! Dc: sorted. -/
namespace Dc
open PySem PySem.Spec PyProof.Rows L2
theorem le_total : PySem.W.TotalLe (PySem.W.dataLe false (id : D → D)) := PySem.W.sortLe_total _ false _
theorem insK_at (x : D) : ∀ (l1 l2 : List D), (∀ b ∈ l1, (!PySem.W.dataLe false id x b) = true) → (∀ b ∈ l2, PySem.W.dataLe false id x b = true) → insK x (l1 ++ l2) = l1 ++ x :: l2
  | [], [], _, _ => rfl
  | [], y :: ys, _, h => by
    show (match PySem.W.dataLe false id x y with | true => x :: y :: ys | false => y :: insK x ys) = x :: y :: ys
    rw [h y List.mem_cons_self]
  | y :: ys, l2, h1, h2 => by
    have z := h1 y List.mem_cons_self
    have e : PySem.W.dataLe false id x y = false := by
      cases q : PySem.W.dataLe false id x y with
      | false => rfl
      | true => rw [q] at z; cases z
    show (match PySem.W.dataLe false id x y with | true => x :: y :: (ys ++ l2) | false => y :: insK x (ys ++ l2)) = _
    rw [e]
    show y :: insK x (ys ++ l2) = _
    rw [insK_at x ys l2 (fun b m => h1 b (List.mem_cons_of_mem _ m)) h2]
    rfl
theorem sortD_eq : ∀ ds : List D, sortD ds = ds.mergeSort (PySem.W.dataLe false id)
  | [] => by
    rw [List.mergeSort_nil]
    rfl
  | x :: xs => by
    obtain ⟨l1, l2, e1, e2, e3⟩ := List.mergeSort_cons (le := PySem.W.dataLe false (id : D → D)) le_total.trans (fun a b => by rw [Bool.or_eq_true]; exact le_total.total a b) x xs
    show insK x (sortD xs) = _
    rw [sortD_eq xs, e1, e2]
    have p := List.pairwise_mergeSort (le := PySem.W.dataLe false (id : D → D)) le_total.trans (fun a b => by rw [Bool.or_eq_true]; exact le_total.total a b) (x :: xs)
    rw [e1] at p
    have p2 := (List.pairwise_append.mp p).2.1
    exact insK_at x l1 l2 e3 fun b m => (List.pairwise_cons.mp p2).1 b m
section
variable {prog : Program} {w : World} {A : Around} {E : Value → Shared → Prop} {s : Shared}
/-- sorted of a list or a tuple whose items read as data -/
theorem sorted_seq {Rr : Value → D → Prop} {l : Addr} {T : String} {o : Obj} {vs : List Value} {n : Nat} {ds : List D} {Q : Value → Shared → Prop} (hT : T = "list" ∨ T = "tuple") (ho : s.heap.get? l = some o) (hc : o.cls = .type T) (hd : o.data = .seq vs.toArray n)
    (e : PySem.W.EachIs Rr vs ds) (er : PySem.W.EachIs (fun v d => ∃ as, Reads s.heap v d as) vs ds) (hal : PySem.W.AllAlike ds) (hk : PySem.W.Sortable ds) (hL : ds.length ≤ sizeLine) (hu : ∀ d, d ∈ ds → A.units + 2 + d.depth < cLine)
    (h : ∀ (out : List Value) (h1 h' : Heap) (ep : Nat), PySem.W.EachIs Rr out (sortD ds) → (∀ b u, s.heap.get? b = some u → h1.get? b = some u) → (∀ b u, h1.get? b = some u → h'.get? b = some u) → h'.get? h1.objs.size = some { cls := .type "list", data := .seq (List.toArray out) ep } → Q (.ref h1.objs.size) { s with heap := h' }) :
    wpAny (model prog w) A (call (.builtin "sorted") [.ref l]) Q E s := by
  have hlen : vs.length = ds.length := e.length
  refine Calls.call_function_entry kind_sorted plain_sorted entry_sorted (args_sorted1 _) ?_
  unfold Builtin.«sorted»
  refine wpAny_bind (m := checkCount "sorted" 1 1 _) (wpAny_pure ?_)
  refine wpAny_bind (wpAny_collect_seq l hT ho hc hd (fun h1 hk1 => ?_) (by rw [List.size_toArray, hlen]; exact hL))
  rw [List.toList_toArray]
  refine wpAny_bind (wpAny_newList ?_ (by rw [hlen]; exact hL))
  have ha : (h1.push { cls := .type "list", data := .seq vs.toArray }).get? h1.objs.size = some (seqObj "list" vs.toArray 0) := Heap.get?_push_size _ rfl
  have k2 : ∀ b u, h1.get? b = some u → (h1.push { cls := .type "list", data := .seq vs.toArray }).get? b = some u := fun b u q => Heap.get?_push_of_some _ q
  have ne : ∀ b u, h1.get? b = some u → b ≠ h1.objs.size := fun b u q => Nat.ne_of_lt (Heap.lt_size q)
  have er2 : PySem.W.EachIs (fun v d => ∃ as, Reads (PySem.W.sortingHeap (h1.push { cls := .type "list", data := .seq vs.toArray }) h1.objs.size vs) v d as) vs ds :=
    er.mono fun _ _ ⟨as, r⟩ => ⟨as, PyProof.Rows.Reads.keeps (fun b u q => PySem.W.sortingHeap_old (ne b u (hk1 b u q)) (k2 b u (hk1 b u q))) r⟩
  have er3 : PySem.W.EachIs (fun v d => ∃ as, Reads (PySem.W.sortingHeap (h1.push { cls := .type "list", data := .seq vs.toArray }) h1.objs.size vs) v (id d) as) vs ds := er2
  have hal2 : PySem.W.AllAlike (ds.map id) := by
    rw [List.map_id]
    exact hal
  have S : PySem.W.SortsAt prog w A.in1.in1 { s with heap := PySem.W.sortingHeap (h1.push { cls := .type "list", data := .seq vs.toArray }) h1.objs.size vs } (PySem.W.dataKind (PySem.W.sortingHeap (h1.push { cls := .type "list", data := .seq vs.toArray }) h1.objs.size vs) ds) vs :=
    PySem.W.SortsAt.data (s := { s with heap := PySem.W.sortingHeap (h1.push { cls := .type "list", data := .seq vs.toArray }) h1.objs.size vs }) er2 hal hk fun d hd => hu d hd
  refine wpAny_bind (wpAny_holding (wpAny_call_entry slot_list_sort ⟨_, ha, rfl⟩ entry_list_sort (PySem.W.list_sort_vals (s := { s with heap := h1.push { cls := .type "list", data := .seq vs.toArray } }) ha S (by rw [hlen]; exact hL) ⟨_, rfl, ?_⟩) (args_list_sort _)))
  refine wpAny_pure ⟨_, rfl, ?_⟩
  generalize hz : PySem.W.sortVals (PySem.W.dataKind (PySem.W.sortingHeap (h1.push { cls := .type "list", data := .seq vs.toArray }) h1.objs.size vs) ds) false vs vs = out
  have eo : PySem.W.EachIs Rr out (sortD ds) := by
    have z := PySem.W.sortVals_data (enc := id) (bs := ds) false e er3 hal2
    rw [List.map_id, hz] at z
    rw [sortD_eq]
    exact z
  obtain ⟨ep, hat⟩ := sortedHeap_at (out := out.toArray) ha
  refine h out h1 _ ep eo hk1 (fun b u q => ?_) hat
  rw [sortedHeap_old (ne b u q) (by rw [Heap.size_push]; exact Nat.lt_succ_of_lt (Heap.lt_size q))]
  exact k2 b u q
end
theorem depth_self (d : D) (ds : List D) (h : ds.all (fun d => decide (d.depth ≤ 64)) = true) (m : d ∈ ds) : d.depth ≤ 64 := of_decide_eq_true (List.all_eq_true.mp h d m)
theorem sortOk_of {ds : List D} (h : sortOk ds = true) : PySem.W.AllAlike ds ∧ PySem.W.Sortable ds ∧ ∀ d ∈ ds, d.depth ≤ 64 := by
  unfold sortOk at h
  rw [Bool.and_eq_true, Bool.and_eq_true, Bool.or_eq_true] at h
  obtain ⟨⟨h1, h2⟩, h3⟩ := h
  refine ⟨fun d hd e he => List.all_eq_true.mp (List.all_eq_true.mp h1 d hd) e he, ?_, fun d m => depth_self d ds h3 m⟩
  rcases h2 with h2 | h2
  · refine .inl fun d hd => ?_
    have z := List.all_eq_true.mp h2 d hd
    split at z
    · exact ⟨_, _, rfl⟩
    · cases z
  · refine .inr fun d hd => ?_
    have z := List.all_eq_true.mp h2 d hd
    split at z
    · exact ⟨(fun q => by cases q), (fun xs q => by cases q)⟩
    · cases z
section
variable {X : Cx} {k : Nat}
/-- a value that stands for data -/
def Stands (K : PySem.W.Frag) (F : Hp) (v : Value) (d : D) : Prop := ∃ x, RelV x v ∧ RV K F x d
theorem stands_of {K : PySem.W.Frag} {F : Hp} : ∀ {ws : List V} {ds : List D} {us : List Value}, RVs K F ws ds → Vals ws us → PySem.W.EachIs (Stands K F) us ds
  | _, _, _, .nil, .nil => .nil
  | _, _, _, .cons h t, .cons r q => .cons ⟨_, r, h⟩ (stands_of t q)
theorem of_stands {K : PySem.W.Frag} {F : Hp} : ∀ {us : List Value} {ds : List D}, PySem.W.EachIs (Stands K F) us ds → ∃ ws, Vals ws us ∧ RVs K F ws ds
  | _, _, .nil => ⟨[], .nil, .nil⟩
  | _, _, .cons ⟨x, r, h⟩ t => by
    obtain ⟨ws, q1, q2⟩ := of_stands t
    exact ⟨x :: ws, .cons r q1, .cons h q2⟩
theorem reads_of {pins : List (Addr × Obj)} {σ : St} {F H : Hp} {s : Shared} (I : L2.Inv X pins σ H s) (sub : Same F H) {ws : List V} {ds : List D} {us : List Value} (h : RVs X.K F ws ds) (v : Vals ws us) : PySem.W.EachIs (fun v d => ∃ as, Reads s.heap v d as) us ds := by
  obtain ⟨as, r⟩ := Dp.readsAll I ds ws us (h.mono sub).dp v
  have z := PySem.W.readsAll_each (enc := id) (bs := ds) (vs := us) (as := as) (h := s.heap) (by rw [List.map_id]; exact r)
  exact z
theorem sorted_core {pins : List (Addr × Obj)} {s : Shared} {σ : St} {H : Hp} {Q : VK} {F : Hp} {l : Addr} {T : String} {o : Obj} {n : Nat} {ws : List V} {is : List Value} {ds : List D} (hr : Room k X.A) (I : L2.Inv X pins σ H s) (sub : Same F H) (hT : T = "list" ∨ T = "tuple") (ho : s.heap.get? l = some o)
    (hc : o.cls = .type T) (hd : o.data = .seq is.toArray n) (t : RVs X.K F ws ds) (v : Vals ws is) (g : sortOk ds = true) (hL : ds.length ≤ sizeLine) (q : ∀ w F' H', Res X.K F H w (.ol (sortD ds)) F' H' → Q w H') :
    wpAny (model X.prog X.w) X.A (call (.builtin "sorted") [.ref l]) (EP X pins σ Q) X.xe s := by
  obtain ⟨g1, g2, g3⟩ := sortOk_of g
  refine sorted_seq hT ho hc hd (stands_of t v) (reads_of I sub t v) g1 g2 hL (fun d m => ?_) fun out h1 h' ep eo k1 k2 hat => ?_
  · have := g3 d m
    have := Room.u65 hr
    have := hr.un
    omega
  · obtain ⟨zs, v2, t2⟩ := of_stands eo
    have I1 : L2.Inv X pins σ H { s with heap := h1 } := I.kept (t' := s.toks) k1
    have hn : zs.length ≤ sizeLine := by
      rw [t2.length]
      rw [sortD_eq]
      rw [(List.mergeSort_perm _ _).length_eq]
      exact hL
    exact ⟨.ref h1.objs.size, _, I1.laid (o := .lst zs) (t' := s.toks) k2 (Nat.le_refl _) ⟨hn, out, ep, v2, hat⟩, rfl, q _ _ _ (.lst sub t2 (I1.hok.fresh (Nat.le_refl _)) (by rw [← t2.length]; exact hn))⟩
theorem sorted_ok (hr : Room k X.A) : CallP X (.builtin "sorted") .sorted := by
  intro pins s σ H x u Q F d sl I ru sub bv e q
  replace e : ((seqOf d).bind fun xs => Dc.guard (sortOk xs && decide (xs.length ≤ sizeLine)) (some (.ol (sortD xs)))) = some sl := e
  cases d with
  | list xs =>
    obtain ⟨g, e⟩ := guard_some e
    cases e
    rw [Bool.and_eq_true] at g
    obtain ⟨a, ws, rfl, r1, t1⟩ := bv.list sub
    obtain ⟨is, n, v, ho⟩ := lst_at I r1
    cases ru
    exact sorted_core hr I sub (.inl rfl) ho rfl rfl t1 v g.1 (of_decide_eq_true g.2) q
  | tuple xs =>
    obtain ⟨g, e⟩ := guard_some e
    cases e
    rw [Bool.and_eq_true] at g
    obtain ⟨a, ws, rfl, r1, t1, _⟩ := bv.tuple sub
    obtain ⟨is, v, ⟨o, ho, hc, n, hd⟩, _⟩ := I.tuple r1
    cases ru
    exact sorted_core hr I sub (.inr rfl) ho hc hd t1 v g.1 (of_decide_eq_true g.2) q
  | _ => cases e
end
end Dc

/-! Dc: expressions. -/
namespace Dc
open PySem PySem.Spec PyProof.Rows L2
theorem R.bind_assoc {α β γ : Type} (x : R α) (f : α → Env → R β) (g : β → Env → R γ) : (x.bind f).bind g = x.bind fun a e => (f a e).bind g := by cases x <;> rfl
/-- an operation's meaning -/
def primE (p : Prim) (g : Env → R (List Opd)) : Env → R Sl := fun env => (g env).bind fun os env1 => match derefs env1 os with
  | some ds => R.opt (primS p ds) env1
  | none => .st
def andE (f : Env → R Bool) (g : Env → R Sl) : Env → R Sl := fun env => (f env).bind fun c env1 => match c with
  | true => g env1
  | false => .ok (.fr (.bool false)) env1
def orE (f : Env → R Bool) (g : Env → R Sl) : Env → R Sl := fun env => (f env).bind fun c env1 => match c with
  | true => .ok (.fr (.bool true)) env1
  | false => g env1
def notE (f : Env → R Bool) : Env → R Sl := fun env => (f env).bind fun c env1 => .ok (.fr (.bool !c)) env1
def iteE (f : Env → R Bool) (g h : Env → R Sl) : Env → R Sl := fun env => (f env).bind fun c env1 => match c with
  | true => g env1
  | false => h env1
def chainE (p q : Prim) (f g h : Env → R D) : Env → R Sl := fun env => (f env).bind fun x env1 => (g env1).bind fun y env2 =>
  (fz (R.opt (primS p [x, y])) env2).bind fun d env3 => (asBool d env3).bind fun k env4 => match k with
    | true => (h env4).bind fun z env5 => R.opt (primS q [y, z]) env5
    | false => .ok (.fr (.bool false)) env4
section
variable {X : Cx} {exc : Nat → Addr} {W : WX} {e a b c : Expr} {es : List Expr} {k : Nat}
def relBl : St → Hp → V → Bool → Prop := fun _ _ w b => w = .bl b
theorem dX_strong {α β : Type} {fin fin' : St → Hp → Hp → List Addr → β → α → Env → Prop} {f : Env → R α} {K : PySem.W.Frag} {σ : St} {H : Hp} {Q : β → Hp → Prop} (h : dX K exc W fin f σ H Q) (i : ∀ F' H' fp' w a env', fin' σ F' H' fp' w a env' → fin σ F' H' fp' w a env') : dX K exc W fin' f σ H Q :=
  dX_end h fun w F' H' fp' a env' r k => k w (i _ _ _ _ _ _ r)
theorem two_split {α : Type} {rel : St → Hp → V → α → Prop} {f : Env → R α} {g : Env → R (List α)} (m : Mono rel) {K : PySem.W.Frag} {σ : St} {H : Hp} {T : List V → Hp → Prop} (q : dG K exc W (relL rel) (two f g) σ H T) :
    dG K exc W rel f σ H fun x H1 => dG K exc W (relL rel) g σ H1 fun xs H2 => T (x :: xs) H2 := by
  refine dX_bind q fun w H1 F1 a r q1 => ?_
  refine dX_bind q1 fun ws H2 F2 as r2 q2 => ?_
  exact dX_ok (w := w :: ws) q2 fun F fp env p s1 s2 => ⟨p, .cons (m _ _ _ _ _ s2 r) (mono_L m _ _ _ _ _ s1 r2)⟩
theorem nil_split {α : Type} {rel : St → Hp → V → α → Prop} {K : PySem.W.Frag} {σ : St} {H : Hp} {T : List V → Hp → Prop} (q : dG K exc W (relL rel) (fun env => .ok [] env) σ H T) : T [] H :=
  dX_ok q fun F fp env p => ⟨p, .nil⟩
theorem dX_primE {p : Prim} {g : Env → R (List Opd)} {K : PySem.W.Frag} {σ : St} {H : Hp} {Q : VK} (q : dE K exc W (primE p g) σ H Q) : dG K exc W (relL (relO K)) g σ H (fun ws H1 => rPn K p ws H1 Q) := by
  obtain ⟨F, env, fp, pr, q⟩ := q
  refine ⟨F, env, fp, pr, ?_⟩
  unfold primE at q
  cases e1 : g env with
  | st => rw [e1] at q; exact q
  | er c env' => rw [e1] at q; exact q
  | ok os env1 =>
    rw [e1] at q
    intro ws F1 H1 fp1 s1 ⟨p1, r1⟩
    dsimp only [R.bind] at q
    cases e2 : derefs env1 os with
    | none => rw [e2] at q; exact False.elim q
    | some ds =>
      rw [e2] at q
      dsimp only [R.opt] at q
      cases e3 : primS p ds with
      | none => rw [e3] at q; exact False.elim q
      | some s =>
        rw [e3] at q
        refine ⟨F1, ds, s, p1.sub, BVs.deref p1 r1 e2, e3, fun w F' H' r => ?_⟩
        obtain ⟨fp', s2, p2⟩ := r.stp p1
        exact q w F' H' fp' (s1.trans s2) p2
def nilO : Env → R (List Opd) := fun env => .ok [] env
theorem snd_bin {fa fb : Env → R Opd} {op : Operator} {pos : Pos} {p : Prim} (hop : OpR X (binaryOp op) (rP2 X p)) (ha : PE X a (eO X exc W fa)) (hb : PE X b (eO X exc W fb)) : PE X (.BinOp a op b pos) (eE X exc W (primE p (two fa (two fb nilO)))) := by
  refine PE.imp (pe_op hop ha hb) fun σ H Q q => ?_
  refine dX_end (two_split mono_O (dX_primE q)) fun x F1 H1 fp1 o1 env1 r k => k x r |> fun q1 => ?_
  exact dX_end (two_split mono_O q1) fun y F2 H2 fp2 o2 env2 r2 k2 => nil_split (k2 y r2)
theorem snd_cmp {fa fb : Env → R Opd} {op : CmpOp} {pos : Pos} {p : Prim} (hop : OpR X (compareOp op) (rP2 X p)) (ha : PE X a (eO X exc W fa)) (hb : PE X b (eO X exc W fb)) (hm : behindInMarks op b = false) :
    PE X (.Compare a [op] [b] pos) (eE X exc W (primE p (two fa (two fb nilO)))) := by
  refine PE.imp (pe_cmpR hop ha hb hm) fun σ H Q q => ?_
  refine dX_end (two_split mono_O (dX_primE q)) fun x F1 H1 fp1 o1 env1 r k => k x r |> fun q1 => ?_
  exact dX_end (two_split mono_O q1) fun y F2 H2 fp2 o2 env2 r2 k2 => nil_split (k2 y r2)
/-- from a value to its truth, where the value's rule is known -/
theorem tst_split {f : Env → R Sl} {K : PySem.W.Frag} {σ : St} {H : Hp} {Q : Bool → Hp → Prop} (q : dG K exc W relB (tst f) σ H Q) : dE K exc W f σ H fun x H' => ∃ k, x = .bl k ∧ Q k H' := by
  obtain ⟨F, env, fp, p, q⟩ := q
  refine ⟨F, env, fp, p, ?_⟩
  unfold tst fz at q
  cases e : f env with
  | st => rw [e] at q; exact q
  | er c env' => rw [e] at q; exact q
  | ok s env1 =>
    rw [e] at q
    intro w F' H' fp' s' p'
    dsimp only [R.bind, frz] at q
    cases ed : toD s with
    | none => rw [ed] at q; exact False.elim q
    | some d =>
      rw [ed] at q
      obtain ⟨F1, fp1, s1, p1, r1⟩ := Pre.still p' ed
      cases d with
      | bool b =>
        cases r1
        exact ⟨b, rfl, q b F1 H' fp1 (s'.trans s1) ⟨p1, rfl⟩⟩
      | _ => exact False.elim q
theorem snd_cmpT {fa fb : Env → R Opd} {op : CmpOp} {pos : Pos} {p : Prim} (hop : OpR X (compareOp op) (rP2 X p)) (ha : PE X a (eO X exc W fa)) (hb : PE X b (eO X exc W fb)) (hm : behindInMarks op b = false) :
    PT X (.Compare a [op] [b] pos) (eB X exc W (tst (primE p (two fa (two fb nilO))))) := by
  refine PT.imp (pt_cmpR hop ha hb hm) fun σ H Q q => ?_
  have q := tst_split q
  refine dX_end (two_split mono_O (dX_primE q)) fun x F1 H1 fp1 o1 env1 r k => k x r |> fun q1 => ?_
  exact dX_end (two_split mono_O q1) fun y F2 H2 fp2 o2 env2 r2 k2 => nil_split (k2 y r2)
/-! and, or, not, if -/
theorem snd_bl {f : Env → R Sl} (h : PE X e (eE X exc W f)) : PE X e (dG X.K exc W relBl (tst f)) := by
  refine PE.imp h fun σ H Q q => ?_
  have q1 : dG X.K exc W relB (tst f) σ H fun b H1 => Q (.bl b) H1 := dX_end q fun w' F' H' fp' a env' r k => k _ ⟨r.1, by rw [r.2]; rfl⟩
  exact dX_end (tst_split q1) fun w F' H' fp' a env' r k => by
    obtain ⟨b, rfl, z⟩ := k w r
    exact z
theorem snd_and {op} {f : Env → R Sl} {g : Env → R Sl} {rest : List Expr} {pos : Pos} (ho : op = .And) (ha : PE X a (eE X exc W f)) (hb : PE X (.BoolOp op (b :: rest) pos) (eE X exc W g)) : PE X (.BoolOp op (a :: b :: rest) pos) (eE X exc W (andE (tst f) g)) := by
  subst ho
  refine PE.imp (pe_and (snd_bl ha) hb) fun σ H Q q => ?_
  refine dX_bind q fun w H1 F1 c r q1 => ⟨c, r, ?_⟩
  cases c with
  | true =>
    rw [if_pos rfl]
    exact dX_strong q1 fun F' H' fp' w a env' p _ => p
  | false =>
    rw [if_neg Bool.false_ne_true]
    exact dX_ok (w := .bl false) q1 fun F fp env p _ => ⟨p.sub, EnvOk.cons (f1 := []) (.fr (.bl _)) p.env, p.nd⟩
theorem snd_or {op} {f : Env → R Sl} {g : Env → R Sl} {rest : List Expr} {pos : Pos} (ho : op = .Or) (ha : PE X a (eE X exc W f)) (hb : PE X (.BoolOp op (b :: rest) pos) (eE X exc W g)) : PE X (.BoolOp op (a :: b :: rest) pos) (eE X exc W (orE (tst f) g)) := by
  subst ho
  refine PE.imp (pe_or (snd_bl ha) hb) fun σ H Q q => ?_
  refine dX_bind q fun w H1 F1 c r q1 => ⟨c, r, ?_⟩
  cases c with
  | true =>
    rw [if_pos rfl]
    exact dX_ok (w := .bl true) q1 fun F fp env p _ => ⟨p.sub, EnvOk.cons (f1 := []) (.fr (.bl _)) p.env, p.nd⟩
  | false =>
    rw [if_neg Bool.false_ne_true]
    exact dX_strong q1 fun F' H' fp' w a env' p _ => p
theorem snd_not {f : Env → R Sl} {pos : Pos} (ha : PE X a (eE X exc W f)) : PE X (.UnaryOp .Not a pos) (eE X exc W (notE (tst f))) := by
  refine PE.imp (pe_not (snd_bl ha)) fun σ H Q q => ?_
  refine dX_bind q fun w H1 F1 c r q1 => ⟨c, r, ?_⟩
  exact dX_ok (w := .bl !c) q1 fun F fp env p _ => ⟨p.sub, EnvOk.cons (f1 := []) (.fr (.bl _)) p.env, p.nd⟩
theorem snd_ite {f g h : Env → R Sl} {pos : Pos} (hc : PT X c (eB X exc W (tst f))) (ha : PE X a (eE X exc W g)) (hb : PE X b (eE X exc W h)) : PE X (.IfExp c a b pos) (eE X exc W (iteE (tst f) g h)) := by
  refine PE.imp (pe_ifExp hc ha hb) fun σ H Q q => ?_
  refine dX_bind q fun w H1 F1 c r q1 => ?_
  cases r
  cases w with
  | true =>
    rw [if_pos rfl]
    exact dX_strong q1 fun F' H' fp' w a env' p _ => p
  | false =>
    rw [if_neg Bool.false_ne_true]
    exact dX_strong q1 fun F' H' fp' w a env' p _ => p
/-! tests -/
theorem tst_and (f g : Env → R Sl) : tst (andE (tst f) g) = fun env => (tst f env).bind fun c env1 => match c with | true => tst g env1 | false => .ok false env1 := by
  funext env
  show ((((tst f env).bind _).bind frz).bind asBool) = _
  rw [R.bind_assoc, R.bind_assoc]
  cases tst f env with
  | ok c env1 =>
    cases c with
    | true =>
      show ((g env1).bind fun a e => (frz a e).bind asBool) = ((g env1).bind frz).bind asBool
      rw [R.bind_assoc]
    | false => rfl
  | er c env1 => rfl
  | st => rfl
theorem tst_or (f g : Env → R Sl) : tst (orE (tst f) g) = fun env => (tst f env).bind fun c env1 => match c with | true => .ok true env1 | false => tst g env1 := by
  funext env
  show ((((tst f env).bind _).bind frz).bind asBool) = _
  rw [R.bind_assoc, R.bind_assoc]
  cases tst f env with
  | ok c env1 =>
    cases c with
    | true => rfl
    | false =>
      show ((g env1).bind fun a e => (frz a e).bind asBool) = ((g env1).bind frz).bind asBool
      rw [R.bind_assoc]
  | er c env1 => rfl
  | st => rfl
theorem tst_not (f : Env → R Sl) : tst (notE (tst f)) = fun env => (tst f env).bind fun c env1 => .ok (!c) env1 := by
  funext env
  show ((((tst f env).bind _).bind frz).bind asBool) = _
  rw [R.bind_assoc, R.bind_assoc]
  cases tst f env with
  | ok c env1 => cases c <;> rfl
  | er c env1 => rfl
  | st => rfl
theorem sndT_and1 {f : Env → R Sl} {pos : Pos} (ha : PT X a (eB X exc W (tst f))) : PW X (.BoolOp .And [a] pos) (eB X exc W (tst f)) := pw_and1 ha
theorem sndT_or1 {f : Env → R Sl} {pos : Pos} (ha : PT X a (eB X exc W (tst f))) : PW X (.BoolOp .Or [a] pos) (eB X exc W (tst f)) := pw_or1 ha
theorem PW.imp {t t' : TT} (h : PW X e t) (i : ∀ σ H Q, t' σ H Q → t σ H Q) : PW X e t' := ⟨fun wh pins s σ H Q I q => h.run wh pins s σ H Q I (i σ H Q q)⟩
theorem sndT_and {f g : Env → R Sl} {rest : List Expr} {pos : Pos} (ha : PT X a (eB X exc W (tst f))) (hb : PW X (.BoolOp .And (b :: rest) pos) (eB X exc W (tst g))) : PW X (.BoolOp .And (a :: b :: rest) pos) (eB X exc W (tst (andE (tst f) g))) := by
  refine PW.imp (pw_and ha hb) fun σ H Q q => ?_
  rw [tst_and] at q
  refine dX_bind q fun w H1 F1 c r q1 => ?_
  cases r
  cases w with
  | true =>
    rw [if_pos rfl]
    exact dX_strong q1 fun F' H' fp' w a env' p _ => p
  | false =>
    rw [if_neg Bool.false_ne_true]
    exact dX_ok (w := false) q1 fun F fp env p _ => ⟨p, rfl⟩
theorem sndT_or {f g : Env → R Sl} {rest : List Expr} {pos : Pos} (ha : PT X a (eB X exc W (tst f))) (hb : PW X (.BoolOp .Or (b :: rest) pos) (eB X exc W (tst g))) : PW X (.BoolOp .Or (a :: b :: rest) pos) (eB X exc W (tst (orE (tst f) g))) := by
  refine PW.imp (pw_or ha hb) fun σ H Q q => ?_
  rw [tst_or] at q
  refine dX_bind q fun w H1 F1 c r q1 => ?_
  cases r
  cases w with
  | true =>
    rw [if_pos rfl]
    exact dX_ok (w := true) q1 fun F fp env p _ => ⟨p, rfl⟩
  | false =>
    rw [if_neg Bool.false_ne_true]
    exact dX_strong q1 fun F' H' fp' w a env' p _ => p
theorem sndT_not {f : Env → R Sl} {pos : Pos} (ha : PT X a (eB X exc W (tst f))) : PT X (.UnaryOp .Not a pos) (eB X exc W (tst (notE (tst f)))) := by
  refine PT.imp (pt_not ha) fun σ H Q q => ?_
  rw [tst_not] at q
  refine dX_bind q fun w H1 F1 c r q1 => ?_
  cases r
  exact dX_ok (w := !w) q1 fun F fp env p _ => ⟨p, rfl⟩
/-! a reading from a known state -/
def dY (K : PySem.W.Frag) (exc : Nat → Addr) (W : WX) {α β : Type} (fin : St → Hp → Hp → List Addr → β → α → Env → Prop) (f : Env → R α) (σ : St) (H : Hp) (Q : β → Hp → Prop) (F : Hp) (env : Env) (fp : List Addr) : Prop :=
  Pre K F H fp env σ ∧ RQ (fun a env' => ∀ w F' H' fp', Stp F H fp F' H' fp' → fin σ F' H' fp' w a env' → Q w H')
    (fun c env' => ∀ F' H' fp', Stp F H fp F' H' fp' → Pre K F' H' fp' env' σ → W (.ref (exc c)) none σ H') (f env)
theorem dY.x {α β : Type} {fin : St → Hp → Hp → List Addr → β → α → Env → Prop} {f : Env → R α} {K : PySem.W.Frag} {σ : St} {H : Hp} {Q : β → Hp → Prop} {F : Hp} {env : Env} {fp : List Addr} (h : dY K exc W fin f σ H Q F env fp) : dX K exc W fin f σ H Q := ⟨F, env, fp, h⟩
theorem dY_bind {α β α' β' : Type} {rel : St → Hp → β → α → Prop} {fin : St → Hp → Hp → List Addr → β' → α' → Env → Prop} {f : Env → R α} {g : α → Env → R α'} {K : PySem.W.Frag} {σ : St} {H : Hp} {Q : β' → Hp → Prop} {T : β → Hp → Prop} {F : Hp} {env : Env} {fp : List Addr}
    (h : dY K exc W fin (fun env => (f env).bind g) σ H Q F env fp)
    (k : ∀ w H1 F1 env1 fp1 a, Stp F H fp F1 H1 fp1 → rel σ F1 w a → dY K exc W fin (g a) σ H1 Q F1 env1 fp1 → T w H1) : dG K exc W rel f σ H T := by
  obtain ⟨p, q⟩ := h
  dsimp only at q
  refine ⟨F, env, fp, p, ?_⟩
  cases e : f env with
  | st => rw [e] at q; exact q
  | er c env' => rw [e] at q; exact q
  | ok a1 env1 =>
    rw [e] at q
    intro w F1 H1 fp1 s1 ⟨p1, r1⟩
    refine k w H1 F1 env1 fp1 a1 s1 r1 ⟨p1, ?_⟩
    dsimp only [R.bind] at q
    cases e2 : g a1 env1 with
    | st => rw [e2] at q; exact q
    | er c env' => rw [e2] at q; exact fun F' H' fp' s2 p2 => q F' H' fp' (s1.trans s2) p2
    | ok a2 env2 => rw [e2] at q; exact fun w' F' H' fp' s2 p2 => q w' F' H' fp' (s1.trans s2) p2
theorem dY_ok {α β : Type} {fin : St → Hp → Hp → List Addr → β → α → Env → Prop} {a : α} {K : PySem.W.Frag} {σ : St} {H : Hp} {Q : β → Hp → Prop} {w : β} {F : Hp} {env : Env} {fp : List Addr}
    (h : dY K exc W fin (fun env => .ok a env) σ H Q F env fp) (k : Pre K F H fp env σ → fin σ F H fp w a env) : Q w H := h.2 w F H fp .refl (k h.1)
/-- an operation on values that are known -/
theorem dY_prim {p : Prim} {ds : List D} {ws : List V} {K : PySem.W.Frag} {σ : St} {H : Hp} {Q : VK} {F : Hp} {env : Env} {fp : List Addr} (h : dY K exc W (finE K) (R.opt (primS p ds)) σ H Q F env fp) (r : All2 (BV K F H) ws ds) : rPn K p ws H Q := by
  obtain ⟨p1, q⟩ := h
  dsimp only [R.opt] at q
  cases e3 : primS p ds with
  | none => rw [e3] at q; exact False.elim q
  | some s =>
    rw [e3] at q
    refine ⟨F, ds, s, p1.sub, r, e3, fun w F' H' r => ?_⟩
    obtain ⟨fp', s2, p2⟩ := r.stp p1
    exact q w F' H' fp' s2 p2
theorem RQ.mono {α : Type} {ok ok' : α → Env → Prop} {er er' : Nat → Env → Prop} {r : R α} (h : RQ ok er r) (h1 : ∀ a e, ok a e → ok' a e) (h2 : ∀ c e, er c e → er' c e) : RQ ok' er' r := by
  cases r with
  | ok a e => exact h1 a e h
  | er c e => exact h2 c e h
  | st => exact h
theorem chain_core {f g h : Env → R D} {p q : Prim} {σ : St} {H : Hp} {Q : VK} (z : eE X exc W (chainE p q f g h) σ H Q) : tChain (rP2 X p) (rP2 X q) (eD X exc W f) (eD X exc W g) (eD X exc W h) σ H Q := by
  obtain ⟨F, env, fp, z⟩ := z
  refine dY_bind z fun x H1 F1 env1 fp1 d1 s1 r1 z1 => ?_
  refine dY_bind z1 fun y H2 F2 env2 fp2 d2 s2 r2 z2 => ?_
  obtain ⟨p2, z2⟩ := z2
  have r1' := mono_D σ _ _ _ _ s2.same r1
  dsimp only [fz, R.opt] at z2
  cases e3 : primS p [d1, d2] with
  | none => rw [e3] at z2; exact False.elim z2
  | some s =>
    rw [e3] at z2
    refine ⟨F2, [d1, d2], s, p2.sub, .cons (.fr r1') (.cons (.fr r2) .nil), e3, fun w F' H' r => ?_⟩
    obtain ⟨fp', s3, p3⟩ := r.stp p2
    dsimp only [R.bind, frz, R.opt] at z2
    cases ed : toD s with
    | none => rw [ed] at z2; exact False.elim z2
    | some d3 =>
      rw [ed] at z2
      obtain ⟨F3, fp3, s4, p4, r4⟩ := Pre.still p3 ed
      cases d3 with
      | bool kk =>
        cases r4
        refine ⟨kk, rfl, ?_⟩
        have s34 := s3.trans s4
        cases kk with
        | false =>
          rw [if_neg Bool.false_ne_true]
          exact z2 (.bl false) F3 H' fp3 s34 ⟨p4.sub, EnvOk.cons (f1 := []) (.fr (.bl _)) p4.env, p4.nd⟩
        | true =>
          rw [if_pos rfl]
          have z4 : dY X.K exc W (finE X.K) (fun env4 => (h env4).bind fun z env5 => R.opt (primS q [d2, z]) env5) σ H' Q F3 env2 fp3 := by
            exact ⟨p4, RQ.mono (r := (h env2).bind fun z env5 => R.opt (primS q [d2, z]) env5) z2 (fun a2 env' zz w F' H' fp' t1 t2 => zz w F' H' fp' (s34.trans t1) t2) fun c env' zz F' H' fp' t1 t2 => zz F' H' fp' (s34.trans t1) t2⟩
          refine dY_bind z4 fun v H4 F4 env4 fp4 d4 s5 r5 z5 => ?_
          refine dY_prim z5 (.cons (.fr (mono_D σ _ _ _ _ ((s34.trans s5).same) r2)) (.cons (.fr r5) .nil))
      | _ => exact False.elim z2
theorem snd_chain {f g h : Env → R D} {op op' : CmpOp} {pos : Pos} {p q : Prim} (ho : OpR X (compareOp op) (rP2 X p)) (ho' : OpR X (compareOp op') (rP2 X q)) (ha : PE X a (eD X exc W f)) (hb : PE X b (eD X exc W g)) (hc : PE X c (eD X exc W h))
    (hm : lastMarks [op, op'] [b, c] = false) : PE X (.Compare a [op, op'] [b, c] pos) (eE X exc W (chainE p q f g h)) := PE.imp (pe_chain ho ho' ha hb hc hm) fun _ _ _ z => chain_core z
end
end Dc

/-! Dc: subscripts, calls of built-ins. -/
namespace Dc
open PySem PySem.Spec PyProof.Rows L2
def notSlice : Expr → Bool
  | .Slice _ _ _ _ => false
  | _ => true
theorem plain_of {b : Expr} (h : notSlice b = true) : PlainIx b := fun o i => by
  cases b with
  | Slice _ _ _ _ => cases h
  | _ => rfl
section
variable {X : Cx} {exc : Nat → Addr} {W : WX} {e a b c : Expr} {es : List Expr} {k : Nat}
theorem snd_item {fa fb : Env → R Opd} {pos : Pos} (ha : PE X a (eO X exc W fa)) (hb : PE X b (eO X exc W fb)) (hs : notSlice b = true) : PE X (.Subscript a b pos) (eE X exc W (primE .item (two fa (two fb nilO)))) := by
  refine PE.imp (pe_ix item_ok ha hb (plain_of hs)) fun σ H Q q => ?_
  refine dX_end (two_split mono_O (dX_primE q)) fun x F1 H1 fp1 o1 env1 r k => k x r |> fun q1 => ?_
  exact dX_end (two_split mono_O q1) fun y F2 H2 fp2 o2 env2 r2 k2 => nil_split (k2 y r2)
/-! slices -/
theorem rPn_lo {K : PySem.W.Frag} {x y : V} {H : Hp} {Q : VK} (h : rPn K (.slice true false) [x, y] H Q) : ∃ i, y = .int i ∧ rSlP K x (some i) none H Q := by
  obtain ⟨F, ds, s, sub, bv, e, q⟩ := h
  obtain ⟨d, d2, rfl, h1, h2⟩ := bv.pair
  cases d2 with
  | int i => exact ⟨i, h2.int, F, d, s, sub, h1, e, q⟩
  | _ => cases e
theorem rPn_hi {K : PySem.W.Frag} {x y : V} {H : Hp} {Q : VK} (h : rPn K (.slice false true) [x, y] H Q) : ∃ i, y = .int i ∧ rSlP K x none (some i) H Q := by
  obtain ⟨F, ds, s, sub, bv, e, q⟩ := h
  obtain ⟨d, d2, rfl, h1, h2⟩ := bv.pair
  cases d2 with
  | int i => exact ⟨i, h2.int, F, d, s, sub, h1, e, q⟩
  | _ => cases e
theorem snd_slLo {fa fb : Env → R Opd} {p2 pos : Pos} (ha : PE X a (eO X exc W fa)) (hb : PE X b (eO X exc W fb)) : PE X (.Subscript a (.Slice (some b) none none p2) pos) (eE X exc W (primE (.slice true false) (two fa (two fb nilO)))) := by
  refine PE.imp (pe_slice slice_ok ha (po_some hb) po_none) fun σ H Q q => ?_
  refine dX_end (two_split mono_O (dX_primE q)) fun x F1 H1 fp1 o1 env1 r k => k x r |> fun q1 => ?_
  refine dX_end (two_split mono_O q1) fun y F2 H2 fp2 o2 env2 r2 k2 => ?_
  obtain ⟨i, ei, z⟩ := rPn_lo (nil_split (k2 y r2))
  exact ⟨i, ei, z⟩
theorem snd_slHi {fa fb : Env → R Opd} {p2 pos : Pos} (ha : PE X a (eO X exc W fa)) (hb : PE X b (eO X exc W fb)) : PE X (.Subscript a (.Slice none (some b) none p2) pos) (eE X exc W (primE (.slice false true) (two fa (two fb nilO)))) := by
  refine PE.imp (pe_slice slice_ok ha po_none (po_some hb)) fun σ H Q q => ?_
  refine dX_end (two_split mono_O (dX_primE q)) fun x F1 H1 fp1 o1 env1 r k => k x r |> fun q1 => ?_
  refine dX_end (two_split mono_O q1) fun y F2 H2 fp2 o2 env2 r2 k2 => ?_
  obtain ⟨i, ei, z⟩ := rPn_hi (nil_split (k2 y r2))
  exact ⟨i, ei, z⟩
theorem snd_sl2 {fa : Env → R Opd} {fb fc : Env → R D} {p2 pos : Pos} (ha : PE X a (eO X exc W fa)) (hb : PE X b (eD X exc W fb)) (hc : PE X c (eD X exc W fc)) : PE X (.Subscript a (.Slice (some b) (some c) none p2) pos) (eE X exc W (sliceE fa fb fc)) := by
  refine PE.imp (pe_slice slice_ok ha (po_some hb) (po_some hc)) fun σ H Q q => ?_
  obtain ⟨F, env, fp, z⟩ := q
  refine dY_bind z fun x H1 F1 env1 fp1 o1 s1 r1 z1 => ?_
  refine dY_bind z1 fun y H2 F2 env2 fp2 d2 s2 r2 z2 => ?_
  cases d2 with
  | int i =>
    cases r2
    refine ⟨i, rfl, ?_⟩
    refine dY_bind z2 fun w H3 F3 env3 fp3 d3 s3 r3 z3 => ?_
    cases d3 with
    | int j =>
      cases r3
      refine ⟨j, rfl, ?_⟩
      obtain ⟨p3, z3⟩ := z3
      dsimp only at z3
      cases e1 : deref env3 o1 with
      | none => rw [e1] at z3; exact False.elim z3
      | some d =>
        rw [e1] at z3
        have bv := BV.deref p3 (mono_O σ _ _ _ _ (s2.same.trans s3.same) r1) e1
        dsimp only [R.opt, R.bind] at z3
        cases e2 : sliceS (some i) (some j) d with
        | none => rw [e2] at z3; exact False.elim z3
        | some s =>
          rw [e2] at z3
          refine ⟨F3, d, s, p3.sub, bv, e2, fun w F' H' r => ?_⟩
          obtain ⟨fp', s4, p4⟩ := r.stp p3
          exact z3 w F' H' fp' s4 p4
    | _ => exact False.elim z3.2
  | _ => exact False.elim z2.2
/-! calls of built-ins -/
theorem All2.len {α β : Type} {r : β → α → Prop} : ∀ {bs : List β} {as : List α}, All2 r bs as → bs.length = as.length
  | _, _, .nil => rfl
  | _, _, .cons _ t => by simp [All2.len t]
theorem dX_primEl {p : Prim} {g : Env → R (List Opd)} {K : PySem.W.Frag} {σ : St} {H : Hp} {Q : VK} {n : Nat} (q : dE K exc W (primE p g) σ H Q) (hl : ∀ env os env', g env = .ok os env' → os.length = n) :
    dG K exc W (relL (relO K)) g σ H (fun ws H1 => ws.length = n ∧ rPn K p ws H1 Q) := by
  obtain ⟨F, env, fp, pr, q⟩ := dX_primE q
  refine ⟨F, env, fp, pr, ?_⟩
  cases e1 : g env with
  | st => rw [e1] at q; exact q
  | er c env' => rw [e1] at q; exact q
  | ok os env1 =>
    rw [e1] at q
    exact fun ws F' H' fp' s r => ⟨by rw [All2.len r.2]; exact hl _ _ _ e1, q ws F' H' fp' s r⟩
theorem snd_callB {g : Env → R (List Opd)} {id : String} {p : Prim} {x : Str} {q pos : Pos} {n : Nat} (hc : CallR X (.builtin id) (fun xs H Q => xs.length = n ∧ rPn X.K p xs H Q)) (hg : Gl X x) (hm : X.mg x = none) (hv : bootBuiltins x = some (.builtin id))
    (ha : PA X (e :: es) (dG X.K exc W (relL (relO X.K)) g)) (hn : x ≠ "__name__") (hdb : (x == ("__debug__" : Str)) = false) (hs : noStar e = true) (hpl : (backTo pos (starEach es X.env)).any (·.1) = false) (hl : ∀ env os env', g env = .ok os env' → os.length = n) :
    PE X (.Call (.Name x q) (e :: es) [] pos) (eE X exc W (primE p g)) := by
  exact PE.imp (pe_callB hc hg hm hv ha hn hdb (star_cons hs) hpl) fun σ H Q z => dX_primEl z hl
theorem snd_callTy {g : Env → R (List Opd)} {T : String} {p : Prim} {x : Str} {q pos : Pos} {n : Nat} (hc : CallR X (.type T) (fun xs H Q => xs.length = n ∧ rPn X.K p xs H Q)) (hg : Gl X x) (hm : X.mg x = none) (hv : bootBuiltins x = some (.type T))
    (ha : PA X (e :: es) (dG X.K exc W (relL (relO X.K)) g)) (hn : x ≠ "__name__") (hdb : (x == ("__debug__" : Str)) = false) (hs : noStar e = true) (hpl : (backTo pos (starEach es X.env)).any (·.1) = false) (hl : ∀ env os env', g env = .ok os env' → os.length = n) :
    PE X (.Call (.Name x q) (e :: es) [] pos) (eE X exc W (primE p g)) := by
  exact PE.imp (pe_callTy hc hg hm hv ha hn hdb (star_cons hs) hpl) fun σ H Q z => dX_primEl z hl
/-- isinstance(e, T) -/
theorem snd_isi {f : Env → R Opd} {T : String} {q1 q2 pos : Pos} (ht : T ∈ ["int", "bool", "tuple", "list", "str"]) (hg : Gl X "isinstance") (hm : X.mg "isinstance" = none) (hgT : Gl X (Str.ofString T)) (hmT : X.mg (Str.ofString T) = none)
    (ha : PE X a (eO X exc W f)) (hs : noStar a = true) : PE X (.Call (.Name "isinstance" q1) [a, .Name (Str.ofString T) q2] [] pos) (eE X exc W (primE (isP T) (two f nilO))) := by
  have hT : PE X (.Name (Str.ofString T) q2) (tC (.ty T)) := by
    simp only [List.mem_cons, List.not_mem_nil, or_false] at ht
    rcases ht with rfl | rfl | rfl | rfl | rfl
    · exact pe_bltn (u := .type "int") hgT hmT (by decide +kernel) rfl (by decide) (by decide)
    · exact pe_bltn (u := .type "bool") hgT hmT (by decide +kernel) rfl (by decide) (by decide)
    · exact pe_bltn (u := .type "tuple") hgT hmT (by decide +kernel) rfl (by decide) (by decide)
    · exact pe_bltn (u := .type "list") hgT hmT (by decide +kernel) rfl (by decide) (by decide)
    · exact pe_bltn (u := .type "str") hgT hmT (by decide +kernel) rfl (by decide) (by decide)
  have hc : CallR X (.builtin "isinstance") (fun xs H Q => ∃ x, xs = [x, .ty T] ∧ rPn X.K (isP T) [x] H Q) := by
    intro pins s σ H xs us Q I rv ⟨x, ex, F, ds, sl, sub, bv, e, z⟩
    subst ex
    obtain ⟨d, rfl, h1⟩ := bv.one
    exact isi_ok ht pins s σ H x us Q F d sl I rv sub h1 e z
  refine PE.imp (pe_callB hc hg hm (by decide +kernel) (pa_cons ha (pa_cons hT pa_nil (star_cons rfl)) (star_cons hs)) (by decide) (by decide) (star_cons hs) (by rfl)) fun σ H Q z => ?_
  exact dX_end (two_split mono_O (dX_primE z)) fun x F1 H1 fp1 o1 env1 r k => ⟨x, rfl, nil_split (k x r)⟩
/-- list(range(e)) -/
def rngE (f : Env → R D) : Env → R Sl := fun env => (f env).bind fun d env1 => R.opt (oneS .listRg d) env1
theorem rngS_map (n : Int) (h : 0 ≤ n) : rgV 0 n = (List.range n.toNat).map fun (k : Nat) => V.int k := by
  unfold rgV
  rw [Int.sub_zero]
  refine List.map_congr_left fun i _ => ?_
  rw [Int.zero_add]
theorem rvs_range {K : PySem.W.Frag} {F : Hp} : ∀ l : List Nat, RVs K F (l.map fun (k : Nat) => V.int k) (l.map fun (k : Nat) => PyData.int k)
  | [] => .nil
  | _ :: l => .cons (.int _) (rvs_range l)
theorem snd_listRg {f : Env → R D} {q1 q2 p1 pos : Pos} (hc : X.calm = true) (hg : Gl X "list") (hm : X.mg "list" = none) (hg2 : Gl X "range") (hm2 : X.mg "range" = none) (ha : PE X a (eD X exc W f)) (hs : noStar a = true) :
    PE X (.Call (.Name "list" q1) [.Call (.Name "range" q2) [a] [] p1] [] pos) (eE X exc W (rngE f)) := by
  refine PE.imp (pe_listRg hc hg hm (prg_1 hg2 hm2 ha (star_cons hs))) fun σ H Q q => ?_
  obtain ⟨F, env, fp, z⟩ := q
  refine dY_bind z fun x H1 F1 env1 fp1 d s1 r1 z1 => ?_
  obtain ⟨p1, z1⟩ := z1
  cases d with
  | int n =>
    cases r1
    dsimp only [R.opt] at z1
    have e0 : oneS .listRg (.int n) = Dc.guard (decide (0 ≤ n) && decide (n ≤ 16777216)) (some (.ol ((List.range n.toNat).map fun (k : Nat) => .int k))) := rfl
    rw [e0] at z1
    cases eg : (decide (0 ≤ n) && decide (n ≤ 16777216)) with
    | false => rw [eg] at z1; exact False.elim z1
    | true =>
      rw [eg] at z1
      rw [Bool.and_eq_true] at eg
      have g1 : 0 ≤ n := of_decide_eq_true eg.1
      have g2 : n ≤ 16777216 := of_decide_eq_true eg.2
      refine ⟨n, rfl, RgOk.of_le (by omega) g2 (by omega) g1, fun p hp => ?_⟩
      rw [rngS_map n g1]
      obtain ⟨fp', s4, p4⟩ := (Res.lst (K := X.K) p1.sub (rvs_range (List.range n.toNat)) hp (by rw [List.length_map, List.length_range, sizeLine_eq]; omega)).stp p1
      exact z1 (.ref p) _ _ fp' s4 p4
  | _ => exact False.elim z1
end
end Dc

/-! Dc: enumerate of a list or of a tuple. -/
namespace PySem
open Sem (wp)
theorem dc_enumNew {v : Value} {o : Obj} {H : Heap → Prop} (B : Begins v o H) :
    Meets (Builtin.«enumerate.__new__» ⟨[.type "enumerate", v], []⟩) (fun _ R s => H s.heap ∧
      R (.ok (.ret (.ref (s.heap.push o).objs.size))) { s with heap := (s.heap.push o).push { cls := .type "enumerate", data := .fields #[.none, .bool false, .ref s.heap.objs.size, rawInt 0, .none, .none] } }) :=
  .of_wp fun prog w A R s h => by
    obtain ⟨hp, g, d, tk, os⟩ := s
    obtain ⟨h1, h⟩ := h
    have hsub := sub_enumerate
    have q1 : ∀ {A' : Around} {E : Value → Shared → Prop} {Q : Value → Shared → Prop}, Q (.ref hp.objs.size) ⟨hp.push o, g, d, tk, os⟩ → wpAny (model prog w) A' (pyIter v) Q E ⟨hp, g, d, tk, os⟩ :=
      fun q => B.iter prog w _ _ ⟨hp, g, d, tk, os⟩ _ h1 q
    wp_walk using q1
    refine wpAny_stack_any fun st => wpAny_pure ?_
    split
    · rename_i c _ _ _ _ _
      cases (c == Value.type "enumerate")
      · wp_walk using q1
        exact ⟨_, rfl, h⟩
      · wp_walk using q1
        exact ⟨_, rfl, h⟩
    · wp_walk using q1
      exact ⟨_, rfl, h⟩
theorem dc_enumCall {prog : Program} {w : World} {A : Around} {E : Value → Shared → Prop} {s : Shared} {v : Value} {o : Obj} {H : Heap → Prop} {Q : Value → Shared → Prop} (B : Begins v o H) (h1 : H s.heap)
    (h : ∀ h', IsEnum h' (s.heap.objs.size + 1) s.heap.objs.size 0 .none → h'.get? s.heap.objs.size = some o → h'.objs.size = s.heap.objs.size + 2 →
      (∀ b o, s.heap.get? b = some o → h'.get? b = some o) → Q (.ref (s.heap.objs.size + 1)) { s with heap := h' }) :
    wpAny (model prog w) A (call (.type "enumerate") [v]) Q E s := by
  refine callType_new F.called_enumerate (by decide) (F.typeCall_enumerate_1 _) (F.newCall_enumerate_1 _) (fun obj => F.args_object_init_2 obj _) F.entry_enumerate_new
    (dc_enumNew B) ⟨h1, ?_⟩
  have hz : (s.heap.push o).objs.size = s.heap.objs.size + 1 := Heap.size_push ..
  show _ ∧ _
  rw [hz]
  have he : IsEnum ((s.heap.push o).push { cls := .type "enumerate", data := .fields #[.none, .bool false, .ref s.heap.objs.size, rawInt 0, .none, .none] }) (s.heap.objs.size + 1) s.heap.objs.size 0 .none := by
    have := Heap.get?_push_size (s.heap.push o) (o := { cls := .type "enumerate", data := .fields #[.none, .bool false, .ref s.heap.objs.size, rawInt 0, .none, .none] }) rfl
    rw [hz] at this
    exact this
  refine ⟨⟨_, he, rfl⟩, h _ he (Heap.get?_push_of_some _ (Heap.get?_push_size _ B.free)) (by rw [Heap.size_push, hz]) fun b o x => Heap.get?_push_of_some _ (Heap.get?_push_of_some _ x)⟩
end PySem
namespace Dc
open PySem PySem.Spec PyProof.Rows L2 RZ
/-- the tuple at a, each item in a new pair -/
def IteT (K : PySem.W.Frag) (a : Addr) : It :=
  ⟨fun i H => ∃ (xs : List V) (x : V), SqT K H a xs ∧ xs[i]? = some x, fun i H v H' => ∃ T x, v = .ref T ∧ H T = none ∧ H' = upd H T (.tup [.int (i : Nat), x]) ∧ ∀ xs, SqT K H a xs → xs[i]? = some x, fun i H => ∃ xs : List V, SqT K H a xs ∧ xs.length ≤ i⟩
theorem turn_enumT {P : Program} {w : World} {K : PySem.W.Frag} {elts : List Expr} {kk : Nat} {tpos : Pos} (a e it : Addr) :
    Turn P w K (.Tuple elts kk tpos) (IteT K a) [e, it] e (fun i h => (∃ old, IsEnum h e it ((i : Nat) : Int) old) ∧ h.IsTupleIter it a i ∧ e ≠ it ∧ a ≠ it ∧ a ≠ e) where
  mem := by simp
  obj := fun i h st b hb => by
    obtain ⟨⟨old, he⟩, ⟨o, ho, hc, hd⟩, _⟩ := st
    have e' : b = e ∨ b = it := by simpa using hb
    rcases e' with z | z
    · rw [z]; exact ⟨_, he, fun v q => nomatch q⟩
    · rw [z]; exact ⟨o, ho, fun v q => by rw [hd] at q; cases q⟩
  keep := fun i h h' st k => let ⟨⟨old, he⟩, hi, hne⟩ := st; ⟨⟨old, k e (by simp) _ he⟩, hi.at fun o q => k it (by simp) o q, hne⟩
  item := by
    intro X hP hw hK hc i pins s σ H E I hf st hg
    subst hP hw hK
    obtain ⟨⟨old, he⟩, hit, hne, hai, hae⟩ := st
    obtain ⟨xs, x, hq, hx⟩ := hg
    obtain ⟨its, rv, p, hz⟩ := I.tuple hq
    obtain ⟨u, hu, ru⟩ := rv.get hx
    have hel : e < s.heap.objs.size := Heap.lt_size he
    have hil : it < s.heap.objs.size := by obtain ⟨_, q, _⟩ := hit; exact Heap.lt_size q
    have hlt : i < its.toArray.size := by
      have := (List.getElem?_eq_some_iff.mp hu).1
      simpa using this
    have D := Draws.tuple (prog := X.prog) (w := X.w) (A := X.A.in1) (show X.A.in1.handled = none from I.ok.hd hc) it a hai its.toArray
    refine wpAny_pyNext_enum_itemD D he ⟨hit, show s.heap.IsTuple a its.toArray from p⟩ hlt hne (by simp [hne, Ne.symm hae]) fun y h' tk hy ho hst hT hsz hk => ?_
    have ey : y = u := by
      have z : its.toArray[i]? = some u := by simpa using hu
      rw [z] at hy
      exact (Option.some.inj hy).symm
    subst ey
    refine ⟨_, rfl, wpAny_letOwnedTupleGo_enum (s := { s with heap := h', toks := tk + 1 }) ho fun h'' he' sb => ?_⟩
    have hT2 : h''.get? s.heap.objs.size = some { cls := .type "tuple", data := .seq #[.int i tk, y] } := (sb.2 _ (Nat.ne_of_gt hel)).trans hT
    have new : ObjOk X.prog X.w (upd H s.heap.objs.size (.tup [.int (i : Nat), x])) h'' s.heap.objs.size (.tup [.int (i : Nat), x]) :=
      ⟨by show 2 ≤ sizeLine; decide, [.int i tk, y], .cons ⟨_, rfl⟩ (.cons ru .nil), ⟨_, hT2, rfl, _, rfl⟩⟩
    have I1 : Inv X pins σ (upd H s.heap.objs.size (.tup [.int (i : Nat), x])) { s with heap := h'', toks := tk + 1 } :=
      I.turnedNew (ch := [e, it]) (fun b ob hb q => (sb.2 b (fun z => hb (by simp [z]))).trans (hk b ob (fun z => hb (by simp [z])) (fun z => hb (by simp [z])) q)) hf (Nat.le_refl _) new
    refine ⟨.ref s.heap.objs.size, _, I1, rfl, ⟨_, x, rfl, I.hok.fresh (Nat.le_refl _), rfl, fun ys hy => by rw [I.tuple_inj hy hq]; exact hx⟩, ⟨⟨y, ?_⟩, hst.1.at fun o q => (sb.2 it (Ne.symm hne)).trans q, hne, hai, hae⟩, fun b hb => ?_⟩
    · have e1 : ((i + 1 : Nat) : Int) = (i : Int) + 1 := by omega
      rw [e1]; exact he'
    · have hb' : b < s.heap.objs.size := by
        have e' : b = e ∨ b = it := by simpa using hb
        rcases e' with z | z
        · rw [z]; exact hel
        · rw [z]; exact hil
      rw [upd_ne (Nat.ne_of_lt hb')]
      exact (hf b hb).1
  done := by
    intro X hP hw hK hc i pins s σ H E I hf st hg
    subst hP hw hK
    obtain ⟨⟨old, he⟩, hit, hne, hai, hae⟩ := st
    obtain ⟨xs, hq, hx⟩ := hg
    obtain ⟨its, rv, p, hz⟩ := I.tuple hq
    obtain ⟨f0, f1, f2, f3, f4, f5⟩ := hf it (by simp)
    have hl := rv.length
    have D0 : Draws X.prog X.w X.A.in1 it [it, a] 0 (fun _ _ => True) (fun _ h => h.IsTupleIter it a i ∧ h.IsTuple a its.toArray) :=
      { live := fun _ _ st => let ⟨o, ho, _⟩ := st.1; ⟨o, ho⟩
        frame := fun _ _ _ st hk => ⟨st.1.at fun o e => hk it (by simp) o e, st.2.at fun o e => hk a (by simp) o e⟩
        item := fun j s Q E hi => absurd hi (Nat.not_lt_zero _)
        done := fun s Q E st hE => wpAny_nextOf_tuple_end (show X.A.in1.handled = none from I.ok.hd hc) st.1 st.2 (by simp; omega) hE }
    exact wpAny_pyNext_enum_endD D0 he ⟨hit, show s.heap.IsTuple a its.toArray from p⟩ fun h' eb => ⟨rfl, I.turned (t' := s.toks) (fun b o hb e => eb b o hb e) f0 f1 f3 f4 f5⟩
  self := fun A i s Q E st h => let ⟨⟨_, he⟩, _⟩ := st; wpAny_pyIter_enum he h
def iEnumT (K : PySem.W.Frag) (ta : TA) : TI := fun σ H R => ta σ H fun vs H1 => ∃ a xs, vs = [.ref a] ∧ ((SqL K H1 a xs ∧ R (Ite K a) H1) ∨ (SqT K H1 a xs ∧ R (IteT K a) H1))
theorem pi_enumT {X : Cx} {e : Expr} {ta : TA} {p pos tpos : Pos} {elts : List Expr} {kk : Nat} (hg : Gl X "enumerate") (hm : X.mg "enumerate" = none) (ha : PA X [e] ta) (hs : starEach [e] X.env = [(false, eval e X.env)] := by rfl) :
    PI X (.Tuple elts kk tpos) (.Call (.Name "enumerate" p) [e] [] pos) (iEnumT X.K ta) := by
  refine ⟨fun pins s σ H R I h => ?_⟩
  refine Call_ (ld_blt I hg hm boot_enumerate (PyProof.Rows.callWith_type1 (thn (ha.run pos pins s σ H _ I h) fun us s1 ⟨vs, H1, I1, r1, q1⟩ => ?_) hs rfl))
  obtain ⟨a, xs, ex, q⟩ := q1
  subst ex
  cases r1 with
  | cons r rr =>
    cases rr
    cases r
    have fresh : ∀ b, b ∈ [s1.heap.objs.size + 1, s1.heap.objs.size] → s1.heap.objs.size ≤ b := fun b hb => by
      have e' : b = s1.heap.objs.size + 1 ∨ b = s1.heap.objs.size := by simpa using hb
      rcases e' with z | z
      · rw [z]; exact Nat.le_add_right _ _
      · rw [z]; exact Nat.le_refl _
    rcases q with ⟨hq, q⟩ | ⟨hq, q⟩
    · obtain ⟨its, rv, p', hz⟩ := I1.list hq
      refine call_enumerate_list p'.isList fun h' he hit hsz hk => wpAny_pyIter_enum he ?_
      have I2 : Inv X pins σ H1 { s1 with heap := h' } := I1.kept (t' := s1.toks) hk
      exact ⟨s1.heap.objs.size + 1, [s1.heap.objs.size + 1, s1.heap.objs.size], _, _, H1, rfl, I2, turn_enum a (s1.heap.objs.size + 1) s1.heap.objs.size, ⟨⟨.none, he⟩, hit, Nat.succ_ne_self _⟩, fun b hb => I1.fpOk (fresh b hb) (I1.hok.fresh (fresh b hb)), q⟩
    · obtain ⟨its, rv, p', hz⟩ := I1.tuple hq
      have hal : a < s1.heap.objs.size := by obtain ⟨_, g, _⟩ := p'; exact Heap.lt_size g
      refine dc_enumCall (begins_tuple a its.toArray) (show s1.heap.IsTuple a its.toArray from p') fun h' he ho hsz hk => wpAny_pyIter_enum he ?_
      have I2 : Inv X pins σ H1 { s1 with heap := h' } := I1.kept (t' := s1.toks) hk
      exact ⟨s1.heap.objs.size + 1, [s1.heap.objs.size + 1, s1.heap.objs.size], _, _, H1, rfl, I2, turn_enumT a (s1.heap.objs.size + 1) s1.heap.objs.size, ⟨⟨.none, he⟩, ⟨_, ho, rfl, rfl⟩, Nat.succ_ne_self _, Nat.ne_of_lt hal, Nat.ne_of_lt (Nat.lt_succ_of_lt hal)⟩, fun b hb => I1.fpOk (fresh b hb) (I1.hok.fresh (fresh b hb)), q⟩
theorem walk_enumT {K : PySem.W.Frag} {a : Addr} {xs : List V} : Walk (IteT K a) xs.length (fun H => SqT K H a xs) (YPair (fun i => some (.int (i : Nat))) (fun i => xs[i]?)) := by
  refine ⟨fun i _ hi q => ⟨xs, xs[i], q, by simp [hi]⟩, fun _ q => ⟨xs, q, Nat.le_refl _⟩, fun i H v H' _ q y => ?_⟩
  obtain ⟨T, x, h1, h2, h3, h4⟩ := y
  exact ⟨T, .int (i : Nat), x, h1, h2, h3, rfl, h4 xs q⟩
end Dc

/-! Dc: what a loop or a comprehension walks; targets. -/
namespace Dc
open PySem PySem.Spec PyProof.Rows L2 RZ
/-- what is handed out at turn i -/
def ItY (K : PySem.W.Frag) (F : Hp) (ds : List D) : Nat → Hp → V → Hp → Prop := fun i H x H' =>
  ∃ d, ds[i]? = some d ∧ ((H' = H ∧ RV K F x d) ∨ ∃ (T : Addr) (x1 y1 : V) (d1 d2 : D), x = .ref T ∧ H T = none ∧ H' = upd H T (.tup [x1, y1]) ∧ d = .tuple [d1, d2] ∧ RV K F x1 d1 ∧ RV K F y1 d2)
def IterOk (K : PySem.W.Frag) (F : Hp) (J : It) (ds : List D) : Prop := ds.length ≤ sizeLine ∧ Walk J ds.length (fun H => Same F H) (ItY K F ds)
abbrev finI (K : PySem.W.Frag) : St → Hp → Hp → List Addr → It → List D → Env → Prop := fun σ F' H' fp' J ds env' => Pre K F' H' fp' env' σ ∧ IterOk K F' J ds
def iX (K : PySem.W.Frag) (exc : Nat → Addr) (W : WX) (f : Env → R (List D)) : TI := fun σ H R => dX K exc W (finI K) f σ H R
section
variable {K : PySem.W.Frag} {F : Hp} {a b : Addr}
theorem iter_list {ws : List V} {ds : List D} (h : Rd F a (.lst ws)) (r : RVs K F ws ds) (hz : ds.length ≤ sizeLine) : IterOk K F (Itl K a) ds := by
  refine ⟨hz, ?_⟩
  rw [← r.length]
  refine (walk_list (K := K) (a := a) (xs := ws)).mono (fun H s => .inl (rd_mono s h)) fun i H x H' hi s y => ?_
  obtain ⟨e, e2⟩ := y
  have hd : i < ds.length := by
    rw [← r.length]
    exact hi
  obtain ⟨v, q1, q2⟩ := r.get (List.getElem?_eq_getElem hd)
  rw [e2] at q1
  cases q1
  exact ⟨_, List.getElem?_eq_getElem hd, .inl ⟨e, q2⟩⟩
theorem iter_tup {ws : List V} {ds : List D} (h : SqT K F a ws) (r : RVs K F ws ds) (hz : ds.length ≤ sizeLine) : IterOk K F (Itt K a) ds := by
  refine ⟨hz, ?_⟩
  rw [← r.length]
  refine (walk_tup (K := K) (a := a) (xs := ws)).mono (fun H s => sqT_mono s h) fun i H x H' hi s y => ?_
  obtain ⟨e, e2⟩ := y
  have hd : i < ds.length := by
    rw [← r.length]
    exact hi
  obtain ⟨v, q1, q2⟩ := r.get (List.getElem?_eq_getElem hd)
  rw [e2] at q1
  cases q1
  exact ⟨_, List.getElem?_eq_getElem hd, .inl ⟨e, q2⟩⟩
theorem iter_str {z : Str} (hz : (signs z).length ≤ sizeLine) : IterOk K F (Its z) (signs z) := by
  refine ⟨hz, ?_⟩
  have hl : (signs z).length = z.cps.size := by
    unfold signs
    rw [List.length_map, Array.length_toList]
  rw [hl]
  refine (walk_str (z := z)).mono (fun H s => True.intro) fun i H x H' hi s y => ?_
  obtain ⟨e, c, e2, e3⟩ := y
  subst e3
  refine ⟨_, ?_, .inl ⟨e, .str _⟩⟩
  unfold signs
  rw [List.getElem?_map, Array.getElem?_toList, e2]
  rfl
theorem iter_rng {lo hi : Int} (hz : (rngD lo hi).length ≤ sizeLine) : IterOk K F (L2.Itr lo (hi - lo).toNat) (rngD lo hi) := by
  refine ⟨hz, ?_⟩
  have hl : (rngD lo hi).length = (hi - lo).toNat := by
    unfold rngD
    rw [List.length_map, List.length_range]
  rw [hl]
  refine (walk_range (lo := lo) (n := (hi - lo).toNat)).mono (fun H s => True.intro) fun i H x H' hi s y => ?_
  obtain ⟨e, e2⟩ := y
  subst e2
  refine ⟨_, ?_, .inl ⟨e, .int _⟩⟩
  unfold rngD
  rw [List.getElem?_map, List.getElem?_range hi]
  rfl
theorem enumD_get : ∀ (xs : List D) (k i : Nat) (d : D), xs[i]? = some d → (enumD k xs)[i]? = some (.tuple [.int ((k + i : Nat) : Int), d])
  | [], _, _, _, h => by simp at h
  | x :: xs, k, 0, d, h => by
    cases Option.some.inj h
    rfl
  | x :: xs, k, i + 1, d, h => by
    have := enumD_get xs (k + 1) i d h
    rw [show k + 1 + i = k + (i + 1) by omega] at this
    exact this
theorem enumD_len : ∀ (xs : List D) (k : Nat), (enumD k xs).length = xs.length
  | [], _ => rfl
  | x :: xs, k => by
    show (enumD (k + 1) xs).length + 1 = xs.length + 1
    rw [enumD_len xs]
theorem iter_enum {ws : List V} {ds : List D} (h : Rd F a (.lst ws)) (r : RVs K F ws ds) (hz : ds.length ≤ sizeLine) : IterOk K F (Ite K a) (enumD 0 ds) := by
  refine ⟨by rw [enumD_len]; exact hz, ?_⟩
  rw [enumD_len, ← r.length]
  refine (walk_enum (K := K) (a := a) (xs := ws)).mono (fun H s => .inl (rd_mono s h)) fun i H x H' hi s y => ?_
  obtain ⟨T, x1, y1, e1, e2, e3, e4, e5⟩ := y
  have hd : i < ds.length := by
    rw [← r.length]
    exact hi
  obtain ⟨v, q1, q2⟩ := r.get (List.getElem?_eq_getElem hd)
  replace e5 : ws[i]? = some y1 := e5
  rw [e5] at q1
  cases q1
  cases e4
  refine ⟨_, enumD_get ds 0 i _ (List.getElem?_eq_getElem hd), .inr ⟨T, _, _, _, _, e1, e2, e3, rfl, ?_, q2⟩⟩
  rw [Nat.zero_add]
  exact .int _
theorem iter_enumT {ws : List V} {ds : List D} (h : SqT K F a ws) (r : RVs K F ws ds) (hz : ds.length ≤ sizeLine) : IterOk K F (IteT K a) (enumD 0 ds) := by
  refine ⟨by rw [enumD_len]; exact hz, ?_⟩
  rw [enumD_len, ← r.length]
  refine (walk_enumT (K := K) (a := a) (xs := ws)).mono (fun H s => sqT_mono s h) fun i H x H' hi s y => ?_
  obtain ⟨T, x1, y1, e1, e2, e3, e4, e5⟩ := y
  have hd : i < ds.length := by
    rw [← r.length]
    exact hi
  obtain ⟨v, q1, q2⟩ := r.get (List.getElem?_eq_getElem hd)
  replace e5 : ws[i]? = some y1 := e5
  rw [e5] at q1
  cases q1
  cases e4
  refine ⟨_, enumD_get ds 0 i _ (List.getElem?_eq_getElem hd), .inr ⟨T, _, _, _, _, e1, e2, e3, rfl, ?_, q2⟩⟩
  rw [Nat.zero_add]
  exact .int _
theorem zipD_len : ∀ (xs ys : List D), (zipD xs ys).length = min xs.length ys.length
  | [], _ => by simp [zipD]
  | _ :: _, [] => by simp [zipD]
  | x :: xs, y :: ys => by simp [zipD, zipD_len xs ys, Nat.succ_min_succ]
theorem zipD_get : ∀ (xs ys : List D) (i : Nat) (d e : D), xs[i]? = some d → ys[i]? = some e → (zipD xs ys)[i]? = some (.tuple [d, e])
  | [], _, _, _, _, h, _ => by simp at h
  | _ :: _, [], _, _, _, _, h => by simp at h
  | x :: xs, y :: ys, 0, d, e, h, h2 => by
    cases Option.some.inj h
    cases Option.some.inj h2
    rfl
  | x :: xs, y :: ys, i + 1, d, e, h, h2 => zipD_get xs ys i d e h h2
theorem zip_y {ws zs : List V} {ds es : List D} (r1 : RVs K F ws ds) (r2 : RVs K F zs es) {i : Nat} {H H' : Hp} {x : V} (hi : i < min ws.length zs.length) (y : YPair (fun i => ws[i]?) (fun i => zs[i]?) i H x H') : ItY K F (zipD ds es) i H x H' := by
  obtain ⟨T, x1, y1, e1, e2, e3, e4, e5⟩ := y
  have h1 : i < ds.length := by
    rw [← r1.length]
    omega
  have h2 : i < es.length := by
    rw [← r2.length]
    omega
  obtain ⟨v, q1, q2⟩ := r1.get (List.getElem?_eq_getElem h1)
  obtain ⟨v2, q3, q4⟩ := r2.get (List.getElem?_eq_getElem h2)
  replace e4 : ws[i]? = some x1 := e4
  replace e5 : zs[i]? = some y1 := e5
  rw [e4] at q1
  rw [e5] at q3
  cases q1
  cases q3
  exact ⟨_, zipD_get ds es i _ _ (List.getElem?_eq_getElem h1) (List.getElem?_eq_getElem h2), .inr ⟨T, _, _, _, _, e1, e2, e3, rfl, q2, q4⟩⟩
theorem iter_zipL {ws zs : List V} {ds es : List D} (h1 : Rd F a (.lst ws)) (r1 : RVs K F ws ds) (h2 : Rd F b (.lst zs)) (r2 : RVs K F zs es) (hz : ds.length ≤ sizeLine) : IterOk K F (Itz K a b) (zipD ds es) := by
  refine ⟨by rw [zipD_len]; exact Nat.le_trans (Nat.min_le_left _ _) hz, ?_⟩
  rw [zipD_len, ← r1.length, ← r2.length]
  exact (walk_zip (K := K) (a := a) (b := b) (xs := ws) (ys := zs) rfl).mono (fun H s => ⟨.inl (rd_mono s h1), .inl (rd_mono s h2)⟩) fun i H x H' hi s y => zip_y r1 r2 hi y
theorem iter_zipT {ws zs : List V} {ds es : List D} (h1 : SqT K F a ws) (r1 : RVs K F ws ds) (h2 : SqT K F b zs) (r2 : RVs K F zs es) (hz : ds.length ≤ sizeLine) : IterOk K F (ItzT K a b) (zipD ds es) := by
  refine ⟨by rw [zipD_len]; exact Nat.le_trans (Nat.min_le_left _ _) hz, ?_⟩
  rw [zipD_len, ← r1.length, ← r2.length]
  refine ⟨fun i H hi s => ?_, fun H s => ⟨ws, zs, sqT_mono s h1, sqT_mono s h2, by omega⟩, fun i H v H' hi s y => ?_⟩
  · have z1 : i < ws.length := by omega
    have z2 : i < zs.length := by omega
    exact ⟨ws, zs, ws[i], zs[i], sqT_mono s h1, sqT_mono s h2, by simp [z1], by simp [z2]⟩
  · obtain ⟨T, x, z, e1, e2, e3, e4, e5⟩ := y
    exact zip_y r1 r2 hi ⟨T, x, z, e1, e2, e3, e4 ws (sqT_mono s h1), e5 zs (sqT_mono s h2)⟩
end
section
variable {X : Cx} {exc : Nat → Addr} {W : WX} {e a b c tg : Expr} {es : List Expr} {k : Nat}
def seqE (f : Env → R D) : Env → R (List D) := fun env => (f env).bind fun d env1 => R.opt (seqI d) env1
theorem snd_seq {f : Env → R D} (h : PE X e (eD X exc W f)) : PI X tg e (iX X.K exc W (seqE f)) := by
  refine ⟨fun pins s σ H Rr I q => ?_⟩
  obtain ⟨F, env, fp, p, q⟩ := q
  unfold seqE at q
  cases hf : f env with
  | st => rw [hf] at q; exact False.elim q
  | er c env' =>
    rw [hf] at q
    exact (pi_list h).run pins s σ H Rr I ⟨F, env, fp, p, by rw [hf]; exact q⟩
  | ok d env1 =>
    rw [hf] at q
    dsimp only [R.bind] at q
    cases d with
    | list xs =>
      refine (pi_list h).run pins s σ H Rr I ⟨F, env, fp, p, ?_⟩
      rw [hf]
      intro w F' H' fp' s1 ⟨p1, r1⟩
      cases r1 with
      | lst h1 h2 hz => exact ⟨_, rfl, ⟨_, .inl (rd_mono p1.sub h1)⟩, q _ F' H' fp' s1 ⟨p1, iter_list h1 h2 hz⟩⟩
    | tuple xs =>
      refine (pi_tup h).run pins s σ H Rr I ⟨F, env, fp, p, ?_⟩
      rw [hf]
      intro w F' H' fp' s1 ⟨p1, r1⟩
      cases r1 with
      | tup h1 h2 hz => exact ⟨_, rfl, ⟨_, sqT_mono p1.sub h1⟩, q _ F' H' fp' s1 ⟨p1, iter_tup h1 h2 hz⟩⟩
    | str z =>
      have e0 : seqI (.str z) = if (signs z).length ≤ sizeLine then some (signs z) else none := rfl
      rw [e0] at q
      by_cases hz : (signs z).length ≤ sizeLine
      · rw [if_pos hz] at q
        refine (pi_str h).run pins s σ H Rr I ⟨F, env, fp, p, ?_⟩
        rw [hf]
        intro w F' H' fp' s1 ⟨p1, r1⟩
        cases r1
        exact ⟨z, rfl, q _ F' H' fp' s1 ⟨p1, iter_str hz⟩⟩
      · rw [if_neg hz] at q
        exact False.elim q
    | _ => exact False.elim q
def rng1E (f : Env → R D) : Env → R (List D) := fun env => (f env).bind fun d env1 => match d with
  | .int n => if rgOk 0 n then .ok (rngD 0 n) env1 else .st
  | _ => .st
def rng2E (f g : Env → R D) : Env → R (List D) := fun env => (f env).bind fun d env1 => (g env1).bind fun d2 env2 => match d, d2 with
  | .int n, .int m => if rgOk n m then .ok (rngD n m) env2 else .st
  | _, _ => .st
theorem in62_ok {n : Int} (h : in62 n = true) : -(2 ^ 62) ≤ n ∧ n < 2 ^ 62 := by
  unfold in62 at h
  rw [Bool.and_eq_true] at h
  exact ⟨of_decide_eq_true h.1, of_decide_eq_true h.2⟩
theorem rgOk_ok {n m : Int} (h : rgOk n m = true) : -(2 ^ 62) ≤ n ∧ n < 2 ^ 62 ∧ -(2 ^ 62) ≤ m ∧ m < 2 ^ 62 ∧ (rngD n m).length ≤ sizeLine := by
  unfold rgOk at h
  rw [Bool.and_eq_true, Bool.and_eq_true] at h
  obtain ⟨b1, b2⟩ := in62_ok h.1.1
  obtain ⟨b3, b4⟩ := in62_ok h.1.2
  refine ⟨b1, b2, b3, b4, ?_⟩
  unfold rngD
  rw [List.length_map, List.length_range]
  exact of_decide_eq_true h.2
theorem snd_rng1 {f : Env → R D} {p pos : Pos} (hg : Gl X "range") (hm : X.mg "range" = none) (ha : PE X a (eD X exc W f)) (hs : noStar a = true) : PI X tg (.Call (.Name "range" p) [a] [] pos) (iX X.K exc W (rng1E f)) := by
  refine ⟨fun pins s σ H Rr I q => ?_⟩
  refine (pi_range1 hg hm (pa_cons ha pa_nil (star_cons hs)) (star_cons hs)).run pins s σ H Rr I ?_
  obtain ⟨F, env, fp, z⟩ := q
  change eD X exc W f σ H _
  refine dY_bind (rel := relD X.K) (fin := finI X.K) (f := f) z fun x H1 F1 env1 fp1 d s1 r1 z1 => ?_
  obtain ⟨p1, z1⟩ := z1
  cases d with
  | int n =>
    cases r1
    dsimp only at z1
    cases g : rgOk 0 n with
    | false => rw [g] at z1; exact False.elim z1
    | true =>
      rw [g] at z1
      obtain ⟨_, _, b1, b2, b3⟩ := rgOk_ok g
      refine ⟨n, rfl, b1, b2, z1 _ F1 H1 fp1 .refl ⟨p1, ?_⟩⟩
      have := iter_rng (K := X.K) (F := F1) (lo := 0) (hi := n) b3
      rw [Int.sub_zero] at this
      exact this
  | _ => exact False.elim z1
theorem snd_rng2 {f g : Env → R D} {p pos : Pos} (hg : Gl X "range") (hm : X.mg "range" = none) (ha : PE X a (eD X exc W f)) (hb : PE X b (eD X exc W g)) (hs : noStar a = true) (hs2 : noStar b = true) : PI X tg (.Call (.Name "range" p) [a, b] [] pos) (iX X.K exc W (rng2E f g)) := by
  refine ⟨fun pins s σ H Rr I q => ?_⟩
  refine (pi_range2 hg hm (pa_cons ha (pa_cons hb pa_nil (star_cons hs2)) (star_cons hs)) (by rw [star_cons hs, star_cons hs2]; rfl) (star_cons hs2)).run pins s σ H Rr I ?_
  obtain ⟨F, env, fp, z⟩ := q
  change eD X exc W f σ H _
  refine dY_bind (rel := relD X.K) (fin := finI X.K) (f := f) z fun x H1 F1 env1 fp1 d s1 r1 z1 => ?_
  change eD X exc W g σ H1 _
  refine dY_bind (rel := relD X.K) (fin := finI X.K) (f := g) z1 fun x2 H2 F2 env2 fp2 d2 s2 r2 z2 => ?_
  obtain ⟨p1, z2⟩ := z2
  cases d with
  | int n =>
    cases d2 with
    | int m =>
      cases r1
      cases r2
      dsimp only at z2
      cases g : rgOk n m with
      | false => rw [g] at z2; exact False.elim z2
      | true =>
        rw [g] at z2
        obtain ⟨b1, b2, b3, b4, b5⟩ := rgOk_ok g
        exact ⟨n, m, rfl, ⟨b1, b2, b3, b4⟩, z2 _ F2 H2 fp2 .refl ⟨p1, iter_rng b5⟩⟩
    | _ => exact False.elim z2
  | _ => exact False.elim z2
def enumE (f : Env → R D) : Env → R (List D) := fun env => (f env).bind fun d env1 => match d with
  | .list xs => .ok (enumD 0 xs) env1
  | .tuple xs => .ok (enumD 0 xs) env1
  | _ => .st
theorem snd_enum {f : Env → R D} {elts : List Expr} {kk : Nat} {tpos p pos : Pos} (hg : Gl X "enumerate") (hm : X.mg "enumerate" = none) (ha : PE X a (eD X exc W f)) (hs : noStar a = true) : PI X (.Tuple elts kk tpos) (.Call (.Name "enumerate" p) [a] [] pos) (iX X.K exc W (enumE f)) := by
  refine ⟨fun pins s σ H Rr I q => ?_⟩
  refine (pi_enumT hg hm (pa_cons ha pa_nil (star_cons hs)) (star_cons hs)).run pins s σ H Rr I ?_
  obtain ⟨F, env, fp, z⟩ := q
  change eD X exc W f σ H _
  refine dY_bind (rel := relD X.K) (fin := finI X.K) (f := f) z fun x H1 F1 env1 fp1 d s1 r1 z1 => ?_
  obtain ⟨p1, z1⟩ := z1
  cases d with
  | list xs =>
    cases r1 with
    | lst h1 h2 hz => exact ⟨_, _, rfl, .inl ⟨.inl (rd_mono p1.sub h1), z1 _ F1 H1 fp1 .refl ⟨p1, iter_enum h1 h2 hz⟩⟩⟩
  | tuple xs =>
    cases r1 with
    | tup h1 h2 hz => exact ⟨_, _, rfl, .inr ⟨sqT_mono p1.sub h1, z1 _ F1 H1 fp1 .refl ⟨p1, iter_enumT h1 h2 hz⟩⟩⟩
  | _ => exact False.elim z1
def zipE (f g : Env → R D) : Env → R (List D) := fun env => (f env).bind fun d env1 => (g env1).bind fun d2 env2 => R.opt (zipI d d2) env2
theorem snd_zip {f g : Env → R D} {elts : List Expr} {kk : Nat} {tpos p pos : Pos} (hg : Gl X "zip") (hm : X.mg "zip" = none) (ha : PE X a (eD X exc W f)) (hb : PE X b (eD X exc W g)) (hs : noStar a = true) (hs2 : noStar b = true) :
    PI X (.Tuple elts kk tpos) (.Call (.Name "zip" p) [a, b] [] pos) (iX X.K exc W (zipE f g)) := by
  refine ⟨fun pins s σ H Rr I q => ?_⟩
  refine (pi_zipA hg hm (pa_cons ha (pa_cons hb pa_nil (star_cons hs2)) (star_cons hs)) (star_cons hs) (by rw [star_cons hs2]; rfl)).run pins s σ H Rr I ?_
  obtain ⟨F, env, fp, z⟩ := q
  change eD X exc W f σ H _
  refine dY_bind (rel := relD X.K) (fin := finI X.K) (f := f) z fun x H1 F1 env1 fp1 d s1 r1 z1 => ?_
  change eD X exc W g σ H1 _
  refine dY_bind (rel := relD X.K) (fin := finI X.K) (f := g) z1 fun x2 H2 F2 env2 fp2 d2 s2 r2 z2 => ?_
  obtain ⟨p1, z2⟩ := z2
  have r1 : RV X.K F2 x d := mono_D σ _ _ _ _ s2.same r1
  have r2 : RV X.K F2 x2 d2 := r2
  cases r1 with
  | lst h1 h2 hz =>
    cases r2 with
    | lst h3 h4 hz2 => exact ⟨_, _, _, _, rfl, .inl ⟨.inl (rd_mono p1.sub h1), .inl (rd_mono p1.sub h3), z2 _ F2 H2 fp2 .refl ⟨p1, iter_zipL h1 h2 h3 h4 hz⟩⟩⟩
    | _ => exact False.elim z2
  | tup h1 h2 hz =>
    cases r2 with
    | tup h3 h4 hz2 => exact ⟨_, _, _, _, rfl, .inr ⟨sqT_mono p1.sub h1, sqT_mono p1.sub h3, z2 _ F2 H2 fp2 .refl ⟨p1, iter_zipT h1 h2 h3 h4 hz⟩⟩⟩
    | _ => exact False.elim z2
  | _ => cases r2 <;> exact False.elim z2
end
end Dc

/-! Dc: targets, comprehensions. -/
namespace Dc
open PySem PySem.Spec PyProof.Rows L2 RZ
section
variable {K : PySem.W.Frag} {F F' H H' : Hp} {fp : List Addr} {env env' : Env} {σ σ' : St} {s : Sl} {o : Option V}
/-- the slot on top, and the others -/
theorem Pre.uncons (p : Pre K F H fp (s :: env) (o :: σ)) : ∃ f1 f2, fp = f1 ++ f2 ∧ SlOk K F H s o f1 ∧ Pre K F H f2 env σ ∧ f1.Nodup ∧ ∀ a ∈ f1, a ∉ f2 := by
  obtain ⟨sub, en, nd⟩ := p
  cases en with
  | cons h t =>
    have z := List.nodup_append.mp nd
    exact ⟨_, _, rfl, h, ⟨sub, t, z.2.1⟩, z.1, fun a m m2 => z.2.2 a m a m2 rfl⟩
theorem Pre.recons {f1 f2 f2' : List Addr} (h : SlOk K F H s o f1) (nd : f1.Nodup) (dis : ∀ a ∈ f1, a ∉ f2) (st : Stp F H f2 F' H' f2') (p : Pre K F' H' f2' env' σ') : Pre K F' H' (f1 ++ f2') (s :: env') (o :: σ') ∧ Stp F H (f1 ++ f2) F' H' (f1 ++ f2') := by
  have hh : ∀ a ∈ f1, F' a = none := fun a m => by
    obtain ⟨q1, u, q2⟩ := h.there a m
    cases e : F' a with
    | none => rfl
    | some o =>
      rcases st.ext a o e q1 with z | z
      · rw [q2] at z
        cases z
      · exact absurd z (dis a m)
  refine ⟨⟨p.sub, .cons (h.mono st.same (fun a u m e => st.frame a u e (dis a m)) hh) p.env, List.nodup_append.mpr ⟨nd, p.nd, fun a m b m2 z => ?_⟩⟩, ⟨st.same, fun b o e n => (st.ext b o e n).imp id fun z => List.mem_append_right _ z, fun b o e n => st.frame b o e fun z => n (List.mem_append_right _ z), fun a m => ?_⟩⟩
  · subst z
    rcases st.fpx a m2 with z | z
    · exact dis a m z
    · obtain ⟨_, u, q2⟩ := h.there a m
      rw [q2] at z
      cases z
  · rcases List.mem_append.mp m with z | z
    · exact .inl (List.mem_append_left _ z)
    · exact (st.fpx a z).imp (fun q => List.mem_append_right _ q) id
/-- a slot filled with data -/
theorem Pre.put {w : V} {d : D} {i : Nat} (p : Pre K F H fp env σ) (r : RV K F w d) : ∃ fp', Stp F H fp F H fp' ∧ Pre K F H fp' (env.set i (.fr d)) (σ.set i (some w)) := by
  by_cases hi : i < env.length
  · obtain ⟨o, fl, fi, fr, e1, e2, e3, e4⟩ := p.env.at i hi
    have sub : ∀ b, b ∈ fl ++ fr → b ∈ fp := fun b m => by
      rw [e3]
      rcases List.mem_append.mp m with m | m
      · exact List.mem_append_left _ m
      · exact List.mem_append_right _ (List.mem_append_right _ m)
    have en := e4 F H (.fr d) (some w) [] (Same.refl _) (fun _ _ _ e => e) (fun b m => (p.env.there b (sub b m)).1) (.fr r)
    have nd2 : (fl ++ ([] ++ fr)).Nodup := by
      have nd := p.nd
      rw [e3] at nd
      have z := List.nodup_append.mp nd
      have z2 := List.nodup_append.mp z.2.1
      exact List.nodup_append.mpr ⟨z.1, z2.2.1, fun b m c m2 => z.2.2 b m c (List.mem_append_right _ m2)⟩
    exact ⟨_, ⟨Same.refl _, fun b o e n => by (rw [n] at e; cases e), fun b o e _ => e, fun b m => .inl (sub b m)⟩, ⟨p.sub, en, nd2⟩⟩
  · have hσ : σ.length ≤ i := by
      rw [← p.env.len]
      omega
    rw [List.set_eq_of_length_le (by omega), List.set_eq_of_length_le hσ]
    exact ⟨fp, .refl, p⟩
/-- a slot emptied -/
theorem Pre.drop {i : Nat} (p : Pre K F H fp env σ) (x : Option V) : ∃ fp', Stp F H fp F H fp' ∧ Pre K F H fp' (env.set i .un) (σ.set i x) := by
  by_cases hi : i < env.length
  · obtain ⟨o, fl, fi, fr, e1, e2, e3, e4⟩ := p.env.at i hi
    have sub : ∀ b, b ∈ fl ++ fr → b ∈ fp := fun b m => by
      rw [e3]
      rcases List.mem_append.mp m with m | m
      · exact List.mem_append_left _ m
      · exact List.mem_append_right _ (List.mem_append_right _ m)
    have en := e4 F H .un x [] (Same.refl _) (fun _ _ _ e => e) (fun b m => (p.env.there b (sub b m)).1) (.un x)
    have nd2 : (fl ++ ([] ++ fr)).Nodup := by
      have nd := p.nd
      rw [e3] at nd
      have z := List.nodup_append.mp nd
      have z2 := List.nodup_append.mp z.2.1
      exact List.nodup_append.mpr ⟨z.1, z2.2.1, fun b m c m2 => z.2.2 b m c (List.mem_append_right _ m2)⟩
    exact ⟨_, ⟨Same.refl _, fun b o e n => by (rw [n] at e; cases e), fun b o e _ => e, fun b m => .inl (sub b m)⟩, ⟨p.sub, en, nd2⟩⟩
  · have hσ : σ.length ≤ i := by
      rw [← p.env.len]
      omega
    rw [List.set_eq_of_length_le (by omega), List.set_eq_of_length_le hσ]
    exact ⟨fp, .refl, p⟩
end

/-! ### targets -/
/-- two states alike but at these slots -/
def Off (tg : List Nat) (σ σ' : St) : Prop := σ'.length = σ.length ∧ ∀ j, j ∉ tg → σ'[j]? = σ[j]?
theorem Off.set {tg : List Nat} {σ σ' : St} {i : Nat} {o : Option V} (h : Off tg σ σ') (m : i ∈ tg) : Off tg σ (σ'.set i o) := by
  refine ⟨by rw [List.length_set]; exact h.1, fun j hj => ?_⟩
  rw [List.getElem?_set_ne (show i ≠ j from fun e => hj (by rw [← e]; exact m))]
  exact h.2 j hj
theorem Off.refl (tg : List Nat) (σ : St) : Off tg σ σ := ⟨rfl, fun _ _ => rfl⟩
theorem wipe_in : ∀ (vs : List Nat) (σ : St) (j : Nat), j ∈ vs → j < σ.length → (wipe σ vs)[j]? = some none
  | [], _, _, h, _ => by simp at h
  | v :: vs, σ, j, h, hl => by
    unfold wipe
    by_cases e : v = j
    · subst e
      rw [List.getElem?_set_self (by rw [wipe_length]; exact hl)]
    · rw [List.getElem?_set_ne e]
      exact wipe_in vs σ j ((List.mem_cons.mp h).resolve_left fun z => e z.symm) hl
theorem wipe_out : ∀ (vs : List Nat) (σ : St) (j : Nat), j ∉ vs → (wipe σ vs)[j]? = σ[j]?
  | [], _, _, _ => rfl
  | v :: vs, σ, j, h => by
    unfold wipe
    rw [List.getElem?_set_ne fun e => h (by rw [e]; exact List.mem_cons_self)]
    exact wipe_out vs σ j fun z => h (List.mem_cons_of_mem _ z)
theorem wipe_off {tg : List Nat} {σ σ' : St} (h : Off tg σ σ') : wipe σ' tg = wipe σ tg := by
  refine List.ext_getElem? fun j => ?_
  by_cases hj : j ∈ tg
  · by_cases hl : j < σ.length
    · rw [wipe_in tg σ j hj hl, wipe_in tg σ' j hj (by rw [h.1]; exact hl)]
    · rw [List.getElem?_eq_none (by rw [wipe_length, h.1]; omega), List.getElem?_eq_none (by rw [wipe_length]; omega)]
  · rw [wipe_out tg σ' j hj, wipe_out tg σ j hj, h.2 j hj]
theorem off_wipe (tg : List Nat) (σ : St) : Off tg σ (wipe σ tg) := ⟨wipe_length _ _, fun j hj => wipe_out tg σ j hj⟩
theorem Off.symm {tg : List Nat} {σ σ' : St} (h : Off tg σ σ') : Off tg σ' σ := ⟨h.1.symm, fun j hj => (h.2 j hj).symm⟩
theorem Off.trans {tg : List Nat} {σ σ' σ'' : St} (h : Off tg σ σ') (h' : Off tg σ' σ'') : Off tg σ σ'' := ⟨h'.1.trans h.1, fun j hj => (h'.2 j hj).trans (h.2 j hj)⟩
def gsX : List Nat → TGs
  | [] => gNil
  | i :: is => gCons (gName i) (gsX is)
/-- a target's reading -/
def gX (K : PySem.W.Frag) : List Nat → TG
  | [i] => gName i
  | is => gTup K is.length (gsX is)
section
variable {K : PySem.W.Frag} {F F' H H' : Hp} {fp : List Addr} {env env' : Env} {σ σ' : St}
theorem bind_ok {tg : List Nat} {x : V} {d : D} (p : Pre K F H fp env σ) (r : RV K F x d) (e : bindT tg d env = some env') (P : St → Hp → Prop) (hP : ∀ σ2 fp2, Stp F H fp F H fp2 → Pre K F H fp2 env' σ2 → Off tg σ σ2 → P σ2 H) : gX K tg x σ H P := by
  unfold bindT at e
  split at e
  · cases e
    obtain ⟨fp', s1, p1⟩ := p.put r
    exact hP _ fp' s1 p1 ((Off.refl _ _).set (by simp))
  · rename_i i j x1 y1
    cases e
    cases r with
    | tup h t hz =>
      cases t with
      | cons r1 t =>
        cases t with
        | cons r2 t =>
          cases t
          obtain ⟨f1, s1, p1⟩ := p.put (i := i) r1
          obtain ⟨f2, s2, p2⟩ := p1.put (i := j) r2
          exact ⟨_, _, rfl, sqT_mono p.sub h, rfl, _, _, rfl, _, _, rfl, rfl, hP _ f2 (s1.trans s2) p2 (((Off.refl _ _).set (by simp)).set (by simp))⟩
  · rename_i i j l x1 y1 z1
    cases e
    cases r with
    | tup h t hz =>
      cases t with
      | cons r1 t =>
        cases t with
        | cons r2 t =>
          cases t with
          | cons r3 t =>
            cases t
            obtain ⟨f1, s1, p1⟩ := p.put (i := i) r1
            obtain ⟨f2, s2, p2⟩ := p1.put (i := j) r2
            obtain ⟨f3, s3, p3⟩ := p2.put (i := l) r3
            exact ⟨_, _, rfl, sqT_mono p.sub h, rfl, _, _, rfl, _, _, rfl, _, _, rfl, rfl, hP _ f3 ((s1.trans s2).trans s3) p3 ((((Off.refl _ _).set (by simp)).set (by simp)).set (by simp))⟩
  · cases e
/-- one turn's item -/
theorem bind_it {tg : List Nat} {x : V} {d : D} {ds : List D} {i : Nat} {F0 : Hp} (p : Pre K F H fp env σ) (s0 : Same F0 F) (y : ItY K F0 ds i H x H') (hd : ds[i]? = some d) (e : bindT tg d env = some env') (P : St → Hp → Prop)
    (hP : ∀ σ2 F2 fp2, Stp F H fp F2 H' fp2 → Pre K F2 H' fp2 env' σ2 → Off tg σ σ2 → P σ2 H') : gX K tg x σ H' P := by
  obtain ⟨d', e1, h⟩ := y
  rw [hd] at e1
  cases e1
  rcases h with ⟨rfl, r⟩ | ⟨T, x1, y1, d1, d2, rfl, hT, rfl, rfl, r1, r2⟩
  · exact bind_ok p (r.mono s0) e P fun σ2 fp2 s1 p1 o => hP σ2 F fp2 s1 p1 o
  · obtain ⟨s1, p1⟩ := new_tup p (.cons (r1.mono s0) (.cons (r2.mono s0) .nil)) hT (by show 2 ≤ sizeLine; decide)
    obtain ⟨f1, f2, ef, h1, p2, _, _⟩ := p1.uncons
    cases h1 with
    | fr r =>
      have ef : fp = f2 := ef
      subst ef
      exact bind_ok p2 r e P fun σ2 fp2 s2 p3 o => hP σ2 _ fp2 (s1.trans s2) p3 o
end
end Dc

/-! Dc: comprehensions. -/
namespace Dc
open PySem PySem.Spec PyProof.Rows L2 RZ
section
variable {K : PySem.W.Frag} {F F' H H' : Hp} {fp fp' : List Addr} {env env' : Env} {σ σ' : St} {s : Sl} {o : Option V}
theorem Pre.putS {i : Nat} (p : Pre K F H fp env σ) (r : SlOk K F H s o []) : ∃ fp', Stp F H fp F H fp' ∧ Pre K F H fp' (env.set i s) (σ.set i o) := by
  by_cases hi : i < env.length
  · obtain ⟨o', fl, fi, fr, e1, e2, e3, e4⟩ := p.env.at i hi
    have sub : ∀ b, b ∈ fl ++ fr → b ∈ fp := fun b m => by
      rw [e3]
      rcases List.mem_append.mp m with m | m
      · exact List.mem_append_left _ m
      · exact List.mem_append_right _ (List.mem_append_right _ m)
    have en := e4 F H s o [] (Same.refl _) (fun _ _ _ e => e) (fun b m => (p.env.there b (sub b m)).1) r
    have nd2 : (fl ++ ([] ++ fr)).Nodup := by
      have nd := p.nd
      rw [e3] at nd
      have z := List.nodup_append.mp nd
      have z2 := List.nodup_append.mp z.2.1
      exact List.nodup_append.mpr ⟨z.1, z2.2.1, fun b m c m2 => z.2.2 b m c (List.mem_append_right _ m2)⟩
    exact ⟨_, ⟨Same.refl _, fun b o e n => by (rw [n] at e; cases e), fun b o e _ => e, fun b m => .inl (sub b m)⟩, ⟨p.sub, en, nd2⟩⟩
  · have hσ : σ.length ≤ i := by
      rw [← p.env.len]
      omega
    rw [List.set_eq_of_length_le (by omega), List.set_eq_of_length_le hσ]
    exact ⟨fp, .refl, p⟩
theorem hide_ok : ∀ (tg : List Nat), Pre K F H fp env σ → ∃ fp', Stp F H fp F H fp' ∧ Pre K F H fp' (hide tg env) (wipe σ tg)
  | [], p => ⟨fp, .refl, p⟩
  | v :: vs, p => by
    obtain ⟨f1, s1, p1⟩ := hide_ok vs p
    obtain ⟨f2, s2, p2⟩ := p1.putS (i := v) (.un none)
    exact ⟨f2, s1.trans s2, p2⟩
/-- a slot that holds no list of ours, seen later -/
theorem slot_later {i : Nat} (p : Pre K F H fp env σ) (h : notOwn (look env i) = true) (s : Same F F') : SlOk K F' H' (look env i) (σ.getD i none) [] := by
  by_cases hi : i < env.length
  · obtain ⟨o, fl, fi, fr, e1, e2, e3, e4⟩ := p.env.at i hi
    have eo : σ.getD i none = o := by
      rw [List.getD_eq_getElem?_getD, e1]
      rfl
    rw [eo]
    generalize look env i = sl at *
    cases e2 with
    | un o => exact .un o
    | fr r => exact .fr (r.mono s)
    | ol _ _ _ _ => exact Bool.noConfusion h
    | od _ _ _ _ => exact Bool.noConfusion h
  · rw [look_un hi]
    exact .un _
def backS : List Nat → St → St → St
  | [], _, τ => τ
  | i :: is, σ, τ => (backS is σ τ).set i (σ.getD i none)
theorem backS_len : ∀ (tg : List Nat) (σ τ : St), (backS tg σ τ).length = τ.length
  | [], _, _ => rfl
  | i :: is, σ, τ => by
    unfold backS
    rw [List.length_set, backS_len is]
theorem backS_get : ∀ (tg : List Nat) (σ τ : St) (j : Nat), τ.length = σ.length → (j ∉ tg → τ[j]? = σ[j]?) → (backS tg σ τ)[j]? = σ[j]?
  | [], _, _, _, _, h => h (by simp)
  | i :: is, σ, τ, j, hl, h => by
    unfold backS
    by_cases e : i = j
    · subst e
      by_cases hi : i < σ.length
      · rw [List.getElem?_set_self (by rw [backS_len, hl]; exact hi), List.getD_eq_getElem?_getD, List.getElem?_eq_getElem hi]
        rfl
      · rw [List.getElem?_eq_none (by rw [List.length_set, backS_len, hl]; omega), List.getElem?_eq_none (by omega)]
    · rw [List.getElem?_set_ne e]
      exact backS_get is σ τ j hl fun hj => h fun m => (List.mem_cons.mp m).elim (fun z => e z.symm) hj
theorem backS_off {tg : List Nat} {τ : St} (h : Off tg σ τ) : backS tg σ τ = σ := List.ext_getElem? fun j => backS_get tg σ τ j h.1 (h.2 j)
theorem back_ok {old : Env} {σ0 : St} : ∀ (tg : List Nat), Pre K F H fp env σ → (∀ i ∈ tg, SlOk K F H (look old i) (σ0.getD i none) []) → ∃ fp', Stp F H fp F H fp' ∧ Pre K F H fp' (back tg old env) (backS tg σ0 σ)
  | [], p, _ => ⟨fp, .refl, p⟩
  | v :: vs, p, h => by
    obtain ⟨f1, s1, p1⟩ := back_ok vs p fun i m => h i (List.mem_cons_of_mem _ m)
    obtain ⟨f2, s2, p2⟩ := p1.putS (i := v) (h v List.mem_cons_self)
    exact ⟨f2, s1.trans s2, p2⟩
end
section
variable {K : PySem.W.Frag} {F F' H H' : Hp} {fp fp' : List Addr} {env env' : Env} {σ σ' : St} {s : Sl} {o : Option V}
/-- a list of ours in a slot -/
theorem slot_ol {i : Nat} {ds : List D} (p : Pre K F H fp env σ) (hl : look env i = .ol ds) : ∃ a ws, σ[i]? = some (some (.ref a)) ∧ H a = some (.lst ws) ∧ RVs K F ws ds := by
  have hi : i < env.length := look_lt (by rw [hl]; exact fun z => by cases z)
  obtain ⟨o, fl, fi, fr, e1, e2, e3, e4⟩ := p.env.at i hi
  rw [hl] at e2
  cases e2 with
  | ol h1 h2 h3 h4 => exact ⟨_, _, e1, h1, h3⟩
theorem Pre.writeAt {i : Nat} {a : Addr} {ds ds' : List D} {ws' : List V} (p : Pre K F H fp env σ) (hl : look env i = .ol ds) (hs : σ[i]? = some (some (.ref a))) (r : RVs K F ws' ds') (hz : ds'.length ≤ sizeLine) :
    Pre K F (upd H a (.lst ws')) fp (env.set i (.ol ds')) σ ∧ Stp F H fp F (upd H a (.lst ws')) fp := by
  have hi : i < env.length := look_lt (by rw [hl]; exact fun z => by cases z)
  obtain ⟨o, fl, fi, fr, e1, e2, e3, e4⟩ := p.env.at i hi
  rw [hl] at e2
  rw [hs] at e1
  obtain rfl := Option.some.inj e1
  cases e2 with
  | @ol _ ws _ h1 h2 h3 h4 =>
    have nd := p.nd
    rw [e3] at nd
    have z := List.nodup_append.mp nd
    have z2 := List.nodup_append.mp z.2.1
    have na : ∀ b, b ∈ fl ++ fr → b ≠ a := fun b m e => by
      subst e
      rcases List.mem_append.mp m with m | m
      · exact z.2.2 b m b (by simp) rfl
      · exact z2.2.2 b (by simp) b m rfl
    have sub : ∀ b, b ∈ fl ++ fr → b ∈ fp := fun b m => by
      rw [e3]
      rcases List.mem_append.mp m with m | m
      · exact List.mem_append_left _ m
      · exact List.mem_append_right _ (List.mem_append_right _ m)
    have ha : a ∈ fp := by
      rw [e3]
      simp
    have en := e4 F (upd H a (.lst ws')) (.ol ds') (some (.ref a)) [a] (Same.refl _) (fun b u m e => by (rw [upd_ne (na b m)]; exact e)) (fun b m => (p.env.there b (sub b m)).1) (.ol upd_same h2 r hz)
    have hset : σ.set i (some (.ref a)) = σ := by
      refine List.ext_getElem? fun j => ?_
      by_cases hj : i = j
      · subst hj
        rw [List.getElem?_set_self (by rw [← p.env.len]; exact hi), hs]
      · rw [List.getElem?_set_ne hj]
    rw [hset, ← e3] at en
    refine ⟨⟨fun b o e => ?_, en, p.nd⟩, ⟨Same.refl _, fun b o e n => by (rw [n] at e; cases e), fun b o e n => ?_, fun b m => .inl m⟩⟩
    · rw [upd_ne (show b ≠ a from fun z => by (rw [z, h2] at e; cases e))]
      exact p.sub b o e
    · rw [upd_ne (show b ≠ a from fun z => n (by rw [z]; exact ha))]
      exact e
end
/-- nothing is let out -/
abbrev W0 : WX := fun _ _ _ _ => False
section
variable {K : PySem.W.Frag} {exc : Nat → Addr}
theorem mod_noEr {α : Type} {ok : α → Env → Prop} {er : Nat → Env → Prop} {r : R α} (h : RQ ok er (noEr r)) : RQ ok (fun _ _ => False) r := by
  cases r with
  | ok a e => exact h
  | er c e => exact h
  | st => exact h
/-- what the loop of a comprehension keeps: the list so far on top -/
def LcInv (K : PySem.W.Frag) (tg : List Nat) (cond : Env → R Bool) (elt : Env → R D) (xs : List D) (Dd : Addr) (τ : St) (F0 : Hp) (H0 : Hp) (fp0 : List Addr) (Q : Hp → Hp → List Addr → List D → Env → Prop) (i : Nat) (H : Hp) : Prop :=
  ∃ F env fp ds, Stp F0 H0 fp0 F H fp ∧ Pre K F H fp (.ol ds :: env) (some (.ref Dd) :: τ) ∧
    RQ (fun ds2 env2 => ∀ F' H' fp', Stp F H fp F' H' fp' → Pre K F' H' fp' (.ol (ds ++ ds2) :: env2) (some (.ref Dd) :: τ) → Q F' H' fp' (ds ++ ds2) env2) (fun _ _ => False) (compL tg cond elt (xs.drop i) env)
/-- the reading of a comprehension's loop -/
theorem lc_loop {tg : List Nat} {cond : Env → R Bool} {elt : Env → R D} {xs : List D} {Dd : Addr} {σ : St} {F1 H1 : Hp} {env1 : Env} {fp1 : List Addr} {J : It} {Qd : Hp → Prop} {tt : TT} {te : TE}
    (hw : IterOk K F1 J xs) (p0 : Pre K F1 H1 fp1 env1 σ) (hD : H1 Dd = none) (hz : xs.length ≤ sizeLine)
    (htt : ∀ σ H Q, dG K exc W0 relB cond σ H Q → tt σ H Q) (hte : ∀ σ H Q, dG K exc W0 (relD K) elt σ H Q → te σ H Q)
    (q : RQ (fun ds2 env2 => ∀ F' H' fp', Stp F1 H1 fp1 F' H' fp' → Pre K F' H' fp' (.ol ds2 :: env2) (some (.ref Dd) :: wipe σ tg) → Qd H') (fun _ _ => False) (compL tg cond elt xs (hide tg env1))) :
    ∃ W : Nat → Nat → Hp → Prop, (∃ m, W 0 m (upd H1 Dd (.lst []))) ∧ ∀ i m H, W i m H → (J.stop i H ∧ Qd H) ∨ (J.go i H ∧ ∃ Nx : Hp → Prop, (∀ H', Nx H' → ∃ m', m' < m ∧ W (i + 1) m' H') ∧
      ∀ x H', J.yld i H x H' → gX K tg x (wipe σ tg) H' fun σ2 H2 => wipe σ2 tg = wipe σ tg ∧ tt σ2 H2 fun b H3 => if b = true then te σ2 H3 fun y H4 => ∃ acc, H4 Dd = some (.lst acc) ∧ acc.length < sizeLine ∧ Nx (upd H4 Dd (.lst (acc ++ [y]))) else Nx H3) := by
  obtain ⟨hzz, hw⟩ := hw
  obtain ⟨s1, p1⟩ := new_lst (ws := []) (ds := []) p0 .nil hD (Nat.zero_le _)
  -- the start
  obtain ⟨f1, f2, ef, h1, p2, nd1, dis⟩ := p1.uncons
  obtain ⟨f3, s3, p3⟩ := hide_ok tg p2
  obtain ⟨p4, s4⟩ := Pre.recons h1 nd1 dis s3 p3
  rw [← ef] at s4
  have s14 := s1.trans s4
  refine lc_it hw (fun i H => i ≤ xs.length ∧ ∃ F env fp ds, ds.length ≤ i ∧ Stp F1 H1 fp1 F H fp ∧ Pre K F H fp (.ol ds :: env) (some (.ref Dd) :: wipe σ tg) ∧
    RQ (fun ds2 env2 => ∀ F' H' fp', Stp F H fp F' H' fp' → Pre K F' H' fp' (.ol (ds ++ ds2) :: env2) (some (.ref Dd) :: wipe σ tg) → Qd H') (fun _ _ => False) (compL tg cond elt (xs.drop i) env)) ?_ ?_ ?_ ?_
  · refine ⟨Nat.zero_le _, F1, _, _, [], Nat.le_refl _, s14, p4, ?_⟩
    exact RQ.mono q (fun ds2 env2 z F' H' fp' st pr => z F' H' fp' (s14.trans st) pr) fun _ _ z => z
  · rintro i H hi ⟨_, F, env, fp, ds, _, st, pr, _⟩
    exact st.same.trans pr.sub
  · rintro i x H H' hi ⟨_, F, env, fp, ds, hl, st, pr, qq⟩ y
    have hd : xs[i]? = some xs[i] := List.getElem?_eq_getElem hi
    have edrop : xs.drop i = xs[i] :: xs.drop (i + 1) := List.drop_eq_getElem_cons hi
    rw [edrop] at qq
    unfold compL at qq
    cases eb : bindT tg xs[i] env with
    | none => rw [eb] at qq; exact False.elim qq
    | some env2 =>
      rw [eb] at qq
      dsimp only at qq
      obtain ⟨g1, g2, eg, k1, pr2, ndg, disg⟩ := pr.uncons
      refine bind_it pr2 st.same y hd eb _ fun σ2 F2 fq st2 pr3 off => ⟨wipe_off off |>.trans (wipe_off (off_wipe tg σ)), ?_⟩
      -- the test
      refine htt σ2 H' _ ?_
      refine ⟨F2, env2, fq, pr3, ?_⟩
      cases ec : cond env2 with
      | st => rw [ec] at qq; exact False.elim qq
      | er c env' => rw [ec] at qq; exact False.elim qq
      | ok b env3 =>
        rw [ec] at qq
        intro w F3 H3 fr st3 ⟨pr4, rb⟩
        cases rb
        dsimp only [R.bind] at qq
        have st23 := st2.trans st3
        -- how a turn's end is told
        have fin : ∀ (F' H' : Hp) (env' : Env) (fr' : List Addr), Stp F H g2 F' H' fr' → Pre K F' H' fr' env' σ2 → ∃ f4, Stp F H (g1 ++ g2) F' H' (g1 ++ f4) ∧ Pre K F' H' (g1 ++ f4) (.ol ds :: hide tg env') (some (.ref Dd) :: wipe σ tg) := fun F' H' env' fr' st' pr' => by
          obtain ⟨f4, s4, p4⟩ := hide_ok tg pr'
          rw [wipe_off off |>.trans (wipe_off (off_wipe tg σ))] at p4
          obtain ⟨p5, s5⟩ := Pre.recons k1 ndg disg (st'.trans s4) p4
          exact ⟨f4, s5, p5⟩
        cases b with
        | false =>
          rw [if_neg Bool.false_ne_true]
          obtain ⟨f4, s5, p5⟩ := fin F3 H3 env3 fr st23 pr4
          rw [← eg] at s5
          exact ⟨hi, F3, _, _, ds, by omega, st.trans s5, p5, RQ.mono qq (fun ds2 env2 z F' H' fp' st' pr' => z F' H' fp' (s5.trans st') pr') fun _ _ z => z⟩
        | true =>
          rw [if_pos rfl]
          refine hte σ2 H3 _ ⟨F3, env3, fr, pr4, ?_⟩
          cases ee : elt env3 with
          | st => rw [ee] at qq; exact False.elim qq
          | er c env' => rw [ee] at qq; exact False.elim qq
          | ok d env4 =>
            rw [ee] at qq
            intro v F4 H4 ft st4 ⟨pr5, rd⟩
            dsimp only [R.bind] at qq
            obtain ⟨f4, s5, p5⟩ := fin F4 H4 env4 ft (st23.trans st4) pr5
            obtain ⟨k3, k4, ek, h6, p6, nd6, dis6⟩ := p5.uncons
            cases h6 with
            | @ol _ ws _ q1 q2 q3 q4 =>
              have hlt : ws.length < sizeLine := by
                rw [q3.length]
                omega
              have hd2 : (ds ++ [d]).length ≤ sizeLine := by
                simp
                omega
              obtain ⟨a1, z1⟩ := slot_ol (i := 0) (ds := ds) p5 rfl
              obtain ⟨ws', e1, e2, e3⟩ := z1
              cases e1
              rw [q1] at e2
              cases e2
              obtain ⟨p7, s7⟩ := p5.writeAt (i := 0) (a := Dd) (ds := ds) rfl rfl (q3.append (.cons rd .nil)) hd2
              rw [← eg] at s5
              refine ⟨ws, q1, hlt, hi, F4, hide tg env4, g1 ++ f4, ds ++ [d], by simp; omega, (st.trans s5).trans s7, p7, ?_⟩
              cases er : compL tg cond elt (xs.drop (i + 1)) (hide tg env4) with
              | st => rw [er] at qq; exact False.elim qq
              | er c e => rw [er] at qq; exact False.elim qq
              | ok ds2 env5 =>
                rw [er] at qq
                intro F' H' fp' st' pr'
                refine qq F' H' fp' ((s5.trans s7).trans st') ?_
                rw [List.append_assoc] at pr'
                exact pr'
  · rintro H ⟨_, F, env, fp, ds, _, st, pr, qq⟩
    rw [List.drop_length] at qq
    have := qq F H fp .refl
    rw [List.append_nil] at this
    exact this pr
end
end Dc

/-! Dc: comprehensions as expressions. -/
namespace Dc
open PySem PySem.Spec PyProof.Rows L2 RZ
section
variable {X : Cx} {exc : Nat → Addr} {W : WX} {elt tgE iter : Expr} {ifs : List Expr} {scope : Scope} {own : List (Str × Nat)} {pos : Pos}
def relI (K : PySem.W.Frag) : St → Hp → It → List D → Prop := fun _ F J ds => IterOk K F J ds
theorem comp_reading {K : PySem.W.Frag} {tg : List Nat} {it : Env → R (List D)} {cond : Env → R Bool} {el : Env → R D} {tt : TT} {te : TE} {σ : St} {H : Hp} {Q : VK}
    (htt : ∀ σ H Q, dG K exc W0 relB cond σ H Q → tt σ H Q) (hte : ∀ σ H Q, dG K exc W0 (relD K) el σ H Q → te σ H Q) (q : dE K exc W (compE tg it cond el) σ H Q) : tLc (iX K exc W it) (gX K tg) tt te tg σ H Q := by
  obtain ⟨F, env, fp, z⟩ := q
  change dG K exc W (relI K) it σ H _
  refine dY_bind (rel := relI K) (fin := finE K) (f := it) z fun J H1 F1 env1 fp1 xs s1 hw z1 => ?_
  obtain ⟨p1, z1⟩ := z1
  dsimp only at z1
  intro Dd hD
  cases eh : hideOk tg env1 with
  | false => rw [eh] at z1; exact False.elim z1
  | true =>
    rw [eh] at z1
    dsimp only at z1
    refine lc_loop hw p1 hD hw.1 htt hte ?_
    cases ec : compL tg cond el xs (hide tg env1) with
    | st => rw [ec] at z1; exact z1
    | er c e => rw [ec] at z1; exact z1
    | ok ds2 env2 =>
      rw [ec] at z1
      intro F' H' fp' st pr
      obtain ⟨f1, f2, ef, h1, p2, nd1, dis⟩ := pr.uncons
      have hs : ∀ i ∈ tg, SlOk K F' H' (look env1 i) (σ.getD i none) [] := fun i m => slot_later p1 (List.all_eq_true.mp eh i m) st.same
      obtain ⟨f3, s3, p3⟩ := back_ok tg p2 hs
      rw [backS_off (off_wipe tg σ)] at p3
      obtain ⟨p4, s4⟩ := Pre.recons h1 nd1 dis s3 p3
      rw [← ef] at s4
      exact z1 (.ref Dd) F' H' (f1 ++ f3) (st.trans s4) p4
/-- [elt for tg in iter if ..] -/
theorem snd_comp {tg : List Nat} {it : Env → R (List D)} {cond : Env → R Bool} {el : Env → R D} {tt : TT} (hc : X.calm = true) (hN : X.N.Nodup) (hi : PI X tgE iter (iX X.K exc W it)) (ok : BlkOk X.N X.env.scope scope own) (ho : own.map (·.2) = tg)
    (hg : ∀ (s : Shared) (H : Hp) (C : Addr) (cl : List (Str × Addr)) (fp : List Addr), PG (X.blk s H scope (compEnvC scope cl C X.env) fp) tgE (gX X.K tg))
    (ht : ∀ (s : Shared) (H : Hp) (C : Addr) (cl : List (Str × Addr)) (fp : List Addr), PTs (X.blk s H scope (compEnvC scope cl C X.env) fp) ifs tt) (htt : ∀ σ H Q, dG X.K exc W0 relB cond σ H Q → tt σ H Q)
    (he : ∀ (s : Shared) (H : Hp) (C : Addr) (cl : List (Str × Addr)) (fp : List Addr), PE (X.blk s H scope (compEnvC scope cl C X.env) fp) elt (dG X.K exc W0 (relD X.K) el)) (hs : ∀ x, foldedSetIterable iter X.env x = pure x) :
    PE X (.ListComp elt [⟨tgE, iter, ifs, 0⟩] scope pos) (eE X exc W (compE tg it cond el)) := by
  subst ho
  exact PE.imp (pe_lc hc hN hi ok hg ht he hs) fun σ H Q q => comp_reading htt (fun σ H Q q => q) q
theorem tYes_of {K : PySem.W.Frag} {σ : St} {H : Hp} {Q : Bool → Hp → Prop} (q : dG K exc W0 relB (fun env => .ok true env) σ H Q) : tYes σ H Q := dX_ok (w := true) q fun F fp env p => ⟨p, rfl⟩
end
end Dc

/-! Dc: calls of defs. -/
namespace Dc
open PySem PySem.Spec PyProof.Rows L2 RZ
def slotsOf : List Opd → List Nat
  | [] => []
  | .slot i :: as => i :: slotsOf as
  | .val _ :: as => slotsOf as
section
variable {K : PySem.W.Frag} {F F' H H' : Hp} {fp fp' : List Addr} {env env' : Env} {σ σ' : St} {s : Sl} {o : Option V}
theorem look_set_ne {i j : Nat} (h : i ≠ j) : look (env.set i s) j = look env j := by
  unfold look
  rw [List.getD_eq_getElem?_getD, List.getD_eq_getElem?_getD, List.getElem?_set_ne h]
theorem argSl_set {i : Nat} : ∀ (as : List Opd), i ∉ slotsOf as → as.map (argSl (env.set i s)) = as.map (argSl env)
  | [], _ => rfl
  | .val d :: as, h => by
    rw [List.map_cons, List.map_cons, argSl_set as h]
    rfl
  | .slot j :: as, h => by
    have h1 : i ≠ j := fun e => h (by rw [e]; exact List.mem_cons_self)
    rw [List.map_cons, List.map_cons, argSl_set as fun z => h (List.mem_cons_of_mem _ z)]
    show look (env.set i s) j :: _ = look env j :: _
    rw [look_set_ne h1]
/-- a slot taken out -/
theorem Pre.takeOut {i : Nat} {w : V} (p : Pre K F H fp env σ) (h : σ[i]? = some (some w)) : ∃ fi f2, SlOk K F H (look env i) (some w) fi ∧ fi.Nodup ∧ Pre K F H f2 (env.set i .un) σ ∧ (∀ a ∈ fi, a ∉ f2) ∧ ∀ a, a ∈ fp ↔ a ∈ fi ∨ a ∈ f2 := by
  have hi : i < env.length := by
    rw [p.env.len]
    exact (List.getElem?_eq_some_iff.mp h).1
  obtain ⟨o, fl, fi, fr, e1, e2, e3, e4⟩ := p.env.at i hi
  rw [h] at e1
  obtain rfl := Option.some.inj e1
  have nd := p.nd
  rw [e3] at nd
  have z := List.nodup_append.mp nd
  have z2 := List.nodup_append.mp z.2.1
  have sub : ∀ b, b ∈ fl ++ fr → b ∈ fp := fun b m => by
    rw [e3]
    rcases List.mem_append.mp m with m | m
    · exact List.mem_append_left _ m
    · exact List.mem_append_right _ (List.mem_append_right _ m)
  have en := e4 F H .un (some w) [] (Same.refl _) (fun _ _ _ e => e) (fun b m => (p.env.there b (sub b m)).1) (.un _)
  have hset : σ.set i (some w) = σ := by
    refine List.ext_getElem? fun j => ?_
    by_cases hj : i = j
    · subst hj
      rw [List.getElem?_set_self (by rw [← p.env.len]; exact hi), h]
    · rw [List.getElem?_set_ne hj]
  rw [hset] at en
  refine ⟨fi, fl ++ ([] ++ fr), e2, z2.1, ⟨p.sub, en, List.nodup_append.mpr ⟨z.1, z2.2.1, fun b m c m2 => z.2.2 b m c (List.mem_append_right _ m2)⟩⟩, fun a m m2 => ?_, fun a => ?_⟩
  · rcases List.mem_append.mp m2 with m2 | m2
    · exact z.2.2 a m2 a (List.mem_append_left _ m) rfl
    · exact z2.2.2 a m a m2 rfl
  · rw [e3]
    simp only [List.mem_append, List.nil_append]
    constructor
    · rintro (q | q | q)
      · exact .inr (.inl q)
      · exact .inl q
      · exact .inr (.inr q)
    · rintro (q | q | q)
      · exact .inr (.inl q)
      · exact .inl q
      · exact .inr (.inr q)
/-- the arguments go out -/
theorem args_out : ∀ {as : List Opd} {vs : List V} {fp : List Addr} {env : Env}, Pre K F H fp env σ → All2 (relO K σ F) vs as → (slotsOf as).Nodup →
    ∃ f1 f2, Pre K F H f1 (as.map (argSl env)) (vs.map some) ∧ Pre K F H f2 (holes as env) σ ∧ (∀ a ∈ f1, a ∉ f2) ∧ ∀ a, a ∈ fp ↔ a ∈ f1 ∨ a ∈ f2
  | _, _, fp, env, p, .nil, _ => ⟨[], fp, ⟨p.sub, .nil, .nil⟩, p, fun a m => absurd m (by simp), fun a => by simp⟩
  | _, _, fp, env, p, .cons (a := .val d) (as := as) r t, nd => by
    obtain ⟨f1, f2, q1, q2, q3, q4⟩ := args_out (as := as) p t nd
    exact ⟨f1, f2, ⟨q1.sub, EnvOk.cons (f1 := []) (.fr r) q1.env, q1.nd⟩, q2, q3, q4⟩
  | _, _, fp, env, p, .cons (a := .slot i) (as := as) r t, nd => by
    have nd : (i :: slotsOf as).Nodup := nd
    rw [List.nodup_cons] at nd
    obtain ⟨fi, fr, h1, h2, h3, h4, h5⟩ := p.takeOut r
    obtain ⟨f1, f2, q1, q2, q3, q4⟩ := args_out (as := as) h3 t nd.2
    rw [argSl_set as nd.1] at q1
    refine ⟨fi ++ f1, f2, ⟨q1.sub, .cons h1 q1.env, List.nodup_append.mpr ⟨h2, q1.nd, fun a m b m2 e => ?_⟩⟩, q2, fun a m => ?_, fun a => ?_⟩
    · subst e
      exact h4 a m ((q4 a).mpr (.inl m2))
    · rcases List.mem_append.mp m with m | m
      · exact fun m2 => h4 a m ((q4 a).mpr (.inr m2))
      · exact q3 a m
    · rw [h5 a, q4 a, List.mem_append]
      exact or_assoc.symm
/-- a slot filled from outside -/
theorem Pre.fill {i : Nat} {f1 : List Addr} {w : V} (p : Pre K F H fp env σ) (hs : σ[i]? = some (some w)) (h : SlOk K F H s (some w) f1) (nd : f1.Nodup) (dis : ∀ a ∈ f1, a ∉ fp) : ∃ f2, Pre K F H f2 (env.set i s) σ ∧ ∀ a ∈ f2, a ∈ f1 ∨ a ∈ fp := by
  have hi : i < env.length := by
    rw [p.env.len]
    exact (List.getElem?_eq_some_iff.mp hs).1
  obtain ⟨o, fl, fi, fr, e1, e2, e3, e4⟩ := p.env.at i hi
  have nd0 := p.nd
  rw [e3] at nd0
  have z := List.nodup_append.mp nd0
  have z2 := List.nodup_append.mp z.2.1
  have sub : ∀ b, b ∈ fl ++ fr → b ∈ fp := fun b m => by
    rw [e3]
    rcases List.mem_append.mp m with m | m
    · exact List.mem_append_left _ m
    · exact List.mem_append_right _ (List.mem_append_right _ m)
  have en := e4 F H s (some w) f1 (Same.refl _) (fun _ _ _ e => e) (fun b m => (p.env.there b (sub b m)).1) h
  have hset : σ.set i (some w) = σ := by
    refine List.ext_getElem? fun j => ?_
    by_cases hj : i = j
    · subst hj
      rw [List.getElem?_set_self (by rw [← p.env.len]; exact hi), hs]
    · rw [List.getElem?_set_ne hj]
  rw [hset] at en
  refine ⟨_, ⟨p.sub, en, ?_⟩, fun a m => ?_⟩
  · refine List.nodup_append.mpr ⟨z.1, List.nodup_append.mpr ⟨nd, z2.2.1, fun a m b m2 e => ?_⟩, fun a m b m2 e => ?_⟩
    · subst e
      exact dis a m (sub a (List.mem_append_right _ m2))
    · subst e
      rcases List.mem_append.mp m2 with m2 | m2
      · exact dis a m2 (sub a (List.mem_append_left _ m))
      · exact z.2.2 a m a (List.mem_append_right _ m2) rfl
  · rcases List.mem_append.mp m with m | m
    · exact .inr (sub a (List.mem_append_left _ m))
    · rcases List.mem_append.mp m with m | m
      · exact .inl m
      · exact .inr (sub a (List.mem_append_right _ m))
/-- what was lent comes back -/
theorem args_in : ∀ {as : List Opd} {vs : List V} {os : Env} {f1 f2 : List Addr} {env : Env} {G : Hp}, Pre K F H f1 os (vs.map some) → Pre K F H f2 env σ → All2 (relO K σ G) vs as → (∀ a ∈ f1, a ∉ f2) →
    ∃ f3, Pre K F H f3 (outs as os env) σ ∧ ∀ a ∈ f3, a ∈ f1 ∨ a ∈ f2
  | _, _, _, f1, f2, env, G, p, q, .nil, dis => by
    cases p.env
    exact ⟨f2, q, fun a m => .inr m⟩
  | _, _, os, f1, f2, env, G, p, q, .cons (a := .val d) (as := as) r t, dis => by
    cases os with
    | nil => cases p.env
    | cons s os =>
      obtain ⟨g1, g2, eg, h1, p2, _, _⟩ := p.uncons
      obtain ⟨f3, p3, h3⟩ := args_in (as := as) p2 q t fun a m => dis a (by rw [eg]; exact List.mem_append_right _ m)
      exact ⟨f3, p3, fun a m => (h3 a m).imp (fun z => by rw [eg]; exact List.mem_append_right _ z) id⟩
  | _, _, os, f1, f2, env, G, p, q, .cons (a := .slot i) (as := as) r t, dis => by
    cases os with
    | nil => cases p.env
    | cons s os =>
      obtain ⟨g1, g2, eg, h1, p2, nd1, d1⟩ := p.uncons
      obtain ⟨f4, p4, h4⟩ := q.fill r h1 nd1 fun a m => dis a (by rw [eg]; exact List.mem_append_left _ m)
      obtain ⟨f3, p3, h3⟩ := args_in (as := as) p2 p4 t fun a m m2 => by
        rcases h4 a m2 with z | z
        · exact d1 a z m
        · exact dis a (by rw [eg]; exact List.mem_append_right _ m) z
      refine ⟨f3, p3, fun a m => ?_⟩
      rcases h3 a m with z | z
      · exact .inl (by rw [eg]; exact List.mem_append_right _ z)
      · exact (h4 a z).imp (fun z => by rw [eg]; exact List.mem_append_left _ z) id
/-- what stands aside stays -/
theorem Pre.aside {f1 f1' : List Addr} (p : Pre K F H fp env σ) (st : Stp F H f1 F' H' f1') (sub : Same F' H') (dis : ∀ a ∈ f1, a ∉ fp) : Pre K F' H' fp env σ ∧ ∀ a ∈ f1', a ∉ fp := by
  have key : ∀ a ∈ fp, F' a = none := fun a m => by
    obtain ⟨q1, u, q2⟩ := p.env.there a m
    cases e : F' a with
    | none => rfl
    | some o =>
      rcases st.ext a o e q1 with z | z
      · rw [q2] at z
        cases z
      · exact absurd m (dis a z)
  refine ⟨⟨sub, p.env.mono st.same (fun a u m e => st.frame a u e fun z => dis a z m) key, p.nd⟩, fun a m m2 => ?_⟩
  rcases st.fpx a m with z | z
  · exact dis a z m2
  · obtain ⟨_, u, q2⟩ := p.env.there a m2
    rw [q2] at z
    cases z
end

/-! ### what a def promises -/
def spF (K : PySem.W.Frag) (exc : Nat → Addr) (n : Nat) (call : List Sl → R Sl) : Sp := fun vs H Q E => vs.length = n ∧ ∃ F env fp, Pre K F H fp env (vs.map some) ∧
  RQ (fun s os => ∀ w F' H' fp', Stp F H fp F' H' fp' → Pre K F' H' fp' (s :: os) (some w :: vs.map some) → Q w H')
    (fun c os => ∀ F' H' fp', Stp F H fp F' H' fp' → Pre K F' H' fp' os (vs.map some) → E (.ref (exc c)) none H') (call env)
section
variable {X : Cx} {exc : Nat → Addr} {W : WX} {e : Expr} {es : List Expr} {k : Nat}
theorem call_reading {K : PySem.W.Frag} {g : Env → R (List Opd)} {call : List Sl → R Sl} {n : Nat} {σ : St} {H : Hp} {Q : VK} (hg : ∀ env as env', g env = .ok as env' → as.length = n ∧ (slotsOf as).Nodup)
    (q : dE K exc W (callE call g) σ H Q) : dG K exc W (relL (relO K)) g σ H fun vs H1 => spF K exc n call vs H1 Q (WE W σ) := by
  obtain ⟨F, env, fp, p, q⟩ := q
  refine ⟨F, env, fp, p, ?_⟩
  unfold callE at q
  cases e1 : g env with
  | st => rw [e1] at q; exact q
  | er c env' => rw [e1] at q; exact q
  | ok as env1 =>
    rw [e1] at q
    intro vs F1 H1 fp1 s1 ⟨p1, r1⟩
    dsimp only [R.bind] at q
    obtain ⟨hl, hn⟩ := hg _ _ _ e1
    have r1 : All2 (relO K σ F1) vs as := r1
    obtain ⟨f1, f2, q1, q2, q3, q4⟩ := args_out p1 r1 hn
    refine ⟨by rw [All2.len r1]; exact hl, F1, _, f1, q1, ?_⟩
    have st : ∀ {F' H' : Hp} {f1' f3 : List Addr}, Stp F1 H1 f1 F' H' f1' → (∀ a ∈ f3, a ∈ f1' ∨ a ∈ f2) → Stp F1 H1 fp1 F' H' f3 := fun {F' H' f1' f3} s2 h3 =>
      ⟨s2.same, fun b o e n => (s2.ext b o e n).imp id fun z => (q4 b).mpr (.inl z), fun b o e n => s2.frame b o e fun z => n ((q4 b).mpr (.inl z)), fun a m => (h3 a m).elim (fun z => (s2.fpx a z).imp (fun y => (q4 a).mpr (.inl y)) id) fun z => .inl ((q4 a).mpr (.inr z))⟩
    cases e2 : call (as.map (argSl env1)) with
    | st => rw [e2] at q; exact q
    | er c os =>
      rw [e2] at q
      intro F' H' f1' s2 p2
      obtain ⟨p3, d3⟩ := q2.aside s2 p2.sub q3
      obtain ⟨f3, p4, h4⟩ := args_in p2 p3 r1 d3
      exact q F' H' f3 (s1.trans (st s2 h4)) p4
    | ok s os =>
      rw [e2] at q
      intro w F' H' f1' s2 p2
      obtain ⟨g1, g2, eg, h1, p5, nd5, d5⟩ := p2.uncons
      obtain ⟨p3, d3⟩ := q2.aside s2 p2.sub q3
      obtain ⟨f3, p4, h4⟩ := args_in p5 p3 r1 fun a m => d3 a (by rw [eg]; exact List.mem_append_right _ m)
      refine q w F' H' (g1 ++ f3) (s1.trans (st s2 fun a m => ?_)) ⟨p4.sub, .cons h1 p4.env, List.nodup_append.mpr ⟨nd5, p4.nd, fun a m b m2 e => ?_⟩⟩
      · rcases List.mem_append.mp m with z | z
        · exact .inl (by rw [eg]; exact List.mem_append_left _ z)
        · exact (h4 a z).imp (fun y => by rw [eg]; exact List.mem_append_right _ y) id
      · subst e
        rcases h4 a m2 with z | z
        · exact d5 a m z
        · exact d3 a (by rw [eg]; exact List.mem_append_left _ m) z
/-- f(e, ..) -/
theorem snd_call {g : Env → R (List Opd)} {call : List Sl → R Sl} {n lv : Nat} {f : Addr} {fd : FuncData} {ps : List Str} {x : Str} {p pos : Pos} (hF : FnOk X.prog X.w X.K X.mg X.base (L2.CX X.prog X.w) lv f fd ps (spF X.K exc n call)) (hr : Room lv X.A) (tk : Takes X W)
    (hgl : Gl X x) (hm : X.mg x = some (.ref f)) (hk : PySem.W.keepIn X.K (.ref f) = true) (hb : Binds X.K fd ps []) (ha : PA X (e :: es) (dG X.K exc W (relL (relO X.K)) g)) (hdb : (x == ("__debug__" : Str)) = false) (hs : noStar e = true)
    (hpl : (backTo pos (starEach es X.env)).any (·.1) = false) (hg : ∀ env as env', g env = .ok as env' → as.length = n ∧ (slotsOf as).Nodup) : PE X (.Call (.Name x p) (e :: es) [] pos) (eE X exc W (callE call g)) :=
  PE.imp (pe_callS hF hr hgl hm hk hb (passAt tk) ha hdb (star_cons hs) hpl) fun σ H Q q => call_reading hg q
end
end Dc

/-! Dc: statements. -/
namespace Dc
open PySem PySem.Spec PyProof.Rows L2 RZ
/-- the ends of a statement -/
def XQ (nx : Env → Prop) (rt : Sl → Env → Prop) (er : Nat → Env → Prop) : Xo → Prop
  | .nx env => nx env
  | .rt s env => rt s env
  | .er c env => er c env
  | .st => False
theorem XQ.mono {nx nx' : Env → Prop} {rt rt' : Sl → Env → Prop} {er er' : Nat → Env → Prop} {x : Xo} (h : XQ nx rt er x) (h1 : ∀ e, nx e → nx' e) (h2 : ∀ s e, rt s e → rt' s e) (h3 : ∀ c e, er c e → er' c e) : XQ nx' rt' er' x := by
  cases x with
  | nx e => exact h1 e h
  | rt s e => exact h2 s e h
  | er c e => exact h3 c e h
  | st => exact h
/-- these slots hold what they held -/
def Io (io : List Nat) (σ σ' : St) : Prop := ∀ j ∈ io, σ'[j]? = σ[j]?
theorem Io.refl {io : List Nat} {σ : St} : Io io σ σ := fun _ _ => rfl
theorem Io.trans {io : List Nat} {σ σ' σ'' : St} (h : Io io σ σ') (h' : Io io σ' σ'') : Io io σ σ'' := fun j m => (h' j m).trans (h j m)
theorem Io.set {io : List Nat} {σ : St} {i : Nat} {o : Option V} (h : i ∉ io) : Io io σ (σ.set i o) := fun j m => List.getElem?_set_ne fun e => h (by rw [e]; exact m)
theorem Io.off {io tg : List Nat} {σ σ' : St} (h : Off tg σ σ') (d : ∀ j ∈ tg, j ∉ io) : Io io σ σ' := fun j m => h.2 j fun z => d j z m
/-- what a statement asks: from a state, for each end -/
def SX (K : PySem.W.Frag) (exc : Nat → Addr) (W : WX) (io : List Nat) (D : Ends) (σ : St) (F H : Hp) (fp : List Addr) (o : Xo) : Prop :=
  XQ (fun env' => ∀ σ' F' H' fp', Stp F H fp F' H' fp' → Pre K F' H' fp' env' σ' → Io io σ σ' → D.nx σ' H')
    (fun s env' => ∀ w σ' F' H' fp', Stp F H fp F' H' fp' → Pre K F' H' fp' (s :: env') (some w :: σ') → Io io σ σ' → D.rt w H')
    (fun c env' => ∀ σ' F' H' fp', Stp F H fp F' H' fp' → Pre K F' H' fp' env' σ' → Io io σ σ' → W (.ref (exc c)) none σ' H') o
def dS (K : PySem.W.Frag) (exc : Nat → Addr) (W : WX) (io : List Nat) (f : Env → Xo) : TS := fun D σ H => ∃ F env fp, Pre K F H fp env σ ∧ SX K exc W io D σ F H fp (f env)
theorem SX.later {K : PySem.W.Frag} {exc : Nat → Addr} {W : WX} {io : List Nat} {D : Ends} {σ σ' : St} {F H F' H' : Hp} {fp fp' : List Addr} {o : Xo} (h : SX K exc W io D σ F H fp o) (s : Stp F H fp F' H' fp') (i : Io io σ σ') : SX K exc W io D σ' F' H' fp' o :=
  XQ.mono h (fun e q σ2 F2 H2 f2 s2 p2 i2 => q σ2 F2 H2 f2 (s.trans s2) p2 (i.trans i2)) (fun sl e q w σ2 F2 H2 f2 s2 p2 i2 => q w σ2 F2 H2 f2 (s.trans s2) p2 (i.trans i2)) fun c e q σ2 F2 H2 f2 s2 p2 i2 => q σ2 F2 H2 f2 (s.trans s2) p2 (i.trans i2)
section
variable {X : Cx} {exc : Nat → Addr} {W : WX} {io : List Nat} {st : Stmt} {sts : List Stmt} {pos : Pos}
theorem PS.imp {t t' : TS} (h : PS X st t) (i : ∀ D σ H, t' D σ H → t D σ H) : PS X st t' := ⟨fun pins s σ H D I q => h.run pins s σ H D I (i D σ H q)⟩
theorem PSs.imp {t t' : TS} (h : PSs X sts t) (i : ∀ D σ H, t' D σ H → t D σ H) : PSs X sts t' := ⟨fun pins s σ H D I q => h.run pins s σ H D I (i D σ H q)⟩
abbrev sS (X : Cx) (exc : Nat → Addr) (W : WX) (io : List Nat) (f : Env → Xo) : TS := dS X.K exc W io f
/-- an expression in front -/
theorem dX_go {α β : Type} {rel : St → Hp → β → α → Prop} {f : Env → R α} {g : α → Env → Xo} {K : PySem.W.Frag} {σ : St} {H : Hp} {D : Ends} {T : β → Hp → Prop}
    (h : dS K exc W io (fun env => (f env).go g) D σ H) (k : ∀ w H1 F1 fp1 a env1, Pre K F1 H1 fp1 env1 σ → rel σ F1 w a → SX K exc W io D σ F1 H1 fp1 (g a env1) → T w H1) : dG K exc W rel f σ H T := by
  obtain ⟨F, env, fp, p, q⟩ := h
  dsimp only at q
  refine ⟨F, env, fp, p, ?_⟩
  cases e : f env with
  | st => rw [e] at q; exact q
  | er c env' => rw [e] at q; exact fun F' H' fp' s' p' => q σ F' H' fp' s' p' Io.refl
  | ok a1 env1 =>
    rw [e] at q
    intro w F1 H1 fp1 s1 ⟨p1, r1⟩
    exact k w H1 F1 fp1 a1 env1 p1 r1 (SX.later q s1 Io.refl)
theorem dE_go {f : Env → R Sl} {g : Sl → Env → Xo} {K : PySem.W.Frag} {σ : St} {H : Hp} {D : Ends} {T : V → Hp → Prop}
    (h : dS K exc W io (fun env => (f env).go g) D σ H) (k : ∀ w H1 F1 fp1 s env1, Pre K F1 H1 fp1 (s :: env1) (some w :: σ) → SX K exc W io D σ F1 H1 fp1 (g s env1) → T w H1) : dE K exc W f σ H T := by
  obtain ⟨F, env, fp, p, q⟩ := h
  dsimp only at q
  refine ⟨F, env, fp, p, ?_⟩
  cases e : f env with
  | st => rw [e] at q; exact q
  | er c env' => rw [e] at q; exact fun F' H' fp' s' p' => q σ F' H' fp' s' p' Io.refl
  | ok a1 env1 =>
    rw [e] at q
    intro w F1 H1 fp1 s1 p1
    exact k w H1 F1 fp1 a1 env1 p1 (SX.later q s1 Io.refl)
/-- the value on top goes into its slot -/
theorem Pre.store {K : PySem.W.Frag} {F H : Hp} {fp : List Addr} {env : Env} {σ : St} {s : Sl} {w : V} {i : Nat} (p : Pre K F H fp (s :: env) (some w :: σ)) : ∃ fp', Stp F H fp F H fp' ∧ Pre K F H fp' (env.set i s) (σ.set i (some w)) := by
  obtain ⟨f1, f2, ef, h1, p2, nd1, dis⟩ := p.uncons
  by_cases hi : i < env.length
  · obtain ⟨o', fl, fi, fr, e1, e2, e3, e4⟩ := p2.env.at i hi
    have sub : ∀ b, b ∈ fl ++ fr → b ∈ f2 := fun b m => by
      rw [e3]
      rcases List.mem_append.mp m with m | m
      · exact List.mem_append_left _ m
      · exact List.mem_append_right _ (List.mem_append_right _ m)
    have en := e4 F H s (some w) f1 (Same.refl _) (fun _ _ _ e => e) (fun b m => (p2.env.there b (sub b m)).1) h1
    have nd := p2.nd
    rw [e3] at nd
    have z := List.nodup_append.mp nd
    have z2 := List.nodup_append.mp z.2.1
    refine ⟨_, ⟨Same.refl _, fun b o e n => (by rw [n] at e; cases e), fun b o e _ => e, fun b m => .inl ?_⟩, ⟨p.sub, en, List.nodup_append.mpr ⟨z.1, List.nodup_append.mpr ⟨nd1, z2.2.1, fun a m b m2 e => ?_⟩, fun a m b m2 e => ?_⟩⟩⟩
    · rw [ef]
      rcases List.mem_append.mp m with m | m
      · exact List.mem_append_right _ (sub b (List.mem_append_left _ m))
      · rcases List.mem_append.mp m with m | m
        · exact List.mem_append_left _ m
        · exact List.mem_append_right _ (sub b (List.mem_append_right _ m))
    · subst e
      exact dis a m (sub a (List.mem_append_right _ m2))
    · subst e
      rcases List.mem_append.mp m2 with m2 | m2
      · exact dis a m2 (sub a (List.mem_append_left _ m))
      · exact z.2.2 a m a (List.mem_append_right _ m2) rfl
  · have hσ : σ.length ≤ i := by
      rw [← p2.env.len]
      omega
    rw [List.set_eq_of_length_le (by omega), List.set_eq_of_length_le hσ]
    refine ⟨f2, ⟨Same.refl _, fun b o e n => (by rw [n] at e; cases e), fun b o e _ => e, fun b m => .inl ?_⟩, p2⟩
    rw [ef]
    exact List.mem_append_right _ m
/-- the value on top goes -/
theorem Pre.tail {K : PySem.W.Frag} {F H : Hp} {fp : List Addr} {env : Env} {σ : St} {s : Sl} {o : Option V} (p : Pre K F H fp (s :: env) (o :: σ)) : ∃ fp', Stp F H fp F H fp' ∧ Pre K F H fp' env σ := by
  obtain ⟨f1, f2, ef, h1, p2, nd1, dis⟩ := p.uncons
  exact ⟨f2, ⟨Same.refl _, fun b o e n => (by rw [n] at e; cases e), fun b o e _ => e, fun b m => .inl (by rw [ef]; exact List.mem_append_right _ m)⟩, p2⟩

/-! ### one statement -/
theorem asg_reading {f : Env → R Sl} {i : Nat} {K : PySem.W.Frag} {D : Ends} {σ : St} {H : Hp} (h : i ∉ io) (q : dS K exc W io (fun env => (f env).go fun s env1 => .nx (env1.set i s)) D σ H) : tAsg (dE K exc W f) (gName i) D σ H := by
  refine dE_go q fun w H1 F1 fp1 s env1 p1 z => ?_
  obtain ⟨f2, s2, p2⟩ := p1.store (i := i)
  exact z _ F1 H1 f2 s2 p2 (Io.set h)
theorem snd_asg {f : Env → R Sl} {i : Nat} {x : Str} {e : Expr} {pos' : Pos} (hN : X.N.Nodup) (hi : X.N[i]? = some x) (hx : Loc X.env.scope x) (he : PE X e (eE X exc W f)) (hs : swapsWith e (some (.Name x pos')) pos.line X.env = pure false)
    (hf : X.fn x = true ∨ X.env.scope.names.lookup x = some .local) (h : i ∉ io) : PS X (.Assign [.Name x pos'] e pos) (sS X exc W io fun env => (f env).go fun s env1 => .nx (env1.set i s)) :=
  PS.imp (ps_set hN hi hx he hs hf) fun D σ H q => asg_reading h q
theorem snd_asgT {f : Env → R D} {is : List Nat} {tg e : Expr} (he : PE X e (eD X exc W f)) (hg : PG X tg (gX X.K is)) (hs : swapsWithSole [tg] e pos.line X.env = pure false) (hw : swappedStores [tg] e X.env = pure none)
    (h1 : (assignEach [tg] X.env).map (·.2) = [assign tg X.env]) (h : ∀ j ∈ is, j ∉ io) : PS X (.Assign [tg] e pos) (sS X exc W io fun env => (f env).go fun d env1 => match bindT is d env1 with | some env2 => .nx env2 | none => .st) := by
  refine PS.imp (ps_asg he hg hs hw h1) fun D σ H q => ?_
  refine dX_go q fun w H1 F1 fp1 d env1 p1 r z => ?_
  cases eb : bindT is d env1 with
  | none => rw [eb] at z; exact False.elim z
  | some env2 =>
    rw [eb] at z
    exact bind_ok p1 r eb _ fun σ2 fp2 s2 p2 o => z σ2 F1 H1 fp2 s2 p2 (Io.off o h)
theorem snd_par {i j : Nat} {x y : Str} {a b : Expr} {fa fb : Env → R D} {px py pt : Pos} {kt k2 pt2} (hc : X.calm = true) (hN : X.N.Nodup) (hi : X.N[i]? = some x) (hj : X.N[j]? = some y) (hij : i ≠ j) (hx : X.env.scope.names.lookup x = some .local) (hy : X.env.scope.names.lookup y = some .local)
    (ha : PA X [a, b] (dG X.K exc W (relL (relD X.K)) (two fa (two fb fun env => .ok [] env)))) (hw : swappedStores [.Tuple [.Name x px, .Name y py] kt pt] (.Tuple [a, b] k2 pt2) X.env = pure (some [x, y])) (hs : swapsWithSole [.Tuple [.Name x px, .Name y py] kt pt] (.Tuple [a, b] k2 pt2) pos.line X.env = pure false)
    (h1 : i ∉ io) (h2 : j ∉ io) : PS X (.Assign [.Tuple [.Name x px, .Name y py] kt pt] (.Tuple [a, b] k2 pt2) pos) (sS X exc W io fun env => (fa env).go fun v env1 => (fb env1).go fun w env2 => .nx ((env2.set i (.fr v)).set j (.fr w))) := by
  refine PS.imp (ps_par hc hN hi hj hij hx hy ha hw hs) fun D σ H q => ?_
  refine dX_go (D := D) (io := io) (f := two fa (two fb fun env => .ok [] env)) (g := fun ds env => match ds with | [v, w] => .nx ((env.set i (.fr v)).set j (.fr w)) | _ => .st) ?_ fun ws H1 F1 fp1 ds env1 p1 r z => ?_
  · obtain ⟨F, env, fp, p, q⟩ := q
    refine ⟨F, env, fp, p, ?_⟩
    dsimp only at q ⊢
    unfold two
    cases e1 : fa env with
    | st => rw [e1] at q; exact q
    | er c env' => rw [e1] at q; exact q
    | ok v env1 =>
      rw [e1] at q
      dsimp only [R.go, R.bind] at q ⊢
      cases e2 : fb env1 with
      | st => rw [e2] at q; exact q
      | er c env' => rw [e2] at q; exact q
      | ok w env2 => rw [e2] at q; exact q
  · have r : All2 (relD X.K σ F1) ws ds := r
    cases r with
    | nil => exact False.elim z
    | cons r1 t =>
      cases t with
      | nil => exact False.elim z
      | cons r2 t =>
        cases t with
        | cons _ _ => exact False.elim z
        | nil =>
          obtain ⟨f2, s2, p2⟩ := p1.put (i := i) r1
          obtain ⟨f3, s3, p3⟩ := p2.put (i := j) r2
          exact ⟨_, _, rfl, z _ F1 H1 f3 (s2.trans s3) p3 ((Io.set h1).trans (Io.set h2))⟩
theorem snd_ex {f : Env → R Sl} {e : Expr} (he : PE X e (eE X exc W f)) (hs : swapsWith e none pos.line X.env = pure false) : PS X (.Expr e pos) (sS X exc W io fun env => (f env).go fun _ env1 => .nx env1) := by
  refine PS.imp (ps_expr he hs) fun D σ H q => ?_
  refine dE_go q fun w H1 F1 fp1 s env1 p1 z => ?_
  obtain ⟨f2, s2, p2⟩ := p1.tail
  exact z σ F1 H1 f2 s2 p2 Io.refl
theorem snd_ret {f : Env → R Sl} {e : Expr} (he : PE X e (eE X exc W f)) : PS X (.Return (some e) pos) (sS X exc W io fun env => (f env).go fun s env1 => .rt s env1) := by
  refine PS.imp (ps_ret he) fun D σ H q => ?_
  exact dE_go q fun w H1 F1 fp1 s env1 p1 z => z w σ F1 H1 fp1 .refl p1 Io.refl
theorem snd_retV {i : Nat} {x : Str} {p' : Pos} (hN : X.N[i]? = some x) (hv : Vis X.env.scope x) (hd : (x == ("__debug__" : Str)) = false) (hcd : (x == ("__classdict__" : Str)) = false) :
    PS X (.Return (some (.Name x p')) pos) (sS X exc W io fun env => match look env i with | .un => .st | s => .rt s (env.set i .un)) := by
  refine PS.imp (ps_ret (pe_var hN hv hd hcd)) fun D σ H q => ?_
  obtain ⟨F, env, fp, p, q⟩ := q
  have key : ∀ s, look env i = s → s ≠ .un → ∃ w, σ[i]? = some (some w) := fun s e ne => by
    by_cases hi : i < env.length
    · obtain ⟨o, fl, fi, fr, e1, e2, _, _⟩ := p.env.at i hi
      rw [e] at e2
      cases e2 with
      | un => exact absurd rfl ne
      | fr r => exact ⟨_, e1⟩
      | ol _ _ _ _ => exact ⟨_, e1⟩
      | od _ _ _ _ => exact ⟨_, e1⟩
    · rw [look_un hi] at e
      exact absurd e.symm ne
  have fin : ∀ s, look env i = s → s ≠ .un → SX X.K exc W io D σ F H fp (.rt s (env.set i .un)) → tRet (tVar i) D σ H := fun s e ne z => by
    obtain ⟨w, hw⟩ := key s e ne
    obtain ⟨fi, f2, h1, h2, h3, h4, h5⟩ := p.takeOut hw
    rw [e] at h1
    refine ⟨w, hw, z w σ F H (fi ++ f2) ⟨Same.refl _, fun b o e n => (by rw [n] at e; cases e), fun b o e _ => e, fun b m => .inl ((h5 b).mpr (List.mem_append.mp m))⟩ ⟨p.sub, .cons h1 h3.env, List.nodup_append.mpr ⟨h2, h3.nd, fun a m b m2 e => ?_⟩⟩ Io.refl⟩
    subst e
    exact h4 a m m2
  dsimp only at q
  cases e : look env i with
  | un => rw [e] at q; exact False.elim q
  | fr d => rw [e] at q; exact fin _ e (fun z => nomatch z) q
  | ol ds => rw [e] at q; exact fin _ e (fun z => nomatch z) q
  | od kvs => rw [e] at q; exact fin _ e (fun z => nomatch z) q
theorem snd_if {c : Expr} {a b : List Stmt} {fc : Env → R Bool} {fa fb : Env → Xo} (hc : PT X c (eB X exc W fc)) (ha : PSs X a (sS X exc W io fa)) (hb : PSs X b (sS X exc W io fb)) :
    PS X (.If c a b pos) (sS X exc W io fun env => (fc env).go fun k env1 => match k with | true => fa env1 | false => fb env1) := by
  refine PS.imp (ps_if hc ha hb) fun D σ H q => ?_
  refine dX_go q fun w H1 F1 fp1 k env1 p1 r z => ?_
  cases r
  cases w with
  | true =>
    rw [if_pos rfl]
    exact ⟨F1, env1, fp1, p1, z⟩
  | false =>
    rw [if_neg Bool.false_ne_true]
    exact ⟨F1, env1, fp1, p1, z⟩
theorem snd_pass : PS X (.Pass pos) (sS X exc W io fun env => .nx env) := by
  refine PS.imp ps_pass fun D σ H q => ?_
  obtain ⟨F, env, fp, p, q⟩ := q
  exact q σ F H fp .refl p Io.refl
theorem snd_none : PSs X [] (sS X exc W io fun env => .nx env) := by
  refine PSs.imp pss_nil fun D σ H q => ?_
  obtain ⟨F, env, fp, p, q⟩ := q
  exact q σ F H fp .refl p Io.refl
theorem snd_seqS {f g : Env → Xo} (h1 : PS X st (sS X exc W io f)) (h2 : PSs X sts (sS X exc W io g)) : PSs X (st :: sts) (sS X exc W io fun env => (f env).bind g) := by
  refine PSs.imp (pss_cons h1 h2) fun D σ H q => ?_
  obtain ⟨F, env, fp, p, q⟩ := q
  refine ⟨F, env, fp, p, ?_⟩
  dsimp only at q
  cases e : f env with
  | st => rw [e] at q; exact q
  | er c env' => rw [e] at q; exact q
  | rt s env' => rw [e] at q; exact q
  | nx env1 =>
    rw [e] at q
    exact fun σ' F' H' fp' s' p' i' => ⟨F', env1, fp', p', SX.later q s' i'⟩
/-! ### loops -/
theorem for_reading {K : PySem.W.Frag} {tg : List Nat} {it : Env → R (List D)} {body : Env → Xo} {tb : TS} {D : Ends} {σ : St} {H : Hp} (hb : ∀ D σ H, dS K exc W io body D σ H → tb D σ H) (hio : ∀ j ∈ tg, j ∉ io)
    (q : dS K exc W io (fun env => (it env).go fun xs env1 => forL tg body xs env1) D σ H) : tFor (iX K exc W it) (gX K tg) tb D σ H := by
  refine dX_go (rel := relI K) q fun J H1 F1 fp1 xs env1 p1 r z => ?_
  have hw : IterOk K F1 J xs := r
  refine L2.for_it hw.2 (fun i σ2 H2 => ∃ F env fp, Stp F1 H1 fp1 F H2 fp ∧ Pre K F H2 fp env σ2 ∧ Io io σ σ2 ∧ SX K exc W io D σ F1 H1 fp1 (forL tg body (xs.drop i) env)) ⟨F1, env1, fp1, .refl, p1, Io.refl, z⟩ ?_ ?_ ?_
  · rintro i σ2 H2 _ ⟨F, env, fp, s1, p, _⟩
    exact s1.same.trans p.sub
  · rintro i x σ2 H2 H3 hi ⟨F, env, fp, s1, p, io2, z2⟩ y
    have hd : xs[i]? = some xs[i] := List.getElem?_eq_getElem hi
    rw [List.drop_eq_getElem_cons hi] at z2
    unfold forL at z2
    cases eb : bindT tg xs[i] env with
    | none => rw [eb] at z2; exact False.elim z2
    | some env2 =>
      rw [eb] at z2
      dsimp only at z2
      refine bind_it p s1.same y hd eb _ fun σ3 F3 fp3 s3 p3 off => ?_
      have s13 := s1.trans s3
      have i3 : Io io σ σ3 := io2.trans (Io.off off hio)
      refine hb _ _ _ ⟨F3, env2, fp3, p3, ?_⟩
      have z3 : SX K exc W io D σ3 F3 H3 fp3 ((body env2).bind (forL tg body (xs.drop (i + 1)))) := SX.later z2 s13 i3
      cases e : body env2 with
      | st => rw [e] at z3; exact z3
      | er c env' => rw [e] at z3; exact z3
      | rt s env' => rw [e] at z3; exact z3
      | nx env4 =>
        rw [e] at z2
        exact fun σ4 F4 H4 fp4 s4 p4 i4 => ⟨F4, env4, fp4, s13.trans s4, p4, i3.trans i4, z2⟩
  · rintro σ2 H2 ⟨F, env, fp, s1, p, io2, z2⟩
    rw [List.drop_length] at z2
    exact z2 σ2 F H2 fp s1 p io2
theorem snd_for {tg : List Nat} {tgE iter : Expr} {it : Env → R (List D)} {body : List Stmt} {fb : Env → Xo} (hp : PassesOwn (model X.prog X.w) X.A X.env X.xe) (hc : X.calm = true) (hi : PI X tgE iter (iX X.K exc W it)) (hg : PG X tgE (gX X.K tg)) (hb : PSs X body (sS X exc W io fb))
    (hs : ∀ x, foldedSetIterable iter X.env x = pure x) (hio : ∀ j ∈ tg, j ∉ io) : PS X (.For tgE iter body [] pos) (sS X exc W io fun env => (it env).go fun xs env1 => forL tg fb xs env1) :=
  PS.imp (ps_for hp hc hi hg hb hs) fun D σ H q => for_reading (fun _ _ _ z => z) hio q
theorem snd_while {c : Expr} {body : List Stmt} {fc : Env → R Bool} {fb : Env → Xo} {n : Nat} (hp : PassesOwn (model X.prog X.w) X.A X.env X.xe) (hc : PT X c (eB X exc W fc)) (hb : PSs X body (sS X exc W io fb)) :
    PS X (.While c body [] pos) (sS X exc W io fun env => whileL fc fb n env) := by
  refine PS.imp (ps_while hp hc hb) fun D σ H q => ?_
  refine ⟨fun m σ2 H2 => Io io σ σ2 ∧ dS X.K exc W io (fun env => whileL fc fb m env) D σ2 H2, ⟨n, Io.refl, q⟩, ?_⟩
  rintro m σ2 H2 ⟨io2, q⟩
  cases m with
  | zero =>
    obtain ⟨_, _, _, _, z⟩ := q
    exact False.elim z
  | succ m =>
    refine dX_go (f := fc) (g := fun b env1 => match b with | true => (fb env1).bind (whileL fc fb m) | false => .nx env1) q fun w H1 F1 fp1 k env1 p1 r z => ?_
    cases r
    cases w with
    | false =>
      rw [if_neg Bool.false_ne_true]
      exact z σ2 F1 H1 fp1 .refl p1 Io.refl
    | true =>
      rw [if_pos rfl]
      refine ⟨fun σ' H' => Io io σ σ' ∧ dS X.K exc W io (fun env => whileL fc fb m env) D σ' H', fun σ' H' h => ⟨m, Nat.lt_succ_self m, h⟩, F1, env1, fp1, p1, ?_⟩
      dsimp only at z
      cases e : fb env1 with
      | st => rw [e] at z; exact z
      | er c env' => rw [e] at z; exact z
      | rt s env' => rw [e] at z; exact z
      | nx env4 =>
        rw [e] at z
        exact fun σ4 F4 H4 fp4 s4 p4 i4 => ⟨io2.trans i4, F4, env4, fp4, p4, SX.later z s4 i4⟩
end
end Dc

/-! Dc: append, extend, calls of a picked def, raise, constants of the module. -/
namespace Dc
open PySem PySem.Spec PyProof.Rows L2 RZ
section
variable {X : Cx} {exc : Nat → Addr} {W : WX} {io : List Nat} {pos : Pos} {e : Expr}
def appK (i : Nat) (d : D) (env1 : Env) : R Sl := match look env1 i with
  | .ol ds => if ds.length < sizeLine then .ok (.fr .none) (env1.set i (.ol (ds ++ [d]))) else .st
  | _ => .st
def extK (i : Nat) (s : Sl) (env1 : Env) : R Sl := match s, look env1 i with
  | .ol xs, .ol ds => if ds.length + xs.length ≤ sizeLine then .ok (.fr .none) (env1.set i (.ol (ds ++ xs))) else .st
  | _, _ => .st
theorem snd_app {f : Env → R D} {i : Nat} {o : Expr} {apos cpos : Pos} (ho : PE X o (tVar i)) (ha : PE X e (eD X exc W f)) (hn : noStar e = true) (hb : attributeBase o "append" X.env (eval o X.env) = eval o X.env)
    (hfew : ((backTo cpos (starEach [e] X.env)).all (fun x => !x.1) && (backToKw cpos (keywordEach [] X.env)).all (fun x => x.1.isSome) && decide ([e].length + ([] : List Keyword).length + (if ([] : List Keyword).isEmpty then 0 else 1) < 30)) = true)
    (hline : (apos.endLine == cpos.line) = true) : PE X (.Call (.Attribute o "append" apos) [e] [] cpos) (eE X exc W (appE i f)) := by
  refine PE.imp (pe_bm PySem.F.plainAttrs_list PySem.F.slot_list_append PySem.F.type_list_append mt_append ho (pa_cons ha pa_nil (star_cons hn)) hb hfew hline (star_cons hn) rfl) fun σ H Q q => ?_
  obtain ⟨F, env, fp, p, q⟩ := q
  unfold appE at q
  cases el : look env i with
  | un => rw [el] at q; exact False.elim q
  | fr d => rw [el] at q; exact False.elim q
  | od d => rw [el] at q; exact False.elim q
  | ol ds0 =>
    rw [el] at q
    dsimp only at q
    obtain ⟨a, ws0, hs, hH, r0⟩ := slot_ol p el
    refine ⟨.ref a, hs, .inl ⟨rfl, ws0, .inl (.inl hH)⟩, ?_⟩
    refine dY_bind (rel := relD X.K) (fin := finE X.K) (f := f) (g := appK i) ⟨p, q⟩ fun w H1 F1 env1 fp1 d s1 r1 z1 => ?_
    obtain ⟨p1, z1⟩ := z1
    unfold appK at z1
    cases el1 : look env1 i with
    | un => rw [el1] at z1; exact False.elim z1
    | fr d => rw [el1] at z1; exact False.elim z1
    | od d => rw [el1] at z1; exact False.elim z1
    | ol ds =>
      rw [el1] at z1
      dsimp only at z1
      obtain ⟨a1, ws1, hs1, hH1, r11⟩ := slot_ol p1 el1
      rw [hs] at hs1
      cases hs1
      by_cases hz : ds.length < sizeLine
      · rw [if_pos hz] at z1
        refine ⟨a, ws1, w, rfl, rfl, hH1, by rw [r11.length]; exact hz, ?_⟩
        obtain ⟨p2, s2⟩ := p1.writeAt el1 hs (r11.append (.cons r1 .nil)) (by rw [List.length_append]; exact hz)
        exact z1 .non F1 _ fp1 s2 ⟨p2.sub, EnvOk.cons (f1 := []) (.fr .non) p2.env, p2.nd⟩
      · rw [if_neg hz] at z1
        exact False.elim z1
/-- one reading behind another, the first one's value maybe a new list of its own -/
theorem dE_bind {α' β' : Type} {fin : St → Hp → Hp → List Addr → β' → α' → Env → Prop} {f : Env → R Sl} {g : Sl → Env → R α'} {K : PySem.W.Frag} {σ : St} {H : Hp} {Q : β' → Hp → Prop} {T : V → Hp → Prop} {F : Hp} {env : Env} {fp : List Addr}
    (h : dY K exc W fin (fun env => (f env).bind g) σ H Q F env fp) (k : ∀ w H1 F1 fp1 s env1, Stp F H fp F1 H1 fp1 → Pre K F1 H1 fp1 (s :: env1) (some w :: σ) →
      RQ (fun a env' => ∀ w F' H' fp', Stp F1 H1 fp1 F' H' fp' → fin σ F' H' fp' w a env' → Q w H') (fun c env' => ∀ F' H' fp', Stp F1 H1 fp1 F' H' fp' → Pre K F' H' fp' env' σ → W (.ref (exc c)) none σ H') (g s env1) → T w H1) : dE K exc W f σ H T := by
  obtain ⟨p, q⟩ := h
  dsimp only at q
  refine ⟨F, env, fp, p, ?_⟩
  cases e : f env with
  | st => rw [e] at q; exact q
  | er c env' => rw [e] at q; exact q
  | ok a1 env1 =>
    rw [e] at q
    intro w F1 H1 fp1 s1 p1
    refine k w H1 F1 fp1 a1 env1 s1 p1 ?_
    exact RQ.mono q (fun a env' z w F' H' fp' st x => z w F' H' fp' (s1.trans st) x) fun c env' z F' H' fp' st x => z F' H' fp' (s1.trans st) x
theorem snd_ext {f : Env → R Sl} {i : Nat} {o : Expr} {apos cpos : Pos} (ho : PE X o (tVar i)) (ha : PE X e (eE X exc W f)) (hn : noStar e = true) (hb : attributeBase o "extend" X.env (eval o X.env) = eval o X.env)
    (hfew : ((backTo cpos (starEach [e] X.env)).all (fun x => !x.1) && (backToKw cpos (keywordEach [] X.env)).all (fun x => x.1.isSome) && decide ([e].length + ([] : List Keyword).length + (if ([] : List Keyword).isEmpty then 0 else 1) < 30)) = true)
    (hline : (apos.endLine == cpos.line) = true) : PE X (.Call (.Attribute o "extend" apos) [e] [] cpos) (eE X exc W (extE i f)) := by
  refine PE.imp (pe_bm PySem.F.plainAttrs_list PySem.F.slot_list_extend PySem.F.type_list_extend mt_extend ho (pa_cons ha pa_nil (star_cons hn)) hb hfew hline (star_cons hn) rfl) fun σ H Q q => ?_
  obtain ⟨F, env, fp, p, q⟩ := q
  unfold extE at q
  cases el : look env i with
  | un => rw [el] at q; exact False.elim q
  | fr d => rw [el] at q; exact False.elim q
  | od d => rw [el] at q; exact False.elim q
  | ol ds0 =>
    rw [el] at q
    dsimp only at q
    obtain ⟨a, ws0, hs, hH, r0⟩ := slot_ol p el
    refine ⟨.ref a, hs, .inl ⟨rfl, ws0, .inl (.inl hH)⟩, ?_⟩
    refine dE_bind (fin := finE X.K) (f := f) (g := extK i) ⟨p, q⟩ fun w H1 F1 fp1 s env1 s1 p1 z1 => ?_
    obtain ⟨f1, f2, ef, h1, p2, nd1, dis⟩ := p1.uncons
    unfold extK at z1
    cases s with
    | un => exact False.elim z1
    | fr d => exact False.elim z1
    | od d => exact False.elim z1
    | ol xs =>
      cases el1 : look env1 i with
      | un => rw [el1] at z1; exact False.elim z1
      | fr d => rw [el1] at z1; exact False.elim z1
      | od d => rw [el1] at z1; exact False.elim z1
      | ol ds =>
        rw [el1] at z1
        dsimp only at z1
        obtain ⟨a1, ws1, hs1, hH1, r11⟩ := slot_ol p2 el1
        rw [hs] at hs1
        cases hs1
        cases h1 with
        | @ol b zs _ hb1 hb2 rz hzz =>
          by_cases hz : ds.length + xs.length ≤ sizeLine
          · rw [if_pos hz] at z1
            refine ⟨a, b, ws1, zs, rfl, rfl, hH1, hb1, by rw [r11.length, rz.length]; exact hz, ?_⟩
            obtain ⟨p3, s3⟩ := p2.writeAt el1 hs (r11.append rz) (by rw [List.length_append]; exact hz)
            refine z1 .non F1 _ f2 ?_ ⟨p3.sub, EnvOk.cons (f1 := []) (.fr .non) p3.env, p3.nd⟩
            have e2 : ∀ x, x ∈ f2 → x ∈ fp1 := fun x m => by rw [ef]; exact List.mem_append_right _ m
            exact ⟨s3.same, fun x o e n => (s3.ext x o e n).imp id (e2 x), fun x o e n => s3.frame x o e fun m => n (e2 x m), fun x m => (s3.fpx x m).imp (e2 x) id⟩
          · rw [if_neg hz] at z1
            exact False.elim z1

/-! ### raise -/
/-- a class of refusals -/
structure ClOk (K : PySem.W.Frag) (mg : Str → Option Value) (C : Addr) (x : Str) : Prop where
  ex : PySem.W.excIn K C [.type "ValueError", .type "Exception", .type "BaseException", .type "object"] "ValueError.__new__" = true
  g : mg x = some (.ref C)
  k : PySem.W.keepIn K (.ref C) = true
  s : PySem.W.subIn K (.ref C) (.type "BaseException") = some true
  t : PySem.W.typeIn K (.ref C) = some (.type "type")
theorem snd_raise {x m : Str} {j c : Nat} {p p2 p3 : Pos} (hc : X.calm = true) (tk : Takes X W) (C : ClOk X.K X.mg (exc c) x) (hg : Gl X x) (hd : (x == ("__debug__" : Str)) = false) :
    PS X (.Raise (some (.Call (.Name x p) [.Constant (.str m) j p2] [] p3)) none pos) (sS X exc W io fun env => .er c env) := by
  refine PS.imp (ps_raise hc tk (pmk_own PySem.F.excBase_ValueError C.ex C.g C.k (raises_own C.s C.t) hg hd)) fun D σ H q => ?_
  obtain ⟨F, env, fp, p, q⟩ := q
  exact q σ F H fp .refl p Io.refl
/-! ### constants of the module, -1 -/
theorem snd_globI {x : Str} {i : Int} {tk : Tok} (hg : Gl X x) (hm : X.mg x = some (.int i tk)) (hd : (x == ("__debug__" : Str)) = false) : PE X (.Name x pos) (eE X exc W fun env => .ok (.fr (.int i)) env) :=
  snd_cst (pe_glob (v := .int i) hg hm ⟨tk, rfl⟩ hd) rfl fun F => .int i
theorem snd_neg {i : Int} {j : Nat} {p : Pos} : PE X (.UnaryOp .USub (.Constant (.int i) j p) pos) (eE X exc W fun env => .ok (.fr (.int (-i))) env) := by
  refine PE.imp (pe_un un_neg pe_int) fun σ H Q q => ?_
  exact ⟨i, rfl, dX_ok (w := .int (-i)) q fun F fp env p => ⟨p.sub, EnvOk.cons (f1 := []) (.fr (.int _)) p.env, p.nd⟩⟩
/-! ### name = [..] on one line -/
theorem snd_setLc {i : Nat} {y : Str} {py : Pos} {elt tgE iter : Expr} {ifs : List Expr} {scope : Scope} {own : List (Str × Nat)} {spos : Pos} {tg : List Nat} {it : Env → R (List D)} {cond : Env → R Bool} {el : Env → R D} {tt : TT} (hc : X.calm = true) (hN : X.N.Nodup) (hy : X.N[i]? = some y) (hyl : X.env.scope.names.lookup y = some .local)
    (hk : X.env.scope.kind = .function) (hl : (py.line == pos.line) = true) (ha : (scope.names.any fun (n, k) => n == y && (k == .local || k == .cell)) = false)
    (hi : PI X tgE iter (iX X.K exc W it)) (ok : BlkOk X.N X.env.scope scope own) (ho : own.map (·.2) = tg)
    (hg : ∀ (s : Shared) (H : Hp) (C : Addr) (cl : List (Str × Addr)) (fp : List Addr), PG (X.blk s H scope (compEnvC scope cl C X.env) fp) tgE (gX X.K tg))
    (ht : ∀ (s : Shared) (H : Hp) (C : Addr) (cl : List (Str × Addr)) (fp : List Addr), PTs (X.blk s H scope (compEnvC scope cl C X.env) fp) ifs tt) (htt : ∀ σ H Q, dG X.K exc W0 relB cond σ H Q → tt σ H Q)
    (he : ∀ (s : Shared) (H : Hp) (C : Addr) (cl : List (Str × Addr)) (fp : List Addr), PE (X.blk s H scope (compEnvC scope cl C X.env) fp) elt (dG X.K exc W0 (relD X.K) el)) (hs : ∀ x, foldedSetIterable iter X.env x = pure x) (h : i ∉ io) :
    PS X (.Assign [.Name y py] (.ListComp elt [⟨tgE, iter, ifs, 0⟩] scope pos) spos) (sS X exc W io fun env => (compE tg it cond el env).go fun s env1 => .nx (env1.set i s)) := by
  subst ho
  refine PS.imp (ps_setLc hc hN hy hyl (sw_true hk hyl hl ha) hi ok hg ht he hs) fun D σ H q => ?_
  have z := asg_reading (f := compE (own.map (·.2)) it cond el) h q
  exact comp_reading htt (fun σ H Q q => q) z
/-! ### [f, g][i](..) -/
theorem Pre.junk {K : PySem.W.Frag} {F H : Hp} {fp : List Addr} {env : Env} {σ : St} {p : Addr} {o : HO} (x : Pre K F H fp env σ) (hp : H p = none) : Pre K F (upd H p o) fp env σ ∧ Stp F H fp F (upd H p o) fp := by
  have ne : ∀ b u, H b = some u → b ≠ p := fun b u e z => by
    rw [z, hp] at e
    cases e
  have sm : Same H (upd H p o) := fun b u e => by
    rw [upd_ne (ne b u e)]
    exact e
  refine ⟨⟨x.sub.trans sm, x.env.mono (Same.refl _) (fun a u _ e => sm a u e) (fun a m => (x.env.there a m).1), x.nd⟩, ⟨Same.refl _, fun b o e n => (by rw [n] at e; cases e), fun b u e _ => sm b u e, fun b m => .inl m⟩⟩
/-- the def at a keeps the promise of the f-th one -/
structure Can (P : Program) (w : World) (K : PySem.W.Frag) (mg : Str → Option Value) (base : Heap) (exc : Nat → Addr) (k : Nat) (a : Addr) (n : Nat) (call : List Sl → R Sl) : Prop where
  ex : ∃ (fd : FuncData) (ps : List Str), FnOk P w K mg base (L2.CX P w) k a fd ps (spF K exc n call) ∧ PySem.W.keepIn K (.ref a) = true ∧ Binds K fd ps []
def tRefs (as : List Addr) : TA := fun _ H Q => Q (as.map V.ref) H
theorem refs_nil : PA X [] (tRefs []) := PA.imp pa_nil fun σ H Q q => q
theorem refs_cons {x : Str} {a : Addr} {as : List Addr} {es : List Expr} {p : Pos} (hg : Gl X x) (hm : X.mg x = some (.ref a)) (hd : (x == ("__debug__" : Str)) = false) (t : PA X es (tRefs as)) : PA X (.Name x p :: es) (tRefs (a :: as)) :=
  PA.imp (pa_cons (pe_glob (v := .ref a) hg hm rfl hd) t (star_cons rfl)) fun σ H Q q => q
theorem call_node {f : Expr} {es : List Expr} {env : PySem.Env} (h : ∀ p q, f ≠ .Name p q) (h2 : ∀ o m p, f ≠ .Attribute o m p) : eval (.Call f es [] pos) env = (do callWith pos (← eval f env) [] (backTo pos (starEach es env)) (backToKw pos (keywordEach [] env))) := by
  cases f with
  | Name p q => exact absurd rfl (h p q)
  | Attribute o m p => exact absurd rfl (h2 o m p)
  | _ => rfl
end
end Dc

/-! Dc: [f, g][i](..). -/
namespace Dc
open PySem PySem.Spec PyProof.Rows L2 RZ
section
variable {X : Cx} {exc : Nat → Addr} {W : WX} {pos : Pos} {e : Expr}
def selE (m : Nat) (fix : Env → R D) (call : Nat → List Sl → R Sl) (g : Env → R (List Opd)) (env : Env) : R Sl := (fix env).bind fun d env1 => match d with
  | .int k => match place m k with
    | some j => callE (call j) g env1
    | none => .st
  | _ => .st
def selK (m : Nat) (call : Nat → List Sl → R Sl) (g : Env → R (List Opd)) (d : D) (env1 : Env) : R Sl := match d with
  | .int k => match place m k with
    | some j => callE (call j) g env1
    | none => .st
  | _ => .st
theorem snd_sel {fix : Env → R D} {g : Env → R (List Opd)} {call : Nat → List Sl → R Sl} {n k : Nat} {as : List Addr} {names : List Expr} {ix : Expr} {es : List Expr} {p1 p2 : Pos} (hF : ∀ j a, as[j]? = some a → Can X.prog X.w X.K X.mg X.base exc k a n (call j)) (hr : Room k X.A) (tk : Takes X W)
    (hn : PA X names (tRefs as)) (hix : PE X ix (eD X exc W fix)) (hsl : notSlice ix = true) (ha : PA X (e :: es) (dG X.K exc W (relL (relO X.K)) g)) (hs : noStar e = true) (hz : as.length ≤ sizeLine)
    (hpl : (backTo pos (starEach es X.env)).any (·.1) = false) (hg : ∀ env as env', g env = .ok as env' → as.length = n ∧ (slotsOf as).Nodup) : PE X (.Call (.Subscript (.List names p1) ix p2) (e :: es) [] pos) (eE X exc W (selE as.length fix call g)) := by
  refine ⟨fun pins s σ H Q I q => ?_⟩
  obtain ⟨F, env, fp, p, q⟩ := q
  rw [call_node (fun _ _ z => (by cases z)) (fun _ _ _ z => (by cases z))]
  refine wpAny_bind (thn ((pe_ix (pos := p2) ix_list (pe_lst (pos := p1) hn) hix (plain_of hsl)).run pins s σ H (fun v H1 => ∃ a j, v = .ref a ∧ as[j]? = some a ∧ dE X.K exc W (callE (call j) g) σ H1 Q) I ?_) fun u s1 ⟨v, H1, I1, r1, a, j, ev, ej, q1⟩ => ?_)
  · refine ⟨by rw [List.length_map]; exact hz, fun b hb => ?_⟩
    obtain ⟨pj, sj⟩ := p.junk (o := .lst (as.map V.ref)) hb
    have nb : b ∉ fp := fun m => by
      obtain ⟨_, u, eu⟩ := p.env.there b m
      rw [hb] at eu
      cases eu
    refine dY_bind (rel := relD X.K) (fin := finE X.K) (f := fix) (g := selK as.length call g) ⟨pj, RQ.mono q (fun a env' z w F' H' fp' st x => z w F' H' fp' (sj.trans st) x) fun c env' z F' H' fp' st x => z F' H' fp' (sj.trans st) x⟩ fun w H1 F1 env1 fp1 d s1 r1 z1 => ?_
    obtain ⟨p1, z1⟩ := z1
    unfold selK at z1
    cases d with
    | int i =>
      dsimp only at z1
      cases ep : place as.length i with
      | none => rw [ep] at z1; exact False.elim z1
      | some j =>
        rw [ep] at z1
        dsimp only at z1
        have hj : j < as.length := by
          rw [place_ix] at ep
          exact (ixN_seq ep).2.1
        have r1 : RV X.K F1 w (.int i) := r1
        cases r1
        have hb1 : H1 b = some (.lst (as.map V.ref)) := s1.frame b _ (by rw [upd_same]) nb
        refine ⟨b, as.map V.ref, i, .ref as[j], rfl, rfl, .inl (.inl hb1), ?_, as[j], j, rfl, List.getElem?_eq_getElem hj, F1, env1, fp1, p1, z1⟩
        unfold atI
        rw [List.length_map, ← place_ix, ep, Option.bind_some, List.getElem?_map, List.getElem?_eq_getElem hj]
        rfl
    | _ => exact False.elim z1
  · subst ev
    cases r1
    obtain ⟨fd, ps, F, hk, hb⟩ := (hF j a ej).ex
    have q2 := call_reading hg q1
    refine PySem.W.callWith_K (h₀ := X.base) I.ok.mod.kin hk (thn (ha.run pos pins s1 σ H1 _ I1 q2) fun us s2 ⟨vs, H2, I2, r, q3⟩ => ⟨I2.kIn, ?_⟩) (star_cons hs) hpl
    exact run_fnS F hr hb (passAt tk σ) I2 r q3
end
end Dc

/-! Dc: which refusal it was. -/
namespace Dc
open PySem PySem.Spec PyProof.Rows L2 RZ
/-! ### list.count of truth values -/
section
variable {X : Cx}
def rCountB (K : PySem.W.Frag) : V → List V → Hp → VK → Prop := fun x xs H Q => ∃ (a : Addr) (bs : List Bool), x = V.ref a ∧ xs = [.bl true] ∧ SqL K H a (bs.map V.bl) ∧ Q (.int ((bs.count true : Nat) : Int)) H
theorem dpAll_bools {K : PySem.W.Frag} {H : Hp} : ∀ bs : List Bool, DpAll K H (bs.map V.bl) (bs.map PyData.bool)
  | [] => .nil
  | b :: bs => .cons (.bl b) (dpAll_bools bs)
theorem lay_bools : ∀ bs : List Bool, PyData.canLayAll0 (bs.map PyData.bool) = true
  | [] => by simp [PyData.canLayAll0]
  | b :: bs => by simp [PyData.canLayAll0, PyData.canLay0, lay_bools bs]
theorem depth_bools : ∀ bs : List Bool, PyData.depthAll (bs.map PyData.bool) = 0
  | [] => by simp [PyData.depthAll]
  | b :: bs => by simp [PyData.depthAll, PyData.depth, depth_bools bs]
theorem countP_bools : ∀ bs : List Bool, (bs.map PyData.bool).countP (fun y => PyData.eqv y (.bool true)) = bs.count true
  | [] => rfl
  | b :: bs => by
    rw [List.map_cons, List.countP_cons, countP_bools bs, List.count_cons]
    cases b <;> rfl
theorem mt_countB (hu : X.A.units + 65 < cLine) : MtR X "list.count" (rCountB X.K) := by
  intro pins s σ H x xs v us Q I rx rxs h
  obtain ⟨a, bs, rfl, rfl, hs, q⟩ := h
  cases rx
  cases rxs with
  | cons ry rt =>
    rename_i uy ut
    cases rt
    cases ry
    obtain ⟨its, rv, ⟨⟨cls, dd, data, sls⟩, n, ho, hc, hdn, hdt⟩, hlen⟩ := I.list hs
    simp only at hc hdt
    subst hc hdt
    obtain ⟨as, h4⟩ := Dp.readsAll I _ _ its (dpAll_bools bs) rv
    obtain ⟨bs1, r1⟩ := Dp.reads I (.bool true) (.bl true) (.bool true) (.bl true) rfl
    have hmap : its.map (SeqAt.readOf s.heap) = bs.map PyData.bool := SeqAt.readsAll_map _ its as (lay_bools bs) h4
    have hroom : X.A.units + 1 + min (PyData.depthAll (bs.map PyData.bool)) (PyData.bool true).depth < cLine := by
      rw [depth_bools]
      omega
    refine call_meets PySem.F.slot_list_count ⟨_, ho, rfl⟩ PySem.F.entry_list_count (PySem.F.args_list_count_2 _ _)
      (SeqAt.list_countAt a its.toArray n dd sls (.bool true) (fun u => PyData.eqv (SeqAt.readOf s.heap u) (.bool true))) ⟨ho, SeqAt.items_eqAt (vs := its.toArray) (show ReadsAll s.heap its.toArray.toList _ as from h4) r1 (lay_bools bs) (by simp [PyData.canLay0]) hroom, ?_⟩
    have e : List.countP (fun u => PyData.eqv (SeqAt.readOf s.heap u) (.bool true)) its.toArray.toList = bs.count true := by
      rw [← countP_bools bs, ← hmap, List.countP_map]
      rfl
    rw [e]
    exact ⟨.int _, H, I.tok _, ⟨_, rfl⟩, q⟩
end

/-! ### isinstance of the caught refusal, wherever it is pinned -/
theorem isE_pinned {X : Cx} {a D : Addr} {oe : Obj} (hm : (a, oe) ∈ X.pn) (C : ExcC X.K D) (hz : Zc (.ref D) none oe) (hf : ∃ vs, oe.data = .fields vs) : CallR X (.builtin "isinstance") (rIsE X.K D a) := by
  intro pins s σ H xs us Q I r ⟨c, cv, b, exs, hcv, e, q⟩
  subst exs
  cases r with
  | cons rx rr =>
    cases rr with
    | cons rt rr =>
      cases rr
      cases rx
      cases hcv _ rt
      have hget := (I.pin (a, oe) (List.mem_append_left _ hm)).1
      obtain ⟨vs, hv⟩ := hf
      have J : PySem.W.InstAt s.heap a oe D none := by
        obtain ⟨oc, od, oda, osl⟩ := oe
        obtain ⟨h1, h2⟩ := hz
        dsimp only at h1 h2 hv
        subst h1 h2 hv
        exact ⟨hget, rfl, rfl, trivial⟩
      exact PySem.W.kia_one (PySem.W.handS_kitx_exc C.hg C.hk C.hs C.hd C.ha C.hn C.ht C.hm) I.kIn J e (fun z => nomatch z) fun tk => ⟨.bl b, H, I.kept (t' := tk) fun _ _ z => z, rfl, q⟩

/-! ### a def that gets the caught refusal -/
/-- its answer: a new pair of 'refused' and a number -/
def spW (n : Int) (H : Hp) (Q : VK) : Prop := ∀ H' q, Same H H' → H q = none → H' q = some (.tup [.str (Str.ofString "refused"), .int n]) → Q (.ref q) H'
structure FnE (P : Program) (w : World) (K : PySem.W.Frag) (mg : Str → Option Value) (base : Heap) (f : Addr) (fd : FuncData) (ps : List Str) (D : Addr) (n : Int) : Prop where
  run : ∀ (A : Around) (outer : List PySem.Env) (s : Shared) (H : Hp) (args : Args) (Q : VK) (E : XK) (a : Addr) (oe : Obj), A.depth + 2 < recursionLimit ∧ A.units + 150 < cLine → Zc (.ref D) none oe → (∃ vs, oe.data = .fields vs) → L2H.PinOk outer H s (a, oe) → Env0 P w K mg base A outer s H →
    BindsTo s fd args (ps.zip [.ref a]) → spW n H Q → codeAny (model P w) A (.call (.ref f) args) (CR (L2.CX P w) outer P w H s Q E) s
theorem fnE_of {P : Program} {w : World} {K : PySem.W.Frag} {mg : Str → Option Value} {base : Heap} {f : Addr} {name qual : Str} {params : Arguments} {body : List Stmt} {scope : Scope} {dV kV doc pm cdv ct oc : Value} {an od : Option Addr} {osl : Array (Option Value)} {N ps : List Str} {D : Addr} {n : Int}
    (lk : K.lookup f = some ⟨oc, od, .func (PySem.W.fnOf name qual params body scope dV kV doc pm an cdv ct), osl⟩) (hcd : PySem.W.codeIn K cdv qual = true) (S : FnScope N ps scope) (hl : ps.length = 1)
    (hbody : ∀ (A : Around) (outer : List PySem.Env) (s : Shared) (H : Hp) (Q : VK) (E : XK) (a : Addr) (oe : Obj), Zc (.ref D) none oe → (∃ vs, oe.data = .fields vs) → (A.deeper (envOfC qual scope s.heap.objs.size f cdv)).units + 120 < cLine → spW n H Q →
      ∃ t, PSs (L2H.cxH (L2.CX P w) P w K mg base N qual scope f cdv A outer s H E (a, oe)) body t ∧ t { nx := fun _ H' => Q .non H', rt := Q } (L2.start N [.ref a]) H) :
    FnE P w K mg base f (PySem.W.fnOf name qual params body scope dV kV doc pm an cdv ct) ps D n := by
  constructor
  intro A outer s H args Q E a oe hr hz hf hpin e0 hb hsp
  have KX : K.In s.heap := e0.mod.kin.keeps fun b o e => (e0.bs b o e).1
  have hkind : ∀ y ∈ ps.zip [Value.ref a], scope.names.lookup y.1 = some .local ∨ (scope.names.lookup y.1 = some .cell ∧ ((cellsFrom (s.heap.objs.size + 1) scope.names []).lookup y.1).isSome = true) := by
    rintro ⟨x, v⟩ hy
    exact (S.par x (List.of_mem_zip hy).1).imp id fun q => ⟨q, PySem.W.cellsFrom_some _ _ _ (.inl q)⟩
  refine codeAny_call_function (by omega) (KX _ _ lk) rfl S.co S.gen rfl (PySem.W.codeRec_of KX hcd) (hb _ _ _ _ (wpAny_newFunctionEnv_cells S.kind hkind fun env he s1 x => ?_))
  subst he
  refine ⟨(e0.mod.nolimit.keeps fun b o e => (e0.bs b o e).1).keeps x.toInCall.keep, codeAny_func ?_⟩
  obtain ⟨t, ht, hq⟩ := hbody A outer s H Q E a oe hz hf (by show A.units + 3 + 120 < cLine; omega) hsp
  have I := L2H.inv_startH (CX := L2.CX P w) (E := E) (vs := [.ref a]) S hpin e0 (by rw [hl]; rfl) (.cons rfl .nil) x
  refine wpAny_mono (ht.run [] s1 _ H _ I hq) (fun fl s' hs => ?_) fun e s' hs => hs
  cases fl with
  | ret u => exact hs.elim fun v ⟨_, H', J, rv, q⟩ => ⟨v, H', J.os, J.bare, J.base, J.hok, rv, q⟩
  | next => exact hs.elim fun _ ⟨H', J, q⟩ => ⟨.non, H', J.os, J.bare, J.base, J.hok, rfl, q⟩
  | brk => exact hs.elim fun _ ⟨_, _, q⟩ => q.elim
  | cont => exact hs.elim fun _ ⟨_, _, q⟩ => q.elim
end Dc

/-! Dc: try, and the def that tells refusals apart. -/
namespace Dc
open PySem PySem.Spec PyProof.Rows L2 RZ
/-! ### the body of that def -/
section
variable {Y : Cx} {a D : Addr} {pos : Pos}
def tBE (a : Addr) (b : Bool) : TE := fun σ H Q => σ[0]? = some (some (.ref a)) ∧ Q (.bl b) H
def tBEs (a : Addr) (bs : List Bool) : TA := fun σ H Q => σ[0]? = some (some (.ref a)) ∧ Q (bs.map V.bl) H
theorem pe_isOwn {C : Addr} {b : Bool} {xe x : Str} {p1 p2 p3 : Pos} (hi : CallR Y (.builtin "isinstance") (rIsE Y.K D a)) (hN : Y.N[0]? = some xe) (hv : Vis Y.env.scope xe) (hd : (xe == ("__debug__" : Str)) = false) (hcd : (xe == ("__classdict__" : Str)) = false)
    (hgI : Gl Y "isinstance") (hmI : Y.mg "isinstance" = none) (hg : Gl Y x) (hm : Y.mg x = some (.ref C)) (hxd : (x == ("__debug__" : Str)) = false) (hk : PySem.W.kitOne Y.K (.ref D) (.ref C) = some b) : PE Y (.Call (.Name "isinstance" p1) [.Name xe p2, .Name x p3] [] pos) (tBE a b) := by
  refine PE.imp (pe_callB hi hgI hmI (by decide) (pa_cons (pe_var hN hv hd hcd) (pa_cons (pe_glob (v := .ref C) hg hm rfl hxd) pa_nil))) fun σ H Q ⟨h0, q⟩ => ?_
  exact ⟨.ref a, h0, .ref C, .ref C, b, rfl, fun u r => r, hk, q⟩
theorem pe_isVE {b : Bool} {xe : Str} {p1 p2 p3 : Pos} (hi : CallR Y (.builtin "isinstance") (rIsE Y.K D a)) (hN : Y.N[0]? = some xe) (hv : Vis Y.env.scope xe) (hd : (xe == ("__debug__" : Str)) = false) (hcd : (xe == ("__classdict__" : Str)) = false)
    (hgI : Gl Y "isinstance") (hmI : Y.mg "isinstance" = none) (hg : Gl Y "ValueError") (hm : Y.mg "ValueError" = none) (hk : PySem.W.kitOne Y.K (.ref D) (.type "ValueError") = some b) : PE Y (.Call (.Name "isinstance" p1) [.Name xe p2, .Name "ValueError" p3] [] pos) (tBE a b) := by
  refine PE.imp (pe_callB hi hgI hmI (by decide) (pa_cons (pe_var hN hv hd hcd) (pa_cons (pe_bltn (v := .ty "ValueError") hg hm (u := .type "ValueError") (by decide) rfl) pa_nil))) fun σ H Q ⟨h0, q⟩ => ?_
  exact ⟨.ref a, h0, .ty "ValueError", .type "ValueError", b, rfl, fun u r => r, hk, q⟩
theorem bes_nil : PA Y [] (tBEs a []) := PA.imp pa_nil fun σ H Q q => q.2
theorem bes_cons {b : Bool} {bs : List Bool} {e : Expr} {es : List Expr} (h : PE Y e (tBE a b)) (hs : noStar e = true) (t : PA Y es (tBEs a bs)) : PA Y (e :: es) (tBEs a (b :: bs)) := PA.imp (pa_cons h t (star_cons hs)) fun σ H Q q => ⟨q.1, q.1, q.2⟩
/-- own = [..] -/
def tW1 (a : Addr) (bs : List Bool) : TS := fun D σ H => σ = [some (.ref a), none] ∧ ∀ p H', H p = none → H' p = some (.lst (bs.map V.bl)) → Same H H' → D.nx [some (.ref a), some (.ref p)] H'
theorem same_new {H : Hp} {p : Addr} {o : HO} (h : H p = none) : Same H (upd H p o) := fun b u e => by
  rw [upd_ne fun z => by rw [z, h] at e; cases e]
  exact e
theorem ps_w1 {bs : List Bool} {es : List Expr} {xo : Str} {p1 p2 : Pos} (h : PA Y es (tBEs a bs)) (hz : bs.length ≤ 100) (hN : Y.N.Nodup) (hi : Y.N[1]? = some xo) (hx : Y.env.scope.names.lookup xo = some .local) : PS Y (.Assign [.Name xo p1] (.List es p2) pos) (tW1 a bs) := by
  refine PS.imp (ps_set hN hi (.inl hx) (pe_lst h) rfl (.inr hx)) fun D σ H ⟨e, q⟩ => ?_
  subst e
  refine ⟨rfl, by rw [List.length_map]; exact Nat.le_of_lt (small1000 (by omega)), fun p hp => ?_⟩
  exact q p _ hp upd_same (same_new hp)
/-- own.extend([..]) -/
def tW2 (a : Addr) (bs : List Bool) : TS := fun D σ H => ∃ (p : Addr) (bs0 : List Bool), σ = [some (.ref a), some (.ref p)] ∧ H p = some (.lst (bs0.map V.bl)) ∧ bs0.length + bs.length ≤ 100 ∧ ∀ H', H' p = some (.lst ((bs0 ++ bs).map V.bl)) → (∀ b u, b ≠ p → H b = some u → H' b = some u) → D.nx σ H'
theorem ps_w2 {bs : List Bool} {es : List Expr} {xo : Str} {p1 p2 apos cpos : Pos} (h : PA Y es (tBEs a bs)) (hi : Y.N[1]? = some xo) (hv : Vis Y.env.scope xo) (hd : (xo == ("__debug__" : Str)) = false) (hcd : (xo == ("__classdict__" : Str)) = false) (hline : (apos.endLine == cpos.line) = true) :
    PS Y (.Expr (.Call (.Attribute (.Name xo p1) "extend" apos) [.List es p2] [] cpos) pos) (tW2 a bs) := by
  refine PS.imp (ps_expr (pe_bm PySem.F.plainAttrs_list PySem.F.slot_list_extend PySem.F.type_list_extend mt_extend (pe_var hi hv hd hcd) (pa_cons (pe_lst h) pa_nil) rfl rfl hline) rfl) fun D σ H q => ?_
  obtain ⟨p, bs0, e, hp, hz, q⟩ := q
  subst e
  refine ⟨.ref p, rfl, .inl ⟨rfl, _, .inl (.inl hp)⟩, rfl, by rw [List.length_map]; exact Nat.le_of_lt (small1000 (by omega)), fun b hb => ?_⟩
  have nb : p ≠ b := fun z => by
    rw [z, hb] at hp
    cases hp
  refine ⟨p, b, _, _, rfl, rfl, by rw [upd_ne nb]; exact hp, upd_same, by rw [List.length_map, List.length_map]; exact Nat.le_of_lt (small1000 (by omega)), ?_⟩
  refine q _ (by rw [upd_same, List.map_append]) fun c u hc e => ?_
  rw [upd_ne hc]
  exact same_new hb c u e
/-- if own.count(True) != 1 or not isinstance(e, ValueError): .. -/
def tW3 (a : Addr) : TS := fun D σ H => ∃ (p : Addr) (bs : List Bool), σ = [some (.ref a), some (.ref p)] ∧ H p = some (.lst (bs.map V.bl)) ∧ bs.count true = 1 ∧ D.nx σ H
theorem ps_w3 {xo : Str} {e : Expr} {st : List Stmt} {j1 j2 : Nat} {p1 p2 p3 p4 p5 p6 apos cpos : Pos} (hu : Y.A.units + 65 < cLine) (hi : Y.N[1]? = some xo) (hv : Vis Y.env.scope xo) (hd : (xo == ("__debug__" : Str)) = false) (hcd : (xo == ("__classdict__" : Str)) = false) (hline : (apos.endLine == cpos.line) = true)
    (hve : PE Y e (tBE a true)) (he : ∀ whole, isTrue e Y.env whole = (do let v ← whole; standAt e.pos; holding [v] (truthy v))) :
    PS Y (.If (.BoolOp .Or [.Compare (.Call (.Attribute (.Name xo p1) "count" apos) [.Constant (.bool true) j1 p2] [] cpos) [.NotEq] [.Constant (.int 1) j2 p3] p4, .UnaryOp .Not e p5] p6) st [] pos) (tW3 a) := by
  have hc : PE Y (.Call (.Attribute (.Name xo p1) "count" apos) [.Constant (.bool true) j1 p2] [] cpos) _ := pe_bm PySem.F.plainAttrs_list PySem.F.slot_list_count PySem.F.type_list_count (mt_countB hu) (pe_var hi hv hd hcd) (pa_cons pe_bl pa_nil) rfl rfl hline
  refine PS.imp (ps_if (PW.pt (pw_or (pt_cmpR op_ne hc pe_int rfl) (pw_or1 (pt_not (pt_val hve he))))) pss_never pss_nil) fun D σ H q => ?_
  obtain ⟨p, bs, e, hp, hz, q⟩ := q
  subst e
  refine ⟨.ref p, rfl, .inl ⟨rfl, _, .inl (.inl hp)⟩, p, bs, rfl, rfl, .inl (.inl hp), ?_⟩
  rw [hz]
  exact ⟨rfl, _, rfl, rfl, true, rfl, q⟩
/-- return ('refused', own.index(True)) -/
def tW4 (a : Addr) : TS := fun D σ H => ∃ (p : Addr) (bs : List Bool) (n : Nat), σ = [some (.ref a), some (.ref p)] ∧ H p = some (.lst (bs.map V.bl)) ∧ bs[n]? = some true ∧ (∀ m, m < n → bs[m]? ≠ some true) ∧ ∀ H' q, Same H H' → H q = none → H' q = some (.tup [.str (Str.ofString "refused"), .int ((n : Nat) : Int)]) → D.rt (.ref q) H'
theorem ps_w4 {xo : Str} {k j1 j2 : Nat} {p1 p2 p3 p4 apos cpos : Pos} (hi : Y.N[1]? = some xo) (hv : Vis Y.env.scope xo) (hd : (xo == ("__debug__" : Str)) = false) (hcd : (xo == ("__classdict__" : Str)) = false) (hline : (apos.endLine == cpos.line) = true) :
    PS Y (.Return (some (.Tuple [.Constant (.str (Str.ofString "refused")) j1 p2, .Call (.Attribute (.Name xo p1) "index" apos) [.Constant (.bool true) j2 p3] [] cpos] k p4)) pos) (tW4 a) := by
  have hc : PE Y (.Call (.Attribute (.Name xo p1) "index" apos) [.Constant (.bool true) j2 p3] [] cpos) _ := pe_bm PySem.F.plainAttrs_list PySem.F.slot_list_index PySem.F.type_list_index mt_index (pe_var hi hv hd hcd) (pa_cons pe_bl pa_nil) rfl rfl hline
  refine PS.imp (ps_ret (pe_tup (pa_cons pe_str (pa_cons hc pa_nil)))) fun D σ H q => ?_
  obtain ⟨p, bs, n, e, hp, hn, hm, q⟩ := q
  subst e
  refine ⟨.ref p, rfl, .inl ⟨rfl, _, .inl (.inl hp)⟩, p, bs.map V.bl, .bl true, n, .bl true, rfl, rfl, .inl (.inl hp), rfl, ?_, ?_, rfl, ?_, ?_⟩
  · rw [List.all_map]
    exact List.all_eq_true.mpr fun _ _ => rfl
  · rw [List.getElem?_map, hn]
    rfl
  · intro m z hmn hz
    rw [List.getElem?_map] at hz
    cases e : bs[m]? with
    | none => rw [e] at hz; cases hz
    | some b =>
      rw [e] at hz
      cases hz
      cases b with
      | true => exact absurd e (hm m hmn)
      | false => rfl
  · exact ⟨by show 2 ≤ sizeLine; decide, fun r hr => q _ r (same_new hr) hr upd_same⟩
/-- the whole body, for what the truth values are -/
theorem which_reads {bs1 bs2 bs3 : List Bool} {n : Nat} {H : Hp} {Q : VK} (hz : bs1.length + bs2.length + bs3.length ≤ 100) (hc : (bs1 ++ bs2 ++ bs3).count true = 1) (hn : (bs1 ++ bs2 ++ bs3)[n]? = some true) (hm : ∀ m, m < n → (bs1 ++ bs2 ++ bs3)[m]? ≠ some true)
    (q : spW n H Q) : tSeq (tW1 a bs1) (tSeq (tW2 a bs2) (tSeq (tW2 a bs3) (tSeq (tW3 a) (tW4 a)))) { nx := fun _ H' => Q .non H', rt := Q } [some (.ref a), none] H := by
  refine ⟨rfl, fun p H1 hp h1 s1 => ⟨p, bs1, rfl, h1, by omega, fun H2 h2 k2 => ⟨p, _, rfl, h2, by rw [List.length_append]; omega, fun H3 h3 k3 => ⟨p, _, rfl, h3, hc, p, _, n, rfl, h3, hn, hm, fun H4 r s4 hr h4 => ?_⟩⟩⟩⟩
  have hs : Same H H3 := fun b u e => by
    have nb : b ≠ p := fun z => by
      rw [z, hp] at e
      cases e
    exact k3 b u nb (k2 b u nb (s1 b u e))
  refine q H4 r (hs.trans s4) ?_ h4
  cases e : H r with
  | none => rfl
  | some u =>
    rw [hs r u e] at hr
    cases hr
theorem which_reads2 {bs1 bs2 : List Bool} {n : Nat} {H : Hp} {Q : VK} (hz : bs1.length + bs2.length ≤ 100) (hc : (bs1 ++ bs2).count true = 1) (hn : (bs1 ++ bs2)[n]? = some true) (hm : ∀ m, m < n → (bs1 ++ bs2)[m]? ≠ some true)
    (q : spW n H Q) : tSeq (tW1 a bs1) (tSeq (tW2 a bs2) (tSeq (tW3 a) (tW4 a))) { nx := fun _ H' => Q .non H', rt := Q } [some (.ref a), none] H := by
  refine ⟨rfl, fun p H1 hp h1 s1 => ⟨p, bs1, rfl, h1, by omega, fun H2 h2 k2 => ⟨p, _, rfl, h2, hc, p, _, n, rfl, h2, hn, hm, fun H4 r s4 hr h4 => ?_⟩⟩⟩
  have hs : Same H H2 := fun b u e => by
    have nb : b ≠ p := fun z => by
      rw [z, hp] at e
      cases e
    exact k2 b u nb (s1 b u e)
  refine q H4 r (hs.trans s4) ?_ h4
  cases e : H r with
  | none => rfl
  | some u =>
    rw [hs r u e] at hr
    cases hr
end
end Dc

/-! Dc: try as a statement. -/
namespace Dc
open PySem PySem.Spec PyProof.Rows L2 RZ
/-- the call of that def in the suite -/
theorem pe_callE {X : Cx} {a D : Addr} {oe : Obj} {pn : List (Addr × Obj)} {i : Nat} {f : Addr} {fd : FuncData} {ps : List Str} {n : Int} {x xe : Str} {q1 q2 pos : Pos} (F : FnE X.prog X.w X.K X.mg X.base f fd ps D n) (hz : Zc (.ref D) none oe) (hf : ∃ vs, oe.data = .fields vs) (hr : X.A.depth + 2 < recursionLimit ∧ X.A.units + 150 < cLine) (hl : ps.length = 1)
    (hg : Gl (X.suite a ((a, oe) :: pn)) x) (hm : X.mg x = some (.ref f)) (hk : PySem.W.keepIn X.K (.ref f) = true) (hb : Binds X.K fd ps []) (hdb : (x == ("__debug__" : Str)) = false) (hN : X.N[i]? = some xe) (hv : Vis X.env.scope xe) (hd : (xe == ("__debug__" : Str)) = false) (hcd : (xe == ("__classdict__" : Str)) = false) :
    PE (X.suite a ((a, oe) :: pn)) (.Call (.Name x q1) [.Name xe q2] [] pos) (fun σ H Q => σ[i]? = some (some (.ref a)) ∧ spW n H Q) := by
  refine ⟨fun pins s σ H Q I ⟨h0, hsp⟩ => ?_⟩
  have ha : PA (X.suite a ((a, oe) :: pn)) [.Name xe q2] (tCons (tVar i) tNil) := pa_cons (pe_var hN hv hd hcd) pa_nil
  refine wpAny_Call_Name_kw (ld_glob I hg hm ?_ hdb)
  refine PySem.W.callWith_K (h₀ := X.base) I.ok.mod.kin hk (thn (ha.run pos pins s σ H (fun vs H1 => vs = [V.ref a] ∧ H1 = H) I ⟨.ref a, h0, rfl, rfl⟩) fun us s1 ⟨vs, H1, I1, r, ev, eH⟩ => ⟨I1.kIn, ?_⟩)
  subst ev
  subst eH
  cases r with
  | cons r1 r =>
    cases r
    cases r1
    have P1 := I1.pin (a, oe) (List.mem_append_left _ List.mem_cons_self)
    have hpin : L2H.PinOk (X.suite a ((a, oe) :: pn)).stack H1 s1 (a, oe) := ⟨P1.1, P1.2.1, fun hm => (List.mem_cons.mp (I1.stkSub a hm)).elim P1.2.2.1 P1.2.2.2.1, P1.2.2.2.2⟩
    have b := hb s1 [.ref a] I1.kIn (by rw [hl]; rfl)
    refine wpAny_call (codeAny_mono (F.run (X.A.mark (some (.ref a))) X.stack s1 H1 ⟨[.ref a], []⟩ Q (fun _ _ _ => False) a oe hr hz hf hpin I1.env0 b hsp) fun r s' hq => ?_)
    cases r with
    | error e =>
      obtain ⟨_, _, _, _, _, _, _, _, _, _, _, _, z⟩ := hq
      exact z.elim
    | ok fl =>
      cases fl with
      | ret u => exact I1.after hq
      | next => exact False.elim hq
      | brk => exact False.elim hq
      | cont => exact False.elim hq
section
variable {X : Cx} {exc : Nat → Addr} {W : WX} {io : List Nat} {pos : Pos}
/-- the answer's pair, seen from the caller -/
theorem Pre.answer {K : PySem.W.Frag} {F H H' : Hp} {fp : List Addr} {env : Env} {σ : St} {q : Addr} {c : Nat} (p : Pre K F H fp env σ) (hs : Same H H') (hq : H q = none) (h : H' q = some (.tup [.str (Str.ofString "refused"), .int ((c : Nat) : Int)])) :
    ∃ F', Stp F H fp F' H' fp ∧ Pre K F' H' fp env σ ∧ RV K F' (.ref q) (whichD c) := by
  have fq : F q = none := by
    cases e : F q with
    | none => rfl
    | some u =>
      have := p.sub q u e
      rw [hq] at this
      cases this
  have s1 := same_new (o := .tup [.str (Str.ofString "refused"), .int ((c : Nat) : Int)]) fq
  have ne : ∀ b u, H b = some u → b ≠ q := fun b u e z => by
    rw [z, hq] at e
    cases e
  refine ⟨upd F q (.tup [.str (Str.ofString "refused"), .int ((c : Nat) : Int)]), ⟨s1, fun b o e n => ?_, fun b u e _ => hs b u e, fun b m => .inl m⟩, ⟨fun b u e => ?_, p.env.mono s1 (fun b u _ e => hs b u e) (fun b m => ?_), p.nd⟩, .tup (.inl (.inl upd_same)) (.cons (.str _) (.cons (.int _) .nil)) (by show 2 ≤ sizeLine; decide)⟩
  · by_cases hb : b = q
    · exact .inl (by rw [hb]; exact hq)
    · rw [upd_ne hb, n] at e
      cases e
  · by_cases hb : b = q
    · rw [hb, upd_same] at e
      rw [hb, h]
      exact e
    · rw [upd_ne hb] at e
      exact hs b u (p.sub b u e)
  · obtain ⟨f1, u, f2⟩ := p.env.there b m
    rw [upd_ne (ne b u f2)]
    exact f1
/-- what the clause wishes, read off the small language -/
theorem try_reading {K : PySem.W.Frag} {cs : List Nat} {CE : Value} {i : Nat} {fb : Env → Xo} {fh : Nat → Env → Xo} {ts : Addr → Value → Option Addr → TS} {D : Ends} {σ : St} {H : Hp} (hex : ∀ c ∈ cs, PySem.W.exmOne K (.ref (exc c)) CE = some true) (hi : i ∉ io)
    (hts : ∀ c, c ∈ cs → ∀ a σ1 F1 H1 fp1 env1, H1 a = none → σ1[i]? = some (some (.ref a)) ∨ σ1.length ≤ i → Pre K F1 H1 fp1 (env1.set i .un) σ1 → SX K exc W io { nx := fun σ' H' => D.nx (σ'.set i none) H', rt := D.rt, bk := fun σ' H' => D.bk (σ'.set i none) H', ct := fun σ' H' => D.ct (σ'.set i none) H' } σ1 F1 H1 fp1 (fh c env1) → ts a (.ref (exc c)) none { nx := fun σ' H' => D.nx (σ'.set i none) H', rt := D.rt, bk := fun σ' H' => D.bk (σ'.set i none) H', ct := fun σ' H' => D.ct (σ'.set i none) H' } σ1 H1)
    (hn : ∀ c env1 env2, fh c env1 = .nx env2 → look env2 i = .un)
    (q : dS K exc W io (fun env => match fb env with | .er c env1 => if cs.contains c then fh c env1 else .st | o => o) D σ H) : dS K exc (wAs K CE i ts W D) io fb D σ H := by
  obtain ⟨F, env, fp, p, q⟩ := q
  refine ⟨F, env, fp, p, ?_⟩
  dsimp only at q
  cases e : fb env with
  | st => rw [e] at q; exact q
  | nx e' => rw [e] at q; exact q
  | rt s e' => rw [e] at q; exact q
  | er c env1 =>
    rw [e] at q
    dsimp only at q
    by_cases hc : cs.contains c = true
    · rw [if_pos hc] at q
      have hc' : c ∈ cs := by simpa using hc
      intro σ' F' H' fp' s1 p1 i1
      refine ⟨true, hex c hc', fun _ a ha => ?_, fun z => nomatch z⟩
      obtain ⟨fp2, s2, p2⟩ := p1.drop (i := i) (some (.ref a))
      have hσ : (σ'.set i (some (V.ref a)))[i]? = some (some (.ref a)) ∨ (σ'.set i (some (V.ref a))).length ≤ i := by
        by_cases hl : i < σ'.length
        · exact .inl (List.getElem?_set_self hl)
        · exact .inr (by rw [List.length_set]; omega)
      refine hts c hc' a _ F' H' fp2 env1 ha hσ p2 ?_
      have s12 := s1.trans s2
      have i2 : Io io σ (σ'.set i (some (V.ref a))) := i1.trans (Io.set hi)
      cases eh : fh c env1 with
      | st => rw [eh] at q; exact q
      | rt s e' => rw [eh] at q; exact SX.later (D := { nx := fun σ' H' => D.nx (σ'.set i none) H', rt := D.rt, bk := fun σ' H' => D.bk (σ'.set i none) H', ct := fun σ' H' => D.ct (σ'.set i none) H' }) (o := .rt s e') q s12 i2
      | er c2 e' => rw [eh] at q; exact SX.later (D := { nx := fun σ' H' => D.nx (σ'.set i none) H', rt := D.rt, bk := fun σ' H' => D.bk (σ'.set i none) H', ct := fun σ' H' => D.ct (σ'.set i none) H' }) (o := .er c2 e') q s12 i2
      | nx e' =>
        rw [eh] at q
        intro σ3 F3 H3 fp3 s3 p3 i3
        have hu : SlOk K F3 H3 .un none [] := .un none
        obtain ⟨fp4, s4, p4⟩ := p3.drop (i := i) none
        have he : e'.set i .un = e' := by
          have hl := hn c env1 e' eh
          refine List.ext_getElem? fun j => ?_
          by_cases hj : i = j
          · subst hj
            by_cases hlt : i < e'.length
            · rw [List.getElem?_set_self hlt]
              unfold look at hl
              rw [List.getD_eq_getElem?_getD, List.getElem?_eq_getElem hlt] at hl
              rw [List.getElem?_eq_getElem hlt]
              exact congrArg some hl.symm
            · rw [List.getElem?_eq_none (by rw [List.length_set]; omega), List.getElem?_eq_none (by omega)]
          · rw [List.getElem?_set_ne hj]
        rw [he] at p4
        exact q _ F3 H3 fp4 ((s12.trans s3).trans s4) p4 ((i2.trans i3).trans (Io.set hi))
    · rw [if_neg hc] at q
      exact False.elim q
end
end Dc

/-! Dc: try, the clauses. -/
namespace Dc
open PySem PySem.Spec PyProof.Rows L2 RZ
section
variable {X : Cx} {exc : Nat → Addr} {W : WX} {io : List Nat} {pos : Pos}
/-- what the laws know of the def that tells refusals apart -/
structure Tells (P : Program) (w : World) (K : PySem.W.Frag) (mg : Str → Option Value) (base : Heap) (exc : Nat → Addr) (cs : List Nat) (x : Str) : Prop where
  ex : ∃ (f : Addr) (fd : FuncData) (ps : List Str), (∀ c ∈ cs, FnE P w K mg base f fd ps (exc c) ((c : Nat) : Int)) ∧ ps.length = 1 ∧ mg x = some (.ref f) ∧ PySem.W.keepIn K (.ref f) = true ∧ Binds K fd ps []
theorem room_w {A : Around} {k : Nat} (r : Room k A) : A.depth + 2 < recursionLimit ∧ A.units + 150 < cLine := by
  have h1 := r.dp
  have h2 := r.un
  exact ⟨by omega, by omega⟩
theorem slot_in {Y : Cx} {pins : List (Addr × Obj)} {σ : St} {H : Hp} {s : Shared} {i : Nat} {xe : Str} {a : Addr} (I : Inv Y pins σ H s) (hN : Y.N[i]? = some xe) (h : σ[i]? = some (some (V.ref a)) ∨ σ.length ≤ i) : σ[i]? = some (some (V.ref a)) := by
  rcases h with h | h
  · exact h
  · rw [I.len] at h
    rw [List.getElem?_eq_none h] at hN
    cases hN
theorem snd_tryRet {kk : Nat} {cs : List Nat} {CE : Value} {i : Nat} {fb : Env → Xo} {body : List Stmt} {x xe xc : Str} {q1 q2 np pos' p1 p2 : Pos} (hs : X.stack = X.env :: X.outer) (hf : X.env.frame = some X.env.locals) (hN : X.N.Nodup) (hi : X.N[i]? = some xe) (hx : X.env.scope.names.lookup xe = some .local)
    (hc : Names X xc CE) (tk : Takes X W) (hex : ∀ c ∈ cs, PySem.W.exmOne X.K (.ref (exc c)) CE = some true) (hio : i ∉ io) (T : Tells X.prog X.w X.K X.mg X.base exc cs x) (hr : Room kk X.A) (hg : X.env.kindOf x = some .globalImplicit) (hdb : (x == ("__debug__" : Str)) = false) (hd : (xe == ("__debug__" : Str)) = false) (hcd : (xe == ("__classdict__" : Str)) = false)
    (hb : ∀ (W : WX) (pn : List (Addr × Obj)) (xe : Value → Shared → Prop), Takes (X.tr pn xe) W → PassesOwn (model X.prog X.w) X.A X.env xe → PSs (X.tr pn xe) body (sS (X.tr pn xe) exc W io fb)) :
    PS X (.Try body [.ExceptHandler (some (.Name xc np)) (some xe) [.Return (some (.Call (.Name x q1) [.Name xe q2] [] p1)) p2] pos'] [] [] pos) (sS X exc W io fun env => match fb env with | .er c env1 => if cs.contains c then .rt (.fr (whichD c)) (env1.set i .un) else .st | o => o) := by
  obtain ⟨f, fd, ps, hF, hl, hm, hk, hbi⟩ := T.ex
  refine PS.imp (ps_try_as (Wout := W) (c := CE) (tb := fun W => dS X.K exc W io fb) (ts := fun a cls d D σ H => ∃ c, c ∈ cs ∧ cls = .ref (exc c) ∧ d = none ∧ (σ[i]? = some (some (.ref a)) ∨ σ.length ≤ i) ∧ spW ((c : Nat) : Int) H D.rt) hs hf hN hi hx hc tk hb (fun a oe cls d pn hz hff => ?_)) fun D σ H q => ?_
  · refine ⟨fun pins s σ H D I q => ?_⟩
    obtain ⟨c, hc', rfl, rfl, hσ, hsp⟩ := q
    exact (pss_one (ps_ret (pe_callE (hF c hc') hz hff (room_w hr) hl hg hm hk hbi hdb hi (.inl hx) hd hcd))).run pins s σ H D I ⟨slot_in I hi hσ, hsp⟩
  · refine try_reading (fh := fun c env1 => .rt (.fr (whichD c)) (env1.set i .un)) hex hio (fun c hc' a σ1 F1 H1 fp1 env1 ha hσ p1 z => ?_) (fun c e1 e2 z => nomatch z) q
    refine ⟨c, hc', rfl, rfl, hσ, fun H' r hsm hr' he => ?_⟩
    obtain ⟨F', s2, p2, rv⟩ := p1.answer hsm hr' he
    exact z (.ref r) σ1 F' H' fp1 s2 ⟨p2.sub, EnvOk.cons (f1 := []) (.fr rv) p2.env, p2.nd⟩ Io.refl
theorem snd_tryAsg {kk : Nat} {cs : List Nat} {CE : Value} {i j : Nat} {fb : Env → Xo} {body : List Stmt} {x xe xc y : Str} {q1 q2 np pos' p1 p2 py : Pos} (hs : X.stack = X.env :: X.outer) (hf : X.env.frame = some X.env.locals) (hN : X.N.Nodup) (hi : X.N[i]? = some xe) (hx : X.env.scope.names.lookup xe = some .local)
    (hj : X.N[j]? = some y) (hy : X.env.scope.names.lookup y = some .local) (hij : i ≠ j)
    (hc : Names X xc CE) (tk : Takes X W) (hex : ∀ c ∈ cs, PySem.W.exmOne X.K (.ref (exc c)) CE = some true) (hio : i ∉ io) (hjo : j ∉ io) (T : Tells X.prog X.w X.K X.mg X.base exc cs x) (hr : Room kk X.A) (hg : X.env.kindOf x = some .globalImplicit) (hdb : (x == ("__debug__" : Str)) = false) (hd : (xe == ("__debug__" : Str)) = false) (hcd : (xe == ("__classdict__" : Str)) = false)
    (hb : ∀ (W : WX) (pn : List (Addr × Obj)) (xe : Value → Shared → Prop), Takes (X.tr pn xe) W → PassesOwn (model X.prog X.w) X.A X.env xe → PSs (X.tr pn xe) body (sS (X.tr pn xe) exc W io fb)) :
    PS X (.Try body [.ExceptHandler (some (.Name xc np)) (some xe) [.Assign [.Name y py] (.Call (.Name x q1) [.Name xe q2] [] p1) p2] pos'] [] [] pos) (sS X exc W io fun env => match fb env with | .er c env1 => if cs.contains c then .nx ((env1.set i .un).set j (.fr (whichD c))) else .st | o => o) := by
  obtain ⟨f, fd, ps, hF, hl, hm, hk, hbi⟩ := T.ex
  refine PS.imp (ps_try_as (Wout := W) (c := CE) (tb := fun W => dS X.K exc W io fb) (ts := fun a cls d D σ H => ∃ c, c ∈ cs ∧ cls = .ref (exc c) ∧ d = none ∧ (σ[i]? = some (some (.ref a)) ∨ σ.length ≤ i) ∧ spW ((c : Nat) : Int) H fun w H' => D.nx (σ.set j (some w)) H') hs hf hN hi hx hc tk hb (fun a oe cls d pn hz hff => ?_)) fun D σ H q => ?_
  · refine ⟨fun pins s σ H D I q => ?_⟩
    obtain ⟨c, hc', rfl, rfl, hσ, hsp⟩ := q
    exact (pss_one (ps_set (X := X.suite a ((a, oe) :: pn)) hN hj (.inl hy) (pe_callE (hF c hc') hz hff (room_w hr) hl hg hm hk hbi hdb hi (.inl hx) hd hcd) rfl (.inr hy))).run pins s σ H D I ⟨slot_in I hi hσ, hsp⟩
  · refine try_reading (fh := fun c env1 => .nx ((env1.set i .un).set j (.fr (whichD c)))) hex hio (fun c hc' a σ1 F1 H1 fp1 env1 ha hσ p1 z => ?_) (fun c e1 e2 z => ?_) q
    · refine ⟨c, hc', rfl, rfl, hσ, fun H' r hsm hr' he => ?_⟩
      obtain ⟨F', s2, p2, rv⟩ := p1.answer hsm hr' he
      obtain ⟨fp3, s3, p3⟩ := p2.put (i := j) rv
      exact z _ F' H' fp3 (s2.trans s3) p3 (Io.set hjo)
    · cases z
      unfold look
      rw [List.getD_eq_getElem?_getD, List.getElem?_set_ne (Ne.symm hij)]
      by_cases hlt : i < e1.length
      · rw [List.getElem?_set_self hlt]
        rfl
      · rw [List.getElem?_eq_none (by rw [List.length_set]; omega)]
        rfl
end
end Dc

/-! Dc: the rules, by the terms of the small language. -/
namespace Dc
open PySem PySem.Spec PyProof.Rows L2 RZ
section
variable {md : Nat → Modes} {call : Nat → List Sl → R Sl}
theorem ev_tup {es : Es} : ev md call (.tup es) = fun env => (evs md call es env).bind fun ds env1 => .ok (.fr (.tuple ds)) env1 := by funext env; rfl
theorem ev_prim {p : Prim} {es : Es} : ev md call (.prim p es) = primE p (evo md call es) := by funext env; rfl
theorem ev_and {a b : E} : ev md call (.and a b) = andE (tst (ev md call a)) (ev md call b) := by funext env; rfl
theorem ev_or {a b : E} : ev md call (.or a b) = orE (tst (ev md call a)) (ev md call b) := by funext env; rfl
theorem ev_not {a : E} : ev md call (.not a) = notE (tst (ev md call a)) := by funext env; rfl
theorem ev_ite {c a b : E} : ev md call (.ite c a b) = iteE (tst (ev md call c)) (ev md call a) (ev md call b) := by funext env; rfl
theorem ev_chain {p q : Prim} {a b c : E} : ev md call (.chain p q a b c) = chainE p q (fz (ev md call a)) (fz (ev md call b)) (fz (ev md call c)) := by funext env; rfl
theorem ev_comp {elt cond : E} {tg : List Nat} {it : Itr} : ev md call (.comp elt tg it cond) = compE tg (evi md call it) (tst (ev md call cond)) (fz (ev md call elt)) := by funext env; rfl
theorem ev_call {f : Nat} {es : Es} : ev md call (.call f es) = callE (call f) (eva md call (md f) es) := by funext env; rfl
theorem ev_app {i : Nat} {e : E} : ev md call (.app i e) = appE i (fz (ev md call e)) := by funext env; rfl
theorem ev_ext {i : Nat} {e : E} : ev md call (.ext i e) = extE i (ev md call e) := by funext env; rfl
theorem ev_sl2 {a b c : E} : ev md call (.sl2 a b c) = sliceE (opd a (ev md call a)) (fz (ev md call b)) (fz (ev md call c)) := by funext env; rfl
theorem ev_rg {a : E} : ev md call (.rg a) = rngE (fz (ev md call a)) := by funext env; rfl
theorem ev_sel {fs : List Nat} {ix : E} {es : Es} : ev md call (.sel fs ix es) = selE fs.length (fz (ev md call ix)) (fun j => call (fs.getD j 0)) (eva md call [] es) := by funext env; rfl
theorem evo_cons {e : E} {es : Es} : evo md call (.cons e es) = two (opd e (ev md call e)) (evo md call es) := by funext env; rfl
theorem evs_cons {e : E} {es : Es} : evs md call (.cons e es) = two (fz (ev md call e)) (evs md call es) := by funext env; rfl
theorem eva_cons {ms : Modes} {e : E} {es : Es} : eva md call ms (.cons e es) = two (arg (ms.headD false) e (ev md call e)) (eva md call ms.tail es) := by funext env; cases ms <;> rfl
theorem eva_nil {ms : Modes} : eva md call ms .nil = fun env => .ok [] env := by funext env; cases ms <;> rfl
theorem evi_seq {e : E} : evi md call (.seq e) = seqE (fz (ev md call e)) := by funext env; rfl
theorem evi_rng1 {e : E} : evi md call (.rng1 e) = rng1E (fz (ev md call e)) := by funext env; rfl
theorem evi_rng2 {a b : E} : evi md call (.rng2 a b) = rng2E (fz (ev md call a)) (fz (ev md call b)) := by funext env; rfl
theorem evi_enum {e : E} : evi md call (.enum e) = enumE (fz (ev md call e)) := by funext env; rfl
theorem evi_zip {a b : E} : evi md call (.zip a b) = zipE (fz (ev md call a)) (fz (ev md call b)) := by funext env; rfl
end

/-! ### what a def's body has at hand -/
structure Bl (mg : Str → Option Value) : Prop where
  len : mg "len" = none
  sum : mg "sum" = none
  tuple : mg "tuple" = none
  list : mg "list" = none
  sorted : mg "sorted" = none
  all : mg "all" = none
  any : mg "any" = none
  int : mg "int" = none
  bool : mg "bool" = none
  str : mg "str" = none
  isi : mg "isinstance" = none
  range : mg "range" = none
  enum : mg "enumerate" = none
  zip : mg "zip" = none
  min : mg "min" = none
  max : mg "max" = none
  set : mg "set" = none
structure Bd (X : Cx) (W : WX) (k : Nat) : Prop where
  hr : Room k X.A
  tk : Takes X W
  calm : X.calm = true
  nd : X.N.Nodup
  bl : Bl X.mg
abbrev Md (U : Nat → Option Def) : Nat → Modes := modesOf U
abbrev PV (X : Cx) (exc : Nat → Addr) (W : WX) (U : Nat → Option Def) (k : Nat) (e : Expr) (t : E) : Prop := PE X e (eE X exc W (ev (modesOf U) (run U k) t))
abbrev PVt (X : Cx) (exc : Nat → Addr) (W : WX) (U : Nat → Option Def) (k : Nat) (e : Expr) (t : E) : Prop := PT X e (eB X exc W (tst (ev (modesOf U) (run U k) t)))
abbrev PVw (X : Cx) (exc : Nat → Addr) (W : WX) (U : Nat → Option Def) (k : Nat) (e : Expr) (t : E) : Prop := PW X e (eB X exc W (tst (ev (modesOf U) (run U k) t)))
abbrev PVo (X : Cx) (exc : Nat → Addr) (W : WX) (U : Nat → Option Def) (k : Nat) (e : Expr) (t : E) : Prop := PE X e (eO X exc W (opd t (ev (modesOf U) (run U k) t)))
abbrev PVg (X : Cx) (exc : Nat → Addr) (W : WX) (U : Nat → Option Def) (k : Nat) (m : Bool) (e : Expr) (t : E) : Prop := PE X e (eO X exc W (arg m t (ev (modesOf U) (run U k) t)))
abbrev PVs (X : Cx) (exc : Nat → Addr) (W : WX) (U : Nat → Option Def) (k : Nat) (es : List Expr) (ts : Es) : Prop := PA X es (dG X.K exc W (relL (relD X.K)) (evs (modesOf U) (run U k) ts))
abbrev PVos (X : Cx) (exc : Nat → Addr) (W : WX) (U : Nat → Option Def) (k : Nat) (es : List Expr) (ts : Es) : Prop := PA X es (dG X.K exc W (relL (relO X.K)) (evo (modesOf U) (run U k) ts))
abbrev PVgs (X : Cx) (exc : Nat → Addr) (W : WX) (U : Nat → Option Def) (k : Nat) (ms : Modes) (es : List Expr) (ts : Es) : Prop := PA X es (dG X.K exc W (relL (relO X.K)) (eva (modesOf U) (run U k) ms ts))
abbrev PVi (X : Cx) (exc : Nat → Addr) (W : WX) (U : Nat → Option Def) (k : Nat) (tg it : Expr) (t : Itr) : Prop := PI X tg it (iX X.K exc W (evi (modesOf U) (run U k) t))
abbrev SV (X : Cx) (exc : Nat → Addr) (W : WX) (U : Nat → Option Def) (k : Nat) (io : List Nat) (st : Stmt) (t : S) : Prop := PS X st (sS X exc W io (exec (modesOf U) (run U k) t))
abbrev SVs (X : Cx) (exc : Nat → Addr) (W : WX) (U : Nat → Option Def) (k : Nat) (io : List Nat) (sts : List Stmt) (t : Ss) : Prop := PSs X sts (sS X exc W io (execs (modesOf U) (run U k) t))
def Es.len : Es → Nat
  | .nil => 0
  | .cons _ es => es.len + 1
def E.isVar : E → Bool
  | .var _ => true
  | _ => false
section
variable {md : Nat → Modes} {call : Nat → List Sl → R Sl}
theorem two_ok {α : Type} {f : Env → R α} {g : Env → R (List α)} {env env' : Env} {as : List α} (h : two f g env = .ok as env') : ∃ a as', as = a :: as' ∧ ∃ e1, f env = .ok a e1 ∧ g e1 = .ok as' env' := by
  unfold two at h
  cases e : f env with
  | st => rw [e] at h; cases h
  | er c e1 => rw [e] at h; cases h
  | ok a e1 =>
    rw [e] at h
    dsimp only [R.bind] at h
    cases e2 : g e1 with
    | st => rw [e2] at h; cases h
    | er c e3 => rw [e2] at h; cases h
    | ok as' e3 =>
      rw [e2] at h
      cases h
      exact ⟨a, as', rfl, e1, rfl, e2⟩
theorem evs_len : ∀ (es : Es) (env : Env) (ds : List D) (env' : Env), evs md call es env = .ok ds env' → ds.length = es.len
  | .nil, _, _, _, h => by
    cases h
    rfl
  | .cons e es, _, _, _, h => by
    rw [evs_cons] at h
    obtain ⟨a, as', rfl, e1, _, h2⟩ := two_ok h
    rw [List.length_cons, evs_len es _ _ _ h2]
    rfl
theorem evo_len : ∀ (es : Es) (env : Env) (ds : List Opd) (env' : Env), evo md call es env = .ok ds env' → ds.length = es.len
  | .nil, _, _, _, h => by
    cases h
    rfl
  | .cons e es, _, _, _, h => by
    rw [evo_cons] at h
    obtain ⟨a, as', rfl, e1, _, h2⟩ := two_ok h
    rw [List.length_cons, evo_len es _ _ _ h2]
    rfl
/-- the slots that an argument list lends out -/
def lent : Modes → Es → List Nat
  | _, .nil => []
  | ms, .cons e es => match ms.headD false, e with
    | true, .var i => i :: lent ms.tail es
    | _, _ => lent ms.tail es
theorem val_ok {f : Env → R Sl} {env env' : Env} {o : Opd} (h : ((fz f env).bind fun d env1 => .ok (.val d) env1) = .ok o env') : ∃ d, o = .val d := by
  cases e : fz f env with
  | st => rw [e] at h; cases h
  | er c e1 => rw [e] at h; cases h
  | ok d e1 =>
    rw [e] at h
    cases h
    exact ⟨d, rfl⟩
theorem eva_ok : ∀ (ms : Modes) (es : Es) (env : Env) (as : List Opd) (env' : Env), eva md call ms es env = .ok as env' → as.length = es.len ∧ slotsOf as = lent ms es
  | ms, .nil, _, _, _, h => by
    rw [eva_nil] at h
    cases h
    exact ⟨rfl, by cases ms <;> rfl⟩
  | ms, .cons e es, env, _, _, h => by
    rw [eva_cons] at h
    obtain ⟨a, as', rfl, e1, h1, h2⟩ := two_ok h
    obtain ⟨q1, q2⟩ := eva_ok ms.tail es _ _ _ h2
    refine ⟨by rw [List.length_cons, q1]; rfl, ?_⟩
    have key : ∀ (b : Bool), (∀ d, a = .val d → (match b, e with | true, .var i => i :: lent ms.tail es | _, _ => lent ms.tail es) = lent ms.tail es → slotsOf (a :: as') = (match b, e with | true, .var i => i :: lent ms.tail es | _, _ => lent ms.tail es)) := fun b d ha hb => by
      rw [hb, ha]
      exact q2
    show slotsOf (a :: as') = lent ms (.cons e es)
    unfold lent
    cases hm : ms.headD false with
    | false =>
      rw [hm] at h1
      have hv : ∃ d, a = .val d := by
        unfold arg at h1
        exact val_ok h1
      obtain ⟨d, rfl⟩ := hv
      exact q2
    | true =>
      rw [hm] at h1
      cases e with
      | var i =>
        have ha : a = .slot i := by
          unfold arg at h1
          dsimp only at h1
          cases el : look env i with
          | un => rw [el] at h1; cases h1
          | fr d => rw [el] at h1; cases h1; rfl
          | ol d => rw [el] at h1; cases h1; rfl
          | od d => rw [el] at h1; cases h1; rfl
        subst ha
        show i :: slotsOf as' = i :: lent ms.tail es
        rw [q2]
      | _ =>
        obtain ⟨d, rfl⟩ : ∃ d, a = .val d := by
          unfold arg at h1
          exact val_ok h1
        exact q2
end
end Dc

/-! Dc: the rules for expressions, by the terms of the small language. -/
namespace Dc
open PySem PySem.Spec PyProof.Rows L2 RZ
section
variable {X : Cx} {exc : Nat → Addr} {W : WX} {U : Nat → Option Def} {k : Nat} {io : List Nat} {pos : Pos} {e a b c : Expr} {es : List Expr} {t ta tb tc : E} {ts : Es}
theorem Bd.blk (B : Bd X W k) {s : Shared} {H : Hp} {sc : Scope} {ce : PySem.Env} {fp : List Addr} : Bd (X.blk s H sc ce fp) W0 k := ⟨B.hr, takes0, B.calm, B.nd, B.bl⟩
theorem Bd.tr (B : Bd X W k) {W' : WX} {pn : List (Addr × Obj)} {xe : Value → Shared → Prop} (tk : Takes (X.tr pn xe) W') : Bd (X.tr pn xe) W' k := ⟨B.hr, tk, B.calm, B.nd, B.bl⟩
/-! names and constants -/
theorem r_var {i : Nat} {x : Str} (hN : X.N[i]? = some x) (hv : Vis X.env.scope x) (hd : (x == ("__debug__" : Str)) = false) (hcd : (x == ("__classdict__" : Str)) = false) : PV X exc W U k (.Name x pos) (.var i) := snd_var hN hv hd hcd
theorem r_int {i : Int} {j : Nat} : PV X exc W U k (.Constant (.int i) j pos) (.cst (.int i)) := snd_cst pe_int (by funext env; rfl) fun F => .int i
theorem r_bool {i : Bool} {j : Nat} : PV X exc W U k (.Constant (.bool i) j pos) (.cst (.bool i)) := snd_cst pe_bl (by funext env; rfl) fun F => .bl i
theorem r_none {j : Nat} : PV X exc W U k (.Constant .none j pos) (.cst .none) := snd_cst pe_non (by funext env; rfl) fun F => .non
theorem r_str {x : Str} {j : Nat} : PV X exc W U k (.Constant (.str x) j pos) (.cst (.str x)) := snd_cst pe_str (by funext env; rfl) fun F => .str x
theorem r_neg {i : Int} {j : Nat} {p : Pos} : PV X exc W U k (.UnaryOp .USub (.Constant (.int i) j p) pos) (.cst (.int (-i))) := snd_neg
theorem r_globI {x : Str} {i : Int} {tk : Tok} (hm : X.mg x = some (.int i tk)) (hg : Gl X x) (hd : (x == ("__debug__" : Str)) = false) : PV X exc W U k (.Name x pos) (.cst (.int i)) := snd_globI hg hm hd
/-! operands, arguments -/
theorem o_var {i : Nat} {x : Str} (hN : X.N[i]? = some x) (hv : Vis X.env.scope x) (hd : (x == ("__debug__" : Str)) = false) (hcd : (x == ("__classdict__" : Str)) = false) : PVo X exc W U k (.Name x pos) (.var i) := snd_opd (.var i) (snd_var hN hv hd hcd) fun j hj => by
  cases hj
  exact pe_var hN hv hd hcd
theorem o_of (h : PV X exc W U k e t) (hn : t.isVar = false) : PVo X exc W U k e t := snd_opd t h fun j hj => by
  subst hj
  cases hn
theorem g_var {i : Nat} {x : Str} {m : Bool} (hN : X.N[i]? = some x) (hv : Vis X.env.scope x) (hd : (x == ("__debug__" : Str)) = false) (hcd : (x == ("__classdict__" : Str)) = false) : PVg X exc W U k m (.Name x pos) (.var i) := snd_arg m (.var i) (snd_var hN hv hd hcd) fun j hj => by
  cases hj
  exact pe_var hN hv hd hcd
theorem g_of {m : Bool} (h : PV X exc W U k e t) (hn : t.isVar = false) : PVg X exc W U k m e t := snd_arg m t h fun j hj => by
  subst hj
  cases hn
theorem os_nil : PVos X exc W U k [] .nil := snd_nil
theorem os_cons (h : PVo X exc W U k e t) (hs : noStar e = true) (r : PVos X exc W U k es ts) : PVos X exc W U k (e :: es) (.cons t ts) := by
  unfold PVos
  rw [evo_cons]
  exact snd_cons mono_O h r hs
theorem vs_nil : PVs X exc W U k [] .nil := snd_nil
theorem vs_cons (h : PV X exc W U k e t) (hs : noStar e = true) (r : PVs X exc W U k es ts) : PVs X exc W U k (e :: es) (.cons t ts) := by
  unfold PVs
  rw [evs_cons]
  exact snd_cons mono_D (snd_fz h) r hs
theorem gs_nil {ms : Modes} : PVgs X exc W U k ms [] .nil := by
  unfold PVgs
  rw [eva_nil]
  exact snd_nil
theorem gs_cons {m : Bool} {ms : Modes} (h : PVg X exc W U k m e t) (hs : noStar e = true) (r : PVgs X exc W U k ms es ts) : PVgs X exc W U k (m :: ms) (e :: es) (.cons t ts) := by
  unfold PVgs
  rw [eva_cons]
  exact snd_cons mono_O h r hs
theorem gs_cons0 (h : PVg X exc W U k false e t) (hs : noStar e = true) (r : PVgs X exc W U k [] es ts) : PVgs X exc W U k [] (e :: es) (.cons t ts) := by
  unfold PVgs
  rw [eva_cons]
  exact snd_cons mono_O h r hs
/-! displays -/
theorem r_tup {j : Nat} (h : PVs X exc W U k es ts) (hz : decide (ts.len ≤ 1000) = true) : PV X exc W U k (.Tuple es j pos) (.tup ts) := by
  unfold PV
  rw [ev_tup]
  exact snd_tup h fun env ds env' e => by
    rw [evs_len _ _ _ _ e]
    exact Nat.le_of_lt (small1000 (of_decide_eq_true hz))
theorem r_lst (h : PVs X exc W U k es ts) (hz : decide (ts.len ≤ 1000) = true) : PV X exc W U k (.List es pos) (.lst ts) := by
  have e : ev (modesOf U) (run U k) (.lst ts) = fun env => (evs (modesOf U) (run U k) ts env).bind fun ds env1 => .ok (.ol ds) env1 := by funext env; rfl
  unfold PV
  rw [e]
  exact snd_lst h fun env ds env' e => by
    rw [evs_len _ _ _ _ e]
    exact Nat.le_of_lt (small1000 (of_decide_eq_true hz))
/-! operators -/
theorem two2 : evo (modesOf U) (run U k) (.cons ta (.cons tb .nil)) = two (opd ta (ev (modesOf U) (run U k) ta)) (two (opd tb (ev (modesOf U) (run U k) tb)) nilO) := by funext env; rfl
theorem two1 : evo (modesOf U) (run U k) (.cons ta .nil) = two (opd ta (ev (modesOf U) (run U k) ta)) nilO := by funext env; rfl
theorem r_bin {op : Operator} {p : Prim} (hop : OpR X (binaryOp op) (rP2 X p)) (ha : PVo X exc W U k a ta) (hb : PVo X exc W U k b tb) : PV X exc W U k (.BinOp a op b pos) (.prim p (.cons ta (.cons tb .nil))) := by
  unfold PV
  rw [ev_prim, two2]
  exact snd_bin hop ha hb
theorem r_add (ha : PVo X exc W U k a ta) (hb : PVo X exc W U k b tb) : PV X exc W U k (.BinOp a .Add b pos) (.prim .add (.cons ta (.cons tb .nil))) := r_bin add_ok ha hb
theorem r_sub (ha : PVo X exc W U k a ta) (hb : PVo X exc W U k b tb) : PV X exc W U k (.BinOp a .Sub b pos) (.prim .sub (.cons ta (.cons tb .nil))) := r_bin sub_ok ha hb
theorem r_mul (ha : PVo X exc W U k a ta) (hb : PVo X exc W U k b tb) : PV X exc W U k (.BinOp a .Mult b pos) (.prim .mul (.cons ta (.cons tb .nil))) := r_bin mul_ok ha hb
theorem r_mod (ha : PVo X exc W U k a ta) (hb : PVo X exc W U k b tb) : PV X exc W U k (.BinOp a .Mod b pos) (.prim .mod (.cons ta (.cons tb .nil))) := r_bin mod_ok ha hb
theorem r_fdiv (ha : PVo X exc W U k a ta) (hb : PVo X exc W U k b tb) : PV X exc W U k (.BinOp a .FloorDiv b pos) (.prim .fdiv (.cons ta (.cons tb .nil))) := r_bin fdiv_ok ha hb
theorem r_pow (ha : PVo X exc W U k a ta) (hb : PVo X exc W U k b tb) : PV X exc W U k (.BinOp a .Pow b pos) (.prim .pow (.cons ta (.cons tb .nil))) := r_bin pow_ok ha hb
/-- a comparison's rule -/
def CmpO (X : Cx) (op : CmpOp) (p : Prim) : Prop := OpR X (compareOp op) (rP2 X p)
theorem c_eq (B : Bd X W k) : CmpO X .Eq .eq := eq_ok B.hr
theorem c_ne (B : Bd X W k) : CmpO X .NotEq .ne := ne_ok B.hr
theorem c_lt (B : Bd X W k) : CmpO X .Lt .lt := lt_ok B.hr
theorem c_gt (B : Bd X W k) : CmpO X .Gt .gt := gt_ok
theorem c_le (B : Bd X W k) : CmpO X .LtE .le := le_ok
theorem c_ge (B : Bd X W k) : CmpO X .GtE .ge := ge_ok
theorem c_in (B : Bd X W k) : CmpO X .In .isin := in_ok B.hr
theorem c_ni (B : Bd X W k) : CmpO X .NotIn .notin := notin_ok B.hr
theorem c_is (B : Bd X W k) : CmpO X .Is .isB2 := isB2_ok
theorem c_isnt (B : Bd X W k) : CmpO X .IsNot .notB2 := notB2_ok
theorem r_cmp {op : CmpOp} {p : Prim} (hop : CmpO X op p) (ha : PVo X exc W U k a ta) (hb : PVo X exc W U k b tb) (hm : behindInMarks op b = false) : PV X exc W U k (.Compare a [op] [b] pos) (.prim p (.cons ta (.cons tb .nil))) := by
  unfold PV
  rw [ev_prim, two2]
  exact snd_cmp hop ha hb hm
theorem t_cmp {op : CmpOp} {p : Prim} (hop : CmpO X op p) (ha : PVo X exc W U k a ta) (hb : PVo X exc W U k b tb) (hm : behindInMarks op b = false) : PVt X exc W U k (.Compare a [op] [b] pos) (.prim p (.cons ta (.cons tb .nil))) := by
  unfold PVt
  rw [ev_prim, two2]
  exact snd_cmpT hop ha hb hm
theorem r_chain {op op' : CmpOp} {p q : Prim} (ho : CmpO X op p) (ho' : CmpO X op' q) (ha : PV X exc W U k a ta) (hb : PV X exc W U k b tb) (hc : PV X exc W U k c tc) (hm : lastMarks [op, op'] [b, c] = false) : PV X exc W U k (.Compare a [op, op'] [b, c] pos) (.chain p q ta tb tc) := by
  unfold PV
  rw [ev_chain]
  exact snd_chain ho ho' (snd_fz ha) (snd_fz hb) (snd_fz hc) hm
/-! and, or, not, if -/
theorem r_one {op : BoolOp} (h : PV X exc W U k a ta) : PV X exc W U k (.BoolOp op [a] pos) ta := pe_one h
theorem r_and (ha : PV X exc W U k a ta) (hb : PV X exc W U k (.BoolOp .And (b :: es) pos) tb) : PV X exc W U k (.BoolOp .And (a :: b :: es) pos) (.and ta tb) := by
  unfold PV
  rw [ev_and]
  exact snd_and rfl ha hb
theorem r_or (ha : PV X exc W U k a ta) (hb : PV X exc W U k (.BoolOp .Or (b :: es) pos) tb) : PV X exc W U k (.BoolOp .Or (a :: b :: es) pos) (.or ta tb) := by
  unfold PV
  rw [ev_or]
  exact snd_or rfl ha hb
theorem r_not (ha : PV X exc W U k a ta) : PV X exc W U k (.UnaryOp .Not a pos) (.not ta) := by
  unfold PV
  rw [ev_not]
  exact snd_not ha
theorem r_ite (hc : PVt X exc W U k c tc) (ha : PV X exc W U k a ta) (hb : PV X exc W U k b tb) : PV X exc W U k (.IfExp c a b pos) (.ite tc ta tb) := by
  unfold PV
  rw [ev_ite]
  exact snd_ite hc ha hb
theorem t_of (h : PV X exc W U k e t) (he : ∀ whole, isTrue e X.env whole = (do let v ← whole; standAt e.pos; holding [v] (truthy v))) : PVt X exc W U k e t := snd_tst h he
theorem t_and1 (h : PVt X exc W U k a ta) : PVw X exc W U k (.BoolOp .And [a] pos) ta := sndT_and1 h
theorem t_or1 (h : PVt X exc W U k a ta) : PVw X exc W U k (.BoolOp .Or [a] pos) ta := sndT_or1 h
theorem t_and (ha : PVt X exc W U k a ta) (hb : PVw X exc W U k (.BoolOp .And (b :: es) pos) tb) : PVw X exc W U k (.BoolOp .And (a :: b :: es) pos) (.and ta tb) := by
  unfold PVw
  rw [ev_and]
  exact sndT_and ha hb
theorem t_or (ha : PVt X exc W U k a ta) (hb : PVw X exc W U k (.BoolOp .Or (b :: es) pos) tb) : PVw X exc W U k (.BoolOp .Or (a :: b :: es) pos) (.or ta tb) := by
  unfold PVw
  rw [ev_or]
  exact sndT_or ha hb
theorem t_not (ha : PVt X exc W U k a ta) : PVt X exc W U k (.UnaryOp .Not a pos) (.not ta) := by
  unfold PVt
  rw [ev_not]
  exact sndT_not ha
/-! subscripts -/
theorem r_item (ha : PVo X exc W U k a ta) (hb : PVo X exc W U k b tb) (hs : notSlice b = true) : PV X exc W U k (.Subscript a b pos) (.prim .item (.cons ta (.cons tb .nil))) := by
  unfold PV
  rw [ev_prim, two2]
  exact snd_item ha hb hs
theorem r_slLo {p2 : Pos} (ha : PVo X exc W U k a ta) (hb : PVo X exc W U k b tb) : PV X exc W U k (.Subscript a (.Slice (some b) none none p2) pos) (.prim (.slice true false) (.cons ta (.cons tb .nil))) := by
  unfold PV
  rw [ev_prim, two2]
  exact snd_slLo ha hb
theorem r_slHi {p2 : Pos} (ha : PVo X exc W U k a ta) (hb : PVo X exc W U k b tb) : PV X exc W U k (.Subscript a (.Slice none (some b) none p2) pos) (.prim (.slice false true) (.cons ta (.cons tb .nil))) := by
  unfold PV
  rw [ev_prim, two2]
  exact snd_slHi ha hb
theorem r_sl2 {p2 : Pos} (ha : PVo X exc W U k a ta) (hb : PV X exc W U k b tb) (hc : PV X exc W U k c tc) : PV X exc W U k (.Subscript a (.Slice (some b) (some c) none p2) pos) (.sl2 ta tb tc) := by
  unfold PV
  rw [ev_sl2]
  exact snd_sl2 ha (snd_fz hb) (snd_fz hc)
/-! builtins -/
theorem r_fn1 {id : String} {p : Prim} {x : Str} {q : Pos} (hc : CallP X (.builtin id) p) (hm : X.mg x = none) (hv : bootBuiltins x = some (.builtin id)) (hn : x ≠ "__name__") (hdb : (x == ("__debug__" : Str)) = false) (hg : Gl X x) (ha : PVo X exc W U k a ta) (hs : noStar a = true) :
    PV X exc W U k (.Call (.Name x q) [a] [] pos) (.prim p (.cons ta .nil)) := by
  unfold PV
  rw [ev_prim]
  exact snd_callB hc.ok hg hm hv (os_cons ha hs os_nil) hn hdb hs rfl fun env os env' e => evo_len _ _ _ _ e
theorem r_ty1 {T : String} {p : Prim} {x : Str} {q : Pos} (hc : CallP X (.type T) p) (hm : X.mg x = none) (hv : bootBuiltins x = some (.type T)) (hn : x ≠ "__name__") (hdb : (x == ("__debug__" : Str)) = false) (hg : Gl X x) (ha : PVo X exc W U k a ta) (hs : noStar a = true) :
    PV X exc W U k (.Call (.Name x q) [a] [] pos) (.prim p (.cons ta .nil)) := by
  unfold PV
  rw [ev_prim]
  exact snd_callTy hc.ok hg hm hv (os_cons ha hs os_nil) hn hdb hs rfl fun env os env' e => evo_len _ _ _ _ e
theorem r_len {q : Pos} (B : Bd X W k) (hg : Gl X "len") (ha : PVo X exc W U k a ta) (hs : noStar a = true) : PV X exc W U k (.Call (.Name "len" q) [a] [] pos) (.prim .len (.cons ta .nil)) := r_fn1 len_ok B.bl.len (by decide +kernel) (by decide) (by decide) hg ha hs
theorem r_sum {q : Pos} (B : Bd X W k) (hg : Gl X "sum") (ha : PVo X exc W U k a ta) (hs : noStar a = true) : PV X exc W U k (.Call (.Name "sum" q) [a] [] pos) (.prim .sum (.cons ta .nil)) := r_fn1 (sum_ok B.calm) B.bl.sum (by decide +kernel) (by decide) (by decide) hg ha hs
theorem r_sorted {q : Pos} (B : Bd X W k) (hg : Gl X "sorted") (ha : PVo X exc W U k a ta) (hs : noStar a = true) : PV X exc W U k (.Call (.Name "sorted" q) [a] [] pos) (.prim .sorted (.cons ta .nil)) := r_fn1 (sorted_ok B.hr) B.bl.sorted (by decide +kernel) (by decide) (by decide) hg ha hs
theorem r_all {q : Pos} (B : Bd X W k) (hg : Gl X "all") (ha : PVo X exc W U k a ta) (hs : noStar a = true) : PV X exc W U k (.Call (.Name "all" q) [a] [] pos) (.prim .all (.cons ta .nil)) := r_fn1 (all_ok B.calm) B.bl.all (by decide +kernel) (by decide) (by decide) hg ha hs
theorem r_any {q : Pos} (B : Bd X W k) (hg : Gl X "any") (ha : PVo X exc W U k a ta) (hs : noStar a = true) : PV X exc W U k (.Call (.Name "any" q) [a] [] pos) (.prim .any (.cons ta .nil)) := r_fn1 (any_ok B.calm) B.bl.any (by decide +kernel) (by decide) (by decide) hg ha hs
theorem r_tuple {q : Pos} (B : Bd X W k) (hg : Gl X "tuple") (ha : PVo X exc W U k a ta) (hs : noStar a = true) : PV X exc W U k (.Call (.Name "tuple" q) [a] [] pos) (.prim .tuple (.cons ta .nil)) := r_ty1 tuple_ok B.bl.tuple (by decide +kernel) (by decide) (by decide) hg ha hs
theorem r_list {q : Pos} (B : Bd X W k) (hg : Gl X "list") (ha : PVo X exc W U k a ta) (hs : noStar a = true) : PV X exc W U k (.Call (.Name "list" q) [a] [] pos) (.prim .list (.cons ta .nil)) := r_ty1 list_ok B.bl.list (by decide +kernel) (by decide) (by decide) hg ha hs
theorem r_toint {q : Pos} (B : Bd X W k) (hg : Gl X "int") (ha : PVo X exc W U k a ta) (hs : noStar a = true) : PV X exc W U k (.Call (.Name "int" q) [a] [] pos) (.prim .int (.cons ta .nil)) := r_ty1 int_ok B.bl.int (by decide +kernel) (by decide) (by decide) hg ha hs
theorem r_tostr {q : Pos} (B : Bd X W k) (hg : Gl X "str") (ha : PVo X exc W U k a ta) (hs : noStar a = true) : PV X exc W U k (.Call (.Name "str" q) [a] [] pos) (.prim .str (.cons ta .nil)) := r_ty1 str_ok B.bl.str (by decide +kernel) (by decide) (by decide) hg ha hs
theorem r_fn2 {id : String} {p : Prim} {x : Str} {q : Pos} (hc : CallR X (.builtin id) (fun xs H Q => xs.length = 2 ∧ rPn X.K p xs H Q)) (hm : X.mg x = none) (hv : bootBuiltins x = some (.builtin id)) (hn : x ≠ "__name__") (hdb : (x == ("__debug__" : Str)) = false) (hg : Gl X x) (ha : PVo X exc W U k a ta) (hb : PVo X exc W U k b tb) (hs : noStar a = true) (hs2 : noStar b = true) :
    PV X exc W U k (.Call (.Name x q) [a, b] [] pos) (.prim p (.cons ta (.cons tb .nil))) := by
  unfold PV
  rw [ev_prim]
  exact snd_callB hc hg hm hv (os_cons ha hs (os_cons hb hs2 os_nil)) hn hdb hs (by rw [star_cons hs2]; rfl) fun env os env' e => evo_len _ _ _ _ e
theorem r_min2 {q : Pos} (B : Bd X W k) (hg : Gl X "min") (ha : PVo X exc W U k a ta) (hb : PVo X exc W U k b tb) (hs : noStar a = true) (hs2 : noStar b = true) : PV X exc W U k (.Call (.Name "min" q) [a, b] [] pos) (.prim .min2 (.cons ta (.cons tb .nil))) := r_fn2 (min2_ok B.calm) B.bl.min (by decide +kernel) (by decide) (by decide) hg ha hb hs hs2
theorem r_max2 {q : Pos} (B : Bd X W k) (hg : Gl X "max") (ha : PVo X exc W U k a ta) (hb : PVo X exc W U k b tb) (hs : noStar a = true) (hs2 : noStar b = true) : PV X exc W U k (.Call (.Name "max" q) [a, b] [] pos) (.prim .max2 (.cons ta (.cons tb .nil))) := r_fn2 (max2_ok B.calm) B.bl.max (by decide +kernel) (by decide) (by decide) hg ha hb hs hs2
theorem r_isi {T : String} {q1 q2 : Pos} (ht : T ∈ ["int", "bool", "tuple", "list", "str"]) (B : Bd X W k) (hmT : X.mg (Str.ofString T) = none) (hg : Gl X "isinstance") (hgT : Gl X (Str.ofString T)) (ha : PVo X exc W U k a ta) (hs : noStar a = true) :
    PV X exc W U k (.Call (.Name "isinstance" q1) [a, .Name (Str.ofString T) q2] [] pos) (.prim (isP T) (.cons ta .nil)) := by
  unfold PV
  rw [ev_prim, two1]
  exact snd_isi ht hg B.bl.isi hgT hmT ha hs
theorem r_isInt {q1 q2 : Pos} (B : Bd X W k) (hg : Gl X "isinstance") (hgT : Gl X "int") (ha : PVo X exc W U k a ta) (hs : noStar a = true) : PV X exc W U k (.Call (.Name "isinstance" q1) [a, .Name "int" q2] [] pos) (.prim .isInt (.cons ta .nil)) := r_isi (T := "int") (by decide) B B.bl.int hg hgT ha hs
theorem r_isBool {q1 q2 : Pos} (B : Bd X W k) (hg : Gl X "isinstance") (hgT : Gl X "bool") (ha : PVo X exc W U k a ta) (hs : noStar a = true) : PV X exc W U k (.Call (.Name "isinstance" q1) [a, .Name "bool" q2] [] pos) (.prim .isBool (.cons ta .nil)) := r_isi (T := "bool") (by decide) B B.bl.bool hg hgT ha hs
theorem r_isTup {q1 q2 : Pos} (B : Bd X W k) (hg : Gl X "isinstance") (hgT : Gl X "tuple") (ha : PVo X exc W U k a ta) (hs : noStar a = true) : PV X exc W U k (.Call (.Name "isinstance" q1) [a, .Name "tuple" q2] [] pos) (.prim .isTup (.cons ta .nil)) := r_isi (T := "tuple") (by decide) B B.bl.tuple hg hgT ha hs
theorem r_isList {q1 q2 : Pos} (B : Bd X W k) (hg : Gl X "isinstance") (hgT : Gl X "list") (ha : PVo X exc W U k a ta) (hs : noStar a = true) : PV X exc W U k (.Call (.Name "isinstance" q1) [a, .Name "list" q2] [] pos) (.prim .isList (.cons ta .nil)) := r_isi (T := "list") (by decide) B B.bl.list hg hgT ha hs
theorem r_isStr {q1 q2 : Pos} (B : Bd X W k) (hg : Gl X "isinstance") (hgT : Gl X "str") (ha : PVo X exc W U k a ta) (hs : noStar a = true) : PV X exc W U k (.Call (.Name "isinstance" q1) [a, .Name "str" q2] [] pos) (.prim .isStr (.cons ta .nil)) := r_isi (T := "str") (by decide) B B.bl.str hg hgT ha hs
theorem r_rg {q1 q2 p1 : Pos} (B : Bd X W k) (hg : Gl X "list") (hg2 : Gl X "range") (ha : PV X exc W U k a ta) (hs : noStar a = true) : PV X exc W U k (.Call (.Name "list" q1) [.Call (.Name "range" q2) [a] [] p1] [] pos) (.rg ta) := by
  unfold PV
  rw [ev_rg]
  exact snd_listRg B.calm hg B.bl.list hg2 B.bl.range (snd_fz ha) hs
/-! what is walked -/
theorem i_seq {tg : Expr} (h : PV X exc W U k e t) : PVi X exc W U k tg e (.seq t) := by
  unfold PVi
  rw [evi_seq]
  exact snd_seq (snd_fz h)
theorem i_rng1 {tg : Expr} {q : Pos} (B : Bd X W k) (hg : Gl X "range") (ha : PV X exc W U k a ta) (hs : noStar a = true) : PVi X exc W U k tg (.Call (.Name "range" q) [a] [] pos) (.rng1 ta) := by
  unfold PVi
  rw [evi_rng1]
  exact snd_rng1 hg B.bl.range (snd_fz ha) hs
theorem i_rng2 {tg : Expr} {q : Pos} (B : Bd X W k) (hg : Gl X "range") (ha : PV X exc W U k a ta) (hb : PV X exc W U k b tb) (hs : noStar a = true) (hs2 : noStar b = true) : PVi X exc W U k tg (.Call (.Name "range" q) [a, b] [] pos) (.rng2 ta tb) := by
  unfold PVi
  rw [evi_rng2]
  exact snd_rng2 hg B.bl.range (snd_fz ha) (snd_fz hb) hs hs2
theorem i_enum {elts : List Expr} {j : Nat} {tp q : Pos} (B : Bd X W k) (hg : Gl X "enumerate") (ha : PV X exc W U k a ta) (hs : noStar a = true) : PVi X exc W U k (.Tuple elts j tp) (.Call (.Name "enumerate" q) [a] [] pos) (.enum ta) := by
  unfold PVi
  rw [evi_enum]
  exact snd_enum hg B.bl.enum (snd_fz ha) hs
theorem i_zip {elts : List Expr} {j : Nat} {tp q : Pos} (B : Bd X W k) (hg : Gl X "zip") (ha : PV X exc W U k a ta) (hb : PV X exc W U k b tb) (hs : noStar a = true) (hs2 : noStar b = true) : PVi X exc W U k (.Tuple elts j tp) (.Call (.Name "zip" q) [a, b] [] pos) (.zip ta tb) := by
  unfold PVi
  rw [evi_zip]
  exact snd_zip hg B.bl.zip (snd_fz ha) (snd_fz hb) hs hs2
end
end Dc

/-! Dc: comprehensions, calls, statements. -/
namespace Dc
open PySem PySem.Spec PyProof.Rows L2 RZ
section
variable {X : Cx} {exc : Nat → Addr} {W : WX} {U : Nat → Option Def} {k : Nat} {io : List Nat} {pos : Pos} {e a b c : Expr} {es : List Expr} {t ta tb tc : E} {ts : Es}
/-! comprehensions -/
/-- a block's condition -/
def PVc (X : Cx) (exc : Nat → Addr) (U : Nat → Option Def) (k : Nat) (ifs : List Expr) (t : E) : Prop := ∃ tt, PTs X ifs tt ∧ ∀ σ H Q, dG X.K exc W0 relB (tst (ev (modesOf U) (run U k) t)) σ H Q → tt σ H Q
theorem k_none : PVc X exc U k [] (.cst (.bool true)) := ⟨_, pts_nil, fun σ H Q q => tYes_of q⟩
theorem k_one (h : PVt X exc W0 U k c tc) : PVc X exc U k [c] tc := ⟨_, pts_one h, fun σ H Q q => q⟩
theorem r_comp {tg : List Nat} {own : List (Str × Nat)} {tgE iter : Expr} {ifs : List Expr} {scope : Scope} {it : Itr} (B : Bd X W k) (hi : PVi X exc W U k tgE iter it) (ok : blkC X.N X.env.scope scope own = true) (ho : own.map (·.2) = tg)
    (hg : ∀ (s : Shared) (H : Hp) (C : Addr) (cl : List (Str × Addr)) (fp : List Addr), Bd (X.blk s H scope (compEnvC scope cl C X.env) fp) W0 k → PG (X.blk s H scope (compEnvC scope cl C X.env) fp) tgE (gX X.K tg))
    (ht : ∀ (s : Shared) (H : Hp) (C : Addr) (cl : List (Str × Addr)) (fp : List Addr), Bd (X.blk s H scope (compEnvC scope cl C X.env) fp) W0 k → ∃ tt, PTs (X.blk s H scope (compEnvC scope cl C X.env) fp) ifs tt ∧ ∀ σ H Q, dG X.K exc W0 relB (tst (ev (modesOf U) (run U k) tc)) σ H Q → tt σ H Q)
    (he : ∀ (s : Shared) (H : Hp) (C : Addr) (cl : List (Str × Addr)) (fp : List Addr), Bd (X.blk s H scope (compEnvC scope cl C X.env) fp) W0 k → PV (X.blk s H scope (compEnvC scope cl C X.env) fp) exc W0 U k e t) (hs : ∀ x, foldedSetIterable iter X.env x = pure x) :
    PV X exc W U k (.ListComp e [⟨tgE, iter, ifs, 0⟩] scope pos) (.comp t tg it tc) := by
  unfold PV
  rw [ev_comp]
  exact snd_comp (tt := fun σ H Q => dG X.K exc W0 relB (tst (ev (modesOf U) (run U k) tc)) σ H Q) B.calm B.nd hi (blkOk_by ok) ho (fun s H C cl fp => hg s H C cl fp B.blk) (fun s H C cl fp => by
    obtain ⟨tt, h1, h2⟩ := ht s H C cl fp B.blk
    exact ⟨fun pins s σ H Q I q => h1.run pins s σ H Q I (h2 σ H Q q)⟩) (fun σ H Q q => q) (fun s H C cl fp => snd_fz (he s H C cl fp B.blk)) hs
theorem g_one {i : Nat} {x : Str} {p : Pos} (hN : X.N.Nodup) (hi : X.N[i]? = some x) (hx : Loc X.env.scope x) (hf : X.fn x = true ∨ X.env.scope.names.lookup x = some .local) : PG X (.Name x p) (gX X.K [i]) := pg_name hN hi hx hf
theorem gs_0 : PGs X [] (gsX []) := pgs_nil
theorem gs_1 {i : Nat} {x : Str} {p : Pos} {is : List Nat} (hN : X.N.Nodup) (hi : X.N[i]? = some x) (hx : Loc X.env.scope x) (hf : X.fn x = true ∨ X.env.scope.names.lookup x = some .local) (h : PGs X es (gsX is)) : PGs X (.Name x p :: es) (gsX (i :: is)) := pgs_cons (pg_name hN hi hx hf) h rfl
theorem g_two {i j n : Nat} {xs : List Expr} {p : Pos} (hc : X.calm = true) (h : PGs X xs (gsX [i, j])) (hn : (assignEach xs X.env).length = 2) (hst : (assignEach xs X.env).findIdx? (·.1) = none) : PG X (.Tuple xs n p) (gX X.K [i, j]) := pg_tup hc h hn hst
theorem g_three {i j l n : Nat} {xs : List Expr} {p : Pos} (hc : X.calm = true) (h : PGs X xs (gsX [i, j, l])) (hn : (assignEach xs X.env).length = 3) (hst : (assignEach xs X.env).findIdx? (·.1) = none) : PG X (.Tuple xs n p) (gX X.K [i, j, l]) := pg_tup hc h hn hst
/-! calls -/
/-- the f-th def, by its name -/
def Ok1 (P : Program) (w : World) (K : PySem.W.Frag) (mg : Str → Option Value) (base : Heap) (exc : Nat → Addr) (U : Nat → Option Def) (k f : Nat) (x : Str) (n : Nat) : Prop := ∃ a, mg x = some (.ref a) ∧ Can P w K mg base exc k a n (run U k f)
theorem r_call {f n : Nat} {x : Str} {q : Pos} {ms : Modes} (B : Bd X W k) (h : Ok1 X.prog X.w X.K X.mg X.base exc U k f x n) (hg : Gl X x) (hdb : (x == ("__debug__" : Str)) = false) (hm : modesOf U f = ms) (ha : PVgs X exc W U k ms (e :: es) ts) (hs : noStar e = true) (hpl : (backTo pos (starEach es X.env)).any (·.1) = false) (hl : ts.len = n) (hd : (lent ms ts).Nodup) :
    PV X exc W U k (.Call (.Name x q) (e :: es) [] pos) (.call f ts) := by
  subst hm
  obtain ⟨a, hma, fd, ps, hF, hk, hb⟩ := h
  unfold PV
  rw [ev_call]
  exact snd_call hF B.hr B.tk hg hma hk hb ha hdb hs hpl fun env as env' e => by
    obtain ⟨q1, q2⟩ := eva_ok _ _ _ _ _ e
    exact ⟨by rw [q1, hl], by rw [q2]; exact hd⟩
/-- several defs by their names -/
inductive OkL (P : Program) (w : World) (K : PySem.W.Frag) (mg : Str → Option Value) (base : Heap) (exc : Nat → Addr) (U : Nat → Option Def) (k n : Nat) : List Str → List Nat → Prop where
  | nil : OkL P w K mg base exc U k n [] []
  | cons {x : Str} {f : Nat} {xs : List Str} {fs : List Nat} : Ok1 P w K mg base exc U k f x n → OkL P w K mg base exc U k n xs fs → OkL P w K mg base exc U k n (x :: xs) (f :: fs)
theorem OkL.refs {n : Nat} : ∀ {xs : List Str} {fs : List Nat}, OkL X.prog X.w X.K X.mg X.base exc U k n xs fs → (∀ x ∈ xs, Gl X x ∧ (x == ("__debug__" : Str)) = false) → ∃ as : List Addr, as.length = fs.length ∧ (∀ ps : List Pos, ps.length = xs.length → PA X (List.zipWith (fun x p => Expr.Name x p) xs ps) (tRefs as)) ∧
    ∀ j a, as[j]? = some a → Can X.prog X.w X.K X.mg X.base exc k a n (run U k (fs.getD j 0))
  | _, _, .nil, _ => ⟨[], rfl, fun ps _ => by cases ps <;> exact refs_nil, fun j a h => by simp at h⟩
  | _, _, .cons (x := x) (f := f) (xs := xs) (fs := fs) h t, hg => by
    obtain ⟨a, hm, hc⟩ := h
    obtain ⟨as, e1, e2, e3⟩ := OkL.refs t fun y m => hg y (List.mem_cons_of_mem _ m)
    refine ⟨a :: as, by rw [List.length_cons, List.length_cons, e1], fun ps hp => ?_, fun j b hj => ?_⟩
    · cases ps with
      | nil => cases hp
      | cons p ps => exact refs_cons (hg x List.mem_cons_self).1 hm (hg x List.mem_cons_self).2 (e2 ps (Nat.succ.inj hp))
    · cases j with
      | zero =>
        cases Option.some.inj hj
        exact hc
      | succ j => exact e3 j b hj
theorem r_sel {n : Nat} {xs : List Str} {fs : List Nat} {ps : List Pos} {p1 p2 : Pos} {ix : Expr} (B : Bd X W k) (h : OkL X.prog X.w X.K X.mg X.base exc U k n xs fs) (hg : ∀ x ∈ xs, Gl X x ∧ (x == ("__debug__" : Str)) = false) (hps : ps.length = xs.length) (hix : PV X exc W U k ix t) (hsl : notSlice ix = true) (ha : PVgs X exc W U k [] (e :: es) ts) (hs : noStar e = true)
    (hpl : (backTo pos (starEach es X.env)).any (·.1) = false) (hl : ts.len = n) (hz : decide (fs.length ≤ 1000) = true) (hd : lent [] ts = []) : PV X exc W U k (.Call (.Subscript (.List (List.zipWith (fun x p => Expr.Name x p) xs ps) p1) ix p2) (e :: es) [] pos) (.sel fs t ts) := by
  obtain ⟨as, e1, e2, e3⟩ := h.refs hg
  unfold PV
  rw [ev_sel, ← e1]
  exact snd_sel e3 B.hr B.tk (e2 ps hps) (snd_fz hix) hsl ha hs (by rw [e1]; exact Nat.le_of_lt (small1000 (of_decide_eq_true hz))) hpl fun env as env' e => by
    obtain ⟨q1, q2⟩ := eva_ok _ _ _ _ _ e
    exact ⟨by rw [q1, hl], by rw [q2, hd]; exact .nil⟩
theorem al_nil {p : Str → Prop} : ∀ x ∈ ([] : List Str), p x := fun _ m => by cases m
theorem al_cons {p : Str → Prop} {x : Str} {xs : List Str} (h : p x) (t : ∀ y ∈ xs, p y) : ∀ y ∈ x :: xs, p y := fun y m => by
  rcases List.mem_cons.mp m with e | m
  · rw [e]
    exact h
  · exact t y m
/-! the frame's own lists -/
theorem r_app {i : Nat} {x : Str} {p apos cpos : Pos} (hN : X.N[i]? = some x) (hv : Vis X.env.scope x) (hd : (x == ("__debug__" : Str)) = false) (hcd : (x == ("__classdict__" : Str)) = false) (ha : PV X exc W U k e t) (hn : noStar e = true) (hb : attributeBase (.Name x p) "append" X.env (eval (.Name x p) X.env) = eval (.Name x p) X.env)
    (hfew : ((backTo cpos (starEach [e] X.env)).all (fun x => !x.1) && (backToKw cpos (keywordEach [] X.env)).all (fun x => x.1.isSome) && decide ([e].length + ([] : List Keyword).length + (if ([] : List Keyword).isEmpty then 0 else 1) < 30)) = true) (hline : (apos.endLine == cpos.line) = true) :
    PV X exc W U k (.Call (.Attribute (.Name x p) "append" apos) [e] [] cpos) (.app i t) := by
  unfold PV
  rw [ev_app]
  exact snd_app (pe_var hN hv hd hcd) (snd_fz ha) hn hb hfew hline
theorem r_ext {i : Nat} {x : Str} {p apos cpos : Pos} (hN : X.N[i]? = some x) (hv : Vis X.env.scope x) (hd : (x == ("__debug__" : Str)) = false) (hcd : (x == ("__classdict__" : Str)) = false) (ha : PV X exc W U k e t) (hn : noStar e = true) (hb : attributeBase (.Name x p) "extend" X.env (eval (.Name x p) X.env) = eval (.Name x p) X.env)
    (hfew : ((backTo cpos (starEach [e] X.env)).all (fun x => !x.1) && (backToKw cpos (keywordEach [] X.env)).all (fun x => x.1.isSome) && decide ([e].length + ([] : List Keyword).length + (if ([] : List Keyword).isEmpty then 0 else 1) < 30)) = true) (hline : (apos.endLine == cpos.line) = true) :
    PV X exc W U k (.Call (.Attribute (.Name x p) "extend" apos) [e] [] cpos) (.ext i t) := by
  unfold PV
  rw [ev_ext]
  exact snd_ext (pe_var hN hv hd hcd) ha hn hb hfew hline

/-! ### statements -/
variable {st : Stmt} {sts sts2 : List Stmt} {s1 : S} {ss ss2 : Ss}
theorem s_nil : SVs X exc W U k io [] .nil := by
  have e : execs (modesOf U) (run U k) .nil = fun env => .nx env := by funext env; rfl
  unfold SVs
  rw [e]
  exact snd_none
theorem s_cons (h : SV X exc W U k io st s1) (r : SVs X exc W U k io sts ss) : SVs X exc W U k io (st :: sts) (.cons s1 ss) := by
  have e : execs (modesOf U) (run U k) (.cons s1 ss) = fun env => (exec (modesOf U) (run U k) s1 env).bind (execs (modesOf U) (run U k) ss) := by funext env; rfl
  unfold SVs
  rw [e]
  exact snd_seqS h r
theorem s_asg {i : Nat} {x : Str} {p : Pos} (B : Bd X W k) (hi : X.N[i]? = some x) (hx : X.env.scope.names.lookup x = some .local) (he : PV X exc W U k e t) (hs : swapsWith e (some (.Name x p)) pos.line X.env = pure false) (h : i ∉ io) : SV X exc W U k io (.Assign [.Name x p] e pos) (.asg i t) := by
  have e : exec (modesOf U) (run U k) (.asg i t) = fun env => (ev (modesOf U) (run U k) t env).go fun s env1 => .nx (env1.set i s) := by funext env; rfl
  unfold SV
  rw [e]
  exact snd_asg B.nd hi (.inl hx) he hs (.inr hx) h
/-- a name that a block within reads: a cell -/
theorem s_asgC {i : Nat} {x : Str} {p : Pos} (B : Bd X W k) (hi : X.N[i]? = some x) (hx : Loc X.env.scope x) (hf : X.fn x = true ∨ X.env.scope.names.lookup x = some .local) (he : PV X exc W U k e t) (hs : swapsWith e (some (.Name x p)) pos.line X.env = pure false) (h : i ∉ io) : SV X exc W U k io (.Assign [.Name x p] e pos) (.asg i t) := by
  have e : exec (modesOf U) (run U k) (.asg i t) = fun env => (ev (modesOf U) (run U k) t env).go fun s env1 => .nx (env1.set i s) := by funext env; rfl
  unfold SV
  rw [e]
  exact snd_asg B.nd hi hx he hs hf h
theorem s_lc {i : Nat} {x : Str} {py spos : Pos} {tg : List Nat} {own : List (Str × Nat)} {tgE iter : Expr} {ifs : List Expr} {scope : Scope} {it : Itr} (B : Bd X W k) (hy : X.N[i]? = some x) (hyl : X.env.scope.names.lookup x = some .local) (hk : X.env.scope.kind = .function) (hl : (py.line == pos.line) = true) (hsc : (scope.names.any fun (n, k) => n == x && (k == .local || k == .cell)) = false)
    (hi : PVi X exc W U k tgE iter it) (ok : blkC X.N X.env.scope scope own = true) (ho : own.map (·.2) = tg) (hg : ∀ (s : Shared) (H : Hp) (C : Addr) (cl : List (Str × Addr)) (fp : List Addr), Bd (X.blk s H scope (compEnvC scope cl C X.env) fp) W0 k → PG (X.blk s H scope (compEnvC scope cl C X.env) fp) tgE (gX X.K tg))
    (ht : ∀ (s : Shared) (H : Hp) (C : Addr) (cl : List (Str × Addr)) (fp : List Addr), Bd (X.blk s H scope (compEnvC scope cl C X.env) fp) W0 k → ∃ tt, PTs (X.blk s H scope (compEnvC scope cl C X.env) fp) ifs tt ∧ ∀ σ H Q, dG X.K exc W0 relB (tst (ev (modesOf U) (run U k) tc)) σ H Q → tt σ H Q)
    (he : ∀ (s : Shared) (H : Hp) (C : Addr) (cl : List (Str × Addr)) (fp : List Addr), Bd (X.blk s H scope (compEnvC scope cl C X.env) fp) W0 k → PV (X.blk s H scope (compEnvC scope cl C X.env) fp) exc W0 U k e t) (hs : ∀ x, foldedSetIterable iter X.env x = pure x) (h : i ∉ io) :
    SV X exc W U k io (.Assign [.Name x py] (.ListComp e [⟨tgE, iter, ifs, 0⟩] scope pos) spos) (.asg i (.comp t tg it tc)) := by
  have ee : exec (modesOf U) (run U k) (.asg i (.comp t tg it tc)) = fun env => (compE tg (evi (modesOf U) (run U k) it) (tst (ev (modesOf U) (run U k) tc)) (fz (ev (modesOf U) (run U k) t)) env).go fun s env1 => .nx (env1.set i s) := by funext env; rfl
  unfold SV
  rw [ee]
  exact snd_setLc (tt := fun σ H Q => dG X.K exc W0 relB (tst (ev (modesOf U) (run U k) tc)) σ H Q) B.calm B.nd hy hyl hk hl hsc hi (blkOk_by ok) ho (fun s H C cl fp => hg s H C cl fp B.blk) (fun s H C cl fp => by
    obtain ⟨tt, h1, h2⟩ := ht s H C cl fp B.blk
    exact ⟨fun pins s σ H Q I q => h1.run pins s σ H Q I (h2 σ H Q q)⟩) (fun σ H Q q => q) (fun s H C cl fp => snd_fz (he s H C cl fp B.blk)) hs h
theorem s_asgT {is : List Nat} {tg : Expr} (he : PV X exc W U k e t) (hg : PG X tg (gX X.K is)) (hs : swapsWithSole [tg] e pos.line X.env = pure false) (hw : swappedStores [tg] e X.env = pure none) (h1 : (assignEach [tg] X.env).map (·.2) = [assign tg X.env]) (h : ∀ j ∈ is, j ∉ io) : SV X exc W U k io (.Assign [tg] e pos) (.asgT is t) := by
  have e : exec (modesOf U) (run U k) (.asgT is t) = fun env => (fz (ev (modesOf U) (run U k) t) env).go fun d env1 => match bindT is d env1 with | some env2 => .nx env2 | none => .st := by funext env; rfl
  unfold SV
  rw [e]
  exact snd_asgT (snd_fz he) hg hs hw h1 h
theorem s_par {i j : Nat} {x y : Str} {px py pt : Pos} {kt k2 pt2} (B : Bd X W k) (hi : X.N[i]? = some x) (hj : X.N[j]? = some y) (hij : i ≠ j) (hx : X.env.scope.names.lookup x = some .local) (hy : X.env.scope.names.lookup y = some .local) (ha : PV X exc W U k a ta) (hb : PV X exc W U k b tb) (na : noStar a = true) (nb : noStar b = true)
    (hw : swappedStores [.Tuple [.Name x px, .Name y py] kt pt] (.Tuple [a, b] k2 pt2) X.env = pure (some [x, y])) (h1 : i ∉ io) (h2 : j ∉ io) : SV X exc W U k io (.Assign [.Tuple [.Name x px, .Name y py] kt pt] (.Tuple [a, b] k2 pt2) pos) (.par i j ta tb) := by
  have e : exec (modesOf U) (run U k) (.par i j ta tb) = fun env => (fz (ev (modesOf U) (run U k) ta) env).go fun v env1 => (fz (ev (modesOf U) (run U k) tb) env1).go fun w env2 => .nx ((env2.set i (.fr v)).set j (.fr w)) := by funext env; rfl
  unfold SV
  rw [e]
  exact snd_par B.calm B.nd hi hj hij hx hy (snd_cons mono_D (snd_fz ha) (snd_cons mono_D (snd_fz hb) snd_nil nb) na) hw rfl h1 h2
theorem s_ex (he : PV X exc W U k e t) (hs : swapsWith e none pos.line X.env = pure false) : SV X exc W U k io (.Expr e pos) (.ex t) := by
  have e : exec (modesOf U) (run U k) (.ex t) = fun env => (ev (modesOf U) (run U k) t env).go fun _ env1 => .nx env1 := by funext env; rfl
  unfold SV
  rw [e]
  exact snd_ex he hs
theorem s_ret (he : PV X exc W U k e t) (hn : t.isVar = false) : SV X exc W U k io (.Return (some e) pos) (.ret t) := by
  have e : exec (modesOf U) (run U k) (.ret t) = fun env => (ev (modesOf U) (run U k) t env).go fun s env1 => .rt s env1 := by
    cases t with
    | var i => cases hn
    | _ => funext env; rfl
  unfold SV
  rw [e]
  exact snd_ret he
theorem s_retV {i : Nat} {x : Str} {p : Pos} (hN : X.N[i]? = some x) (hv : Vis X.env.scope x) (hd : (x == ("__debug__" : Str)) = false) (hcd : (x == ("__classdict__" : Str)) = false) : SV X exc W U k io (.Return (some (.Name x p)) pos) (.ret (.var i)) := by
  have e : exec (modesOf U) (run U k) (.ret (.var i)) = fun env => match look env i with | .un => .st | s => .rt s (env.set i .un) := by funext env; rfl
  unfold SV
  rw [e]
  exact snd_retV hN hv hd hcd
theorem s_if (hc : PVt X exc W U k c tc) (ha : SVs X exc W U k io sts ss) (hb : SVs X exc W U k io sts2 ss2) : SV X exc W U k io (.If c sts sts2 pos) (.iff tc ss ss2) := by
  have e : exec (modesOf U) (run U k) (.iff tc ss ss2) = fun env => (tst (ev (modesOf U) (run U k) tc) env).go fun k1 env1 => match k1 with | true => execs (modesOf U) (run U k) ss env1 | false => execs (modesOf U) (run U k) ss2 env1 := by funext env; rfl
  unfold SV
  rw [e]
  exact snd_if hc ha hb
theorem s_for {tg : List Nat} {tgE iter : Expr} {it : Itr} (B : Bd X W k) (hp : PassesOwn (model X.prog X.w) X.A X.env X.xe) (hi : PVi X exc W U k tgE iter it) (hg : PG X tgE (gX X.K tg)) (hb : SVs X exc W U k io sts ss) (hs : ∀ x, foldedSetIterable iter X.env x = pure x) (hio : ∀ j ∈ tg, j ∉ io) : SV X exc W U k io (.For tgE iter sts [] pos) (.for tg it ss) := by
  have e : exec (modesOf U) (run U k) (.for tg it ss) = fun env => (evi (modesOf U) (run U k) it env).go fun xs env1 => forL tg (execs (modesOf U) (run U k) ss) xs env1 := by funext env; rfl
  unfold SV
  rw [e]
  exact snd_for hp B.calm hi hg hb hs hio
theorem s_while (hp : PassesOwn (model X.prog X.w) X.A X.env X.xe) (hc : PVt X exc W U k c tc) (hb : SVs X exc W U k io sts ss) : SV X exc W U k io (.While c sts [] pos) (.while tc ss) := by
  have e : exec (modesOf U) (run U k) (.while tc ss) = fun env => whileL (tst (ev (modesOf U) (run U k) tc)) (execs (modesOf U) (run U k) ss) turns env := by funext env; rfl
  unfold SV
  rw [e]
  exact snd_while hp hc hb
theorem s_raise {x m : Str} {j cc : Nat} {p p2 p3 : Pos} (B : Bd X W k) (C : ClOk X.K X.mg (exc cc) x) (hg : Gl X x) (hd : (x == ("__debug__" : Str)) = false) : SV X exc W U k io (.Raise (some (.Call (.Name x p) [.Constant (.str m) j p2] [] p3)) none pos) (.raise cc) := by
  have e : exec (modesOf U) (run U k) (.raise cc) = fun env => .er cc env := by funext env; rfl
  unfold SV
  rw [e]
  exact snd_raise B.calm B.tk C hg hd
theorem s_pass : SV X exc W U k io (.Pass pos) .pass := by
  have e : exec (modesOf U) (run U k) .pass = fun env => .nx env := by funext env; rfl
  unfold SV
  rw [e]
  exact snd_pass
theorem s_tryRet {cs : List Nat} {CE : Value} {i : Nat} {x xe xc : Str} {q1 q2 np pos' p1 p2 : Pos} (B : Bd X W k) (hs : X.stack = X.env :: X.outer) (hf : X.env.frame = some X.env.locals) (hi : X.N[i]? = some xe) (hx : X.env.scope.names.lookup xe = some .local) (hc : Names X xc CE) (hex : ∀ c ∈ cs, PySem.W.exmOne X.K (.ref (exc c)) CE = some true) (hio : i ∉ io) (T : Tells X.prog X.w X.K X.mg X.base exc cs x) (hg : X.env.kindOf x = some .globalImplicit)
    (hdb : (x == ("__debug__" : Str)) = false) (hd : (xe == ("__debug__" : Str)) = false) (hcd : (xe == ("__classdict__" : Str)) = false) (hb : ∀ (W' : WX) (pn : List (Addr × Obj)) (xe : Value → Shared → Prop), Bd (X.tr pn xe) W' k → PassesOwn (model X.prog X.w) X.A X.env xe → SVs (X.tr pn xe) exc W' U k io sts ss) :
    SV X exc W U k io (.Try sts [.ExceptHandler (some (.Name xc np)) (some xe) [.Return (some (.Call (.Name x q1) [.Name xe q2] [] p1)) p2] pos'] [] [] pos) (.tr cs ss (.retWhich i)) := by
  have e : exec (modesOf U) (run U k) (.tr cs ss (.retWhich i)) = fun env => match execs (modesOf U) (run U k) ss env with | .er c env1 => if cs.contains c then .rt (.fr (whichD c)) (env1.set i .un) else .st | o => o := by funext env; rfl
  unfold SV
  rw [e]
  exact snd_tryRet hs hf B.nd hi hx hc B.tk hex hio T B.hr hg hdb hd hcd fun W' pn xe tk hp => hb W' pn xe (B.tr tk) hp
theorem s_tryAsg {cs : List Nat} {CE : Value} {i j : Nat} {x xe xc y : Str} {q1 q2 np pos' p1 p2 py : Pos} (B : Bd X W k) (hs : X.stack = X.env :: X.outer) (hf : X.env.frame = some X.env.locals) (hi : X.N[i]? = some xe) (hx : X.env.scope.names.lookup xe = some .local) (hj : X.N[j]? = some y) (hy : X.env.scope.names.lookup y = some .local) (hij : i ≠ j) (hc : Names X xc CE) (hex : ∀ c ∈ cs, PySem.W.exmOne X.K (.ref (exc c)) CE = some true) (hio : i ∉ io) (hjo : j ∉ io)
    (T : Tells X.prog X.w X.K X.mg X.base exc cs x) (hg : X.env.kindOf x = some .globalImplicit) (hdb : (x == ("__debug__" : Str)) = false) (hd : (xe == ("__debug__" : Str)) = false) (hcd : (xe == ("__classdict__" : Str)) = false) (hb : ∀ (W' : WX) (pn : List (Addr × Obj)) (xe : Value → Shared → Prop), Bd (X.tr pn xe) W' k → PassesOwn (model X.prog X.w) X.A X.env xe → SVs (X.tr pn xe) exc W' U k io sts ss) :
    SV X exc W U k io (.Try sts [.ExceptHandler (some (.Name xc np)) (some xe) [.Assign [.Name y py] (.Call (.Name x q1) [.Name xe q2] [] p1) p2] pos'] [] [] pos) (.tr cs ss (.asgWhich i j)) := by
  have e : exec (modesOf U) (run U k) (.tr cs ss (.asgWhich i j)) = fun env => match execs (modesOf U) (run U k) ss env with | .er c env1 => if cs.contains c then .nx ((env1.set i .un).set j (.fr (whichD c))) else .st | o => o := by funext env; rfl
  unfold SV
  rw [e]
  exact snd_tryAsg hs hf B.nd hi hx hj hy hij hc B.tk hex hio hjo T B.hr hg hdb hd hcd fun W' pn xe tk hp => hb W' pn xe (B.tr tk) hp
end
end Dc

/-! Dc: rows of tuples in their order. -/
namespace Dc
open PySem
theorem ltI_irr : ∀ k : List Int, ltI k k = false
  | [] => rfl
  | x :: k => by
    show (if x = x then ltI k k else decide (x < x)) = false
    rw [if_pos rfl, ltI_irr k]
theorem ltI_trans : ∀ {a b c : List Int}, ltI a b = true → ltI b c = true → ltI a c = true
  | [], [], _, h, _ => by cases h
  | [], _ :: _, [], _, h => by cases h
  | [], _ :: _, _ :: _, _, _ => rfl
  | _ :: _, [], _, h, _ => by cases h
  | _ :: _, _ :: _, [], _, h => by cases h
  | x :: a, y :: b, z :: c, h1, h2 => by
    simp only [ltI] at h1 h2 ⊢
    by_cases e : x = y
    · subst e
      rw [if_pos rfl] at h1
      by_cases e2 : x = z
      · subst e2
        rw [if_pos rfl] at h2 ⊢
        exact ltI_trans h1 h2
      · rw [if_neg e2] at h2 ⊢
        exact h2
    · rw [if_neg e] at h1
      by_cases e2 : y = z
      · subst e2
        rw [if_neg e]
        exact h1
      · rw [if_neg e2] at h2
        have g1 := of_decide_eq_true h1
        have g2 := of_decide_eq_true h2
        rw [if_neg (by omega), decide_eq_true (by omega)]
theorem ltI_tri : ∀ {a b : List Int}, a ≠ b → ltI a b = false → ltI b a = true
  | [], [], h, _ => absurd rfl h
  | [], _ :: _, _, h => by cases h
  | _ :: _, [], _, _ => rfl
  | x :: a, y :: b, h1, h2 => by
    simp only [ltI] at h2 ⊢
    by_cases e : x = y
    · subst e
      rw [if_pos rfl] at h2 ⊢
      exact ltI_tri (fun q => h1 (by rw [q])) h2
    · rw [if_neg e] at h2
      rw [if_neg (fun q => e q.symm)]
      have := of_decide_eq_false h2
      exact decide_eq_true (by omega)
def SrtS (l : List (List Int)) : Prop := l.Pairwise fun a b => ltI a b = true
theorem insS_mem {k x : List Int} : ∀ {l : List (List Int)}, x ∈ insS k l ↔ x = k ∨ x ∈ l
  | [] => by simp [insS]
  | y :: l => by
    unfold insS
    by_cases e : k = y
    · subst e
      rw [if_pos rfl]
      simp
    · rw [if_neg e]
      cases ltI k y with
      | true => simp
      | false =>
        simp only [List.mem_cons, insS_mem (l := l)]
        constructor
        · rintro (h | h | h)
          · exact .inr (.inl h)
          · exact .inl h
          · exact .inr (.inr h)
        · rintro (h | h | h)
          · exact .inr (.inl h)
          · exact .inl h
          · exact .inr (.inr h)
theorem insS_srt {k : List Int} : ∀ {l : List (List Int)}, SrtS l → SrtS (insS k l)
  | [], _ => List.pairwise_singleton _ _
  | y :: l, h => by
    unfold insS
    by_cases e : k = y
    · rw [if_pos e]
      exact h
    · rw [if_neg e]
      have h2 := List.pairwise_cons.mp h
      cases q : ltI k y with
      | true => exact List.pairwise_cons.mpr ⟨fun z m => (List.mem_cons.mp m).elim (fun w => w ▸ q) fun m => ltI_trans q (h2.1 z m), h⟩
      | false => exact List.pairwise_cons.mpr ⟨fun z m => (insS_mem.mp m).elim (fun w => w ▸ ltI_tri e q) fun m => h2.1 z m, insS_srt h2.2⟩
theorem setSort_mem {x : List Int} : ∀ {ks : List (List Int)}, x ∈ setSort ks ↔ x ∈ ks
  | [] => Iff.rfl
  | k :: ks => by
    show x ∈ insS k (setSort ks) ↔ _
    rw [insS_mem, setSort_mem (ks := ks), List.mem_cons]
theorem setSort_srt : ∀ ks : List (List Int), SrtS (setSort ks)
  | [] => List.Pairwise.nil
  | k :: ks => insS_srt (setSort_srt ks)
theorem srt_uniq : ∀ {l m : List (List Int)}, SrtS l → SrtS m → (∀ x, x ∈ l ↔ x ∈ m) → l = m
  | [], [], _, _, _ => rfl
  | [], y :: m, _, _, h => absurd ((h y).mpr List.mem_cons_self) (by simp)
  | x :: l, [], _, _, h => absurd ((h x).mp List.mem_cons_self) (by simp)
  | x :: l, y :: m, h1, h2, h => by
    have a := List.pairwise_cons.mp h1
    have b := List.pairwise_cons.mp h2
    have e : x = y := by
      rcases List.mem_cons.mp ((h x).mp List.mem_cons_self) with q | q
      · exact q
      · rcases List.mem_cons.mp ((h y).mpr List.mem_cons_self) with p | p
        · exact p.symm
        · have z := ltI_trans (a.1 y p) (b.1 x q)
          rw [ltI_irr] at z
          cases z
    subst e
    congr 1
    refine srt_uniq a.2 b.2 fun z => ⟨fun m1 => ?_, fun m1 => ?_⟩
    · rcases List.mem_cons.mp ((h z).mp (List.mem_cons_of_mem _ m1)) with q | q
      · subst q
        have w := a.1 z m1
        rw [ltI_irr] at w
        cases w
      · exact q
    · rcases List.mem_cons.mp ((h z).mpr (List.mem_cons_of_mem _ m1)) with q | q
      · subst q
        have w := b.1 z m1
        rw [ltI_irr] at w
        cases w
      · exact q
/-! ints -/
theorem insI_mem {k x : Int} : ∀ {l : List Int}, x ∈ insI k l ↔ x = k ∨ x ∈ l
  | [] => by simp [insI]
  | y :: l => by
    unfold insI
    by_cases e : k = y
    · subst e
      rw [if_pos rfl]
      simp
    · rw [if_neg e]
      cases decide (k < y) with
      | true => simp
      | false =>
        simp only [List.mem_cons, insI_mem (l := l)]
        constructor
        · rintro (h | h | h)
          · exact .inr (.inl h)
          · exact .inl h
          · exact .inr (.inr h)
        · rintro (h | h | h)
          · exact .inr (.inl h)
          · exact .inl h
          · exact .inr (.inr h)
theorem insI_srt {k : Int} : ∀ {l : List Int}, l.Pairwise (· < ·) → (insI k l).Pairwise (· < ·)
  | [], _ => List.pairwise_singleton _ _
  | y :: l, h => by
    unfold insI
    by_cases e : k = y
    · rw [if_pos e]
      exact h
    · rw [if_neg e]
      have h2 := List.pairwise_cons.mp h
      cases q : decide (k < y) with
      | true =>
        have q := of_decide_eq_true q
        exact List.pairwise_cons.mpr ⟨fun z m => (List.mem_cons.mp m).elim (fun w => w ▸ q) fun m => Int.lt_trans q (h2.1 z m), h⟩
      | false =>
        have q := of_decide_eq_false q
        exact List.pairwise_cons.mpr ⟨fun z m => (insI_mem.mp m).elim (fun w => by rw [w]; omega) fun m => h2.1 z m, insI_srt h2.2⟩
theorem sortI_mem {x : Int} : ∀ {ks : List Int}, x ∈ sortI ks ↔ x ∈ ks
  | [] => Iff.rfl
  | k :: ks => by
    show x ∈ insI k (sortI ks) ↔ _
    rw [insI_mem, sortI_mem (ks := ks), List.mem_cons]
theorem sortI_srt : ∀ ks : List Int, (sortI ks).Pairwise (· < ·)
  | [] => List.Pairwise.nil
  | k :: ks => insI_srt (sortI_srt ks)
theorem srtI_uniq : ∀ {l m : List Int}, l.Pairwise (· < ·) → m.Pairwise (· < ·) → (∀ x, x ∈ l ↔ x ∈ m) → l = m
  | [], [], _, _, _ => rfl
  | [], y :: m, _, _, h => absurd ((h y).mpr List.mem_cons_self) (by simp)
  | x :: l, [], _, _, h => absurd ((h x).mp List.mem_cons_self) (by simp)
  | x :: l, y :: m, h1, h2, h => by
    have a := List.pairwise_cons.mp h1
    have b := List.pairwise_cons.mp h2
    have e : x = y := by
      rcases List.mem_cons.mp ((h x).mp List.mem_cons_self) with q | q
      · exact q
      · rcases List.mem_cons.mp ((h y).mpr List.mem_cons_self) with p | p
        · exact p.symm
        · have := a.1 y p
          have := b.1 x q
          omega
    subst e
    congr 1
    refine srtI_uniq a.2 b.2 fun z => ⟨fun m1 => ?_, fun m1 => ?_⟩
    · rcases List.mem_cons.mp ((h z).mp (List.mem_cons_of_mem _ m1)) with q | q
      · have := a.1 z m1
        omega
      · exact q
    · rcases List.mem_cons.mp ((h z).mpr (List.mem_cons_of_mem _ m1)) with q | q
      · have := b.1 z m1
        omega
      · exact q
end Dc

/-! Dc: a new set of what a list or a tuple holds, whatever the members are. -/
namespace Dc
open PySem PySem.Spec PyProof.Rows L2
abbrev nso (w : World) : Obj := { cls := .type "set", dict := none, data := .set #[] 0 (.fresh 0 0 (!w.params.followText "set-order")) }
abbrev Kp (h h' : Heap) : Prop := ∀ b o, h.get? b = some o → h'.get? b = some o
/-- J i: what the set at S is when i members have come -/
structure Adds (P : Program) (w : World) (A : Around) (S : Addr) (h0 : Heap) (vs : Array Value) (J : Nat → Heap → Prop) : Prop where
  stay : ∀ i h h', J i h → (∀ o, h.get? S = some o → h'.get? S = some o) → Kp h0 h' → J i h'
  step : ∀ i v (s : Shared) (E : Value → Shared → Prop) (Q : Bool → Shared → Prop), vs[i]? = some v → Kp h0 s.heap → J i s.heap →
    (∀ b h' tk, Heap.SameBut S s.heap h' → s.toks ≤ tk → J (i + 1) h' → Q b { s with heap := h', toks := tk }) → wpAny (model P w) A (setAdd S v) Q E s
section
variable {P : Program} {w : World} {A : Around} {E : Value → Shared → Prop} {s : Shared}
theorem fill_loop {I : Addr} {fp wr : List Addr} {G : Array GenState → Array GenState → Prop} {Pv : Nat → Value → Prop} {St : Nat → Shared → Prop} {R : Result → Shared → Prop}
    {vs : Array Value} {S : Addr} {h0 : Heap} {J : Nat → Heap → Prop} (W : WalksS P w A.in1 I fp wr G vs.size Pv St) (out : S ∉ fp) (seen : ∀ i v, Pv i v → vs[i]? = some v)
    (D : Adds P w A.in1 S h0 vs J) (nS : h0.get? S = none) (nw : ∀ b ∈ wr, h0.get? b = none) :
    ∀ (k i : Nat) (s : Shared), i + k = vs.size → St i s → Kp h0 s.heap → J i s.heap →
      (∀ s', Moved (S :: wr) G s s' → Kp h0 s'.heap → J vs.size s'.heap → R (.ok (.ret .none)) s') →
      codeAny (model P w) A (.builtin "set.update.loop" ⟨[.ref S, .ref I], []⟩) R s := by
  have nSw : S ∉ wr := fun h => out (W.sub _ h)
  have big : ∀ b ∈ wr, b ∈ S :: wr := fun b m => List.mem_cons_of_mem _ m
  have along : ∀ {u u' : Shared}, Moved wr G u u' → Kp h0 u.heap → Kp h0 u'.heap := fun mv kp b o e =>
    mv.heap b o (fun m => by rw [nw b m] at e; cases e) (kp b o e)
  intro k
  induction k with
  | zero =>
    intro i s len st kp j fin
    obtain rfl : i = vs.size := len
    refine codeAny_builtin F.entry_set_update_loop ?_
    rw [Around.under_plainId F.plain_set_update_loop _]
    refine wpAny_bind (W.done s _ _ st fun s' mv => ?_)
    exact wpAny_pure (fin s' (mv.mono big) (along mv kp) (D.stay _ _ _ j (fun o e => mv.heap S o nSw e) (along mv kp)))
  | succ k ih =>
    intro i s len st kp j fin
    refine codeAny_builtin F.entry_set_update_loop ?_
    rw [Around.under_plainId F.plain_set_update_loop _]
    refine wpAny_bind (W.item i s _ _ (by omega) st fun v s1 pv st1 mv => ?_)
    have kp1 := along mv kp
    have j1 : J i s1.heap := D.stay _ _ _ j (fun o e => mv.heap S o nSw e) kp1
    refine wpAny_bind (wpAny_holding (D.step i v s1 _ _ (seen i v pv) kp1 j1 fun b h2 tk sb le j2 => ?_))
    have kp2 : Kp h0 h2 := fun b o e => (sb.2 b (fun z => by rw [z, nS] at e; cases e)).trans (kp1 b o e)
    refine wpAny_pure ⟨plainId_quiet F.plain_set_update_loop _, ih (i + 1) _ (by omega) (W.frame _ s1 _ _ st1 le fun b m o e => ?_) kp2 j2 fun s3 mv3 kp3 j3 => fin s3 (Moved.trans W.gtrans ((mv.mono big).then_heap le fun b o nm e => ?_) mv3) kp3 j3⟩
    · rw [sb.2 b fun z => out (z ▸ m)]
      exact e
    · rw [sb.2 b fun z => nm (z ▸ List.mem_cons_self)]
      exact e
theorem none_from (h : Heap) {b : Addr} (z : h.objs.size ≤ b) : h.get? b = none := by
  cases q : h.get? b with
  | none => rfl
  | some o => exact absurd (Nat.lt_of_lt_of_le (Heap.lt_size q) z) (Nat.lt_irrefl _)
/-- how what stands at l is walked, with the iterator at the heap's end -/
def Iters (P : Program) (w : World) (h0 : Heap) (l : Addr) (vs : Array Value) : Prop :=
  ∀ (A : Around) (E : Value → Shared → Prop) (s : Shared) (Q : Value → Shared → Prop), Kp h0 s.heap →
    (∀ (it : Obj) (fp wr : List Addr) (G : Array GenState → Array GenState → Prop) (Pv : Nat → Value → Prop) (St : Nat → Shared → Prop), fp = [s.heap.objs.size, l] → wr = [s.heap.objs.size] → G = (fun a b => b = a) →
      (∀ i v, Pv i v → vs[i]? = some v) → St 0 { s with heap := s.heap.push it } →
      (∀ B : Around, B.handled = none → WalksS P w B s.heap.objs.size fp wr G vs.size Pv St) → Q (.ref s.heap.objs.size) { s with heap := s.heap.push it }) →
    wpAny (model P w) A (pyIter (.ref l)) Q E s
theorem iters_list {h0 : Heap} {l : Addr} {vs : Array Value} (hl : h0.IsList l vs) : Iters P w h0 l vs := by
  intro A E s Q kp q
  have h1 : s.heap.IsList l vs := hl.at fun o e => kp l o e
  refine wpAny_pyIter_list h1 ?_
  have ne : l ≠ s.heap.objs.size := by
    obtain ⟨o, ho, _⟩ := h1
    exact Nat.ne_of_lt (Heap.lt_size ho)
  exact q _ _ _ _ _ (fun i (s' : Shared) => s'.heap.IsListIter s.heap.objs.size l i ∧ s'.heap.IsList l vs) rfl rfl rfl (fun i v e => e) ⟨⟨_, Heap.get?_push_size _ rfl, rfl, rfl⟩, h1.push _⟩ fun B hb => (Walks.list hb _ l ne vs).toS
theorem iters_tuple {h0 : Heap} {l : Addr} {vs : Array Value} (hl : h0.IsTuple l vs) : Iters P w h0 l vs := by
  intro A E s Q kp q
  have h1 : s.heap.IsTuple l vs := hl.at fun o e => kp l o e
  refine wpAny_pyIter_tuple h1 ?_
  have ne : l ≠ s.heap.objs.size := by
    obtain ⟨o, ho, _⟩ := h1
    exact Nat.ne_of_lt (Heap.lt_size ho)
  exact q _ _ _ _ _ (fun i (s' : Shared) => s'.heap.IsTupleIter s.heap.objs.size l i ∧ s'.heap.IsTuple l vs) rfl rfl rfl (fun i v e => e) ⟨⟨_, Heap.get?_push_size _ rfl, rfl, rfl⟩, h1.at fun o e => Heap.get?_push_of_some _ e⟩ fun B hb => (Walks.tuple hb _ l ne vs).toS
set_option maxHeartbeats 4000000 in
/-- set(xs) of a list or a tuple -/
theorem set_new {l : Addr} {T : String} {o0 : Obj} {vs : Array Value} {n : Nat} {J : Nat → Heap → Prop} {Q : Value → Shared → Prop} (hh : A.handled = none) (ho : s.heap.get? l = some o0) (hT : T = "list" ∨ T = "tuple") (hc : o0.cls = .type T) (hd : o0.data = .seq vs n)
    (it : Iters P w s.heap l vs) (D : Adds P w A.in1.in1.in1 s.heap.objs.size s.heap vs J) (j0 : ∀ h', Kp s.heap h' → h'.get? s.heap.objs.size = some (nso w) → J 0 h')
    (h : ∀ (h' : Heap) (tk : Nat), Kp s.heap h' → J vs.size h' → Q (.ref s.heap.objs.size) { s with heap := h', toks := tk }) :
    wpAny (model P w) A (call (.type "set") [.ref l]) Q E s := by
  obtain ⟨c, tl, hmro⟩ := F.called_set.mro
  have p1 := F.called_set.made
  have p2 := F.called_set.sub
  have p3 := F.called_set.notType
  have p4 := F.called_set.canCreate
  have p5 := F.typeCall_set_1 (.ref l)
  refine wpAny_call (codeAny_of_tree ?_)
  show wpAny _ _ (callAny (.type "set") _) _ _ _
  refine wpAny_pure ⟨Code.quiet_builtin _ (by decide +kernel), codeAny_builtin F.entry_type_call ?_⟩
  rw [Around.under_plain (weight_type_call_type "set" [.ref l] []) rfl]
  repeat (any_goals (first | assumption | wp_step))
  refine codeAny_mono (code_set_led1 (.ref l) (E := E) (Q₁ := fun x s₁ => x = .ref s.heap.objs.size ∧ s₁ = { s with heap := s.heap.push (nso w) }) ⟨rfl, rfl⟩) fun r s₁ hr => ?_
  cases r with
  | error e => exact hr
  | ok fl =>
    cases fl with
    | ret x =>
      obtain ⟨rfl, rfl⟩ := hr
      have atS : (s.heap.push (nso w)).get? s.heap.objs.size = some (nso w) := Heap.get?_push_size _ rfl
      have isS : Shared.TypeIs { s with heap := s.heap.push (nso w) } (.ref s.heap.objs.size) "set" := ⟨_, atS, rfl⟩
      have q1 := F.called_set.init.lookup
      have q2 := F.called_set.init.bind (.ref s.heap.objs.size)
      have kp1 : Kp s.heap (s.heap.push (nso w)) := fun b o e => Heap.get?_push_of_some _ e
      have atl := kp1 l o0 ho
      repeat (any_goals (first | assumption | wp_step))
      refine codeAny_mono (codeAny_call_builtin (R := wants (fun r s₂ => r = .none ∧ ∃ h' tk, s₂ = { s with heap := h', toks := tk } ∧ Kp s.heap h' ∧ J vs.size h') E) F.called_set.init.plain F.entry_set_init (check_set_init_1 isS ?_)) fun r₂ s₂ hr₂ => ?_
      · have body : wpAny (model P w) A.in1.in1 (pyIter (.ref l)) (fun z s₂ => wpAny (model P w) A.in1.in1 (runValue (.builtin "set.update.loop" ⟨[.ref s.heap.objs.size, z], []⟩)) (fun _ s₃ => ∃ h' tk, s₃ = { s with heap := h', toks := tk } ∧ Kp s.heap h' ∧ J vs.size h') E s₂) E { s with heap := s.heap.push (nso w) } := by
          refine it _ _ _ _ kp1 fun ob fp wr G Pv St e1 e2 e3 sn st0 W => ?_
          have sz : (s.heap.push (nso w)).objs.size = s.heap.objs.size + 1 := Heap.size_push ..
          refine wpAny_runValue (fill_loop (h0 := s.heap) (W _ (by simp [hh])) ?_ sn D (none_from _ (Nat.le_refl _)) ?_ vs.size 0 _ (Nat.zero_add _) st0 (fun b o e => Heap.get?_push_of_some _ (kp1 b o e)) (j0 _ (fun b o e => Heap.get?_push_of_some _ (kp1 b o e)) (Heap.get?_push_of_some _ atS)) fun s' mv kp jj => ?_)
          · rw [e1]
            simp only [List.mem_cons, List.not_mem_nil, or_false, not_or]
            refine ⟨by show s.heap.objs.size ≠ (s.heap.push (nso w)).objs.size; rw [sz]; exact Nat.ne_of_lt (Nat.lt_succ_self _), fun z => ?_⟩
            have := Heap.lt_size ho
            rw [← z] at this
            exact Nat.lt_irrefl _ this
          · intro b m
            rw [e2, List.mem_singleton] at m
            refine none_from _ ?_
            rw [m]
            show _ ≤ (s.heap.push (nso w)).objs.size
            rw [sz]
            exact Nat.le_succ _
          · obtain ⟨g1, g2, g3, g4, g5⟩ := s'
            subst e3
            have z1 : g2 = s.gens := mv.gens
            have z2 : g3 = s.drawn := mv.drawn
            have z3 : g5 = s.os := mv.os
            subst z1
            subst z2
            subst z3
            exact ⟨g1, g4, rfl, kp, jj⟩
        have n1 : (Value.type "list" == Value.type "dict") = false := by decide
        have n2 : (Value.type "tuple" == Value.type "dict") = false := by decide
        obtain ⟨ocls, odict, odata, oslots⟩ := o0
        simp only at hc hd
        subst hc hd
        rcases hT with rfl | rfl
        · have u1 := F.sub_list_set
          have u2 := F.sub_list_frozenset
          clear ho it D j0 h p1 p2 p3 p4 p5 hmro kp1 q1 q2
          unfold Builtin.«set.__init__» noKeywords Builtin.Frozenset.updateFrom
          revert body
          generalize pyIter = PI
          intro body
          wp_walk
          refine wpAny_mono body (fun z s₂ b1 => wpAny_bind (wpAny_mono b1 (fun _ s₃ r => wpAny_pure ?_) fun _ _ x => x)) fun _ _ x => x
          obtain ⟨h', tk, rfl, kp, jj⟩ := r
          show wpAny _ _ (ret Value.none) _ _ _
          exact wpAny_pure ⟨rfl, h', tk, rfl, kp, jj⟩
        · have u1 := F.sub_tuple_set
          have u2 := F.sub_tuple_frozenset
          clear ho it D j0 h p1 p2 p3 p4 p5 hmro kp1 q1 q2
          unfold Builtin.«set.__init__» noKeywords Builtin.Frozenset.updateFrom
          revert body
          generalize pyIter = PI
          intro body
          wp_walk
          refine wpAny_mono body (fun z s₂ b1 => wpAny_bind (wpAny_mono b1 (fun _ s₃ r => wpAny_pure ?_) fun _ _ x => x)) fun _ _ x => x
          obtain ⟨h', tk, rfl, kp, jj⟩ := r
          show wpAny _ _ (ret Value.none) _ _ _
          exact wpAny_pure ⟨rfl, h', tk, rfl, kp, jj⟩
      · cases r₂ with
        | error e => exact hr₂
        | ok fl₂ =>
          cases fl₂ with
          | ret r =>
            obtain ⟨rfl, h', tk, rfl, kp, jj⟩ := hr₂
            repeat (any_goals (first | assumption | wp_step))
            exact h _ _ kp jj
          | _ => exact hr₂.elim
    | _ => exact hr.elim
end
end Dc

/-! Dc: sets of tuples of ints, of few different ones; sorted. -/
namespace Dc
open PySem PySem.Spec PyProof.Rows L2
theorem few_of {α : Type} [DecidableEq α] {l : List α} : l.Nodup → ∀ {m : List α}, (∀ z ∈ l, z ∈ m) → l.length ≤ m.length := by
  induction l with
  | nil => exact fun _ _ _ => Nat.zero_le _
  | cons y l ih =>
    intro nd m sub
    have nd2 := List.nodup_cons.mp nd
    have my := sub y List.mem_cons_self
    have := ih nd2.2 (m := m.erase y) fun z mz => (List.mem_erase_of_ne (fun (e : z = y) => nd2.1 (by rw [← e]; exact mz))).mpr (sub z (List.mem_cons_of_mem _ mz))
    rw [List.length_erase_of_mem my] at this
    have := List.length_pos_of_mem my
    rw [List.length_cons]
    omega
/-- few different ones -/
def Few (ks : List (Addr × List Int)) : Prop := ks.length < 64 ∨ ∃ m : List (List Int), m.length + 1 < 64 ∧ ∀ p ∈ ks, p.2 ∈ m
section
variable {P : Program} {w : World} {A : Around} {E : Value → Shared → Prop} {s : Shared}
def JT (P : Program) (w : World) (S : Addr) (ks : List (Addr × List Int)) (i : Nat) (h : Heap) : Prop := ∃ L es ep t, SetTR P w h S L es ep t ∧ Got ks i L
theorem adds_tup {S : Addr} {h0 : Heap} {vs : Array Value} {ks : List (Addr × List Int)} (ev : vs.toList = ks.map fun p => Value.ref p.1) (tk : ∀ p ∈ ks, IsT P w h0 p.2 p.1) (few : Few ks) (hu : A.units < cLine) : Adds P w A S h0 vs (JT P w S ks) where
  stay := fun i h h' ⟨L, es, ep, t, R, g⟩ kS kp => ⟨L, es, ep, t, R.keep kS fun p m => isT_keep (tk p (List.mem_of_mem_take (g.sub p m))) kp, g⟩
  step := fun i v s E Q hv kp ⟨L, es, ep, t, R, g⟩ q => by
    obtain ⟨p, hp, rfl⟩ : ∃ p, ks[i]? = some p ∧ v = .ref p.1 := by
      have z : vs.toList[i]? = some v := by rw [Array.getElem?_toList]; exact hv
      rw [ev, List.getElem?_map, Option.map_eq_some_iff] at z
      obtain ⟨p, h1, h2⟩ := z
      exact ⟨p, h1, h2.symm⟩
    have ip : IsT P w s.heap p.2 p.1 := isT_keep (tk p (List.mem_of_getElem? hp)) kp
    have room : L.length + 1 < 64 := by
      rcases few with z | ⟨m, z, sub⟩
      · have := g.len
        have := (List.getElem?_eq_some_iff.mp hp).1
        omega
      · have := few_of R.nd (m := m) fun k mk => by
          obtain ⟨r, mr, rfl⟩ := List.mem_map.mp mk
          exact sub r (List.mem_of_mem_take (g.sub r mr))
        rw [List.length_map] at this
        omega
    unfold setAdd
    refine wpAny_holding (wpAny_bind (wpAny_pyHash_tuple hu ip ?_))
    refine add_at (s := { s with toks := s.toks + (p.2.length + 1) }) R ip hu room fun b h' L' es' ep' t' sb R' same more => ?_
    refine q b h' _ sb (Nat.le_add_right _ _) ⟨L', es', ep', t', R', ?_⟩
    rcases Classical.em (p.2 ∈ L.map (·.2)) with c | c
    · rw [same c]
      exact g.same hp c
    · exact g.more hp (more c)
/-- sorted of a set of at most one -/
theorem sorted_one {a : Addr} {L : List (Addr × List Int)} {es : Array (Int × Value)} {ep : Nat} {t : SetTable} {Q : Value → Shared → Prop} (R : SetTR P w s.heap a L es ep t) (hh : A.handled = none) (few : L.length ≤ 1)
    (q : ∀ s' p (out : Array Value) (c : Nat), Kp s.heap s'.heap → s'.gens = s.gens → s'.os = s.os → s.heap.objs.size ≤ p → s'.heap.get? p = some (seqObj "list" out c) → out.toList = L.map (fun r => Value.ref r.1) → Q (.ref p) s') :
    wpAny (model P w) A (call (.builtin "sorted") [.ref a]) Q E s := by
  obtain ⟨o, ho, ex, ed⟩ := R.ob
  have hz := R.size
  refine Calls.call_function_entry kind_sorted plain_sorted entry_sorted (args_sorted1 _) ?_
  unfold Builtin.«sorted»
  refine wpAny_bind (m := checkCount "sorted" 1 1 _) (wpAny_pure ?_)
  refine wpAny_bind (collect_set (A := A.in1) hh ⟨o, ho, ex.1, ed⟩ R.fits (by unfold scanBound; omega) R.tab.ris R.led fun u xs k1 z1 g1 o1 pm => ?_)
  have el : es.toList.map (·.2) = L.map fun r => Value.ref r.1 := by
    rw [R.rows]
    unfold rowsOf
    rw [List.map_map] <;> rfl
  rw [el] at pm
  have xl : xs.length ≤ 1 := by
    have := pm.length_eq
    rw [List.length_map] at this
    omega
  have alone : ∀ {α : Type} {l m : List α}, l.Perm m → l.length ≤ 1 → l = m := by
    intro α l m pm lz
    match l, m, pm, lz with
    | [], m, pm, _ => exact (List.nil_perm.mp pm).symm
    | [x], m, pm, _ => exact (List.perm_singleton.mp pm.symm).symm
  have ex1 := alone pm xl
  refine wpAny_bind (wpAny_newList ?_ (by rw [sizeLine_eq]; omega))
  have oL : (u.heap.push (seqObj "list" xs.toArray 0)).get? u.heap.objs.size = some (seqObj "list" xs.toArray 0) := Heap.get?_push_size _ rfl
  refine wpAny_bind (wpAny_holding (wpAny_call_entry (s := { u with heap := u.heap.push (seqObj "list" xs.toArray 0) }) slot_list_sort ⟨_, oL, rfl⟩ entry_list_sort (SK.plain_sort (r := fun _ => 0) oL (by omega) (fun z => absurd z (by omega)) fun ps out e1 e2 e3 => ?_) (args_list_sort _)))
  have po := (TS.out_rank (r := fun _ => 0) e1 e2 e3).1
  have eo := alone po.symm xl
  obtain ⟨c, hc⟩ := sortedHeap_at (vs := xs) (out := out) oL
  refine ⟨_, rfl, wpAny_pure ⟨_, rfl, q _ u.heap.objs.size out c (fun b y e => ?_) g1 o1 z1 hc (eo.symm.trans ex1)⟩⟩
  have e2 := k1 b y e
  have lt := Heap.lt_size e2
  show (sortedHeap (u.heap.push (seqObj "list" xs.toArray 0)) u.heap.objs.size xs out).get? b = some y
  rw [sortedHeap_old (Nat.ne_of_lt lt) (by rw [size_push']; exact Nat.lt_succ_of_lt lt)]
  exact Heap.get?_push_of_some _ e2
end
section
variable {X : Cx}
/-- set(xs), xs a list or a tuple of tuples of ints, few different ones -/
def rSetSeq (K : PySem.W.Frag) (P : Program) (w : World) : List V → Hp → VK → Prop := fun xs H Q => ∃ (l : Addr) (ks : List (Addr × List Int)), xs = [V.ref l] ∧ (SqL K H l (ks.map fun p => V.ref p.1) ∨ SqT K H l (ks.map fun p => V.ref p.1)) ∧
  (∀ p ∈ ks, SqT K H p.1 (p.2.map V.int)) ∧ Few ks ∧ ∀ a L, H a = none → (L.map (·.2)).Nodup → (∀ p ∈ L, p ∈ ks) → (∀ p ∈ ks, p.2 ∈ L.map (·.2)) → Q (.ref a) (upd H a (SetTO P w a L))
theorem cr_setSeq (hc : X.calm = true) (hu : X.A.units + 64 < cLine) : CallR X (.type "set") (rSetSeq X.K X.prog X.w) := by
  intro pins s σ H xs us Q I r h
  obtain ⟨l, ks, rfl, hl, hk, few, q⟩ := h
  rw [Vals.ref1 r]
  have nS : H s.heap.objs.size = none := I.hok.fresh (Nat.le_refl _)
  have tk : ∀ p ∈ ks, IsT X.prog X.w s.heap p.2 p.1 := fun p m => I.isT (hk p m)
  have fin : ∀ (h' : Heap) (tk : Nat), Kp s.heap h' → JT X.prog X.w s.heap.objs.size ks ks.length h' → EP X pins σ Q (.ref s.heap.objs.size) { s with heap := h', toks := tk } := by
    rintro h' tk kp ⟨L, es, ep, t, R, g⟩
    refine ⟨.ref s.heap.objs.size, upd H s.heap.objs.size (SetTO X.prog X.w s.heap.objs.size L), I.laid (t' := tk) kp (Nat.le_refl _) (setTO_new R.t0), rfl, q _ L nS R.nd (fun p m => List.mem_of_mem_take (g.sub p m)) fun p m => ?_⟩
    exact g.all p (by rw [List.take_length]; exact m)
  have zero : ∀ h', Kp s.heap h' → h'.get? s.heap.objs.size = some (nso X.w) → JT X.prog X.w s.heap.objs.size ks 0 h' := fun h' kp e => ⟨[], #[], 0, _, setTR_fresh e, Got.zero ks⟩
  rcases hl with hl | hl
  · obtain ⟨its, rv, pl, hz⟩ := I.list hl
    have ev : its.toArray.toList = ks.map fun p => Value.ref p.1 := by simpa using refs_of_vals rv
    have isL := pl.isList
    obtain ⟨o, ho, hc1, n, hd⟩ := id isL
    have sz : its.toArray.size = ks.length := by rw [← Array.length_toList, ev, List.length_map]
    refine set_new (T := "list") (I.ok.hd hc) ho (.inl rfl) hc1 hd (iters_list isL) (adds_tup ev tk few (by show X.A.units + 3 < cLine; omega)) zero fun h' tk kp j => ?_
    rw [sz] at j
    exact fin h' tk kp j
  · obtain ⟨its, rv, isT, hz⟩ := I.tuple hl
    have ev : its.toArray.toList = ks.map fun p => Value.ref p.1 := by simpa using refs_of_vals rv
    obtain ⟨o, ho, hc1, n, hd⟩ := id isT
    have sz : its.toArray.size = ks.length := by rw [← Array.length_toList, ev, List.length_map]
    refine set_new (T := "tuple") (I.ok.hd hc) ho (.inr rfl) hc1 hd (iters_tuple isT) (adds_tup ev tk few (by show X.A.units + 3 < cLine; omega)) zero fun h' tk kp j => ?_
    rw [sz] at j
    exact fin h' tk kp j
/-- sorted of it -/
def rSortedSeq (K : PySem.W.Frag) (P : Program) (w : World) : List V → Hp → VK → Prop := fun vs H Q => rSortedT K P w vs H Q ∨
  ∃ (a : Addr) (L : List (Addr × List Int)), vs = [V.ref a] ∧ H a = some (SetTO P w a L) ∧ (∀ p ∈ L, SqT K H p.1 (p.2.map V.int)) ∧ L.length ≤ 1 ∧ ∀ p, H p = none → Q (.ref p) (upd H p (.lst (L.map fun r => V.ref r.1)))
theorem cr_sortedSeq (hc : X.calm = true) : CallR X (.builtin "sorted") (rSortedSeq X.K X.prog X.w) := by
  intro pins s σ H vs us Q I r h
  rcases h with h | ⟨a, L, rfl, ha, hk, few, q⟩
  · exact cr_sortedT hc pins s σ H vs us Q I r h
  · obtain ⟨es, ep, t, R⟩ := SetT0.full (I.hok a _ ha).1 fun p m => I.isT (hk p m)
    rw [Vals.ref1 r]
    refine sorted_one R (I.ok.hd hc) few fun s' p out c k g o hp hg eo => ?_
    have nP : H p = none := I.hok.fresh hp
    have J : Inv X pins σ (upd H p (.lst (L.map fun r => V.ref r.1))) { s with heap := s'.heap, gens := s'.gens, drawn := s'.drawn, toks := s'.toks } :=
      I.call (ch := []) (Un.laid k hp nP) (I.hok.laid k hp ⟨by rw [List.length_map, sizeLine_eq]; omega, out.toList, c, by rw [eo]; exact vals_of_refs L, hg⟩) (by rw [g]; exact I.bare) fun _ z => nomatch z
    have es' : s' = { s with heap := s'.heap, gens := s'.gens, drawn := s'.drawn, toks := s'.toks } := by
      obtain ⟨g1, g2, g3, g4, g5⟩ := s'
      cases o
      rfl
    rw [es']
    exact ⟨.ref p, _, J, rfl, q p nP⟩
end
end Dc

/-! Dc: sets of ints. -/
namespace Dc
open PySem PySem.Spec PyProof.Rows L2
section
variable {P : Program} {w : World} {A : Around} {E : Value → Shared → Prop} {s : Shared}
theorem ints_at : ∀ {us : List Value} {ks : List Int}, IntsAre us ks → ∀ {i : Nat} {v : Value}, us[i]? = some v → ∃ b t, ks[i]? = some b ∧ v = .int b t
  | _, _, .nil, i, v, z => by simp at z
  | _, _, .cons k t e, i, v, z => by
    cases i with
    | zero => exact ⟨k, t, rfl, (Option.some.inj z).symm⟩
    | succ i =>
      obtain ⟨b, t', h1, h2⟩ := ints_at e (i := i) (by simpa using z)
      exact ⟨b, t', by simpa using h1, h2⟩
def JI (w : World) (S : Addr) (ks : List Int) (i : Nat) (h : Heap) : Prop := ∃ n, n ≤ i ∧ SetR w h S (fun k => decide (k ∈ ks.take i)) n
theorem adds_int {S : Addr} {h0 : Heap} {vs : Array Value} {ks : List Int} (ev : IntsAre vs.toList ks) (few : ks.length < 4000) : Adds P w A S h0 vs (JI w S ks) where
  stay := fun i h h' ⟨n, ni, R⟩ kS kp => ⟨n, ni, R.at kS⟩
  step := fun i v s E Q hv kp ⟨n, ni, R⟩ q => by
    have z : vs.toList[i]? = some v := by rw [Array.getElem?_toList]; exact hv
    obtain ⟨b, t, hb, rfl⟩ := ints_at ev z
    have li := (List.getElem?_eq_some_iff.mp hb).1
    have room : n + 1 < scanBound := by
      unfold scanBound
      omega
    unfold setAdd
    refine wpAny_holding (wpAny_bind ((intKind P w).pyHash (intKind_is P w b t) ?_))
    refine setR_add_hashed (s := { s with toks := s.toks + 1 }) R room fun h' sb R' => ?_
    refine q _ h' _ sb (Nat.le_succ _) ⟨_, ?_, R'.congr fun j => ?_⟩
    · split <;> omega
    · rw [take_next hb]
      by_cases c : j ∈ ks.take i
      · rw [decide_eq_true c, Bool.true_or, decide_eq_true (List.mem_append_left _ c)]
      · rw [decide_eq_false c, Bool.false_or]
        by_cases d : j = b
        · rw [decide_eq_true d, decide_eq_true (List.mem_append_right _ (by rw [d]; exact List.mem_singleton.mpr rfl))]
        · rw [decide_eq_false d, decide_eq_false fun m => (List.mem_append.mp m).elim c fun m => d (List.mem_singleton.mp m)]
end
section
variable {X : Cx}
def rSetIn (K : PySem.W.Frag) (w : World) : List V → Hp → VK → Prop := fun xs H Q => ∃ (l : Addr) (ks : List Int), xs = [V.ref l] ∧ (SqL K H l (ks.map V.int) ∨ SqT K H l (ks.map V.int)) ∧ ks.length < 4000 ∧
  ∀ a S n, H a = none → (∀ k, S k = decide (k ∈ ks)) → n ≤ ks.length → Q (.ref a) (upd H a (SetO w a S n))
theorem cr_setIn (hc : X.calm = true) : CallR X (.type "set") (rSetIn X.K X.w) := by
  intro pins s σ H xs us Q I r h
  obtain ⟨l, ks, rfl, hl, few, q⟩ := h
  rw [Vals.ref1 r]
  have nS : H s.heap.objs.size = none := I.hok.fresh (Nat.le_refl _)
  have fin : ∀ (h' : Heap) (tk : Nat), Kp s.heap h' → JI X.w s.heap.objs.size ks ks.length h' → EP X pins σ Q (.ref s.heap.objs.size) { s with heap := h', toks := tk } := by
    rintro h' tk kp ⟨n, ni, R⟩
    exact ⟨.ref s.heap.objs.size, upd H s.heap.objs.size (SetO X.w s.heap.objs.size _ n), I.laid (t' := tk) kp (Nat.le_refl _) (setO_new R), rfl, q _ _ n nS (fun k => by rw [List.take_length]) ni⟩
  have zero : ∀ h', Kp s.heap h' → h'.get? s.heap.objs.size = some (nso X.w) → JI X.w s.heap.objs.size ks 0 h' := fun h' kp e => by
    have R0 := setR_fresh (h := s.heap) X.w
    refine ⟨0, Nat.le_refl _, (R0.at (h' := h') fun o e0 => ?_).congr fun k => rfl⟩
    rw [Heap.get?_push_size _ rfl] at e0
    rw [e, ← Option.some.inj e0]
  rcases hl with hl | hl
  · obtain ⟨its, rv, pl, hz⟩ := I.list hl
    have ev : IntsAre its.toArray.toList ks := by simpa using rv.ints
    have isL := pl.isList
    obtain ⟨o, ho, hc1, n, hd⟩ := id isL
    have sz : its.toArray.size = ks.length := by rw [List.size_toArray, ← rv.length, List.length_map]
    refine set_new (T := "list") (I.ok.hd hc) ho (.inl rfl) hc1 hd (iters_list isL) (adds_int ev few) zero fun h' tk kp j => ?_
    rw [sz] at j
    exact fin h' tk kp j
  · obtain ⟨its, rv, isT, hz⟩ := I.tuple hl
    have ev : IntsAre its.toArray.toList ks := by simpa using rv.ints
    obtain ⟨o, ho, hc1, n, hd⟩ := id isT
    have sz : its.toArray.size = ks.length := by rw [List.size_toArray, ← rv.length, List.length_map]
    refine set_new (T := "tuple") (I.ok.hd hc) ho (.inr rfl) hc1 hd (iters_tuple isT) (adds_int ev few) zero fun h' tk kp j => ?_
    rw [sz] at j
    exact fin h' tk kp j
def rLenIn (w : World) : List V → Hp → VK → Prop := fun vs H Q => ∃ (a : Addr) (S : Int → Bool) (n : Nat), vs = [V.ref a] ∧ H a = some (SetO w a S n) ∧ ∀ l : List Int, l.Nodup → (∀ k, k ∈ l ↔ S k = true) → Q (.int (l.length : Nat)) H
theorem cr_lenIn : CallR X (.builtin "len") (rLenIn X.w) := by
  intro pins s σ H vs us Q I r h
  obtain ⟨a, S, n, rfl, ha, q⟩ := h
  rw [Vals.ref1 r]
  have R := setO_get I ha
  obtain ⟨o, es, ep, t, ho, hx, hd, g, nd, hm, hb, hf, hn, _⟩ := R
  have z := q (es.toList.map keyOf) nd fun k => (hm k).symm
  rw [List.length_map, Array.length_toList] at z
  exact call_len_set ho hx hd hf (by unfold scanBound at hb; omega) ⟨.int es.size, H, I.tok _, ⟨_, rfl⟩, z⟩
end
end Dc

/-! Dc: sorted(set(..)) of tuples. -/
namespace Dc
open PySem PySem.Spec PyProof.Rows L2 RZ
theorem lt_of_code {B : Int} : ∀ {a b : List Int}, a.length = b.length → TS.Bd B a → TS.Bd B b → TS.code B a ≤ TS.code B b → a ≠ b → ltI a b = true
  | [], [], _, _, _, _, h => absurd rfl h
  | [], _ :: _, h, _, _, _, _ => by cases h
  | _ :: _, [], h, _, _, _, _ => by cases h
  | x :: a, y :: b, hl, h1, h2, hc, hn => by
    have hl2 : a.length = b.length := Nat.succ.inj hl
    have b1 : TS.Bd B a := fun m h => h1 m (List.mem_cons_of_mem _ h)
    have b2 : TS.Bd B b := fun m h => h2 m (List.mem_cons_of_mem _ h)
    simp only [ltI]
    by_cases e : x = y
    · subst e
      rw [if_pos rfl]
      refine lt_of_code hl2 b1 b2 ?_ fun q => hn (by rw [q])
      rcases Int.lt_or_le (TS.code B b) (TS.code B a) with q | q
      · have z := (TS.code_same (d := x) hl2.symm).mpr q
        omega
      · exact q
    · rw [if_neg e]
      rcases Int.lt_trichotomy x y with q | q | q
      · exact decide_eq_true q
      · exact absurd q e
      · have z := TS.code_lt hl2.symm b2 b1 q
        omega
theorem rvs_tups {K : PySem.W.Frag} {F : Hp} : ∀ {ws : List V} {ds : List D} {ks : List (List Int)}, RVs K F ws ds → tupsOf ds = some ks → ∃ L : List (Addr × List Int), ws = L.map (fun p => V.ref p.1) ∧ L.map (·.2) = ks ∧ ∀ p ∈ L, SqT K F p.1 (p.2.map V.int)
  | _, [], ks, .nil, e => by
    cases e
    exact ⟨[], rfl, rfl, fun p h => by cases h⟩
  | w :: ws, d :: ds, ks, .cons h t, e => by
    cases d with
    | tuple xs =>
      simp only [tupsOf] at e
      rw [Option.bind_eq_some_iff] at e
      obtain ⟨l, e1, e2⟩ := e
      rw [Option.map_eq_some_iff] at e2
      obtain ⟨kr, e3, rfl⟩ := e2
      obtain ⟨L, h1, h2, h3⟩ := rvs_tups t e3
      cases h with
      | @tup a vs _ hq hv hz =>
        obtain ⟨g1, g2⟩ := hv.ints e1
        refine ⟨(a, l) :: L, by rw [h1]; rfl, by rw [← h2]; rfl, fun p hp => ?_⟩
        rcases List.mem_cons.mp hp with q | q
        · subst q
          rw [g1] at hq
          exact hq
        · exact h3 p q
    | _ => cases e
theorem rvs_back {K : PySem.W.Frag} {F : Hp} : ∀ {L : List (Addr × List Int)}, (∀ p ∈ L, SqT K F p.1 (p.2.map V.int)) → (∀ p ∈ L, p.2.length ≤ sizeLine) → RVs K F (L.map fun p => V.ref p.1) ((L.map (·.2)).map tupD)
  | [], _, _ => .nil
  | p :: L, h, hz => .cons (.tup (h p List.mem_cons_self) (RVs.ofInts _) (by rw [List.length_map]; exact hz p List.mem_cons_self)) (rvs_back (fun q m => h q (List.mem_cons_of_mem _ m)) fun q m => hz q (List.mem_cons_of_mem _ m))
theorem insS_len (k : List Int) : ∀ m : List (List Int), (insS k m).length ≤ m.length + 1
  | [] => Nat.le_refl _
  | y :: m => by
    unfold insS
    split
    · simp
    · split
      · simp
      · have := insS_len k m
        simp only [List.length_cons]
        omega
theorem setSort_len : ∀ l : List (List Int), (setSort l).length ≤ l.length
  | [] => Nat.le_refl _
  | k :: l => by
    show (insS k (setSort l)).length ≤ _
    have := insS_len k (setSort l)
    have := setSort_len l
    rw [List.length_cons]
    omega
def rSet2 (K : PySem.W.Frag) (P : Program) (w : World) : List V → Hp → VK → Prop := fun xs H Q => rSetSeq K P w xs H Q ∨ rSetIn K w xs H Q
theorem cr_set2 {X : Cx} (hc : X.calm = true) (hu : X.A.units + 64 < cLine) : CallR X (.type "set") (rSet2 X.K X.prog X.w) := by
  intro pins s σ H xs us Q I r h
  rcases h with h | h
  · exact cr_setSeq hc hu pins s σ H xs us Q I r h
  · exact cr_setIn hc pins s σ H xs us Q I r h
def rSorted2 (K : PySem.W.Frag) (P : Program) (w : World) : List V → Hp → VK → Prop := fun xs H Q => rSortedSeq K P w xs H Q ∨ rSortedSet w xs H Q
theorem cr_sorted2 {X : Cx} (hc : X.calm = true) : CallR X (.builtin "sorted") (rSorted2 X.K X.prog X.w) := by
  intro pins s σ H xs us Q I r h
  rcases h with h | h
  · exact cr_sortedSeq hc pins s σ H xs us Q I r h
  · exact cr_sortedSet hc pins s σ H xs us Q I r h
theorem set_ints {K : PySem.W.Frag} {P : Program} {w : World} {x : V} {F H : Hp} {Q : VK} {d : D} {xs : List D} {sl : Sl} (sub : Same F H) (h1 : BV K F H x d) (ex : seqOf d = some xs) (e : ((intsOf xs).bind fun l => guard (decide (l.length < 64)) (some (.ol ((sortI l).map .int)))) = some sl)
    (q : ∀ w F' H', Res K F H w sl F' H' → Q w H') : rSetIn K w [x] H fun y H2 => rSorted2 K P w [y] H2 Q := by
  rw [Option.bind_eq_some_iff] at e
  obtain ⟨ks, e1, e2⟩ := e
  obtain ⟨g, e3⟩ := guard_some e2
  cases e3
  have g := of_decide_eq_true g
  obtain ⟨a, ws, rfl, r1, t1⟩ : ∃ a ws, x = .ref a ∧ (SqL K H a ws ∨ SqT K H a ws) ∧ RVs K F ws xs := by
    cases d with
    | list ys =>
      cases ex
      obtain ⟨a, ws, rfl, r1, t1⟩ := h1.list sub
      exact ⟨a, ws, rfl, .inl (.inl r1), t1⟩
    | tuple ys =>
      cases ex
      obtain ⟨a, ws, rfl, r1, t1, _⟩ := h1.tuple sub
      exact ⟨a, ws, rfl, .inr r1, t1⟩
    | _ => cases ex
  have z := (t1.ints e1).1
  subst z
  refine ⟨a, ks, rfl, r1, by omega, fun b S n hb hS hn => .inr ⟨b, S, n, rfl, upd_same, by omega, fun ns p srt mem len hp2 => ?_⟩⟩
  have pb : p ≠ b := fun z => by
    rw [z, upd_same] at hp2
    cases hp2
  have hp : H p = none := by
    rw [upd_ne pb] at hp2
    exact hp2
  have en : ns = sortI ks := srtI_uniq srt (sortI_srt ks) fun k => by
    rw [mem, hS, decide_eq_true_eq, sortI_mem]
  rw [en]
  have lz : (sortI ks).length ≤ 64 := by
    rw [← en, len]
    omega
  refine q _ F _ ⟨Same.refl _, fun c o e n => by (rw [n] at e; cases e), fun c o e => same_upd hp2 c o (same_upd hb c o (sub c o e)), fun c o e => same_upd hp2 c o (same_upd hb c o e), [p], .ol upd_same (sub.free hp) (RVs.ofInts _) ?_, by simp, fun c m => by
    obtain rfl : c = p := by simpa using m
    exact hp⟩
  rw [List.length_map, sizeLine_eq]
  omega
theorem set_core {K : PySem.W.Frag} {P : Program} {w : World} {x : V} {H : Hp} {Q : VK} (h : rPn K .sortSet [x] H Q) : rSet2 K P w [x] H fun y H2 => rSorted2 K P w [y] H2 Q := by
  obtain ⟨F, ds, sl, sub, bv, e, q⟩ := h
  obtain ⟨d, rfl, h1⟩ := bv.one
  replace e : oneS .sortSet d = some sl := e
  obtain ⟨xs, ex, e⟩ : ∃ xs, seqOf d = some xs ∧ (match tupsOf xs with
    | some ks => guard (setOk ks) (some (.ol ((setSort ks).map tupD)))
    | none => (intsOf xs).bind fun l => guard (decide (l.length < 64)) (some (.ol ((sortI l).map .int)))) = some sl := by
    cases d with
    | list xs => exact ⟨xs, rfl, e⟩
    | tuple xs => exact ⟨xs, rfl, e⟩
    | _ => cases e
  cases e1 : tupsOf xs with
  | none =>
    rw [e1] at e
    exact .inr (set_ints sub h1 ex e q)
  | some ks =>
  rw [e1] at e
  refine .inl ?_
  obtain ⟨g, e3⟩ := guard_some e
  cases e3
  obtain ⟨a, ws, rfl, r1, t1⟩ : ∃ a ws, x = .ref a ∧ (SqL K H a ws ∨ SqT K H a ws) ∧ RVs K F ws xs := by
    cases d with
    | list ys =>
      cases ex
      obtain ⟨a, ws, rfl, r1, t1⟩ := h1.list sub
      exact ⟨a, ws, rfl, .inl (.inl r1), t1⟩
    | tuple ys =>
      cases ex
      obtain ⟨a, ws, rfl, r1, t1, _⟩ := h1.tuple sub
      exact ⟨a, ws, rfl, .inr r1, t1⟩
    | _ => cases ex
  obtain ⟨L0, k1, k2, k3⟩ := rvs_tups t1 e1
  unfold setOk at g
  rw [Bool.and_eq_true] at g
  obtain ⟨g1, g3⟩ := g
  have g1 := of_decide_eq_true g1
  have hk : ∀ k ∈ ks, k.length = (ks.headD [0]).length ∧ TS.Bd 64 k := fun k m => by
    have z := List.all_eq_true.mp g3 k m
    rw [Bool.and_eq_true] at z
    refine ⟨of_decide_eq_true z.1, fun i mi => ?_⟩
    have z2 := List.all_eq_true.mp z.2 i mi
    rw [Bool.and_eq_true] at z2
    exact ⟨of_decide_eq_true z2.1, of_decide_eq_true z2.2⟩
  have hz : ∀ k ∈ ks, k.length ≤ sizeLine := by
    intro k m
    have := (hk k m).1
    cases ks with
    | nil => cases m
    | cons k0 ks =>
      obtain ⟨v, vs, hv⟩ : ∃ v vs, xs = v :: vs := by
        cases xs with
        | nil => cases e1
        | cons v vs => exact ⟨v, vs, rfl⟩
      subst hv
      cases t1 with
      | cons hh tt =>
        cases v with
        | tuple ys =>
          simp only [tupsOf] at e1
          rw [Option.bind_eq_some_iff] at e1
          obtain ⟨l, e4, e5⟩ := e1
          rw [Option.map_eq_some_iff] at e5
          obtain ⟨kr, e6, e7⟩ := e5
          cases e7
          cases hh with
          | tup hq hv hz =>
            have g := (hv.ints e4).2
            rw [g, List.length_map] at hz
            rw [this]
            exact hz
        | _ => cases e1
  have hm : ∀ p ∈ L0, p.2 ∈ ks := fun p m => by
    rw [← k2]
    exact List.mem_map_of_mem m
  have few : Few L0 := by
    rcases g1 with z | z
    · refine .inl ?_
      rw [← k2, List.length_map] at z
      exact z
    · exact .inr ⟨setSort ks, by omega, fun p m => setSort_mem.mpr (hm p m)⟩
  rw [k1] at r1
  refine ⟨a, L0, rfl, r1, fun p hp => sqT_mono sub (k3 p hp), few, fun b L hb nd0 m1 m2 => ?_⟩
  have same : ∀ L' : List (Addr × List Int), L'.Perm L → SrtS (L'.map (·.2)) → L'.map (·.2) = setSort ks := fun L' pm srt => by
    refine srt_uniq srt (setSort_srt ks) fun z => ?_
    rw [setSort_mem, ← k2]
    constructor
    · intro m
      obtain ⟨q, hq, rfl⟩ := List.mem_map.mp m
      exact List.mem_map_of_mem (m1 q (pm.mem_iff.mp hq))
    · intro m
      obtain ⟨q, hq, rfl⟩ := List.mem_map.mp m
      obtain ⟨r, hr, er⟩ := List.mem_map.mp (m2 q hq)
      rw [← er]
      exact List.mem_map_of_mem (pm.mem_iff.mpr hr)
  have fin : ∀ (L' : List (Addr × List Int)) (p : Addr), L'.Perm L → SrtS (L'.map (·.2)) → (upd H b (SetTO P w b L)) p = none → Q (.ref p) (upd (upd H b (SetTO P w b L)) p (.lst (L'.map fun q => V.ref q.1))) := fun L' p pm srt hp2 => by
    have pb : p ≠ b := fun z => by
      rw [z, upd_same] at hp2
      cases hp2
    have hp : H p = none := by
      rw [upd_ne pb] at hp2
      exact hp2
    have m3 : ∀ q ∈ L', q ∈ L0 := fun q m => m1 q (pm.mem_iff.mp m)
    have eq := same L' pm srt
    have rv := rvs_back (K := K) (F := F) (L := L') (fun q m => k3 q (m3 q m)) fun q m => hz _ (hm _ (m3 _ m))
    rw [eq] at rv
    have l1 := setSort_len ks
    have l2 := congrArg List.length eq
    rw [List.length_map] at l2
    have lz : (L'.map fun q => V.ref q.1).length ≤ sizeLine := by
      rw [List.length_map, sizeLine_eq]
      omega
    refine q _ F _ ⟨Same.refl _, fun c o e n => by (rw [n] at e; cases e), fun c o e => same_upd hp2 c o (same_upd hb c o (sub c o e)), fun c o e => same_upd hp2 c o (same_upd hb c o e), [p], .ol upd_same (sub.free hp) rv ?_, by simp, fun c m => by
      obtain rfl : c = p := by simpa using m
      exact hp⟩
    rw [← rv.length]
    exact lz
  have kL : ∀ p ∈ L, SqT K (upd H b (SetTO P w b L)) p.1 (p.2.map V.int) := fun p hp => sqT_mono (same_upd hb) (sqT_mono sub (k3 p (m1 p hp)))
  by_cases g2 : 1 ≤ (ks.headD [0]).length
  · refine .inl (.inl ⟨b, L, (ks.headD [0]).length, 64, rfl, upd_same, kL, g2, fun p hp => hk p.2 (hm p (m1 p hp)), fun L' p pm nd _ pw hp => fin L' p pm ?_ hp⟩)
    have m3 : ∀ q ∈ L', q ∈ L0 := fun q m => m1 q (pm.mem_iff.mp m)
    refine List.pairwise_map.mpr ?_
    refine List.Pairwise.imp_of_mem (fun {u v} hu hv z => ?_) (pw.and (List.pairwise_map.mp nd))
    exact lt_of_code ((hk _ (hm _ (m3 _ hu))).1.trans (hk _ (hm _ (m3 _ hv))).1.symm) (hk _ (hm _ (m3 _ hu))).2 (hk _ (hm _ (m3 _ hv))).2 z.1 z.2
  · have emp : ∀ k ∈ ks, k = [] := fun k m => List.eq_nil_of_length_eq_zero (by have := (hk k m).1; omega)
    have al : ∀ k ∈ L.map (·.2), k = [] := fun k m => by
      obtain ⟨r, hr, rfl⟩ := List.mem_map.mp m
      exact emp _ (hm _ (m1 r hr))
    have L1 : L.length ≤ 1 := by
      match L, al, nd0 with
      | [], _, _ => exact Nat.zero_le _
      | [_], _, _ => exact Nat.le_refl _
      | x :: y :: L, al, nd0 =>
        refine absurd ((al x.2 List.mem_cons_self).trans (al y.2 (List.mem_cons_of_mem _ List.mem_cons_self)).symm) fun e => (List.nodup_cons.mp nd0).1 ?_
        show x.2 ∈ y.2 :: L.map (·.2)
        rw [e]
        exact List.mem_cons_self
    refine .inl (.inr ⟨b, L, rfl, upd_same, kL, L1, fun p hp => fin L p (List.Perm.refl _) ?_ hp⟩)
    match L, L1 with
    | [], _ => exact List.Pairwise.nil
    | [_], _ => exact List.pairwise_singleton _ _
section
variable {X : Cx} {exc : Nat → Addr} {W : WX} {U : Nat → Option Def} {k : Nat} {io : List Nat} {pos : Pos} {e a b c : Expr} {es : List Expr} {t ta tb tc : E} {ts : Es}
theorem r_sortSet {q q2 q3 : Pos} (B : Bd X W k) (hg : Gl X "sorted") (hg2 : Gl X "set") (ha : PVo X exc W U k a ta) (hs : noStar a = true) : PV X exc W U k (.Call (.Name "sorted" q) [.Call (.Name "set" q2) [a] [] q3] [] pos) (.prim .sortSet (.cons ta .nil)) := by
  unfold PV
  rw [ev_prim]
  refine PE.imp (pe_callB (cr_sorted2 B.calm) hg B.bl.sorted (by decide +kernel) (pa_cons (pe_callTy (cr_set2 B.calm (by have := B.hr.un; omega)) hg2 B.bl.set (by decide +kernel) (os_cons ha hs os_nil) (by decide) (by decide) (star_cons hs) rfl) pa_nil (star_cons rfl)) (by decide) (by decide) (star_cons rfl) rfl) fun σ H Q z => ?_
  refine dX_end (dX_primEl z fun env os env' e => evo_len _ _ _ _ e) fun ws F1 H1 fp1 o1 env1 r kk => ?_
  obtain ⟨hl, hr⟩ := kk ws r
  obtain ⟨x, rfl⟩ : ∃ x, ws = [x] := by
    match ws, hl with
    | [x], _ => exact ⟨x, rfl⟩
  exact set_core hr
end
end Dc

/-! Dc: len(set(..)) of truth values. -/
namespace Dc
open PySem PySem.Spec PyProof.Rows L2 PpSet
theorem cntB_of : ∀ {l : List Bool}, l.Nodup → l.length = (if true ∈ l then 1 else 0) + (if false ∈ l then 1 else 0)
  | [], _ => rfl
  | [true], _ => rfl
  | [false], _ => rfl
  | [a, b], h => by
    cases a <;> cases b <;> first | rfl | (exact absurd h (by decide))
  | a :: b :: c :: l, h => by
    have h1 := List.nodup_cons.mp h
    have h2 := List.nodup_cons.mp h1.2
    exfalso
    have x1 : a ≠ b := fun e => h1.1 (e ▸ List.mem_cons_self)
    have x2 : a ≠ c := fun e => h1.1 (e ▸ List.mem_cons_of_mem _ List.mem_cons_self)
    have x3 : b ≠ c := fun e => h2.1 (e ▸ List.mem_cons_self)
    cases a <;> cases b <;> cases c <;> simp_all
section
variable {P : Program} {w : World} {A : Around} {E : Value → Shared → Prop} {s : Shared}
def JB (w : World) (S : Addr) (bs : List Bool) (i : Nat) (h : Heap) : Prop := ∃ n, SetB w h S (fun k => decide (k ∈ bs.take i)) n
theorem setB_num {h : Heap} {a : Addr} {S : Bool → Bool} {n : Nat} (R : SetB w h a S n) : n = (if S true = true then 1 else 0) + (if S false = true then 1 else 0) := by
  obtain ⟨o, es, ep, t, ho, hx, hd, g, nd, hm, hb, hf, hn, _⟩ := R
  have z := cntB_of nd
  rw [List.length_map, Array.length_toList, hn] at z
  rw [z]
  congr 1
  · by_cases c : S true = true
    · rw [if_pos c, if_pos ((hm true).mp c)]
    · rw [if_neg c, if_neg fun m => c ((hm true).mpr m)]
  · by_cases c : S false = true
    · rw [if_pos c, if_pos ((hm false).mp c)]
    · rw [if_neg c, if_neg fun m => c ((hm false).mpr m)]
theorem adds_bool {S : Addr} {h0 : Heap} {vs : Array Value} {bs : List Bool} (ev : vs.toList = bs.map Value.bool) : Adds P w A S h0 vs (JB w S bs) where
  stay := fun i h h' ⟨n, R⟩ kS kp => ⟨n, R.at kS⟩
  step := fun i v s E Q hv kp ⟨n, R⟩ q => by
    obtain ⟨b, hb, rfl⟩ : ∃ b, bs[i]? = some b ∧ v = .bool b := by
      have z : vs.toList[i]? = some v := by rw [Array.getElem?_toList]; exact hv
      rw [ev, List.getElem?_map, Option.map_eq_some_iff] at z
      obtain ⟨p, h1, h2⟩ := z
      exact ⟨p, h1, h2.symm⟩
    have nn := setB_num R
    have room : n + 1 < scanBound := by
      unfold scanBound
      split at nn <;> split at nn <;> omega
    unfold setAdd
    refine wpAny_holding (wpAny_bind ((boolK P w).pyHash (boolK_is P w b) ?_))
    refine setB_add_hashed (s := { s with toks := s.toks + 1 }) R room fun h' sb R' => ?_
    refine q _ h' _ sb (Nat.le_succ _) ⟨_, R'.congr fun j => ?_⟩
    rw [take_next hb]
    by_cases c : j ∈ bs.take i
    · rw [decide_eq_true c, Bool.true_or, decide_eq_true (List.mem_append_left _ c)]
    · rw [decide_eq_false c, Bool.false_or]
      by_cases d : j = b
      · rw [decide_eq_true d, decide_eq_true (List.mem_append_right _ (by rw [d]; exact List.mem_singleton.mpr rfl))]
      · rw [decide_eq_false d, decide_eq_false fun m => (List.mem_append.mp m).elim c fun m => d (List.mem_singleton.mp m)]
end
theorem vals_bools : ∀ {bs : List Bool} {us : List Value}, Vals (bs.map V.bl) us → us = bs.map Value.bool
  | [], _, .nil => rfl
  | b :: bs, _, .cons r t => by
    rw [vals_bools t]
    cases r
    rfl
section
variable {X : Cx}
def rSetBl (K : PySem.W.Frag) (w : World) : List V → Hp → VK → Prop := fun xs H Q => ∃ (l : Addr) (bs : List Bool), xs = [V.ref l] ∧ (SqL K H l (bs.map V.bl) ∨ SqT K H l (bs.map V.bl)) ∧
  ∀ a S n, H a = none → (∀ k, S k = decide (k ∈ bs)) → Q (.ref a) (upd H a (SetBO w a S n))
theorem cr_setBl (hc : X.calm = true) : CallR X (.type "set") (rSetBl X.K X.w) := by
  intro pins s σ H xs us Q I r h
  obtain ⟨l, bs, rfl, hl, q⟩ := h
  rw [Vals.ref1 r]
  have nS : H s.heap.objs.size = none := I.hok.fresh (Nat.le_refl _)
  have fin : ∀ (h' : Heap) (tk : Nat), Kp s.heap h' → JB X.w s.heap.objs.size bs bs.length h' → EP X pins σ Q (.ref s.heap.objs.size) { s with heap := h', toks := tk } := by
    rintro h' tk kp ⟨n, R⟩
    exact ⟨.ref s.heap.objs.size, upd H s.heap.objs.size (SetBO X.w s.heap.objs.size _ n), I.laid (t' := tk) kp (Nat.le_refl _) (setBO_new R), rfl, q _ _ n nS fun k => by rw [List.take_length]⟩
  have zero : ∀ h', Kp s.heap h' → h'.get? s.heap.objs.size = some (nso X.w) → JB X.w s.heap.objs.size bs 0 h' := fun h' kp e => by
    have R0 := setB_fresh (h := s.heap) X.w
    refine ⟨0, (R0.at (h' := h') fun o e0 => ?_).congr fun k => rfl⟩
    rw [Heap.get?_push_size _ rfl] at e0
    rw [e, ← Option.some.inj e0]
  rcases hl with hl | hl
  · obtain ⟨its, rv, pl, hz⟩ := I.list hl
    have ev : its.toArray.toList = bs.map Value.bool := by simpa using vals_bools rv
    have isL := pl.isList
    obtain ⟨o, ho, hc1, n, hd⟩ := id isL
    have sz : its.toArray.size = bs.length := by rw [← Array.length_toList, ev, List.length_map]
    refine set_new (T := "list") (I.ok.hd hc) ho (.inl rfl) hc1 hd (iters_list isL) (adds_bool ev) zero fun h' tk kp j => ?_
    rw [sz] at j
    exact fin h' tk kp j
  · obtain ⟨its, rv, isT, hz⟩ := I.tuple hl
    have ev : its.toArray.toList = bs.map Value.bool := by simpa using vals_bools rv
    obtain ⟨o, ho, hc1, n, hd⟩ := id isT
    have sz : its.toArray.size = bs.length := by rw [← Array.length_toList, ev, List.length_map]
    refine set_new (T := "tuple") (I.ok.hd hc) ho (.inr rfl) hc1 hd (iters_tuple isT) (adds_bool ev) zero fun h' tk kp j => ?_
    rw [sz] at j
    exact fin h' tk kp j
def rLenBl (w : World) : List V → Hp → VK → Prop := fun vs H Q => ∃ (a : Addr) (S : Bool → Bool) (n : Nat), vs = [V.ref a] ∧ H a = some (SetBO w a S n) ∧ ∀ i : Int, i = (if S true = true then 1 else 0) + (if S false = true then 1 else 0) → Q (.int i) H
theorem cr_lenBl : CallR X (.builtin "len") (rLenBl X.w) := by
  intro pins s σ H vs us Q I r h
  obtain ⟨a, S, n, rfl, ha, q⟩ := h
  rw [Vals.ref1 r]
  have R := setBO_get I ha
  have nn := setB_num R
  obtain ⟨o, es, ep, t, ho, hx, hd, g, nd, hm, hb, hf, hn, _⟩ := R
  refine call_len_set ho hx hd hf (by unfold scanBound at hb; omega) ⟨.int n, H, I.tok _, ⟨_, by rw [hn]⟩, q _ ?_⟩
  rw [nn]
  split <;> split <;> rfl
end
def rSetL (K : PySem.W.Frag) (w : World) : List V → Hp → VK → Prop := fun xs H Q => rSetBl K w xs H Q ∨ rSetIn K w xs H Q
theorem cr_setL {X : Cx} (hc : X.calm = true) : CallR X (.type "set") (rSetL X.K X.w) := by
  intro pins s σ H xs us Q I r h
  rcases h with h | h
  · exact cr_setBl hc pins s σ H xs us Q I r h
  · exact cr_setIn hc pins s σ H xs us Q I r h
def rLenL (w : World) : List V → Hp → VK → Prop := fun xs H Q => rLenBl w xs H Q ∨ rLenIn w xs H Q
theorem cr_lenL {X : Cx} : CallR X (.builtin "len") (rLenL X.w) := by
  intro pins s σ H xs us Q I r h
  rcases h with h | h
  · exact cr_lenBl pins s σ H xs us Q I r h
  · exact cr_lenIn pins s σ H xs us Q I r h
theorem len_core {K : PySem.W.Frag} {w : World} {x : V} {H : Hp} {Q : VK} (h : rPn K .lenSet [x] H Q) : rSetL K w [x] H fun y H2 => rLenL w [y] H2 Q := by
  obtain ⟨F, ds, sl, sub, bv, e, q⟩ := h
  obtain ⟨d, rfl, h1⟩ := bv.one
  replace e : oneS .lenSet d = some sl := e
  obtain ⟨xs, ex, e⟩ : ∃ xs, seqOf d = some xs ∧ (match boolsOf xs with
    | some l => i2 ((if true ∈ l then 1 else 0) + (if false ∈ l then 1 else 0))
    | none => (intsOf xs).bind fun l => guard (decide (l.length < 4000)) (i2 ((sortI l).length : Nat))) = some sl := by
    cases d with
    | list xs => exact ⟨xs, rfl, e⟩
    | tuple xs => exact ⟨xs, rfl, e⟩
    | _ => cases e
  obtain ⟨a, ws, rfl, r1, t1⟩ : ∃ a ws, x = .ref a ∧ (SqL K H a ws ∨ SqT K H a ws) ∧ RVs K F ws xs := by
    cases d with
    | list ys =>
      cases ex
      obtain ⟨a, ws, rfl, r1, t1⟩ := h1.list sub
      exact ⟨a, ws, rfl, .inl (.inl r1), t1⟩
    | tuple ys =>
      cases ex
      obtain ⟨a, ws, rfl, r1, t1, _⟩ := h1.tuple sub
      exact ⟨a, ws, rfl, .inr r1, t1⟩
    | _ => cases ex
  cases e1 : boolsOf xs with
  | none =>
    rw [e1] at e
    replace e : ((intsOf xs).bind fun l => guard (decide (l.length < 4000)) (i2 ((sortI l).length : Nat))) = some sl := e
    rw [Option.bind_eq_some_iff] at e
    obtain ⟨ks, e2, e3⟩ := e
    obtain ⟨g, e4⟩ := guard_some e3
    cases e4
    have g := of_decide_eq_true g
    have z := (t1.ints e2).1
    subst z
    refine .inr ⟨a, ks, rfl, r1, g, fun b S n hb hS hn => .inr ⟨b, S, n, rfl, upd_same, fun l nd mem => ?_⟩⟩
    have nd2 : (sortI ks).Nodup := (sortI_srt ks).imp fun h => by omega
    have el : l.length = (sortI ks).length := by
      have m2 : ∀ k, k ∈ l ↔ k ∈ sortI ks := fun k => by rw [mem, hS, decide_eq_true_eq, sortI_mem]
      exact Nat.le_antisymm (few_of nd fun k m => (m2 k).mp m) (few_of nd2 fun k m => (m2 k).mpr m)
    rw [el]
    exact q _ F _ ⟨Same.refl _, fun c o e n => by (rw [n] at e; cases e), fun c o e => same_upd hb c o (sub c o e), fun c o e => same_upd hb c o e, [], .fr (.int _), .nil, fun c m => absurd m (by simp)⟩
  | some bs =>
    rw [e1] at e
    cases e
    have z := t1.bools e1
    subst z
    refine .inl ⟨a, bs, rfl, r1, fun b S n hb hS => .inl ⟨b, S, n, rfl, upd_same, fun i ei => ?_⟩⟩
    have ei2 : i = (if true ∈ bs then 1 else 0) + (if false ∈ bs then 1 else 0) := by
      rw [ei, hS, hS]
      simp only [decide_eq_true_eq]
    rw [ei2]
    exact q _ F _ ⟨Same.refl _, fun c o e n => by (rw [n] at e; cases e), fun c o e => same_upd hb c o (sub c o e), fun c o e => same_upd hb c o e, [], .fr (.int _), .nil, fun c m => absurd m (by simp)⟩
section
variable {X : Cx} {exc : Nat → Addr} {W : WX} {U : Nat → Option Def} {k : Nat} {pos : Pos} {a : Expr} {ta : E}
theorem r_lenSet {q q2 q3 : Pos} (B : Bd X W k) (hg : Gl X "len") (hg2 : Gl X "set") (ha : PVo X exc W U k a ta) (hs : noStar a = true) : PV X exc W U k (.Call (.Name "len" q) [.Call (.Name "set" q2) [a] [] q3] [] pos) (.prim .lenSet (.cons ta .nil)) := by
  unfold PV
  rw [ev_prim]
  refine PE.imp (pe_callB cr_lenL hg B.bl.len (by decide +kernel) (pa_cons (pe_callTy (cr_setL B.calm) hg2 B.bl.set (by decide +kernel) (os_cons ha hs os_nil) (by decide) (by decide) (star_cons hs) rfl) pa_nil (star_cons rfl)) (by decide) (by decide) (star_cons rfl) rfl) fun σ H Q z => ?_
  refine dX_end (dX_primEl z fun env os env' e => evo_len _ _ _ _ e) fun ws F1 H1 fp1 o1 env1 r kk => ?_
  obtain ⟨hl, hr⟩ := kk ws r
  obtain ⟨x, rfl⟩ : ∃ x, ws = [x] := by
    match ws, hl with
    | [x], _ => exact ⟨x, rfl⟩
  exact len_core hr
end
end Dc

/-! Dc: dicts with keys of tuples, their values all True. -/
namespace Dc
open PySem PySem.Spec PyProof.Rows L2 RZ
mutual
theorem hash_w (w w' : World) : ∀ (k : NestedKey) (d : D), keyD d = some k → k.hash w = k.hash w'
  | .none, _, _ => by rw [NestedKey.hash, NestedKey.hash]
  | .num i, _, _ => by rw [NestedKey.hash, NestedKey.hash]
  | .text x, d, h => by cases d <;> simp [keyD] at h
  | .tup ks, d, h => by
    cases d with
    | tuple ds =>
      rw [keyD, Option.map_eq_some_iff] at h
      obtain ⟨ks', h1, e⟩ := h
      cases e
      rw [NestedKey.hash, NestedKey.hash, hashes_w w w' ks ds h1]
    | _ => simp [keyD] at h
theorem hashes_w (w w' : World) : ∀ (ks : List NestedKey) (ds : List D), keysD ds = some ks → NestedKey.hashes w ks = NestedKey.hashes w' ks
  | [], _, _ => by rw [NestedKey.hashes, NestedKey.hashes]
  | k :: ks, ds, h => by
    cases ds with
    | nil => simp [keysD] at h
    | cons d ds =>
      rw [keysD, Option.bind_eq_some_iff] at h
      obtain ⟨k', h1, h2⟩ := h
      rw [Option.map_eq_some_iff] at h2
      obtain ⟨ks', h3, e⟩ := h2
      cases e
      rw [NestedKey.hashes, NestedKey.hashes, hash_w w w' k d h1, hashes_w w w' ks ds h3]
end
section
variable {X : Cx} {pins : List (Addr × Obj)} {σ : St} {F H : Hp} {s : Shared}
mutual
theorem rv_is (I : Inv X pins σ H s) (sub : Same F H) : ∀ (k : NestedKey) (d : D) (v : V) (u : Value), keyD d = some k → RV X.K F v d → RelV v u → NestedIs s.heap k u
  | .none, d, _, _, h, _, _ => by cases d <;> simp [keyD] at h
  | .text x, d, _, _, h, _, _ => by cases d <;> simp [keyD] at h
  | .num i, d, v, u, h, r, q => by
    cases d with
    | int j =>
      rw [keyD] at h
      cases h
      cases r
      obtain ⟨t, rfl⟩ := (show ∃ t, u = Value.int i t from q)
      exact .int i t
    | _ => simp [keyD] at h
  | .tup ks, d, v, u, h, r, q => by
    cases d with
    | tuple ds =>
      rw [keyD, Option.map_eq_some_iff] at h
      obtain ⟨ks', h1, e⟩ := h
      cases e
      cases r with
      | @tup a vs _ hq hv hz =>
        obtain rfl : u = Value.ref a := q
        obtain ⟨its, rv, ⟨o, ho, hc, n, hd⟩, _⟩ := I.tuple (sqT_mono sub hq)
        exact .tup ho hc hd (rvs_are I sub ks ds vs its h1 hv rv)
    | _ => simp [keyD] at h
theorem rvs_are (I : Inv X pins σ H s) (sub : Same F H) : ∀ (ks : List NestedKey) (ds : List D) (vs : List V) (us : List Value), keysD ds = some ks → RVs X.K F vs ds → Vals vs us → NestedAll s.heap ks us
  | [], ds, vs, us, h, r, q => by
    cases ds with
    | nil =>
      cases r
      cases q
      exact .nil
    | cons d ds =>
      rw [keysD, Option.bind_eq_some_iff] at h
      obtain ⟨k', h1, h2⟩ := h
      rw [Option.map_eq_some_iff] at h2
      obtain ⟨ks', h3, e⟩ := h2
      cases e
  | k :: ks, ds, vs, us, h, r, q => by
    cases ds with
    | nil => simp [keysD] at h
    | cons d ds =>
      rw [keysD, Option.bind_eq_some_iff] at h
      obtain ⟨k', h1, h2⟩ := h
      rw [Option.map_eq_some_iff] at h2
      obtain ⟨ks', h3, e⟩ := h2
      cases e
      cases r with
      | cons r1 r2 =>
        cases q with
        | cons q1 q2 => exact .cons (rv_is I sub k d _ _ h1 r1 q1) (rvs_are I sub ks ds _ _ h3 r2 q2)
end
end
theorem dic_each {K : PySem.W.Frag} {F : Hp} : ∀ {xs : List (NestedKey × Addr)} {ds : List D}, RVs K F (xs.map fun x => V.ref x.2) ds → keysD ds = some (xs.map (·.1)) → ∀ x ∈ xs, ∃ d ∈ ds, keyD d = some x.1 ∧ RV K F (.ref x.2) d
  | [], _, _, _, x, m => by cases m
  | y :: xs, ds, r, h, x, m => by
    cases ds with
    | nil => cases r
    | cons d ds =>
      obtain ⟨r1, r2⟩ : RV K F (.ref y.2) d ∧ RVs K F (xs.map fun x => V.ref x.2) ds := by
        cases r with
        | cons r1 r2 => exact ⟨r1, r2⟩
      rw [keysD, Option.bind_eq_some_iff] at h
      obtain ⟨k', h1, h2⟩ := h
      rw [Option.map_eq_some_iff] at h2
      obtain ⟨ks', h3, e⟩ := h2
      have e1 : k' = y.1 := (List.cons.inj e).1
      have e2 : ks' = xs.map (·.1) := (List.cons.inj e).2
      subst e1 e2
      rcases List.mem_cons.mp m with rfl | m
      · exact ⟨d, List.mem_cons_self, h1, r1⟩
      · obtain ⟨d', m', z⟩ := dic_each r2 h3 x m
        exact ⟨d', List.mem_cons_of_mem _ m', z⟩
theorem kOk_key {d : D} (h : kOk d = true) : ∃ k, keyD d = some k ∧ k.depth ≤ 8 ∧ ∃ ds, d = .tuple ds := by
  unfold kOk at h
  cases d with
  | tuple ds =>
    cases e : keyD (.tuple ds) with
    | none =>
      rw [e] at h
      cases h
    | some k =>
      rw [e] at h
      cases k with
      | tup ks => exact ⟨_, rfl, of_decide_eq_true h, ds, rfl⟩
      | _ => cases h
  | int i =>
    rw [keyD] at h
    cases h
  | _ => simp [keyD] at h
theorem hasK_mem : ∀ {ds : List D} {ks : List NestedKey}, keysD ds = some ks → ∀ {d : D} {k : NestedKey}, keyD d = some k → hasK ds d = decide (k ∈ ks)
  | [], ks, h, d, k, hk => by
    rw [keysD] at h
    cases h
    rfl
  | y :: ds, ks, h, d, k, hk => by
    rw [keysD, Option.bind_eq_some_iff] at h
    obtain ⟨k', h1, h2⟩ := h
    rw [Option.map_eq_some_iff] at h2
    obtain ⟨ks', h3, e⟩ := h2
    subst e
    have z := hasK_mem h3 hk
    unfold hasK at z ⊢
    rw [List.any_cons, z, h1, hk]
    by_cases e : k' = k
    · subst e
      simp
    · have e2 : ¬ (some k' = some k) := fun q => e (Option.some.inj q)
      rw [decide_eq_false e2, Bool.false_or]
      refine decide_eq_decide.mpr ?_
      rw [List.mem_cons]
      exact ⟨.inr, fun q => q.elim (fun q => absurd q.symm e) id⟩
theorem keys_app : ∀ {ds : List D} {ks : List NestedKey}, keysD ds = some ks → ∀ {d : D} {k : NestedKey}, keyD d = some k → keysD (ds ++ [d]) = some (ks ++ [k])
  | [], ks, h, d, k, hk => by
    rw [keysD] at h
    cases h
    show keysD [d] = some [k]
    rw [keysD, hk, keysD]
    rfl
  | y :: ds, ks, h, d, k, hk => by
    rw [keysD, Option.bind_eq_some_iff] at h
    obtain ⟨k', h1, h2⟩ := h
    rw [Option.map_eq_some_iff] at h2
    obtain ⟨ks', h3, e⟩ := h2
    subst e
    show keysD (y :: (ds ++ [d])) = _
    rw [keysD, h1, keys_app h3 hk]
    rfl
abbrev trip (xs : List (NestedKey × Addr)) : List (NestedKey × Addr × Value) := xs.map fun x => (x.1, x.2, .bool true)
theorem trip_at (xs : List (NestedKey × Addr)) (k : NestedKey) : (atKey (trip xs) k).isSome = decide (k ∈ xs.map (·.1)) := by
  unfold atKey trip
  rw [Option.isSome_map, Bool.eq_iff_iff, List.find?_isSome, decide_eq_true_eq]
  constructor
  · rintro ⟨y, m, e⟩
    obtain ⟨x, mx, rfl⟩ := List.mem_map.mp m
    exact List.mem_map.mpr ⟨x, mx, of_decide_eq_true e⟩
  · intro m
    obtain ⟨x, mx, e⟩ := List.mem_map.mp m
    exact ⟨_, List.mem_map.mpr ⟨x, mx, rfl⟩, decide_eq_true e⟩
theorem trip_put (xs : List (NestedKey × Addr)) (k : NestedKey) (b : Addr) : storedH (trip xs) k b (.bool true) = trip (if k ∈ xs.map (·.1) then xs else xs ++ [(k, b)]) := by
  unfold storedH
  rw [trip_at]
  by_cases m : k ∈ xs.map (·.1)
  · rw [if_pos (decide_eq_true m), if_pos m]
    unfold trip
    rw [List.map_map]
    refine List.map_congr_left fun x _ => ?_
    show putAt k (.bool true) (x.1, x.2, Value.bool true) = _
    unfold putAt
    split <;> rfl
  · rw [if_neg (by simpa using m), if_neg m]
    unfold trip
    rw [List.map_append]
    rfl
section
variable {X : Cx} {pins : List (Addr × Obj)} {σ : St} {F H : Hp} {s : Shared}
abbrev nk (X : Cx) := nestedKind X.prog X.w
theorem dic_of (I : Inv X pins σ H s) (sub : Same F H) {a : Addr} {xs : List (NestedKey × Addr)} {ds : List D} (hH : H a = some (DicO a xs)) (r : RVs X.K F (xs.map fun x => V.ref x.2) ds) (k : DicK xs ds) :
    (a == sysModules) = false ∧ s.heap.DictOfH (nk X) a (trip xs) := by
  obtain ⟨w', o, es, ep, ho, hc, hd, he, hs⟩ := (I.hok a _ hH).1
  have each := dic_each r k.key
  refine ⟨hs, o, es, ep, ho, hc, hd, ?_, fun y my => ?_, ?_⟩
  · rw [he]
    unfold trip
    rw [List.map_map]
    refine List.map_congr_left fun x mx => ?_
    obtain ⟨d, _, e, _⟩ := each x mx
    show dicEn w' x = ⟨x.1.hash X.w, .ref x.2, .bool true⟩
    unfold dicEn
    rw [hash_w w' X.w x.1 d e]
  · obtain ⟨x, mx, rfl⟩ := List.mem_map.mp my
    obtain ⟨d, md, e, rv⟩ := each x mx
    obtain ⟨k', e2, dp, _⟩ := kOk_key (k.ok d md)
    rw [e] at e2
    cases e2
    exact ⟨rv_is I sub x.1 d _ _ e rv rfl, dp⟩
  · unfold trip
    rw [List.map_map]
    exact k.nd
theorem dicO_new {P : Program} {w : World} {H : Hp} {h : Heap} {a : Addr} {xs : List (NestedKey × Addr)} (hs : (a == sysModules) = false) (hm : h.DictOfH (nestedKind P w) a (trip xs)) : ObjOk P w H h a (DicO a xs) := by
  obtain ⟨o, es, ep, ho, hc, hd, he, _, _⟩ := hm
  refine ⟨⟨w, o, es, ep, ho, hc, hd, ?_, hs⟩, ⟨o, ho⟩, fun h1 h2 p k => ?_⟩
  · rw [he]
    unfold trip
    rw [List.map_map]
    rfl
  · obtain ⟨w1, o1, es1, ep1, g1, g2⟩ := p
    exact ⟨w1, o1, es1, ep1, k o1 g1, g2⟩
theorem dic_fresh (I : Inv X pins σ H s) : (s.heap.objs.size == sysModules) = false := beq_eq_false_iff_ne.mpr (Ne.symm (Nat.ne_of_lt I.big))
theorem dic_empty {P : Program} {w : World} {H : Hp} {h : Heap} (hs : (h.objs.size == sysModules) = false) : ObjOk P w H (h.push { cls := .type "dict", data := .dict #[] }) h.objs.size (DicO h.objs.size []) :=
  dicO_new (xs := []) hs (Heap.DictOfH.new h)
end
section
variable {X : Cx} {exc : Nat → Addr} {W : WX} {io : List Nat} {pos : Pos} {e : Expr}
/-! {} and {k: True} -/
theorem pe_dic0 : PE X (.Dict [] [] pos) (fun _ H Q => ∀ p, H p = none → Q (.ref p) (upd H p (DicO p []))) := ⟨fun pins s σ H Q I h =>
  wpAny_Dict_empty ⟨.ref s.heap.objs.size, _, I.laid (a := s.heap.objs.size) (o := DicO s.heap.objs.size []) (t' := s.toks) (fun _ _ q => Heap.get?_push_of_some _ q) (Nat.le_refl _) (dic_empty (dic_fresh I)), rfl, h _ (I.hok.fresh (Nat.le_refl _))⟩⟩
def tDic1 (K : PySem.W.Frag) (tk : TE) : TE := fun σ H Q => ∀ p, H p = none → tk σ (upd H p (DicO p [])) fun x H2 => ∃ (F : Hp) (d : D) (b : Addr) (k : NestedKey), x = .ref b ∧ H2 p = some (DicO p []) ∧ Same F H2 ∧ RV K F (.ref b) d ∧ keyD d = some k ∧ k.depth ≤ 8 ∧ Q (.ref p) (upd H2 p (DicO p [(k, b)]))
theorem pe_dic1 {tk : TE} {j : Nat} {p2 : Pos} (hu : X.A.units + 8 < cLine) (h : PE X e tk) : PE X (.Dict [some e] [.Constant (.bool true) j p2] pos) (tDic1 X.K tk) := by
  refine ⟨fun pins s σ H Q I q => ?_⟩
  have nP := I.hok.fresh (Nat.le_refl s.heap.objs.size)
  have I1 := I.laid (a := s.heap.objs.size) (o := DicO s.heap.objs.size []) (h' := s.heap.push { cls := .type "dict", data := .dict #[] }) (t' := s.toks) (fun _ _ q => Heap.get?_push_of_some _ q) (Nat.le_refl _) (dic_empty (dic_fresh I))
  rw [arm_eval_Dict, zip_pairTrees [some e] [.Constant (.bool true) j p2] X.env pos rfl rfl, dictDisplay_pairs (pairTrees [some e] [.Constant (.bool true) j p2] X.env pos) (by simp [pairTrees]) (by simp [pairTrees])]
  refine wpAny_bind (wpAny_standAt (wpAny_bind (wpAny_subDictH (knd := nk X) (Q := fun d s' => wpAny (model X.prog X.w) X.A (pure (Value.ref d)) (EP X pins σ Q) X.xe s') hu (by simp [pairTrees]) ?_)))
  refine pairTrees_cons_walk (thn (h.run pins _ σ _ _ I1 (q _ nP)) fun u s1 ⟨x, H1, I2, rx, F, d, b, k, ex, hp, sub, rv, kd, dp, q2⟩ => ?_)
  subst ex
  obtain rfl : u = Value.ref b := rx
  refine thn (pe_bl.run _ s1 σ H1 (fun y H' => y = .bl true ∧ H' = H1) I2 ⟨rfl, rfl⟩) fun v s2 ⟨y, H2, I3, ry, ey, eH⟩ => ?_
  subst ey eH
  obtain rfl : v = Value.bool true := ry
  refine pairTrees_nil_walk ?_
  have D0 := dic_of (ds := []) I3 sub hp (.nil) ⟨by rw [keysD]; rfl, fun d m => (by cases m), List.nodup_nil, Nat.zero_le _⟩
  have is : NestedIs s2.heap k (.ref b) ∧ k.depth ≤ 8 := ⟨rv_is I3 sub k d _ _ kd rv rfl, dp⟩
  refine ⟨[(k, b, .bool true)], ⟨rfl, rfl, is, trivial⟩, D0.2, fun h' tk hm sb => wpAny_pure ⟨.ref s.heap.objs.size, _, ?_, rfl, q2⟩⟩
  have hm2 : h'.DictOfH (nk X) s.heap.objs.size (trip [(k, b)]) := hm
  have he : ∃ u, h'.get? s.heap.objs.size = some u := by
    obtain ⟨o, _, _, ho, _⟩ := hm
    exact ⟨o, ho⟩
  exact I3.write (e := s.heap.objs.size) (by rw [hp]; trivial) (.inl rfl) (fun c u hc hu => (sb.2 c hc).trans hu) he (dicO_new D0.1 hm2)
/-! k in d, d[k] = True, list(d) -/
def DHas (K : PySem.W.Frag) (H : Hp) (y x : V) (a : Addr) (xs : List (NestedKey × Addr)) (b : Addr) (k : NestedKey) : Prop := ∃ (F : Hp) (ds : List D) (d : D), x = .ref a ∧ y = .ref b ∧ H a = some (DicO a xs) ∧ Same F H ∧ RVs K F (xs.map fun z => V.ref z.2) ds ∧ DicK xs ds ∧ RV K F (.ref b) d ∧ keyD d = some k ∧ k.depth ≤ 8
def tDicIn (K : PySem.W.Frag) (neg : Bool) (ty td : TE) : TE := fun σ H Q => ty σ H fun y H1 => td σ H1 fun x H2 => ∃ a xs b k, DHas K H2 y x a xs b k ∧ Q (.bl (neg ^^ decide (k ∈ xs.map (·.1)))) H2
theorem pc_dicIn {o i : Expr} {td ty : TE} (hu : X.A.units + 9 < cLine) (hi : PE X i ty) (ho : PE X o td) : PC X .In i o (tDicIn X.K false ty td) := by
  refine ⟨fun pins s σ H Q I h => ?_⟩
  refine thn (hi.run pins s σ H _ I h) fun iv s1 ⟨y, H1, I1, ry, q1⟩ => thn (ho.run pins s1 σ H1 _ I1 q1) fun u s2 ⟨x, H2, I2, rx, a, xs, b, k, ⟨F, ds, d, ex, ey, hH, sub, r, dk, rv, kd, dp⟩, q2⟩ => ?_
  subst ex ey
  obtain rfl : u = Value.ref a := rx
  obtain rfl : iv = Value.ref b := ry
  obtain ⟨hs, hm⟩ := dic_of I2 sub hH r dk
  refine wpAny_in_heap (knd := nk X) (k := k) (by show X.A.units + 1 + 8 < cLine; omega) ⟨rv_is I2 sub k d _ _ kd rv rfl, dp⟩ hs hm ?_
  rw [trip_at]
  rw [Bool.false_xor] at q2
  exact ⟨.bl _, H2, I2.tok _, rfl, q2⟩
theorem pc_dicNotIn {o i : Expr} {td ty : TE} (hu : X.A.units + 9 < cLine) (hi : PE X i ty) (ho : PE X o td) : PC X .NotIn i o (tDicIn X.K true ty td) := by
  refine ⟨fun pins s σ H Q I h => ?_⟩
  refine thn (hi.run pins s σ H _ I h) fun iv s1 ⟨y, H1, I1, ry, q1⟩ => thn (ho.run pins s1 σ H1 _ I1 q1) fun u s2 ⟨x, H2, I2, rx, a, xs, b, k, ⟨F, ds, d, ex, ey, hH, sub, r, dk, rv, kd, dp⟩, q2⟩ => ?_
  subst ex ey
  obtain rfl : u = Value.ref a := rx
  obtain rfl : iv = Value.ref b := ry
  obtain ⟨hs, hm⟩ := dic_of I2 sub hH r dk
  show wpAny (model X.prog X.w) X.A (do return Value.bool (!(← contains (.ref a) (.ref b)))) _ _ _
  refine wpAny_bind (wpAny_contains_heap (knd := nk X) (k := k) (by show X.A.units + 1 + 8 < cLine; omega) ⟨rv_is I2 sub k d _ _ kd rv rfl, dp⟩ hs hm ?_)
  rw [trip_at]
  rw [Bool.true_xor] at q2
  exact wpAny_pure ⟨.bl _, H2, I2.tok _, rfl, q2⟩
def sDicPut (K : PySem.W.Frag) (td ty : TE) : TS := fun D σ H => td σ H fun x H2 => ty σ H2 fun y H3 => ∃ a xs b k, DHas K H3 y x a xs b k ∧ D.nx σ (upd H3 a (DicO a (if k ∈ xs.map (·.1) then xs else xs ++ [(k, b)])))
theorem ps_dicPut {o i : Expr} {td ty : TE} {j : Nat} {p2 pos' : Pos} (hu : X.A.units + 9 < cLine) (ho : PE X o td) (hi : PE X i ty) (hs : swapsWith (.Constant (.bool true) j p2) (some (.Subscript o i pos')) pos.line X.env = pure false) :
    PS X (.Assign [.Subscript o i pos'] (.Constant (.bool true) j p2) pos) (sDicPut X.K td ty) := by
  refine ⟨fun pins s σ H D I h => ?_⟩
  refine wpAny_Assign_Subscript (thn (pe_bl.run pins s σ H (fun y H' => y = .bl true ∧ H' = H) I ⟨rfl, rfl⟩) fun r s1 ⟨v, H1, I1, rv1, ev, eH⟩ => ?_) hs
  subst ev eH
  obtain rfl : r = Value.bool true := rv1
  refine thn (ho.run pins s1 σ H1 _ I1 h) fun u s2 ⟨x, H2, I2, rx, q2⟩ => thn (hi.run pins s2 σ H2 _ I2 q2) fun iv s3 ⟨y, H3, I3, ry, a, xs, b, k, ⟨F, ds, d, ex, ey, hH, sub, r, dk, rv, kd, dp⟩, q3⟩ => ?_
  subst ex ey
  obtain rfl : u = Value.ref a := rx
  obtain rfl : iv = Value.ref b := ry
  obtain ⟨hs, hm⟩ := dic_of I3 sub hH r dk
  have sz : (trip xs).length ≤ sizeLine := by
    have := r.length
    rw [List.length_map] at this ⊢
    rw [this]
    exact dk.sz
  refine wpAny_setItem_heap (knd := nk X) (k := k) (by show X.A.units + 1 + 8 < cLine; omega) ⟨rv_is I3 sub k d _ _ kd rv rfl, dp⟩ hm (fun h' hm' sb => ?_) sz
  rw [trip_put] at hm'
  have he : ∃ u, h'.get? a = some u := by
    obtain ⟨o, _, _, ho, _⟩ := hm'
    exact ⟨o, ho⟩
  exact ⟨σ, _, I3.write (t' := s3.toks + (nk X).draws k) (e := a) (by rw [hH]; trivial) (.inl rfl) (fun c u hc hu => (sb.2 c hc).trans hu) he (dicO_new hs hm'), q3⟩
def rKeys (K : PySem.W.Frag) : List V → Hp → VK → Prop := fun vs H Q => ∃ (a : Addr) (xs : List (NestedKey × Addr)) (F : Hp) (ds : List D), vs = [V.ref a] ∧ H a = some (DicO a xs) ∧ Same F H ∧ RVs K F (xs.map fun z => V.ref z.2) ds ∧ DicK xs ds ∧ ∀ p, H p = none → Q (.ref p) (upd H p (.lst (xs.map fun z => V.ref z.2)))
theorem refs_vals : ∀ xs : List (NestedKey × Addr), Vals (xs.map fun z => V.ref z.2) (xs.map fun z => Value.ref z.2)
  | [] => .nil
  | x :: xs => .cons rfl (refs_vals xs)
theorem cr_keys (hc : X.calm = true) : CallR X (.type "list") (rKeys X.K) := by
  intro pins s σ H vs us Q I r h
  obtain ⟨a, xs, F, ds, rfl, hH, sub, rv, dk, q⟩ := h
  rw [Vals.ref1 r]
  obtain ⟨hs, o, es, ep, ho, hcl, hd, he, _⟩ := dic_of I sub hH rv dk
  have hz : es.size = xs.length := by
    have := congrArg List.length he
    rw [Array.length_toList, List.length_map, List.length_map] at this
    exact this
  have hl := rv.length
  rw [List.length_map] at hl
  have hsz := dk.sz
  have nP : H s.heap.objs.size = none := I.hok.fresh (Nat.le_refl _)
  refine PySem.W.kdl_call (KdlSrc.rawDict (es := es) (ep := ep) hs) (I.ok.hd hc) ⟨o, ho, hcl, hd⟩ (by omega) fun h' tk acc c' k1 hL it => ?_
  have ea : acc.toList = xs.map fun z => Value.ref z.2 := by
    refine List.ext_getElem? fun j => ?_
    by_cases hj : j < xs.length
    · have ha : j < acc.size := by rw [it.1]; omega
      have e1 : acc[j]? = some acc[j] := Array.getElem?_eq_getElem ha
      obtain ⟨hi, e2⟩ := it.2 j _ e1
      have e3 : es.toList[j]? = some es[j] := by rw [Array.getElem?_toList]; exact Array.getElem?_eq_getElem hi
      rw [he, List.getElem?_map, List.getElem?_map, List.getElem?_eq_getElem hj] at e3
      have e4 := Option.some.inj e3
      rw [Array.getElem?_toList, e1, e2, ← e4, List.getElem?_map, List.getElem?_eq_getElem hj]
      rfl
    · rw [List.getElem?_eq_none (by rw [Array.length_toList, it.1]; omega), List.getElem?_eq_none (by rw [List.length_map]; omega)]
  refine ⟨.ref s.heap.objs.size, _, I.laid (o := .lst (xs.map fun z => V.ref z.2)) (t' := tk) k1 (Nat.le_refl _) ⟨by rw [List.length_map]; omega, acc.toList, c', by rw [ea]; exact refs_vals xs, hL⟩, rfl, q _ nP⟩
end
end Dc

/-! Dc: dicts with keys of tuples: the small language's forms. -/
namespace Dc
open PySem PySem.Spec PyProof.Rows L2 RZ
section
variable {K : PySem.W.Frag} {F F' H H' : Hp} {env : Env} {σ : St} {fp : List Addr}
theorem slot_od {i : Nat} {ds : List D} (p : Pre K F H fp env σ) (hl : look env i = .od ds) : ∃ a xs, σ[i]? = some (some (.ref a)) ∧ H a = some (DicO a xs) ∧ RVs K F (xs.map fun x => V.ref x.2) ds ∧ DicK xs ds := by
  have hi : i < env.length := look_lt (by rw [hl]; exact fun z => by cases z)
  obtain ⟨o, fl, fi, fr, e1, e2, e3, e4⟩ := p.env.at i hi
  rw [hl] at e2
  cases e2 with
  | od h1 h2 h3 h4 => exact ⟨_, _, e1, h1, h3, h4⟩
theorem Pre.writeOd {i : Nat} {a : Addr} {ds ds' : List D} {xs' : List (NestedKey × Addr)} (p : Pre K F H fp env σ) (hl : look env i = .od ds) (hs : σ[i]? = some (some (.ref a))) (r : RVs K F (xs'.map fun x => V.ref x.2) ds') (dk : DicK xs' ds') :
    Pre K F (upd H a (DicO a xs')) fp (env.set i (.od ds')) σ ∧ Stp F H fp F (upd H a (DicO a xs')) fp := by
  have hi : i < env.length := look_lt (by rw [hl]; exact fun z => by cases z)
  obtain ⟨o, fl, fi, fr, e1, e2, e3, e4⟩ := p.env.at i hi
  rw [hl] at e2
  rw [hs] at e1
  obtain rfl := Option.some.inj e1
  cases e2 with
  | @od _ ws _ h1 h2 h3 h4 =>
    have nd := p.nd
    rw [e3] at nd
    have z := List.nodup_append.mp nd
    have z2 := List.nodup_append.mp z.2.1
    have na : ∀ b, b ∈ fl ++ fr → b ≠ a := fun b m e => by
      subst e
      rcases List.mem_append.mp m with m | m
      · exact z.2.2 b m b (by simp) rfl
      · exact z2.2.2 b (by simp) b m rfl
    have sub : ∀ b, b ∈ fl ++ fr → b ∈ fp := fun b m => by
      rw [e3]
      rcases List.mem_append.mp m with m | m
      · exact List.mem_append_left _ m
      · exact List.mem_append_right _ (List.mem_append_right _ m)
    have ha : a ∈ fp := by
      rw [e3]
      simp
    have en := e4 F (upd H a (DicO a xs')) (.od ds') (some (.ref a)) [a] (Same.refl _) (fun b u m e => by (rw [upd_ne (na b m)]; exact e)) (fun b m => (p.env.there b (sub b m)).1) (.od upd_same h2 r dk)
    have hset : σ.set i (some (.ref a)) = σ := by
      refine List.ext_getElem? fun j => ?_
      by_cases hj : i = j
      · subst hj
        rw [List.getElem?_set_self (by rw [← p.env.len]; exact hi), hs]
      · rw [List.getElem?_set_ne hj]
    rw [hset, ← e3] at en
    refine ⟨⟨fun b o e => ?_, en, p.nd⟩, ⟨Same.refl _, fun b o e n => by (rw [n] at e; cases e), fun b o e n => ?_, fun b m => .inl m⟩⟩
    · rw [upd_ne (show b ≠ a from fun z => by (rw [z, h2] at e; cases e))]
      exact p.sub b o e
    · rw [upd_ne (show b ≠ a from fun z => n (by rw [z]; exact ha))]
      exact e
theorem rv_ref {v : V} {ds : List D} (r : RV K F v (.tuple ds)) : ∃ b, v = .ref b := by
  cases r with
  | tup _ _ _ => exact ⟨_, rfl⟩
end
section
variable {X : Cx} {exc : Nat → Addr} {W : WX} {io : List Nat} {pos : Pos} {e : Expr}
theorem dicK_nil : DicK [] [] := ⟨by rw [keysD]; rfl, fun d m => (by cases m), List.nodup_nil, Nat.zero_le _⟩
theorem dicK_one {k : NestedKey} {b : Addr} {d : D} (h : keyD d = some k) (ok : kOk d = true) : DicK [(k, b)] [d] := by
  refine ⟨by rw [keysD, h, keysD]; rfl, fun x m => by rw [List.mem_singleton.mp m]; exact ok, by simp, ?_⟩
  rw [sizeLine_eq]
  show 1 ≤ _
  decide
theorem snd_dic0 : PE X (.Dict [] [] pos) (eE X exc W (dicE fun env => .ok [] env)) := by
  refine PE.imp pe_dic0 fun σ H Q q => ?_
  obtain ⟨F, env, fp, p, q⟩ := q
  intro a ha
  have R : Res X.K F H (.ref a) (.od []) F (upd H a (DicO a [])) := ⟨Same.refl _, fun b o e n => (by rw [n] at e; cases e), p.sub.trans (same_upd ha), same_upd ha, [a], .od upd_same (p.sub.free ha) .nil dicK_nil, by simp, fun b m => by
    obtain rfl : b = a := by simpa using m
    exact ha⟩
  obtain ⟨fp', s', p'⟩ := R.stp p
  exact q (.ref a) F _ fp' s' p'
theorem snd_dic1 {f : Env → R D} {j : Nat} {p2 : Pos} (hu : X.A.units + 8 < cLine) (h : PE X e (eD X exc W f)) : PE X (.Dict [some e] [.Constant (.bool true) j p2] pos) (eE X exc W (dicE (two f fun env => .ok [] env))) := by
  refine PE.imp (pe_dic1 hu h) fun σ H Q q => ?_
  obtain ⟨F, env, fp, p, q⟩ := q
  intro a ha
  obtain ⟨p0, s0⟩ := p.junk (o := DicO a []) ha
  have nfp : a ∉ fp := fun m => by
    obtain ⟨_, u, e⟩ := p.env.there a m
    rw [ha] at e
    cases e
  refine ⟨F, env, fp, p0, ?_⟩
  unfold dicE two at q
  cases ef : f env with
  | st => rw [ef] at q; exact q
  | er c env' => rw [ef] at q; exact fun F' H' fp' s' p' => q F' H' fp' (s0.trans s') p'
  | ok d env1 =>
    rw [ef] at q
    dsimp only [R.bind] at q
    intro w F1 H1 fp1 s1 ⟨p1, r1⟩
    by_cases ok : kOk d = true
    · rw [if_pos ok] at q
      obtain ⟨k, kd, dp, ds, rfl⟩ := kOk_key ok
      obtain ⟨b, rfl⟩ := rv_ref r1
      have at1 : H1 a = some (DicO a []) := s1.frame a _ upd_same nfp
      refine ⟨F1, _, b, k, rfl, at1, p1.sub, r1, kd, dp, ?_⟩
      have s01 := s0.trans s1
      have F1a : F1 a = none := by
        cases e1 : F1 a with
        | none => rfl
        | some o =>
          have : F a = none := p.sub.free ha
          rcases s1.ext a o e1 this with z | z
          · rw [upd_same] at z
            cases z
          · exact absurd z nfp
      have nfp1 : a ∉ fp1 := fun m => by
        rcases s1.fpx a m with z | z
        · exact nfp z
        · rw [upd_same] at z
          cases z
      refine q (.ref a) F1 _ ([a] ++ fp1) ⟨s01.same, s01.ext, fun c o e n => ?_, fun c m => ?_⟩ ⟨fun c o e => ?_, EnvOk.cons (.od upd_same F1a (.cons r1 .nil) (dicK_one kd ok)) (p1.env.mono (Same.refl _) (fun c u m e => ?_) fun c m => (p1.env.there c m).1), ?_⟩
      · rw [upd_ne (show c ≠ a from fun z => by (rw [z, ha] at e; cases e))]
        exact s01.frame c o e n
      · rcases List.mem_append.mp m with m | m
        · rw [List.mem_singleton.mp m]
          exact .inr ha
        · exact s01.fpx c m
      · rw [upd_ne (show c ≠ a from fun z => by (rw [z, F1a] at e; cases e))]
        exact p1.sub c o e
      · rw [upd_ne (show c ≠ a from fun z => nfp1 (z ▸ m))]
        exact e
      · refine List.nodup_append.mpr ⟨by simp, p1.nd, fun c m c2 m2 z => ?_⟩
        rw [List.mem_singleton.mp m] at z
        exact nfp1 (z ▸ m2)
    · rw [if_neg ok] at q
      exact False.elim q
theorem din_core {f : Env → R D} {neg : Bool} {i : Nat} {σ : St} {H : Hp} {Q : VK} (q : eE X exc W (dinE neg i f) σ H Q) : tDicIn X.K neg (eD X exc W f) (tVar i) σ H Q := by
  obtain ⟨F, env, fp, p, q⟩ := q
  refine dY_bind (rel := relD X.K) (fin := finE X.K) (f := f) (g := dinK neg i) ⟨p, q⟩ fun w H1 F1 env1 fp1 d s1 r1 z1 => ?_
  obtain ⟨p1, z1⟩ := z1
  unfold dinK at z1
  cases el : look env1 i with
  | od ds =>
    rw [el] at z1
    dsimp only at z1
    by_cases ok : kOk d = true
    · rw [if_pos ok] at z1
      obtain ⟨k, kd, dp, es, rfl⟩ := kOk_key ok
      obtain ⟨b, rfl⟩ := rv_ref r1
      obtain ⟨a, xs, hs, hH, rr, dk⟩ := slot_od p1 el
      refine ⟨.ref a, hs, a, xs, b, k, ⟨F1, ds, _, rfl, rfl, hH, p1.sub, rr, dk, r1, kd, dp⟩, ?_⟩
      rw [hasK_mem dk.key kd] at z1
      exact z1 _ F1 H1 fp1 .refl ⟨p1.sub, EnvOk.cons (f1 := []) (.fr (.bl _)) p1.env, p1.nd⟩
    · rw [if_neg ok] at z1
      exact False.elim z1
  | _ => rw [el] at z1; exact False.elim z1
theorem snd_din {f : Env → R D} {i : Nat} {o : Expr} (hu : X.A.units + 9 < cLine) (h : PE X e (eD X exc W f)) (ho : PE X o (tVar i)) (hb : behindInMarks .In o = false) : PE X (.Compare e [.In] [o] pos) (eE X exc W (dinE false i f)) :=
  PE.imp (pe_cmp (pc_dicIn hu h ho) hb) fun σ H Q q => din_core q
theorem snd_dnotin {f : Env → R D} {i : Nat} {o : Expr} (hu : X.A.units + 9 < cLine) (h : PE X e (eD X exc W f)) (ho : PE X o (tVar i)) (hb : behindInMarks .NotIn o = false) : PE X (.Compare e [.NotIn] [o] pos) (eE X exc W (dinE true i f)) :=
  PE.imp (pe_cmp (pc_dicNotIn hu h ho) hb) fun σ H Q q => din_core q
theorem snd_dinT {f : Env → R D} {i : Nat} {o : Expr} (hu : X.A.units + 9 < cLine) (h : PE X e (eD X exc W f)) (ho : PE X o (tVar i)) (hb : behindInMarks .In o = false) : PT X (.Compare e [.In] [o] pos) (eB X exc W (tst (dinE false i f))) :=
  PT.imp (pt_cmp (pc_dicIn hu h ho) hb) fun σ H Q q => din_core (tst_split q)
theorem snd_dnotinT {f : Env → R D} {i : Nat} {o : Expr} (hu : X.A.units + 9 < cLine) (h : PE X e (eD X exc W f)) (ho : PE X o (tVar i)) (hb : behindInMarks .NotIn o = false) : PT X (.Compare e [.NotIn] [o] pos) (eB X exc W (tst (dinE true i f))) :=
  PT.imp (pt_cmp (pc_dicNotIn hu h ho) hb) fun σ H Q q => din_core (tst_split q)
theorem keys_core {i : Nat} {σ : St} {H : Hp} {Q : VK} (q : eE X exc W (keysE i) σ H Q) : tVar i σ H fun x H1 => rKeys X.K [x] H1 Q := by
  obtain ⟨F, env, fp, p, q⟩ := q
  unfold keysE at q
  cases el : look env i with
  | od ds =>
    rw [el] at q
    dsimp only at q
    obtain ⟨a, xs, hs, hH, rr, dk⟩ := slot_od p el
    refine ⟨.ref a, hs, a, xs, F, ds, rfl, hH, p.sub, rr, dk, fun b hb => ?_⟩
    have R : Res X.K F H (.ref b) (.ol ds) F (upd H b (.lst (xs.map fun z => V.ref z.2))) := ⟨Same.refl _, fun c o e n => (by rw [n] at e; cases e), p.sub.trans (same_upd hb), same_upd hb, [b], .ol upd_same (p.sub.free hb) rr dk.sz, by simp, fun c m => by
      obtain rfl : c = b := by simpa using m
      exact hb⟩
    obtain ⟨fp', s', p'⟩ := R.stp p
    exact q (.ref b) F _ fp' s' p'
  | _ => rw [el] at q; exact False.elim q
theorem snd_keys {i : Nat} {o : Expr} {q2 : Pos} (hc : X.calm = true) (hg : Gl X "list") (hm : X.mg "list" = none) (ho : PE X o (tVar i)) (hn : noStar o = true) :
    PE X (.Call (.Name "list" q2) [o] [] pos) (eE X exc W (keysE i)) := by
  refine PE.imp (pe_callTy (cr_keys hc) hg hm (by decide +kernel) (pa_cons ho pa_nil (star_cons hn)) (by decide) (by decide) (star_cons hn) rfl) fun σ H Q q => ?_
  exact keys_core q
theorem dput_core {f : Env → R D} {i : Nat} {D : Ends} {σ : St} {H : Hp} (q : sS X exc W io (fun env => (dputE i f env).go fun _ env1 => .nx env1) D σ H) : sDicPut X.K (tVar i) (eD X exc W f) D σ H := by
  obtain ⟨F, env, fp, p, q⟩ := q
  dsimp only at q
  unfold dputE at q
  cases el : look env i with
  | od ds0 =>
    rw [el] at q
    dsimp only at q
    obtain ⟨a, xs0, hs, hH0, rr0, dk0⟩ := slot_od p el
    refine ⟨.ref a, hs, F, env, fp, p, ?_⟩
    cases ef : f env with
    | st => rw [ef] at q; exact q
    | er c env' => rw [ef] at q; exact fun F' H' fp' s' p' => q σ F' H' fp' s' p' Io.refl
    | ok d env1 =>
      rw [ef] at q
      dsimp only [R.bind] at q
      unfold dputK at q
      intro w F1 H1 fp1 s1 ⟨p1, r1⟩
      cases el1 : look env1 i with
      | od ds =>
        rw [el1] at q
        dsimp only at q
        obtain ⟨a1, xs, hs1, hH, rr, dk⟩ := slot_od p1 el1
        rw [hs] at hs1
        cases hs1
        by_cases ok : (kOk d && decide (ds.length < sizeLine)) = true
        · rw [if_pos ok] at q
          rw [Bool.and_eq_true] at ok
          have sz := of_decide_eq_true ok.2
          obtain ⟨k, kd, dp, es, rfl⟩ := kOk_key ok.1
          obtain ⟨b, rfl⟩ := rv_ref r1
          refine ⟨a, xs, b, k, ⟨F1, ds, _, rfl, rfl, hH, p1.sub, rr, dk, r1, kd, dp⟩, ?_⟩
          have both : RVs X.K F1 ((if k ∈ xs.map (·.1) then xs else xs ++ [(k, b)]).map fun z => V.ref z.2) (putK ds (.tuple es)) ∧ DicK (if k ∈ xs.map (·.1) then xs else xs ++ [(k, b)]) (putK ds (.tuple es)) := by
            unfold putK
            rw [hasK_mem dk.key kd]
            by_cases m : k ∈ xs.map (·.1)
            · rw [decide_eq_true m, if_pos m]
              exact ⟨rr, dk⟩
            · rw [decide_eq_false m, if_neg m]
              refine ⟨by rw [List.map_append]; exact rr.append (.cons r1 .nil), by rw [List.map_append]; exact keys_app dk.key kd, fun x mx => ?_, ?_, by rw [List.length_append]; exact sz⟩
              · rcases List.mem_append.mp mx with mx | mx
                · exact dk.ok x mx
                · rw [List.mem_singleton.mp mx]
                  exact ok.1
              · rw [List.map_append]
                refine List.nodup_append.mpr ⟨dk.nd, by simp, fun x mx y my e => ?_⟩
                have : y = k := by simpa using my
                rw [e, this] at mx
                exact m mx
          obtain ⟨p2, s2⟩ := p1.writeOd el1 hs both.1 both.2
          exact q σ F1 _ fp1 (s1.trans s2) p2 Io.refl
        · rw [if_neg ok] at q
          exact False.elim q
      | _ => rw [el1] at q; exact False.elim q
  | _ => rw [el] at q; exact False.elim q
theorem snd_dput {f : Env → R D} {i : Nat} {o : Expr} {j : Nat} {p2 pos' : Pos} (hu : X.A.units + 9 < cLine) (ho : PE X o (tVar i)) (h : PE X e (eD X exc W f)) (hs : swapsWith (.Constant (.bool true) j p2) (some (.Subscript o e pos')) pos.line X.env = pure false) :
    PS X (.Assign [.Subscript o e pos'] (.Constant (.bool true) j p2) pos) (sS X exc W io fun env => (dputE i f env).go fun _ env1 => .nx env1) :=
  PS.imp (ps_dicPut hu ho h hs) fun D σ H q => dput_core q
end
/-! the rules -/
section
variable {X : Cx} {exc : Nat → Addr} {W : WX} {U : Nat → Option Def} {k : Nat} {io : List Nat} {pos : Pos} {e : Expr} {t : E}
theorem r_dic0 : PV X exc W U k (.Dict [] [] pos) (.dic .nil) := by
  have z : ev (modesOf U) (run U k) (.dic .nil) = dicE fun env => .ok [] env := by funext env; rfl
  unfold PV
  rw [z]
  exact snd_dic0
theorem r_dic1 {j : Nat} {p2 : Pos} (B : Bd X W k) (ha : PV X exc W U k e t) : PV X exc W U k (.Dict [some e] [.Constant (.bool true) j p2] pos) (.dic (.cons t .nil)) := by
  have z : ev (modesOf U) (run U k) (.dic (.cons t .nil)) = dicE (two (fz (ev (modesOf U) (run U k) t)) fun env => .ok [] env) := by funext env; rfl
  unfold PV
  rw [z]
  exact snd_dic1 (by have := B.hr.un; omega) (snd_fz ha)
theorem r_din {i : Nat} {x : Str} {p : Pos} (B : Bd X W k) (ha : PV X exc W U k e t) (hN : X.N[i]? = some x) (hv : Vis X.env.scope x) (hd : (x == ("__debug__" : Str)) = false) (hcd : (x == ("__classdict__" : Str)) = false) : PV X exc W U k (.Compare e [.In] [.Name x p] pos) (.din false t i) := by
  have z : ev (modesOf U) (run U k) (.din false t i) = dinE false i (fz (ev (modesOf U) (run U k) t)) := by funext env; rfl
  unfold PV
  rw [z]
  exact snd_din (by have := B.hr.un; omega) (snd_fz ha) (pe_var hN hv hd hcd) rfl
theorem r_dnotin {i : Nat} {x : Str} {p : Pos} (B : Bd X W k) (ha : PV X exc W U k e t) (hN : X.N[i]? = some x) (hv : Vis X.env.scope x) (hd : (x == ("__debug__" : Str)) = false) (hcd : (x == ("__classdict__" : Str)) = false) : PV X exc W U k (.Compare e [.NotIn] [.Name x p] pos) (.din true t i) := by
  have z : ev (modesOf U) (run U k) (.din true t i) = dinE true i (fz (ev (modesOf U) (run U k) t)) := by funext env; rfl
  unfold PV
  rw [z]
  exact snd_dnotin (by have := B.hr.un; omega) (snd_fz ha) (pe_var hN hv hd hcd) rfl
theorem t_din {i : Nat} {x : Str} {p : Pos} (B : Bd X W k) (ha : PV X exc W U k e t) (hN : X.N[i]? = some x) (hv : Vis X.env.scope x) (hd : (x == ("__debug__" : Str)) = false) (hcd : (x == ("__classdict__" : Str)) = false) : PVt X exc W U k (.Compare e [.In] [.Name x p] pos) (.din false t i) := by
  have z : ev (modesOf U) (run U k) (.din false t i) = dinE false i (fz (ev (modesOf U) (run U k) t)) := by funext env; rfl
  unfold PVt
  rw [z]
  exact snd_dinT (by have := B.hr.un; omega) (snd_fz ha) (pe_var hN hv hd hcd) rfl
theorem t_dnotin {i : Nat} {x : Str} {p : Pos} (B : Bd X W k) (ha : PV X exc W U k e t) (hN : X.N[i]? = some x) (hv : Vis X.env.scope x) (hd : (x == ("__debug__" : Str)) = false) (hcd : (x == ("__classdict__" : Str)) = false) : PVt X exc W U k (.Compare e [.NotIn] [.Name x p] pos) (.din true t i) := by
  have z : ev (modesOf U) (run U k) (.din true t i) = dinE true i (fz (ev (modesOf U) (run U k) t)) := by funext env; rfl
  unfold PVt
  rw [z]
  exact snd_dnotinT (by have := B.hr.un; omega) (snd_fz ha) (pe_var hN hv hd hcd) rfl
theorem r_keys {i : Nat} {x : Str} {p q : Pos} (B : Bd X W k) (hg : Gl X "list") (hN : X.N[i]? = some x) (hv : Vis X.env.scope x) (hd : (x == ("__debug__" : Str)) = false) (hcd : (x == ("__classdict__" : Str)) = false) : PV X exc W U k (.Call (.Name "list" q) [.Name x p] [] pos) (.keys i) := by
  have z : ev (modesOf U) (run U k) (.keys i) = keysE i := by funext env; rfl
  unfold PV
  rw [z]
  exact snd_keys B.calm hg B.bl.list (pe_var hN hv hd hcd) rfl
theorem s_dput {i : Nat} {x : Str} {p p2 pos' : Pos} {j : Nat} (B : Bd X W k) (hN : X.N[i]? = some x) (hv : Vis X.env.scope x) (hd : (x == ("__debug__" : Str)) = false) (hcd : (x == ("__classdict__" : Str)) = false) (ha : PV X exc W U k e t)
    (hs : swapsWith (.Constant (.bool true) j p2) (some (.Subscript (.Name x p) e pos')) pos.line X.env = pure false) : SV X exc W U k io (.Assign [.Subscript (.Name x p) e pos'] (.Constant (.bool true) j p2) pos) (.dput i t) := by
  have z : exec (modesOf U) (run U k) (.dput i t) = fun env => (dputE i (fz (ev (modesOf U) (run U k) t)) env).go fun _ env1 => .nx env1 := by funext env; rfl
  unfold SV
  rw [z]
  exact snd_dput (by have := B.hr.un; omega) (pe_var hN hv hd hcd) (snd_fz ha) hs
end
end Dc

/-! Dc: is None, pop, the module's tuples of texts, index. -/
namespace Dc
open PySem PySem.Spec PyProof.Rows L2 RZ
section
variable {X : Cx} {exc : Nat → Addr} {W : WX} {U : Nat → Option Def} {k : Nat} {io : List Nat} {pos : Pos} {e a b c : Expr} {es : List Expr} {t ta tb tc : E} {ts : Es}
/-! is None -/
theorem isN_rd {K : PySem.W.Frag} {x : V} {H : Hp} {Q : VK} (h : rPn K .isN [x] H Q) : Q (.bl (decide (x = .non))) H := by
  obtain ⟨F, ds, sl, sub, bv, e, q⟩ := h
  obtain ⟨d, rfl, h1⟩ := bv.one
  replace e : oneS .isN d = some sl := e
  cases h1 with
  | fr r =>
    cases r with
    | non =>
      cases e
      exact q _ F H (.flat sub (.bl _))
    | bl _ => cases e; exact q _ F H (.flat sub (.bl _))
    | int _ => cases e; exact q _ F H (.flat sub (.bl _))
    | str _ => cases e; exact q _ F H (.flat sub (.bl _))
    | lst _ _ _ => cases e; exact q _ F H (.flat sub (.bl _))
    | tup _ _ _ => cases e; exact q _ F H (.flat sub (.bl _))
  | ol _ _ _ => cases e; exact q _ F H (.flat sub (.bl _))
theorem notN_rd {K : PySem.W.Frag} {x : V} {H : Hp} {Q : VK} (h : rPn K .notN [x] H Q) : Q (.bl (!decide (x = .non))) H := by
  obtain ⟨F, ds, sl, sub, bv, e, q⟩ := h
  obtain ⟨d, rfl, h1⟩ := bv.one
  replace e : oneS .notN d = some sl := e
  cases h1 with
  | fr r =>
    cases r with
    | non => cases e; exact q _ F H (.flat sub (.bl _))
    | bl _ => cases e; exact q _ F H (.flat sub (.bl _))
    | int _ => cases e; exact q _ F H (.flat sub (.bl _))
    | str _ => cases e; exact q _ F H (.flat sub (.bl _))
    | lst _ _ _ => cases e; exact q _ F H (.flat sub (.bl _))
    | tup _ _ _ => cases e; exact q _ F H (.flat sub (.bl _))
  | ol _ _ _ => cases e; exact q _ F H (.flat sub (.bl _))
theorem one_rd {p : Prim} {g : Env → R Opd} {K : PySem.W.Frag} {σ : St} {H : Hp} {Q : VK} {T : V → Hp → Prop} (q : dE K exc W (primE p (two g nilO)) σ H Q) (h : ∀ x H1, rPn K p [x] H1 Q → T x H1) : dG K exc W (relO K) g σ H T :=
  dX_end (two_split mono_O (dX_primE q)) fun x F1 H1 fp1 o1 env1 r k => h x H1 (nil_split (k x r))
theorem r_isN {j : Nat} {p : Pos} (ha : PVo X exc W U k a ta) : PV X exc W U k (.Compare a [.Is] [.Constant .none j p] pos) (.prim .isN (.cons ta .nil)) := by
  unfold PV
  rw [ev_prim, two1]
  exact PE.imp (pe_cmp (pc_isN ha) rfl) fun σ H Q q => one_rd q fun x H1 h => isN_rd h
theorem r_notN {j : Nat} {p : Pos} (ha : PVo X exc W U k a ta) : PV X exc W U k (.Compare a [.IsNot] [.Constant .none j p] pos) (.prim .notN (.cons ta .nil)) := by
  unfold PV
  rw [ev_prim, two1]
  exact PE.imp (pe_cmp (pc_notN ha) rfl) fun σ H Q q => one_rd q fun x H1 h => notN_rd h
theorem t_isN {j : Nat} {p : Pos} (ha : PVo X exc W U k a ta) : PVt X exc W U k (.Compare a [.Is] [.Constant .none j p] pos) (.prim .isN (.cons ta .nil)) := by
  unfold PVt
  rw [ev_prim, two1]
  exact PT.imp (pt_cmp (pc_isN ha) rfl) fun σ H Q q => one_rd (tst_split q) fun x H1 h => isN_rd h
theorem t_notN {j : Nat} {p : Pos} (ha : PVo X exc W U k a ta) : PVt X exc W U k (.Compare a [.IsNot] [.Constant .none j p] pos) (.prim .notN (.cons ta .nil)) := by
  unfold PVt
  rw [ev_prim, two1]
  exact PT.imp (pt_cmp (pc_notN ha) rfl) fun σ H Q q => one_rd (tst_split q) fun x H1 h => notN_rd h
/-! xs[::-1] -/
theorem RVs.reverse {K : PySem.W.Frag} {F : Hp} : ∀ {vs : List V} {ds : List D}, RVs K F vs ds → RVs K F vs.reverse ds.reverse
  | _, _, .nil => .nil
  | _, _, .cons h t => by
    rw [List.reverse_cons, List.reverse_cons]
    exact (RVs.reverse t).append (.cons h .nil)
theorem rev_rd {K : PySem.W.Frag} {x : V} {H : Hp} {Q : VK} (h : rPn K .rev [x] H Q) : ∃ a xs, x = .ref a ∧ SqL K H a xs ∧ ∀ p, H p = none → Q (.ref p) (upd H p (.lst xs.reverse)) := by
  obtain ⟨F, ds, sl, sub, bv, e, q⟩ := h
  obtain ⟨d, rfl, h1⟩ := bv.one
  cases d with
  | list xs =>
    cases e
    obtain ⟨a, ws, rfl, r1, t1⟩ := h1.list sub
    exact ⟨a, ws, rfl, .inl r1, fun p hp => q _ _ _ (.lst sub (RVs.reverse t1) hp (by rw [List.length_reverse]; exact h1.len))⟩
  | _ => cases e
theorem r_rev {j : Nat} {p1 p2 p3 : Pos} (ha : PVo X exc W U k a ta) : PV X exc W U k (.Subscript a (.Slice none none (some (.UnaryOp .USub (.Constant (.int 1) j p1) p2)) p3) pos) (.prim .rev (.cons ta .nil)) := by
  unfold PV
  rw [ev_prim, two1]
  exact PE.imp (pe_revL ha) fun σ H Q q => one_rd q fun x H1 h => rev_rd h
/-! tuple(range(n)) -/
theorem tupRg_rd {K : PySem.W.Frag} {x : V} {H : Hp} {Q : VK} (h : rPn K .tupRg [x] H Q) : ∃ n, x = .int n ∧ RgOk 0 n ∧ ∀ p, H p = none → Q (.ref p) (upd H p (.tup (rgV 0 n))) := by
  obtain ⟨F, ds, sl, sub, bv, e, q⟩ := h
  obtain ⟨d, rfl, h1⟩ := bv.one
  cases d with
  | int n =>
    replace e : Dc.guard (decide (0 ≤ n) && decide (n ≤ 16777216)) (some (.fr (.tuple ((List.range n.toNat).map fun (k : Nat) => .int k)))) = some sl := e
    cases eg : (decide (0 ≤ n) && decide (n ≤ 16777216)) with
    | false => rw [eg] at e; cases e
    | true =>
      rw [eg] at e
      cases e
      rw [Bool.and_eq_true] at eg
      have g1 : 0 ≤ n := of_decide_eq_true eg.1
      have g2 : n ≤ 16777216 := of_decide_eq_true eg.2
      have z := h1.int
      subst z
      refine ⟨n, rfl, RgOk.of_le (by omega) g2 (by omega) g1, fun p hp => ?_⟩
      rw [rngS_map n g1]
      exact q _ _ _ (.tup sub (rvs_range (List.range n.toNat)) hp (by rw [List.length_map, List.length_range, sizeLine_eq]; omega))
  | _ => cases e
theorem r_tupRg {q1 q2 p1 : Pos} (B : Bd X W k) (hg : Gl X "tuple") (hg2 : Gl X "range") (ha : PVo X exc W U k a ta) (hs : noStar a = true) : PV X exc W U k (.Call (.Name "tuple" q1) [.Call (.Name "range" q2) [a] [] p1] [] pos) (.prim .tupRg (.cons ta .nil)) := by
  unfold PV
  rw [ev_prim, two1]
  exact PE.imp (pe_tupRg B.calm hg B.bl.tuple (prg_1 hg2 B.bl.range ha (star_cons hs))) fun σ H Q q => one_rd q fun x H1 h => tupRg_rd h
/-! a test of two comparisons -/
theorem t_chain {op op' : CmpOp} {p q : Prim} (ho : CmpO X op p) (ho' : CmpO X op' q) (ha : PV X exc W U k a ta) (hb : PV X exc W U k b tb) (hc : PV X exc W U k c tc) (hm : lastMarks [op, op'] [b, c] = false) : PVt X exc W U k (.Compare a [op, op'] [b, c] pos) (.chain p q ta tb tc) := by
  unfold PVt
  rw [Dc.ev_chain]
  exact PT.imp (pt_chain ho ho' (snd_fz ha) (snd_fz hb) (snd_fz hc) hm) fun σ H Q q => chain_core (tst_split q)
/-! pop -/
theorem snd_pop {md : Nat → Modes} {call : Nat → List Sl → R Sl} {i : Nat} {o : Expr} {apos cpos : Pos} (ho : PE X o (tVar i)) (hb : attributeBase o "pop" X.env (eval o X.env) = eval o X.env) (hline : (apos.endLine == cpos.line) = true) :
    PE X (.Call (.Attribute o "pop" apos) [] [] cpos) (eE X exc W (ev md call (.pop i))) := by
  refine PE.imp (pe_bm0 PySem.F.plainAttrs_list PySem.F.slot_list_pop PySem.F.type_list_pop mt_pop ho hb hline) fun σ H Q q => ?_
  obtain ⟨F, env, fp, p, q⟩ := q
  unfold ev at q
  cases el : look env i with
  | un => rw [el] at q; exact False.elim q
  | fr d => rw [el] at q; exact False.elim q
  | od d => rw [el] at q; exact False.elim q
  | ol ds =>
    rw [el] at q
    dsimp only at q
    obtain ⟨a, ws, hs, hH, r0⟩ := slot_ol p el
    cases hd : ds.getLast? with
    | none => rw [hd] at q; exact False.elim q
    | some d =>
      rw [hd] at q
      dsimp only at q
      rw [List.getLast?_eq_getElem?] at hd
      obtain ⟨y, hy, ry⟩ := r0.get hd
      rw [← r0.length] at hy
      refine ⟨.ref a, hs, .inl ⟨rfl, ws, .inl (.inl hH)⟩, a, ws, y, rfl, rfl, hH, hy, ?_⟩
      obtain ⟨o1, fl, fi, fr, e1, e2, e3, e4⟩ := p.env.at i (look_lt (by rw [el]; exact fun z => by cases z))
      rw [el] at e2
      cases e2 with
      | ol h1 h2 h3 h4 =>
        obtain ⟨p2, s2⟩ := p.writeAt el hs r0.dropLast (by rw [List.length_dropLast]; exact Nat.le_trans (Nat.sub_le _ _) h4)
        exact q y F _ fp s2 ⟨p2.sub, EnvOk.cons (f1 := []) (.fr ry) p2.env, p2.nd⟩
theorem seqIx {n : Nat} {i : Int} {j : Nat} (h : place n i = some j) : seqIndex? i n = some j := by
  unfold place at h
  unfold seqIndex?
  by_cases h0 : 0 ≤ i
  · rw [if_pos h0] at h
    by_cases h1 : i < n
    · rw [if_pos h1] at h
      cases h
      rw [if_neg (show ¬ i < 0 by omega)]
      simp [h0, h1]
    · rw [if_neg h1] at h
      cases h
  · rw [if_neg h0] at h
    by_cases h1 : -(n : Int) ≤ i
    · rw [if_pos h1] at h
      cases h
      rw [if_pos (show i < 0 by omega)]
      simp [show 0 ≤ i + (n : Int) by omega, show i + (n : Int) < n by omega]
    · rw [if_neg h1] at h
      cases h
theorem snd_popAt {f : Env → R D} {i : Nat} {o : Expr} {apos cpos : Pos} (ho : PE X o (tVar i)) (ha : PE X e (eD X exc W f)) (hn : noStar e = true) (hb : attributeBase o "pop" X.env (eval o X.env) = eval o X.env)
    (hfew : ((backTo cpos (starEach [e] X.env)).all (fun x => !x.1) && (backToKw cpos (keywordEach [] X.env)).all (fun x => x.1.isSome) && decide ([e].length + ([] : List Keyword).length + (if ([] : List Keyword).isEmpty then 0 else 1) < 30)) = true)
    (hline : (apos.endLine == cpos.line) = true) : PE X (.Call (.Attribute o "pop" apos) [e] [] cpos) (eE X exc W (popAtE i f)) := by
  refine PE.imp (pe_bm PySem.F.plainAttrs_list PySem.F.slot_list_pop PySem.F.type_list_pop mt_popAt ho (pa_cons ha pa_nil (star_cons hn)) hb hfew hline (star_cons hn) rfl) fun σ H Q q => ?_
  obtain ⟨F, env, fp, p, q⟩ := q
  unfold popAtE at q
  cases el : look env i with
  | un => rw [el] at q; exact False.elim q
  | fr d => rw [el] at q; exact False.elim q
  | od d => rw [el] at q; exact False.elim q
  | ol ds0 =>
    rw [el] at q
    dsimp only at q
    obtain ⟨a, ws0, hs, hH, r0⟩ := slot_ol p el
    refine ⟨.ref a, hs, .inl ⟨rfl, ws0, .inl (.inl hH)⟩, ?_⟩
    refine dY_bind (rel := relD X.K) (fin := finE X.K) (f := f) (g := popAtK i) ⟨p, q⟩ fun w H1 F1 env1 fp1 d s1 r1 z1 => ?_
    obtain ⟨p1, z1⟩ := z1
    unfold popAtK at z1
    cases el1 : look env1 i with
    | un => rw [el1] at z1; exact False.elim z1
    | fr d => rw [el1] at z1; exact False.elim z1
    | od d => rw [el1] at z1; exact False.elim z1
    | ol ds =>
      rw [el1] at z1
      cases d with
      | int j =>
        dsimp only at z1
        obtain ⟨a1, ws1, hs1, hH1, r11⟩ := slot_ol p1 el1
        rw [hs] at hs1
        cases hs1
        cases hi : in62 j with
        | false => rw [hi] at z1; exact False.elim z1
        | true =>
          cases hp : place ds.length j with
          | none => rw [hi, hp] at z1; exact False.elim z1
          | some n =>
            rw [hi, hp] at z1
            dsimp only at z1
            cases hd : ds[n]? with
            | none => rw [hd] at z1; exact False.elim z1
            | some d =>
              rw [hd] at z1
              dsimp only at z1
              obtain ⟨y, hy, ry⟩ := r11.get hd
              unfold in62 at hi
              rw [Bool.and_eq_true] at hi
              have h1 := of_decide_eq_true hi.1
              have h2 := of_decide_eq_true hi.2
              cases r1
              refine ⟨a, ws1, j, n, y, rfl, rfl, hH1, by omega, by omega, by rw [r11.length]; exact seqIx hp, hy, ?_⟩
              obtain ⟨o1, fl, fi, fr, e1, e2, e3, e4⟩ := p1.env.at i (look_lt (by rw [el1]; exact fun z => by cases z))
              rw [el1] at e2
              cases e2 with
              | ol g1 g2 g3 g4 =>
                obtain ⟨p2, s2⟩ := p1.writeAt el1 hs (r11.eraseIdx n) (by
                  rw [List.length_eraseIdx]
                  split <;> omega)
                exact z1 y F1 _ fp1 s2 ⟨p2.sub, EnvOk.cons (f1 := []) (.fr ry) p2.env, p2.nd⟩
      | _ => exact False.elim z1
theorem r_pop {i : Nat} {x : Str} {p apos cpos : Pos} (hN : X.N[i]? = some x) (hv : Vis X.env.scope x) (hd : (x == ("__debug__" : Str)) = false) (hcd : (x == ("__classdict__" : Str)) = false) (hb : attributeBase (.Name x p) "pop" X.env (eval (.Name x p) X.env) = eval (.Name x p) X.env) (hline : (apos.endLine == cpos.line) = true) :
    PV X exc W U k (.Call (.Attribute (.Name x p) "pop" apos) [] [] cpos) (.pop i) := snd_pop (pe_var hN hv hd hcd) hb hline
theorem ev_popAt {md : Nat → Modes} {call : Nat → List Sl → R Sl} {i : Nat} {e : E} : ev md call (.popAt i e) = popAtE i (fz (ev md call e)) := by funext env; rfl
theorem r_popAt {i : Nat} {x : Str} {p apos cpos : Pos} (hN : X.N[i]? = some x) (hv : Vis X.env.scope x) (hd : (x == ("__debug__" : Str)) = false) (hcd : (x == ("__classdict__" : Str)) = false) (ha : PV X exc W U k e t) (hn : noStar e = true) (hb : attributeBase (.Name x p) "pop" X.env (eval (.Name x p) X.env) = eval (.Name x p) X.env)
    (hfew : ((backTo cpos (starEach [e] X.env)).all (fun x => !x.1) && (backToKw cpos (keywordEach [] X.env)).all (fun x => x.1.isSome) && decide ([e].length + ([] : List Keyword).length + (if ([] : List Keyword).isEmpty then 0 else 1) < 30)) = true) (hline : (apos.endLine == cpos.line) = true) :
    PV X exc W U k (.Call (.Attribute (.Name x p) "pop" apos) [e] [] cpos) (.popAt i t) := by
  unfold PV
  rw [ev_popAt]
  exact snd_popAt (pe_var hN hv hd hcd) (snd_fz ha) hn hb hfew hline
/-! max, min of a list of whole numbers -/
theorem foldl_max_is : ∀ (l : List Int) (x : Int), (l.foldl max x ∈ x :: l) ∧ ∀ j ∈ x :: l, j ≤ l.foldl max x
  | [], x => ⟨List.mem_cons_self, fun j h => by rw [List.mem_singleton.mp h]; exact Int.le_refl _⟩
  | y :: l, x => by
    obtain ⟨h1, h2⟩ := foldl_max_is l (max x y)
    rw [List.foldl_cons]
    refine ⟨?_, fun j hj => ?_⟩
    · rcases List.mem_cons.mp h1 with e | e
      · rw [e]
        rcases Int.le_total x y with q | q
        · rw [Int.max_eq_right q]
          exact List.mem_cons_of_mem _ List.mem_cons_self
        · rw [Int.max_eq_left q]
          exact List.mem_cons_self
      · exact List.mem_cons_of_mem _ (List.mem_cons_of_mem _ e)
    · have hm := h2 (max x y) List.mem_cons_self
      rcases List.mem_cons.mp hj with e | e
      · subst e
        have := Int.le_max_left j y
        omega
      · rcases List.mem_cons.mp e with e | e
        · subst e
          have := Int.le_max_right x j
          omega
        · exact h2 j (List.mem_cons_of_mem _ e)
theorem foldl_min_is : ∀ (l : List Int) (x : Int), (l.foldl min x ∈ x :: l) ∧ ∀ j ∈ x :: l, l.foldl min x ≤ j
  | [], x => ⟨List.mem_cons_self, fun j h => by rw [List.mem_singleton.mp h]; exact Int.le_refl _⟩
  | y :: l, x => by
    obtain ⟨h1, h2⟩ := foldl_min_is l (min x y)
    rw [List.foldl_cons]
    refine ⟨?_, fun j hj => ?_⟩
    · rcases List.mem_cons.mp h1 with e | e
      · rw [e]
        rcases Int.le_total x y with q | q
        · rw [Int.min_eq_left q]
          exact List.mem_cons_self
        · rw [Int.min_eq_right q]
          exact List.mem_cons_of_mem _ List.mem_cons_self
      · exact List.mem_cons_of_mem _ (List.mem_cons_of_mem _ e)
    · have hm := h2 (min x y) List.mem_cons_self
      rcases List.mem_cons.mp hj with e | e
      · subst e
        have := Int.min_le_left j y
        omega
      · rcases List.mem_cons.mp e with e | e
        · subst e
          have := Int.min_le_right x j
          omega
        · exact h2 j (List.mem_cons_of_mem _ e)
theorem max1_ok (hc : X.calm = true) : CallP X (.builtin "max") .max1 := by
  intro pins s σ H x u Q F d sl I ru sub bv e q
  cases d with
  | list xs =>
    replace e : ((intsOf xs).bind fun l => match l with | [] => none | x :: l => i2 (l.foldl max x)) = some sl := e
    rw [Option.bind_eq_some_iff] at e
    obtain ⟨l, e1, e2⟩ := e
    cases l with
    | nil => cases e2
    | cons y l =>
      cases e2
      obtain ⟨a, ws, rfl, r1, t1⟩ := bv.list sub
      obtain ⟨g1, _⟩ := t1.ints e1
      rw [g1] at r1
      obtain ⟨h1, h2⟩ := foldl_max_is l y
      exact cr_max hc pins s σ H [_] [u] Q I (.cons ru .nil) ⟨a, y :: l, rfl, .inl r1, Nat.succ_pos _, fun m hm hle => by
        have e : m = l.foldl max y := Int.le_antisymm (h2 m hm) (hle _ h1)
        subst e
        exact q _ F H (.flat sub (.int _))⟩
  | _ => cases e
theorem pick_at {K : PySem.W.Frag} {F : Hp} {h : Heap} : ∀ {ws : List V} {ds : List D} {its : List Value} {as : List Addr}, RVs K F ws ds → Vals ws its → ReadsAll h its ds as → ∀ (i : Nat) (v : Value), its[i]? = some v → ∃ w d bs, RelV w v ∧ RV K F w d ∧ d ∈ ds ∧ Reads h v d bs
  | _, _, _, _, .nil, .nil, .nil, _, _, e => by simp at e
  | _, _, _, _, .cons h1 t1, .cons h2 t2, .cons h3 t3, 0, v, e => by
    have e' := Option.some.inj e
    subst e'
    exact ⟨_, _, _, h2, h1, List.mem_cons_self, h3⟩
  | _, _, _, _, .cons h1 t1, .cons h2 t2, .cons h3 t3, i + 1, v, e => by
    obtain ⟨w, d, bs, q1, q2, q3, q4⟩ := pick_at t1 t2 t3 i v e
    exact ⟨w, d, bs, q1, q2, List.mem_cons_of_mem _ q3, q4⟩
theorem leastD_mem : ∀ (l : List D) (x : D), leastD x l ∈ x :: l
  | [], x => List.mem_cons_self
  | y :: l, x => by
    show leastD (if PySem.W.dataLt y x then y else x) l ∈ _
    have z := leastD_mem l (if PySem.W.dataLt y x then y else x)
    rcases List.mem_cons.mp z with e | m
    · rw [e]
      split
      · exact List.mem_cons_of_mem _ List.mem_cons_self
      · exact List.mem_cons_self
    · exact List.mem_cons_of_mem _ (List.mem_cons_of_mem _ m)
theorem depAll_le : ∀ (l : List D), (∀ d ∈ l, d.depth ≤ 64) → PyData.depthAll l ≤ 64
  | [], _ => by simp [PyData.depthAll]
  | d :: l, h => by
    simp only [PyData.depthAll]
    have := h d List.mem_cons_self
    have := depAll_le l fun x m => h x (List.mem_cons_of_mem _ m)
    omega
theorem min1_ok (hr : Room k X.A) (hc : X.calm = true) : CallP X (.builtin "min") .min1 := by
  intro pins s σ H x u Q F d sl I ru sub bv e q
  cases d with
  | list xs =>
    replace e : (match intsOf xs with | some l => minI l | none => minT xs) = some sl := e
    cases e0 : intsOf xs with
    | some l =>
      rw [e0] at e
      cases l with
      | nil => cases e
      | cons y l =>
        cases e
        obtain ⟨a, ws, rfl, r1, t1⟩ := bv.list sub
        obtain ⟨g1, _⟩ := t1.ints e0
        rw [g1] at r1
        obtain ⟨h1, h2⟩ := foldl_min_is l y
        exact cr_min hc pins s σ H [_] [u] Q I (.cons ru .nil) ⟨a, y :: l, rfl, .inl r1, Nat.succ_pos _, fun m hm hle => by
          have e : m = l.foldl min y := Int.le_antisymm (hle _ h1) (h2 m hm)
          subst e
          exact q _ F H (.flat sub (.int _))⟩
    | none =>
      rw [e0] at e
      cases xs with
      | nil => cases e
      | cons y l =>
        obtain ⟨g, e⟩ := guard_some (show Dc.guard (minOk (y :: l)) (some (.fr (leastD y l))) = some sl from e)
        cases e
        obtain ⟨a, ws, rfl, r1, t1⟩ := bv.list sub
        obtain ⟨its, rv, hl, _⟩ := I.list (.inl r1)
        obtain ⟨as, ra⟩ := Dp.readsAll I _ ws its (t1.mono sub).dp rv
        unfold minOk at g
        rw [Bool.and_eq_true, Bool.and_eq_true] at g
        obtain ⟨⟨g1, g2⟩, g3⟩ := g
        have ga : ∀ d ∈ y :: l, ∀ d2 ∈ y :: l, PySem.W.alike d d2 = true := fun d hd d2 hd2 => List.all_eq_true.mp (List.all_eq_true.mp g1 d hd) d2 hd2
        have gn : ∀ d ∈ y :: l, d ≠ .none := fun d hd z => by
          have := List.all_eq_true.mp g2 d hd
          rw [z] at this
          cases this
        have gd := depAll_le (y :: l) fun d hd => of_decide_eq_true (List.all_eq_true.mp g3 d hd)
        have := Room.u65 hr
        have := hr.un
        cases ru
        refine PySem.W.min_list_data (vs := its.toArray) (x := y) (xs := l) (I.ok.hd hc) hl.isList (by rw [List.toList_toArray]; exact ra) ⟨ga, gn⟩ (by omega) fun i v h' tk bs hi r2 hk => ?_
        obtain ⟨w, d, cs, q1, q2, q3, q4⟩ := pick_at t1 rv ra i v (by rw [← hi, List.getElem?_toArray])
        have ed : d = leastD y l := PySem.W.alike_unique d (leastD y l) v cs bs (ga d q3 _ (leastD_mem l y)) (PyProof.Rows.Reads.keeps hk q4) r2
        subst ed
        exact ⟨w, H, I.kept hk, q1, q _ F H (.flat sub q2)⟩
  | _ => cases e
theorem r_max1 {q : Pos} (B : Bd X W k) (hg : Gl X "max") (ha : PVo X exc W U k a ta) (hs : noStar a = true) : PV X exc W U k (.Call (.Name "max" q) [a] [] pos) (.prim .max1 (.cons ta .nil)) := r_fn1 (max1_ok B.calm) B.bl.max (by decide +kernel) (by decide) (by decide) hg ha hs
theorem r_min1 {q : Pos} (B : Bd X W k) (hg : Gl X "min") (ha : PVo X exc W U k a ta) (hs : noStar a = true) : PV X exc W U k (.Call (.Name "min" q) [a] [] pos) (.prim .min1 (.cons ta .nil)) := r_fn1 (min1_ok B.hr B.calm) B.bl.min (by decide +kernel) (by decide) (by decide) hg ha hs
/-! a tuple of texts of the module -/
def TupG (K : PySem.W.Frag) (mg : Str → Option Value) (x : Str) (l : List Str) : Prop := ∃ a, mg x = some (.ref a) ∧ (∃ o, K.lookup a = some o ∧ o.cls = .type "tuple" ∧ o.dict = none) ∧ ∀ H : Hp, SqT K H a (l.map V.str)
theorem rvs_strs {K : PySem.W.Frag} {F : Hp} : ∀ l : List Str, RVs K F (l.map V.str) (l.map PyData.str)
  | [] => .nil
  | _ :: l => .cons (.str _) (rvs_strs l)
theorem r_globT {x : Str} {l : List Str} (T : TupG X.K X.mg x l) (hz : decide (l.length ≤ 1000) = true) (hg : Gl X x) (hd : (x == ("__debug__" : Str)) = false) : PV X exc W U k (.Name x pos) (.glob x (.tuple (l.map .str))) := by
  obtain ⟨a, hm, _, hs⟩ := T
  exact snd_cst (pe_glob (v := .ref a) hg hm rfl hd) (by funext env; rfl) fun F => .tup (hs F) (rvs_strs l) (by rw [List.length_map]; exact Nat.le_of_lt (small1000 (of_decide_eq_true hz)))
theorem strs_of {K : PySem.W.Frag} {F : Hp} : ∀ {ws : List V} {ds : List D} {l : List Str}, RVs K F ws ds → strsOf ds = some l → ws = l.map V.str
  | _, _, l, .nil, e => by
    cases e
    rfl
  | _, d :: ds, l, .cons r t, e => by
    cases d with
    | str x =>
      simp only [strsOf] at e
      rw [Option.map_eq_some_iff] at e
      obtain ⟨l2, e1, rfl⟩ := e
      cases r
      rw [strs_of t e1]
      rfl
    | _ => cases e
theorem firstS_is {z : Str} : ∀ {l : List Str} {j : Nat}, firstS z l = some j → l[j]? = some z ∧ ∀ m, m < j → l[m]? ≠ some z
  | [], _, h => by cases h
  | y :: l, j, h => by
    unfold firstS at h
    split at h
    · rename_i e
      cases h
      exact ⟨by rw [e]; rfl, fun m hm => absurd hm (by omega)⟩
    · rename_i e
      rw [Option.map_eq_some_iff] at h
      obtain ⟨j2, h1, rfl⟩ := h
      obtain ⟨g1, g2⟩ := firstS_is h1
      refine ⟨g1, fun m hm => ?_⟩
      cases m with
      | zero => exact fun q => e (Option.some.inj q)
      | succ m => exact g2 m (by omega)
theorem r_indexG {x : Str} {l : List Str} {p apos cpos : Pos} (T : TupG X.K X.mg x l) (hg : Gl X x) (hd : (x == ("__debug__" : Str)) = false) (hb : PVo X exc W U k b tb) (hn : noStar b = true) (hbb : attributeBase (.Name x p) "index" X.env (eval (.Name x p) X.env) = eval (.Name x p) X.env)
    (hfew : ((backTo cpos (starEach [b] X.env)).all (fun x => !x.1) && (backToKw cpos (keywordEach [] X.env)).all (fun x => x.1.isSome) && decide ([b].length + ([] : List Keyword).length + (if ([] : List Keyword).isEmpty then 0 else 1) < 30)) = true) (hline : (apos.endLine == cpos.line) = true):
    PV X exc W U k (.Call (.Attribute (.Name x p) "index" apos) [b] [] cpos) (.prim (.idxIn l) (.cons tb .nil)) := by
  obtain ⟨a, hm, hk, hs⟩ := T
  unfold PV
  rw [ev_prim, two1]
  refine PE.imp (pe_bm PySem.F.plainAttrs_tuple PySem.F.slot_tuple_index PySem.F.type_tuple_index mt_tup_index (pe_glob (v := .ref a) hg hm rfl hd) (pa_cons hb pa_nil (star_cons hn)) hbb hfew hline (star_cons hn) rfl) fun σ H Q q => ?_
  obtain ⟨o, hk1, hk2, hk3⟩ := hk
  refine ⟨.inr (.inl ⟨rfl, o, hk1, hk2, hk3⟩), ?_⟩
  refine one_rd q fun y H2 h => ?_
  obtain ⟨F, ds, sl, sub, bv, e, z⟩ := h
  obtain ⟨d, rfl, h1⟩ := bv.one
  replace e : oneS (.idxIn l) d = some sl := e
  cases d with
  | str w =>
    replace e : ((firstS w l).bind fun j => i2 ((j : Nat) : Int)) = some sl := e
    rw [Option.bind_eq_some_iff] at e
    obtain ⟨j, e1, e2⟩ := e
    cases e2
    obtain ⟨g1, g2⟩ := firstS_is e1
    have := h1.str
    subst this
    exact ⟨a, l, w, j, rfl, rfl, hs _, g1, g2, z _ F H2 (.flat sub (.int _))⟩
  | _ => cases e
/-! try .. except: return [] -/
theorem snd_tryEmpty {cs : List Nat} {CE : Value} {fb : Env → Xo} {body : List Stmt} {xc : Str} {np pos' p1 p2 : Pos} (hs : X.stack = X.env :: X.outer) (hf : X.env.frame = some X.env.locals)
    (hc : Names X xc CE) (tk : Takes X W) (hex : ∀ c ∈ cs, PySem.W.exmOne X.K (.ref (exc c)) CE = some true)
    (hb : ∀ (W : WX) (pn : List (Addr × Obj)) (xe : Value → Shared → Prop), Takes (X.tr pn xe) W → PassesOwn (model X.prog X.w) X.A X.env xe → PSs (X.tr pn xe) body (sS (X.tr pn xe) exc W io fb)) :
    PS X (.Try body [.ExceptHandler (some (.Name xc np)) none [.Return (some (.List [] p1)) p2] pos'] [] [] pos) (sS X exc W io fun env => match fb env with | .er c env1 => if cs.contains c then .rt (.ol []) env1 else .st | o => o) := by
  refine PS.imp (ps_try_only (Wout := W) (c := CE) (tb := fun W => dS X.K exc W io fb) (ts := fun a cls d D σ H => ∀ p, H p = none → D.rt (.ref p) (upd H p (.lst []))) hs hf hc tk hb (fun a oe cls d pn hz hff => ?_)) fun D σ H q => ?_
  · refine ⟨fun pins s σ H D I q => ?_⟩
    exact (pss_one (ps_ret (pe_lst pa_nil))).run pins s σ H D I ⟨Nat.zero_le _, fun p hp => q p hp⟩
  · obtain ⟨F, env, fp, p, q⟩ := q
    refine ⟨F, env, fp, p, ?_⟩
    dsimp only at q
    cases e : fb env with
    | st => rw [e] at q; exact q
    | nx e' => rw [e] at q; exact q
    | rt s e' => rw [e] at q; exact q
    | er c env1 =>
      rw [e] at q
      dsimp only at q
      by_cases hc : cs.contains c = true
      · rw [if_pos hc] at q
        have hc' : c ∈ cs := by simpa using hc
        intro σ' F' H' fp' s1 p1 i1
        refine ⟨true, hex c hc', fun _ a ha p hp => ?_, fun z => nomatch z⟩
        obtain ⟨s2, p2⟩ := new_lst p1 (ws := []) (ds := []) .nil hp (Nat.zero_le _)
        exact q (.ref p) σ' F' _ (p :: fp') (s1.trans s2) p2 i1
      · rw [if_neg hc] at q
        exact False.elim q
theorem s_tryEmpty {cs : List Nat} {CE : Value} {xc : Str} {np pos' p1 p2 : Pos} {sts : List Stmt} {ss : Ss} (B : Bd X W k) (hs : X.stack = X.env :: X.outer) (hf : X.env.frame = some X.env.locals) (hc : Names X xc CE) (hex : ∀ c ∈ cs, PySem.W.exmOne X.K (.ref (exc c)) CE = some true)
    (hb : ∀ (W' : WX) (pn : List (Addr × Obj)) (xe : Value → Shared → Prop), Bd (X.tr pn xe) W' k → PassesOwn (model X.prog X.w) X.A X.env xe → SVs (X.tr pn xe) exc W' U k io sts ss) :
    SV X exc W U k io (.Try sts [.ExceptHandler (some (.Name xc np)) none [.Return (some (.List [] p1)) p2] pos'] [] [] pos) (.tr cs ss (.retE (.lst .nil))) := by
  have e : exec (modesOf U) (run U k) (.tr cs ss (.retE (.lst .nil))) = fun env => match execs (modesOf U) (run U k) ss env with | .er c env1 => if cs.contains c then .rt (.ol []) env1 else .st | o => o := by funext env; rfl
  unfold SV
  rw [e]
  exact snd_tryEmpty hs hf hc B.tk hex fun W' pn xe tk hp => hb W' pn xe (B.tr tk) hp
end
end Dc

/-! Dc: split, strip, join. -/
namespace Dc
open PySem PySem.Spec PyProof.Rows L2 RZ
section
variable {X : Cx} {exc : Nat → Addr} {W : WX} {U : Nat → Option Def} {k : Nat} {io : List Nat} {pos : Pos} {e a b c : Expr} {es : List Expr} {t ta tb tc : E} {ts : Es}
theorem r_globS {x z : Str} {tk : Tok} (hm : X.mg x = some (.str z tk)) (hg : Gl X x) (hd : (x == ("__debug__" : Str)) = false) : PV X exc W U k (.Name x pos) (.cst (.str z)) :=
  snd_cst (pe_glob (v := .str z) hg hm ⟨tk, rfl⟩ hd) (by funext env; rfl) fun F => .str z
theorem split_rd {K : PySem.W.Frag} {y : Str} {x : V} {H : Hp} {Q : VK} (h : rPn K (.split y) [x] H Q) : ∃ z, x = .str z ∧ (y.length == 0) = false ∧ z.length + 2 ≤ sizeLine ∧ rNewStrs (Txt.split z y) H Q := by
  obtain ⟨F, ds, sl, sub, bv, e, q⟩ := h
  obtain ⟨d, rfl, h1⟩ := bv.one
  cases d with
  | str z =>
    obtain ⟨g, e⟩ := guard_some (show Dc.guard (!(y.length == 0) && decide (z.length + 2 ≤ sizeLine)) (some (.ol ((Txt.split z y).map .str))) = some sl from e)
    cases e
    rw [Bool.and_eq_true, Bool.not_eq_true'] at g
    have hz := of_decide_eq_true g.2
    exact ⟨z, h1.str, g.1, hz, fun p hp => q _ _ _ (.lst sub (rvs_strs _) hp (by rw [List.length_map]; exact Nat.le_trans (PyProof.Rows.split_le z y) hz))⟩
  | _ => cases e
theorem strip_rd {K : PySem.W.Frag} {y : Str} {x : V} {H : Hp} {Q : VK} (h : rPn K (.strip y) [x] H Q) : ∃ z, x = .str z ∧ z.length ≤ sizeLine ∧ Q (.str (Txt.stripChars z y)) H := by
  obtain ⟨F, ds, sl, sub, bv, e, q⟩ := h
  obtain ⟨d, rfl, h1⟩ := bv.one
  cases d with
  | str z =>
    obtain ⟨g, e⟩ := guard_some (show Dc.guard (decide (z.length ≤ sizeLine)) (some (.fr (.str (Txt.stripChars z y)))) = some sl from e)
    cases e
    exact ⟨z, h1.str, of_decide_eq_true g, q _ F H (.flat sub (.str _))⟩
  | _ => cases e
theorem join_rd {K : PySem.W.Frag} {y : Str} {x : V} {H : Hp} {Q : VK} (h : rPn K (.join y) [x] H Q) :
    ∃ p, ∃ ys : List Str, x = .ref p ∧ (SqL K H p (ys.map V.str) ∨ SqT K H p (ys.map V.str)) ∧ (ys.map (·.length)).sum + ys.length * y.length ≤ 16777216 ∧ Q (.str (Txt.join y ys)) H := by
  obtain ⟨F, ds, sl, sub, bv, e, q⟩ := h
  obtain ⟨d, rfl, h1⟩ := bv.one
  cases d with
  | list xs =>
    replace e : ((strsOf xs).bind fun zs => Dc.guard (decide ((zs.map (·.length)).sum + zs.length * y.length ≤ 16777216)) (some (.fr (.str (Txt.join y zs))))) = some sl := e
    rw [Option.bind_eq_some_iff] at e
    obtain ⟨zs, ez, e⟩ := e
    obtain ⟨g, e⟩ := guard_some e
    cases e
    obtain ⟨p, ws, rfl, r1, t1⟩ := h1.list sub
    have ew := strs_of t1 ez
    subst ew
    exact ⟨p, zs, rfl, .inl (.inl r1), of_decide_eq_true g, q _ F H (.flat sub (.str _))⟩
  | _ => cases e
theorem r_split {y : Str} {j : Nat} {p1 apos : Pos} (ha : PVo X exc W U k a ta) (hb : attributeBase a "split" X.env (eval a X.env) = eval a X.env) (hline : (apos.endLine == pos.line) = true) :
    PV X exc W U k (.Call (.Attribute a "split" apos) [.Constant (.str y) j p1] [] pos) (.prim (.split y) (.cons ta .nil)) := by
  unfold PV
  rw [ev_prim, two1]
  refine PE.imp (pe_split ha pe_str rfl hb hline) fun σ H Q q => one_rd q fun x H1 h => ?_
  obtain ⟨z, rfl, g1, g2, g3⟩ := split_rd h
  exact ⟨⟨z, rfl⟩, z, y, rfl, rfl, g1, g2, g3⟩
theorem r_join {y : Str} {j : Nat} {p1 apos : Pos} (ha : PVo X exc W U k a ta) (hs : noStar a = true) (hb : attributeBase (.Constant (.str y) j p1) "join" X.env (eval (.Constant (.str y) j p1) X.env) = eval (.Constant (.str y) j p1) X.env) (hline : (apos.endLine == pos.line) = true) :
    PV X exc W U k (.Call (.Attribute (.Constant (.str y) j p1) "join" apos) [a] [] pos) (.prim (.join y) (.cons ta .nil)) := by
  unfold PV
  rw [ev_prim, two1]
  refine PE.imp (pe_join pe_str ha (star_cons hs) hb hline) fun σ H Q q => ⟨⟨y, rfl⟩, one_rd q fun x H1 h => ?_⟩
  obtain ⟨p, ys, rfl, h1, h2, h3⟩ := join_rd h
  exact ⟨y, p, ys, rfl, rfl, h1, h2, h3⟩
/-- z.strip(NAME + "..") -/
theorem r_stripG {n x y : Str} {j : Nat} {p1 p2 p3 apos : Pos} {tk : Tok} (hm : X.mg n = some (.str x tk)) (hg : Gl X n) (hd : (n == ("__debug__" : Str)) = false) (hz : decide (x.length + y.length ≤ 1000) = true) (ha : PVo X exc W U k a ta)
    (hb : attributeBase a "strip" X.env (eval a X.env) = eval a X.env) (hline : (apos.endLine == pos.line) = true) :
    PV X exc W U k (.Call (.Attribute a "strip" apos) [.BinOp (.Name n p1) .Add (.Constant (.str y) j p2) p3] [] pos) (.prim (.strip (x ++ y)) (.cons ta .nil)) := by
  unfold PV
  rw [ev_prim, two1]
  refine PE.imp (pe_m1 PySem.F.slot_str_strip PySem.F.type_str_strip mt_stripChars ha (pe_op op_add_str (pe_glob (v := .str x) hg hm ⟨tk, rfl⟩ hd) pe_str) rfl hb hline) fun σ H Q q => one_rd q fun u H1 h => ?_
  obtain ⟨z, rfl, g1, g2⟩ := strip_rd h
  exact ⟨⟨z, rfl⟩, x, y, rfl, rfl, by have := of_decide_eq_true hz; rw [sizeLine_eq]; omega, z, x ++ y, rfl, rfl, g1, g2⟩
end
end Dc

/-! Dc: a def keeps its promise. -/
namespace Dc
open PySem PySem.Spec PyProof.Rows L2 RZ
def ioFrom : Nat → Modes → List Nat
  | _, [] => []
  | n, m :: ms => match m with
    | true => n :: ioFrom (n + 1) ms
    | false => ioFrom (n + 1) ms
/-- the slots of the parameters that come back -/
def ioOf (ms : Modes) : List Nat := ioFrom 0 ms
theorem io_mem : ∀ (ms : List Bool) (n j : Nat), ms[j]? = some true → n + j ∈ ioFrom n ms
  | [], _, _, h => by simp at h
  | m :: ms, n, 0, h => by
    cases Option.some.inj h
    exact List.mem_cons_self
  | m :: ms, n, j + 1, h => by
    have z := io_mem ms (n + 1) j h
    rw [show n + 1 + j = n + (j + 1) by omega] at z
    cases m with
    | true => exact List.mem_cons_of_mem _ z
    | false => exact z
section
variable {K : PySem.W.Frag} {F H : Hp}
theorem EnvOk.uns : ∀ (n : Nat), EnvOk K F H (List.replicate n .un) (List.replicate n none) []
  | 0 => .nil
  | n + 1 => EnvOk.cons (f1 := []) (.un none) (EnvOk.uns n)
theorem EnvOk.app : ∀ {env1 env2 : Env} {σ1 σ2 : St} {f1 f2 : List Addr}, EnvOk K F H env1 σ1 f1 → EnvOk K F H env2 σ2 f2 → EnvOk K F H (env1 ++ env2) (σ1 ++ σ2) (f1 ++ f2)
  | _, _, _, _, _, _, .nil, t => t
  | _, _, _, _, _, _, .cons (f1 := f1) h r, t => by
    rw [List.append_assoc]
    exact .cons h (EnvOk.app r t)
theorem EnvOk.mask : ∀ {ms : List Bool} {env : Env} {σ : St} {fp : List Addr} {vs : List V}, EnvOk K F H env σ fp → vs.length = ms.length → (∀ j : Nat, ms[j]? = some true → σ[j]? = (vs.map some)[j]?) → ∃ fp2, List.Sublist fp2 fp ∧ EnvOk K F H (mask ms env) (vs.map some) fp2
  | [], env, σ, fp, vs, _, hl, _ => by
    have e : vs = [] := List.length_eq_zero_iff.mp hl
    subst e
    exact ⟨[], List.nil_sublist _, .nil⟩
  | m :: ms, env, σ, fp, vs, h, hl, hm => by
    cases vs with
    | nil => cases hl
    | cons v vs =>
      have hl2 : vs.length = ms.length := Nat.succ.inj hl
      cases h with
      | nil =>
        obtain ⟨fp2, s2, e2⟩ := EnvOk.mask (ms := ms) (vs := vs) (env := []) (σ := []) (fp := []) .nil hl2 fun j hj => by
          have z := hm (j + 1) hj
          rw [List.map_cons, List.getElem?_cons_succ] at z
          rw [← z]
          rfl
        refine ⟨fp2, s2, ?_⟩
        cases m with
        | true => exact EnvOk.cons (f1 := []) (.un _) e2
        | false => exact EnvOk.cons (f1 := []) (.un _) e2
      | cons h1 t =>
        rename_i s o f1 f2 env σ
        obtain ⟨fp2, s2, e2⟩ := EnvOk.mask (ms := ms) (vs := vs) t hl2 fun j hj => by
          have z := hm (j + 1) hj
          rw [List.map_cons, List.getElem?_cons_succ, List.getElem?_cons_succ] at z
          exact z
        cases m with
        | true =>
          have z := hm 0 rfl
          rw [List.map_cons, List.getElem?_cons_zero, List.getElem?_cons_zero] at z
          cases Option.some.inj z
          exact ⟨f1 ++ fp2, List.Sublist.append (List.Sublist.refl _) s2, .cons h1 e2⟩
        | false => exact ⟨fp2, List.Sublist.trans s2 (List.sublist_append_right _ _), EnvOk.cons (f1 := []) (.un _) e2⟩
end
section
variable {P : Program} {w : World} {K : PySem.W.Frag} {mg : Str → Option Value} {base : Heap} {exc : Nat → Addr} {U : Nat → Option Def} {k : Nat}
/-- the wish about refusals in a def's body -/
abbrev WB (E : XK) : WX := fun cls d _ H => E cls d H
theorem bd_of {N : List Str} {qual : Str} {scope : Scope} {f : Addr} {cdv : Value} {A : Around} {outer : List PySem.Env} {s : Shared} {H : Hp} {E : XK} (bl : Bl mg) (nd : N.Nodup) (hr : Room k (A.deeper (envOfC qual scope s.heap.objs.size f cdv))) :
    Bd (cxOf (L2.CX P w) P w K mg base N qual scope f cdv A outer s H E) (WB E) k := ⟨hr, takes_of rfl rfl rfl rfl, rfl, nd, bl⟩
theorem def_ok {id : Nat} {x : Str} {st : Stmt} {f : Addr} {fd : FuncData} {N ps : List Str} {d : Def} {io : List Nat} (F : Fun K x x st f fd) (S : FnScope N ps (defScope st)) (bl : Bl mg) (hU : U id = some d) (hn : d.modes.length = ps.length) (hs : d.slots = N.length) (hio : ioOf d.modes = io)
    (hbody : ∀ (cdv : Value) (A : Around) (outer : List PySem.Env) (s : Shared) (H : Hp) (E : XK), Bd (cxOf (L2.CX P w) P w K mg base N x (defScope st) f cdv A outer s H E) (WB E) k →
      SVs (cxOf (L2.CX P w) P w K mg base N x (defScope st) f cdv A outer s H E) exc (WB E) U k io (defBody st) d.body) :
    FnOk P w K mg base (L2.CX P w) (k + 1) f fd ps (spF K exc ps.length (run U (k + 1) id)) := by
  subst hio
  refine F.okX S (fun vs H Q E h => h.1) fun cdv A outer s H vs Q E hr h => ?_
  obtain ⟨hl, F0, env, fp, p, q⟩ := h
  refine ⟨_, hbody cdv A outer s H E (bd_of bl S.nd hr), ?_⟩
  have le : env.length = vs.length := by
    rw [p.env.len, List.length_map]
  have hpn : ps.length ≤ N.length := by
    have := congrArg List.length S.pre
    rw [List.length_take] at this
    omega
  have er : run U (k + 1) id env = runB U (run U k) d env := by
    show (match U id with | some d => runB U (run U k) d env | none => .st) = _
    rw [hU]
  rw [er] at q
  unfold runB at q
  rw [if_pos (show env.length = d.modes.length by rw [le, hl, hn])] at q
  have p0 : Pre K F0 H fp (env ++ List.replicate (d.slots - env.length) .un) (L2.start N vs) := by
    refine ⟨p.sub, ?_, p.nd⟩
    have z := p.env.app (EnvOk.uns (K := K) (F := F0) (H := H) (d.slots - env.length))
    rw [List.append_nil] at z
    unfold L2.start
    rw [← hs, ← le]
    exact z
  have back : ∀ {σ' : St} {F' H' : Hp} {fp' f1 : List Addr} {env' : Env} {sl : Sl} {v : V}, EnvOk K F' H' env' σ' fp' → Io (ioOf d.modes) (L2.start N vs) σ' → ∃ fp2, List.Sublist fp2 fp' ∧ EnvOk K F' H' (mask d.modes env') (vs.map some) fp2 := fun {σ' F' H' fp' f1 env' sl v} en io => by
    refine en.mask (by rw [hl, hn]) fun j hj => ?_
    have hj2 : j < vs.length := by
      rw [hl, ← hn]
      exact (List.getElem?_eq_some_iff.mp hj).1
    have z := io (0 + j) (io_mem d.modes 0 j hj)
    rw [Nat.zero_add] at z
    rw [z]
    unfold L2.start
    rw [List.getElem?_append_left (by rw [List.length_map]; exact hj2)]
  refine ⟨F0, _, fp, p0, ?_⟩
  cases e : execs (modesOf U) (run U k) d.body (env ++ List.replicate (d.slots - env.length) .un) with
  | st => rw [e] at q; exact q
  | nx env' =>
    rw [e] at q
    intro σ' F' H' fp' s1 p1 i1
    obtain ⟨fp2, sb, e2⟩ := back (f1 := []) (sl := .un) (v := .non) p1.env i1
    exact q .non F' H' fp2 ⟨s1.same, s1.ext, s1.frame, fun a m => s1.fpx a (sb.subset m)⟩ ⟨p1.sub, EnvOk.cons (f1 := []) (.fr .non) e2, p1.nd.sublist sb⟩
  | rt sl env' =>
    rw [e] at q
    intro v σ' F' H' fp' s1 p1 i1
    obtain ⟨g1, g2, eg, h1, p2, nd1, dis⟩ := p1.uncons
    obtain ⟨fp2, sb, e2⟩ := back (f1 := []) (sl := .un) (v := .non) p2.env i1
    refine q v F' H' (g1 ++ fp2) ⟨s1.same, s1.ext, s1.frame, fun a m => s1.fpx a ?_⟩ ⟨p1.sub, .cons h1 e2, ?_⟩
    · rw [eg]
      rcases List.mem_append.mp m with m | m
      · exact List.mem_append_left _ m
      · exact List.mem_append_right _ (sb.subset m)
    · have nd := p1.nd
      rw [eg] at nd
      exact nd.sublist (List.Sublist.append (List.Sublist.refl _) sb)
  | er c env' =>
    rw [e] at q
    intro σ' F' H' fp' s1 p1 i1
    obtain ⟨fp2, sb, e2⟩ := back (f1 := []) (sl := .un) (v := .non) p1.env i1
    exact q F' H' fp2 ⟨s1.same, s1.ext, s1.frame, fun a m => s1.fpx a (sb.subset m)⟩ ⟨p1.sub, e2, p1.nd.sublist sb⟩
/-- nothing is promised at level 0 -/
theorem none_ok {f : Addr} {fd : FuncData} {ps : List Str} {n : Nat} {id : Nat} (hn : n = ps.length) : FnOk P w K mg base (L2.CX P w) 0 f fd ps (spF K exc n (run U 0 id)) := by
  subst hn
  refine ⟨fun vs H Q E h => h.1, fun A outer s H args us vs Q E hr he hb hv h => ?_⟩
  obtain ⟨_, _, _, _, _, z⟩ := h
  exact z.elim
end
end Dc
namespace Dc
open PySem PySem.Spec PyProof.Rows L2 RZ
section
variable {P : Program} {w : World} {K : PySem.W.Frag} {mg : Str → Option Value} {base : Heap} {exc : Nat → Addr} {U : Nat → Option Def} {k : Nat}
theorem pb_of {N : List Str} {qual : Str} {scope : Scope} {f : Addr} {cdv : Value} {A : Around} {outer : List PySem.Env} {s : Shared} {H : Hp} {E : XK} :
    PassesOwn (model P w) (cxOf (L2.CX P w) P w K mg base N qual scope f cdv A outer s H E).A (cxOf (L2.CX P w) P w K mg base N qual scope f cdv A outer s H E).env (cxOf (L2.CX P w) P w K mg base N qual scope f cdv A outer s H E).xe := passes_of (X := cxOf (L2.CX P w) P w K mg base N qual scope f cdv A outer s H E) rfl
/-- a def of the text, as it stands -/
def Hd1 (K : PySem.W.Frag) (mg : Str → Option Value) (x : Str) (st : Stmt) (ps : List Str) : Prop := ∃ a fd, mg x = some (.ref a) ∧ Fun K x x st a fd ∧ Binds K fd ps []
theorem hd1_mk {h : Heap} {x : Str} {st : Stmt} {ps : List Str} {f : Addr} {oc : Value} {od an : Option Addr} {osl : Array (Option Value)} {kV doc pm cdv ct : Value} (X : K.In h) (G : h.Ns mainGlobals mg) (a1 : PySem.W.nsIn K mainGlobals x = some (some (.ref f)))
    (l1 : K.lookup f = some ⟨oc, od, .func (PySem.W.fnOf x x (defArgs st) (defBody st) (defScope st) .none kV doc pm an cdv ct), osl⟩) (c1 : PySem.W.codeIn K cdv x = true) (k1 : PySem.W.keepIn K (.ref f) = true)
    (hb : ∀ (kV doc pm : Value) (an : Option Addr) (cdv ct : Value) (us : List Value), us.length = ps.length → bindArgs (PySem.W.fnOf x x (defArgs st) (defBody st) (defScope st) .none kV doc pm an cdv ct) ⟨us, []⟩ = pure (ps.zip us)) : Hd1 K mg x st ps :=
  ⟨f, _, PySem.W.mg_of X G a1, fun_mk l1 c1 k1, (fun_mk l1 c1 k1).binds hb⟩
/-- from a def's head to its promise at the next level -/
theorem def_step {id : Nat} {x : Str} {st : Stmt} {N ps : List Str} {d : Def} {io : List Nat} (h : Hd1 K mg x st ps) (S : FnScope N ps (defScope st)) (bl : Bl mg) (hU : U id = some d) (hn : d.modes.length = ps.length) (hs : d.slots = N.length) (hio : ioOf d.modes = io)
    (hbody : ∀ (f : Addr) (cdv : Value) (A : Around) (outer : List PySem.Env) (s : Shared) (H : Hp) (E : XK), Bd (cxOf (L2.CX P w) P w K mg base N x (defScope st) f cdv A outer s H E) (WB E) k →
      PassesOwn (model P w) (cxOf (L2.CX P w) P w K mg base N x (defScope st) f cdv A outer s H E).A (cxOf (L2.CX P w) P w K mg base N x (defScope st) f cdv A outer s H E).env (cxOf (L2.CX P w) P w K mg base N x (defScope st) f cdv A outer s H E).xe →
      SVs (cxOf (L2.CX P w) P w K mg base N x (defScope st) f cdv A outer s H E) exc (WB E) U k io (defBody st) d.body) : Ok1 P w K mg base exc U (k + 1) id x ps.length := by
  obtain ⟨a, fd, hm, F, hb⟩ := h
  exact ⟨a, hm, fd, ps, def_ok F S bl hU hn hs hio fun cdv A outer s H E B => hbody a cdv A outer s H E B pb_of, F.kp, hb⟩
theorem law_step {id : Nat} {x : Str} {st : Stmt} {f : Addr} {fd : FuncData} {N ps : List Str} {d : Def} {io : List Nat} (F : Fun K x x st f fd) (S : FnScope N ps (defScope st)) (bl : Bl mg) (hU : U id = some d) (hn : d.modes.length = ps.length) (hs : d.slots = N.length) (hio : ioOf d.modes = io)
    (hbody : ∀ (cdv : Value) (A : Around) (outer : List PySem.Env) (s : Shared) (H : Hp) (E : XK), Bd (cxOf (L2.CX P w) P w K mg base N x (defScope st) f cdv A outer s H E) (WB E) k →
      PassesOwn (model P w) (cxOf (L2.CX P w) P w K mg base N x (defScope st) f cdv A outer s H E).A (cxOf (L2.CX P w) P w K mg base N x (defScope st) f cdv A outer s H E).env (cxOf (L2.CX P w) P w K mg base N x (defScope st) f cdv A outer s H E).xe →
      SVs (cxOf (L2.CX P w) P w K mg base N x (defScope st) f cdv A outer s H E) exc (WB E) U k io (defBody st) d.body) : FnOk P w K mg base (L2.CX P w) (k + 1) f fd ps (spF K exc ps.length (run U (k + 1) id)) :=
  def_ok F S bl hU hn hs hio fun cdv A outer s H E B => hbody cdv A outer s H E B pb_of
theorem def_none {id : Nat} {x : Str} {st : Stmt} {ps : List Str} (h : Hd1 K mg x st ps) : Ok1 P w K mg base exc U 0 id x ps.length := by
  obtain ⟨a, fd, hm, F, hb⟩ := h
  exact ⟨a, hm, fd, ps, none_ok rfl, F.kp, hb⟩
/-- what the law's def promises -/
def spLaw (K : PySem.W.Frag) (call : List Sl → R Sl) : Sp := fun vs H Q E => ∀ exc, spF K exc 1 call vs H Q E
theorem mem_look {a : Addr} {o : Obj} : ∀ {l : List (Addr × Obj)}, l.lookup a = some o → (a, o) ∈ l
  | [], h => by cases h
  | (b, u) :: l, h => by
    rw [List.lookup_cons] at h
    by_cases e : a = b
    · subst e
      rw [beq_self_eq_true] at h
      cases h
      exact List.mem_cons_self
    · rw [show (a == b) = false from beq_false_of_ne e] at h
      exact List.mem_cons_of_mem _ (mem_look h)
/-- no list of the module's own -/
theorem script_rd {H : Hp} {a : Addr} {xs : List V} (nl : (K.all fun p => p.2.cls != .type "list") = true) (h : SqL K H a xs) : Rd H a (.lst xs) := by
  rcases h with h | ⟨o, its, n, hk, hc, _⟩
  · exact h
  · have z := List.all_eq_true.mp nl (a, o) (mem_look hk)
    have hc' : o.cls = .type "list" := hc
    rw [show (a, o).2.cls = Value.type "list" from hc'] at z
    exact absurd z (by decide)
theorem rvs_ints {F : Hp} : ∀ ns : List Int, RVs K F (ns.map V.int) (ns.map PyData.int)
  | [] => .nil
  | _ :: ns => .cons (.int _) (rvs_ints ns)
theorem law_sp {call : List Sl → R Sl} {H : Hp} {a : Addr} {ns : List Int} (nl : (K.all fun p => p.2.cls != .type "list") = true) (hl : ns.length ≤ 63) (hS : SqL K H a (ns.map V.int)) (hr : ∃ os, call [.fr (.list (ns.map PyData.int))] = .ok (.fr (.bool true)) os) :
    spLaw K call [.ref a] H (fun v _ => v = .bl true) fun _ _ _ => False := by
  obtain ⟨os, hr⟩ := hr
  intro exc
  refine ⟨rfl, H, [.fr (.list (ns.map PyData.int))], [], ⟨fun _ _ e => e, EnvOk.cons (f1 := []) (.fr (.lst (script_rd nl hS) (rvs_ints ns) (by rw [List.length_map]; exact Nat.le_of_lt (small1000 (by omega))))) .nil, .nil⟩, ?_⟩
  rw [hr]
  intro w F' H' fp' s p
  obtain ⟨_, _, _, h1, _⟩ := p.uncons
  cases h1 with
  | fr r =>
    cases r
    rfl
theorem kit_own {D C : Addr} {b : Bool} (hs : PySem.W.subIn K (.ref D) (.ref D) = some true) (h : PySem.W.subIn K (.ref D) (.ref C) = some b) (hc : PySem.W.isClsIn K C = true) (ht : PySem.W.typeIn K (.ref C) = some (.type "type")) : PySem.W.kitOne K (.ref D) (.ref C) = some b := by
  unfold PySem.W.kitOne
  by_cases e : D = C
  · subst e
    rw [hs] at h
    cases h
    rw [if_pos (beq_self_eq_true _)]
  · have ne : ¬ ((Value.ref D == Value.ref C) = true) := fun z => e (Value.ref.inj (beq_iff_eq.mp z))
    rw [if_neg ne]
    have e2 : ((PySem.W.clsIn K C).isSome && PySem.W.typeIn K (.ref C) == some (.type "type")) = true := by
      rw [ht, show (PySem.W.clsIn K C).isSome = true from hc]
      rfl
    show (if ((PySem.W.clsIn K C).isSome && PySem.W.typeIn K (.ref C) == some (.type "type")) = true then PySem.W.subIn K (.ref D) (.ref C) else none) = some b
    rw [if_pos e2]
    exact h
theorem kit_ve {D : Addr} {b : Bool} (h : PySem.W.subIn K (.ref D) (.type "ValueError") = some b) : PySem.W.kitOne K (.ref D) (.type "ValueError") = some b := by
  unfold PySem.W.kitOne
  rw [if_neg (show ¬ ((Value.ref D == Value.type "ValueError") = true) from fun z => nomatch (beq_iff_eq.mp z))]
  show (if PySem.W.kitMeta "ValueError" = true then PySem.W.subIn K (.ref D) (.type "ValueError") else none) = some b
  rw [if_pos (by decide +kernel)]
  exact h
theorem al0 {α : Type} {p : α → Prop} : ∀ x ∈ ([] : List α), p x := fun _ m => by cases m
theorem al1 {α : Type} {p : α → Prop} {x : α} {xs : List α} (h : p x) (t : ∀ y ∈ xs, p y) : ∀ y ∈ x :: xs, p y := fun y m => by
  rcases List.mem_cons.mp m with e | m
  · rw [e]
    exact h
  · exact t y m
/-! ### the heads, gathered -/
/-- for a def: the address, the promise -/
theorem law_imp {f : Addr} {fd : FuncData} {ps : List Str} {id : Nat} (F : FnOk P w K mg base (L2.CX P w) k f fd ps (spF K exc 1 (run U k id))) : FnOk P w K mg base (L2.CX P w) k f fd ps (spLaw K (run U k id)) := F.imp fun vs H Q E h => h exc
end
/-- the law's end: the promise hangs on the written part, the refusals on the world -/
theorem walk_law {l : PySem.W.OpenLaw} {n k : Nat} {q : Program} {loose : List Str} {XP : (Str → Option Value) → Heap → Prop} {YP : World → Heap → Prop} {d : DefRec} {K : Params → PySem.W.Frag} {sp : PySem.W.Frag → Sp} {x : Str} (hn : l.most = some n) (hn2 : n ≤ sizeLine) (hdf : d.params.defaults = []) (hr : Room k callerA) (hY : ∀ (w : World) (h : Heap), YP w h → (K w.params).In h)
    (F : ∀ (w : World) (mg : Str → Option Value) (fa : Addr) (h : Heap), (K w.params).In h → h.Ns mainGlobals mg → mg d.name = some (.ref fa) → ∃ fd : FuncData, (∀ (s : Shared) (u : Value), BindsTo s fd ⟨[u], []⟩ [(x, u)]) ∧ ∀ base : Heap, (K w.params).In base → base.Ns mainGlobals mg → FnOk l.prog w (K w.params) mg base (L2.CX l.prog w) k fa fd [x] (sp (K w.params)))
    (hsp : ∀ (w : World) (H : Hp) (a : Addr) (ns : List Int), ns.length ≤ n → SqL (K w.params) H a (ns.map V.int) → sp (K w.params) [.ref a] H (fun v _ => v = .bl true) fun _ _ _ => False) : PySem.W.WalkO q loose XP YP l.row.toRowW d [] (fun f vs => PySem.call f vs) :=
  walk_of (K := K) (CX := fun w => L2.CX l.prog w) (sp := fun w => sp (K w.params)) hn hn2 hdf hr hY F (fun w H a ns h1 _ h3 => hsp w H a ns h1 h3) fun w H s e s1 ⟨_, _, _, _, _, _, _, _, _, _, _, _, z⟩ => z
end Dc

/-! Dc: runs of the small language, step by step; what is still to come is kept as data, not as a function. -/
namespace Dc
open PySem (PyData)
def fin (ms : Modes) : Xo → R Sl
  | .rt s env => .ok s (mask ms env)
  | .nx env => .ok (.fr .none) (mask ms env)
  | .er c env => .er c (mask ms env)
  | .st => .st
theorem run_is {U : Nat → Option Def} {k f : Nat} {args env : List Sl} {d : Def} (h : U f = some d) (hl : args.length = d.modes.length) (he : args ++ List.replicate (d.slots - args.length) .un = env) : run U (k + 1) f args = fin d.modes (execs (modesOf U) (run U k) d.body env) := by
  subst he
  have e : run U (k + 1) f args = runB U (run U k) d args := by
    show (match U f with | some d => runB U (run U k) d args | none => .st) = _
    rw [h]
  rw [e]
  unfold runB
  rw [if_pos hl]
  generalize execs (modesOf U) (run U k) d.body (args ++ List.replicate (d.slots - args.length) .un) = o
  cases o <;> rfl
section
variable (md : Nat → Modes) (call : Nat → List Sl → R Sl)
def fzX : R Sl → R D
  | .ok s env => frz s env
  | .er c env => .er c env
  | .st => .st
def tbX : R D → R Bool
  | .ok d env => asBool d env
  | .er c env => .er c env
  | .st => .st
def tsX (r : R Sl) : R Bool := tbX (fzX r)
def vlX : R D → R Opd
  | .ok d env => .ok (.val d) env
  | .er c env => .er c env
  | .st => .st
def varX : Sl → Nat → Env → R Sl
  | .fr d, _, env => .ok (.fr d) env
  | .ol ds, i, env => .ok (.fr (.list ds)) (env.set i (.fr (.list ds)))
  | _, _, _ => .st
def opX : Sl → Nat → Env → R Opd
  | .fr d, _, env => .ok (.val d) env
  | .ol _, i, env => .ok (.slot i) env
  | .od _, i, env => .ok (.slot i) env
  | .un, _, _ => .st
def agX : Sl → Nat → Env → R Opd
  | .un, _, _ => .st
  | _, i, env => .ok (.slot i) env
def tupX : R (List D) → R Sl
  | .ok ds env => .ok (.fr (.tuple ds)) env
  | .er c env => .er c env
  | .st => .st
def lstX : R (List D) → R Sl
  | .ok ds env => .ok (.ol ds) env
  | .er c env => .er c env
  | .st => .st
def opt2 (p : Prim) (env : Env) : Option (List D) → R Sl
  | some ds => R.opt (primS p ds) env
  | none => .st
def primX (p : Prim) : R (List Opd) → R Sl
  | .ok os env => opt2 p env (derefs env os)
  | .er c env => .er c env
  | .st => .st
def andX (b : E) : R Bool → R Sl
  | .ok true env => ev md call b env
  | .ok false env => .ok (.fr (.bool false)) env
  | .er c env => .er c env
  | .st => .st
def orX (b : E) : R Bool → R Sl
  | .ok false env => ev md call b env
  | .ok true env => .ok (.fr (.bool true)) env
  | .er c env => .er c env
  | .st => .st
def notX : R Bool → R Sl
  | .ok b env => .ok (.fr (.bool !b)) env
  | .er c env => .er c env
  | .st => .st
def iteX (a b : E) : R Bool → R Sl
  | .ok true env => ev md call a env
  | .ok false env => ev md call b env
  | .er c env => .er c env
  | .st => .st
def chX3 (q : Prim) (y : D) : R D → R Sl
  | .ok z env => R.opt (primS q [y, z]) env
  | .er c env => .er c env
  | .st => .st
def chX2 (q : Prim) (c : E) (y : D) : R Bool → R Sl
  | .ok true env => chX3 q y (fzX (ev md call c env))
  | .ok false env => .ok (.fr (.bool false)) env
  | .er c env => .er c env
  | .st => .st
def chX1 (p q : Prim) (c : E) (x : D) : R D → R Sl
  | .ok y env => chX2 md call q c y (tbX (fzX (R.opt (primS p [x, y]) env)))
  | .er c env => .er c env
  | .st => .st
def chX (p q : Prim) (b c : E) : R D → R Sl
  | .ok x env => chX1 md call p q c x (fzX (ev md call b env))
  | .er c env => .er c env
  | .st => .st
def retX (as : List Opd) (env : Env) : R Sl → R Sl
  | .ok s os => .ok s (outs as os (holes as env))
  | .er c os => .er c (outs as os (holes as env))
  | .st => .st
def calX (f : Nat) : R (List Opd) → R Sl
  | .ok as env => retX as env (call f (as.map (argSl env)))
  | .er c env => .er c env
  | .st => .st
def cnX1 {α : Type} (a : α) : R (List α) → R (List α)
  | .ok as env => .ok (a :: as) env
  | .er c env => .er c env
  | .st => .st
def csX (es : Es) : R D → R (List D)
  | .ok a env => cnX1 a (evs md call es env)
  | .er c env => .er c env
  | .st => .st
def coX (es : Es) : R Opd → R (List Opd)
  | .ok a env => cnX1 a (evo md call es env)
  | .er c env => .er c env
  | .st => .st
def caX (ms : Modes) (es : Es) : R Opd → R (List Opd)
  | .ok a env => cnX1 a (eva md call ms es env)
  | .er c env => .er c env
  | .st => .st
def seX2 (fs : List Nat) (es : Es) (env : Env) : Option Nat → R Sl
  | some j => calX call (fs.getD j 0) (eva md call [] es env)
  | none => .st
def seX (fs : List Nat) (es : Es) : R D → R Sl
  | .ok (.int k) env => seX2 md call fs es env (place fs.length k)
  | .ok _ _ => .st
  | .er c env => .er c env
  | .st => .st
def coY (tg : List Nat) (env1 : Env) : R (List D) → R Sl
  | .ok ds env2 => .ok (.ol ds) (back tg env1 env2)
  | _ => .st
def coH (elt : E) (tg : List Nat) (cond : E) (xs : List D) (env : Env) : Bool → R Sl
  | true => coY tg env (compL tg (tst (ev md call cond)) (fz (ev md call elt)) xs (hide tg env))
  | false => .st
def cmX (elt : E) (tg : List Nat) (cond : E) : R (List D) → R Sl
  | .ok xs env => coH md call elt tg cond xs env (hideOk tg env)
  | .er c env => .er c env
  | .st => .st
def rgX : R D → R Sl
  | .ok d env => R.opt (oneS .listRg d) env
  | .er c env => .er c env
  | .st => .st
def apX2 (i : Nat) (d : D) (env : Env) : Sl → R Sl
  | .ol ds => if ds.length < PySem.sizeLine then .ok (.fr .none) (env.set i (.ol (ds ++ [d]))) else .st
  | _ => .st
def apX (i : Nat) : R D → R Sl
  | .ok d env => apX2 i d env (look env i)
  | .er c env => .er c env
  | .st => .st
def apX0 (i : Nat) (e : E) (env : Env) : Sl → R Sl
  | .ol _ => apX i (fzX (ev md call e env))
  | _ => .st
def exX2 (i : Nat) (s : Sl) (env : Env) : Sl → R Sl
  | .ol ds => match s with
    | .ol xs => if ds.length + xs.length ≤ PySem.sizeLine then .ok (.fr .none) (env.set i (.ol (ds ++ xs))) else .st
    | _ => .st
  | _ => .st
def exX (i : Nat) : R Sl → R Sl
  | .ok s env => exX2 i s env (look env i)
  | .er c env => .er c env
  | .st => .st
def exX0 (i : Nat) (e : E) (env : Env) : Sl → R Sl
  | .ol _ => exX i (ev md call e env)
  | _ => .st
def slX2 (o : Opd) (i : Int) : R D → R Sl
  | .ok (.int j) env => match deref env o with
    | some d => R.opt (sliceS (some i) (some j) d) env
    | none => .st
  | .ok _ _ => .st
  | .er c env => .er c env
  | .st => .st
def slX1 (hi : E) (o : Opd) : R D → R Sl
  | .ok (.int i) env => slX2 o i (fzX (ev md call hi env))
  | .ok _ _ => .st
  | .er c env => .er c env
  | .st => .st
def slX (lo hi : E) : R Opd → R Sl
  | .ok o env => slX1 md call hi o (fzX (ev md call lo env))
  | .er c env => .er c env
  | .st => .st
variable {md} {call}
theorem x_var {i : Nat} {env : Env} : ev md call (.var i) env = varX (look env i) i env := by
  show (match look env i with | .fr d => _ | .ol ds => _ | _ => _) = _
  cases look env i <;> rfl
theorem x_cst {d : D} {env : Env} : ev md call (.cst d) env = .ok (.fr d) env := rfl
theorem x_tup {es : Es} {env : Env} : ev md call (.tup es) env = tupX (evs md call es env) := by
  show (evs md call es env).bind _ = _
  cases evs md call es env <;> rfl
theorem x_lst {es : Es} {env : Env} : ev md call (.lst es) env = lstX (evs md call es env) := by
  show (evs md call es env).bind _ = _
  cases evs md call es env <;> rfl
theorem x_prim {p : Prim} {es : Es} {env : Env} : ev md call (.prim p es) env = primX p (evo md call es env) := by
  show (evo md call es env).bind _ = _
  cases evo md call es env with
  | ok os env1 =>
    show (match derefs env1 os with | some ds => _ | none => _) = opt2 p env1 (derefs env1 os)
    cases derefs env1 os <;> rfl
  | _ => rfl
theorem fz_x {f : Env → R Sl} {env : Env} : fz f env = fzX (f env) := by
  unfold fz
  cases f env <;> rfl
theorem tst_x {f : Env → R Sl} {env : Env} : tst f env = tsX (f env) := by
  unfold tst tsX
  rw [fz_x]
  cases fzX (f env) <;> rfl
theorem x_and {a b : E} {env : Env} : ev md call (.and a b) env = andX md call b (tsX (ev md call a env)) := by
  rw [← tst_x]
  show (tst (ev md call a) env).bind _ = _
  cases tst (ev md call a) env with
  | ok c env1 => cases c <;> rfl
  | _ => rfl
theorem x_or {a b : E} {env : Env} : ev md call (.or a b) env = orX md call b (tsX (ev md call a env)) := by
  rw [← tst_x]
  show (tst (ev md call a) env).bind _ = _
  cases tst (ev md call a) env with
  | ok c env1 => cases c <;> rfl
  | _ => rfl
theorem x_not {a : E} {env : Env} : ev md call (.not a) env = notX (tsX (ev md call a env)) := by
  rw [← tst_x]
  show (tst (ev md call a) env).bind _ = _
  cases tst (ev md call a) env <;> rfl
theorem x_ite {c a b : E} {env : Env} : ev md call (.ite c a b) env = iteX md call a b (tsX (ev md call c env)) := by
  rw [← tst_x]
  show (tst (ev md call c) env).bind _ = _
  cases tst (ev md call c) env with
  | ok c env1 => cases c <;> rfl
  | _ => rfl
theorem x_chain {p q : Prim} {a b c : E} {env : Env} : ev md call (.chain p q a b c) env = chX md call p q b c (fzX (ev md call a env)) := by
  rw [← fz_x]
  show (fz (ev md call a) env).bind _ = _
  cases fz (ev md call a) env with
  | ok x env1 =>
    show (fz (ev md call b) env1).bind _ = chX1 md call p q c x (fzX (ev md call b env1))
    rw [← fz_x]
    cases fz (ev md call b) env1 with
    | ok y env2 =>
      show (fz (R.opt (primS p [x, y])) env2).bind _ = chX2 md call q c y (tbX (fzX (R.opt (primS p [x, y]) env2)))
      rw [← fz_x (f := R.opt (primS p [x, y]))]
      cases fz (R.opt (primS p [x, y])) env2 with
      | ok d env3 =>
        show (asBool d env3).bind _ = chX2 md call q c y (asBool d env3)
        cases asBool d env3 with
        | ok k env4 =>
          cases k with
          | true =>
            show (fz (ev md call c) env4).bind _ = chX3 q y (fzX (ev md call c env4))
            rw [← fz_x]
            cases fz (ev md call c) env4 <;> rfl
          | false => rfl
        | _ => rfl
      | _ => rfl
    | _ => rfl
  | _ => rfl
theorem x_call {f : Nat} {es : Es} {env : Env} : ev md call (.call f es) env = calX call f (eva md call (md f) es env) := by
  show (eva md call (md f) es env).bind _ = _
  cases eva md call (md f) es env with
  | ok as env1 =>
    show (match call f (as.map (argSl env1)) with | .ok s os => _ | .er c os => _ | .st => _) = retX as env1 (call f (as.map (argSl env1)))
    cases call f (as.map (argSl env1)) <;> rfl
  | _ => rfl
theorem x_sel {fs : List Nat} {ix : E} {es : Es} {env : Env} : ev md call (.sel fs ix es) env = seX md call fs es (fzX (ev md call ix env)) := by
  rw [← fz_x]
  show (fz (ev md call ix) env).bind _ = _
  cases fz (ev md call ix) env with
  | ok d env1 =>
    cases d with
    | int k =>
      show (match place fs.length k with | some j => callE (call (fs.getD j 0)) (eva md call [] es) env1 | none => .st) = seX2 md call fs es env1 (place fs.length k)
      cases place fs.length k with
      | none => rfl
      | some j =>
        show (eva md call [] es env1).bind _ = calX call (fs.getD j 0) (eva md call [] es env1)
        cases eva md call [] es env1 with
        | ok as env2 =>
          show (match call (fs.getD j 0) (as.map (argSl env2)) with | .ok s os => _ | .er c os => _ | .st => _) = retX as env2 (call (fs.getD j 0) (as.map (argSl env2)))
          cases call (fs.getD j 0) (as.map (argSl env2)) <;> rfl
        | _ => rfl
    | _ => rfl
  | _ => rfl
theorem x_comp {elt cond : E} {tg : List Nat} {it : Itr} {env : Env} : ev md call (.comp elt tg it cond) env = cmX md call elt tg cond (evi md call it env) := by
  show (evi md call it env).bind _ = _
  cases evi md call it env with
  | ok xs env1 =>
    show (match hideOk tg env1 with | true => _ | false => _) = coH md call elt tg cond xs env1 (hideOk tg env1)
    cases hideOk tg env1 with
    | false => rfl
    | true =>
      show (noEr (compL tg (tst (ev md call cond)) (fz (ev md call elt)) xs (hide tg env1))).bind _ = coY tg env1 (compL tg (tst (ev md call cond)) (fz (ev md call elt)) xs (hide tg env1))
      cases compL tg (tst (ev md call cond)) (fz (ev md call elt)) xs (hide tg env1) <;> rfl
  | _ => rfl
theorem x_rg {a : E} {env : Env} : ev md call (.rg a) env = rgX (fzX (ev md call a env)) := by
  rw [← fz_x]
  show (fz (ev md call a) env).bind _ = _
  cases fz (ev md call a) env <;> rfl
theorem x_app {i : Nat} {e : E} {env : Env} : ev md call (.app i e) env = apX0 md call i e env (look env i) := by
  show (match look env i with | .ol _ => _ | _ => _) = _
  cases look env i with
  | ol ds =>
    show (fz (ev md call e) env).bind _ = apX i (fzX (ev md call e env))
    rw [← fz_x]
    cases fz (ev md call e) env with
    | ok d env1 =>
      show (match look env1 i with | .ol ds => _ | _ => _) = apX2 i d env1 (look env1 i)
      cases look env1 i <;> rfl
    | _ => rfl
  | _ => rfl
theorem x_ext {i : Nat} {e : E} {env : Env} : ev md call (.ext i e) env = exX0 md call i e env (look env i) := by
  show (match look env i with | .ol _ => _ | _ => _) = _
  cases look env i with
  | ol ds =>
    show (ev md call e env).bind _ = exX i (ev md call e env)
    cases ev md call e env with
    | ok s env1 =>
      show (match s, look env1 i with | .ol xs, .ol ds => _ | _, _ => _) = exX2 i s env1 (look env1 i)
      cases s <;> cases look env1 i <;> rfl
    | _ => rfl
  | _ => rfl
theorem opd_v {i : Nat} {env : Env} : opd (.var i) (ev md call (.var i)) env = opX (look env i) i env := by
  show (match look env i with | .ol _ => R.ok (Opd.slot i) env | .od _ => R.ok (Opd.slot i) env | _ => (fz (ev md call (.var i)) env).bind fun d env1 => .ok (.val d) env1) = _
  rw [fz_x, x_var]
  cases look env i <;> rfl
theorem opd_e {e : E} {f : Env → R Sl} {env : Env} (h : ∀ i, e ≠ .var i) : opd e f env = vlX (fzX (f env)) := by
  have k : ((fz f env).bind fun d env1 => R.ok (Opd.val d) env1) = vlX (fzX (f env)) := by
    rw [fz_x]
    cases fzX (f env) <;> rfl
  rw [← k]
  cases e with
  | var i => exact absurd rfl (h i)
  | _ => rfl
theorem x_sl2 {a lo hi : E} {env : Env} : ev md call (.sl2 a lo hi) env = slX md call lo hi (opd a (ev md call a) env) := by
  show (opd a (ev md call a) env).bind _ = _
  cases opd a (ev md call a) env with
  | ok o env1 =>
    show (fz (ev md call lo) env1).bind _ = slX1 md call hi o (fzX (ev md call lo env1))
    rw [← fz_x]
    cases fz (ev md call lo) env1 with
    | ok d env2 =>
      cases d with
      | int i =>
        show (fz (ev md call hi) env2).bind _ = slX2 o i (fzX (ev md call hi env2))
        rw [← fz_x]
        cases fz (ev md call hi) env2 with
        | ok d2 env3 =>
          cases d2 with
          | int j =>
            show (R.opt (deref env3 o) env3).bind _ = (match deref env3 o with | some d => R.opt (sliceS (some i) (some j) d) env3 | none => .st)
            cases deref env3 o <;> rfl
          | _ => rfl
        | _ => rfl
      | _ => rfl
    | _ => rfl
  | _ => rfl
theorem s_nil' {env : Env} : evs md call .nil env = .ok [] env := rfl
theorem s_cons' {e : E} {es : Es} {env : Env} : evs md call (.cons e es) env = csX md call es (fzX (ev md call e env)) := by
  rw [← fz_x]
  show two (fz (ev md call e)) (evs md call es) env = _
  unfold two
  cases fz (ev md call e) env with
  | ok a env1 =>
    show (evs md call es env1).bind _ = cnX1 a (evs md call es env1)
    cases evs md call es env1 <;> rfl
  | _ => rfl
theorem o_nil' {env : Env} : evo md call .nil env = .ok [] env := rfl
theorem o_cons' {e : E} {es : Es} {env : Env} : evo md call (.cons e es) env = coX md call es (opd e (ev md call e) env) := by
  show two (opd e (ev md call e)) (evo md call es) env = _
  unfold two
  cases opd e (ev md call e) env with
  | ok a env1 =>
    show (evo md call es env1).bind _ = cnX1 a (evo md call es env1)
    cases evo md call es env1 <;> rfl
  | _ => rfl
theorem a_nil' {ms : Modes} {env : Env} : eva md call ms .nil env = .ok [] env := by cases ms <;> rfl
theorem a_cons' {ms : Modes} {e : E} {es : Es} {env : Env} : eva md call ms (.cons e es) env = caX md call ms.tail es (arg (ms.headD false) e (ev md call e) env) := by
  have k : eva md call ms (.cons e es) env = two (arg (ms.headD false) e (ev md call e)) (eva md call ms.tail es) env := by cases ms <;> rfl
  rw [k]
  unfold two
  cases arg (ms.headD false) e (ev md call e) env with
  | ok a env1 =>
    show (eva md call ms.tail es env1).bind _ = cnX1 a (eva md call ms.tail es env1)
    cases eva md call ms.tail es env1 <;> rfl
  | _ => rfl
theorem arg_f {e : E} {f : Env → R Sl} {env : Env} : arg false e f env = vlX (fzX (f env)) := by
  have k : ((fz f env).bind fun d env1 => R.ok (Opd.val d) env1) = vlX (fzX (f env)) := by
    rw [fz_x]
    cases fzX (f env) <;> rfl
  rw [← k]
  rfl
theorem arg_t {i : Nat} {f : Env → R Sl} {env : Env} : arg true (.var i) f env = agX (look env i) i env := by
  show (match look env i with | .un => _ | _ => _) = _
  cases look env i <;> rfl
/-! walks -/
def sqX : R D → R (List D)
  | .ok d env => R.opt (seqI d) env
  | .er c env => .er c env
  | .st => .st
def r1X : R D → R (List D)
  | .ok (.int n) env => if rgOk 0 n then .ok (rngD 0 n) env else .st
  | .ok _ _ => .st
  | .er c env => .er c env
  | .st => .st
def r2X2 (n : Int) : R D → R (List D)
  | .ok (.int m) env => if rgOk n m then .ok (rngD n m) env else .st
  | .ok _ _ => .st
  | .er c env => .er c env
  | .st => .st
def enX : R D → R (List D)
  | .ok (.list xs) env => .ok (enumD 0 xs) env
  | .ok (.tuple xs) env => .ok (enumD 0 xs) env
  | .ok _ _ => .st
  | .er c env => .er c env
  | .st => .st
def zpX2 (d : D) : R D → R (List D)
  | .ok d2 env => R.opt (zipI d d2) env
  | .er c env => .er c env
  | .st => .st
variable (md) (call) in
def zpX (b : E) : R D → R (List D)
  | .ok d env => zpX2 d (fzX (ev md call b env))
  | .er c env => .er c env
  | .st => .st
theorem i_seq' {e : E} {env : Env} : evi md call (.seq e) env = sqX (fzX (ev md call e env)) := by
  rw [← fz_x]
  show (fz (ev md call e) env).bind _ = _
  cases fz (ev md call e) env <;> rfl
theorem i_rng1' {e : E} {env : Env} : evi md call (.rng1 e) env = r1X (fzX (ev md call e env)) := by
  rw [← fz_x]
  show (fz (ev md call e) env).bind _ = _
  cases fz (ev md call e) env with
  | ok d env1 => cases d <;> rfl
  | _ => rfl
theorem i_enum' {e : E} {env : Env} : evi md call (.enum e) env = enX (fzX (ev md call e env)) := by
  rw [← fz_x]
  show (fz (ev md call e) env).bind _ = _
  cases fz (ev md call e) env with
  | ok d env1 => cases d <;> rfl
  | _ => rfl
theorem i_zip' {a b : E} {env : Env} : evi md call (.zip a b) env = zpX md call b (fzX (ev md call a env)) := by
  rw [← fz_x]
  show (fz (ev md call a) env).bind _ = _
  cases fz (ev md call a) env with
  | ok d env1 =>
    show (fz (ev md call b) env1).bind _ = zpX2 d (fzX (ev md call b env1))
    rw [← fz_x]
    cases fz (ev md call b) env1 <;> rfl
  | _ => rfl
/-! comprehensions, turn by turn -/
def clZ (tg : List Nat) (c : Env → R Bool) (f : Env → R D) (xs : List D) : R D → R (List D)
  | .ok d env => cnX1 d (compL tg c f xs (hide tg env))
  | .er c env => .er c env
  | .st => .st
def clY (tg : List Nat) (c : Env → R Bool) (f : Env → R D) (xs : List D) : R Bool → R (List D)
  | .ok true env => clZ tg c f xs (f env)
  | .ok false env => compL tg c f xs (hide tg env)
  | .er c env => .er c env
  | .st => .st
def clX (tg : List Nat) (c : Env → R Bool) (f : Env → R D) (xs : List D) : Option Env → R (List D)
  | some env => clY tg c f xs (c env)
  | none => .st
theorem cl_nil {tg : List Nat} {c : Env → R Bool} {f : Env → R D} {env : Env} : compL tg c f [] env = .ok [] env := rfl
theorem cl_cons {tg : List Nat} {c : Env → R Bool} {f : Env → R D} {x : D} {xs : List D} {env : Env} : compL tg c f (x :: xs) env = clX tg c f xs (bindT tg x env) := by
  show (match bindT tg x env with | some env1 => _ | none => _) = _
  cases bindT tg x env with
  | none => rfl
  | some env1 =>
    show (c env1).bind _ = clY tg c f xs (c env1)
    cases c env1 with
    | ok b env2 =>
      cases b with
      | true =>
        show (f env2).bind _ = clZ tg c f xs (f env2)
        cases f env2 with
        | ok d env3 =>
          show (compL tg c f xs (hide tg env3)).bind _ = cnX1 d (compL tg c f xs (hide tg env3))
          cases compL tg c f xs (hide tg env3) <;> rfl
        | _ => rfl
      | false => rfl
    | _ => rfl
theorem run_succ {U : Nat → Option Def} {k f : Nat} {args : List Sl} {d : Def} (h : U f = some d) : run U (k + 1) f args = runB U (run U k) d args := by
  show (match U f with | some d => runB U (run U k) d args | none => .st) = _
  rw [h]
/-! statements -/
variable (md) (call) in
def sqS (ss : Ss) : Xo → Xo
  | .nx env => execs md call ss env
  | o => o
def asS (i : Nat) : R Sl → Xo
  | .ok s env => .nx (env.set i s)
  | .er c env => .er c env
  | .st => .st
def xxS : R Sl → Xo
  | .ok _ env => .nx env
  | .er c env => .er c env
  | .st => .st
def rtS : R Sl → Xo
  | .ok s env => .rt s env
  | .er c env => .er c env
  | .st => .st
def rvS : Sl → Nat → Env → Xo
  | .un, _, _ => .st
  | s, i, env => .rt s (env.set i .un)
variable (md) (call) in
def ifS (a b : Ss) : R Bool → Xo
  | .ok true env => execs md call a env
  | .ok false env => execs md call b env
  | .er c env => .er c env
  | .st => .st
variable (md) (call) in
def foS (tg : List Nat) (body : Ss) : R (List D) → Xo
  | .ok xs env => forL tg (execs md call body) xs env
  | .er c env => .er c env
  | .st => .st
def btS : Option Env → Xo
  | some env => .nx env
  | none => .st
def atS (is : List Nat) : R D → Xo
  | .ok d env => btS (bindT is d env)
  | .er c env => .er c env
  | .st => .st
variable (md) (call) in
def trS (cs : List Nat) (h : Hd) : Xo → Xo
  | .er c env1 => if cs.contains c then match h with
      | .retWhich i => .rt (.fr (whichD c)) (env1.set i .un)
      | .asgWhich i j => .nx ((env1.set i .un).set j (.fr (whichD c)))
      | .retE e => (noEr (ev md call e env1)).go fun s env2 => .rt s env2
      | .raise c2 => .er c2 env1
      else .st
  | o => o
theorem e_nil {env : Env} : execs md call .nil env = .nx env := rfl
theorem e_cons {s : S} {ss : Ss} {env : Env} : execs md call (.cons s ss) env = sqS md call ss (exec md call s env) := by
  show (exec md call s env).bind _ = _
  cases exec md call s env <;> rfl
theorem e_asg {i : Nat} {e : E} {env : Env} : exec md call (.asg i e) env = asS i (ev md call e env) := by
  show (ev md call e env).go _ = _
  cases ev md call e env <;> rfl
theorem e_asgT {is : List Nat} {e : E} {env : Env} : exec md call (.asgT is e) env = atS is (fzX (ev md call e env)) := by
  rw [← fz_x]
  show (fz (ev md call e) env).go _ = _
  cases fz (ev md call e) env with
  | ok d env1 =>
    show (match bindT is d env1 with | some env2 => _ | none => _) = btS (bindT is d env1)
    cases bindT is d env1 <;> rfl
  | _ => rfl
theorem e_ex {e : E} {env : Env} : exec md call (.ex e) env = xxS (ev md call e env) := by
  show (ev md call e env).go _ = _
  cases ev md call e env <;> rfl
theorem e_retV {i : Nat} {env : Env} : exec md call (.ret (.var i)) env = rvS (look env i) i env := by
  show (match look env i with | .un => _ | s => _) = _
  cases look env i <;> rfl
theorem e_ret {e : E} {env : Env} (h : ∀ i, e ≠ .var i) : exec md call (.ret e) env = rtS (ev md call e env) := by
  have k : ((ev md call e env).go fun s env1 => Xo.rt s env1) = rtS (ev md call e env) := by cases ev md call e env <;> rfl
  rw [← k]
  cases e with
  | var i => exact absurd rfl (h i)
  | _ => rfl
theorem e_if {c : E} {a b : Ss} {env : Env} : exec md call (.iff c a b) env = ifS md call a b (tsX (ev md call c env)) := by
  rw [← tst_x]
  show (tst (ev md call c) env).go _ = _
  cases tst (ev md call c) env with
  | ok k env1 => cases k <;> rfl
  | _ => rfl
theorem e_for {tg : List Nat} {it : Itr} {body : Ss} {env : Env} : exec md call (.for tg it body) env = foS md call tg body (evi md call it env) := by
  show (evi md call it env).go _ = _
  cases evi md call it env <;> rfl
theorem e_raise {c : Nat} {env : Env} : exec md call (.raise c) env = .er c env := rfl
theorem e_pass {env : Env} : exec md call .pass env = .nx env := rfl
theorem e_tr {cs : List Nat} {body : Ss} {h : Hd} {env : Env} : exec md call (.tr cs body h) env = trS md call cs h (execs md call body env) := by
  show (match execs md call body env with | .er c env1 => _ | o => o) = _
  cases execs md call body env <;> rfl
theorem look_0 {s : Sl} {env : Env} : look (s :: env) 0 = s := rfl
theorem look_1 {s : Sl} {env : Env} {i : Nat} : look (s :: env) (i + 1) = look env i := rfl
theorem guard_t {x : Option Sl} : guard true x = x := rfl
theorem guard_f {x : Option Sl} : guard false x = none := rfl
theorem opt_n {α : Type} {e : Env} : (R.opt none e : R α) = .st := rfl
theorem mul_r {i j : Int} (h : small64 j = true) : mulS (.int i) (.int j) = some (.fr (.int (i * j))) := by
  show guard (small64 i || small64 j) _ = _
  rw [h, Bool.or_true]
  rfl
theorem mul_l {i j : Int} (h : small64 i = true) : mulS (.int i) (.int j) = some (.fr (.int (i * j))) := by
  show guard (small64 i || small64 j) _ = _
  rw [h, Bool.true_or]
  rfl
theorem s64_nat {n : Nat} (h : n < 2 ^ 64) : small64 (n : Int) = true := by
  unfold small64
  rw [decide_eq_true (show -(2 ^ 64) < (n : Int) by omega), decide_eq_true (show (n : Int) < 2 ^ 64 by omega)]
  rfl
theorem pow_okP {i : Int} {n : Nat} (h : i.natAbs < 2 ^ 64) (hn : n ≤ 1000000) : twoS .pow (.int i) (.int (n : Int)) = some (.fr (.int (i ^ n))) := by
  show guard (decide (0 ≤ (n : Int)) && decide ((n : Int) ≤ 1000000) && decide (i.natAbs < 2 ^ 64)) (i2 (i ^ (n : Int).toNat)) = _
  rw [decide_eq_true (show (0 : Int) ≤ n by omega), decide_eq_true (show (n : Int) ≤ 1000000 by omega), decide_eq_true h, Int.toNat_natCast]
  rfl
theorem fmod_r {i : Int} {m : Nat} (h : 0 < m) : 0 ≤ i.fmod (m : Int) ∧ i.fmod (m : Int) < m := by
  rw [Int.fmod_eq_emod_of_nonneg _ (by omega)]
  exact ⟨Int.emod_nonneg _ (by omega), Int.emod_lt_of_pos _ (by omega)⟩
theorem opt_s {α : Type} {a : α} {e : Env} : R.opt (some a) e = .ok a e := rfl
theorem frz_fr {d : D} {e : Env} : frz (.fr d) e = .ok d e := rfl
theorem frz_ol {ds : List D} {e : Env} : frz (.ol ds) e = .ok (.list ds) e := rfl
theorem asB {b : Bool} {e : Env} : asBool (.bool b) e = .ok b e := rfl
theorem lt_int {i j : Int} : ltS (.int i) (.int j) = some (.fr (.bool (decide (i < j)))) := rfl
theorem add_int {i j : Int} : addS (.int i) (.int j) = some (.fr (.int (i + j))) := rfl
theorem mul_int {i j : Int} (h : (small64 i || small64 j) = true) : mulS (.int i) (.int j) = some (.fr (.int (i * j))) := by
  show guard (small64 i || small64 j) _ = _
  rw [h]
  rfl
theorem item_l {xs : List D} {i : Int} {d : D} (h : ((place xs.length i).bind fun j => xs[j]?) = some d) : itemS (.list xs) (.int i) = some (.fr d) := by
  show ((place xs.length i).bind fun j => xs[j]?).map Sl.fr = _
  rw [h]
  rfl
theorem place_nat {n j : Nat} (h : j < n) : place n (j : Int) = some j := by
  unfold place
  rw [if_pos (Int.natCast_nonneg j), if_pos (Int.ofNat_lt.mpr h), Int.toNat_natCast]
end
/-! ### whole walks -/
/-- a comprehension whose test and item leave the slots as they are: p says which items, g what of them -/
theorem comp_pure {tg : List Nat} {c : Env → R Bool} {f : Env → R D} {p : D → Bool} {g : D → D} {env : Env} : ∀ (xs : List D),
    (∀ x ∈ xs, ∃ env1, bindT tg x env = some env1 ∧ c env1 = .ok (p x) env1 ∧ (p x = true → f env1 = .ok (g x) env1) ∧ hide tg env1 = env) → compL tg c f xs env = .ok ((xs.filter p).map g) env
  | [], _ => rfl
  | x :: xs, h => by
    obtain ⟨env1, h1, h2, h3, h4⟩ := h x List.mem_cons_self
    have ih := comp_pure (p := p) (g := g) xs fun y m => h y (List.mem_cons_of_mem _ m)
    rw [cl_cons, h1]
    show clY tg c f xs (c env1) = _
    rw [h2]
    cases e : p x with
    | false =>
      show compL tg c f xs (hide tg env1) = _
      rw [h4, ih, List.filter_cons_of_neg (by rw [e]; exact Bool.false_ne_true)]
    | true =>
      show clZ tg c f xs (f env1) = _
      rw [h3 e]
      show cnX1 (g x) (compL tg c f xs (hide tg env1)) = _
      rw [h4, ih, List.filter_cons_of_pos e]
      rfl
/-- a for loop: I tells the slots by the items that are done -/
theorem for_inv {tg : List Nat} {b : Env → Xo} {I : List D → Env} : ∀ (xs done : List D),
    (∀ (pre : List D) (x : D), x ∈ xs → ∃ env1, bindT tg x (I pre) = some env1 ∧ b env1 = .nx (I (pre ++ [x]))) → forL tg b xs (I done) = .nx (I (done ++ xs))
  | [], done, _ => by
    rw [List.append_nil]
    rfl
  | x :: xs, done, h => by
    obtain ⟨env1, h1, h2⟩ := h done x List.mem_cons_self
    show (match bindT tg x (I done) with | some env1 => (b env1).bind (forL tg b xs) | none => .st) = _
    rw [h1]
    show (b env1).bind (forL tg b xs) = _
    rw [h2]
    show forL tg b xs (I (done ++ [x])) = _
    rw [for_inv xs (done ++ [x]) fun pre y m => h pre y (List.mem_cons_of_mem _ m), List.append_assoc]
    rfl
theorem for_rel {tg : List Nat} {b : Env → Xo} {P : List D → Env → Prop} : ∀ (xs done : List D) (env : Env), P done env →
    (∀ (pre : List D) (x : D) (env : Env), x ∈ xs → P pre env → ∃ env1 env2, bindT tg x env = some env1 ∧ b env1 = .nx env2 ∧ P (pre ++ [x]) env2) → ∃ env2, forL tg b xs env = .nx env2 ∧ P (done ++ xs) env2
  | [], done, env, h0, _ => ⟨env, rfl, by rw [List.append_nil]; exact h0⟩
  | x :: xs, done, env, h0, h => by
    obtain ⟨env1, env2, h1, h2, h3⟩ := h done x env List.mem_cons_self h0
    obtain ⟨env3, h4, h5⟩ := for_rel xs (done ++ [x]) env2 h3 fun pre y e m => h pre y e (List.mem_cons_of_mem _ m)
    refine ⟨env3, ?_, by rw [← List.singleton_append, ← List.append_assoc]; exact h5⟩
    show (match bindT tg x env with | some env1 => (b env1).bind (forL tg b xs) | none => .st) = _
    rw [h1]
    show (b env1).bind (forL tg b xs) = _
    rw [h2]
    exact h4
theorem for_ix {tg : List Nat} {b : Env → Xo} : ∀ (xs : List D) {P : Nat → Env → Prop} {env : Env}, P 0 env →
    (∀ (i : Nat) (hi : i < xs.length) (env : Env), P i env → ∃ env1 env2, bindT tg xs[i] env = some env1 ∧ b env1 = .nx env2 ∧ P (i + 1) env2) → ∃ env2, forL tg b xs env = .nx env2 ∧ P xs.length env2
  | [], _, env, h0, _ => ⟨env, rfl, h0⟩
  | x :: xs, P, env, h0, h => by
    obtain ⟨env1, env2, h1, h2, h3⟩ := h 0 (Nat.succ_pos _) env h0
    obtain ⟨env3, h4, h5⟩ := for_ix xs (P := fun i => P (i + 1)) h3 fun i hi e p => h (i + 1) (Nat.succ_lt_succ hi) e p
    refine ⟨env3, ?_, h5⟩
    show (match bindT tg x env with | some env1 => (b env1).bind (forL tg b xs) | none => .st) = _
    rw [show bindT tg x env = some env1 from h1]
    show (b env1).bind (forL tg b xs) = _
    rw [h2]
    exact h4
end Dc

/-! Dc: from the small language to plain Lean functions over plain types: what holds of the slots, and a rule for each construct. -/
namespace Nt
open Dc
open PySem (PyData)
/-- what is known of a slot -/
inductive Sp where
  | any | nn | fr (d : D) | va (d : D) | ow (ds : List D) | dc (ds : List D)
def Sp.ok : Sp → Sl → Prop
  | .any, _ => True
  | .nn, s => notOwn s = true
  | .fr d, s => s = .fr d
  | .va d, s => toD s = some d
  | .ow ds, s => s = .ol ds
  | .dc kvs, s => s = .od kvs
def Sp.dat : Sp → Option D
  | .fr d => some d
  | .va d => some d
  | .ow ds => some (.list ds)
  | _ => none
def Sp.nown : Sp → Bool
  | .nn => true
  | .fr _ => true
  | _ => false
theorem Sp.toD {sp : Sp} {s : Sl} {d : D} (h : sp.ok s) (e : sp.dat = some d) : Dc.toD s = some d := by
  cases sp with
  | fr d2 =>
    cases e
    cases h
    rfl
  | va d2 =>
    cases e
    exact h
  | ow ds =>
    cases e
    cases h
    rfl
  | _ => cases e
theorem toD_cs {sl : Sl} {d : D} (h : toD sl = some d) : sl = .fr d ∨ ∃ ds, sl = .ol ds ∧ d = .list ds := by
  cases sl with
  | fr e =>
    cases h
    exact .inl rfl
  | ol ds =>
    cases h
    exact .inr ⟨ds, rfl, rfl⟩
  | _ => cases h
theorem Sp.nownOk {sp : Sp} {s : Sl} (h : sp.ok s) (e : sp.nown = true) : notOwn s = true := by
  cases sp with
  | nn => exact h
  | fr d =>
    cases h
    rfl
  | _ => cases e
def Rel : List Sp → Env → Prop
  | [], [] => True
  | a :: A, s :: env => a.ok s ∧ Rel A env
  | _, _ => False
theorem Rel.nil : Rel [] [] := trivial
theorem Rel.cons {a : Sp} {A : List Sp} {s : Sl} {env : Env} (h : a.ok s) (t : Rel A env) : Rel (a :: A) (s :: env) := ⟨h, t⟩
theorem Rel.len : ∀ {A : List Sp} {env : Env}, Rel A env → env.length = A.length
  | [], [], _ => rfl
  | _ :: _, _ :: _, h => congrArg Nat.succ (Rel.len h.2)
  | [], _ :: _, h => h.elim
  | _ :: _, [], h => h.elim
theorem Rel.at : ∀ {A : List Sp} {env : Env} {i : Nat} {sp : Sp}, Rel A env → A[i]? = some sp → sp.ok (look env i)
  | [], _, _, _, _, h => by cases h
  | a :: A, [], _, _, r, _ => r.elim
  | a :: A, s :: env, 0, _, r, h => by
    cases h
    exact r.1
  | a :: A, s :: env, i + 1, sp, r, h => Rel.at (i := i) r.2 h
theorem Rel.set : ∀ {A : List Sp} {env : Env} {i : Nat} {sp : Sp} {s : Sl}, Rel A env → sp.ok s → Rel (A.set i sp) (env.set i s)
  | [], [], _, _, _, _, _ => trivial
  | _ :: _, _ :: _, 0, _, _, r, h => ⟨h, r.2⟩
  | _ :: _, _ :: _, _ + 1, _, _, r, h => ⟨r.1, Rel.set r.2 h⟩
  | [], _ :: _, _, _, _, h, _ => h.elim
  | _ :: _, [], _, _, _, h, _ => h.elim
theorem Rel.lt {A : List Sp} {env : Env} {i : Nat} {sp : Sp} (r : Rel A env) (h : A[i]? = some sp) : i < env.length := by
  rw [r.len]
  exact (List.getElem?_eq_some_iff.mp h).1
theorem set_look {env : Env} {i : Nat} (h : i < env.length) : env.set i (look env i) = env := by
  have e : look env i = env[i] := by
    unfold look
    rw [List.getD_eq_getElem?_getD, List.getElem?_eq_getElem h]
    rfl
  rw [e, List.set_getElem_self]
/-! weaker -/
def Sp.le (a b : Sp) : Prop := ∀ s, a.ok s → b.ok s
theorem le_rfl {a : Sp} : a.le a := fun _ h => h
theorem le_any {a : Sp} : a.le .any := fun _ _ => trivial
theorem le_va {a : Sp} {d : D} (h : a.dat = some d) : a.le (.va d) := fun _ k => Sp.toD k h
theorem le_nn {a : Sp} (h : a.nown = true) : a.le .nn := fun _ k => Sp.nownOk k h
def Sub : List Sp → List Sp → Prop
  | [], [] => True
  | a :: A, b :: B => a.le b ∧ Sub A B
  | _, _ => False
theorem sb_nil : Sub [] [] := trivial
theorem sb_cons {a b : Sp} {A B : List Sp} (h : a.le b) (t : Sub A B) : Sub (a :: A) (b :: B) := ⟨h, t⟩
theorem sb_rfl : ∀ {A : List Sp}, Sub A A
  | [] => trivial
  | _ :: _ => ⟨le_rfl, sb_rfl⟩
theorem Rel.mono : ∀ {A B : List Sp} {env : Env}, Sub A B → Rel A env → Rel B env
  | [], [], [], _, _ => trivial
  | _ :: _, _ :: _, _ :: _, s, r => ⟨s.1 _ r.1, Rel.mono s.2 r.2⟩
  | [], _ :: _, _, s, _ => s.elim
  | _ :: _, [], _, s, _ => s.elim
  | [], [], _ :: _, _, r => r.elim
  | _ :: _, _ :: _, [], _, r => r.elim
/-! outcomes -/
inductive O where
  | nx (A : List Sp) | rt (sp : Sp) (A : List Sp) | er (c : Nat) (A : List Sp)
def SatR : O → R Sl → Prop
  | .rt sp A, r => ∃ s env, r = .ok s env ∧ sp.ok s ∧ Rel A env
  | .er c A, r => ∃ env, r = .er c env ∧ Rel A env
  | .nx _, _ => False
def SatX : O → Xo → Prop
  | .nx A, x => ∃ env, x = .nx env ∧ Rel A env
  | .rt sp A, x => ∃ s env, x = .rt s env ∧ sp.ok s ∧ Rel A env
  | .er c A, x => ∃ env, x = .er c env ∧ Rel A env
inductive Imp : O → O → Prop where
  | nx {A B : List Sp} (h : Sub A B) : Imp (.nx A) (.nx B)
  | rt {a b : Sp} {A B : List Sp} (g : a.le b) (h : Sub A B) : Imp (.rt a A) (.rt b B)
  | er {c : Nat} {A B : List Sp} (h : Sub A B) : Imp (.er c A) (.er c B)
theorem SatX.imp {a b : O} {x : Xo} (i : Imp a b) (h : SatX a x) : SatX b x := by
  cases i with
  | nx s =>
    obtain ⟨env, e, r⟩ := h
    exact ⟨env, e, r.mono s⟩
  | rt g s =>
    obtain ⟨sl, env, e, k, r⟩ := h
    exact ⟨sl, env, e, g _ k, r.mono s⟩
  | er s =>
    obtain ⟨env, e, r⟩ := h
    exact ⟨env, e, r.mono s⟩
/-! what is called -/
def CallO {ρ : Type} (call : Nat → List Sl → R Sl) (f : Nat) (as : List Sp) (OF : ρ → O) (n : ρ) : Prop := ∀ args, Rel as args → SatR (OF n) (call f args)
theorem CallO.eq {ρ : Type} {call : Nat → List Sl → R Sl} {f : Nat} {as : List Sp} {OF : ρ → O} {p v : ρ} (e : p = v) (h : CallO call f as OF v) : CallO call f as OF p := e ▸ h
theorem CallO.eq2 {ρ : Type} {call : Nat → List Sl → R Sl} {f : Nat} {as : List Sp} {OF : ρ → O} {p v : ρ} (e : v = p) (h : CallO call f as OF v) : CallO call f as OF p := e ▸ h
def bnd {α : Sort u} {β : Sort v} (a : α) (f : α → β) : β := f a
theorem bnd_at {α : Type} {p v : α} {okf : α → Prop} (e : p = v) (h : bnd v okf) : okf p := e ▸ h
def exc {α β : Type} (v : Except Nat α) (h : Nat → β) (f : α → β) : β := match v with
  | .ok a => f a
  | .error c => h c
def excP {α : Type} (v : Except Nat α) (okf : α → Prop) : Prop := match v with
  | .ok a => okf a
  | .error _ => True
theorem excP_at {α : Type} {v : Except Nat α} {p : α} {okf : α → Prop} (e : v = .ok p) (h : excP v okf) : okf p := by
  subst e
  exact h
section
variable (md : Nat → Modes) (call : Nat → List Sl → R Sl)
def EV (e : E) (A : List Sp) (sp : Sp) (A' : List Sp) : Prop := ∀ env, Rel A env → ∃ s env', ev md call e env = .ok s env' ∧ sp.ok s ∧ Rel A' env'
def EF (e : E) (A : List Sp) (d : D) (A' : List Sp) : Prop := ∀ env, Rel A env → ∃ env', fzX (ev md call e env) = .ok d env' ∧ Rel A' env'
def EB (e : E) (A : List Sp) (b : Bool) (A' : List Sp) : Prop := ∀ env, Rel A env → ∃ env', tsX (ev md call e env) = .ok b env' ∧ Rel A' env'
def EO (es : Es) (A : List Sp) (ds : List D) (A' : List Sp) : Prop := ∀ env, Rel A env → ∃ os env', evo md call es env = .ok os env' ∧ derefs env' os = some ds ∧ Rel A' env'
def ES (es : Es) (A : List Sp) (ds : List D) (A' : List Sp) : Prop := ∀ env, Rel A env → ∃ env', evs md call es env = .ok ds env' ∧ Rel A' env'
def EA (ms : Modes) (es : Es) (A : List Sp) (os : List Opd) (A' : List Sp) : Prop := ∀ env, Rel A env → ∃ env', eva md call ms es env = .ok os env' ∧ Rel A' env'
def EI (it : Itr) (A : List Sp) (ds : List D) (A' : List Sp) : Prop := ∀ env, Rel A env → ∃ env', evi md call it env = .ok ds env' ∧ Rel A' env'
/-- a refusal comes out of it -/
def ER (e : E) (A : List Sp) (c : Nat) (A' : List Sp) : Prop := ∀ env, Rel A env → ∃ env', ev md call e env = .er c env' ∧ Rel A' env'
def XT {ρ : Type} (ss : Ss) (A : List Sp) (Of : ρ → O) (n : ρ) : Prop := ∀ env, Rel A env → SatX (Of n) (execs md call ss env)
end
def isVar : E → Bool
  | .var _ => true
  | _ => false
theorem notVar {e : E} (h : isVar e = false) : ∀ i, e ≠ .var i := by
  intro i q
  subst q
  cases h
section
variable {md : Nat → Modes} {call : Nat → List Sl → R Sl} {A A1 A2 A3 A4 A5 : List Sp}
theorem EV.le {e : E} {a b : Sp} (l : a.le b) (h : EV md call e A a A1) : EV md call e A b A1 := fun env r => by
  obtain ⟨s, env', p, q, t⟩ := h env r
  exact ⟨s, env', p, l s q, t⟩
theorem EV.sub {e : E} {a : Sp} (l : Sub A1 A2) (h : EV md call e A a A1) : EV md call e A a A2 := fun env r => by
  obtain ⟨s, env', p, q, t⟩ := h env r
  exact ⟨s, env', p, q, t.mono l⟩
theorem EV.ef {e : E} {sp : Sp} {d : D} (hd : sp.dat = some d) (h : EV md call e A sp A1) : EF md call e A d A1 := fun env r => by
  obtain ⟨s, env', p, q, t⟩ := h env r
  refine ⟨env', ?_, t⟩
  rw [p]
  show R.opt (toD s) env' = _
  rw [Sp.toD q hd]
  rfl
theorem EF.eb {e : E} {b : Bool} (h : EF md call e A (.bool b) A1) : EB md call e A b A1 := fun env r => by
  obtain ⟨env', p, t⟩ := h env r
  refine ⟨env', ?_, t⟩
  unfold tsX
  rw [p]
  rfl
theorem EV.eb {e : E} {sp : Sp} {b : Bool} (hd : sp.dat = some (.bool b)) (h : EV md call e A sp A1) : EB md call e A b A1 := (h.ef hd).eb
/-! expressions -/
theorem ev_varF {i : Nat} {d : D} (h : A[i]? = some (.fr d)) : EV md call (.var i) A (.fr d) A := fun env r => by
  have e : look env i = .fr d := r.at h
  refine ⟨.fr d, env, ?_, rfl, r⟩
  rw [x_var, e]
  rfl
theorem ev_varV {i : Nat} {d : D} (h : A[i]? = some (.va d)) : EV md call (.var i) A (.fr d) A := fun env r => by
  have e : toD (look env i) = some d := r.at h
  have hl := r.lt h
  rcases toD_cs e with q | ⟨ds, q, rfl⟩
  · refine ⟨.fr d, env, ?_, rfl, r⟩
    rw [x_var, q]
    rfl
  · refine ⟨.fr (.list ds), env.set i (.fr (.list ds)), ?_, rfl, ?_⟩
    · rw [x_var, q]
      rfl
    · have z := r.set (i := i) (sp := .va (.list ds)) (s := .fr (.list ds)) rfl
      obtain ⟨hi, hg⟩ := List.getElem?_eq_some_iff.mp h
      rw [← hg, List.set_getElem_self] at z
      exact z
theorem ev_varO {i : Nat} {ds : List D} (h : A[i]? = some (.ow ds)) : EV md call (.var i) A (.fr (.list ds)) (A.set i (.fr (.list ds))) := fun env r => by
  have e : look env i = .ol ds := r.at h
  refine ⟨.fr (.list ds), env.set i (.fr (.list ds)), ?_, rfl, r.set rfl⟩
  rw [x_var, e]
  rfl
theorem ev_cst {d : D} : EV md call (.cst d) A (.fr d) A := fun env r => ⟨.fr d, env, rfl, rfl, r⟩
theorem ev_glob {x : PySem.Str} {d : D} : EV md call (.glob x d) A (.fr d) A := fun env r => ⟨.fr d, env, rfl, rfl, r⟩
theorem es_nil : ES md call .nil A [] A := fun env r => ⟨env, rfl, r⟩
theorem es_cons {e : E} {es : Es} {d : D} {ds : List D} (h : EF md call e A d A1) (t : ES md call es A1 ds A2) : ES md call (.cons e es) A (d :: ds) A2 := fun env r => by
  obtain ⟨env1, p1, r1⟩ := h env r
  obtain ⟨env2, p2, r2⟩ := t env1 r1
  refine ⟨env2, ?_, r2⟩
  rw [s_cons', p1]
  show cnX1 d (evs md call es env1) = _
  rw [p2]
  rfl
theorem ev_tup {es : Es} {ds : List D} (h : ES md call es A ds A1) : EV md call (.tup es) A (.fr (.tuple ds)) A1 := fun env r => by
  obtain ⟨env1, p1, r1⟩ := h env r
  refine ⟨.fr (.tuple ds), env1, ?_, rfl, r1⟩
  rw [x_tup, p1]
  rfl
theorem ev_lst {es : Es} {ds : List D} (h : ES md call es A ds A1) : EV md call (.lst es) A (.ow ds) A1 := fun env r => by
  obtain ⟨env1, p1, r1⟩ := h env r
  refine ⟨.ol ds, env1, ?_, rfl, r1⟩
  rw [x_lst, p1]
  rfl
theorem eo_nil : EO md call .nil A [] A := fun env r => ⟨[], env, rfl, rfl, r⟩
theorem eo_val {e : E} {es : Es} {d : D} {ds : List D} (hv : isVar e = false) (h : EF md call e A d A1) (t : EO md call es A1 ds A2) : EO md call (.cons e es) A (d :: ds) A2 := fun env r => by
  obtain ⟨env1, p1, r1⟩ := h env r
  obtain ⟨os, env2, p2, q2, r2⟩ := t env1 r1
  refine ⟨.val d :: os, env2, ?_, ?_, r2⟩
  · rw [o_cons', opd_e (notVar hv), p1]
    show cnX1 (Opd.val d) (evo md call es env1) = _
    rw [p2]
    rfl
  · show ((some d).bind fun d => (derefs env2 os).map (d :: ·)) = _
    rw [q2]
    rfl
theorem eo_var {i : Nat} {es : Es} {d : D} {ds : List D} {sp sp2 : Sp} (h : A[i]? = some sp) (hd : sp.dat = some d) (t : EO md call es A ds A2) (h2 : A2[i]? = some sp2) (hd2 : sp2.dat = some d) : EO md call (.cons (.var i) es) A (d :: ds) A2 := fun env r => by
  obtain ⟨os, env2, p2, q2, r2⟩ := t env r
  have e : toD (look env i) = some d := Sp.toD (r.at h) hd
  have e2 : toD (look env2 i) = some d := Sp.toD (r2.at h2) hd2
  rcases toD_cs e with q | ⟨xs, q, rfl⟩
  · refine ⟨.val d :: os, env2, ?_, ?_, r2⟩
    · rw [o_cons', opd_v, q]
      show cnX1 (Opd.val d) (evo md call es env) = _
      rw [p2]
      rfl
    · show ((some d).bind fun d => (derefs env2 os).map (d :: ·)) = _
      rw [q2]
      rfl
  · refine ⟨.slot i :: os, env2, ?_, ?_, r2⟩
    · rw [o_cons', opd_v, q]
      show cnX1 (Opd.slot i) (evo md call es env) = _
      rw [p2]
      rfl
    · show ((toD (look env2 i)).bind fun d => (derefs env2 os).map (d :: ·)) = _
      rw [e2, q2]
      rfl
theorem ev_prim {p : Prim} {es : Es} {ds : List D} {s : Sl} {sp : Sp} (h : EO md call es A ds A1) (hp : primS p ds = some s) (hs : sp.ok s) : EV md call (.prim p es) A sp A1 := fun env r => by
  obtain ⟨os, env1, p1, q1, r1⟩ := h env r
  refine ⟨s, env1, ?_, hs, r1⟩
  rw [x_prim, p1]
  show opt2 p env1 (derefs env1 os) = _
  rw [q1]
  show R.opt (primS p ds) env1 = _
  rw [hp]
  rfl
theorem eb_and {a b : E} {x y : Bool} (ha : EB md call a A x A1) (hb : x = true → EB md call b A1 y A1) : EB md call (.and a b) A (x && y) A1 := fun env r => by
  obtain ⟨env1, p1, r1⟩ := ha env r
  rw [x_and, p1]
  cases x with
  | false => exact ⟨env1, rfl, r1⟩
  | true => exact hb rfl env1 r1
theorem eb_or {a b : E} {x y : Bool} (ha : EB md call a A x A1) (hb : x = false → EB md call b A1 y A1) : EB md call (.or a b) A (x || y) A1 := fun env r => by
  obtain ⟨env1, p1, r1⟩ := ha env r
  rw [x_or, p1]
  cases x with
  | true => exact ⟨env1, rfl, r1⟩
  | false => exact hb rfl env1 r1
theorem eb_not {a : E} {x : Bool} (ha : EB md call a A x A1) : EB md call (.not a) A (!x) A1 := fun env r => by
  obtain ⟨env1, p1, r1⟩ := ha env r
  refine ⟨env1, ?_, r1⟩
  rw [x_not, p1]
  rfl
/-- a test as a value -/
theorem ev_andV {a b : E} {x y : Bool} (ha : EB md call a A x A1) (hb : x = true → EV md call b A1 (.fr (.bool y)) A1) : EV md call (.and a b) A (.fr (.bool (x && y))) A1 := fun env r => by
  obtain ⟨env1, p1, r1⟩ := ha env r
  rw [x_and, p1]
  cases x with
  | false => exact ⟨_, env1, rfl, rfl, r1⟩
  | true => exact hb rfl env1 r1
theorem ev_orV {a b : E} {x y : Bool} (ha : EB md call a A x A1) (hb : x = false → EV md call b A1 (.fr (.bool y)) A1) : EV md call (.or a b) A (.fr (.bool (x || y))) A1 := fun env r => by
  obtain ⟨env1, p1, r1⟩ := ha env r
  rw [x_or, p1]
  cases x with
  | true => exact ⟨_, env1, rfl, rfl, r1⟩
  | false => exact hb rfl env1 r1
theorem ev_notV {a : E} {x : Bool} (ha : EB md call a A x A1) : EV md call (.not a) A (.fr (.bool (!x))) A1 := fun env r => by
  obtain ⟨env1, p1, r1⟩ := ha env r
  refine ⟨.fr (.bool (!x)), env1, ?_, rfl, r1⟩
  rw [x_not, p1]
  rfl
theorem ev_ite {α : Type} {S : α → Sp} {T : α → List Sp} {c a b : E} {x : Bool} {m n : α} (hc : EB md call c A x A1) (ha : x = true → EV md call a A1 (S m) (T m)) (hb : x = false → EV md call b A1 (S n) (T n)) : EV md call (.ite c a b) A (S (if x = true then m else n)) (T (if x = true then m else n)) := fun env r => by
  obtain ⟨env1, p1, r1⟩ := hc env r
  rw [x_ite, p1]
  cases x with
  | true => exact ha rfl env1 r1
  | false => exact hb rfl env1 r1
/-- a test with what it changes -/
theorem eb_andS {α : Type} {T : α → List Sp} {a b : E} {x : Bool} {m n : Bool × α} (ha : EB md call a A x A1) (hb : x = true → EB md call b A1 m.1 (T m.2)) (hn : n.1 = false) (hs : Sub A1 (T n.2)) : EB md call (.and a b) A (if x = true then m else n).1 (T (if x = true then m else n).2) := fun env r => by
  obtain ⟨env1, p1, r1⟩ := ha env r
  rw [x_and, p1]
  cases x with
  | false =>
    refine ⟨env1, ?_, r1.mono hs⟩
    show R.ok false env1 = R.ok n.1 env1
    rw [hn]
  | true => exact hb rfl env1 r1
theorem ev_chain {p q : Prim} {a b c : E} {x y z : D} {b1 : Bool} {b2 : Bool} (ha : EF md call a A x A) (hb : EF md call b A y A) (hp : primS p [x, y] = some (.fr (.bool b1))) (hc : EF md call c A z A) (hq : b1 = true → primS q [y, z] = some (.fr (.bool b2))) : EV md call (.chain p q a b c) A (.fr (.bool (b1 && b2))) A := fun env r => by
  obtain ⟨env1, p1, r1⟩ := ha env r
  obtain ⟨env2, p2, r2⟩ := hb env1 r1
  rw [x_chain, p1]
  show ∃ s env', chX1 md call p q c x (fzX (ev md call b env1)) = _ ∧ _ ∧ _
  rw [p2]
  show ∃ s env', chX2 md call q c y (tbX (fzX (R.opt (primS p [x, y]) env2))) = _ ∧ _ ∧ _
  rw [hp]
  show ∃ s env', chX2 md call q c y (.ok b1 env2) = _ ∧ _ ∧ _
  cases b1 with
  | false => exact ⟨_, env2, rfl, rfl, r2⟩
  | true =>
    show ∃ s env', chX3 q y (fzX (ev md call c env2)) = _ ∧ _ ∧ _
    obtain ⟨env3, p3, r3⟩ := hc env2 r2
    rw [p3]
    show ∃ s env', R.opt (primS q [y, z]) env3 = _ ∧ _ ∧ _
    rw [hq rfl]
    exact ⟨_, env3, rfl, rfl, r3⟩
theorem ev_rg {a : E} {n : Int} (h : EF md call a A (.int n) A1) (hn : 0 ≤ n ∧ n ≤ 16777216) : EV md call (.rg a) A (.ow ((List.range n.toNat).map fun (k : Nat) => .int k)) A1 := fun env r => by
  obtain ⟨env1, p1, r1⟩ := h env r
  refine ⟨_, env1, ?_, rfl, r1⟩
  rw [x_rg, p1]
  show R.opt (guard (decide (0 ≤ n) && decide (n ≤ 16777216)) _) env1 = _
  rw [decide_eq_true hn.1, decide_eq_true hn.2]
  rfl
/-! calls -/
def argSp (A : List Sp) : Opd → Sp
  | .val d => .fr d
  | .slot i => A.getD i .any
def holesS : List Opd → List Sp → List Sp
  | [], A => A
  | .slot i :: as, A => holesS as (A.set i .nn)
  | .val _ :: as, A => holesS as A
def outsS : List Opd → List Sp → List Sp → List Sp
  | .slot i :: as, s :: os, A => outsS as os (A.set i s)
  | .val _ :: as, _ :: os, A => outsS as os A
  | _, _, A => A
theorem rel_args {env : Env} (r : Rel A env) : ∀ os : List Opd, Rel (os.map (argSp A)) (os.map (argSl env))
  | [] => trivial
  | .val d :: os => ⟨rfl, rel_args r os⟩
  | .slot i :: os => by
    refine ⟨?_, rel_args r os⟩
    show (A.getD i .any).ok (look env i)
    rw [List.getD_eq_getElem?_getD]
    cases h : A[i]? with
    | none => trivial
    | some sp => exact r.at h
theorem rel_holes : ∀ {os : List Opd} {A : List Sp} {env : Env}, Rel A env → Rel (holesS os A) (holes os env)
  | [], _, _, r => r
  | .slot i :: os, _, _, r => rel_holes (os := os) (r.set (i := i) (sp := .nn) rfl)
  | .val _ :: os, _, _, r => rel_holes (os := os) r
theorem rel_outs : ∀ {as : List Opd} {os : List Sp} {us : List Sl} {A : List Sp} {env : Env}, Rel os us → Rel A env → Rel (outsS as os A) (outs as us env)
  | .slot i :: as, _ :: os, _ :: us, _, _, h, r => rel_outs (as := as) h.2 (r.set h.1)
  | .val _ :: as, _ :: os, _ :: us, _, _, h, r => rel_outs (as := as) h.2 r
  | [], _, _, _, _, _, r => by
    simp only [outs, outsS]
    exact r
  | .slot i :: as, [], [], _, _, _, r => by
    simp only [outs, outsS]
    exact r
  | .val _ :: as, [], [], _, _, _, r => by
    simp only [outs, outsS]
    exact r
  | _ :: _, [], _ :: _, _, _, h, _ => h.elim
  | _ :: _, _ :: _, [], _, _, h, _ => h.elim
theorem ea_nil {ms : Modes} : EA md call ms .nil A [] A := fun env r => ⟨env, a_nil', r⟩
theorem ea_val {ms : Modes} {e : E} {es : Es} {d : D} {os : List Opd} (hm : ms.headD false = false) (h : EF md call e A d A1) (t : EA md call ms.tail es A1 os A2) : EA md call ms (.cons e es) A (.val d :: os) A2 := fun env r => by
  obtain ⟨env1, p1, r1⟩ := h env r
  obtain ⟨env2, p2, r2⟩ := t env1 r1
  refine ⟨env2, ?_, r2⟩
  rw [a_cons', hm, arg_f, p1]
  show cnX1 (Opd.val d) (eva md call ms.tail es env1) = _
  rw [p2]
  rfl
def Sp.here : Sp → Bool
  | .any => false
  | .nn => false
  | _ => true
theorem here_un {sp : Sp} {s : Sl} (h : sp.ok s) (e : sp.here = true) : s ≠ .un := by
  intro q
  subst q
  cases sp <;> cases h <;> cases e
theorem ea_slot {ms : Modes} {i : Nat} {es : Es} {sp : Sp} {os : List Opd} (hm : ms.headD false = true) (h : A[i]? = some sp) (hh : sp.here = true) (t : EA md call ms.tail es A os A2) : EA md call ms (.cons (.var i) es) A (.slot i :: os) A2 := fun env r => by
  obtain ⟨env2, p2, r2⟩ := t env r
  refine ⟨env2, ?_, r2⟩
  have hu := here_un (r.at h) hh
  rw [a_cons', hm, arg_t]
  have e : agX (look env i) i env = .ok (.slot i) env := by
    cases q : look env i with
    | un => exact absurd q hu
    | _ => rfl
  rw [e]
  show cnX1 (Opd.slot i) (eva md call ms.tail es env) = _
  rw [p2]
  rfl
theorem ev_call {ρ : Type} {f : Nat} {es : Es} {os : List Opd} {as : List Sp} {OF : ρ → O} {n : ρ} {sp : Sp} {us : List Sp} (ha : EA md call (md f) es A os A1) (hc : CallO call f as OF n) (h1 : os.map (argSp A1) = as) (h2 : OF n = .rt sp us) : EV md call (.call f es) A sp (outsS os us (holesS os A1)) := fun env r => by
  obtain ⟨env1, p1, r1⟩ := ha env r
  subst h1
  have z := hc _ (rel_args r1 os)
  rw [h2] at z
  obtain ⟨s, os2, q, k, t⟩ := z
  refine ⟨s, outs os os2 (holes os env1), ?_, k, rel_outs t (rel_holes r1)⟩
  rw [x_call, p1]
  show retX os env1 (call f (os.map (argSl env1))) = _
  rw [q]
  rfl
theorem er_call {ρ : Type} {f : Nat} {es : Es} {os : List Opd} {as : List Sp} {OF : ρ → O} {n : ρ} {c : Nat} {us : List Sp} (ha : EA md call (md f) es A os A1) (hc : CallO call f as OF n) (h1 : os.map (argSp A1) = as) (h2 : OF n = .er c us) : ER md call (.call f es) A c (outsS os us (holesS os A1)) := fun env r => by
  obtain ⟨env1, p1, r1⟩ := ha env r
  subst h1
  have z := hc _ (rel_args r1 os)
  rw [h2] at z
  obtain ⟨os2, q, t⟩ := z
  refine ⟨outs os os2 (holes os env1), ?_, rel_outs t (rel_holes r1)⟩
  rw [x_call, p1]
  show retX os env1 (call f (os.map (argSl env1))) = _
  rw [q]
  rfl
theorem er_not {a : E} {c : Nat} (h : ER md call a A c A1) : ER md call (.not a) A c A1 := fun env r => by
  obtain ⟨env1, p1, r1⟩ := h env r
  refine ⟨env1, ?_, r1⟩
  rw [x_not, p1]
  rfl
theorem er_and {a b : E} {c : Nat} (h : ER md call a A c A1) : ER md call (.and a b) A c A1 := fun env r => by
  obtain ⟨env1, p1, r1⟩ := h env r
  refine ⟨env1, ?_, r1⟩
  rw [x_and, p1]
  rfl
theorem er_prim {p : Prim} {a : E} {es : Es} {c : Nat} (hv : isVar a = false) (h : ER md call a A c A1) : ER md call (.prim p (.cons a es)) A c A1 := fun env r => by
  obtain ⟨env1, p1, r1⟩ := h env r
  refine ⟨env1, ?_, r1⟩
  rw [x_prim, o_cons', opd_e (notVar hv), p1]
  rfl
theorem ev_selP {ρ : Type} {fs : List Nat} {ix : E} {es : Es} {k : Int} {j : Nat} {os : List Opd} {as : List Sp} {OF : ρ → O} {n : ρ} {sp : Sp} {us : List Sp} (hi : EF md call ix A (.int k) A1) (hj : place fs.length k = some j) (ha : EA md call [] es A1 os A2) (hc : CallO call (fs.getD j 0) as OF n) (h1 : os.map (argSp A2) = as) (h2 : OF n = .rt sp us) :
    EV md call (.sel fs ix es) A sp (outsS os us (holesS os A2)) := fun env r => by
  obtain ⟨env0, p0, r0⟩ := hi env r
  obtain ⟨env1, p1, r1⟩ := ha env0 r0
  subst h1
  have z := hc _ (rel_args r1 os)
  rw [h2] at z
  obtain ⟨s, os2, q, k, t⟩ := z
  refine ⟨s, outs os os2 (holes os env1), ?_, k, rel_outs t (rel_holes r1)⟩
  rw [x_sel, p0]
  show seX2 md call fs es env0 (place fs.length _) = _
  rw [hj]
  show calX call (fs.getD j 0) (eva md call [] es env0) = _
  rw [p1]
  show retX os env1 (call (fs.getD j 0) (os.map (argSl env1))) = _
  rw [q]
  rfl
theorem er_selP {ρ : Type} {fs : List Nat} {ix : E} {es : Es} {k : Int} {j : Nat} {os : List Opd} {as : List Sp} {OF : ρ → O} {n : ρ} {c : Nat} {us : List Sp} (hi : EF md call ix A (.int k) A1) (hj : place fs.length k = some j) (ha : EA md call [] es A1 os A2) (hc : CallO call (fs.getD j 0) as OF n) (h1 : os.map (argSp A2) = as) (h2 : OF n = .er c us) :
    ER md call (.sel fs ix es) A c (outsS os us (holesS os A2)) := fun env r => by
  obtain ⟨env0, p0, r0⟩ := hi env r
  obtain ⟨env1, p1, r1⟩ := ha env0 r0
  subst h1
  have z := hc _ (rel_args r1 os)
  rw [h2] at z
  obtain ⟨os2, q, t⟩ := z
  refine ⟨outs os os2 (holes os env1), ?_, rel_outs t (rel_holes r1)⟩
  rw [x_sel, p0]
  show seX2 md call fs es env0 (place fs.length _) = _
  rw [hj]
  show calX call (fs.getD j 0) (eva md call [] es env0) = _
  rw [p1]
  show retX os env1 (call (fs.getD j 0) (os.map (argSl env1))) = _
  rw [q]
  rfl
/-! lists of the frame's own -/
theorem ev_app {i : Nat} {e : E} {d : D} {ds : List D} (h0 : A[i]? = some (.ow ds)) (h : EF md call e A d A1) {ds1 : List D} (h1 : A1[i]? = some (.ow ds1)) (hl : ds1.length < PySem.sizeLine) : EV md call (.app i e) A (.fr .none) (A1.set i (.ow (ds1 ++ [d]))) := fun env r => by
  obtain ⟨env1, p1, r1⟩ := h env r
  have e0 : look env i = .ol ds := r.at h0
  have e1 : look env1 i = .ol ds1 := r1.at h1
  refine ⟨.fr .none, env1.set i (.ol (ds1 ++ [d])), ?_, rfl, r1.set rfl⟩
  rw [x_app, e0]
  show apX i (fzX (ev md call e env)) = _
  rw [p1]
  show apX2 i d env1 (look env1 i) = _
  rw [e1]
  show (if ds1.length < PySem.sizeLine then _ else _) = _
  rw [if_pos hl]
theorem ev_ext {i : Nat} {e : E} {xs ds : List D} (h0 : A[i]? = some (.ow ds)) (h : EV md call e A (.ow xs) A1) {ds1 : List D} (h1 : A1[i]? = some (.ow ds1)) (hl : ds1.length + xs.length ≤ PySem.sizeLine) : EV md call (.ext i e) A (.fr .none) (A1.set i (.ow (ds1 ++ xs))) := fun env r => by
  obtain ⟨s, env1, p1, q1, r1⟩ := h env r
  cases q1
  have e0 : look env i = .ol ds := r.at h0
  have e1 : look env1 i = .ol ds1 := r1.at h1
  refine ⟨.fr .none, env1.set i (.ol (ds1 ++ xs)), ?_, rfl, r1.set rfl⟩
  rw [x_ext, e0]
  show exX i (ev md call e env) = _
  rw [p1]
  show exX2 i (.ol xs) env1 (look env1 i) = _
  rw [e1]
  show (if ds1.length + xs.length ≤ PySem.sizeLine then _ else _) = _
  rw [if_pos hl]
theorem ev_pop {i : Nat} {ds : List D} {d : D} (h : A[i]? = some (.ow ds)) (hd : ds.getLast? = some d) : EV md call (.pop i) A (.fr d) (A.set i (.ow ds.dropLast)) := fun env r => by
  have e : look env i = .ol ds := r.at h
  refine ⟨.fr d, env.set i (.ol ds.dropLast), ?_, rfl, r.set rfl⟩
  simp only [ev, e, hd]
theorem ev_popAt {i : Nat} {e : E} {ds ds0 : List D} {d : D} {j : Int} {n : Nat} (h0 : A[i]? = some (.ow ds0)) (h : EF md call e A (.int j) A1) (h1 : A1[i]? = some (.ow ds)) (hi : in62 j = true) (hn : place ds.length j = some n) (hd : ds[n]? = some d) : EV md call (.popAt i e) A (.fr d) (A1.set i (.ow (ds.eraseIdx n))) := fun env r => by
  obtain ⟨env1, p1, r1⟩ := h env r
  have e0 : look env i = .ol ds0 := r.at h0
  have e1 : look env1 i = .ol ds := r1.at h1
  refine ⟨.fr d, env1.set i (.ol (ds.eraseIdx n)), ?_, rfl, r1.set rfl⟩
  have g : fz (ev md call e) env = .ok (.int j) env1 := by rw [fz_x, p1]
  simp only [ev, popAtE, e0, g, R.bind, popAtK, e1, hi, hn, hd]
theorem op_val {e : E} {d : D} (hv : isVar e = false) (h : EF md call e A d A1) : ∀ env, Rel A env → ∃ env', opd e (ev md call e) env = .ok (.val d) env' ∧ Rel A1 env' := fun env r => by
  obtain ⟨env1, p1, r1⟩ := h env r
  exact ⟨env1, by rw [opd_e (notVar hv), p1]; rfl, r1⟩
theorem ev_sl2 {a lo hi : E} {d : D} {i j : Int} {s : Sl} {sp : Sp} (hv : isVar a = false) (ha : EF md call a A d A1) (hl : EF md call lo A1 (.int i) A2) (hh : EF md call hi A2 (.int j) A3) (hs : sliceS (some i) (some j) d = some s) (hk : sp.ok s) : EV md call (.sl2 a lo hi) A sp A3 := fun env r => by
  obtain ⟨env1, p1, r1⟩ := ha env r
  obtain ⟨env2, p2, r2⟩ := hl env1 r1
  obtain ⟨env3, p3, r3⟩ := hh env2 r2
  refine ⟨s, env3, ?_, hk, r3⟩
  rw [x_sl2, opd_e (notVar hv), p1]
  show slX1 md call hi (.val d) (fzX (ev md call lo env1)) = _
  rw [p2]
  show slX2 (.val d) i (fzX (ev md call hi env2)) = _
  rw [p3]
  show R.opt (sliceS (some i) (some j) d) env3 = _
  rw [hs]
  rfl
theorem ev_sl2v {k : Nat} {lo hi : E} {d : D} {i j : Int} {s : Sl} {sp spa spb : Sp} (h0 : A[k]? = some spa) (hd : spa.dat = some d) (hl : EF md call lo A (.int i) A2) (hh : EF md call hi A2 (.int j) A3) (h3 : A3[k]? = some spb) (hd3 : spb.dat = some d) (hs : sliceS (some i) (some j) d = some s) (hk : sp.ok s) : EV md call (.sl2 (.var k) lo hi) A sp A3 := fun env r => by
  obtain ⟨env2, p2, r2⟩ := hl env r
  obtain ⟨env3, p3, r3⟩ := hh env2 r2
  have e : toD (look env k) = some d := Sp.toD (r.at h0) hd
  have e3 : toD (look env3 k) = some d := Sp.toD (r3.at h3) hd3
  refine ⟨s, env3, ?_, hk, r3⟩
  rcases toD_cs e with q | ⟨xs, q, rfl⟩
  · rw [x_sl2, opd_v, q]
    show slX1 md call hi (.val d) (fzX (ev md call lo env)) = _
    rw [p2]
    show slX2 (.val d) i (fzX (ev md call hi env2)) = _
    rw [p3]
    show R.opt (sliceS (some i) (some j) d) env3 = _
    rw [hs]
    rfl
  · rw [x_sl2, opd_v, q]
    show slX1 md call hi (.slot k) (fzX (ev md call lo env)) = _
    rw [p2]
    show slX2 (.slot k) i (fzX (ev md call hi env2)) = _
    rw [p3]
    show (match toD (look env3 k) with | some d => R.opt (sliceS (some i) (some j) d) env3 | none => .st) = _
    rw [e3]
    show R.opt (sliceS (some i) (some j) _) env3 = _
    rw [hs]
    rfl
end
end Nt

/-! Dc: walks and statements, over plain functions. -/
namespace Nt
open Dc
open PySem (PyData)
def eI (i : Int) : D := .int i
def eB (b : Bool) : D := .bool b
def eS (s : PySem.Str) : D := .str s
def eD (d : D) : D := d
def eN (_ : Unit) : D := .none
def eL {α : Type} (e : α → D) (xs : List α) : D := .list (xs.map e)
def eT {α : Type} (e : α → D) (xs : List α) : D := .tuple (xs.map e)
def eP {α β : Type} (a : α → D) (b : β → D) (p : α × β) : D := .tuple [a p.1, b p.2]
def eQ {α β γ : Type} (a : α → D) (b : β → D) (c : γ → D) (p : α × β × γ) : D := .tuple [a p.1, b p.2.1, c p.2.2]
def eO {α : Type} (e : α → D) : Option α → D
  | none => .none
  | some x => e x
/-! targets -/
def bindS : List Nat → D → List Sp → Option (List Sp)
  | [i], d, A => some (A.set i (.fr d))
  | [i, j], .tuple [x, y], A => some ((A.set i (.fr x)).set j (.fr y))
  | [i, j, k], .tuple [x, y, z], A => some (((A.set i (.fr x)).set j (.fr y)).set k (.fr z))
  | _, _, _ => none
theorem rel_bind {tg : List Nat} {d : D} {A A2 : List Sp} {env : Env} (r : Rel A env) (h : bindS tg d A = some A2) : ∃ env2, bindT tg d env = some env2 ∧ Rel A2 env2 := by
  unfold bindS at h
  split at h
  · cases h
    exact ⟨_, rfl, r.set rfl⟩
  · cases h
    exact ⟨_, rfl, (r.set (sp := .fr _) rfl).set rfl⟩
  · cases h
    exact ⟨_, rfl, ((r.set (sp := .fr _) rfl).set (sp := .fr _) rfl).set rfl⟩
  · cases h
def hideS : List Nat → List Sp → List Sp
  | [], A => A
  | i :: is, A => (hideS is A).set i .nn
def backS : List Nat → List Sp → List Sp → List Sp
  | [], _, A => A
  | i :: is, O, A => (backS is O A).set i (O.getD i .any)
theorem rel_hide : ∀ {tg : List Nat} {A : List Sp} {env : Env}, Rel A env → Rel (hideS tg A) (hide tg env)
  | [], _, _, r => r
  | i :: is, A, env, r => (rel_hide (tg := is) r).set rfl
theorem rel_getD {A : List Sp} {env : Env} (r : Rel A env) (i : Nat) : (A.getD i .any).ok (look env i) := by
  rw [List.getD_eq_getElem?_getD]
  cases h : A[i]? with
  | none => trivial
  | some sp => exact r.at h
theorem rel_back : ∀ {tg : List Nat} {B A : List Sp} {old env : Env}, Rel B old → Rel A env → Rel (backS tg B A) (back tg old env)
  | [], _, _, _, _, _, r => r
  | i :: is, B, A, old, env, h, r => (rel_back (tg := is) h r).set (rel_getD h i)
def hideOkS (tg : List Nat) (A : List Sp) : Bool := tg.all fun i => (A.getD i .any).nown
theorem hide_ok {tg : List Nat} {A : List Sp} {env : Env} (r : Rel A env) (h : hideOkS tg A = true) : hideOk tg env = true :=
  List.all_eq_true.mpr fun i m => Sp.nownOk (rel_getD r i) (List.all_eq_true.mp h i m)
/-! plain loops -/
inductive Ct (σ ρ : Type) where
  | nx (s : σ) | rt (r : ρ)
def foldOk {σ α : Type} (f : σ → α → σ) (p : σ → α → Prop) : List α → σ → Prop
  | [], _ => True
  | x :: xs, s => p s x ∧ foldOk f p xs (f s x)
theorem foldOk_t {σ α : Type} {f : σ → α → σ} : ∀ {xs : List α} {s : σ}, foldOk f (fun _ _ => True) xs s
  | [], _ => trivial
  | _ :: _, _ => ⟨trivial, foldOk_t⟩
theorem foldOk_inv {σ α : Type} {f : σ → α → σ} {p : σ → α → Prop} (I : σ → Nat → Prop) : ∀ {xs : List α} {s : σ} {n : Nat}, I s n → (∀ s i x, x ∈ xs → i < n + xs.length → I s i → p s x ∧ I (f s x) (i + 1)) → foldOk f p xs s
  | [], _, _, _, _ => trivial
  | x :: xs, s, n, h0, h => by
    obtain ⟨h1, h2⟩ := h s n x List.mem_cons_self (by rw [List.length_cons]; omega) h0
    exact ⟨h1, foldOk_inv I h2 fun s i y m hi k => h s i y (List.mem_cons_of_mem _ m) (by rw [List.length_cons]; omega) k⟩
def loopR {σ α ρ : Type} (f : σ → α → Ct σ ρ) : List α → σ → Ct σ ρ
  | [], s => .nx s
  | x :: xs, s => match f s x with
    | .nx t => loopR f xs t
    | .rt r => .rt r
def loopOk {σ α ρ : Type} (f : σ → α → Ct σ ρ) (p : σ → α → Prop) : List α → σ → Prop
  | [], _ => True
  | x :: xs, s => p s x ∧ match f s x with
    | .nx t => loopOk f p xs t
    | .rt _ => True
theorem loopOk_t {σ α ρ : Type} {f : σ → α → Ct σ ρ} : ∀ {xs : List α} {s : σ}, loopOk f (fun _ _ => True) xs s
  | [], _ => trivial
  | x :: xs, s => by
    refine ⟨trivial, ?_⟩
    cases f s x with
    | nx t => exact loopOk_t
    | rt r => trivial
def cthn {σ ρ γ : Type} (c : Ct σ ρ) (h : ρ → γ) (g : σ → γ) : γ := match c with
  | .nx s => g s
  | .rt r => h r
def cthnP {σ ρ : Type} (c : Ct σ ρ) (g : σ → Prop) : Prop := match c with
  | .nx s => g s
  | .rt _ => True
theorem cthnP_at {σ ρ : Type} {c : Ct σ ρ} {g : σ → Prop} {s : σ} (e : c = .nx s) (h : cthnP c g) : g s := by
  subst e
  exact h
def whileN {σ : Type} (c : σ → Bool) (f : σ → σ) : Nat → σ → σ
  | 0, s => s
  | n + 1, s => if c s = true then whileN c f n (f s) else s
def whileOk {σ : Type} (c : σ → Bool) (f : σ → σ) (pc p : σ → Prop) : Nat → σ → Prop
  | 0, _ => False
  | n + 1, s => pc s ∧ (c s = true → p s ∧ whileOk c f pc p n (f s))
def mapS {τ α β : Type} (g : τ → α → β × τ) : List α → τ → List β × τ
  | [], t => ([], t)
  | x :: xs, t => ((g t x).1 :: (mapS g xs (g t x).2).1, (mapS g xs (g t x).2).2)
def mapOk {τ α β : Type} (g : τ → α → β × τ) (p : τ → α → Prop) : List α → τ → Prop
  | [], _ => True
  | x :: xs, t => p t x ∧ mapOk g p xs (g t x).2
theorem mapOk_t {τ α β : Type} {g : τ → α → β × τ} : ∀ {xs : List α} {t : τ}, mapOk g (fun _ _ => True) xs t
  | [], _ => trivial
  | _ :: _, _ => ⟨trivial, mapOk_t⟩
def filtS {τ α : Type} (g : τ → α → Bool × τ) : List α → τ → List α × τ
  | [], t => ([], t)
  | x :: xs, t => (if (g t x).1 = true then x :: (filtS g xs (g t x).2).1 else (filtS g xs (g t x).2).1, (filtS g xs (g t x).2).2)
def tryW (m : Except Nat D) : D := match m with
  | .ok d => d
  | .error c => whichD c
section
variable {md : Nat → Modes} {call : Nat → List Sl → R Sl} {A A1 A2 A3 A4 A5 : List Sp}
section
variable (md) (call)
/-- value and state together -/
def EVN {γ : Type} (e : E) (A : List Sp) (S : γ → Sp) (T : γ → List Sp) (n : γ) : Prop := EV md call e A (S n) (T n)
def EBN {γ : Type} (e : E) (A : List Sp) (S : γ → Bool) (T : γ → List Sp) (n : γ) : Prop := EB md call e A (S n) (T n)
end
theorem evn_bnd {γ α : Type} {e : E} {S : γ → Sp} {T : γ → List Sp} {v : α} {f : α → γ} (h : ∀ p, p = v → EVN md call e A S T (f p)) : EVN md call e A S T (bnd v f) := h v rfl
theorem ebn_bnd {γ α : Type} {e : E} {S : γ → Bool} {T : γ → List Sp} {v : α} {f : α → γ} (h : ∀ p, p = v → EBN md call e A S T (f p)) : EBN md call e A S T (bnd v f) := h v rfl
/-! what is walked over -/
theorem ei_seqL {α : Type} {e : E} {ex : α → D} {xs : List α} (h : EF md call e A (.list (xs.map ex)) A1) : EI md call (.seq e) A (xs.map ex) A1 := fun env r => by
  obtain ⟨env1, p1, r1⟩ := h env r
  refine ⟨env1, ?_, r1⟩
  rw [i_seq', p1]
  rfl
theorem ei_seqT {α : Type} {e : E} {ex : α → D} {xs : List α} (h : EF md call e A (.tuple (xs.map ex)) A1) : EI md call (.seq e) A (xs.map ex) A1 := fun env r => by
  obtain ⟨env1, p1, r1⟩ := h env r
  refine ⟨env1, ?_, r1⟩
  rw [i_seq', p1]
  rfl
def rangeI (n : Int) : List Int := (List.range n.toNat).map fun (k : Nat) => (k : Int)
def rangeI2 (lo hi : Int) : List Int := (List.range (hi - lo).toNat).map fun (k : Nat) => lo + (k : Int)
theorem rgOk_of {n m : Int} (h1 : -100000 ≤ n ∧ n ≤ 100000) (h2 : -100000 ≤ m ∧ m ≤ 100000) : rgOk n m = true := by
  unfold rgOk in62
  rw [decide_eq_true (show -(2 ^ 62) ≤ n by omega), decide_eq_true (show n < 2 ^ 62 by omega), decide_eq_true (show -(2 ^ 62) ≤ m by omega), decide_eq_true (show m < 2 ^ 62 by omega), decide_eq_true (show (m - n).toNat ≤ PySem.sizeLine by rw [PySem.sizeLine_eq]; omega)]
  rfl
theorem ei_rng1 {e : E} {n : Int} (h : EF md call e A (.int n) A1) (hn : -100000 ≤ n ∧ n ≤ 100000) : EI md call (.rng1 e) A ((rangeI n).map eI) A1 := fun env r => by
  obtain ⟨env1, p1, r1⟩ := h env r
  refine ⟨env1, ?_, r1⟩
  rw [i_rng1', p1]
  show (if rgOk 0 n = true then R.ok (rngD 0 n) env1 else .st) = _
  rw [if_pos (rgOk_of (by omega) hn)]
  congr 1
  unfold rngD rangeI
  rw [List.map_map, Int.sub_zero]
  exact List.map_congr_left fun k _ => by rw [Int.zero_add]; rfl
theorem ei_rng2 {a b : E} {n m : Int} (h : EF md call a A (.int n) A1) (h2 : EF md call b A1 (.int m) A2) (hn : -100000 ≤ n ∧ n ≤ 100000) (hm : -100000 ≤ m ∧ m ≤ 100000) : EI md call (.rng2 a b) A ((rangeI2 n m).map eI) A2 := fun env r => by
  obtain ⟨env1, p1, r1⟩ := h env r
  obtain ⟨env2, p2, r2⟩ := h2 env1 r1
  refine ⟨env2, ?_, r2⟩
  have e1 : fz (ev md call a) env = .ok (.int n) env1 := by rw [fz_x, p1]
  have e2 : fz (ev md call b) env1 = .ok (.int m) env2 := by rw [fz_x, p2]
  simp only [evi, e1, e2, R.bind, rgOk_of hn hm, if_true]
  congr 1
  unfold rngD rangeI2
  rw [List.map_map]
  exact List.map_congr_left fun k _ => rfl
def enumN {α : Type} (k : Nat) : List α → List (Int × α)
  | [] => []
  | x :: xs => ((k : Int), x) :: enumN (k + 1) xs
theorem enum_map {α : Type} (ex : α → D) : ∀ (k : Nat) (xs : List α), enumD k (xs.map ex) = (enumN k xs).map (eP eI ex)
  | _, [] => rfl
  | k, x :: xs => by
    show PyData.tuple [.int k, ex x] :: enumD (k + 1) (xs.map ex) = _
    rw [enum_map ex (k + 1) xs]
    rfl
theorem ei_enum {α : Type} {e : E} {ex : α → D} {xs : List α} (h : EF md call e A (.list (xs.map ex)) A1) : EI md call (.enum e) A ((enumN 0 xs).map (eP eI ex)) A1 := fun env r => by
  obtain ⟨env1, p1, r1⟩ := h env r
  refine ⟨env1, ?_, r1⟩
  rw [i_enum', p1]
  show R.ok (enumD 0 (xs.map ex)) env1 = _
  rw [enum_map]
theorem ei_enumT {α : Type} {e : E} {ex : α → D} {xs : List α} (h : EF md call e A (.tuple (xs.map ex)) A1) : EI md call (.enum e) A ((enumN 0 xs).map (eP eI ex)) A1 := fun env r => by
  obtain ⟨env1, p1, r1⟩ := h env r
  refine ⟨env1, ?_, r1⟩
  rw [i_enum', p1]
  show R.ok (enumD 0 (xs.map ex)) env1 = _
  rw [enum_map]
theorem zip_map {α β : Type} (ex : α → D) (ey : β → D) : ∀ (xs : List α) (ys : List β), zipD (xs.map ex) (ys.map ey) = (xs.zip ys).map (eP ex ey)
  | [], _ => rfl
  | _ :: _, [] => rfl
  | x :: xs, y :: ys => by
    show PyData.tuple [ex x, ey y] :: zipD (xs.map ex) (ys.map ey) = _
    rw [zip_map ex ey xs ys]
    rfl
theorem ei_zipL {α β : Type} {a b : E} {ex : α → D} {ey : β → D} {xs : List α} {ys : List β} (h : EF md call a A (.list (xs.map ex)) A1) (h2 : EF md call b A1 (.list (ys.map ey)) A2) : EI md call (.zip a b) A ((xs.zip ys).map (eP ex ey)) A2 := fun env r => by
  obtain ⟨env1, p1, r1⟩ := h env r
  obtain ⟨env2, p2, r2⟩ := h2 env1 r1
  refine ⟨env2, ?_, r2⟩
  rw [i_zip', p1]
  show zpX2 _ (fzX (ev md call b env1)) = _
  rw [p2]
  show R.ok (zipD (xs.map ex) (ys.map ey)) env2 = _
  rw [zip_map]
theorem ei_zipT {α β : Type} {a b : E} {ex : α → D} {ey : β → D} {xs : List α} {ys : List β} (h : EF md call a A (.tuple (xs.map ex)) A1) (h2 : EF md call b A1 (.tuple (ys.map ey)) A2) : EI md call (.zip a b) A ((xs.zip ys).map (eP ex ey)) A2 := fun env r => by
  obtain ⟨env1, p1, r1⟩ := h env r
  obtain ⟨env2, p2, r2⟩ := h2 env1 r1
  refine ⟨env2, ?_, r2⟩
  rw [i_zip', p1]
  show zpX2 _ (fzX (ev md call b env1)) = _
  rw [p2]
  show R.ok (zipD (xs.map ex) (ys.map ey)) env2 = _
  rw [zip_map]
/-! comprehensions -/
theorem compL_ok {α β : Type} {elt cond : E} {tg : List Nat} {ex : α → D} {c : α → Bool} {f : α → β} {ey : β → D} {B : List Sp} : ∀ {xs : List α} {env : Env}, Rel B env →
    (∀ x ∈ xs, ∃ A2, bindS tg (ex x) B = some A2 ∧ EB md call cond A2 (c x) A2 ∧ (c x = true → EF md call elt A2 (ey (f x)) A2) ∧ Sub (hideS tg A2) B) →
    ∃ env', compL tg (tst (ev md call cond)) (fz (ev md call elt)) (xs.map ex) env = .ok (((xs.filter c).map f).map ey) env' ∧ Rel B env'
  | [], env, r, _ => ⟨env, rfl, r⟩
  | x :: xs, env, r, h => by
    obtain ⟨A2, hb, hc, he, hs⟩ := h x List.mem_cons_self
    obtain ⟨env1, q1, r1⟩ := rel_bind r hb
    obtain ⟨env2, q2, r2⟩ := hc env1 r1
    rw [List.map_cons, cl_cons, q1]
    show ∃ env', clY tg _ _ _ (tst (ev md call cond) env1) = _ ∧ _
    rw [tst_x, q2]
    cases e : c x with
    | true =>
      obtain ⟨env3, q3, r3⟩ := he e env2 r2
      obtain ⟨env4, q4, r4⟩ := compL_ok (xs := xs) ((rel_hide (tg := tg) r3).mono hs) fun y m => h y (List.mem_cons_of_mem _ m)
      refine ⟨env4, ?_, r4⟩
      show clZ tg _ _ _ (fz (ev md call elt) env2) = _
      rw [fz_x, q3]
      show cnX1 _ (compL tg _ _ (xs.map ex) (hide tg env3)) = _
      rw [q4, List.filter_cons_of_pos e]
      rfl
    | false =>
      obtain ⟨env4, q4, r4⟩ := compL_ok (xs := xs) ((rel_hide (tg := tg) r2).mono hs) fun y m => h y (List.mem_cons_of_mem _ m)
      refine ⟨env4, ?_, r4⟩
      show compL tg _ _ (xs.map ex) (hide tg env2) = _
      rw [q4, List.filter_cons_of_neg (by rw [e]; exact Bool.false_ne_true)]
theorem ev_comp {α β : Type} {elt cond : E} {tg : List Nat} {it : Itr} {ex : α → D} {c : α → Bool} {f : α → β} {ey : β → D} {xs : List α} (hi : EI md call it A (xs.map ex) A1) (hh : hideOkS tg A1 = true)
    (hb : ∀ x ∈ xs, ∃ A2, bindS tg (ex x) (hideS tg A1) = some A2 ∧ EB md call cond A2 (c x) A2 ∧ (c x = true → EF md call elt A2 (ey (f x)) A2) ∧ Sub (hideS tg A2) (hideS tg A1)) (hk : Sub (backS tg A1 (hideS tg A1)) A1) :
    EV md call (.comp elt tg it cond) A (.ow (((xs.filter c).map f).map ey)) A1 := fun env r => by
  obtain ⟨env1, p1, r1⟩ := hi env r
  obtain ⟨env2, p2, r2⟩ := compL_ok (rel_hide (tg := tg) r1) hb
  refine ⟨_, back tg env1 env2, ?_, rfl, (rel_back r1 r2).mono hk⟩
  rw [x_comp, p1]
  show coH md call elt tg cond (xs.map ex) env1 (hideOk tg env1) = _
  rw [hide_ok r1 hh]
  show coY tg env1 (compL tg (tst (ev md call cond)) (fz (ev md call elt)) (xs.map ex) (hide tg env1)) = _
  rw [p2]
  rfl
/-- no test -/
theorem ev_comp1 {α β : Type} {elt : E} {tg : List Nat} {it : Itr} {ex : α → D} {f : α → β} {ey : β → D} {xs : List α} (hi : EI md call it A (xs.map ex) A1) (hh : hideOkS tg A1 = true)
    (hb : ∀ x ∈ xs, ∃ A2, bindS tg (ex x) (hideS tg A1) = some A2 ∧ EF md call elt A2 (ey (f x)) A2 ∧ Sub (hideS tg A2) (hideS tg A1)) (hk : Sub (backS tg A1 (hideS tg A1)) A1) :
    EV md call (.comp elt tg it (.cst (.bool true))) A (.ow ((xs.map f).map ey)) A1 := by
  have z := ev_comp (c := fun _ => true) (f := f) (cond := .cst (.bool true)) hi hh (fun x m => by
    obtain ⟨A2, h1, h2, h3⟩ := hb x m
    exact ⟨A2, h1, EV.eb rfl ev_cst, fun _ => h2, h3⟩) hk
  rw [List.filter_eq_self.mpr fun _ _ => rfl] at z
  exact z
theorem compM_ok {τ α β : Type} {elt : E} {tg : List Nat} {ex : α → D} {ey : β → D} {T : τ → List Sp} {T2 : α → τ → List Sp} {S : β → Sp} {g : τ → α → β × τ} {p : τ → α → Prop} (hS : ∀ y, (S y).dat = some (ey y)) (hT : ∀ x t, Sub (hideS tg (T2 x t)) (T t))
    (hb : ∀ t x, p t x → ∃ A2, bindS tg (ex x) (T t) = some A2 ∧ EVN md call elt A2 (fun r : β × τ => S r.1) (fun r => T2 x r.2) (g t x)) : ∀ {xs : List α} {t : τ} {env : Env}, Rel (T t) env → mapOk g p xs t →
    ∃ env', compL tg (tst (ev md call (.cst (.bool true)))) (fz (ev md call elt)) (xs.map ex) env = .ok ((mapS g xs t).1.map ey) env' ∧ Rel (T (mapS g xs t).2) env'
  | [], t, env, r, _ => ⟨env, rfl, r⟩
  | x :: xs, t, env, r, h => by
    obtain ⟨A2, hb1, he⟩ := hb t x h.1
    obtain ⟨env1, q1, r1⟩ := rel_bind r hb1
    obtain ⟨env3, q3, r3⟩ := EV.ef (hS (g t x).1) he env1 r1
    obtain ⟨env4, q4, r4⟩ := compM_ok hS hT hb (xs := xs) ((rel_hide (tg := tg) r3).mono (hT x _)) h.2
    refine ⟨env4, ?_, r4⟩
    rw [List.map_cons, cl_cons, q1]
    show clZ tg _ _ _ (fz (ev md call elt) env1) = _
    rw [fz_x, q3]
    show cnX1 _ (compL tg _ _ (xs.map ex) (hide tg env3)) = _
    rw [q4]
    rfl
theorem ev_compM {τ α β : Type} {elt : E} {tg : List Nat} {it : Itr} {ex : α → D} {ey : β → D} {T : τ → List Sp} {T2 : α → τ → List Sp} {S : β → Sp} {g : τ → α → β × τ} {p : τ → α → Prop} {xs : List α} {t : τ} (hi : EI md call it A (xs.map ex) A1) (hh : hideOkS tg A1 = true) (h0 : Sub (hideS tg A1) (T t))
    (hS : ∀ y, (S y).dat = some (ey y)) (hT : ∀ x t, Sub (hideS tg (T2 x t)) (T t)) (hok : mapOk g p xs t)
    (hb : ∀ t x, p t x → ∃ A2, bindS tg (ex x) (T t) = some A2 ∧ EVN md call elt A2 (fun r : β × τ => S r.1) (fun r => T2 x r.2) (g t x)) :
    EV md call (.comp elt tg it (.cst (.bool true))) A (.ow ((mapS g xs t).1.map ey)) (backS tg A1 (T (mapS g xs t).2)) := fun env r => by
  obtain ⟨env1, p1, r1⟩ := hi env r
  obtain ⟨env2, p2, r2⟩ := compM_ok hS hT hb ((rel_hide (tg := tg) r1).mono h0) hok
  refine ⟨_, back tg env1 env2, ?_, rfl, rel_back r1 r2⟩
  rw [x_comp, p1]
  show coH md call elt tg _ (xs.map ex) env1 (hideOk tg env1) = _
  rw [hide_ok r1 hh]
  show coY tg env1 (compL tg _ (fz (ev md call elt)) (xs.map ex) (hide tg env1)) = _
  rw [p2]
  rfl
theorem compF_ok {τ α β : Type} {elt cond : E} {tg : List Nat} {ex : α → D} {f : α → β} {ey : β → D} {T : τ → List Sp} {T2 : α → τ → List Sp} {g : τ → α → Bool × τ} {p : τ → α → Prop} (hT : ∀ x t, Sub (hideS tg (T2 x t)) (T t))
    (hb : ∀ t x, p t x → ∃ A2, bindS tg (ex x) (T t) = some A2 ∧ EBN md call cond A2 (fun r : Bool × τ => r.1) (fun r => T2 x r.2) (g t x)) (he : ∀ x t, EF md call elt (T2 x t) (ey (f x)) (T2 x t)) : ∀ {xs : List α} {t : τ} {env : Env}, Rel (T t) env → mapOk g p xs t →
    ∃ env', compL tg (tst (ev md call cond)) (fz (ev md call elt)) (xs.map ex) env = .ok (((filtS g xs t).1.map f).map ey) env' ∧ Rel (T (filtS g xs t).2) env'
  | [], t, env, r, _ => ⟨env, rfl, r⟩
  | x :: xs, t, env, r, h => by
    obtain ⟨A2, hb1, hc⟩ := hb t x h.1
    obtain ⟨env1, q1, r1⟩ := rel_bind r hb1
    obtain ⟨env2, q2, r2⟩ := hc env1 r1
    rw [List.map_cons, cl_cons, q1]
    show ∃ env', clY tg _ _ _ (tst (ev md call cond) env1) = _ ∧ _
    rw [tst_x, q2]
    show ∃ env', clY tg _ _ _ (R.ok (g t x).1 env2) = _ ∧ _
    have fe : (filtS g (x :: xs) t).1 = if (g t x).1 = true then x :: (filtS g xs (g t x).2).1 else (filtS g xs (g t x).2).1 := rfl
    rw [fe]
    cases e : (g t x).1 with
    | true =>
      obtain ⟨env3, q3, r3⟩ := he x _ env2 r2
      obtain ⟨env4, q4, r4⟩ := compF_ok hT hb he (xs := xs) ((rel_hide (tg := tg) r3).mono (hT x _)) h.2
      refine ⟨env4, ?_, r4⟩
      show clZ tg _ _ _ (fz (ev md call elt) env2) = _
      rw [fz_x, q3]
      show cnX1 _ (compL tg _ _ (xs.map ex) (hide tg env3)) = _
      rw [q4]
      rfl
    | false =>
      obtain ⟨env4, q4, r4⟩ := compF_ok hT hb he (xs := xs) ((rel_hide (tg := tg) r2).mono (hT x _)) h.2
      refine ⟨env4, ?_, r4⟩
      show compL tg _ _ (xs.map ex) (hide tg env2) = _
      rw [q4]
      rfl
theorem ev_compF {τ α β : Type} {elt cond : E} {tg : List Nat} {it : Itr} {ex : α → D} {f : α → β} {ey : β → D} {T : τ → List Sp} {T2 : α → τ → List Sp} {g : τ → α → Bool × τ} {p : τ → α → Prop} {xs : List α} {t : τ} (hi : EI md call it A (xs.map ex) A1) (hh : hideOkS tg A1 = true) (h0 : Sub (hideS tg A1) (T t))
    (hT : ∀ x t, Sub (hideS tg (T2 x t)) (T t)) (hok : mapOk g p xs t)
    (hb : ∀ t x, p t x → ∃ A2, bindS tg (ex x) (T t) = some A2 ∧ EBN md call cond A2 (fun r : Bool × τ => r.1) (fun r => T2 x r.2) (g t x)) (he : ∀ x t, EF md call elt (T2 x t) (ey (f x)) (T2 x t)) :
    EV md call (.comp elt tg it cond) A (.ow (((filtS g xs t).1.map f).map ey)) (backS tg A1 (T (filtS g xs t).2)) := fun env r => by
  obtain ⟨env1, p1, r1⟩ := hi env r
  obtain ⟨env2, p2, r2⟩ := compF_ok hT hb he ((rel_hide (tg := tg) r1).mono h0) hok
  refine ⟨_, back tg env1 env2, ?_, rfl, rel_back r1 r2⟩
  rw [x_comp, p1]
  show coH md call elt tg _ (xs.map ex) env1 (hideOk tg env1) = _
  rw [hide_ok r1 hh]
  show coY tg env1 (compL tg _ (fz (ev md call elt)) (xs.map ex) (hide tg env1)) = _
  rw [p2]
  rfl
/-! statements -/
variable {ρ : Type} {Of : ρ → O} {n : ρ} {ss : Ss}
theorem xt_nil (i : Imp (.nx A) (Of n)) : XT md call .nil A Of n := fun env r => SatX.imp i ⟨env, rfl, r⟩
theorem xt_imp {B : List Sp} (s : Sub A B) (h : XT md call ss B Of n) : XT md call ss A Of n := fun env r => h env (r.mono s)
theorem xt_bnd {α : Type} {v : α} {f : α → ρ} (h : ∀ p, p = v → XT md call ss A Of (f p)) : XT md call ss A Of (bnd v f) := h v rfl
theorem xt_exc {α : Type} {v : Except Nat α} {h : Nat → ρ} {f : α → ρ} (h1 : ∀ c, v = .error c → XT md call ss A Of (h c)) (h2 : ∀ p, v = .ok p → XT md call ss A Of (f p)) : XT md call ss A Of (exc v h f) := by
  cases e : v with
  | ok p => exact h2 p e
  | error c => exact h1 c e
theorem xt_asg {i : Nat} {e : E} {sp : Sp} (h : EV md call e A sp A1) (t : XT md call ss (A1.set i sp) Of n) : XT md call (.cons (.asg i e) ss) A Of n := fun env r => by
  obtain ⟨s, env1, p1, q1, r1⟩ := h env r
  rw [e_cons, e_asg, p1]
  exact t _ (r1.set q1)
theorem xt_asgB {α : Type} {S : α → Sp} {i : Nat} {e : E} {v : α} {f : α → ρ} (h : EV md call e A (S v) A1) (t : ∀ p, p = v → XT md call ss (A1.set i (S p)) Of (f p)) : XT md call (.cons (.asg i e) ss) A Of (bnd v f) := xt_asg h (t v rfl)
theorem xt_asgT {is : List Nat} {e : E} {d : D} (h : EF md call e A d A1) (hb : bindS is d A1 = some A2) (t : XT md call ss A2 Of n) : XT md call (.cons (.asgT is e) ss) A Of n := fun env r => by
  obtain ⟨env1, p1, r1⟩ := h env r
  obtain ⟨env2, p2, r2⟩ := rel_bind r1 hb
  rw [e_cons, e_asgT, p1]
  show SatX (Of n) (sqS md call ss (btS (bindT is d env1)))
  rw [p2]
  exact t _ r2
theorem xt_par {i j : Nat} {a b : E} {x y : D} (h : EF md call a A x A1) (h2 : EF md call b A1 y A2) (t : XT md call ss ((A2.set i (.fr x)).set j (.fr y)) Of n) : XT md call (.cons (.par i j a b) ss) A Of n := fun env r => by
  obtain ⟨env1, p1, r1⟩ := h env r
  obtain ⟨env2, p2, r2⟩ := h2 env1 r1
  have e1 : fz (ev md call a) env = .ok x env1 := by rw [fz_x, p1]
  have e2 : fz (ev md call b) env1 = .ok y env2 := by rw [fz_x, p2]
  have e3 : exec md call (.par i j a b) env = .nx ((env2.set i (.fr x)).set j (.fr y)) := by
    simp only [exec, e1, e2, R.go]
  rw [e_cons, e3]
  exact t _ ((r2.set (sp := .fr x) rfl).set rfl)
theorem xt_ex {e : E} {sp : Sp} (h : EV md call e A sp A1) (t : XT md call ss A1 Of n) : XT md call (.cons (.ex e) ss) A Of n := fun env r => by
  obtain ⟨s, env1, p1, q1, r1⟩ := h env r
  rw [e_cons, e_ex, p1]
  exact t _ r1
theorem xt_ret {e : E} {sp : Sp} (hv : isVar e = false) (h : EV md call e A sp A1) (i : Imp (.rt sp A1) (Of n)) : XT md call (.cons (.ret e) ss) A Of n := fun env r => by
  obtain ⟨s, env1, p1, q1, r1⟩ := h env r
  rw [e_cons, e_ret (notVar hv), p1]
  exact SatX.imp i ⟨s, env1, rfl, q1, r1⟩
theorem xt_retV {j : Nat} {sp : Sp} (h : A[j]? = some sp) (hh : sp.here = true) (i : Imp (.rt sp (A.set j .nn)) (Of n)) : XT md call (.cons (.ret (.var j)) ss) A Of n := fun env r => by
  have k := r.at h
  have hu := here_un k hh
  rw [e_cons, e_retV]
  have e : rvS (look env j) j env = .rt (look env j) (env.set j .un) := by
    cases q : look env j with
    | un => exact absurd q hu
    | _ => rfl
  rw [e]
  exact SatX.imp i ⟨_, _, rfl, k, r.set rfl⟩
def _root_.Dc.Ss.app : Ss → Ss → Ss
  | .nil, t => t
  | .cons s ss, t => .cons s (ss.app t)
theorem sqS_app : ∀ {a : Ss} {env : Env}, sqS md call ss (execs md call a env) = execs md call (a.app ss) env
  | .nil, env => rfl
  | .cons s a, env => by
    show sqS md call ss (execs md call (.cons s a) env) = execs md call (.cons s (a.app ss)) env
    rw [e_cons, e_cons]
    cases exec md call s env with
    | nx env1 => exact sqS_app (a := a)
    | _ => rfl
theorem xt_if {c : E} {a b : Ss} {x : Bool} {m k : ρ} (h : EB md call c A x A1) (ha : x = true → XT md call (a.app ss) A1 Of m) (hb : x = false → XT md call (b.app ss) A1 Of k) : XT md call (.cons (.iff c a b) ss) A Of (if x = true then m else k) := fun env r => by
  obtain ⟨env1, p1, r1⟩ := h env r
  rw [e_cons, e_if, p1]
  cases x with
  | true =>
    show SatX (Of m) (sqS md call ss (execs md call a env1))
    rw [sqS_app]
    exact ha rfl env1 r1
  | false =>
    show SatX (Of k) (sqS md call ss (execs md call b env1))
    rw [sqS_app]
    exact hb rfl env1 r1
theorem xt_join {σ : Type} {J : σ → List Sp} {c : E} {a b : Ss} {x : Bool} {m k : σ} {f : σ → ρ} (h : EB md call c A x A1) (ha : x = true → XT md call a A1 (fun s => O.nx (J s)) m) (hb : x = false → XT md call b A1 (fun s => O.nx (J s)) k)
    (t : ∀ p, p = (if x = true then m else k) → XT md call ss (J p) Of (f p)) : XT md call (.cons (.iff c a b) ss) A Of (bnd (if x = true then m else k) f) := fun env r => by
  obtain ⟨env1, p1, r1⟩ := h env r
  have t0 := t _ rfl
  rw [e_cons, e_if, p1]
  cases x with
  | true =>
    obtain ⟨env2, q, r2⟩ := ha rfl env1 r1
    show SatX (Of (f m)) (sqS md call ss (execs md call a env1))
    rw [q]
    exact t0 env2 r2
  | false =>
    obtain ⟨env2, q, r2⟩ := hb rfl env1 r1
    show SatX (Of (f k)) (sqS md call ss (execs md call b env1))
    rw [q]
    exact t0 env2 r2
theorem for_ok {σ α : Type} {tg : List Nat} {body : Ss} {ex : α → D} {AH : σ → List Sp} {f : σ → α → σ} {p : σ → α → Prop} : ∀ {xs : List α} {s : σ} {env : Env}, Rel (AH s) env → foldOk f p xs s →
    (∀ s x, x ∈ xs → p s x → ∃ A2, bindS tg (ex x) (AH s) = some A2 ∧ XT md call body A2 (fun s => O.nx (AH s)) (f s x)) →
    ∃ env', forL tg (execs md call body) (xs.map ex) env = .nx env' ∧ Rel (AH (xs.foldl f s)) env'
  | [], s, env, r, _, _ => ⟨env, rfl, r⟩
  | x :: xs, s, env, r, hk, h => by
    obtain ⟨A2, hb, hx⟩ := h s x List.mem_cons_self hk.1
    obtain ⟨env1, q1, r1⟩ := rel_bind r hb
    obtain ⟨env2, q2, r2⟩ := hx env1 r1
    obtain ⟨env3, q3, r3⟩ := for_ok (xs := xs) r2 hk.2 fun s y m => h s y (List.mem_cons_of_mem _ m)
    refine ⟨env3, ?_, r3⟩
    show (match bindT tg (ex x) env with | some env1 => (execs md call body env1).bind (forL tg (execs md call body) (xs.map ex)) | none => .st) = _
    rw [q1]
    show (execs md call body env1).bind _ = _
    rw [q2]
    exact q3
theorem xt_for {σ α : Type} {AH : σ → List Sp} {tg : List Nat} {it : Itr} {body : Ss} {ex : α → D} {f : σ → α → σ} {p : σ → α → Prop} {xs : List α} {s0 : σ} {g : σ → ρ} (hi : EI md call it A (xs.map ex) A1) (h0 : Sub A1 (AH s0)) (hok : foldOk f p xs s0)
    (hb : ∀ s x, x ∈ xs → p s x → ∃ A2, bindS tg (ex x) (AH s) = some A2 ∧ XT md call body A2 (fun s => O.nx (AH s)) (f s x))
    (t : ∀ p, p = xs.foldl f s0 → XT md call ss (AH p) Of (g p)) : XT md call (.cons (.for tg it body) ss) A Of (bnd (xs.foldl f s0) g) := fun env r => by
  obtain ⟨env1, p1, r1⟩ := hi env r
  obtain ⟨env2, p2, r2⟩ := for_ok (r1.mono h0) hok hb
  rw [e_cons, e_for, p1]
  show SatX _ (sqS md call ss (forL tg (execs md call body) (xs.map ex) env1))
  rw [p2]
  exact t _ rfl env2 r2
def notNx : O → Prop
  | .nx _ => False
  | _ => True
def ctO {σ ρ0 : Type} (AH : σ → List Sp) (O0 : ρ0 → O) : Ct σ ρ0 → O
  | .nx s => .nx (AH s)
  | .rt r => O0 r
theorem forR_ok {σ α ρ0 : Type} {tg : List Nat} {body : Ss} {ex : α → D} {AH : σ → List Sp} {O0 : ρ0 → O} {f : σ → α → Ct σ ρ0} {p : σ → α → Prop} (hn : ∀ r, notNx (O0 r)) : ∀ {xs : List α} {s : σ} {env : Env}, Rel (AH s) env → loopOk f p xs s →
    (∀ s x, x ∈ xs → p s x → ∃ A2, bindS tg (ex x) (AH s) = some A2 ∧ XT md call body A2 (ctO AH O0) (f s x)) →
    SatX (ctO AH O0 (loopR f xs s)) (forL tg (execs md call body) (xs.map ex) env)
  | [], s, env, r, _, _ => ⟨env, rfl, r⟩
  | x :: xs, s, env, r, hk, h => by
    obtain ⟨A2, hb, hx⟩ := h s x List.mem_cons_self hk.1
    obtain ⟨env1, q1, r1⟩ := rel_bind r hb
    have hx := hx env1 r1
    have hk2 := hk.2
    show SatX (ctO AH O0 (match f s x with | .nx t => loopR f xs t | .rt r => .rt r)) (match bindT tg (ex x) env with | some env1 => (execs md call body env1).bind (forL tg (execs md call body) (xs.map ex)) | none => .st)
    rw [q1]
    show SatX _ ((execs md call body env1).bind _)
    cases e : f s x with
    | nx s2 =>
      rw [e] at hx hk2
      obtain ⟨env2, q2, r2⟩ := hx
      rw [q2]
      exact forR_ok hn (xs := xs) r2 hk2 fun s y m => h s y (List.mem_cons_of_mem _ m)
    | rt r0 =>
      rw [e] at hx
      show SatX (O0 r0) _
      have hx : SatX (O0 r0) (execs md call body env1) := hx
      have hn := hn r0
      cases ho : O0 r0 with
      | nx B =>
        rw [ho] at hn
        exact hn.elim
      | rt sp B =>
        rw [ho] at hx
        obtain ⟨sl, env2, q2, k2, r2⟩ := hx
        rw [q2]
        exact ⟨sl, env2, rfl, k2, r2⟩
      | er c B =>
        rw [ho] at hx
        obtain ⟨env2, q2, r2⟩ := hx
        rw [q2]
        exact ⟨env2, rfl, r2⟩
theorem xt_forR {σ α ρ0 : Type} {AH : σ → List Sp} {O0 : ρ0 → O} {tg : List Nat} {it : Itr} {body : Ss} {ex : α → D} {f : σ → α → Ct σ ρ0} {p : σ → α → Prop} {xs : List α} {s0 : σ} {h : ρ0 → ρ} {g : σ → ρ} (hn : ∀ r, notNx (O0 r)) (ho : ∀ r, O0 r = Of (h r)) (hi : EI md call it A (xs.map ex) A1) (h0 : Sub A1 (AH s0)) (hok : loopOk f p xs s0)
    (hb : ∀ s x, x ∈ xs → p s x → ∃ A2, bindS tg (ex x) (AH s) = some A2 ∧ XT md call body A2 (ctO AH O0) (f s x))
    (t : ∀ p, loopR f xs s0 = .nx p → XT md call ss (AH p) Of (g p)) : XT md call (.cons (.for tg it body) ss) A Of (cthn (loopR f xs s0) h g) := fun env r => by
  obtain ⟨env1, p1, r1⟩ := hi env r
  have z := forR_ok hn (r1.mono h0) hok hb
  rw [e_cons, e_for, p1]
  show SatX _ (sqS md call ss (forL tg (execs md call body) (xs.map ex) env1))
  cases e : loopR f xs s0 with
  | nx s2 =>
    rw [e] at z
    obtain ⟨env2, q2, r2⟩ := z
    rw [q2]
    exact t _ e env2 r2
  | rt r0 =>
    rw [e] at z
    have z : SatX (O0 r0) (forL tg (execs md call body) (xs.map ex) env1) := z
    show SatX (Of (h r0)) _
    rw [← ho]
    have hn := hn r0
    cases hoo : O0 r0 with
    | nx B =>
      rw [hoo] at hn
      exact hn.elim
    | rt sp B =>
      rw [hoo] at z
      obtain ⟨sl, env2, q2, k2, r2⟩ := z
      rw [q2]
      exact ⟨sl, env2, rfl, k2, r2⟩
    | er c B =>
      rw [hoo] at z
      obtain ⟨env2, q2, r2⟩ := z
      rw [q2]
      exact ⟨env2, rfl, r2⟩
theorem while_ok {σ : Type} {ce : E} {body : Ss} {AH : σ → List Sp} {c : σ → Bool} {f : σ → σ} {pc p : σ → Prop} (hc : ∀ s, pc s → EB md call ce (AH s) (c s) (AH s)) (hb : ∀ s, c s = true → p s → XT md call body (AH s) (fun s => O.nx (AH s)) (f s)) : ∀ {m : Nat} {s : σ} {env : Env}, Rel (AH s) env → whileOk c f pc p m s →
    ∃ env', whileL (tst (ev md call ce)) (execs md call body) m env = .nx env' ∧ Rel (AH (whileN c f m s)) env'
  | 0, _, _, _, h => h.elim
  | m + 1, s, env, r, h => by
    obtain ⟨env1, q1, r1⟩ := hc s h.1 env r
    have e1 : tst (ev md call ce) env = .ok (c s) env1 := by rw [tst_x, q1]
    cases e : c s with
    | false =>
      refine ⟨env1, ?_, ?_⟩
      · simp only [whileL, e1, e, R.go]
      · simp only [whileN, e]
        exact r1
    | true =>
      obtain ⟨h1, h2⟩ := h.2 e
      obtain ⟨env2, q2, r2⟩ := hb s e h1 env1 r1
      obtain ⟨env3, q3, r3⟩ := while_ok hc hb r2 h2
      refine ⟨env3, ?_, ?_⟩
      · simp only [whileL, e1, e, R.go, q2, Xo.bind]
        exact q3
      · simp only [whileN, e, if_true]
        exact r3
theorem xt_while {σ : Type} {AH : σ → List Sp} {ce : E} {body : Ss} {c : σ → Bool} {f : σ → σ} {pc p : σ → Prop} {s0 : σ} {g : σ → ρ} (h0 : Sub A (AH s0)) (hok : whileOk c f pc p turns s0) (hc : ∀ s, pc s → EB md call ce (AH s) (c s) (AH s)) (hb : ∀ s, c s = true → p s → XT md call body (AH s) (fun s => O.nx (AH s)) (f s))
    (t : ∀ p, p = whileN c f turns s0 → XT md call ss (AH p) Of (g p)) : XT md call (.cons (.while ce body) ss) A Of (bnd (whileN c f turns s0) g) := fun env r => by
  obtain ⟨env2, p2, r2⟩ := while_ok hc hb (r.mono h0) hok
  have e : exec md call (.while ce body) env = .nx env2 := p2
  rw [e_cons, e]
  exact t _ rfl env2 r2
theorem xt_raise {c : Nat} (i : Imp (.er c A) (Of n)) : XT md call (.cons (.raise c) ss) A Of n := fun env r => by
  rw [e_cons, e_raise]
  exact SatX.imp i ⟨env, rfl, r⟩
theorem xt_pass (t : XT md call ss A Of n) : XT md call (.cons .pass ss) A Of n := fun env r => by
  rw [e_cons, e_pass]
  exact t env r
theorem xt_asgE {i c : Nat} {e : E} (h : ER md call e A c A1) (k : Imp (.er c A1) (Of n)) : XT md call (.cons (.asg i e) ss) A Of n := fun env r => by
  obtain ⟨env1, p1, r1⟩ := h env r
  rw [e_cons, e_asg, p1]
  exact SatX.imp k ⟨env1, rfl, r1⟩
theorem xt_exE {c : Nat} {e : E} (h : ER md call e A c A1) (k : Imp (.er c A1) (Of n)) : XT md call (.cons (.ex e) ss) A Of n := fun env r => by
  obtain ⟨env1, p1, r1⟩ := h env r
  rw [e_cons, e_ex, p1]
  exact SatX.imp k ⟨env1, rfl, r1⟩
theorem xt_retE {c : Nat} {e : E} (hv : isVar e = false) (h : ER md call e A c A1) (k : Imp (.er c A1) (Of n)) : XT md call (.cons (.ret e) ss) A Of n := fun env r => by
  obtain ⟨env1, p1, r1⟩ := h env r
  rw [e_cons, e_ret (notVar hv), p1]
  exact SatX.imp k ⟨env1, rfl, r1⟩
theorem xt_ifE {c : Nat} {e : E} {a b : Ss} (h : ER md call e A c A1) (k : Imp (.er c A1) (Of n)) : XT md call (.cons (.iff e a b) ss) A Of n := fun env r => by
  obtain ⟨env1, p1, r1⟩ := h env r
  rw [e_cons, e_if]
  have : tsX (ev md call e env) = .er c env1 := by rw [p1]; rfl
  rw [this]
  exact SatX.imp k ⟨env1, rfl, r1⟩
theorem xt_tryW {cs : List Nat} {body : Ss} {i : Nat} {OB : Except Nat D → O} {m : Except Nat D} {Od : D → O} {AE : Nat → List Sp} (h : XT md call body A OB m) (hok : ∀ d, ∃ sp B, OB (.ok d) = .rt sp B ∧ Imp (.rt sp B) (Od d)) (her : ∀ c, OB (.error c) = .er c (AE c)) (hcs : ∀ c, m = .error c → c ∈ cs)
    (hw : ∀ c, Imp (.rt (.fr (whichD c)) ((AE c).set i .nn)) (Od (whichD c))) : XT md call (.cons (.tr cs body (.retWhich i)) ss) A Od (tryW m) := fun env r => by
  have z := h env r
  rw [e_cons, e_tr]
  cases e : m with
  | ok d =>
    obtain ⟨sp, B, h1, h2⟩ := hok d
    rw [e, h1] at z
    obtain ⟨s, env1, q, k, r1⟩ := z
    rw [q]
    exact SatX.imp h2 ⟨s, env1, rfl, k, r1⟩
  | error c =>
    rw [e, her] at z
    obtain ⟨env1, q, r1⟩ := z
    rw [q]
    show SatX _ (sqS md call ss (if cs.contains c then _ else _))
    rw [if_pos (List.contains_iff_mem.mpr (hcs c e))]
    exact SatX.imp (hw c) ⟨_, _, rfl, rfl, r1.set rfl⟩
end
/-! defs -/
def maskS : Modes → List Sp → List Sp
  | [], _ => []
  | m :: ms, A => (match m with | true => A.headD .nn | false => .nn) :: maskS ms A.tail
def fnO (ms : Modes) : O → O
  | .nx A => .rt (.fr .none) (maskS ms A)
  | .rt sp A => .rt sp (maskS ms A)
  | .er c A => .er c (maskS ms A)
theorem rel_mask : ∀ {ms : List Bool} {A : List Sp} {env : Env}, Rel A env → Rel (maskS ms A) (mask ms env)
  | [], _, _, _ => trivial
  | true :: ms, [], [], r => ⟨rfl, rel_mask (ms := ms) (A := []) (env := []) trivial⟩
  | false :: ms, [], [], r => ⟨rfl, rel_mask (ms := ms) (A := []) (env := []) trivial⟩
  | true :: ms, _ :: _, _ :: _, r => ⟨r.1, rel_mask r.2⟩
  | false :: ms, _ :: _, _ :: _, r => ⟨rfl, rel_mask r.2⟩
  | _ :: _, [], _ :: _, r => r.elim
  | _ :: _, _ :: _, [], r => r.elim
theorem rel_app {as : List Sp} {B : List Sp} : ∀ {args env : Env}, Rel as args → Rel B env → Rel (as ++ B) (args ++ env) := by
  induction as with
  | nil =>
    intro args env r t
    cases args with
    | nil => exact t
    | cons _ _ => exact r.elim
  | cons a as ih =>
    intro args env r t
    cases args with
    | nil => exact r.elim
    | cons s args => exact ⟨r.1, ih r.2 t⟩
theorem rel_uns : ∀ n : Nat, Rel (List.replicate n .nn) (List.replicate n .un)
  | 0 => trivial
  | n + 1 => ⟨rfl, rel_uns n⟩
theorem SatR.imp {a b : O} {x : R Sl} (i : Imp a b) (h : SatR a x) : SatR b x := by
  cases i with
  | nx s => exact h.elim
  | rt g s =>
    obtain ⟨sl, env, e, k, r⟩ := h
    exact ⟨sl, env, e, g _ k, r.mono s⟩
  | er s =>
    obtain ⟨env, e, r⟩ := h
    exact ⟨env, e, r.mono s⟩
theorem fn_of {ρ : Type} {U : Nat → Option Def} {k f : Nat} {d : Def} {as A0 : List Sp} {OB OF : ρ → O} {n : ρ} (hU : U f = some d) (hl : as.length = d.modes.length) (hA : as ++ List.replicate (d.slots - as.length) .nn = A0) (h : XT (modesOf U) (run U k) d.body A0 OB n) (hO : ∀ n, Imp (fnO d.modes (OB n)) (OF n)) : CallO (run U (k + 1)) f as OF n := fun args r => by
  subst hA
  have le := r.len
  rw [run_is (env := args ++ List.replicate (d.slots - args.length) .un) hU (by rw [le, hl]) rfl]
  have z := h (args ++ List.replicate (d.slots - args.length) .un) (by rw [le]; exact rel_app r (rel_uns _))
  refine SatR.imp (hO n) ?_
  cases e : OB n with
  | nx B =>
    rw [e] at z
    obtain ⟨env1, q, r1⟩ := z
    rw [q]
    exact ⟨_, _, rfl, rfl, rel_mask r1⟩
  | rt sp B =>
    rw [e] at z
    obtain ⟨s, env1, q, k1, r1⟩ := z
    rw [q]
    exact ⟨_, _, rfl, k1, rel_mask r1⟩
  | er c B =>
    rw [e] at z
    obtain ⟨env1, q, r1⟩ := z
    rw [q]
    exact ⟨_, rfl, rel_mask r1⟩
end Nt

/-! Dc: what the operations do to data that stand for plain values. -/
namespace Nt
open Dc
open PySem (PyData)
section
variable {α β γ : Type}
class NN (e : α → D) : Prop where
  nn : ∀ a, e a ≠ .none
class Typ [DecidableEq α] (e : α → D) (n : outParam Nat) : Prop where
  eqv : ∀ a b, PyData.eqv (e a) (e b) = decide (a = b)
  lay : ∀ a, PyData.canLay0 (e a) = true
  dep : ∀ a, PyData.depth (e a) ≤ n
instance : NN eI := ⟨fun _ h => by cases h⟩
instance : NN eB := ⟨fun _ h => by cases h⟩
instance : NN eS := ⟨fun _ h => by cases h⟩
instance {e : α → D} : NN (eL e) := ⟨fun _ h => by cases h⟩
instance {e : α → D} : NN (eT e) := ⟨fun _ h => by cases h⟩
instance {a : α → D} {b : β → D} : NN (eP a b) := ⟨fun _ h => by cases h⟩
instance {a : α → D} {b : β → D} {c : γ → D} : NN (eQ a b c) := ⟨fun _ h => by cases h⟩
theorem eqvAll_map [DecidableEq α] {e : α → D} (h : ∀ a b, PyData.eqv (e a) (e b) = decide (a = b)) : ∀ xs ys : List α, PyData.eqvAll (xs.map e) (ys.map e) = decide (xs = ys)
  | [], [] => by simp [PyData.eqvAll]
  | [], _ :: _ => by simp [PyData.eqvAll]
  | _ :: _, [] => by simp [PyData.eqvAll]
  | x :: xs, y :: ys => by
    simp only [List.map_cons, PyData.eqvAll, h, eqvAll_map h xs ys]
    rw [Bool.eq_iff_iff]
    simp
theorem layAll_map {e : α → D} (h : ∀ a, PyData.canLay0 (e a) = true) : ∀ xs : List α, PyData.canLayAll0 (xs.map e) = true
  | [] => by simp [PyData.canLayAll0]
  | x :: xs => by simp [PyData.canLayAll0, h, layAll_map h xs]
theorem depAll_map {e : α → D} {n : Nat} (h : ∀ a, PyData.depth (e a) ≤ n) : ∀ xs : List α, PyData.depthAll (xs.map e) ≤ n
  | [] => by simp [PyData.depthAll]
  | x :: xs => by
    simp only [List.map_cons, PyData.depthAll]
    have := h x
    have := depAll_map h xs
    omega
instance : Typ eI 0 := ⟨fun a b => by simp only [eI, PyData.eqv]; exact Bool.eq_iff_iff.mpr (by simp), fun _ => by simp [eI, PyData.canLay0], fun _ => by simp [eI, PyData.depth]⟩
instance : Typ eB 0 := ⟨fun a b => by simp only [eB, PyData.eqv]; exact Bool.eq_iff_iff.mpr (by simp), fun _ => by simp [eB, PyData.canLay0], fun _ => by simp [eB, PyData.depth]⟩
inductive Who where
  | one | two | three
  deriving DecidableEq, Inhabited, Repr
def Who.str : Who → PySem.Str
  | .one => PySem.Str.ofString "one"
  | .two => PySem.Str.ofString "two"
  | .three => PySem.Str.ofString "three"
def eW (w : Who) : D := .str w.str
instance : NN eW := ⟨fun _ h => by cases h⟩
instance : Typ eW 0 := ⟨fun a b => by cases a <;> cases b <;> decide +kernel, fun a => by cases a <;> decide +kernel, fun a => by cases a <;> decide +kernel⟩
instance [DecidableEq α] {e : α → D} {n : Nat} [t : Typ e n] : Typ (eL e) (n + 1) := ⟨fun a b => by simp only [eL, PyData.eqv]; exact eqvAll_map t.eqv a b, fun a => by simp only [eL, PyData.canLay0]; exact layAll_map t.lay a, fun a => by
  have := depAll_map t.dep a
  simp only [eL, PyData.depth]
  omega⟩
instance [DecidableEq α] {e : α → D} {n : Nat} [t : Typ e n] : Typ (eT e) (n + 1) := ⟨fun a b => by simp only [eT, PyData.eqv]; exact eqvAll_map t.eqv a b, fun a => by simp only [eT, PyData.canLay0]; exact layAll_map t.lay a, fun a => by
  have := depAll_map t.dep a
  simp only [eT, PyData.depth]
  omega⟩
instance [DecidableEq α] [DecidableEq β] {a : α → D} {b : β → D} {n m : Nat} [s : Typ a n] [t : Typ b m] : Typ (eP a b) (n + m + 1) := ⟨fun p q => by
  simp only [eP, PyData.eqv, PyData.eqvAll, s.eqv, t.eqv]
  rw [Bool.eq_iff_iff]
  simp [Prod.ext_iff], fun p => by simp [eP, PyData.canLay0, PyData.canLayAll0, s.lay, t.lay], fun p => by
  have := s.dep p.1
  have := t.dep p.2
  simp only [eP, PyData.depth, PyData.depthAll]
  omega⟩
instance [DecidableEq α] [DecidableEq β] [DecidableEq γ] {a : α → D} {b : β → D} {c : γ → D} {n m k : Nat} [s : Typ a n] [t : Typ b m] [u : Typ c k] : Typ (eQ a b c) (n + m + k + 1) := ⟨fun p q => by
  simp only [eQ, PyData.eqv, PyData.eqvAll, s.eqv, t.eqv, u.eqv]
  rw [Bool.eq_iff_iff]
  simp [Prod.ext_iff], fun p => by simp [eQ, PyData.canLay0, PyData.canLayAll0, s.lay, t.lay, u.lay], fun p => by
  have := s.dep p.1
  have := t.dep p.2.1
  have := u.dep p.2.2
  simp only [eQ, PyData.depth, PyData.depthAll]
  omega⟩
theorem eqv_none_l {d : D} (h : d ≠ .none) : PyData.eqv .none d = false := by cases d <;> simp_all [PyData.eqv]
theorem eqv_none_r {d : D} (h : d ≠ .none) : PyData.eqv d .none = false := by cases d <;> simp_all [PyData.eqv]
instance [DecidableEq α] {e : α → D} {n : Nat} [t : Typ e n] [z : NN e] : Typ (eO e) n := ⟨fun a b => by
  cases a with
  | none => cases b with
    | none => simp [eO, PyData.eqv]
    | some b => simp only [eO, eqv_none_l (z.nn b)]; simp
  | some a => cases b with
    | none => simp only [eO, eqv_none_r (z.nn a)]; simp
    | some b => simp only [eO, t.eqv]; simp, fun a => by
  cases a with
  | none => simp [eO, PyData.canLay0]
  | some a => exact t.lay a, fun a => by
  cases a with
  | none => simp [eO, PyData.depth]
  | some a => exact t.dep a⟩
theorem shp [DecidableEq α] {e : α → D} {n : Nat} [t : Typ e n] (hn : n ≤ 64) (a : α) : PySem.SeqAt.shaped (e a) = true := by
  unfold PySem.SeqAt.shaped
  rw [t.lay, decide_eq_true (Nat.le_trans (t.dep a) hn)]
  rfl
/-! comparing -/
theorem p_eq [DecidableEq α] (e : α → D) (a b : α) {n : Nat} [t : Typ e n] (hn : n ≤ 64 := by decide) : primS .eq [e a, e b] = some (.fr (eB (decide (a = b)))) := by
  show guard (PySem.SeqAt.shaped (e a) && PySem.SeqAt.shaped (e b)) (b2 (PyData.eqv (e a) (e b))) = _
  rw [shp hn, shp hn, t.eqv]
  rfl
theorem p_ne [DecidableEq α] (e : α → D) (a b : α) {n : Nat} [t : Typ e n] (hn : n ≤ 64 := by decide) : primS .ne [e a, e b] = some (.fr (eB (!decide (a = b)))) := by
  show guard (PySem.SeqAt.shaped (e a) && PySem.SeqAt.shaped (e b)) (b2 (!PyData.eqv (e a) (e b))) = _
  rw [shp hn, shp hn, t.eqv]
  rfl
theorem p_ltI (a b : Int) : primS .lt [eI a, eI b] = some (.fr (eB (decide (a < b)))) := rfl
theorem p_gtI (a b : Int) : primS .gt [eI a, eI b] = some (.fr (eB (decide (b < a)))) := rfl
theorem p_leI (a b : Int) : primS .le [eI a, eI b] = some (.fr (eB (decide (a ≤ b)))) := rfl
theorem p_geI (a b : Int) : primS .ge [eI a, eI b] = some (.fr (eB (decide (b ≤ a)))) := rfl
theorem intsOf_map : ∀ xs : List Int, intsOf (xs.map eI) = some xs
  | [] => rfl
  | x :: xs => by
    show (intsOf (xs.map eI)).map (x :: ·) = _
    rw [intsOf_map xs]
    rfl
theorem boolsOf_map : ∀ xs : List Bool, boolsOf (xs.map eB) = some xs
  | [] => rfl
  | x :: xs => by
    show (boolsOf (xs.map eB)).map (x :: ·) = _
    rw [boolsOf_map xs]
    rfl
theorem p_ltT (a b : List Int) : primS .lt [eT eI a, eT eI b] = some (.fr (eB (ltI a b))) := by
  show (match intsOf (a.map eI), intsOf (b.map eI) with | some a, some b => b2 (ltI a b) | _, _ => none) = _
  rw [intsOf_map, intsOf_map]
  rfl
theorem any_map [DecidableEq α] {e : α → D} {n : Nat} [t : Typ e n] (a : α) : ∀ xs : List α, ((xs.map e).any fun z => PyData.eqv z (e a)) = decide (a ∈ xs)
  | [] => by simp
  | x :: xs => by
    rw [List.map_cons, List.any_cons, any_map a xs, t.eqv]
    rw [Bool.eq_iff_iff, Bool.or_eq_true, decide_eq_true_iff, decide_eq_true_iff, decide_eq_true_iff, List.mem_cons]
    exact ⟨fun h => h.imp Eq.symm id, fun h => h.imp Eq.symm id⟩
/-- membership, by the one way to decide equality -/
def memB [DecidableEq α] (a : α) (xs : List α) : Bool := decide (a ∈ xs)
theorem p_inL [DecidableEq α] (e : α → D) (a : α) (xs : List α) {n : Nat} [t : Typ e n] (hn : n + 1 ≤ 64 := by decide) : primS .isin [e a, eL e xs] = some (.fr (eB (decide (a ∈ xs)))) := by
  show guard (PySem.SeqAt.shaped (e a) && PySem.SeqAt.shaped (eL e xs)) (b2 (false ^^ (xs.map e).any fun z => PyData.eqv z (e a))) = _
  rw [shp (by omega), shp (e := eL e) hn, any_map, Bool.false_xor]
  rfl
theorem p_niL [DecidableEq α] (e : α → D) (a : α) (xs : List α) {n : Nat} [t : Typ e n] (hn : n + 1 ≤ 64 := by decide) : primS .notin [e a, eL e xs] = some (.fr (eB (!decide (a ∈ xs)))) := by
  show guard (PySem.SeqAt.shaped (e a) && PySem.SeqAt.shaped (eL e xs)) (b2 (true ^^ (xs.map e).any fun z => PyData.eqv z (e a))) = _
  rw [shp (by omega), shp (e := eL e) hn, any_map, Bool.true_xor]
  rfl
theorem p_inT [DecidableEq α] (e : α → D) (a : α) (xs : List α) {n : Nat} [t : Typ e n] (hn : n + 1 ≤ 64 := by decide) : primS .isin [e a, eT e xs] = some (.fr (eB (decide (a ∈ xs)))) := by
  show guard (PySem.SeqAt.shaped (e a) && PySem.SeqAt.shaped (eT e xs)) (b2 (false ^^ (xs.map e).any fun z => PyData.eqv z (e a))) = _
  rw [shp (by omega), shp (e := eT e) hn, any_map, Bool.false_xor]
  rfl
theorem p_niT [DecidableEq α] (e : α → D) (a : α) (xs : List α) {n : Nat} [t : Typ e n] (hn : n + 1 ≤ 64 := by decide) : primS .notin [e a, eT e xs] = some (.fr (eB (!decide (a ∈ xs)))) := by
  show guard (PySem.SeqAt.shaped (e a) && PySem.SeqAt.shaped (eT e xs)) (b2 (true ^^ (xs.map e).any fun z => PyData.eqv z (e a))) = _
  rw [shp (by omega), shp (e := eT e) hn, any_map, Bool.true_xor]
  rfl
theorem p_isN (e : α → D) (x : Option α) [z : NN e] : primS .isN [eO e x] = some (.fr (eB x.isNone)) := by
  cases x with
  | none => rfl
  | some a =>
    have h := z.nn a
    show oneS .isN (e a) = _
    generalize e a = d at h
    cases d with
    | none => exact absurd rfl h
    | _ => rfl
theorem p_notN (e : α → D) (x : Option α) [z : NN e] : primS .notN [eO e x] = some (.fr (eB x.isSome)) := by
  cases x with
  | none => rfl
  | some a =>
    have h := z.nn a
    show oneS .notN (e a) = _
    generalize e a = d at h
    cases d with
    | none => exact absurd rfl h
    | _ => rfl
/-! whole numbers -/
theorem p_addI (a b : Int) : primS .add [eI a, eI b] = some (.fr (eI (a + b))) := rfl
theorem p_subI (a b : Int) : primS .sub [eI a, eI b] = some (.fr (eI (a - b))) := rfl
theorem p_mulI (a b : Int) (h : small64 a = true ∨ small64 b = true) : primS .mul [eI a, eI b] = some (.fr (eI (a * b))) := by
  show guard (small64 a || small64 b) _ = _
  rcases h with h | h
  · rw [h, Bool.true_or]
    rfl
  · rw [h, Bool.or_true]
    rfl
theorem p_modI (a b : Int) (h : b ≠ 0) : primS .mod [eI a, eI b] = some (.fr (eI (a.fmod b))) := by
  show guard (decide (b ≠ 0)) _ = _
  rw [decide_eq_true h]
  rfl
theorem p_fdivI (a b : Int) (h : b ≠ 0 ∧ b.natAbs < 1073741824) : primS .fdiv [eI a, eI b] = some (.fr (eI (a.fdiv b))) := by
  show guard (decide (b ≠ 0) && decide (b.natAbs < 1073741824)) _ = _
  rw [decide_eq_true h.1, decide_eq_true h.2]
  rfl
theorem p_powI (a b : Int) (h : 0 ≤ b ∧ b ≤ 1000000 ∧ a.natAbs < 2 ^ 64) : primS .pow [eI a, eI b] = some (.fr (eI (a ^ b.toNat))) := by
  show guard (decide (0 ≤ b) && decide (b ≤ 1000000) && decide (a.natAbs < 2 ^ 64)) _ = _
  rw [decide_eq_true h.1, decide_eq_true h.2.1, decide_eq_true h.2.2]
  rfl
theorem p_min (a b : Int) : primS .min2 [eI a, eI b] = some (.fr (eI (min a b))) := by
  show i2 (if b < a then b else a) = _
  by_cases h : b < a
  · rw [if_pos h, Int.min_eq_right (by omega)]
    rfl
  · rw [if_neg h, Int.min_eq_left (by omega)]
    rfl
theorem p_max (a b : Int) : primS .max2 [eI a, eI b] = some (.fr (eI (max a b))) := by
  show i2 (if b > a then b else a) = _
  by_cases h : b > a
  · rw [if_pos h, Int.max_eq_right (by omega)]
    rfl
  · rw [if_neg h, Int.max_eq_left (by omega)]
    rfl
def b2i (b : Bool) : Int := if b = true then 1 else 0
theorem p_intB (b : Bool) : primS .int [eB b] = some (.fr (eI (b2i b))) := rfl
theorem p_intI (b : Int) : primS .int [eI b] = some (.fr (eI b)) := rfl
theorem p_strI (i : Int) (h : i.natAbs.log2 < 1920) : primS .str [eI i] = some (.fr (eS (toString i))) := by
  show guard (decide (i.natAbs.log2 < 1920)) _ = _
  rw [decide_eq_true h]
  rfl
/-! rows -/
theorem p_addT (e : α → D) (a b : List α) (h : a.length + b.length ≤ PySem.sizeLine) : primS .add [eT e a, eT e b] = some (.fr (eT e (a ++ b))) := by
  show guard (decide ((a.map e).length + (b.map e).length ≤ PySem.sizeLine)) (some (.fr (.tuple (a.map e ++ b.map e)))) = _
  rw [decide_eq_true (by rw [List.length_map, List.length_map]; exact h), ← List.map_append]
  rfl
theorem p_addL (e : α → D) (a b : List α) (h : a.length + b.length ≤ PySem.sizeLine) : primS .add [eL e a, eL e b] = some (.ol ((a ++ b).map e)) := by
  show guard (decide ((a.map e).length + (b.map e).length ≤ PySem.sizeLine)) (some (.ol (a.map e ++ b.map e))) = _
  rw [decide_eq_true (by rw [List.length_map, List.length_map]; exact h), ← List.map_append]
  rfl
theorem p_addS (a b : PySem.Str) (h : a.length + b.length ≤ PySem.sizeLine) : primS .add [eS a, eS b] = some (.fr (eS (a ++ b))) := by
  show guard (decide (a.length + b.length ≤ PySem.sizeLine)) _ = _
  rw [decide_eq_true h]
  rfl
def repL (k : Int) (xs : List α) : List α := (List.replicate k.toNat xs).flatten
theorem rep_map (e : α → D) (xs : List α) : ∀ n : Nat, (List.replicate n (xs.map e)).flatten = (List.replicate n xs).flatten.map e
  | 0 => rfl
  | n + 1 => by
    rw [List.replicate_succ, List.replicate_succ, List.flatten_cons, List.flatten_cons, List.map_append, rep_map e xs n]
theorem p_mulL (e : α → D) (a : List α) (k : Int) (h : -(2 ^ 63) ≤ k ∧ k < 2 ^ 63 ∧ a.length * k.toNat ≤ PySem.sizeLine) : primS .mul [eL e a, eI k] = some (.ol ((repL k a).map e)) := by
  show guard (decide (-(2 ^ 63) ≤ k) && decide (k < 2 ^ 63) && decide ((a.map e).length * k.toNat ≤ PySem.sizeLine)) (some (.ol (List.replicate k.toNat (a.map e)).flatten)) = _
  rw [decide_eq_true h.1, decide_eq_true h.2.1, decide_eq_true (by rw [List.length_map]; exact h.2.2), rep_map]
  rfl
theorem p_lenL (e : α → D) (a : List α) : primS .len [eL e a] = some (.fr (eI (a.length : Int))) := by
  show i2 ((a.map e).length : Int) = _
  rw [List.length_map]
  rfl
theorem p_lenT (e : α → D) (a : List α) : primS .len [eT e a] = some (.fr (eI (a.length : Int))) := by
  show i2 ((a.map e).length : Int) = _
  rw [List.length_map]
  rfl
theorem p_lenS (a : PySem.Str) (h : a.length ≤ PySem.sizeLine) : primS .len [eS a] = some (.fr (eI (a.length : Int))) := by
  show guard (decide (a.length ≤ PySem.sizeLine)) _ = _
  rw [decide_eq_true h]
  rfl
theorem p_sumL (a : List Int) : primS .sum [eL eI a] = some (.fr (eI a.sum)) := by
  show ((seqOf (eL eI a)).bind fun xs => (intsOf xs).bind fun l => i2 l.sum) = _
  show (intsOf (a.map eI)).bind (fun l => i2 l.sum) = _
  rw [intsOf_map]
  rfl
theorem p_sumT (a : List Int) : primS .sum [eT eI a] = some (.fr (eI a.sum)) := by
  show (intsOf (a.map eI)).bind (fun l => i2 l.sum) = _
  rw [intsOf_map]
  rfl
theorem p_tupL (e : α → D) (a : List α) : primS .tuple [eL e a] = some (.fr (eT e a)) := rfl
theorem p_tupT (e : α → D) (a : List α) : primS .tuple [eT e a] = some (.fr (eT e a)) := rfl
theorem p_listL (e : α → D) (a : List α) : primS .list [eL e a] = some (.ol (a.map e)) := rfl
theorem p_listT (e : α → D) (a : List α) : primS .list [eT e a] = some (.ol (a.map e)) := rfl
theorem p_allL (a : List Bool) : primS .all [eL eB a] = some (.fr (eB (a.all id))) := by
  show (boolsOf (a.map eB)).bind (fun l => b2 (l.all id)) = _
  rw [boolsOf_map]
  rfl
theorem p_anyL (a : List Bool) : primS .any [eL eB a] = some (.fr (eB (a.any id))) := by
  show (boolsOf (a.map eB)).bind (fun l => b2 (l.any id)) = _
  rw [boolsOf_map]
  rfl
/-! places -/
def atI [Inhabited α] (xs : List α) (i : Int) : α := xs.getD i.toNat default
theorem place_lt {n : Nat} {i : Int} (h : 0 ≤ i ∧ i < n) : place n i = some i.toNat := by
  unfold place
  rw [if_pos h.1, if_pos h.2]
theorem p_itemL [Inhabited α] (e : α → D) (a : List α) (i : Int) (h : 0 ≤ i ∧ i < a.length) : primS .item [eL e a, eI i] = some (.fr (e (atI a i))) := by
  show ((place (a.map e).length i).bind fun j => (a.map e)[j]?).map Sl.fr = _
  rw [place_lt (by rw [List.length_map]; exact h)]
  show ((a.map e)[i.toNat]?).map Sl.fr = _
  have hl : i.toNat < a.length := by omega
  unfold atI
  rw [List.getElem?_map, List.getD_eq_getElem?_getD, List.getElem?_eq_getElem hl]
  rfl
theorem p_itemT [Inhabited α] (e : α → D) (a : List α) (i : Int) (h : 0 ≤ i ∧ i < a.length) : primS .item [eT e a, eI i] = some (.fr (e (atI a i))) := p_itemL e a i h
theorem p_lastT [Inhabited α] (e : α → D) (a : List α) (h : a ≠ []) : primS .item [eT e a, .int (-1)] = some (.fr (e (a.getLastD default))) := by
  show ((place (a.map e).length (-1)).bind fun j => (a.map e)[j]?).map Sl.fr = _
  have hp : place (a.map e).length (-1) = some (a.length - 1) := by
    unfold place
    have : 0 < a.length := List.length_pos_iff.mpr h
    rw [if_neg (by decide), List.length_map, if_pos (by omega)]
    congr 1
    omega
  rw [hp]
  show ((a.map e)[a.length - 1]?).map Sl.fr = _
  rw [List.getElem?_map, ← List.getLast?_eq_getElem?, List.getLastD_eq_getLast?, List.getLast?_eq_some_getLast h]
  rfl
theorem p_lastL [Inhabited α] (e : α → D) (a : List α) (h : a ≠ []) : primS .item [eL e a, .int (-1)] = some (.fr (e (a.getLastD default))) := p_lastT e a h
theorem p_fstP (a : α → D) (b : β → D) (p : α × β) : primS .item [eP a b p, .int 0] = some (.fr (a p.1)) := rfl
theorem p_sndP (a : α → D) (b : β → D) (p : α × β) : primS .item [eP a b p, .int 1] = some (.fr (b p.2)) := rfl
theorem p_fstQ (a : α → D) (b : β → D) (c : γ → D) (p : α × β × γ) : primS .item [eQ a b c p, .int 0] = some (.fr (a p.1)) := rfl
theorem p_sndQ (a : α → D) (b : β → D) (c : γ → D) (p : α × β × γ) : primS .item [eQ a b c p, .int 1] = some (.fr (b p.2.1)) := rfl
theorem p_thdQ (a : α → D) (b : β → D) (c : γ → D) (p : α × β × γ) : primS .item [eQ a b c p, .int 2] = some (.fr (c p.2.2)) := rfl
theorem clip_pos {n d : Nat} {v : Int} (h : 0 ≤ v) : clip n d (some v) = min v.toNat n := by
  show (if v < 0 then (v + n).toNat else min v.toNat n) = _
  rw [if_neg (by omega)]
theorem cut_drop (xs : List α) {i : Int} (h : 0 ≤ i) : cut xs (some i) none = xs.drop i.toNat := by
  unfold cut
  rw [clip_pos h]
  show (xs.drop (min i.toNat xs.length)).take (xs.length - min i.toNat xs.length) = _
  rw [List.take_of_length_le (by rw [List.length_drop]; omega)]
  by_cases q : i.toNat ≤ xs.length
  · rw [Nat.min_eq_left q]
  · rw [Nat.min_eq_right (by omega), List.drop_length, List.drop_of_length_le (by omega)]
theorem cut_take (xs : List α) {i : Int} (h : 0 ≤ i) : cut xs none (some i) = xs.take i.toNat := by
  unfold cut
  rw [clip_pos h]
  show (xs.drop 0).take (min i.toNat xs.length - 0) = _
  rw [List.drop_zero, Nat.sub_zero]
  by_cases q : i.toNat ≤ xs.length
  · rw [Nat.min_eq_left q]
  · rw [Nat.min_eq_right (by omega), List.take_length, List.take_of_length_le (by omega)]
theorem cut_both (xs : List α) {i j : Int} (h : 0 ≤ i) (h2 : 0 ≤ j) : cut xs (some i) (some j) = (xs.take j.toNat).drop i.toNat := by
  unfold cut
  rw [clip_pos h, clip_pos h2]
  by_cases q : i.toNat ≤ xs.length
  · rw [Nat.min_eq_left q]
    by_cases q2 : j.toNat ≤ xs.length
    · rw [Nat.min_eq_left q2, List.drop_take]
    · rw [Nat.min_eq_right (by omega), List.take_of_length_le (l := xs) (by omega), List.take_of_length_le (by rw [List.length_drop]; omega)]
  · rw [Nat.min_eq_right (show xs.length ≤ i.toNat by omega), List.drop_length, List.take_nil, List.drop_of_length_le (by rw [List.length_take]; omega)]
theorem cut_map (e : α → D) (xs : List α) (lo hi : Option Int) : cut (xs.map e) lo hi = (cut xs lo hi).map e := by
  unfold cut
  rw [List.length_map, List.map_take, List.map_drop]
theorem p_slLoL (e : α → D) (a : List α) (i : Int) (h : 0 ≤ i) : primS (.slice true false) [eL e a, eI i] = some (.ol ((a.drop i.toNat).map e)) := by
  show some (Sl.ol (cut (a.map e) (some i) none)) = _
  rw [cut_map, cut_drop a h]
theorem p_slLoT (e : α → D) (a : List α) (i : Int) (h : 0 ≤ i) : primS (.slice true false) [eT e a, eI i] = some (.fr (eT e (a.drop i.toNat))) := by
  show some (Sl.fr (.tuple (cut (a.map e) (some i) none))) = _
  rw [cut_map, cut_drop a h]
  rfl
theorem p_slHiL (e : α → D) (a : List α) (i : Int) (h : 0 ≤ i) : primS (.slice false true) [eL e a, eI i] = some (.ol ((a.take i.toNat).map e)) := by
  show some (Sl.ol (cut (a.map e) none (some i))) = _
  rw [cut_map, cut_take a h]
theorem p_slHiT (e : α → D) (a : List α) (i : Int) (h : 0 ≤ i) : primS (.slice false true) [eT e a, eI i] = some (.fr (eT e (a.take i.toNat))) := by
  show some (Sl.fr (.tuple (cut (a.map e) none (some i)))) = _
  rw [cut_map, cut_take a h]
  rfl
theorem p_sl2L (e : α → D) (a : List α) (i j : Int) (h : 0 ≤ i) (h2 : 0 ≤ j) : sliceS (some i) (some j) (eL e a) = some (.ol (((a.take j.toNat).drop i.toNat).map e)) := by
  show some (Sl.ol (cut (a.map e) (some i) (some j))) = _
  rw [cut_map, cut_both a h h2]
theorem p_sl2T (e : α → D) (a : List α) (i j : Int) (h : 0 ≤ i) (h2 : 0 ≤ j) : sliceS (some i) (some j) (eT e a) = some (.fr (eT e ((a.take j.toNat).drop i.toNat))) := by
  show some (Sl.fr (.tuple (cut (a.map e) (some i) (some j)))) = _
  rw [cut_map, cut_both a h h2]
  rfl
/-! sorted -/
def leE (e : α → D) (a b : α) : Bool := PySem.W.dataLe false (id : D → D) (e a) (e b)
def insE (e : α → D) (x : α) : List α → List α
  | [] => [x]
  | y :: ys => if leE e x y = true then x :: y :: ys else y :: insE e x ys
def sortE (e : α → D) : List α → List α
  | [] => []
  | x :: xs => insE e x (sortE e xs)
theorem insK_map (e : α → D) (x : α) : ∀ xs : List α, insK (e x) (xs.map e) = (insE e x xs).map e
  | [] => rfl
  | y :: ys => by
    show (match PySem.W.dataLe false id (e x) (e y) with | true => e x :: e y :: ys.map e | false => e y :: insK (e x) (ys.map e)) = (if PySem.W.dataLe false id (e x) (e y) = true then x :: y :: ys else y :: insE e x ys).map e
    rw [insK_map e x ys]
    cases PySem.W.dataLe false (id : D → D) (e x) (e y) <;> rfl
theorem sortD_map (e : α → D) : ∀ xs : List α, sortD (xs.map e) = (sortE e xs).map e
  | [] => rfl
  | x :: xs => by
    show insK (e x) (sortD (xs.map e)) = _
    rw [sortD_map e xs, insK_map]
    rfl
def Srt (e : α → D) (xs : List α) : Prop := sortOk (xs.map e) = true ∧ xs.length ≤ PySem.sizeLine
theorem p_sortL (e : α → D) (a : List α) (h : Srt e a) : primS .sorted [eL e a] = some (.ol ((sortE e a).map e)) := by
  show guard (sortOk (a.map e) && decide ((a.map e).length ≤ PySem.sizeLine)) (some (.ol (sortD (a.map e)))) = _
  rw [h.1, decide_eq_true (by rw [List.length_map]; exact h.2), sortD_map]
  rfl
theorem p_sortT (e : α → D) (a : List α) (h : Srt e a) : primS .sorted [eT e a] = some (.ol ((sortE e a).map e)) := p_sortL e a h
end
theorem rg_map (n : Int) : ((List.range n.toNat).map fun (k : Nat) => PyData.int k) = (rangeI n).map eI := by
  unfold rangeI
  rw [List.map_map]
  rfl
theorem ev_rgI {md : Nat → Modes} {call : Nat → List Sl → R Sl} {A A1 : List Sp} {a : E} {n : Int} (h : EF md call a A (eI n) A1) (hn : 0 ≤ n ∧ n ≤ 16777216) : EV md call (.rg a) A (.ow ((rangeI n).map eI)) A1 := by
  rw [← rg_map]
  exact ev_rg h hn
theorem ev_primF {md : Nat → Modes} {call : Nat → List Sl → R Sl} {A A1 : List Sp} {p : Prim} {es : Es} {ds : List D} {d : D} (h : EO md call es A ds A1) (hp : primS p ds = some (.fr d)) : EV md call (.prim p es) A (.fr d) A1 := ev_prim h hp rfl
theorem ev_primO {md : Nat → Modes} {call : Nat → List Sl → R Sl} {A A1 : List Sp} {p : Prim} {es : Es} {ds xs : List D} (h : EO md call es A ds A1) (hp : primS p ds = some (.ol xs)) : EV md call (.prim p es) A (.ow xs) A1 := ev_prim h hp rfl
end Nt

/-! Dc: more rules for the printed proofs. -/
namespace Nt
open Dc
open PySem (PyData)
section
variable {md : Nat → Modes} {call : Nat → List Sl → R Sl} {A A1 A2 A3 A4 A5 : List Sp}
def allVal : List Opd → Bool
  | [] => true
  | .val _ :: os => allVal os
  | .slot _ :: _ => false
theorem holes_val : ∀ {os : List Opd} {A : List Sp}, allVal os = true → holesS os A = A
  | [], _, _ => rfl
  | .val _ :: os, _, h => holes_val (os := os) h
  | .slot _ :: _, _, h => by cases h
theorem outs_val : ∀ {os : List Opd} {us A : List Sp}, allVal os = true → outsS os us A = A
  | [], _, _, _ => by simp only [outsS]
  | .val _ :: os, [], _, h => by simp only [outsS]
  | .val _ :: os, _ :: us, _, h => outs_val (os := os) (us := us) h
  | .slot _ :: _, _, _, h => by cases h
theorem ev_callP {ρ : Type} {f : Nat} {es : Es} {os : List Opd} {as : List Sp} {OF : ρ → O} {n : ρ} {sp : Sp} {us : List Sp} (ha : EA md call (md f) es A os A1) (hc : CallO call f as OF n) (h1 : os.map (argSp A1) = as) (h2 : OF n = .rt sp us) (hv : allVal os = true) : EV md call (.call f es) A sp A1 := by
  have z := ev_call ha hc h1 h2
  rw [outs_val hv, holes_val hv] at z
  exact z
theorem ev_callS {ρ : Type} {f : Nat} {es : Es} {os : List Opd} {as : List Sp} {OF : ρ → O} {n : ρ} {sp : Sp} {us : List Sp} {A2 : List Sp} (ha : EA md call (md f) es A os A1) (hc : CallO call f as OF n) (h1 : os.map (argSp A1) = as) (h2 : OF n = .rt sp us) (h3 : outsS os us (holesS os A1) = A2) : EV md call (.call f es) A sp A2 := h3 ▸ ev_call ha hc h1 h2
theorem ev_at {γ : Type} {e : E} {S : γ → Sp} {T : γ → List Sp} {n v : γ} (q : n = v) (h : EV md call e A (S v) (T v)) : EV md call e A (S n) (T n) := q ▸ h
theorem eb_at {γ : Type} {e : E} {S : γ → Bool} {T : γ → List Sp} {n v : γ} (q : n = v) (h : EB md call e A (S v) (T v)) : EB md call e A (S n) (T n) := q ▸ h
theorem eb_andN {α : Type} {T : α → List Sp} {a b : E} {x : Bool} {m n : Bool × α} (ha : EB md call a A x A1) (hb : x = true → EBN md call b A1 (fun r : Bool × α => r.1) (fun r => T r.2) m) (hn : n.1 = false) (hs : Sub A1 (T n.2)) : EB md call (.and a b) A (if x = true then m else n).1 (T (if x = true then m else n).2) := eb_andS ha hb hn hs
theorem ev_iteN {α : Type} {S : α → Sp} {T : α → List Sp} {c a b : E} {x : Bool} {m n : α} (hc : EB md call c A x A1) (ha : x = true → EVN md call a A1 S T m) (hb : x = false → EVN md call b A1 S T n) : EV md call (.ite c a b) A (S (if x = true then m else n)) (T (if x = true then m else n)) := ev_ite hc ha hb
theorem ev_sl2F {a lo hi : E} {d r : D} {i j : Int} (hv : isVar a = false) (ha : EF md call a A d A1) (hl : EF md call lo A1 (.int i) A2) (hh : EF md call hi A2 (.int j) A3) (hs : sliceS (some i) (some j) d = some (.fr r)) : EV md call (.sl2 a lo hi) A (.fr r) A3 := ev_sl2 hv ha hl hh hs rfl
theorem ev_sl2O {a lo hi : E} {d : D} {r : List D} {i j : Int} (hv : isVar a = false) (ha : EF md call a A d A1) (hl : EF md call lo A1 (.int i) A2) (hh : EF md call hi A2 (.int j) A3) (hs : sliceS (some i) (some j) d = some (.ol r)) : EV md call (.sl2 a lo hi) A (.ow r) A3 := ev_sl2 hv ha hl hh hs rfl
theorem ev_sl2vF {k : Nat} {lo hi : E} {d r : D} {i j : Int} {spa spb : Sp} (h0 : A[k]? = some spa) (hd : spa.dat = some d) (hl : EF md call lo A (.int i) A2) (hh : EF md call hi A2 (.int j) A3) (h3 : A3[k]? = some spb) (hd3 : spb.dat = some d) (hs : sliceS (some i) (some j) d = some (.fr r)) : EV md call (.sl2 (.var k) lo hi) A (.fr r) A3 := ev_sl2v h0 hd hl hh h3 hd3 hs rfl
theorem ev_sl2vO {k : Nat} {lo hi : E} {d : D} {r : List D} {i j : Int} {spa spb : Sp} (h0 : A[k]? = some spa) (hd : spa.dat = some d) (hl : EF md call lo A (.int i) A2) (hh : EF md call hi A2 (.int j) A3) (h3 : A3[k]? = some spb) (hd3 : spb.dat = some d) (hs : sliceS (some i) (some j) d = some (.ol r)) : EV md call (.sl2 (.var k) lo hi) A (.ow r) A3 := ev_sl2v h0 hd hl hh h3 hd3 hs rfl
theorem EV.someF {α : Type} (en : α → D) (t : α) {e : E} (h : EV md call e A (.fr (en t)) A1) : EV md call e A (.fr (eO en (some t))) A1 := h
theorem EV.someV {α : Type} (en : α → D) (t : α) {e : E} (h : EV md call e A (.va (en t)) A1) : EV md call e A (.va (eO en (some t))) A1 := h
theorem EV.noneF {α : Type} (en : α → D) {e : E} (h : EV md call e A (.fr .none) A1) : EV md call e A (.fr (eO en none)) A1 := h
theorem ev_appT {α : Type} (en : α → D) (xs : List α) (a : α) {i : Nat} {e : E} {ds : List D} (h0 : A[i]? = some (.ow ds)) (h : EF md call e A (en a) A1) (h1 : A1[i]? = some (.ow (xs.map en))) (hl : xs.length < PySem.sizeLine) : EV md call (.app i e) A (.fr .none) (A1.set i (.ow ((xs ++ [a]).map en))) := by
  have z := ev_app h0 h h1 (by rw [List.length_map]; exact hl)
  rw [List.map_append]
  exact z
theorem ev_extT {α : Type} (en : α → D) (xs ys : List α) {i : Nat} {e : E} {ds : List D} (h0 : A[i]? = some (.ow ds)) (h : EV md call e A (.ow (ys.map en)) A1) (h1 : A1[i]? = some (.ow (xs.map en))) (hl : xs.length + ys.length ≤ PySem.sizeLine) : EV md call (.ext i e) A (.fr .none) (A1.set i (.ow ((xs ++ ys).map en))) := by
  have z := ev_ext h0 h h1 (by rw [List.length_map, List.length_map]; exact hl)
  rw [List.map_append]
  exact z
theorem ev_popT {α : Type} [Inhabited α] (en : α → D) (xs : List α) {i : Nat} (h : A[i]? = some (.ow (xs.map en))) (hx : xs ≠ []) : EV md call (.pop i) A (.fr (en (xs.getLastD default))) (A.set i (.ow ((xs.dropLast).map en))) := by
  have z := ev_pop (md := md) (call := call) (d := en (xs.getLastD default)) h (by rw [List.getLast?_map, List.getLastD_eq_getLast?, List.getLast?_eq_some_getLast hx]; rfl)
  rw [List.map_dropLast]
  exact z
theorem eraseIdx_mp {α β : Type} (f : α → β) : ∀ (xs : List α) (i : Nat), (xs.map f).eraseIdx i = (xs.eraseIdx i).map f
  | [], _ => rfl
  | _ :: _, 0 => rfl
  | x :: xs, i + 1 => congrArg (f x :: ·) (eraseIdx_mp f xs i)
theorem ev_popAtT {α : Type} [Inhabited α] (en : α → D) (xs : List α) (j : Int) {i : Nat} {e : E} {ds0 : List D} (h0 : A[i]? = some (.ow ds0)) (h : EF md call e A (eI j) A1) (h1 : A1[i]? = some (.ow (xs.map en))) (hj : 0 ≤ j ∧ j < xs.length) (hz : xs.length ≤ 1000000) : EV md call (.popAt i e) A (.fr (en (atI xs j))) (A1.set i (.ow ((xs.eraseIdx j.toNat).map en))) := by
  have hl : j.toNat < xs.length := by omega
  have z := ev_popAt (d := en (atI xs j)) (n := j.toNat) h0 h h1 (by unfold in62; rw [decide_eq_true (show -(2 ^ 62) ≤ j by omega), decide_eq_true (show j < 2 ^ 62 by omega)]; rfl) (place_lt (by rw [List.length_map]; exact hj)) (by
    unfold atI
    rw [List.getElem?_map, List.getD_eq_getElem?_getD, List.getElem?_eq_getElem hl]
    rfl)
  have e : (xs.map en).eraseIdx j.toNat = (xs.eraseIdx j.toNat).map en := by
    exact eraseIdx_mp en xs j.toNat
  rw [← e]
  exact z
theorem er_or {a b : E} {c : Nat} (h : ER md call a A c A1) : ER md call (.or a b) A c A1 := fun env r => by
  obtain ⟨env1, p1, r1⟩ := h env r
  refine ⟨env1, ?_, r1⟩
  rw [x_or, p1]
  rfl
variable {ρ : Type} {Of : ρ → O} {n : ρ} {ss : Ss}
/-- what a try leaves: the state behind it, or behind the refusal -/
def tryA {σ : Type} (m : Except Nat σ) (h : Nat → σ) : σ := match m with
  | .ok s => s
  | .error c => h c
theorem xt_tryA {σ : Type} {J : σ → List Sp} {JE : List Sp} {cs : List Nat} {body : Ss} {i j : Nat} {m : Except Nat σ} {h : Nat → σ} {f : σ → ρ} (hb : XT md call body A (fun z : Except Nat σ => match z with | .ok s => O.nx (J s) | .error c => O.er c JE) m) (hcs : ∀ c, m = .error c → c ∈ cs)
    (hw : ∀ c, Sub ((JE.set i .nn).set j (.fr (whichD c))) (J (h c))) (t : ∀ p, p = tryA m h → XT md call ss (J p) Of (f p)) : XT md call (.cons (.tr cs body (.asgWhich i j)) ss) A Of (bnd (tryA m h) f) := fun env r => by
  have z := hb env r
  have t0 := t _ rfl
  rw [e_cons, e_tr]
  cases e : m with
  | ok s =>
    rw [e] at z t0
    obtain ⟨env1, q, r1⟩ := z
    rw [q]
    exact t0 env1 r1
  | error c =>
    rw [e] at z t0
    obtain ⟨env1, q, r1⟩ := z
    rw [q]
    show SatX _ (sqS md call ss (if cs.contains c then _ else _))
    rw [if_pos (List.contains_iff_mem.mpr (hcs c e))]
    exact t0 _ (((r1.set (i := i) (sp := .nn) (s := .un) rfl).set (i := j) (sp := .fr (whichD c)) (s := .fr (whichD c)) rfl).mono (hw c))
/-- nothing, where it is refused -/
def tryE {α : Type} (m : Except Nat (List α)) : List α := match m with
  | .ok v => v
  | .error _ => []
theorem xt_tryE {α : Type} {cs : List Nat} {body : Ss} {OB : Except Nat (List α) → O} {m : Except Nat (List α)} {Od : List α → O} {AE : Nat → List Sp} (h : XT md call body A OB m) (hok : ∀ d, ∃ sp B, OB (.ok d) = .rt sp B ∧ Imp (.rt sp B) (Od d)) (her : ∀ c, OB (.error c) = .er c (AE c)) (hcs : ∀ c, m = .error c → c ∈ cs)
    (hw : ∀ c, Imp (.rt (.ow []) (AE c)) (Od [])) : XT md call (.cons (.tr cs body (.retE (.lst .nil))) ss) A Od (tryE m) := fun env r => by
  have z := h env r
  rw [e_cons, e_tr]
  cases e : m with
  | ok d =>
    obtain ⟨sp, B, h1, h2⟩ := hok d
    rw [e, h1] at z
    obtain ⟨s, env1, q, k, r1⟩ := z
    rw [q]
    exact SatX.imp h2 ⟨s, env1, rfl, k, r1⟩
  | error c =>
    rw [e, her] at z
    obtain ⟨env1, q, r1⟩ := z
    rw [q]
    show SatX _ (sqS md call ss (if cs.contains c then _ else _))
    rw [if_pos (List.contains_iff_mem.mpr (hcs c e))]
    exact SatX.imp (hw c) ⟨_, _, rfl, rfl, r1⟩
theorem xt_parB {α β : Type} (ea : α → D) (eb : β → D) {i j : Nat} {a b : E} {v : α × β} {f : α × β → ρ} (h : EF md call a A (ea v.1) A1) (h2 : EF md call b A1 (eb v.2) A2) (t : ∀ p, p = v → XT md call ss ((A2.set i (.fr (ea p.1))).set j (.fr (eb p.2))) Of (f p)) : XT md call (.cons (.par i j a b) ss) A Of (bnd v f) := xt_par h h2 (t v rfl)
theorem xt_asgTB {α : Type} (en : α → D) {is : List Nat} {e : E} {v : α} {f : α → ρ} {A2 : α → List Sp} (h : EF md call e A (en v) A1) (hb : ∀ p, bindS is (en p) A1 = some (A2 p)) (t : ∀ p, p = v → XT md call ss (A2 p) Of (f p)) : XT md call (.cons (.asgT is e) ss) A Of (bnd v f) := xt_asgT h (hb v) (t v rfl)
end
section
variable {α : Type}
theorem Who.str_inj {y w : Who} (h : y.str = w.str) : y = w := by
  revert h
  cases y <;> cases w <;> decide +kernel
theorem firstS_W (w : Who) : ∀ l : List Who, w ∈ l → firstS w.str (l.map Who.str) = some (l.idxOf w)
  | [], h => by cases h
  | y :: l, h => by
    show (if y.str = w.str then some 0 else (firstS w.str (l.map Who.str)).map (· + 1)) = _
    by_cases e : y = w
    · subst e
      rw [if_pos rfl, List.idxOf_cons_self]
    · rw [if_neg fun q => e (Who.str_inj q), firstS_W w l ((List.mem_cons.mp h).resolve_left fun q => e q.symm), List.idxOf_cons, show (y == w) = false from beq_false_of_ne e]
      rfl
theorem p_idxW (l : List Who) (w : Who) (h : w ∈ l) : primS (.idxIn (l.map Who.str)) [eW w] = some (.fr (eI (l.idxOf w : Int))) := by
  show (firstS w.str (l.map Who.str)).bind (fun j => i2 ((j : Nat) : Int)) = _
  rw [firstS_W w l h]
  rfl
theorem tupsOf_map : ∀ l : List (List Int), tupsOf (l.map (eT eI)) = some l
  | [] => rfl
  | x :: l => by
    show (intsOf (x.map eI)).bind (fun k => (tupsOf (l.map (eT eI))).map (k :: ·)) = _
    rw [intsOf_map, tupsOf_map l]
    rfl
theorem p_sortSet (a : List (List Int)) (h : setOk a = true) : primS .sortSet [eL (eT eI) a] = some (.ol ((setSort a).map (eT eI))) := by
  show (match tupsOf (a.map (eT eI)) with
    | some ks => guard (setOk ks) (some (.ol ((setSort ks).map tupD)))
    | none => (intsOf (a.map (eT eI))).bind fun l => guard (decide (l.length < 64)) (some (.ol ((sortI l).map .int)))) = _
  rw [tupsOf_map]
  show guard (setOk a) _ = _
  rw [h]
  rfl
theorem tups_ints : ∀ {a : List Int}, a ≠ [] → tupsOf (a.map eI) = none
  | [], h => absurd rfl h
  | x :: a, _ => rfl
theorem p_sortSetI (a : List Int) (h : a.length < 64) : primS .sortSet [eL eI a] = some (.ol ((sortI a).map eI)) := by
  show (match tupsOf (a.map eI) with
    | some ks => guard (setOk ks) (some (.ol ((setSort ks).map tupD)))
    | none => (intsOf (a.map eI)).bind fun l => guard (decide (l.length < 64)) (some (.ol ((sortI l).map .int)))) = _
  by_cases e : a = []
  · subst e
    rfl
  · rw [tups_ints e, intsOf_map]
    show guard (decide (a.length < 64)) _ = _
    rw [decide_eq_true h]
    rfl
theorem p_sortSetIT (a : List Int) (h : a.length < 64) : primS .sortSet [eT eI a] = some (.ol ((sortI a).map eI)) := p_sortSetI a h
theorem p_sortSetT (a : List (List Int)) (h : setOk a = true) : primS .sortSet [eT (eT eI) a] = some (.ol ((setSort a).map (eT eI))) := p_sortSet a h
def numB (l : List Bool) : Int := (if true ∈ l then 1 else 0) + (if false ∈ l then 1 else 0)
theorem p_lenSetB (a : List Bool) : primS .lenSet [eL eB a] = some (.fr (eI (numB a))) := by
  show (match boolsOf (a.map eB) with
    | some l => i2 ((if true ∈ l then 1 else 0) + (if false ∈ l then 1 else 0))
    | none => (intsOf (a.map eB)).bind fun l => guard (decide (l.length < 4000)) (i2 ((sortI l).length : Nat))) = _
  rw [boolsOf_map]
  rfl
theorem bools_ints : ∀ {a : List Int}, a ≠ [] → boolsOf (a.map eI) = none
  | [], h => absurd rfl h
  | x :: a, _ => rfl
theorem p_lenSetI (a : List Int) (h : a.length < 4000) : primS .lenSet [eL eI a] = some (.fr (eI ((sortI a).length : Nat))) := by
  show (match boolsOf (a.map eI) with
    | some l => i2 ((if true ∈ l then 1 else 0) + (if false ∈ l then 1 else 0))
    | none => (intsOf (a.map eI)).bind fun l => guard (decide (l.length < 4000)) (i2 ((sortI l).length : Nat))) = _
  by_cases e : a = []
  · subst e
    rfl
  · rw [bools_ints e, intsOf_map]
    show guard (decide (a.length < 4000)) _ = _
    rw [decide_eq_true h]
    rfl
theorem p_lenSetIT (a : List Int) (h : a.length < 4000) : primS .lenSet [eT eI a] = some (.fr (eI ((sortI a).length : Nat))) := p_lenSetI a h
def isOk (v : Except Nat α) : Bool := match v with
  | .ok _ => true
  | .error _ => false
def getOk [Inhabited α] (v : Except Nat α) : α := match v with
  | .ok a => a
  | .error _ => default
theorem ok_get [Inhabited α] {v : Except Nat α} (h : isOk v = true) : v = .ok (getOk v) := by
  cases v with
  | ok a => rfl
  | error c => cases h
theorem cut_m1 (xs : List α) : cut xs none (some (-1)) = xs.dropLast := by
  unfold cut clip
  show (xs.drop 0).take (((-1 : Int) + xs.length).toNat - 0) = _
  rw [List.drop_zero, List.dropLast_eq_take]
  congr 1
  omega
theorem p_rev (e : α → D) (a : List α) : primS .rev [eL e a] = some (.ol (a.reverse.map e)) := by
  show some (Sl.ol (a.map e).reverse) = _
  rw [List.map_reverse]
theorem p_tupRg (n : Int) (h : 0 ≤ n ∧ n ≤ 16777216) : primS .tupRg [eI n] = some (.fr (eT eI (rangeI n))) := by
  show guard (decide (0 ≤ n) && decide (n ≤ 16777216)) (some (.fr (.tuple ((List.range n.toNat).map fun (k : Nat) => .int k)))) = _
  rw [decide_eq_true h.1, decide_eq_true h.2]
  show some (Sl.fr (.tuple ((List.range n.toNat).map fun (k : Nat) => .int k))) = _
  unfold rangeI eT
  rw [List.map_map]
  rfl
theorem p_slM1L (e : α → D) (a : List α) : primS (.slice false true) [eL e a, .int (-1)] = some (.ol ((a.dropLast).map e)) := by
  show some (Sl.ol (cut (a.map e) none (some (-1)))) = _
  rw [cut_map, cut_m1]
theorem p_slM1T (e : α → D) (a : List α) : primS (.slice false true) [eT e a, .int (-1)] = some (.fr (eT e a.dropLast)) := by
  show some (Sl.fr (.tuple (cut (a.map e) none (some (-1))))) = _
  rw [cut_map, cut_m1]
  rfl
def maxL (l : List Int) : Int := match l with
  | [] => 0
  | x :: l => l.foldl max x
def minL (l : List Int) : Int := match l with
  | [] => 0
  | x :: l => l.foldl min x
theorem p_max1 (a : List Int) (h : a ≠ []) : primS .max1 [eL eI a] = some (.fr (eI (maxL a))) := by
  cases a with
  | nil => exact absurd rfl h
  | cons x l =>
    show (intsOf ((x :: l).map eI)).bind _ = _
    rw [intsOf_map]
    rfl
theorem p_min1 (a : List Int) (h : a ≠ []) : primS .min1 [eL eI a] = some (.fr (eI (minL a))) := by
  cases a with
  | nil => exact absurd rfl h
  | cons x l =>
    show (match intsOf ((x :: l).map eI) with | some l => minI l | none => minT ((x :: l).map eI)) = _
    rw [intsOf_map]
    rfl
/-- the least, by the order of data -/
def minE [Inhabited α] (e : α → D) (a : List α) : α := match a with
  | [] => default
  | x :: l => l.foldl (fun b y => if PySem.W.dataLt (e y) (e b) then y else b) x
def Min1 (e : α → D) (a : List α) : Prop := minOk (a.map e) = true ∧ a ≠ []
theorem leastD_map (e : α → D) : ∀ (l : List α) (x : α), leastD (e x) (l.map e) = e (l.foldl (fun b y => if PySem.W.dataLt (e y) (e b) then y else b) x)
  | [], _ => rfl
  | y :: l, x => by
    show leastD (if PySem.W.dataLt (e y) (e x) then e y else e x) (l.map e) = e (l.foldl _ (if PySem.W.dataLt (e y) (e x) then y else x))
    split <;> exact leastD_map e l _
theorem p_minE [Inhabited α] (e : α → D) (a : List α) (h : Min1 e a) : primS .min1 [eL e a] = some (.fr (e (minE e a))) := by
  cases a with
  | nil => exact absurd rfl h.2
  | cons x l =>
    show (match intsOf ((x :: l).map e) with | some l => minI l | none => minT ((x :: l).map e)) = _
    have g := h.1
    have e0 : intsOf ((x :: l).map e) = none := by
      unfold minOk at g
      rw [Bool.and_eq_true, Bool.and_eq_true] at g
      have z := List.all_eq_true.mp g.1.2 (e x) List.mem_cons_self
      show intsOf (e x :: l.map e) = none
      generalize e x = d at z
      cases d <;> first | (cases z; done) | rfl
    rw [e0]
    show guard (minOk ((x :: l).map e)) (some (Sl.fr (leastD (e x) (l.map e)))) = _
    rw [g, leastD_map]
    rfl
/-- what is there -/
def getS [Inhabited α] (x : Option α) : α := match x with
  | some a => a
  | none => default
theorem le_getF [Inhabited α] {en : α → D} {x : Option α} (h : Option.isSome x = true) : (Sp.fr (eO en x)).le (.fr (en (getS x))) := by
  cases x with
  | some a => exact le_rfl
  | none => cases h
theorem le_getV [Inhabited α] {en : α → D} {x : Option α} (h : Option.isSome x = true) : (Sp.va (eO en x)).le (.va (en (getS x))) := by
  cases x with
  | some a => exact le_rfl
  | none => cases h
theorem p_isO_L (e : α → D) (x : Option (List α)) : primS .isList [eO (eL e) x] = some (.fr (eB x.isSome)) := by cases x <;> rfl
theorem p_isO_T (e : α → D) (x : Option (List α)) : primS .isTup [eO (eT e) x] = some (.fr (eB x.isSome)) := by cases x <;> rfl
theorem p_eqD (a b : D) (h : PySem.SeqAt.shaped a = true ∧ PySem.SeqAt.shaped b = true) : primS .eq [eD a, eD b] = some (.fr (eB (PyData.eqv a b))) := by
  show guard (PySem.SeqAt.shaped a && PySem.SeqAt.shaped b) (b2 (PyData.eqv a b)) = _
  rw [h.1, h.2]
  rfl
theorem p_neD (a b : D) (h : PySem.SeqAt.shaped a = true ∧ PySem.SeqAt.shaped b = true) : primS .ne [eD a, eD b] = some (.fr (eB (!PyData.eqv a b))) := by
  show guard (PySem.SeqAt.shaped a && PySem.SeqAt.shaped b) (b2 (!PyData.eqv a b)) = _
  rw [h.1, h.2]
  rfl
end
end Nt

/-! Nt: values whose type is not known. -/
namespace Nt
open Dc
variable {md : Nat → Modes} {call : Nat → List Sl → R Sl} {A A1 A2 : List Sp}
instance : Inhabited D := ⟨.none⟩
def dB (o : Option Sl) : Bool := match o with | some (.fr (.bool b)) => b | _ => false
def isB (o : Option Sl) : Bool := match o with | some (.fr (.bool _)) => true | _ => false
theorem isB_eq {o : Option Sl} (h : isB o = true) : o = some (.fr (eB (dB o))) := by
  unfold isB at h
  split at h
  · rfl
  · cases h
def dI (o : Option Sl) : Int := match o with | some (.fr (.int i)) => i | _ => 0
def isI (o : Option Sl) : Bool := match o with | some (.fr (.int _)) => true | _ => false
theorem isI_eq {o : Option Sl} (h : isI o = true) : o = some (.fr (eI (dI o))) := by
  unfold isI at h
  split at h
  · rfl
  · cases h
def dF (o : Option Sl) : D := match o with | some (.fr d) => d | _ => .none
def isF (o : Option Sl) : Bool := match o with | some (.fr _) => true | _ => false
theorem isF_eq {o : Option Sl} (h : isF o = true) : o = some (.fr (eD (dF o))) := by
  unfold isF at h
  split at h
  · rfl
  · cases h
def dL (o : Option Sl) : List D := match o with | some (.ol l) => l | _ => []
def isL (o : Option Sl) : Bool := match o with | some (.ol _) => true | _ => false
theorem isL_eq {o : Option Sl} (h : isL o = true) : o = some (.ol (List.map eD (dL o))) := by
  unfold isL at h
  split at h
  · rename_i l
    show some (Sl.ol l) = some (.ol (List.map (fun d => d) l))
    rw [List.map_id']
  · cases h
theorem p_mulT {α : Type} (e : α → D) (a : List α) (k : Int) (h : a ≠ [] ∧ 0 ≤ k ∧ k ≤ 1000 ∧ a.length ≤ 1000) : primS .mul [eT e a, eI k] = some (.fr (eT e (repL k a))) := by
  show guard (!(a.map e).isEmpty && decide (0 ≤ k) && decide (k ≤ 1000) && decide ((a.map e).length ≤ 1000)) (some (.fr (.tuple (List.replicate k.toNat (a.map e)).flatten))) = _
  have h0 : (a.map e).isEmpty = false := by
    cases a with
    | nil => exact absurd rfl h.1
    | cons x xs => rfl
  rw [h0, List.length_map, decide_eq_true h.2.1, decide_eq_true h.2.2.1, decide_eq_true h.2.2.2]
  show some (Sl.fr (.tuple (List.replicate k.toNat (a.map e)).flatten)) = some (Sl.fr (.tuple ((repL k a).map e)))
  unfold repL
  rw [rep_map]
/-- data read as values of a type -/
class Dec {α : Type} (e : α → D) where
  dec : D → α
instance : Dec eI := ⟨fun d => match d with | .int i => i | _ => 0⟩
instance : Dec eB := ⟨fun d => match d with | .bool b => b | _ => false⟩
instance : Dec eN := ⟨fun _ => ()⟩
instance : Dec eD := ⟨fun d => d⟩
instance : Dec eS := ⟨fun d => match d with | .str z => z | _ => PySem.Str.ofString ""⟩
instance : Dec eW := ⟨fun d => match d with | .str z => if z = Who.str .one then .one else if z = Who.str .two then .two else .three | _ => .three⟩
instance {α : Type} {e : α → D} [z : Dec e] : Dec (eL e) := ⟨fun d => match d with | .list xs => xs.map z.dec | _ => []⟩
instance {α : Type} {e : α → D} [z : Dec e] : Dec (eT e) := ⟨fun d => match d with | .tuple xs => xs.map z.dec | _ => []⟩
instance {α β : Type} {e : α → D} {f : β → D} [y : Dec e] [z : Dec f] : Dec (eP e f) := ⟨fun d => match d with | .tuple [a, b] => (y.dec a, z.dec b) | _ => (y.dec d, z.dec d)⟩
instance {α β γ : Type} {e : α → D} {f : β → D} {g : γ → D} [x : Dec e] [y : Dec f] [z : Dec g] : Dec (eQ e f g) := ⟨fun d => match d with | .tuple [a, b, c] => (x.dec a, y.dec b, z.dec c) | _ => (x.dec d, y.dec d, z.dec d)⟩
instance {α : Type} {e : α → D} [z : Dec e] : Dec (eO e) := ⟨fun d => match d with | .none => none | _ => some (z.dec d)⟩
def dec {α : Type} (e : α → D) [z : Dec e] (d : D) : α := z.dec d
theorem EV.decF {α : Type} (en : α → D) [Dec en] {e : E} {d : D} (hd : en (dec en d) = d) (h : EV md call e A (.fr (eD d)) A1) : EV md call e A (.fr (en (dec en d))) A1 := by
  rw [hd]
  exact h
theorem EV.decV {α : Type} (en : α → D) [Dec en] {e : E} {d : D} (hd : en (dec en d) = d) (h : EV md call e A (.va (eD d)) A1) : EV md call e A (.va (en (dec en d))) A1 := by
  rw [hd]
  exact h
theorem eo_eq {es : Es} {d d' : D} {ds : List D} (h : d = d') (z : EO md call es A (d :: ds) A1) : EO md call es A (d' :: ds) A1 := h ▸ z
theorem getS_eq {α : Type} [Inhabited α] (en : α → D) {x : Option α} (h : Option.isSome x = true) : eO en x = en (getS x) := by
  cases x with
  | none => cases h
  | some a => rfl
/-- what is walked -/
def seqD (d : D) : List D := match seqI d with | some l => l | none => []
theorem ei_seqD {e : E} {d : D} (h : EF md call e A (eD d) A1) (hs : (seqI d).isSome = true) : EI md call (.seq e) A ((seqD d).map eD) A1 := fun env r => by
  obtain ⟨env1, p1, r1⟩ := h env r
  refine ⟨env1, ?_, r1⟩
  rw [i_seq', p1]
  show R.opt (seqI d) env1 = _
  unfold seqD
  cases e : seqI d with
  | none =>
    rw [e] at hs
    cases hs
  | some l =>
    show R.ok l env1 = R.ok (l.map fun d => d) env1
    rw [List.map_id']
def zipD2 (x y : D) : List (D × D) := (seqD x).zip (seqD y)
theorem zipD_zip : ∀ xs ys : List D, zipD xs ys = (xs.zip ys).map (eP eD eD)
  | [], _ => by simp [zipD]
  | _ :: _, [] => by simp [zipD]
  | x :: xs, y :: ys => by
    show _ :: zipD xs ys = _ :: _
    rw [zipD_zip xs ys]
    rfl
theorem ei_zipD {a b : E} {x y : D} (h : EF md call a A (eD x) A1) (h2 : EF md call b A1 (eD y) A2) (hz : (zipI x y).isSome = true) : EI md call (.zip a b) A ((zipD2 x y).map (eP eD eD)) A2 := fun env r => by
  obtain ⟨env1, p1, r1⟩ := h env r
  obtain ⟨env2, p2, r2⟩ := h2 env1 r1
  refine ⟨env2, ?_, r2⟩
  rw [i_zip', p1]
  show zpX2 _ (fzX (ev md call b env1)) = _
  rw [p2]
  show R.opt (zipI x y) env2 = _
  unfold zipI at *
  split at hz
  · rename_i xs ys
    show R.ok (zipD xs ys) env2 = R.ok (((seqD (.list xs)).zip (seqD (.list ys))).map (eP eD eD)) env2
    rw [zipD_zip]
    rfl
  · rename_i xs ys
    show R.ok (zipD xs ys) env2 = R.ok (((seqD (.tuple xs)).zip (seqD (.tuple ys))).map (eP eD eD)) env2
    rw [zipD_zip]
    rfl
  · cases hz
theorem ei_zipTD {α : Type} {e : α → D} {a b : E} {xs : List α} {y : D} (h : EF md call a A (eT e xs) A1) (h2 : EF md call b A1 (eD y) A2) (hz : (zipI (eT e xs) y).isSome = true) : EI md call (.zip a b) A ((xs.zip (seqD y)).map (eP e eD)) A2 := by
  have z := ei_zipD (x := eT e xs) h h2 hz
  have e1 : (zipD2 (eT e xs) y).map (eP eD eD) = (xs.zip (seqD y)).map (eP e eD) := by
    show ((xs.map e).zip (seqD y)).map (eP eD eD) = _
    rw [List.zip_map_left, List.map_map]
    rfl
  rw [← e1]
  exact z
theorem xt_retIte {ρ : Type} {Of : ρ → O} {ss : Ss} {c a b : E} {x : Bool} {m k : ρ} (va : isVar a = false) (vb : isVar b = false) (h : EB md call c A x A1) (ha : x = true → XT md call (.cons (.ret a) ss) A1 Of m) (hb : x = false → XT md call (.cons (.ret b) ss) A1 Of k) : XT md call (.cons (.ret (.ite c a b)) ss) A Of (if x = true then m else k) := fun env r => by
  obtain ⟨env1, p1, r1⟩ := h env r
  rw [e_cons, e_ret (notVar (e := .ite c a b) rfl), x_ite, p1]
  cases x with
  | true =>
    have z := ha rfl env1 r1
    rw [e_cons, e_ret (notVar va)] at z
    exact z
  | false =>
    have z := hb rfl env1 r1
    rw [e_cons, e_ret (notVar vb)] at z
    exact z
theorem eva_plain : ∀ (es : Es) (ms : Modes), ms.any id = false → ∀ env, eva md call ms es env = eva md call [] es env
  | .nil, ms, _, env => by rw [a_nil', a_nil']
  | .cons e es, ms, h, env => by
    rw [a_cons', a_cons']
    have h1 : ms.headD false = false ∧ ms.tail.any id = false := by
      cases ms with
      | nil => exact ⟨rfl, rfl⟩
      | cons b ms =>
        rw [List.any_cons, Bool.or_eq_false_iff] at h
        exact h
    rw [h1.1]
    show caX md call ms.tail es (arg false e (ev md call e) env) = caX md call [] es (arg false e (ev md call e) env)
    cases arg false e (ev md call e) env with
    | ok a env1 =>
      have z := eva_plain es ms.tail h1.2 env1
      show cnX1 a (eva md call ms.tail es env1) = cnX1 a (eva md call [] es env1)
      rw [z]
    | er c env1 => rfl
    | st => rfl
theorem xt_sel {ρ : Type} {Of : ρ → O} {ss : Ss} {fs : List Nat} {ix : E} {es : Es} {k : Int} {j : Nat} {n : ρ} (hi : EF md call ix A (.int k) A1) (hj : place fs.length k = some j) (hm : (md (fs.getD j 0)).any id = false) (t : XT md call (.cons (.ret (.call (fs.getD j 0) es)) ss) A1 Of n) : XT md call (.cons (.ret (.sel fs ix es)) ss) A Of n := fun env r => by
  obtain ⟨env1, p1, r1⟩ := hi env r
  have z := t env1 r1
  rw [e_cons, e_ret (notVar rfl), x_call, eva_plain es _ hm] at z
  rw [e_cons, e_ret (notVar rfl), x_sel, p1]
  show SatX (Of n) (sqS md call ss (rtS (seX2 md call fs es env1 (place fs.length k))))
  rw [hj]
  exact z
theorem xt_retSel2 {ρ : Type} {Of : ρ → O} {ss : Ss} {f g : Nat} {ix : E} {es : Es} {k : Int} {m n : ρ} (hi : EF md call ix A (eI k) A1) (hk : 0 ≤ k ∧ k < 2) (mf : (md f).any id = false) (mg : (md g).any id = false) (a : decide (k = 0) = true → XT md call (.cons (.ret (.call f es)) ss) A1 Of m) (b : decide (k = 0) = false → XT md call (.cons (.ret (.call g es)) ss) A1 Of n) : XT md call (.cons (.ret (.sel [f, g] ix es)) ss) A Of (if decide (k = 0) = true then m else n) := by
  by_cases h : k = 0
  · subst h
    exact xt_sel (j := 0) hi rfl mf (a rfl)
  · have e : k = 1 := by omega
    subst e
    exact xt_sel (j := 1) hi rfl mg (b rfl)
end Nt

/-! dicts of True, typed. -/
namespace Nt
open Dc
open PySem (PyData NestedKey)
theorem cut_neg {α : Type} (xs : List α) (k : Nat) (hk : 1 ≤ k) : cut xs (some (-(k : Int))) none = xs.drop (xs.length - k) := by
  unfold cut clip
  dsimp only
  rw [if_pos (show -(k : Int) < 0 by omega)]
  rw [show (-(k : Int) + (xs.length : Int)).toNat = xs.length - k by omega]
  refine List.take_of_length_le ?_
  rw [List.length_drop]
  exact Nat.le_refl _
theorem p_slNegL {α : Type} (e : α → D) (a : List α) (k : Nat) (hk : 1 ≤ k) : primS (.slice true false) [eL e a, eI (-(k : Int))] = some (.ol ((a.drop (a.length - k)).map e)) := by
  show some (Sl.ol (cut (a.map e) (some (-(k : Int))) none)) = _
  rw [cut_neg _ k hk, List.length_map, List.map_drop]
theorem p_slNegT {α : Type} (e : α → D) (a : List α) (k : Nat) (hk : 1 ≤ k) : primS (.slice true false) [eT e a, eI (-(k : Int))] = some (.fr (eT e (a.drop (a.length - k)))) := by
  show some (Sl.fr (.tuple (cut (a.map e) (some (-(k : Int))) none))) = _
  rw [cut_neg _ k hk, List.length_map, ← List.map_drop]
  rfl
class Ky {α : Type} (e : α → D) : Prop where
  ok : ∀ a, kOk (e a) = true
  inj : ∀ a b, keyD (e a) = keyD (e b) → a = b
theorem keys_ints : ∀ l : List Int, keysD (l.map eI) = some (l.map NestedKey.num)
  | [] => by
    show keysD [] = _
    rw [keysD]
    rfl
  | x :: l => by
    show keysD (.int x :: l.map eI) = _
    rw [keysD, keyD, keys_ints l]
    rfl
theorem key_tup (l : List Int) : keyD (eT eI l) = some (.tup (l.map NestedKey.num)) := by
  show keyD (.tuple (l.map eI)) = _
  rw [keyD, keys_ints]
  rfl
theorem keys_tups : ∀ l : List (List Int), keysD (l.map (eT eI)) = some (l.map fun x => NestedKey.tup (x.map NestedKey.num))
  | [] => by
    show keysD [] = _
    rw [keysD]
    rfl
  | x :: l => by
    show keysD (eT eI x :: l.map (eT eI)) = _
    rw [keysD, key_tup, keys_tups l]
    rfl
theorem key_tups (l : List (List Int)) : keyD (eT (eT eI) l) = some (.tup (l.map fun x => NestedKey.tup (x.map NestedKey.num))) := by
  show keyD (.tuple (l.map (eT eI))) = _
  rw [keyD, keys_tups]
  rfl
theorem map_inj {α β : Type} {f : α → β} (h : ∀ a b, f a = f b → a = b) : ∀ {l m : List α}, l.map f = m.map f → l = m
  | [], [], _ => rfl
  | [], _ :: _, e => by cases e
  | _ :: _, [], e => by cases e
  | x :: l, y :: m, e => by
    have e2 := List.cons.inj e
    rw [h x y e2.1, map_inj h e2.2]
theorem num_inj (a b : Int) (h : NestedKey.num a = NestedKey.num b) : a = b := by injection h
theorem dep_nums : ∀ l : List Int, NestedKey.depthAll (l.map NestedKey.num) ≤ 1
  | [] => by
    show NestedKey.depthAll [] ≤ 1
    unfold NestedKey.depthAll
    decide
  | x :: l => by
    show NestedKey.depthAll (.num x :: l.map NestedKey.num) ≤ 1
    have := dep_nums l
    unfold NestedKey.depthAll
    unfold NestedKey.depth
    omega
theorem dep_tup (l : List Int) : (NestedKey.tup (l.map NestedKey.num)).depth ≤ 2 := by
  have := dep_nums l
  unfold NestedKey.depth
  omega
theorem dep_tups : ∀ l : List (List Int), NestedKey.depthAll (l.map fun x => NestedKey.tup (x.map NestedKey.num)) ≤ 2
  | [] => by
    show NestedKey.depthAll [] ≤ 2
    unfold NestedKey.depthAll
    decide
  | x :: l => by
    show NestedKey.depthAll (.tup (x.map NestedKey.num) :: l.map fun x => NestedKey.tup (x.map NestedKey.num)) ≤ 2
    have := dep_tups l
    have := dep_tup x
    unfold NestedKey.depthAll
    omega
instance : Ky (eT eI) where
  ok := fun a => by
    unfold kOk
    rw [key_tup]
    have := dep_tup a
    exact decide_eq_true (by omega)
  inj := fun a b h => by
    rw [key_tup, key_tup] at h
    have h := Option.some.inj h
    injection h with h
    exact map_inj num_inj h
instance : Ky (eT (eT eI)) where
  ok := fun a => by
    unfold kOk
    rw [key_tups]
    refine decide_eq_true ?_
    have := dep_tups a
    unfold NestedKey.depth
    omega
  inj := fun a b h => by
    rw [key_tups, key_tups] at h
    have h := Option.some.inj h
    injection h with h
    refine map_inj (fun x y e => ?_) h
    injection e with e
    exact map_inj num_inj e
section
variable {α : Type} [DecidableEq α] {en : α → D}
def putN (xs : List α) (a : α) : List α := if memB a xs = true then xs else xs ++ [a]
theorem has_map [Ky en] (xs : List α) (a : α) : hasK (xs.map en) (en a) = memB a xs := by
  unfold hasK memB
  rw [Bool.eq_iff_iff, List.any_eq_true, decide_eq_true_eq]
  constructor
  · rintro ⟨z, m, e⟩
    obtain ⟨x, mx, rfl⟩ := List.mem_map.mp m
    exact Ky.inj x a (of_decide_eq_true e) ▸ mx
  · intro m
    exact ⟨_, List.mem_map_of_mem m, decide_eq_true rfl⟩
theorem put_map [Ky en] (xs : List α) (a : α) : putK (xs.map en) (en a) = (putN xs a).map en := by
  unfold putK putN
  rw [has_map]
  cases memB a xs with
  | true => rfl
  | false =>
    rw [if_neg (by decide), List.map_append]
    rfl
end
section
variable {md : Nat → Modes} {call : Nat → List Sl → R Sl} {A A1 A2 : List Sp} {ρ : Type} {Of : ρ → O} {ss : Ss} {n : ρ}
theorem fz_eq {f : Env → R Sl} {env : Env} : fz f env = fzX (f env) := by
  unfold fz
  cases f env <;> rfl
theorem ev_dic0T {α : Type} (en : α → D) : EV md call (.dic .nil) A (.dc (([] : List α).map en)) A := fun env r => ⟨.od [], env, rfl, rfl, r⟩
theorem ev_dic1T {α : Type} (en : α → D) [Ky en] (a : α) {e : E} (h : EF md call e A (en a) A1) : EV md call (.dic (.cons e .nil)) A (.dc ([a].map en)) A1 := fun env r => by
  obtain ⟨env1, p1, r1⟩ := h env r
  refine ⟨.od [en a], env1, ?_, rfl, r1⟩
  show dicE (two (fz (ev md call e)) fun env => .ok [] env) env = _
  unfold dicE two
  have p2 : fz (ev md call e) env = .ok (en a) env1 := by rw [fz_eq]; exact p1
  rw [p2]
  show (if kOk (en a) = true then _ else _) = _
  rw [if_pos (Ky.ok a)]
theorem ev_dinT {α : Type} [DecidableEq α] (neg : Bool) (en : α → D) [Ky en] (xs : List α) (a : α) {i : Nat} {e : E} (h : EF md call e A (en a) A1) (h1 : A1[i]? = some (.dc (xs.map en))) : EV md call (.din neg e i) A (.fr (eB (neg ^^ memB a xs))) A1 := fun env r => by
  obtain ⟨env1, p1, r1⟩ := h env r
  have e1 : look env1 i = .od (xs.map en) := r1.at h1
  refine ⟨_, env1, ?_, rfl, r1⟩
  show dinE neg i (fz (ev md call e)) env = _
  unfold dinE
  have p2 : fz (ev md call e) env = .ok (en a) env1 := by rw [fz_eq]; exact p1
  rw [p2]
  show dinK neg i (en a) env1 = _
  unfold dinK
  rw [e1]
  show (if kOk (en a) = true then _ else _) = _
  rw [if_pos (Ky.ok a), has_map]
  rfl
theorem ev_inT {α : Type} [DecidableEq α] (en : α → D) [Ky en] (xs : List α) (a : α) {i : Nat} {e : E} (h : EF md call e A (en a) A1) (h1 : A1[i]? = some (.dc (xs.map en))) : EV md call (.din false e i) A (.fr (eB (memB a xs))) A1 := by
  have z := ev_dinT false en xs a h h1
  rw [Bool.false_xor] at z
  exact z
theorem ev_notinT {α : Type} [DecidableEq α] (en : α → D) [Ky en] (xs : List α) (a : α) {i : Nat} {e : E} (h : EF md call e A (en a) A1) (h1 : A1[i]? = some (.dc (xs.map en))) : EV md call (.din true e i) A (.fr (eB (!memB a xs))) A1 := by
  have z := ev_dinT true en xs a h h1
  rw [Bool.true_xor] at z
  exact z
theorem ev_keysT {α : Type} (en : α → D) (xs : List α) {i : Nat} (h : A[i]? = some (.dc (xs.map en))) : EV md call (.keys i) A (.ow (xs.map en)) A := fun env r => by
  have e1 : look env i = .od (xs.map en) := r.at h
  refine ⟨.ol (xs.map en), env, ?_, rfl, r⟩
  show keysE i env = _
  unfold keysE
  rw [e1]
theorem xt_dputT {α : Type} [DecidableEq α] (en : α → D) [Ky en] (xs : List α) (a : α) {i : Nat} {e : E} {ds : List D} (h0 : A[i]? = some (.dc ds)) (h : EF md call e A (en a) A1) (h1 : A1[i]? = some (.dc (xs.map en))) (hl : xs.length < PySem.sizeLine)
    (t : XT md call ss (A1.set i (.dc ((putN xs a).map en))) Of n) : XT md call (.cons (.dput i e) ss) A Of n := fun env r => by
  obtain ⟨env1, p1, r1⟩ := h env r
  have e0 : look env i = .od ds := r.at h0
  have e1 : look env1 i = .od (xs.map en) := r1.at h1
  rw [e_cons]
  have z : exec md call (.dput i e) env = .nx (env1.set i (.od (putK (xs.map en) (en a)))) := by
    show (dputE i (fz (ev md call e)) env).go _ = _
    unfold dputE
    rw [e0]
    have p2 : fz (ev md call e) env = .ok (en a) env1 := by rw [fz_eq]; exact p1
    dsimp only
    rw [p2]
    show (dputK i (en a) env1).go _ = _
    unfold dputK
    rw [e1]
    show ((if (kOk (en a) && decide ((xs.map en).length < PySem.sizeLine)) = true then _ else _ : R Unit)).go _ = _
    rw [if_pos (by rw [Ky.ok a, List.length_map, decide_eq_true hl]; rfl)]
    rfl
  rw [z]
  refine t _ ?_
  rw [← put_map]
  exact r1.set rfl
end
end Nt

/-! texts, typed. -/
namespace Nt
open Dc
open PySem (PyData Str)
theorem strsOf_map : ∀ l : List Str, strsOf (l.map eS) = some l
  | [] => rfl
  | x :: l => by
    show (strsOf (l.map eS)).map (x :: ·) = _
    rw [strsOf_map l]
    rfl
theorem p_split (y z : Str) (h : (y.length == 0) = false ∧ z.length + 2 ≤ PySem.sizeLine) : primS (.split y) [eS z] = some (.ol ((PySem.Txt.split z y).map eS)) := by
  show guard (!(y.length == 0) && decide (z.length + 2 ≤ PySem.sizeLine)) _ = _
  rw [h.1, decide_eq_true h.2]
  rfl
theorem p_strip (y z : Str) (h : z.length ≤ PySem.sizeLine) : primS (.strip y) [eS z] = some (.fr (eS (PySem.Txt.stripChars z y))) := by
  show guard (decide (z.length ≤ PySem.sizeLine)) _ = _
  rw [decide_eq_true h]
  rfl
theorem p_join (y : Str) (zs : List Str) (h : (zs.map (·.length)).sum + zs.length * y.length ≤ 16777216) : primS (.join y) [eL eS zs] = some (.fr (eS (PySem.Txt.join y zs))) := by
  show ((strsOf (zs.map eS)).bind fun zs => guard (decide ((zs.map (·.length)).sum + zs.length * y.length ≤ 16777216)) (some (.fr (.str (PySem.Txt.join y zs))))) = _
  rw [strsOf_map]
  show guard (decide ((zs.map (·.length)).sum + zs.length * y.length ≤ 16777216)) _ = _
  rw [decide_eq_true h]
  rfl
def intS (z : Str) : Int := (PySem.intText? z).getD 0
theorem p_intS (z : Str) (h : (PySem.intText? z).isSome = true ∧ z.length ≤ 640) : primS .int [eS z] = some (.fr (eI (intS z))) := by
  show guard (decide (z.length ≤ 640)) ((PySem.intText? z).bind i2) = _
  rw [decide_eq_true h.2]
  unfold intS
  cases e : PySem.intText? z with
  | none => rw [e] at h; cases h.1
  | some n => rfl
def inT (a b : Str) : Bool := !(PySem.Builtin.Str.occurrences b a 0 b.length 1).isEmpty
theorem p_inS (a b : Str) : primS .isin [eS a, eS b] = some (.fr (eB (inT a b))) := by
  show b2 (false ^^ inT a b) = _
  rw [Bool.false_xor]
  rfl
theorem p_niS (a b : Str) : primS .notin [eS a, eS b] = some (.fr (eB (!inT a b))) := by
  show b2 (true ^^ inT a b) = _
  rw [Bool.true_xor]
  rfl
def dropS (i : Int) (z : Str) : Str := ⟨(z.cps.toList.drop i.toNat).toArray⟩
def takeS (i : Int) (z : Str) : Str := ⟨(z.cps.toList.take i.toNat).toArray⟩
theorem p_slLoS (z : Str) (i : Int) (h : 0 ≤ i) (h2 : z.length ≤ PySem.sizeLine) : primS (.slice true false) [eS z, eI i] = some (.fr (eS (dropS i z))) := by
  show guard (decide (z.length ≤ PySem.sizeLine)) (some (Sl.fr (.str ⟨(cut z.cps.toList (some i) none).toArray⟩))) = _
  rw [decide_eq_true h2, cut_drop _ h]
  rfl
theorem p_slHiS (z : Str) (i : Int) (h : 0 ≤ i) (h2 : z.length ≤ PySem.sizeLine) : primS (.slice false true) [eS z, eI i] = some (.fr (eS (takeS i z))) := by
  show guard (decide (z.length ≤ PySem.sizeLine)) (some (Sl.fr (.str ⟨(cut z.cps.toList none (some i)).toArray⟩))) = _
  rw [decide_eq_true h2, cut_take _ h]
  rfl
def OKS (z : Str) : Prop := PySem.SeqAt.shaped (eS z) = true
instance (z : Str) : Decidable (OKS z) := by unfold OKS; infer_instance
theorem eqv_S (a b : Str) : PyData.eqv (eS a) (eS b) = decide (a = b) := by
  unfold eS
  simp only [PyData.eqv]
  exact Bool.eq_iff_iff.mpr (by simp)
theorem p_eqS (a b : Str) (h : OKS a ∧ OKS b) : primS .eq [eS a, eS b] = some (.fr (eB (decide (a = b)))) := by
  show guard (PySem.SeqAt.shaped (eS a) && PySem.SeqAt.shaped (eS b)) (b2 (PyData.eqv (eS a) (eS b))) = _
  rw [h.1, h.2, eqv_S]
  rfl
theorem p_neS (a b : Str) (h : OKS a ∧ OKS b) : primS .ne [eS a, eS b] = some (.fr (eB (!decide (a = b)))) := by
  show guard (PySem.SeqAt.shaped (eS a) && PySem.SeqAt.shaped (eS b)) (b2 (!PyData.eqv (eS a) (eS b))) = _
  rw [h.1, h.2, eqv_S]
  rfl
def signsS (z : Str) : List Str := z.cps.toList.map fun c => ⟨#[c]⟩
section
variable {md : Nat → Modes} {call : Nat → List Sl → R Sl} {A A1 : List Sp}
theorem ei_seqS {e : E} {z : Str} (h : EF md call e A (eS z) A1) (hz : z.length ≤ PySem.sizeLine) : EI md call (.seq e) A ((signsS z).map eS) A1 := fun env r => by
  obtain ⟨env1, p1, r1⟩ := h env r
  refine ⟨env1, ?_, r1⟩
  rw [i_seq', p1]
  have e1 : seqI (eS z) = some ((signsS z).map eS) := by
    have e2 : signs z = (signsS z).map eS := by
      unfold signs signsS
      rw [List.map_map]
      rfl
    show (if (signs z).length ≤ PySem.sizeLine then some (signs z) else none) = _
    rw [if_pos (by unfold signs; rw [List.length_map]; exact hz), e2]
  show (R.opt (seqI (eS z)) env1) = _
  rw [e1]
  rfl
/-! or, whose second part changes something -/
theorem eb_orS {α : Type} {T : α → List Sp} {a b : E} {x : Bool} {m n : Bool × α} (ha : EB md call a A x A1) (hb : x = false → EB md call b A1 m.1 (T m.2)) (hn : n.1 = true) (hs : Sub A1 (T n.2)) : EB md call (.or a b) A (if x = true then n else m).1 (T (if x = true then n else m).2) := fun env r => by
  obtain ⟨env1, p1, r1⟩ := ha env r
  rw [x_or, p1]
  cases x with
  | true =>
    rw [if_pos rfl, hn]
    exact ⟨env1, rfl, r1.mono hs⟩
  | false =>
    rw [if_neg (by decide)]
    exact hb rfl env1 r1
theorem eb_orN {α : Type} {T : α → List Sp} {a b : E} {x : Bool} {m n : Bool × α} (ha : EB md call a A x A1) (hb : x = false → EBN md call b A1 (fun r : Bool × α => r.1) (fun r => T r.2) m) (hn : n.1 = true) (hs : Sub A1 (T n.2)) : EB md call (.or a b) A (if x = true then n else m).1 (T (if x = true then n else m).2) := eb_orS ha hb hn hs
/-! a refusal inside of a pair that is put behind a list -/
theorem er_app {i : Nat} {e : E} {c : Nat} {ds : List D} (h0 : A[i]? = some (.ow ds)) (h : ER md call e A c A1) : ER md call (.app i e) A c A1 := fun env r => by
  obtain ⟨env1, p1, r1⟩ := h env r
  have e0 : look env i = .ol ds := r.at h0
  refine ⟨env1, ?_, r1⟩
  rw [x_app, e0]
  show apX i (fzX (ev md call e env)) = _
  rw [p1]
  rfl
variable {A2 : List Sp}
theorem er_tup2 {a b : E} {d : D} {c : Nat} (h : EF md call a A d A1) (h2 : ER md call b A1 c A2) : ER md call (.tup (.cons a (.cons b .nil))) A c A2 := fun env r => by
  obtain ⟨env1, p1, r1⟩ := h env r
  obtain ⟨env2, p2, r2⟩ := h2 env1 r1
  refine ⟨env2, ?_, r2⟩
  rw [x_tup, s_cons', p1]
  show (match cnX1 d (evs md call (.cons b .nil) env1) with | .ok ds env => R.ok (Sl.fr (.tuple ds)) env | .er c env => .er c env | .st => .st) = _
  rw [s_cons', p2]
  rfl
end
end Nt

namespace Law
open Dc
def c_is_whole : Ss := (.cons (.ret (.and (.prim .isInt (.cons (.var 0) .nil)) (.and (.not (.prim .isBool (.cons (.var 0) .nil))) (.chain .le .le (.var 1) (.var 0) (.var 2)))))
  .nil)
def d_is_whole : Def := ⟨[false, false, false], 3, c_is_whole⟩
def c_is_world : Ss := (.cons (.iff (.or (.not (.prim .isTup (.cons (.var 0) .nil))) (.prim .ne (.cons (.prim .len (.cons (.var 0) .nil)) (.cons (.cst (.int 3)) .nil)))) (.cons (.ret (.cst (.bool false)))
  .nil) .nil)
  (.cons (.iff (.or (.not (.call 1 (.cons (.prim .item (.cons (.var 0) (.cons (.cst (.int 0)) .nil))) (.cons (.cst (.int 1)) (.cons (.cst (.int 7)) .nil))))) (.or (.not (.call 1 (.cons (.prim .item (.cons (.var 0) (.cons (.cst (.int 1)) .nil))) (.cons (.cst (.int 1)) (.cons (.cst (.int 7)) .nil))))) (.not (.call 1 (.cons (.prim .item (.cons (.var 0) (.cons (.cst (.int 2)) .nil))) (.cons (.cst (.int 0)) (.cons (.cst (.int 7)) .nil))))))) (.cons (.ret (.cst (.bool false)))
  .nil) .nil)
  (.cons (.ret (.prim .le (.cons (.prim .sum (.cons (.var 0) .nil)) (.cons (.cst (.int 7)) .nil))))
  .nil)))
def d_is_world : Def := ⟨[false], 1, c_is_world⟩
def c_need_world : Ss := (.cons (.iff (.not (.call 2 (.cons (.var 0) .nil))) (.cons (.raise 0)
  .nil) .nil)
  .nil)
def d_need_world : Def := ⟨[false], 1, c_need_world⟩
def c_is_hand : Ss := (.cons (.iff (.or (.not (.prim .isTup (.cons (.var 2) .nil))) (.prim .ne (.cons (.prim .len (.cons (.var 2) .nil)) (.cons (.var 1) .nil)))) (.cons (.ret (.cst (.bool false)))
  .nil) .nil)
  (.cons (.iff (.not (.prim .all (.cons (.comp (.call 1 (.cons (.var 5) (.cons (.cst (.int 0)) (.cons (.prim .sub (.cons (.prim .sum (.cons (.var 0) .nil)) (.cons (.cst (.int 1)) .nil))) .nil)))) [5] (.seq (.var 2)) (.cst (.bool true))) .nil))) (.cons (.ret (.cst (.bool false)))
  .nil) .nil)
  (.cons (.ret (.prim .all (.cons (.comp (.prim .lt (.cons (.var 3) (.cons (.var 4) .nil))) [3, 4] (.zip (.var 2) (.prim (.slice true false) (.cons (.var 2) (.cons (.cst (.int 1)) .nil)))) (.cst (.bool true))) .nil)))
  .nil)))
def d_is_hand : Def := ⟨[false, false, false], 6, c_is_hand⟩
def c_is_line : Ss := (.cons (.iff (.or (.not (.prim .isTup (.cons (.var 2) .nil))) (.or (.prim .eq (.cons (.var 2) (.cons (.tup .nil) .nil))) (.not (.prim .all (.cons (.comp (.call 6 (.cons (.var 0) (.cons (.var 1) (.cons (.var 5) .nil)))) [5] (.seq (.var 2)) (.cst (.bool true))) .nil))))) (.cons (.ret (.cst (.bool false)))
  .nil) .nil)
  (.cons (.ret (.prim .all (.cons (.comp (.prim .lt (.cons (.var 3) (.cons (.var 4) .nil))) [3, 4] (.zip (.var 2) (.prim (.slice true false) (.cons (.var 2) (.cons (.cst (.int 1)) .nil)))) (.cst (.bool true))) .nil)))
  .nil))
def d_is_line : Def := ⟨[false, false, false], 6, c_is_line⟩
def c_need_line : Ss := (.cons (.ex (.call 3 (.cons (.var 0) .nil)))
  (.cons (.iff (.not (.call 11 (.cons (.var 0) (.cons (.prim .item (.cons (.var 0) (.cons (.cst (.int 0)) .nil))) (.cons (.var 1) .nil))))) (.cons (.raise 2)
  .nil) .nil)
  .nil))
def d_need_line : Def := ⟨[false, false], 2, c_need_line⟩
def c_text_of : Ss := (.cons (.ret (.prim (.join (PySem.Str.ofString ",")) (.cons (.comp (.prim (.join (PySem.Str.ofString "")) (.cons (.comp (.prim .str (.cons (.var 2) .nil)) [2] (.seq (.var 1)) (.cst (.bool true))) .nil)) [1] (.seq (.var 0)) (.cst (.bool true))) .nil)))
  .nil)
def d_text_of : Def := ⟨[false], 3, c_text_of⟩
def c_line_text : Ss := (.cons (.ex (.call 12 (.cons (.var 0) (.cons (.var 1) .nil))))
  (.cons (.ret (.call 193 (.cons (.var 1) .nil)))
  .nil))
def d_line_text : Def := ⟨[false, false], 2, c_line_text⟩
def c_line_from : Ss := (.cons (.iff (.or (.not (.prim .isStr (.cons (.var 0) .nil))) (.prim .ne (.cons (.prim (.strip (PySem.Str.ofString "0123456" ++ PySem.Str.ofString ",")) (.cons (.var 0) .nil)) (.cons (.cst (.str (PySem.Str.ofString ""))) .nil)))) (.cons (.raise 11)
  .nil) .nil)
  (.cons (.ret (.prim .tuple (.cons (.comp (.prim .tuple (.cons (.comp (.prim .int (.cons (.var 2) .nil)) [2] (.seq (.var 1)) (.cst (.bool true))) .nil)) [1] (.seq (.prim (.split (PySem.Str.ofString ",")) (.cons (.var 0) .nil))) (.cst (.bool true))) .nil)))
  .nil))
def d_line_from : Def := ⟨[false], 3, c_line_from⟩
def c_read_line : Ss := (.cons (.ex (.call 3 (.cons (.var 0) .nil)))
  (.cons (.asg 2 (.call 195 (.cons (.var 1) .nil)))
  (.cons (.iff (.not (.call 11 (.cons (.var 0) (.cons (.prim .item (.cons (.var 0) (.cons (.cst (.int 0)) .nil))) (.cons (.var 2) .nil))))) (.cons (.raise 11)
  .nil) .nil)
  (.cons (.ret (.var 2))
  .nil))))
def d_read_line : Def := ⟨[false, false], 3, c_read_line⟩
def c_law_cell_at : Ss := (.cons (.iff (.prim .lt (.cons (.var 1) (.cons (.prim .len (.cons (.var 0) .nil)) .nil))) (.cons (.ret (.prim .item (.cons (.var 0) (.cons (.var 1) .nil))))
  .nil) .nil)
  (.cons (.iff (.prim .eq (.cons (.var 0) (.cons (.lst .nil) .nil))) (.cons (.ret (.cst (.int 0)))
  .nil) .nil)
  (.cons (.ret (.prim .add (.cons (.prim .mul (.cons (.prim .item (.cons (.var 0) (.cons (.prim .mod (.cons (.var 1) (.cons (.prim .len (.cons (.var 0) .nil)) .nil))) .nil))) (.cons (.cst (.int 31)) .nil))) (.cons (.var 1) .nil))))
  .nil)))
def d_law_cell_at : Def := ⟨[false, false], 2, c_law_cell_at⟩
def c_law_mixed_v2 : Ss := (.cons (.asg 3 (.prim .mod (.cons (.prim .add (.cons (.prim .add (.cons (.prim .mul (.cons (.call 34 (.cons (.var 0) (.cons (.var 1) .nil))) (.cons (.cst (.int 1103515245)) .nil))) (.cons (.prim .mul (.cons (.cst (.int 7919)) (.cons (.var 1) .nil))) .nil))) (.cons (.cst (.int 12345)) .nil))) (.cons (.cst (.int 2147483647)) .nil))))
  (.cons (.ret (.prim .mod (.cons (.prim .mod (.cons (.prim .mod (.cons (.prim .pow (.cons (.var 3) (.cons (.cst (.int 5)) .nil))) (.cons (.cst (.int 2147483647)) .nil))) (.cons (.cst (.int 999983)) .nil))) (.cons (.var 2) .nil))))
  .nil))
def d_law_mixed_v2 : Def := ⟨[false, false, false], 4, c_law_mixed_v2⟩
def c_law_draw_v2 : Ss := (.cons (.ex (.app 1 (.cst (.int 0))))
  (.cons (.ret (.call 73 (.cons (.var 0) (.cons (.prim .len (.cons (.var 1) .nil)) (.cons (.var 2) .nil)))))
  .nil))
def d_law_draw_v2 : Def := ⟨[false, true, false], 3, c_law_draw_v2⟩
def c_law_pick_v2 : Ss := (.cons (.ret (.prim .item (.cons (.var 2) (.cons (.call 74 (.cons (.var 0) (.cons (.var 1) (.cons (.prim .len (.cons (.var 2) .nil)) .nil)))) .nil))))
  .nil)
def d_law_pick_v2 : Def := ⟨[false, true, false], 3, c_law_pick_v2⟩
def c_law_world_v2 : Ss := (.cons (.asg 2 (.lst (.cons (.tup (.cons (.cst (.int 3)) (.cons (.cst (.int 3)) (.cons (.cst (.int 1)) .nil)))) (.cons (.tup (.cons (.cst (.int 2)) (.cons (.cst (.int 3)) (.cons (.cst (.int 2)) .nil)))) (.cons (.tup (.cons (.cst (.int 3)) (.cons (.cst (.int 2)) (.cons (.cst (.int 2)) .nil)))) (.cons (.tup (.cons (.cst (.int 2)) (.cons (.cst (.int 2)) (.cons (.cst (.int 2)) .nil)))) (.cons (.tup (.cons (.cst (.int 1)) (.cons (.cst (.int 2)) (.cons (.cst (.int 2)) .nil)))) (.cons (.tup (.cons (.cst (.int 2)) (.cons (.cst (.int 2)) (.cons (.cst (.int 1)) .nil)))) (.cons (.tup (.cons (.cst (.int 3)) (.cons (.cst (.int 2)) (.cons (.cst (.int 1)) .nil)))) (.cons (.tup (.cons (.cst (.int 2)) (.cons (.cst (.int 1)) (.cons (.cst (.int 3)) .nil)))) (.cons (.tup (.cons (.cst (.int 1)) (.cons (.cst (.int 1)) (.cons (.cst (.int 1)) .nil)))) .nil)))))))))))
  (.cons (.ret (.call 75 (.cons (.var 0) (.cons (.var 1) (.cons (.prim .add (.cons (.var 2) (.cons (.lst (.cons (.tup (.cons (.cst (.int 3)) (.cons (.cst (.int 3)) (.cons (.cst (.int 0)) .nil)))) (.cons (.tup (.cons (.cst (.int 2)) (.cons (.cst (.int 4)) (.cons (.cst (.int 1)) .nil)))) (.cons (.tup (.cons (.cst (.int 2)) (.cons (.cst (.int 3)) (.cons (.cst (.int 1)) .nil)))) (.cons (.tup (.cons (.cst (.int 3)) (.cons (.cst (.int 1)) (.cons (.cst (.int 2)) .nil)))) (.cons (.tup (.cons (.cst (.int 1)) (.cons (.cst (.int 3)) (.cons (.cst (.int 1)) .nil)))) (.cons (.tup (.cons (.cst (.int 2)) (.cons (.cst (.int 2)) (.cons (.cst (.int 2)) .nil)))) (.cons (.tup (.cons (.cst (.int 2)) (.cons (.cst (.int 3)) (.cons (.cst (.int 2)) .nil)))) .nil)))))))) .nil))) .nil)))))
  .nil))
def d_law_world_v2 : Def := ⟨[false, true], 3, c_law_world_v2⟩
def c_law_picks : Ss := (.cons (.asg 2 (.lst (.cons (.tup .nil) .nil)))
  (.cons (.for [3] (.rng1 (.var 1)) (.cons (.asg 4 (.lst .nil))
  (.cons (.for [5] (.seq (.var 2)) (.cons (.ex (.ext 4 (.comp (.prim .add (.cons (.var 5) (.cons (.tup (.cons (.var 6) .nil)) .nil))) [6] (.rng1 (.var 0)) (.or (.prim .eq (.cons (.var 5) (.cons (.tup .nil) .nil))) (.prim .gt (.cons (.var 6) (.cons (.prim .item (.cons (.var 5) (.cons (.cst (.int (-1))) .nil))) .nil)))))))
  .nil))
  (.cons (.asg 2 (.var 4))
  .nil))))
  (.cons (.ret (.var 2))
  .nil)))
def d_law_picks : Def := ⟨[false, false], 7, c_law_picks⟩
def c_law_line_v2 : Ss := (.cons (.asg 5 (.call 77 (.cons (.var 2) (.cons (.var 3) .nil))))
  (.cons (.iff (.and (.prim .eq (.cons (.var 2) (.cons (.cst (.int 7)) .nil))) (.and (.prim .eq (.cons (.var 3) (.cons (.cst (.int 3)) .nil))) (.prim .eq (.cons (.call 74 (.cons (.var 0) (.cons (.var 1) (.cons (.cst (.int 3)) .nil)))) (.cons (.cst (.int 0)) .nil))))) (.cons (.asg 7 (.lst (.cons (.tup (.cons (.cst (.int 0)) (.cons (.cst (.int 1)) (.cons (.cst (.int 2)) .nil)))) (.cons (.tup (.cons (.cst (.int 0)) (.cons (.cst (.int 3)) (.cons (.cst (.int 4)) .nil)))) (.cons (.tup (.cons (.cst (.int 0)) (.cons (.cst (.int 5)) (.cons (.cst (.int 6)) .nil)))) (.cons (.tup (.cons (.cst (.int 1)) (.cons (.cst (.int 3)) (.cons (.cst (.int 5)) .nil)))) (.cons (.tup (.cons (.cst (.int 1)) (.cons (.cst (.int 4)) (.cons (.cst (.int 6)) .nil)))) (.cons (.tup (.cons (.cst (.int 2)) (.cons (.cst (.int 3)) (.cons (.cst (.int 6)) .nil)))) (.cons (.tup (.cons (.cst (.int 2)) (.cons (.cst (.int 4)) (.cons (.cst (.int 5)) .nil)))) .nil)))))))))
  (.cons (.ret (.prim .tuple (.cons (.sl2 (.var 7) (.call 74 (.cons (.var 0) (.cons (.var 1) (.cons (.cst (.int 2)) .nil)))) (.prim .sub (.cons (.cst (.int 7)) (.cons (.call 74 (.cons (.var 0) (.cons (.var 1) (.cons (.cst (.int 2)) .nil)))) .nil)))) .nil)))
  .nil)) .nil)
  (.cons (.asg 6 (.comp (.call 75 (.cons (.var 0) (.cons (.var 1) (.cons (.var 5) .nil)))) [8] (.rng1 (.prim .add (.cons (.cst (.int 1)) (.cons (.call 74 (.cons (.var 0) (.cons (.var 1) (.cons (.var 4) .nil)))) .nil)))) (.cst (.bool true))))
  (.cons (.ret (.prim .tuple (.cons (.prim .sortSet (.cons (.var 6) .nil)) .nil)))
  .nil))))
def d_law_line_v2 : Def := ⟨[false, true, false, false, false], 9, c_law_line_v2⟩
def c_law_odd_world : Ss := (.cons (.asg 2 (.lst (.cons (.cst .none) (.cons (.cst (.int 5)) (.cons (.tup .nil) (.cons (.tup (.cons (.cst (.int 3)) (.cons (.cst (.int 3)) .nil))) (.cons (.lst (.cons (.cst (.int 3)) (.cons (.cst (.int 3)) (.cons (.cst (.int 1)) .nil)))) (.cons (.tup (.cons (.cst (.int 0)) (.cons (.cst (.int 3)) (.cons (.cst (.int 1)) .nil)))) (.cons (.tup (.cons (.cst (.int 3)) (.cons (.cst (.int 0)) (.cons (.cst (.int 1)) .nil)))) (.cons (.tup (.cons (.cst (.int 3)) (.cons (.cst (.int 3)) (.cons (.cst (.int 2)) .nil)))) (.cons (.tup (.cons (.cst (.int (-1))) (.cons (.cst (.int 3)) (.cons (.cst (.int 3)) .nil)))) (.cons (.tup (.cons (.cst (.bool true)) (.cons (.cst (.int 3)) (.cons (.cst (.int 1)) .nil)))) (.cons (.tup (.cons (.cst (.int 3)) (.cons (.cst (.int 3)) (.cons (.cst .none) .nil)))) .nil)))))))))))))
  (.cons (.ret (.call 75 (.cons (.var 0) (.cons (.var 1) (.cons (.prim .add (.cons (.var 2) (.cons (.lst (.cons (.tup (.cons (.cst (.int 3)) (.cons (.cst (.int 3)) (.cons (.cst (.int 1)) (.cons (.cst (.int 0)) .nil))))) (.cons (.cst (.str (PySem.Str.ofString "331"))) (.cons (.tup (.cons (.cst (.int 4)) (.cons (.cst (.int 4)) (.cons (.cst (.int 0)) .nil)))) (.cons (.tup (.cons (.cst (.int 1)) (.cons (.cst (.int 1)) (.cons (.cst (.int (-1))) .nil)))) (.cons (.tup (.cons (.cst (.str (PySem.Str.ofString "3"))) (.cons (.cst (.int 3)) (.cons (.cst (.int 1)) .nil)))) (.cons (.tup (.cons (.cst (.int 7)) (.cons (.cst (.int 1)) (.cons (.cst (.int 0)) .nil)))) .nil))))))) .nil))) .nil)))))
  .nil))
def d_law_odd_world : Def := ⟨[false, true], 3, c_law_odd_world⟩
def c_law_ask_v12 : Ss := (.cons (.tr [0, 11] (.cons (.ret (.call 196 (.cons (.var 0) (.cons (.var 1) .nil))))
  .nil) (.retWhich 2))
  .nil)
def d_law_ask_v12 : Def := ⟨[false, false], 3, c_law_ask_v12⟩
def c_law : Ss := (.cons (.asg 1 (.lst .nil))
  (.cons (.asg 2 (.call 74 (.cons (.var 0) (.cons (.var 1) (.cons (.cst (.int 3)) .nil)))))
  (.cons (.asg 3 (.call 76 (.cons (.var 0) (.cons (.var 1) .nil))))
  (.cons (.asg 4 (.prim .sum (.cons (.var 3) .nil)))
  (.cons (.asg 5 (.call 194 (.cons (.var 3) (.cons (.call 78 (.cons (.var 0) (.cons (.var 1) (.cons (.var 4) (.cons (.prim .item (.cons (.var 3) (.cons (.cst (.int 0)) .nil))) (.cons (.cst (.int 6)) .nil)))))) .nil))))
  (.cons (.for [6] (.rng1 (.var 2)) (.cons (.asg 10 (.call 74 (.cons (.var 0) (.cons (.var 1) (.cons (.prim .add (.cons (.prim .len (.cons (.var 5) .nil)) (.cons (.cst (.int 1)) .nil))) .nil)))))
  (.cons (.asg 11 (.call 75 (.cons (.var 0) (.cons (.var 1) (.cons (.lst (.cons (.cst (.str (PySem.Str.ofString ""))) (.cons (.cst (.str (PySem.Str.ofString "0"))) (.cons (.cst (.str (PySem.Str.ofString "1"))) (.cons (.cst (.str (PySem.Str.ofString "2"))) (.cons (.cst (.str (PySem.Str.ofString "3"))) (.cons (.cst (.str (PySem.Str.ofString ","))) (.cons (.cst (.str (PySem.Str.ofString " "))) (.cons (.cst (.str (PySem.Str.ofString ",,"))) (.cons (.cst (.str (PySem.Str.ofString "6"))) (.cons (.cst (.str (PySem.Str.ofString "7"))) (.cons (.cst (.str (PySem.Str.ofString "a"))) (.cons (.cst (.str (PySem.Str.ofString "-"))) .nil))))))))))))) .nil)))))
  (.cons (.asg 5 (.prim .add (.cons (.prim .add (.cons (.prim (.slice false true) (.cons (.var 5) (.cons (.var 10) .nil))) (.cons (.var 11) .nil))) (.cons (.prim (.slice true false) (.cons (.var 5) (.cons (.prim .add (.cons (.var 10) (.cons (.call 74 (.cons (.var 0) (.cons (.var 1) (.cons (.cst (.int 2)) .nil)))) .nil))) .nil))) .nil))))
  .nil))))
  (.cons (.asg 7 (.comp (.prim .tuple (.cons (.comp (.ite (.prim .isin (.cons (.var 14) (.cons (.cst (.str (PySem.Str.ofString "0123456789"))) .nil))) (.prim .int (.cons (.var 14) .nil)) (.cst (.int (-1)))) [14] (.seq (.var 12)) (.cst (.bool true))) .nil)) [12] (.seq (.prim (.split (PySem.Str.ofString ",")) (.cons (.var 5) .nil))) (.cst (.bool true))))
  (.cons (.asg 8 (.prim .eq (.cons (.comp (.var 13) [13] (.seq (.var 7)) (.prim .notin (.cons (.var 13) (.cons (.call 77 (.cons (.var 4) (.cons (.prim .item (.cons (.var 3) (.cons (.cst (.int 0)) .nil))) .nil))) .nil)))) (.cons (.lst .nil) .nil))))
  (.cons (.asg 8 (.and (.var 8) (.prim .eq (.cons (.var 7) (.cons (.prim .sortSet (.cons (.var 7) .nil)) .nil)))))
  (.cons (.asg 9 (.call 75 (.cons (.var 0) (.cons (.var 1) (.cons (.lst (.cons (.cst .none) (.cons (.cst (.str (PySem.Str.ofString ""))) (.cons (.cst (.int 5)) (.cons (.cst (.str (PySem.Str.ofString ","))) (.cons (.tup (.cons (.cst (.str (PySem.Str.ofString "01"))) .nil)) (.cons (.cst (.str (PySem.Str.ofString "01 23"))) (.cons (.cst (.str (PySem.Str.ofString " 0"))) .nil)))))))) .nil)))))
  (.cons (.iff (.or (.prim .ne (.cons (.call 199 (.cons (.var 3) (.cons (.var 9) .nil))) (.cons (.tup (.cons (.cst (.str (PySem.Str.ofString "refused"))) (.cons (.cst (.int 11)) .nil))) .nil))) (.prim .ne (.cons (.call 199 (.cons (.call 96 (.cons (.var 0) (.cons (.var 1) .nil))) (.cons (.var 5) .nil))) (.cons (.tup (.cons (.cst (.str (PySem.Str.ofString "refused"))) (.cons (.cst (.int 0)) .nil))) .nil)))) (.cons (.ret (.cst (.bool false)))
  .nil) .nil)
  (.cons (.ret (.prim .eq (.cons (.call 199 (.cons (.var 3) (.cons (.var 5) .nil))) (.cons (.ite (.var 8) (.prim .tuple (.cons (.var 7) .nil)) (.tup (.cons (.cst (.str (PySem.Str.ofString "refused"))) (.cons (.cst (.int 11)) .nil)))) .nil))))
  .nil))))))))))))
def d_law : Def := ⟨[false], 15, c_law⟩
def U : Nat → Option Def
  | 1 => some d_is_whole
  | 2 => some d_is_world
  | 3 => some d_need_world
  | 6 => some d_is_hand
  | 11 => some d_is_line
  | 12 => some d_need_line
  | 193 => some d_text_of
  | 194 => some d_line_text
  | 195 => some d_line_from
  | 196 => some d_read_line
  | 34 => some d_law_cell_at
  | 73 => some d_law_mixed_v2
  | 74 => some d_law_draw_v2
  | 75 => some d_law_pick_v2
  | 76 => some d_law_world_v2
  | 77 => some d_law_picks
  | 78 => some d_law_line_v2
  | 96 => some d_law_odd_world
  | 199 => some d_law_ask_v12
  | 200 => some d_law
  | _ => none
end Law
namespace Nt
open Dc Law
def n_is_whole (a_thing : Int) (a_low : Int) (a_most : Int) : Bool := (true && ((!false) && (decide (a_low ≤ a_thing) && decide (a_thing ≤ a_most))))
@[reducible] def O_is_whole (z : Bool) : O := .rt (Sp.fr (eB z)) [Sp.nn, Sp.nn, Sp.nn]
theorem t_is_whole {k : Nat} (hk : 1 ≤ k) (a_thing : Int) (a_low : Int) (a_most : Int) : CallO (run U k) 1 [(Sp.fr (eI a_thing)), (Sp.fr (eI a_low)), (Sp.fr (eI a_most))] O_is_whole (n_is_whole a_thing a_low a_most) := by
  cases k with
  | zero => exact absurd hk (by omega)
  | succ k => exact fn_of (d := d_is_whole) rfl rfl (A0 := [(Sp.fr (eI a_thing)), (Sp.fr (eI a_low)), (Sp.fr (eI a_most))]) (OB := (fun z : Bool => O.rt (Sp.fr (eB z)) [Sp.any, Sp.any, Sp.any])) rfl (xt_ret rfl (ev_andV (EV.eb rfl (ev_primF (eo_var rfl rfl eo_nil rfl rfl) (show primS .isInt [eI a_thing] = some (.fr (eB true)) from rfl))) fun h_1434 => (ev_andV (eb_not (EV.eb rfl (ev_primF (eo_var rfl rfl eo_nil rfl rfl) (show primS .isBool [eI a_thing] = some (.fr (eB false)) from rfl)))) fun h_1435 => (ev_chain (EV.ef rfl (ev_varF rfl)) (EV.ef rfl (ev_varF rfl)) (p_leI a_low a_thing) (EV.ef rfl (ev_varF rfl)) fun _ => (p_leI a_thing a_most)))) (Imp.rt le_rfl (sb_cons le_any (sb_cons le_any (sb_cons le_any sb_nil))))) (fun z => Imp.rt le_rfl sb_rfl)
def n_is_world (a_thing : (List Int)) : Bool := (if ((!true) || (!decide ((a_thing.length : Int) = (3 : Int)))) = true then false else (if ((!(n_is_whole (atI a_thing (0 : Int)) (1 : Int) (7 : Int))) || ((!(n_is_whole (atI a_thing (1 : Int)) (1 : Int) (7 : Int))) || (!(n_is_whole (atI a_thing (2 : Int)) (0 : Int) (7 : Int))))) = true then false else (decide ((List.sum a_thing) ≤ (7 : Int)))))
def n_is_world_ok (a_thing : (List Int)) : Prop := ((!true) || (!decide ((a_thing.length : Int) = (3 : Int)))) = false → (0 ≤ (0 : Int) ∧ (0 : Int) < a_thing.length) ∧ ((!(n_is_whole (atI a_thing (0 : Int)) (1 : Int) (7 : Int))) = false → (0 ≤ (1 : Int) ∧ (1 : Int) < a_thing.length) ∧ ((!(n_is_whole (atI a_thing (1 : Int)) (1 : Int) (7 : Int))) = false → 0 ≤ (2 : Int) ∧ (2 : Int) < a_thing.length))
@[reducible] def O_is_world (z : Bool) : O := .rt (Sp.fr (eB z)) [Sp.nn]
theorem t_is_world {k : Nat} (hk : 2 ≤ k) (a_thing : (List Int)) (h : n_is_world_ok a_thing) : CallO (run U k) 2 [(Sp.fr ((eT eI) a_thing))] O_is_world (n_is_world a_thing) := by
  cases k with
  | zero => exact absurd hk (by omega)
  | succ k => exact fn_of (d := d_is_world) rfl rfl (A0 := [(Sp.fr ((eT eI) a_thing))]) (OB := (fun z : Bool => O.rt (Sp.fr (eB z)) [Sp.any])) rfl (xt_if (eb_or (eb_not (EV.eb rfl (ev_primF (eo_var rfl rfl eo_nil rfl rfl) (show primS .isTup [(eT eI) a_thing] = some (.fr (eB true)) from rfl)))) fun h_1440 => (EV.eb rfl (ev_primF (eo_val rfl (EV.ef rfl (ev_primF (eo_var rfl rfl eo_nil rfl rfl) (p_lenT eI a_thing))) (eo_val rfl (EV.ef rfl ev_cst) eo_nil)) (p_ne eI (a_thing.length : Int) (3 : Int))))) (fun h_1443 => (xt_ret rfl ev_cst (Imp.rt le_rfl (sb_cons le_any sb_nil)))) (fun h_1444 => (xt_if (eb_or (eb_not (EV.eb rfl (ev_callP (OF := O_is_whole) (n := (n_is_whole (atI a_thing (0 : Int)) (1 : Int) (7 : Int))) (ea_val rfl (EV.ef rfl (ev_primF (eo_var rfl rfl (eo_val rfl (EV.ef rfl ev_cst) eo_nil) rfl rfl) (p_itemT eI a_thing (0 : Int) (And.left (h h_1444))))) (ea_val rfl (EV.ef rfl ev_cst) (ea_val rfl (EV.ef rfl ev_cst) ea_nil))) (t_is_whole (by omega) (atI a_thing (0 : Int)) (1 : Int) (7 : Int)) rfl rfl rfl))) fun h_1448 => (eb_or (eb_not (EV.eb rfl (ev_callP (OF := O_is_whole) (n := (n_is_whole (atI a_thing (1 : Int)) (1 : Int) (7 : Int))) (ea_val rfl (EV.ef rfl (ev_primF (eo_var rfl rfl (eo_val rfl (EV.ef rfl ev_cst) eo_nil) rfl rfl) (p_itemT eI a_thing (1 : Int) (And.left ((And.right (h h_1444)) h_1448))))) (ea_val rfl (EV.ef rfl ev_cst) (ea_val rfl (EV.ef rfl ev_cst) ea_nil))) (t_is_whole (by omega) (atI a_thing (1 : Int)) (1 : Int) (7 : Int)) rfl rfl rfl))) fun h_1452 => (eb_not (EV.eb rfl (ev_callP (OF := O_is_whole) (n := (n_is_whole (atI a_thing (2 : Int)) (0 : Int) (7 : Int))) (ea_val rfl (EV.ef rfl (ev_primF (eo_var rfl rfl (eo_val rfl (EV.ef rfl ev_cst) eo_nil) rfl rfl) (p_itemT eI a_thing (2 : Int) ((And.right ((And.right (h h_1444)) h_1448)) h_1452)))) (ea_val rfl (EV.ef rfl ev_cst) (ea_val rfl (EV.ef rfl ev_cst) ea_nil))) (t_is_whole (by omega) (atI a_thing (2 : Int)) (0 : Int) (7 : Int)) rfl rfl rfl))))) (fun h_1456 => (xt_ret rfl ev_cst (Imp.rt le_rfl (sb_cons le_any sb_nil)))) (fun h_1457 => (xt_ret rfl (ev_primF (eo_val rfl (EV.ef rfl (ev_primF (eo_var rfl rfl eo_nil rfl rfl) (p_sumT a_thing))) (eo_val rfl (EV.ef rfl ev_cst) eo_nil)) (p_leI (List.sum a_thing) (7 : Int))) (Imp.rt le_rfl (sb_cons le_any sb_nil))))))) (fun z => Imp.rt le_rfl sb_rfl)
def n_need_world (a_thing : (List Int)) : (Except Nat Unit) := (if (!(n_is_world a_thing)) = true then (.error 0) else (.ok ()))
def n_need_world_ok (a_thing : (List Int)) : Prop := n_is_world_ok a_thing
@[reducible] def O_need_world (z : (Except Nat Unit)) : O := match z with | .ok v => .rt (Sp.fr .none) [Sp.nn] | .error c => .er c [Sp.nn]
theorem t_need_world {k : Nat} (hk : 3 ≤ k) (a_thing : (List Int)) (h : n_need_world_ok a_thing) : CallO (run U k) 3 [(Sp.fr ((eT eI) a_thing))] O_need_world (n_need_world a_thing) := by
  cases k with
  | zero => exact absurd hk (by omega)
  | succ k => exact fn_of (d := d_need_world) rfl rfl (A0 := [(Sp.fr ((eT eI) a_thing))]) (OB := (fun z : (Except Nat Unit) => match z with | .ok v => O.nx [Sp.any] | .error c => O.er c [Sp.any])) rfl (xt_if (eb_not (EV.eb rfl (ev_callP (OF := O_is_world) (n := (n_is_world a_thing)) (ea_val rfl (EV.ef rfl (ev_varF rfl)) ea_nil) (t_is_world (by omega) a_thing h) rfl rfl rfl))) (fun h_1462 => (xt_raise (Imp.er (sb_cons le_any sb_nil)))) (fun h_1463 => (xt_nil (Imp.nx (sb_cons le_any sb_nil))))) (fun z => match z with | .ok _ => Imp.rt le_rfl sb_rfl | .error _ => Imp.er sb_rfl)
def n_is_hand (a_world : (List Int)) (a_size : Int) (a_thing : (List Int)) : Bool := (if ((!true) || (!decide ((a_thing.length : Int) = a_size))) = true then false else (if (!(List.all (List.map (fun card_1 : Int => (n_is_whole card_1 (0 : Int) ((List.sum a_world) - (1 : Int)))) a_thing) id)) = true then false else (List.all (List.map (fun p_2 : (Int × Int) => (decide (p_2.1 < p_2.2))) (List.zip a_thing (List.drop (Int.toNat (1 : Int)) a_thing))) id)))
@[reducible] def O_is_hand (z : Bool) : O := .rt (Sp.fr (eB z)) [Sp.nn, Sp.nn, Sp.nn]
theorem t_is_hand {k : Nat} (hk : 2 ≤ k) (a_world : (List Int)) (a_size : Int) (a_thing : (List Int)) : CallO (run U k) 6 [(Sp.fr ((eT eI) a_world)), (Sp.fr (eI a_size)), (Sp.fr ((eT eI) a_thing))] O_is_hand (n_is_hand a_world a_size a_thing) := by
  cases k with
  | zero => exact absurd hk (by omega)
  | succ k => exact fn_of (d := d_is_hand) rfl rfl (A0 := [(Sp.fr ((eT eI) a_world)), (Sp.fr (eI a_size)), (Sp.fr ((eT eI) a_thing)), Sp.nn, Sp.nn, Sp.nn]) (OB := (fun z : Bool => O.rt (Sp.fr (eB z)) [Sp.any, Sp.any, Sp.any, Sp.any, Sp.any, Sp.any])) rfl (xt_if (eb_or (eb_not (EV.eb rfl (ev_primF (eo_var rfl rfl eo_nil rfl rfl) (show primS .isTup [(eT eI) a_thing] = some (.fr (eB true)) from rfl)))) fun h_1465 => (EV.eb rfl (ev_primF (eo_val rfl (EV.ef rfl (ev_primF (eo_var rfl rfl eo_nil rfl rfl) (p_lenT eI a_thing))) (eo_var rfl rfl eo_nil rfl rfl)) (p_ne eI (a_thing.length : Int) a_size)))) (fun h_1468 => (xt_ret rfl ev_cst (Imp.rt le_rfl (sb_cons le_any (sb_cons le_any (sb_cons le_any (sb_cons le_any (sb_cons le_any (sb_cons le_any sb_nil))))))))) (fun h_1469 => (xt_if (eb_not (EV.eb rfl (ev_primF (eo_val rfl (EV.ef rfl (ev_comp1 (f := fun card_1 : Int => (n_is_whole card_1 (0 : Int) ((List.sum a_world) - (1 : Int)))) (ey := eB) (ei_seqT (ex := eI) (xs := a_thing) (EV.ef rfl (ev_varF rfl))) rfl (fun card_1 m_1470 => ⟨_, rfl, (EV.ef rfl (ev_callP (OF := O_is_whole) (n := (n_is_whole card_1 (0 : Int) ((List.sum a_world) - (1 : Int)))) (ea_val rfl (EV.ef rfl (ev_varF rfl)) (ea_val rfl (EV.ef rfl ev_cst) (ea_val rfl (EV.ef rfl (ev_primF (eo_val rfl (EV.ef rfl (ev_primF (eo_var rfl rfl eo_nil rfl rfl) (p_sumT a_world))) (eo_val rfl (EV.ef rfl ev_cst) eo_nil)) (p_subI (List.sum a_world) (1 : Int)))) ea_nil))) (t_is_whole (by omega) card_1 (0 : Int) ((List.sum a_world) - (1 : Int))) rfl rfl rfl)), sb_rfl⟩) sb_rfl)) eo_nil) (p_allL (List.map (fun card_1 : Int => (n_is_whole card_1 (0 : Int) ((List.sum a_world) - (1 : Int)))) a_thing))))) (fun h_1474 => (xt_ret rfl ev_cst (Imp.rt le_rfl (sb_cons le_any (sb_cons le_any (sb_cons le_any (sb_cons le_any (sb_cons le_any (sb_cons le_any sb_nil))))))))) (fun h_1475 => (xt_ret rfl (ev_primF (eo_val rfl (EV.ef rfl (ev_comp1 (f := fun p_2 : (Int × Int) => (decide (p_2.1 < p_2.2))) (ey := eB) (ei_zipT (ex := eI) (ey := eI) (xs := a_thing) (ys := (List.drop (Int.toNat (1 : Int)) a_thing)) (EV.ef rfl (ev_varF rfl)) (EV.ef rfl (ev_primF (eo_var rfl rfl (eo_val rfl (EV.ef rfl ev_cst) eo_nil) rfl rfl) (p_slLoT eI a_thing (1 : Int) (by decide))))) rfl (fun p_2 m_1476 => ⟨_, rfl, (EV.ef rfl (ev_primF (eo_var rfl rfl (eo_var rfl rfl eo_nil rfl rfl) rfl rfl) (p_ltI p_2.1 p_2.2))), sb_rfl⟩) sb_rfl)) eo_nil) (p_allL (List.map (fun p_2 : (Int × Int) => (decide (p_2.1 < p_2.2))) (List.zip a_thing (List.drop (Int.toNat (1 : Int)) a_thing))))) (Imp.rt le_rfl (sb_cons le_any (sb_cons le_any (sb_cons le_any (sb_cons le_any (sb_cons le_any (sb_cons le_any sb_nil)))))))))))) (fun z => Imp.rt le_rfl sb_rfl)
def n_is_line (a_world : (List Int)) (a_size : Int) (a_thing : (List (List Int))) : Bool := (if ((!true) || ((decide (a_thing = ([] : List (List Int)))) || (!(List.all (List.map (fun hand_1 : (List Int) => (n_is_hand a_world a_size hand_1)) a_thing) id)))) = true then false else (List.all (List.map (fun p_2 : ((List Int) × (List Int)) => (ltI p_2.1 p_2.2)) (List.zip a_thing (List.drop (Int.toNat (1 : Int)) a_thing))) id))
@[reducible] def O_is_line (z : Bool) : O := .rt (Sp.fr (eB z)) [Sp.nn, Sp.nn, Sp.nn]
theorem t_is_line {k : Nat} (hk : 3 ≤ k) (a_world : (List Int)) (a_size : Int) (a_thing : (List (List Int))) : CallO (run U k) 11 [(Sp.fr ((eT eI) a_world)), (Sp.fr (eI a_size)), (Sp.fr ((eT (eT eI)) a_thing))] O_is_line (n_is_line a_world a_size a_thing) := by
  cases k with
  | zero => exact absurd hk (by omega)
  | succ k => exact fn_of (d := d_is_line) rfl rfl (A0 := [(Sp.fr ((eT eI) a_world)), (Sp.fr (eI a_size)), (Sp.fr ((eT (eT eI)) a_thing)), Sp.nn, Sp.nn, Sp.nn]) (OB := (fun z : Bool => O.rt (Sp.fr (eB z)) [Sp.any, Sp.any, Sp.any, Sp.any, Sp.any, Sp.any])) rfl (xt_if (eb_or (eb_not (EV.eb rfl (ev_primF (eo_var rfl rfl eo_nil rfl rfl) (show primS .isTup [(eT (eT eI)) a_thing] = some (.fr (eB true)) from rfl)))) fun h_1480 => (eb_or (EV.eb rfl (ev_primF (eo_var rfl rfl (eo_val rfl (EV.ef rfl (ev_tup es_nil)) eo_nil) rfl rfl) (p_eq (eT (eT eI)) a_thing ([] : List (List Int))))) fun h_1483 => (eb_not (EV.eb rfl (ev_primF (eo_val rfl (EV.ef rfl (ev_comp1 (f := fun hand_1 : (List Int) => (n_is_hand a_world a_size hand_1)) (ey := eB) (ei_seqT (ex := (eT eI)) (xs := a_thing) (EV.ef rfl (ev_varF rfl))) rfl (fun hand_1 m_1484 => ⟨_, rfl, (EV.ef rfl (ev_callP (OF := O_is_hand) (n := (n_is_hand a_world a_size hand_1)) (ea_val rfl (EV.ef rfl (ev_varF rfl)) (ea_val rfl (EV.ef rfl (ev_varF rfl)) (ea_val rfl (EV.ef rfl (ev_varF rfl)) ea_nil))) (t_is_hand (by omega) a_world a_size hand_1) rfl rfl rfl)), sb_rfl⟩) sb_rfl)) eo_nil) (p_allL (List.map (fun hand_1 : (List Int) => (n_is_hand a_world a_size hand_1)) a_thing))))))) (fun h_1485 => (xt_ret rfl ev_cst (Imp.rt le_rfl (sb_cons le_any (sb_cons le_any (sb_cons le_any (sb_cons le_any (sb_cons le_any (sb_cons le_any sb_nil))))))))) (fun h_1486 => (xt_ret rfl (ev_primF (eo_val rfl (EV.ef rfl (ev_comp1 (f := fun p_2 : ((List Int) × (List Int)) => (ltI p_2.1 p_2.2)) (ey := eB) (ei_zipT (ex := (eT eI)) (ey := (eT eI)) (xs := a_thing) (ys := (List.drop (Int.toNat (1 : Int)) a_thing)) (EV.ef rfl (ev_varF rfl)) (EV.ef rfl (ev_primF (eo_var rfl rfl (eo_val rfl (EV.ef rfl ev_cst) eo_nil) rfl rfl) (p_slLoT (eT eI) a_thing (1 : Int) (by decide))))) rfl (fun p_2 m_1487 => ⟨_, rfl, (EV.ef rfl (ev_primF (eo_var rfl rfl (eo_var rfl rfl eo_nil rfl rfl) rfl rfl) (p_ltT p_2.1 p_2.2))), sb_rfl⟩) sb_rfl)) eo_nil) (p_allL (List.map (fun p_2 : ((List Int) × (List Int)) => (ltI p_2.1 p_2.2)) (List.zip a_thing (List.drop (Int.toNat (1 : Int)) a_thing))))) (Imp.rt le_rfl (sb_cons le_any (sb_cons le_any (sb_cons le_any (sb_cons le_any (sb_cons le_any (sb_cons le_any sb_nil)))))))))) (fun z => Imp.rt le_rfl sb_rfl)
def n_need_line (a_world : (List Int)) (a_thing : (List (List Int))) : (Except Nat Unit) := exc (n_need_world a_world) (fun c => (.error c)) fun c_1 => (if (!(n_is_line a_world (atI a_world (0 : Int)) a_thing)) = true then (.error 2) else (.ok ()))
def n_need_line_ok (a_world : (List Int)) (a_thing : (List (List Int))) : Prop := (n_need_world_ok a_world) ∧ (excP (n_need_world a_world) fun c_1 => 0 ≤ (0 : Int) ∧ (0 : Int) < a_world.length)
@[reducible] def O_need_line (z : (Except Nat Unit)) : O := match z with | .ok v => .rt (Sp.fr .none) [Sp.nn, Sp.nn] | .error c => .er c [Sp.nn, Sp.nn]
theorem t_need_line {k : Nat} (hk : 4 ≤ k) (a_world : (List Int)) (a_thing : (List (List Int))) (h : n_need_line_ok a_world a_thing) : CallO (run U k) 12 [(Sp.fr ((eT eI) a_world)), (Sp.fr ((eT (eT eI)) a_thing))] O_need_line (n_need_line a_world a_thing) := by
  cases k with
  | zero => exact absurd hk (by omega)
  | succ k => exact fn_of (d := d_need_line) rfl rfl (A0 := [(Sp.fr ((eT eI) a_world)), (Sp.fr ((eT (eT eI)) a_thing))]) (OB := (fun z : (Except Nat Unit) => match z with | .ok v => O.nx [Sp.any, Sp.any] | .error c => O.er c [Sp.any, Sp.any])) rfl (xt_exc (fun c e_c_1 => (xt_exE (er_call (OF := O_need_world) (n := Except.error c) (ea_val rfl (EV.ef rfl (ev_varF rfl)) ea_nil) (CallO.eq2 e_c_1 (t_need_world (by omega) a_world (And.left h))) rfl rfl) (Imp.er (sb_cons le_any (sb_cons le_any sb_nil))))) fun c_1 e_c_1 => (xt_ex (ev_callP (OF := O_need_world) (n := Except.ok c_1) (ea_val rfl (EV.ef rfl (ev_varF rfl)) ea_nil) (CallO.eq2 e_c_1 (t_need_world (by omega) a_world (And.left h))) rfl rfl rfl) (xt_if (eb_not (EV.eb rfl (ev_callP (OF := O_is_line) (n := (n_is_line a_world (atI a_world (0 : Int)) a_thing)) (ea_val rfl (EV.ef rfl (ev_varF rfl)) (ea_val rfl (EV.ef rfl (ev_primF (eo_var rfl rfl (eo_val rfl (EV.ef rfl ev_cst) eo_nil) rfl rfl) (p_itemT eI a_world (0 : Int) (excP_at (p := c_1) e_c_1 (And.right h))))) (ea_val rfl (EV.ef rfl (ev_varF rfl)) ea_nil))) (t_is_line (by omega) a_world (atI a_world (0 : Int)) a_thing) rfl rfl rfl))) (fun h_1493 => (xt_raise (Imp.er (sb_cons le_any (sb_cons le_any sb_nil))))) (fun h_1494 => (xt_nil (Imp.nx (sb_cons le_any (sb_cons le_any sb_nil)))))))) (fun z => match z with | .ok _ => Imp.rt le_rfl sb_rfl | .error _ => Imp.er sb_rfl)
def n_text_of (a_line : (List (List Int))) : PySem.Str := (PySem.Txt.join (PySem.Str.ofString ",") (List.map (fun hand_1 : (List Int) => (PySem.Txt.join (PySem.Str.ofString "") (List.map (fun card_2 : Int => (toString card_2 : PySem.Str)) hand_1))) a_line))
def n_text_of_ok (a_line : (List (List Int))) : Prop := (∀ hand_1 ∈ a_line, (∀ card_2 ∈ hand_1, (Int.natAbs card_2).log2 < 1920) ∧ ((List.map (fun x : PySem.Str => x.length) (List.map (fun card_2 : Int => (toString card_2 : PySem.Str)) hand_1)).sum + (List.map (fun card_2 : Int => (toString card_2 : PySem.Str)) hand_1).length * (PySem.Str.ofString "").length ≤ 16777216)) ∧ ((List.map (fun x : PySem.Str => x.length) (List.map (fun hand_1 : (List Int) => (PySem.Txt.join (PySem.Str.ofString "") (List.map (fun card_2 : Int => (toString card_2 : PySem.Str)) hand_1))) a_line)).sum + (List.map (fun hand_1 : (List Int) => (PySem.Txt.join (PySem.Str.ofString "") (List.map (fun card_2 : Int => (toString card_2 : PySem.Str)) hand_1))) a_line).length * (PySem.Str.ofString ",").length ≤ 16777216)
@[reducible] def O_text_of (z : PySem.Str) : O := .rt (Sp.fr (eS z)) [Sp.nn]
theorem t_text_of {k : Nat} (hk : 1 ≤ k) (a_line : (List (List Int))) (h : n_text_of_ok a_line) : CallO (run U k) 193 [(Sp.fr ((eT (eT eI)) a_line))] O_text_of (n_text_of a_line) := by
  cases k with
  | zero => exact absurd hk (by omega)
  | succ k => exact fn_of (d := d_text_of) rfl rfl (A0 := [(Sp.fr ((eT (eT eI)) a_line)), Sp.nn, Sp.nn]) (OB := (fun z : PySem.Str => O.rt (Sp.fr (eS z)) [Sp.any, Sp.any, Sp.any])) rfl (xt_ret rfl (ev_primF (eo_val rfl (EV.ef rfl (ev_comp1 (f := fun hand_1 : (List Int) => (PySem.Txt.join (PySem.Str.ofString "") (List.map (fun card_2 : Int => (toString card_2 : PySem.Str)) hand_1))) (ey := eS) (ei_seqT (ex := (eT eI)) (xs := a_line) (EV.ef rfl (ev_varF rfl))) rfl (fun hand_1 m_1496 => ⟨_, rfl, (EV.ef rfl (ev_primF (eo_val rfl (EV.ef rfl (ev_comp1 (f := fun card_2 : Int => (toString card_2 : PySem.Str)) (ey := eS) (ei_seqT (ex := eI) (xs := hand_1) (EV.ef rfl (ev_varF rfl))) rfl (fun card_2 m_1497 => ⟨_, rfl, (EV.ef rfl (ev_primF (eo_var rfl rfl eo_nil rfl rfl) (p_strI card_2 ((And.left ((And.left h) hand_1 m_1496)) card_2 m_1497)))), sb_rfl⟩) sb_rfl)) eo_nil) (p_join (PySem.Str.ofString "") (List.map (fun card_2 : Int => (toString card_2 : PySem.Str)) hand_1) (And.right ((And.left h) hand_1 m_1496))))), sb_rfl⟩) sb_rfl)) eo_nil) (p_join (PySem.Str.ofString ",") (List.map (fun hand_1 : (List Int) => (PySem.Txt.join (PySem.Str.ofString "") (List.map (fun card_2 : Int => (toString card_2 : PySem.Str)) hand_1))) a_line) (And.right h))) (Imp.rt le_rfl (sb_cons le_any (sb_cons le_any (sb_cons le_any sb_nil))))) (fun z => Imp.rt le_rfl sb_rfl)
def n_line_text (a_world : (List Int)) (a_line : (List (List Int))) : (Except Nat PySem.Str) := exc (n_need_line a_world a_line) (fun c => (.error c)) fun c_1 => (.ok (n_text_of a_line))
def n_line_text_ok (a_world : (List Int)) (a_line : (List (List Int))) : Prop := (n_need_line_ok a_world a_line) ∧ (excP (n_need_line a_world a_line) fun c_1 => n_text_of_ok a_line)
@[reducible] def O_line_text (z : (Except Nat PySem.Str)) : O := match z with | .ok v => .rt (Sp.fr (eS v)) [Sp.nn, Sp.nn] | .error c => .er c [Sp.nn, Sp.nn]
theorem t_line_text {k : Nat} (hk : 5 ≤ k) (a_world : (List Int)) (a_line : (List (List Int))) (h : n_line_text_ok a_world a_line) : CallO (run U k) 194 [(Sp.fr ((eT eI) a_world)), (Sp.fr ((eT (eT eI)) a_line))] O_line_text (n_line_text a_world a_line) := by
  cases k with
  | zero => exact absurd hk (by omega)
  | succ k => exact fn_of (d := d_line_text) rfl rfl (A0 := [(Sp.fr ((eT eI) a_world)), (Sp.fr ((eT (eT eI)) a_line))]) (OB := (fun z : (Except Nat PySem.Str) => match z with | .ok v => O.rt (Sp.fr (eS v)) [Sp.any, Sp.any] | .error c => O.er c [Sp.any, Sp.any])) rfl (xt_exc (fun c e_c_1 => (xt_exE (er_call (OF := O_need_line) (n := Except.error c) (ea_val rfl (EV.ef rfl (ev_varF rfl)) (ea_val rfl (EV.ef rfl (ev_varF rfl)) ea_nil)) (CallO.eq2 e_c_1 (t_need_line (by omega) a_world a_line (And.left h))) rfl rfl) (Imp.er (sb_cons le_any (sb_cons le_any sb_nil))))) fun c_1 e_c_1 => (xt_ex (ev_callP (OF := O_need_line) (n := Except.ok c_1) (ea_val rfl (EV.ef rfl (ev_varF rfl)) (ea_val rfl (EV.ef rfl (ev_varF rfl)) ea_nil)) (CallO.eq2 e_c_1 (t_need_line (by omega) a_world a_line (And.left h))) rfl rfl rfl) (xt_ret rfl (ev_callP (OF := O_text_of) (n := (n_text_of a_line)) (ea_val rfl (EV.ef rfl (ev_varF rfl)) ea_nil) (t_text_of (by omega) a_line (excP_at (p := c_1) e_c_1 (And.right h))) rfl rfl rfl) (Imp.rt le_rfl (sb_cons le_any (sb_cons le_any sb_nil)))))) (fun z => match z with | .ok _ => Imp.rt le_rfl sb_rfl | .error _ => Imp.er sb_rfl)
def n_line_from (a_text : PySem.Str) : (Except Nat (List (List Int))) := (if ((!true) || (!decide ((PySem.Txt.stripChars a_text (PySem.Str.ofString "0123456" ++ PySem.Str.ofString ",")) = (PySem.Str.ofString "")))) = true then (.error 11) else (.ok (List.map (fun word_1 : PySem.Str => (List.map (fun sign_2 : PySem.Str => (intS sign_2)) (signsS word_1))) (PySem.Txt.split a_text (PySem.Str.ofString ",")))))
def n_line_from_ok (a_text : PySem.Str) : Prop := ((!true) = false → (a_text.length ≤ PySem.sizeLine) ∧ (OKS (PySem.Txt.stripChars a_text (PySem.Str.ofString "0123456" ++ PySem.Str.ofString ",")) ∧ OKS (PySem.Str.ofString ""))) ∧ (((!true) || (!decide ((PySem.Txt.stripChars a_text (PySem.Str.ofString "0123456" ++ PySem.Str.ofString ",")) = (PySem.Str.ofString "")))) = false → (((PySem.Str.ofString ",").length == 0) = false ∧ a_text.length + 2 ≤ PySem.sizeLine) ∧ (∀ word_1 ∈ (PySem.Txt.split a_text (PySem.Str.ofString ",")), (word_1.length ≤ PySem.sizeLine) ∧ (∀ sign_2 ∈ (signsS word_1), (PySem.intText? sign_2).isSome = true ∧ sign_2.length ≤ 640)))
@[reducible] def O_line_from (z : (Except Nat (List (List Int)))) : O := match z with | .ok v => .rt (Sp.fr ((eT (eT eI)) v)) [Sp.nn] | .error c => .er c [Sp.nn]
theorem t_line_from {k : Nat} (hk : 1 ≤ k) (a_text : PySem.Str) (h : n_line_from_ok a_text) : CallO (run U k) 195 [(Sp.fr (eS a_text))] O_line_from (n_line_from a_text) := by
  cases k with
  | zero => exact absurd hk (by omega)
  | succ k => exact fn_of (d := d_line_from) rfl rfl (A0 := [(Sp.fr (eS a_text)), Sp.nn, Sp.nn]) (OB := (fun z : (Except Nat (List (List Int))) => match z with | .ok v => O.rt (Sp.fr ((eT (eT eI)) v)) [Sp.any, Sp.any, Sp.any] | .error c => O.er c [Sp.any, Sp.any, Sp.any])) rfl (xt_if (eb_or (eb_not (EV.eb rfl (ev_primF (eo_var rfl rfl eo_nil rfl rfl) (show primS .isStr [eS a_text] = some (.fr (eB true)) from rfl)))) fun h_1501 => (EV.eb rfl (ev_primF (eo_val rfl (EV.ef rfl (ev_primF (eo_var rfl rfl eo_nil rfl rfl) (p_strip (PySem.Str.ofString "0123456" ++ PySem.Str.ofString ",") a_text (And.left ((And.left h) h_1501))))) (eo_val rfl (EV.ef rfl ev_cst) eo_nil)) (p_neS (PySem.Txt.stripChars a_text (PySem.Str.ofString "0123456" ++ PySem.Str.ofString ",")) (PySem.Str.ofString "") (And.right ((And.left h) h_1501)))))) (fun h_1504 => (xt_raise (Imp.er (sb_cons le_any (sb_cons le_any (sb_cons le_any sb_nil)))))) (fun h_1505 => (xt_ret rfl (ev_primF (eo_val rfl (EV.ef rfl (ev_comp1 (f := fun word_1 : PySem.Str => (List.map (fun sign_2 : PySem.Str => (intS sign_2)) (signsS word_1))) (ey := (eT eI)) (ei_seqL (ex := eS) (xs := (PySem.Txt.split a_text (PySem.Str.ofString ","))) (EV.ef rfl (ev_primO (eo_var rfl rfl eo_nil rfl rfl) (p_split (PySem.Str.ofString ",") a_text (And.left ((And.right h) h_1505)))))) rfl (fun word_1 m_1509 => ⟨_, rfl, (EV.ef rfl (ev_primF (eo_val rfl (EV.ef rfl (ev_comp1 (f := fun sign_2 : PySem.Str => (intS sign_2)) (ey := eI) (ei_seqS (EV.ef rfl (ev_varF rfl)) (And.left ((And.right ((And.right h) h_1505)) word_1 m_1509))) rfl (fun sign_2 m_1512 => ⟨_, rfl, (EV.ef rfl (ev_primF (eo_var rfl rfl eo_nil rfl rfl) (p_intS sign_2 ((And.right ((And.right ((And.right h) h_1505)) word_1 m_1509)) sign_2 m_1512)))), sb_rfl⟩) sb_rfl)) eo_nil) (p_tupL eI (List.map (fun sign_2 : PySem.Str => (intS sign_2)) (signsS word_1))))), sb_rfl⟩) sb_rfl)) eo_nil) (p_tupL (eT eI) (List.map (fun word_1 : PySem.Str => (List.map (fun sign_2 : PySem.Str => (intS sign_2)) (signsS word_1))) (PySem.Txt.split a_text (PySem.Str.ofString ","))))) (Imp.rt le_rfl (sb_cons le_any (sb_cons le_any (sb_cons le_any sb_nil))))))) (fun z => match z with | .ok _ => Imp.rt le_rfl sb_rfl | .error _ => Imp.er sb_rfl)
def n_read_line (a_world : (List Int)) (a_text : PySem.Str) : (Except Nat (List (List Int))) := exc (n_need_world a_world) (fun c => (.error c)) fun c_1 => exc (n_line_from a_text) (fun c => (.error c)) fun c_2 => (if (!(n_is_line a_world (atI a_world (0 : Int)) c_2)) = true then (.error 11) else (.ok c_2))
def n_read_line_ok (a_world : (List Int)) (a_text : PySem.Str) : Prop := (n_need_world_ok a_world) ∧ (excP (n_need_world a_world) fun c_1 => (n_line_from_ok a_text) ∧ (excP (n_line_from a_text) fun c_2 => 0 ≤ (0 : Int) ∧ (0 : Int) < a_world.length))
@[reducible] def O_read_line (z : (Except Nat (List (List Int)))) : O := match z with | .ok v => .rt (Sp.fr ((eT (eT eI)) v)) [Sp.nn, Sp.nn] | .error c => .er c [Sp.nn, Sp.nn]
theorem t_read_line {k : Nat} (hk : 4 ≤ k) (a_world : (List Int)) (a_text : PySem.Str) (h : n_read_line_ok a_world a_text) : CallO (run U k) 196 [(Sp.fr ((eT eI) a_world)), (Sp.fr (eS a_text))] O_read_line (n_read_line a_world a_text) := by
  cases k with
  | zero => exact absurd hk (by omega)
  | succ k => exact fn_of (d := d_read_line) rfl rfl (A0 := [(Sp.fr ((eT eI) a_world)), (Sp.fr (eS a_text)), Sp.nn]) (OB := (fun z : (Except Nat (List (List Int))) => match z with | .ok v => O.rt (Sp.fr ((eT (eT eI)) v)) [Sp.any, Sp.any, Sp.any] | .error c => O.er c [Sp.any, Sp.any, Sp.any])) rfl (xt_exc (fun c e_c_1 => (xt_exE (er_call (OF := O_need_world) (n := Except.error c) (ea_val rfl (EV.ef rfl (ev_varF rfl)) ea_nil) (CallO.eq2 e_c_1 (t_need_world (by omega) a_world (And.left h))) rfl rfl) (Imp.er (sb_cons le_any (sb_cons le_any (sb_cons le_any sb_nil)))))) fun c_1 e_c_1 => (xt_ex (ev_callP (OF := O_need_world) (n := Except.ok c_1) (ea_val rfl (EV.ef rfl (ev_varF rfl)) ea_nil) (CallO.eq2 e_c_1 (t_need_world (by omega) a_world (And.left h))) rfl rfl rfl) (xt_exc (fun c e_c_2 => (xt_asgE (er_call (OF := O_line_from) (n := Except.error c) (ea_val rfl (EV.ef rfl (ev_varF rfl)) ea_nil) (CallO.eq2 e_c_2 (t_line_from (by omega) a_text (And.left (excP_at (p := c_1) e_c_1 (And.right h))))) rfl rfl) (Imp.er (sb_cons le_any (sb_cons le_any (sb_cons le_any sb_nil)))))) fun c_2 e_c_2 => (xt_asg (ev_callP (OF := O_line_from) (n := Except.ok c_2) (ea_val rfl (EV.ef rfl (ev_varF rfl)) ea_nil) (CallO.eq2 e_c_2 (t_line_from (by omega) a_text (And.left (excP_at (p := c_1) e_c_1 (And.right h))))) rfl rfl rfl) (xt_if (eb_not (EV.eb rfl (ev_callP (OF := O_is_line) (n := (n_is_line a_world (atI a_world (0 : Int)) c_2)) (ea_val rfl (EV.ef rfl (ev_varF rfl)) (ea_val rfl (EV.ef rfl (ev_primF (eo_var rfl rfl (eo_val rfl (EV.ef rfl ev_cst) eo_nil) rfl rfl) (p_itemT eI a_world (0 : Int) (excP_at (p := c_2) e_c_2 (And.right (excP_at (p := c_1) e_c_1 (And.right h))))))) (ea_val rfl (EV.ef rfl (ev_varF rfl)) ea_nil))) (t_is_line (by omega) a_world (atI a_world (0 : Int)) c_2) rfl rfl rfl))) (fun h_1518 => (xt_raise (Imp.er (sb_cons le_any (sb_cons le_any (sb_cons le_any sb_nil)))))) (fun h_1519 => (xt_retV rfl rfl (Imp.rt le_rfl (sb_cons le_any (sb_cons le_any (sb_cons le_any sb_nil))))))))))) (fun z => match z with | .ok _ => Imp.rt le_rfl sb_rfl | .error _ => Imp.er sb_rfl)
def n_law_cell_at (a_script : (List Int)) (a_k : Int) : Int := (if (decide (a_k < (a_script.length : Int))) = true then (atI a_script a_k) else (if (decide (a_script = ([] : List Int))) = true then (0 : Int) else (((atI a_script (Int.fmod a_k (a_script.length : Int))) * (31 : Int)) + a_k)))
def n_law_cell_at_ok (a_script : (List Int)) (a_k : Int) : Prop := ((decide (a_k < (a_script.length : Int))) = true → 0 ≤ a_k ∧ a_k < a_script.length) ∧ ((decide (a_k < (a_script.length : Int))) = false → (decide (a_script = ([] : List Int))) = false → ((a_script.length : Int) ≠ 0) ∧ (0 ≤ (Int.fmod a_k (a_script.length : Int)) ∧ (Int.fmod a_k (a_script.length : Int)) < a_script.length))
@[reducible] def O_law_cell_at (z : Int) : O := .rt (Sp.fr (eI z)) [Sp.nn, Sp.nn]
theorem t_law_cell_at {k : Nat} (hk : 1 ≤ k) (a_script : (List Int)) (a_k : Int) (h : n_law_cell_at_ok a_script a_k) : CallO (run U k) 34 [(Sp.fr ((eL eI) a_script)), (Sp.fr (eI a_k))] O_law_cell_at (n_law_cell_at a_script a_k) := by
  cases k with
  | zero => exact absurd hk (by omega)
  | succ k => exact fn_of (d := d_law_cell_at) rfl rfl (A0 := [(Sp.fr ((eL eI) a_script)), (Sp.fr (eI a_k))]) (OB := (fun z : Int => O.rt (Sp.fr (eI z)) [Sp.any, Sp.any])) rfl (xt_if (EV.eb rfl (ev_primF (eo_var rfl rfl (eo_val rfl (EV.ef rfl (ev_primF (eo_var rfl rfl eo_nil rfl rfl) (p_lenL eI a_script))) eo_nil) rfl rfl) (p_ltI a_k (a_script.length : Int)))) (fun h_1523 => (xt_ret rfl (ev_primF (eo_var rfl rfl (eo_var rfl rfl eo_nil rfl rfl) rfl rfl) (p_itemL eI a_script a_k ((And.left h) h_1523))) (Imp.rt le_rfl (sb_cons le_any (sb_cons le_any sb_nil))))) (fun h_1524 => (xt_if (EV.eb rfl (ev_primF (eo_var rfl rfl (eo_val rfl (EV.ef rfl (ev_lst es_nil)) eo_nil) rfl rfl) (p_eq (eL eI) a_script ([] : List Int)))) (fun h_1527 => (xt_ret rfl ev_cst (Imp.rt le_rfl (sb_cons le_any (sb_cons le_any sb_nil))))) (fun h_1528 => (xt_ret rfl (ev_primF (eo_val rfl (EV.ef rfl (ev_primF (eo_val rfl (EV.ef rfl (ev_primF (eo_var rfl rfl (eo_val rfl (EV.ef rfl (ev_primF (eo_var rfl rfl (eo_val rfl (EV.ef rfl (ev_primF (eo_var rfl rfl eo_nil rfl rfl) (p_lenL eI a_script))) eo_nil) rfl rfl) (p_modI a_k (a_script.length : Int) (And.left (((And.right h) h_1524) h_1528))))) eo_nil) rfl rfl) (p_itemL eI a_script (Int.fmod a_k (a_script.length : Int)) (And.right (((And.right h) h_1524) h_1528))))) (eo_val rfl (EV.ef rfl ev_cst) eo_nil)) (p_mulI (atI a_script (Int.fmod a_k (a_script.length : Int))) (31 : Int) (.inr (by decide))))) (eo_var rfl rfl eo_nil rfl rfl)) (p_addI ((atI a_script (Int.fmod a_k (a_script.length : Int))) * (31 : Int)) a_k)) (Imp.rt le_rfl (sb_cons le_any (sb_cons le_any sb_nil)))))))) (fun z => Imp.rt le_rfl sb_rfl)
def n_law_mixed_v2 (a_script : (List Int)) (a_k : Int) (a_many : Int) : Int := bnd (Int.fmod ((((n_law_cell_at a_script a_k) * (1103515245 : Int)) + ((7919 : Int) * a_k)) + (12345 : Int)) (2147483647 : Int)) fun drawn_1 => (Int.fmod (Int.fmod (Int.fmod (drawn_1 ^ Int.toNat (5 : Int)) (2147483647 : Int)) (999983 : Int)) a_many)
def n_law_mixed_v2_ok (a_script : (List Int)) (a_k : Int) (a_many : Int) : Prop := (n_law_cell_at_ok a_script a_k) ∧ (bnd (Int.fmod ((((n_law_cell_at a_script a_k) * (1103515245 : Int)) + ((7919 : Int) * a_k)) + (12345 : Int)) (2147483647 : Int)) fun drawn_1 => (0 ≤ (5 : Int) ∧ (5 : Int) ≤ 1000000 ∧ Int.natAbs drawn_1 < 2 ^ 64) ∧ (a_many ≠ 0))
@[reducible] def O_law_mixed_v2 (z : Int) : O := .rt (Sp.fr (eI z)) [Sp.nn, Sp.nn, Sp.nn]
theorem t_law_mixed_v2 {k : Nat} (hk : 2 ≤ k) (a_script : (List Int)) (a_k : Int) (a_many : Int) (h : n_law_mixed_v2_ok a_script a_k a_many) : CallO (run U k) 73 [(Sp.fr ((eL eI) a_script)), (Sp.fr (eI a_k)), (Sp.fr (eI a_many))] O_law_mixed_v2 (n_law_mixed_v2 a_script a_k a_many) := by
  cases k with
  | zero => exact absurd hk (by omega)
  | succ k => exact fn_of (d := d_law_mixed_v2) rfl rfl (A0 := [(Sp.fr ((eL eI) a_script)), (Sp.fr (eI a_k)), (Sp.fr (eI a_many)), Sp.nn]) (OB := (fun z : Int => O.rt (Sp.fr (eI z)) [Sp.any, Sp.any, Sp.any, Sp.any])) rfl (xt_asgB (S := fun z : Int => (Sp.fr (eI z))) (ev_primF (eo_val rfl (EV.ef rfl (ev_primF (eo_val rfl (EV.ef rfl (ev_primF (eo_val rfl (EV.ef rfl (ev_primF (eo_val rfl (EV.ef rfl (ev_callP (OF := O_law_cell_at) (n := (n_law_cell_at a_script a_k)) (ea_val rfl (EV.ef rfl (ev_varF rfl)) (ea_val rfl (EV.ef rfl (ev_varF rfl)) ea_nil)) (t_law_cell_at (by omega) a_script a_k (And.left h)) rfl rfl rfl)) (eo_val rfl (EV.ef rfl ev_cst) eo_nil)) (p_mulI (n_law_cell_at a_script a_k) (1103515245 : Int) (.inr (by decide))))) (eo_val rfl (EV.ef rfl (ev_primF (eo_val rfl (EV.ef rfl ev_cst) (eo_var rfl rfl eo_nil rfl rfl)) (p_mulI (7919 : Int) a_k (.inl (by decide))))) eo_nil)) (p_addI ((n_law_cell_at a_script a_k) * (1103515245 : Int)) ((7919 : Int) * a_k)))) (eo_val rfl (EV.ef rfl ev_cst) eo_nil)) (p_addI (((n_law_cell_at a_script a_k) * (1103515245 : Int)) + ((7919 : Int) * a_k)) (12345 : Int)))) (eo_val rfl (EV.ef rfl ev_cst) eo_nil)) (p_modI ((((n_law_cell_at a_script a_k) * (1103515245 : Int)) + ((7919 : Int) * a_k)) + (12345 : Int)) (2147483647 : Int) (by decide))) fun drawn_1 e_drawn_1 => (xt_ret rfl (ev_primF (eo_val rfl (EV.ef rfl (ev_primF (eo_val rfl (EV.ef rfl (ev_primF (eo_val rfl (EV.ef rfl (ev_primF (eo_var rfl rfl (eo_val rfl (EV.ef rfl ev_cst) eo_nil) rfl rfl) (p_powI drawn_1 (5 : Int) (And.left (bnd_at (p := drawn_1) e_drawn_1 (And.right h)))))) (eo_val rfl (EV.ef rfl ev_cst) eo_nil)) (p_modI (drawn_1 ^ Int.toNat (5 : Int)) (2147483647 : Int) (by decide)))) (eo_val rfl (EV.ef rfl ev_cst) eo_nil)) (p_modI (Int.fmod (drawn_1 ^ Int.toNat (5 : Int)) (2147483647 : Int)) (999983 : Int) (by decide)))) (eo_var rfl rfl eo_nil rfl rfl)) (p_modI (Int.fmod (Int.fmod (drawn_1 ^ Int.toNat (5 : Int)) (2147483647 : Int)) (999983 : Int)) a_many (And.right (bnd_at (p := drawn_1) e_drawn_1 (And.right h))))) (Imp.rt le_rfl (sb_cons le_any (sb_cons le_any (sb_cons le_any (sb_cons le_any sb_nil))))))) (fun z => Imp.rt le_rfl sb_rfl)
def n_law_draw_v2 (a_script : (List Int)) (a_town : (List Int)) (a_many : Int) : (Int × (List Int)) := ((n_law_mixed_v2 a_script ((a_town ++ [(0 : Int)]).length : Int) a_many), (a_town ++ [(0 : Int)]))
def n_law_draw_v2_ok (a_script : (List Int)) (a_town : (List Int)) (a_many : Int) : Prop := (a_town.length < PySem.sizeLine) ∧ (n_law_mixed_v2_ok a_script ((a_town ++ [(0 : Int)]).length : Int) a_many)
@[reducible] def O_law_draw_v2 (z : (Int × (List Int))) : O := .rt (Sp.fr (eI z.1)) [Sp.nn, (Sp.ow (List.map eI z.2)), Sp.nn]
theorem t_law_draw_v2 {k : Nat} (hk : 3 ≤ k) (a_script : (List Int)) (a_town : (List Int)) (a_many : Int) (h : n_law_draw_v2_ok a_script a_town a_many) : CallO (run U k) 74 [(Sp.fr ((eL eI) a_script)), (Sp.ow (List.map eI a_town)), (Sp.fr (eI a_many))] O_law_draw_v2 (n_law_draw_v2 a_script a_town a_many) := by
  cases k with
  | zero => exact absurd hk (by omega)
  | succ k => exact fn_of (d := d_law_draw_v2) rfl rfl (A0 := [(Sp.fr ((eL eI) a_script)), (Sp.ow (List.map eI a_town)), (Sp.fr (eI a_many))]) (OB := (fun z : (Int × (List Int)) => O.rt (Sp.fr (eI z.1)) [Sp.any, (Sp.ow (List.map eI z.2)), Sp.any])) rfl (xt_ex (ev_appT eI a_town (0 : Int) rfl (EV.ef rfl ev_cst) rfl (And.left h)) (xt_ret rfl (ev_callP (OF := O_law_mixed_v2) (n := (n_law_mixed_v2 a_script ((a_town ++ [(0 : Int)]).length : Int) a_many)) (ea_val rfl (EV.ef rfl (ev_varF rfl)) (ea_val rfl (EV.ef rfl (ev_primF (eo_var rfl rfl eo_nil rfl rfl) (p_lenL eI (a_town ++ [(0 : Int)])))) (ea_val rfl (EV.ef rfl (ev_varF rfl)) ea_nil))) (t_law_mixed_v2 (by omega) a_script ((a_town ++ [(0 : Int)]).length : Int) a_many (And.right h)) rfl rfl rfl) (Imp.rt le_rfl (sb_cons le_any (sb_cons le_rfl (sb_cons le_any sb_nil)))))) (fun z => Imp.rt le_rfl sb_rfl)
def n_law_pick_v2 (a_script : (List Int)) (a_town : (List Int)) (a_some : (List (List Int))) : ((List Int) × (List Int)) := bnd (n_law_draw_v2 a_script a_town (a_some.length : Int)) fun c_1 => ((atI a_some c_1.1), c_1.2)
def n_law_pick_v2_ok (a_script : (List Int)) (a_town : (List Int)) (a_some : (List (List Int))) : Prop := (n_law_draw_v2_ok a_script a_town (a_some.length : Int)) ∧ (bnd (n_law_draw_v2 a_script a_town (a_some.length : Int)) fun c_1 => 0 ≤ c_1.1 ∧ c_1.1 < a_some.length)
@[reducible] def O_law_pick_v2 (z : ((List Int) × (List Int))) : O := .rt (Sp.fr ((eT eI) z.1)) [Sp.nn, (Sp.ow (List.map eI z.2)), Sp.nn]
theorem t_law_pick_v2 {k : Nat} (hk : 4 ≤ k) (a_script : (List Int)) (a_town : (List Int)) (a_some : (List (List Int))) (h : n_law_pick_v2_ok a_script a_town a_some) : CallO (run U k) 75 [(Sp.fr ((eL eI) a_script)), (Sp.ow (List.map eI a_town)), (Sp.fr ((eL (eT eI)) a_some))] O_law_pick_v2 (n_law_pick_v2 a_script a_town a_some) := by
  cases k with
  | zero => exact absurd hk (by omega)
  | succ k => exact fn_of (d := d_law_pick_v2) rfl rfl (A0 := [(Sp.fr ((eL eI) a_script)), (Sp.ow (List.map eI a_town)), (Sp.fr ((eL (eT eI)) a_some))]) (OB := (fun z : ((List Int) × (List Int)) => O.rt (Sp.fr ((eT eI) z.1)) [Sp.any, (Sp.ow (List.map eI z.2)), Sp.any])) rfl (xt_bnd fun c_1 e_c_1 => (xt_ret rfl (ev_primF (eo_var rfl rfl (eo_val rfl (EV.ef rfl (ev_callS (OF := O_law_draw_v2) (n := c_1) (A2 := [(Sp.fr ((eL eI) a_script)), (Sp.ow (List.map eI c_1.2)), (Sp.fr ((eL (eT eI)) a_some))]) (ea_val rfl (EV.ef rfl (ev_varF rfl)) (ea_slot rfl rfl rfl (ea_val rfl (EV.ef rfl (ev_primF (eo_var rfl rfl eo_nil rfl rfl) (p_lenL (eT eI) a_some))) ea_nil))) (CallO.eq e_c_1 (t_law_draw_v2 (by omega) a_script a_town (a_some.length : Int) (And.left h))) rfl rfl rfl)) eo_nil) rfl rfl) (p_itemL (eT eI) a_some c_1.1 (bnd_at (p := c_1) e_c_1 (And.right h)))) (Imp.rt le_rfl (sb_cons le_any (sb_cons le_rfl (sb_cons le_any sb_nil)))))) (fun z => Imp.rt le_rfl sb_rfl)
def n_law_world_v2 (a_script : (List Int)) (a_town : (List Int)) : ((List Int) × (List Int)) := bnd ([([(3 : Int), (3 : Int), (1 : Int)] : List Int), ([(2 : Int), (3 : Int), (2 : Int)] : List Int), ([(3 : Int), (2 : Int), (2 : Int)] : List Int), ([(2 : Int), (2 : Int), (2 : Int)] : List Int), ([(1 : Int), (2 : Int), (2 : Int)] : List Int), ([(2 : Int), (2 : Int), (1 : Int)] : List Int), ([(3 : Int), (2 : Int), (1 : Int)] : List Int), ([(2 : Int), (1 : Int), (3 : Int)] : List Int), ([(1 : Int), (1 : Int), (1 : Int)] : List Int)] : List (List Int)) fun some_1 => bnd (n_law_pick_v2 a_script a_town (some_1 ++ ([([(3 : Int), (3 : Int), (0 : Int)] : List Int), ([(2 : Int), (4 : Int), (1 : Int)] : List Int), ([(2 : Int), (3 : Int), (1 : Int)] : List Int), ([(3 : Int), (1 : Int), (2 : Int)] : List Int), ([(1 : Int), (3 : Int), (1 : Int)] : List Int), ([(2 : Int), (2 : Int), (2 : Int)] : List Int), ([(2 : Int), (3 : Int), (2 : Int)] : List Int)] : List (List Int)))) fun c_2 => (c_2.1, c_2.2)
def n_law_world_v2_ok (a_script : (List Int)) (a_town : (List Int)) : Prop := bnd ([([(3 : Int), (3 : Int), (1 : Int)] : List Int), ([(2 : Int), (3 : Int), (2 : Int)] : List Int), ([(3 : Int), (2 : Int), (2 : Int)] : List Int), ([(2 : Int), (2 : Int), (2 : Int)] : List Int), ([(1 : Int), (2 : Int), (2 : Int)] : List Int), ([(2 : Int), (2 : Int), (1 : Int)] : List Int), ([(3 : Int), (2 : Int), (1 : Int)] : List Int), ([(2 : Int), (1 : Int), (3 : Int)] : List Int), ([(1 : Int), (1 : Int), (1 : Int)] : List Int)] : List (List Int)) fun some_1 => (some_1.length + ([([(3 : Int), (3 : Int), (0 : Int)] : List Int), ([(2 : Int), (4 : Int), (1 : Int)] : List Int), ([(2 : Int), (3 : Int), (1 : Int)] : List Int), ([(3 : Int), (1 : Int), (2 : Int)] : List Int), ([(1 : Int), (3 : Int), (1 : Int)] : List Int), ([(2 : Int), (2 : Int), (2 : Int)] : List Int), ([(2 : Int), (3 : Int), (2 : Int)] : List Int)] : List (List Int)).length ≤ PySem.sizeLine) ∧ (n_law_pick_v2_ok a_script a_town (some_1 ++ ([([(3 : Int), (3 : Int), (0 : Int)] : List Int), ([(2 : Int), (4 : Int), (1 : Int)] : List Int), ([(2 : Int), (3 : Int), (1 : Int)] : List Int), ([(3 : Int), (1 : Int), (2 : Int)] : List Int), ([(1 : Int), (3 : Int), (1 : Int)] : List Int), ([(2 : Int), (2 : Int), (2 : Int)] : List Int), ([(2 : Int), (3 : Int), (2 : Int)] : List Int)] : List (List Int))))
@[reducible] def O_law_world_v2 (z : ((List Int) × (List Int))) : O := .rt (Sp.fr ((eT eI) z.1)) [Sp.nn, (Sp.ow (List.map eI z.2))]
theorem t_law_world_v2 {k : Nat} (hk : 5 ≤ k) (a_script : (List Int)) (a_town : (List Int)) (h : n_law_world_v2_ok a_script a_town) : CallO (run U k) 76 [(Sp.fr ((eL eI) a_script)), (Sp.ow (List.map eI a_town))] O_law_world_v2 (n_law_world_v2 a_script a_town) := by
  cases k with
  | zero => exact absurd hk (by omega)
  | succ k => exact fn_of (d := d_law_world_v2) rfl rfl (A0 := [(Sp.fr ((eL eI) a_script)), (Sp.ow (List.map eI a_town)), Sp.nn]) (OB := (fun z : ((List Int) × (List Int)) => O.rt (Sp.fr ((eT eI) z.1)) [Sp.any, (Sp.ow (List.map eI z.2)), Sp.any])) rfl (xt_asgB (S := fun z : (List (List Int)) => (Sp.ow (List.map (eT eI) z))) (ev_lst (es_cons (EV.ef rfl (ev_tup (es_cons (EV.ef rfl ev_cst) (es_cons (EV.ef rfl ev_cst) (es_cons (EV.ef rfl ev_cst) es_nil))))) (es_cons (EV.ef rfl (ev_tup (es_cons (EV.ef rfl ev_cst) (es_cons (EV.ef rfl ev_cst) (es_cons (EV.ef rfl ev_cst) es_nil))))) (es_cons (EV.ef rfl (ev_tup (es_cons (EV.ef rfl ev_cst) (es_cons (EV.ef rfl ev_cst) (es_cons (EV.ef rfl ev_cst) es_nil))))) (es_cons (EV.ef rfl (ev_tup (es_cons (EV.ef rfl ev_cst) (es_cons (EV.ef rfl ev_cst) (es_cons (EV.ef rfl ev_cst) es_nil))))) (es_cons (EV.ef rfl (ev_tup (es_cons (EV.ef rfl ev_cst) (es_cons (EV.ef rfl ev_cst) (es_cons (EV.ef rfl ev_cst) es_nil))))) (es_cons (EV.ef rfl (ev_tup (es_cons (EV.ef rfl ev_cst) (es_cons (EV.ef rfl ev_cst) (es_cons (EV.ef rfl ev_cst) es_nil))))) (es_cons (EV.ef rfl (ev_tup (es_cons (EV.ef rfl ev_cst) (es_cons (EV.ef rfl ev_cst) (es_cons (EV.ef rfl ev_cst) es_nil))))) (es_cons (EV.ef rfl (ev_tup (es_cons (EV.ef rfl ev_cst) (es_cons (EV.ef rfl ev_cst) (es_cons (EV.ef rfl ev_cst) es_nil))))) (es_cons (EV.ef rfl (ev_tup (es_cons (EV.ef rfl ev_cst) (es_cons (EV.ef rfl ev_cst) (es_cons (EV.ef rfl ev_cst) es_nil))))) es_nil)))))))))) fun some_1 e_some_1 => (xt_bnd fun c_2 e_c_2 => (xt_ret rfl (ev_callS (OF := O_law_pick_v2) (n := c_2) (A2 := [(Sp.fr ((eL eI) a_script)), (Sp.ow (List.map eI c_2.2)), (Sp.ow (List.map (eT eI) some_1))]) (ea_val rfl (EV.ef rfl (ev_varF rfl)) (ea_slot rfl rfl rfl (ea_val rfl (EV.ef rfl (ev_primO (eo_var rfl rfl (eo_val rfl (EV.ef rfl (ev_lst (es_cons (EV.ef rfl (ev_tup (es_cons (EV.ef rfl ev_cst) (es_cons (EV.ef rfl ev_cst) (es_cons (EV.ef rfl ev_cst) es_nil))))) (es_cons (EV.ef rfl (ev_tup (es_cons (EV.ef rfl ev_cst) (es_cons (EV.ef rfl ev_cst) (es_cons (EV.ef rfl ev_cst) es_nil))))) (es_cons (EV.ef rfl (ev_tup (es_cons (EV.ef rfl ev_cst) (es_cons (EV.ef rfl ev_cst) (es_cons (EV.ef rfl ev_cst) es_nil))))) (es_cons (EV.ef rfl (ev_tup (es_cons (EV.ef rfl ev_cst) (es_cons (EV.ef rfl ev_cst) (es_cons (EV.ef rfl ev_cst) es_nil))))) (es_cons (EV.ef rfl (ev_tup (es_cons (EV.ef rfl ev_cst) (es_cons (EV.ef rfl ev_cst) (es_cons (EV.ef rfl ev_cst) es_nil))))) (es_cons (EV.ef rfl (ev_tup (es_cons (EV.ef rfl ev_cst) (es_cons (EV.ef rfl ev_cst) (es_cons (EV.ef rfl ev_cst) es_nil))))) (es_cons (EV.ef rfl (ev_tup (es_cons (EV.ef rfl ev_cst) (es_cons (EV.ef rfl ev_cst) (es_cons (EV.ef rfl ev_cst) es_nil))))) es_nil))))))))) eo_nil) rfl rfl) (p_addL (eT eI) some_1 ([([(3 : Int), (3 : Int), (0 : Int)] : List Int), ([(2 : Int), (4 : Int), (1 : Int)] : List Int), ([(2 : Int), (3 : Int), (1 : Int)] : List Int), ([(3 : Int), (1 : Int), (2 : Int)] : List Int), ([(1 : Int), (3 : Int), (1 : Int)] : List Int), ([(2 : Int), (2 : Int), (2 : Int)] : List Int), ([(2 : Int), (3 : Int), (2 : Int)] : List Int)] : List (List Int)) (And.left (bnd_at (p := some_1) e_some_1 h))))) ea_nil))) (CallO.eq e_c_2 (t_law_pick_v2 (by omega) a_script a_town (some_1 ++ ([([(3 : Int), (3 : Int), (0 : Int)] : List Int), ([(2 : Int), (4 : Int), (1 : Int)] : List Int), ([(2 : Int), (3 : Int), (1 : Int)] : List Int), ([(3 : Int), (1 : Int), (2 : Int)] : List Int), ([(1 : Int), (3 : Int), (1 : Int)] : List Int), ([(2 : Int), (2 : Int), (2 : Int)] : List Int), ([(2 : Int), (3 : Int), (2 : Int)] : List Int)] : List (List Int))) (And.right (bnd_at (p := some_1) e_some_1 h)))) rfl rfl rfl) (Imp.rt le_rfl (sb_cons le_any (sb_cons le_rfl (sb_cons le_any sb_nil))))))) (fun z => Imp.rt le_rfl sb_rfl)
def n_law_picks (a_many : Int) (a_size : Int) : (List (List Int)) := bnd ([([] : List Int)] : List (List Int)) fun rows_1 => bnd (List.foldl (fun (s_2 : (List (List Int))) (turn_3 : Int) => bnd ([] : List (List Int)) fun longer_4 => bnd (List.foldl (fun (s_5 : (List (List Int))) (row_6 : (List Int)) => (s_5 ++ (List.map (fun card_7 : Int => (row_6 ++ ([card_7] : List Int))) (List.filter (fun card_7 : Int => ((decide (row_6 = ([] : List Int))) || (decide (card_7 > (List.getLastD row_6 default))))) (rangeI a_many))))) longer_4 s_2) fun l_8 => l_8) rows_1 (rangeI a_size)) fun l_9 => l_9
def n_law_picks_ok (a_many : Int) (a_size : Int) : Prop := bnd ([([] : List Int)] : List (List Int)) fun rows_1 => (-100000 ≤ a_size ∧ a_size ≤ 100000) ∧ (foldOk (fun (s_2 : (List (List Int))) (turn_3 : Int) => bnd ([] : List (List Int)) fun longer_4 => bnd (List.foldl (fun (s_5 : (List (List Int))) (row_6 : (List Int)) => (s_5 ++ (List.map (fun card_7 : Int => (row_6 ++ ([card_7] : List Int))) (List.filter (fun card_7 : Int => ((decide (row_6 = ([] : List Int))) || (decide (card_7 > (List.getLastD row_6 default))))) (rangeI a_many))))) longer_4 s_2) fun l_8 => l_8) (fun (s_2 : (List (List Int))) (turn_3 : Int) => bnd ([] : List (List Int)) fun longer_4 => foldOk (fun (s_5 : (List (List Int))) (row_6 : (List Int)) => (s_5 ++ (List.map (fun card_7 : Int => (row_6 ++ ([card_7] : List Int))) (List.filter (fun card_7 : Int => ((decide (row_6 = ([] : List Int))) || (decide (card_7 > (List.getLastD row_6 default))))) (rangeI a_many))))) (fun (s_5 : (List (List Int))) (row_6 : (List Int)) => (-100000 ≤ a_many ∧ a_many ≤ 100000) ∧ (∀ card_7 ∈ (rangeI a_many), ((decide (row_6 = ([] : List Int))) = false → row_6 ≠ []) ∧ (((decide (row_6 = ([] : List Int))) || (decide (card_7 > (List.getLastD row_6 default)))) = true → row_6.length + ([card_7] : List Int).length ≤ PySem.sizeLine)) ∧ (s_5.length + (List.map (fun card_7 : Int => (row_6 ++ ([card_7] : List Int))) (List.filter (fun card_7 : Int => ((decide (row_6 = ([] : List Int))) || (decide (card_7 > (List.getLastD row_6 default))))) (rangeI a_many))).length ≤ PySem.sizeLine)) s_2 longer_4) (rangeI a_size) rows_1)
@[reducible] def O_law_picks (z : (List (List Int))) : O := .rt (Sp.va ((eL (eT eI)) z)) [Sp.nn, Sp.nn]
theorem t_law_picks {k : Nat} (hk : 1 ≤ k) (a_many : Int) (a_size : Int) (h : n_law_picks_ok a_many a_size) : CallO (run U k) 77 [(Sp.fr (eI a_many)), (Sp.fr (eI a_size))] O_law_picks (n_law_picks a_many a_size) := by
  cases k with
  | zero => exact absurd hk (by omega)
  | succ k => exact fn_of (d := d_law_picks) rfl rfl (A0 := [(Sp.fr (eI a_many)), (Sp.fr (eI a_size)), Sp.nn, Sp.nn, Sp.nn, Sp.nn, Sp.nn]) (OB := (fun z : (List (List Int)) => O.rt (Sp.va ((eL (eT eI)) z)) [Sp.any, Sp.any, Sp.any, Sp.any, Sp.any, Sp.any, Sp.any])) rfl (xt_asgB (S := fun z : (List (List Int)) => (Sp.ow (List.map (eT eI) z))) (ev_lst (es_cons (EV.ef rfl (ev_tup es_nil)) es_nil)) fun rows_1 e_rows_1 => (xt_for (AH := (fun s_2 : (List (List Int)) => [(Sp.fr (eI a_many)), (Sp.fr (eI a_size)), (Sp.va ((eL (eT eI)) s_2)), Sp.nn, Sp.any, Sp.any, Sp.nn])) (f := (fun (s_2 : (List (List Int))) (turn_3 : Int) => bnd ([] : List (List Int)) fun longer_4 => bnd (List.foldl (fun (s_5 : (List (List Int))) (row_6 : (List Int)) => (s_5 ++ (List.map (fun card_7 : Int => (row_6 ++ ([card_7] : List Int))) (List.filter (fun card_7 : Int => ((decide (row_6 = ([] : List Int))) || (decide (card_7 > (List.getLastD row_6 default))))) (rangeI a_many))))) longer_4 s_2) fun l_8 => l_8)) (p := (fun (s_2 : (List (List Int))) (turn_3 : Int) => bnd ([] : List (List Int)) fun longer_4 => foldOk (fun (s_5 : (List (List Int))) (row_6 : (List Int)) => (s_5 ++ (List.map (fun card_7 : Int => (row_6 ++ ([card_7] : List Int))) (List.filter (fun card_7 : Int => ((decide (row_6 = ([] : List Int))) || (decide (card_7 > (List.getLastD row_6 default))))) (rangeI a_many))))) (fun (s_5 : (List (List Int))) (row_6 : (List Int)) => (-100000 ≤ a_many ∧ a_many ≤ 100000) ∧ (∀ card_7 ∈ (rangeI a_many), ((decide (row_6 = ([] : List Int))) = false → row_6 ≠ []) ∧ (((decide (row_6 = ([] : List Int))) || (decide (card_7 > (List.getLastD row_6 default)))) = true → row_6.length + ([card_7] : List Int).length ≤ PySem.sizeLine)) ∧ (s_5.length + (List.map (fun card_7 : Int => (row_6 ++ ([card_7] : List Int))) (List.filter (fun card_7 : Int => ((decide (row_6 = ([] : List Int))) || (decide (card_7 > (List.getLastD row_6 default))))) (rangeI a_many))).length ≤ PySem.sizeLine)) s_2 longer_4)) (ei_rng1 (EV.ef rfl (ev_varF rfl)) (And.left (bnd_at (p := rows_1) e_rows_1 h))) (sb_cons le_rfl (sb_cons le_rfl (sb_cons (le_va rfl) (sb_cons (le_nn rfl) (sb_cons le_any (sb_cons le_any (sb_cons le_rfl sb_nil))))))) (And.right (bnd_at (p := rows_1) e_rows_1 h)) (fun s_2 turn_3 _ h_1557 => ⟨_, rfl, (xt_asgB (S := fun z : (List (List Int)) => (Sp.ow (List.map (eT eI) z))) (ev_lst es_nil) fun longer_4 e_longer_4 => (xt_for (AH := (fun s_5 : (List (List Int)) => [(Sp.fr (eI a_many)), (Sp.fr (eI a_size)), (Sp.va ((eL (eT eI)) s_2)), (Sp.fr (eI turn_3)), (Sp.ow (List.map (eT eI) s_5)), Sp.any, Sp.nn])) (f := (fun (s_5 : (List (List Int))) (row_6 : (List Int)) => (s_5 ++ (List.map (fun card_7 : Int => (row_6 ++ ([card_7] : List Int))) (List.filter (fun card_7 : Int => ((decide (row_6 = ([] : List Int))) || (decide (card_7 > (List.getLastD row_6 default))))) (rangeI a_many)))))) (p := (fun (s_5 : (List (List Int))) (row_6 : (List Int)) => (-100000 ≤ a_many ∧ a_many ≤ 100000) ∧ (∀ card_7 ∈ (rangeI a_many), ((decide (row_6 = ([] : List Int))) = false → row_6 ≠ []) ∧ (((decide (row_6 = ([] : List Int))) || (decide (card_7 > (List.getLastD row_6 default)))) = true → row_6.length + ([card_7] : List Int).length ≤ PySem.sizeLine)) ∧ (s_5.length + (List.map (fun card_7 : Int => (row_6 ++ ([card_7] : List Int))) (List.filter (fun card_7 : Int => ((decide (row_6 = ([] : List Int))) || (decide (card_7 > (List.getLastD row_6 default))))) (rangeI a_many))).length ≤ PySem.sizeLine))) (ei_seqL (ex := (eT eI)) (xs := s_2) (EV.ef rfl (ev_varV rfl))) (sb_cons le_rfl (sb_cons le_rfl (sb_cons le_rfl (sb_cons le_rfl (sb_cons le_rfl (sb_cons le_any (sb_cons le_rfl sb_nil))))))) (bnd_at (p := longer_4) e_longer_4 h_1557) (fun s_5 row_6 _ h_1559 => ⟨_, rfl, (xt_ex (ev_extT (eT eI) s_5 (List.map (fun card_7 : Int => (row_6 ++ ([card_7] : List Int))) (List.filter (fun card_7 : Int => ((decide (row_6 = ([] : List Int))) || (decide (card_7 > (List.getLastD row_6 default))))) (rangeI a_many))) rfl (ev_comp (c := fun card_7 : Int => ((decide (row_6 = ([] : List Int))) || (decide (card_7 > (List.getLastD row_6 default))))) (f := fun card_7 : Int => (row_6 ++ ([card_7] : List Int))) (ey := (eT eI)) (ei_rng1 (EV.ef rfl (ev_varF rfl)) (And.left h_1559)) rfl (fun card_7 m_1560 => ⟨_, rfl, (eb_or (EV.eb rfl (ev_primF (eo_var rfl rfl (eo_val rfl (EV.ef rfl (ev_tup es_nil)) eo_nil) rfl rfl) (p_eq (eT eI) row_6 ([] : List Int)))) fun h_1563 => (EV.eb rfl (ev_primF (eo_var rfl rfl (eo_val rfl (EV.ef rfl (ev_primF (eo_var rfl rfl (eo_val rfl (EV.ef rfl ev_cst) eo_nil) rfl rfl) (p_lastT eI row_6 ((And.left ((And.left (And.right h_1559)) card_7 m_1560)) h_1563)))) eo_nil) rfl rfl) (p_gtI card_7 (List.getLastD row_6 default))))), fun h_1566 => (EV.ef rfl (ev_primF (eo_var rfl rfl (eo_val rfl (EV.ef rfl (ev_tup (es_cons (EV.ef rfl (ev_varF rfl)) es_nil))) eo_nil) rfl rfl) (p_addT eI row_6 ([card_7] : List Int) ((And.right ((And.left (And.right h_1559)) card_7 m_1560)) h_1566)))), sb_rfl⟩) sb_rfl) rfl (And.right (And.right h_1559))) (xt_nil (Imp.nx (sb_cons le_rfl (sb_cons le_rfl (sb_cons le_rfl (sb_cons le_rfl (sb_cons le_rfl (sb_cons le_any (sb_cons le_rfl sb_nil))))))))))⟩) fun l_8 e_l_8 => (xt_asg (ev_varO rfl) (xt_nil (Imp.nx (sb_cons le_rfl (sb_cons le_rfl (sb_cons (le_va rfl) (sb_cons (le_nn rfl) (sb_cons le_any (sb_cons le_any (sb_cons le_rfl sb_nil))))))))))))⟩) fun l_9 e_l_9 => (xt_retV rfl rfl (Imp.rt le_rfl (sb_cons le_any (sb_cons le_any (sb_cons le_any (sb_cons le_any (sb_cons le_any (sb_cons le_any (sb_cons le_any sb_nil))))))))))) (fun z => Imp.rt le_rfl sb_rfl)
def n_law_line_v2 (a_script : (List Int)) (a_town : (List Int)) (a_many : Int) (a_size : Int) (a_most : Int) : ((List (List Int)) × (List Int)) := bnd (n_law_picks a_many a_size) fun hands_1 => bnd (if (decide (a_many = (7 : Int))) = true then (bnd (if (decide (a_size = (3 : Int))) = true then (bnd (n_law_draw_v2 a_script a_town (3 : Int)) fun c_2 => ((decide (c_2.1 = (0 : Int))), c_2.2) : Bool × ((List Int))) else (false, a_town)) fun q_3 => (q_3.1, q_3.2) : Bool × ((List Int))) else (false, a_town)) fun q_4 => (if q_4.1 = true then bnd ([([(0 : Int), (1 : Int), (2 : Int)] : List Int), ([(0 : Int), (3 : Int), (4 : Int)] : List Int), ([(0 : Int), (5 : Int), (6 : Int)] : List Int), ([(1 : Int), (3 : Int), (5 : Int)] : List Int), ([(1 : Int), (4 : Int), (6 : Int)] : List Int), ([(2 : Int), (3 : Int), (6 : Int)] : List Int), ([(2 : Int), (4 : Int), (5 : Int)] : List Int)] : List (List Int)) fun seven_5 => bnd (n_law_draw_v2 a_script q_4.2 (2 : Int)) fun c_6 => bnd (n_law_draw_v2 a_script c_6.2 (2 : Int)) fun c_7 => ((List.drop (Int.toNat c_6.1) (List.take (Int.toNat ((7 : Int) - c_7.1)) seven_5)), c_7.2) else bnd (n_law_draw_v2 a_script q_4.2 a_most) fun c_8 => bnd (mapS (fun (t_11 : (List Int)) (k_12 : Int) => bnd (n_law_pick_v2 a_script t_11 hands_1) fun c_13 => (c_13.1, c_13.2)) (rangeI ((1 : Int) + c_8.1)) c_8.2) fun r_14 => ((setSort r_14.1), r_14.2))
def n_law_line_v2_ok (a_script : (List Int)) (a_town : (List Int)) (a_many : Int) (a_size : Int) (a_most : Int) : Prop := (n_law_picks_ok a_many a_size) ∧ (bnd (n_law_picks a_many a_size) fun hands_1 => ((decide (a_many = (7 : Int))) = true → (decide (a_size = (3 : Int))) = true → n_law_draw_v2_ok a_script a_town (3 : Int)) ∧ (bnd (if (decide (a_many = (7 : Int))) = true then (bnd (if (decide (a_size = (3 : Int))) = true then (bnd (n_law_draw_v2 a_script a_town (3 : Int)) fun c_2 => ((decide (c_2.1 = (0 : Int))), c_2.2) : Bool × ((List Int))) else (false, a_town)) fun q_3 => (q_3.1, q_3.2) : Bool × ((List Int))) else (false, a_town)) fun q_4 => (q_4.1 = true → bnd ([([(0 : Int), (1 : Int), (2 : Int)] : List Int), ([(0 : Int), (3 : Int), (4 : Int)] : List Int), ([(0 : Int), (5 : Int), (6 : Int)] : List Int), ([(1 : Int), (3 : Int), (5 : Int)] : List Int), ([(1 : Int), (4 : Int), (6 : Int)] : List Int), ([(2 : Int), (3 : Int), (6 : Int)] : List Int), ([(2 : Int), (4 : Int), (5 : Int)] : List Int)] : List (List Int)) fun seven_5 => (n_law_draw_v2_ok a_script q_4.2 (2 : Int)) ∧ (bnd (n_law_draw_v2 a_script q_4.2 (2 : Int)) fun c_6 => (n_law_draw_v2_ok a_script c_6.2 (2 : Int)) ∧ (bnd (n_law_draw_v2 a_script c_6.2 (2 : Int)) fun c_7 => (0 ≤ c_6.1) ∧ (0 ≤ ((7 : Int) - c_7.1))))) ∧ (q_4.1 = false → (n_law_draw_v2_ok a_script q_4.2 a_most) ∧ (bnd (n_law_draw_v2 a_script q_4.2 a_most) fun c_8 => (-100000 ≤ ((1 : Int) + c_8.1) ∧ ((1 : Int) + c_8.1) ≤ 100000) ∧ (mapOk (fun (t_11 : (List Int)) (k_12 : Int) => bnd (n_law_pick_v2 a_script t_11 hands_1) fun c_13 => (c_13.1, c_13.2)) (fun (t_11 : (List Int)) (k_12 : Int) => n_law_pick_v2_ok a_script t_11 hands_1) (rangeI ((1 : Int) + c_8.1)) c_8.2) ∧ (bnd (mapS (fun (t_11 : (List Int)) (k_12 : Int) => bnd (n_law_pick_v2 a_script t_11 hands_1) fun c_13 => (c_13.1, c_13.2)) (rangeI ((1 : Int) + c_8.1)) c_8.2) fun r_14 => setOk r_14.1 = true)))))
@[reducible] def O_law_line_v2 (z : ((List (List Int)) × (List Int))) : O := .rt (Sp.fr ((eT (eT eI)) z.1)) [Sp.nn, (Sp.ow (List.map eI z.2)), Sp.nn, Sp.nn, Sp.nn]
theorem t_law_line_v2 {k : Nat} (hk : 5 ≤ k) (a_script : (List Int)) (a_town : (List Int)) (a_many : Int) (a_size : Int) (a_most : Int) (h : n_law_line_v2_ok a_script a_town a_many a_size a_most) : CallO (run U k) 78 [(Sp.fr ((eL eI) a_script)), (Sp.ow (List.map eI a_town)), (Sp.fr (eI a_many)), (Sp.fr (eI a_size)), (Sp.fr (eI a_most))] O_law_line_v2 (n_law_line_v2 a_script a_town a_many a_size a_most) := by
  cases k with
  | zero => exact absurd hk (by omega)
  | succ k => exact fn_of (d := d_law_line_v2) rfl rfl (A0 := [(Sp.fr ((eL eI) a_script)), (Sp.ow (List.map eI a_town)), (Sp.fr (eI a_many)), (Sp.fr (eI a_size)), (Sp.fr (eI a_most)), Sp.nn, Sp.nn, Sp.nn, Sp.nn]) (OB := (fun z : ((List (List Int)) × (List Int)) => O.rt (Sp.fr ((eT (eT eI)) z.1)) [Sp.any, (Sp.ow (List.map eI z.2)), Sp.any, Sp.any, Sp.any, Sp.any, Sp.any, Sp.any, Sp.any])) rfl (xt_asgB (S := fun z : (List (List Int)) => (Sp.va ((eL (eT eI)) z))) (ev_callP (OF := O_law_picks) (n := (n_law_picks a_many a_size)) (ea_val rfl (EV.ef rfl (ev_varF rfl)) (ea_val rfl (EV.ef rfl (ev_varF rfl)) ea_nil)) (t_law_picks (by omega) a_many a_size (And.left h)) rfl rfl rfl) fun hands_1 e_hands_1 => (xt_bnd fun q_4 e_q_4 => (xt_if (eb_at (S := fun z : Bool × ((List Int)) => z.1) (T := fun z => (fun z_1574 : (List Int) => [(Sp.fr ((eL eI) a_script)), (Sp.ow (List.map eI z_1574)), (Sp.fr (eI a_many)), (Sp.fr (eI a_size)), (Sp.fr (eI a_most)), (Sp.va ((eL (eT eI)) hands_1)), Sp.nn, Sp.nn, Sp.nn]) z.2) e_q_4 (eb_andN (T := (fun z_1574 : (List Int) => [(Sp.fr ((eL eI) a_script)), (Sp.ow (List.map eI z_1574)), (Sp.fr (eI a_many)), (Sp.fr (eI a_size)), (Sp.fr (eI a_most)), (Sp.va ((eL (eT eI)) hands_1)), Sp.nn, Sp.nn, Sp.nn])) (EV.eb rfl (ev_primF (eo_var rfl rfl (eo_val rfl (EV.ef rfl ev_cst) eo_nil) rfl rfl) (p_eq eI a_many (7 : Int)))) (fun h_1574 => (ebn_bnd fun q_3 e_q_3 => (eb_at (S := fun z : Bool × ((List Int)) => z.1) (T := fun z => (fun z_1577 : (List Int) => [(Sp.fr ((eL eI) a_script)), (Sp.ow (List.map eI z_1577)), (Sp.fr (eI a_many)), (Sp.fr (eI a_size)), (Sp.fr (eI a_most)), (Sp.va ((eL (eT eI)) hands_1)), Sp.nn, Sp.nn, Sp.nn]) z.2) e_q_3 (eb_andN (T := (fun z_1577 : (List Int) => [(Sp.fr ((eL eI) a_script)), (Sp.ow (List.map eI z_1577)), (Sp.fr (eI a_many)), (Sp.fr (eI a_size)), (Sp.fr (eI a_most)), (Sp.va ((eL (eT eI)) hands_1)), Sp.nn, Sp.nn, Sp.nn])) (EV.eb rfl (ev_primF (eo_var rfl rfl (eo_val rfl (EV.ef rfl ev_cst) eo_nil) rfl rfl) (p_eq eI a_size (3 : Int)))) (fun h_1577 => (ebn_bnd fun c_2 e_c_2 => (EV.eb rfl (ev_primF (eo_val rfl (EV.ef rfl (ev_callS (OF := O_law_draw_v2) (n := c_2) (A2 := [(Sp.fr ((eL eI) a_script)), (Sp.ow (List.map eI c_2.2)), (Sp.fr (eI a_many)), (Sp.fr (eI a_size)), (Sp.fr (eI a_most)), (Sp.va ((eL (eT eI)) hands_1)), Sp.nn, Sp.nn, Sp.nn]) (ea_val rfl (EV.ef rfl (ev_varF rfl)) (ea_slot rfl rfl rfl (ea_val rfl (EV.ef rfl ev_cst) ea_nil))) (CallO.eq e_c_2 (t_law_draw_v2 (by omega) a_script a_town (3 : Int) (((And.left (bnd_at (p := hands_1) e_hands_1 (And.right h))) h_1574) h_1577))) rfl rfl rfl)) (eo_val rfl (EV.ef rfl ev_cst) eo_nil)) (p_eq eI c_2.1 (0 : Int)))))) rfl sb_rfl)))) rfl sb_rfl)) (fun h_1584 => (xt_asgB (S := fun z : (List (List Int)) => (Sp.ow (List.map (eT eI) z))) (ev_lst (es_cons (EV.ef rfl (ev_tup (es_cons (EV.ef rfl ev_cst) (es_cons (EV.ef rfl ev_cst) (es_cons (EV.ef rfl ev_cst) es_nil))))) (es_cons (EV.ef rfl (ev_tup (es_cons (EV.ef rfl ev_cst) (es_cons (EV.ef rfl ev_cst) (es_cons (EV.ef rfl ev_cst) es_nil))))) (es_cons (EV.ef rfl (ev_tup (es_cons (EV.ef rfl ev_cst) (es_cons (EV.ef rfl ev_cst) (es_cons (EV.ef rfl ev_cst) es_nil))))) (es_cons (EV.ef rfl (ev_tup (es_cons (EV.ef rfl ev_cst) (es_cons (EV.ef rfl ev_cst) (es_cons (EV.ef rfl ev_cst) es_nil))))) (es_cons (EV.ef rfl (ev_tup (es_cons (EV.ef rfl ev_cst) (es_cons (EV.ef rfl ev_cst) (es_cons (EV.ef rfl ev_cst) es_nil))))) (es_cons (EV.ef rfl (ev_tup (es_cons (EV.ef rfl ev_cst) (es_cons (EV.ef rfl ev_cst) (es_cons (EV.ef rfl ev_cst) es_nil))))) (es_cons (EV.ef rfl (ev_tup (es_cons (EV.ef rfl ev_cst) (es_cons (EV.ef rfl ev_cst) (es_cons (EV.ef rfl ev_cst) es_nil))))) es_nil)))))))) fun seven_5 e_seven_5 => (xt_bnd fun c_6 e_c_6 => (xt_bnd fun c_7 e_c_7 => (xt_ret rfl (ev_primF (eo_val rfl (EV.ef rfl (ev_sl2vO rfl rfl (EV.ef rfl (ev_callS (OF := O_law_draw_v2) (n := c_6) (A2 := [(Sp.fr ((eL eI) a_script)), (Sp.ow (List.map eI c_6.2)), (Sp.fr (eI a_many)), (Sp.fr (eI a_size)), (Sp.fr (eI a_most)), (Sp.va ((eL (eT eI)) hands_1)), Sp.nn, (Sp.ow (List.map (eT eI) seven_5)), Sp.nn]) (ea_val rfl (EV.ef rfl (ev_varF rfl)) (ea_slot rfl rfl rfl (ea_val rfl (EV.ef rfl ev_cst) ea_nil))) (CallO.eq e_c_6 (t_law_draw_v2 (by omega) a_script q_4.2 (2 : Int) (And.left (bnd_at (p := seven_5) e_seven_5 ((And.left (bnd_at (p := q_4) e_q_4 (And.right (bnd_at (p := hands_1) e_hands_1 (And.right h))))) h_1584))))) rfl rfl rfl)) (EV.ef rfl (ev_primF (eo_val rfl (EV.ef rfl ev_cst) (eo_val rfl (EV.ef rfl (ev_callS (OF := O_law_draw_v2) (n := c_7) (A2 := [(Sp.fr ((eL eI) a_script)), (Sp.ow (List.map eI c_7.2)), (Sp.fr (eI a_many)), (Sp.fr (eI a_size)), (Sp.fr (eI a_most)), (Sp.va ((eL (eT eI)) hands_1)), Sp.nn, (Sp.ow (List.map (eT eI) seven_5)), Sp.nn]) (ea_val rfl (EV.ef rfl (ev_varF rfl)) (ea_slot rfl rfl rfl (ea_val rfl (EV.ef rfl ev_cst) ea_nil))) (CallO.eq e_c_7 (t_law_draw_v2 (by omega) a_script c_6.2 (2 : Int) (And.left (bnd_at (p := c_6) e_c_6 (And.right (bnd_at (p := seven_5) e_seven_5 ((And.left (bnd_at (p := q_4) e_q_4 (And.right (bnd_at (p := hands_1) e_hands_1 (And.right h))))) h_1584))))))) rfl rfl rfl)) eo_nil)) (p_subI (7 : Int) c_7.1))) rfl rfl (p_sl2L (eT eI) seven_5 c_6.1 ((7 : Int) - c_7.1) (And.left (bnd_at (p := c_7) e_c_7 (And.right (bnd_at (p := c_6) e_c_6 (And.right (bnd_at (p := seven_5) e_seven_5 ((And.left (bnd_at (p := q_4) e_q_4 (And.right (bnd_at (p := hands_1) e_hands_1 (And.right h))))) h_1584))))))) (And.right (bnd_at (p := c_7) e_c_7 (And.right (bnd_at (p := c_6) e_c_6 (And.right (bnd_at (p := seven_5) e_seven_5 ((And.left (bnd_at (p := q_4) e_q_4 (And.right (bnd_at (p := hands_1) e_hands_1 (And.right h))))) h_1584)))))))))) eo_nil) (p_tupL (eT eI) (List.drop (Int.toNat c_6.1) (List.take (Int.toNat ((7 : Int) - c_7.1)) seven_5)))) (Imp.rt le_rfl (sb_cons le_any (sb_cons le_rfl (sb_cons le_any (sb_cons le_any (sb_cons le_any (sb_cons le_any (sb_cons le_any (sb_cons le_any (sb_cons le_any sb_nil))))))))))))))) (fun h_1591 => (xt_bnd fun c_8 e_c_8 => (xt_bnd fun r_14 e_r_14 => (xt_asg (ev_at (S := fun r_14 : List (List Int) × ((List Int)) => Sp.ow (List.map (eT eI) r_14.1)) (T := fun r_14 : List (List Int) × ((List Int)) => [(Sp.fr ((eL eI) a_script)), (Sp.ow (List.map eI r_14.2)), (Sp.fr (eI a_many)), (Sp.fr (eI a_size)), (Sp.fr (eI a_most)), (Sp.va ((eL (eT eI)) hands_1)), Sp.nn, Sp.nn, Sp.nn]) e_r_14 (ev_compM (T := (fun t_11 : (List Int) => [(Sp.fr ((eL eI) a_script)), (Sp.ow (List.map eI t_11)), (Sp.fr (eI a_many)), (Sp.fr (eI a_size)), (Sp.fr (eI a_most)), (Sp.va ((eL (eT eI)) hands_1)), Sp.nn, Sp.nn, Sp.nn])) (T2 := (fun (k_12 : Int) (t_11 : (List Int)) => [(Sp.fr ((eL eI) a_script)), (Sp.ow (List.map eI t_11)), (Sp.fr (eI a_many)), (Sp.fr (eI a_size)), (Sp.fr (eI a_most)), (Sp.va ((eL (eT eI)) hands_1)), Sp.nn, Sp.nn, (Sp.fr (eI k_12))])) (S := fun z : (List Int) => (Sp.fr ((eT eI) z))) (ey := (eT eI)) (g := (fun (t_11 : (List Int)) (k_12 : Int) => bnd (n_law_pick_v2 a_script t_11 hands_1) fun c_13 => (c_13.1, c_13.2))) (p := (fun (t_11 : (List Int)) (k_12 : Int) => n_law_pick_v2_ok a_script t_11 hands_1)) (ei_rng1 (EV.ef rfl (ev_primF (eo_val rfl (EV.ef rfl ev_cst) (eo_val rfl (EV.ef rfl (ev_callS (OF := O_law_draw_v2) (n := c_8) (A2 := [(Sp.fr ((eL eI) a_script)), (Sp.ow (List.map eI c_8.2)), (Sp.fr (eI a_many)), (Sp.fr (eI a_size)), (Sp.fr (eI a_most)), (Sp.va ((eL (eT eI)) hands_1)), Sp.nn, Sp.nn, Sp.nn]) (ea_val rfl (EV.ef rfl (ev_varF rfl)) (ea_slot rfl rfl rfl (ea_val rfl (EV.ef rfl (ev_varF rfl)) ea_nil))) (CallO.eq e_c_8 (t_law_draw_v2 (by omega) a_script q_4.2 a_most (And.left ((And.right (bnd_at (p := q_4) e_q_4 (And.right (bnd_at (p := hands_1) e_hands_1 (And.right h))))) h_1591)))) rfl rfl rfl)) eo_nil)) (p_addI (1 : Int) c_8.1))) (And.left (bnd_at (p := c_8) e_c_8 (And.right ((And.right (bnd_at (p := q_4) e_q_4 (And.right (bnd_at (p := hands_1) e_hands_1 (And.right h))))) h_1591))))) rfl sb_rfl (fun _ => rfl) (fun _ _ => sb_rfl) (And.left (And.right (bnd_at (p := c_8) e_c_8 (And.right ((And.right (bnd_at (p := q_4) e_q_4 (And.right (bnd_at (p := hands_1) e_hands_1 (And.right h))))) h_1591))))) (fun t_11 k_12 h_1597 => ⟨_, rfl, (evn_bnd fun c_13 e_c_13 => (ev_callS (OF := O_law_pick_v2) (n := c_13) (A2 := [(Sp.fr ((eL eI) a_script)), (Sp.ow (List.map eI c_13.2)), (Sp.fr (eI a_many)), (Sp.fr (eI a_size)), (Sp.fr (eI a_most)), (Sp.va ((eL (eT eI)) hands_1)), Sp.nn, Sp.nn, (Sp.fr (eI k_12))]) (ea_val rfl (EV.ef rfl (ev_varF rfl)) (ea_slot rfl rfl rfl (ea_val rfl (EV.ef rfl (ev_varV rfl)) ea_nil))) (CallO.eq e_c_13 (t_law_pick_v2 (by omega) a_script t_11 hands_1 h_1597)) rfl rfl rfl))⟩))) (xt_ret rfl (ev_primF (eo_val rfl (EV.ef rfl (ev_primO (eo_var rfl rfl eo_nil rfl rfl) (p_sortSet r_14.1 (bnd_at (p := r_14) e_r_14 (And.right (And.right (bnd_at (p := c_8) e_c_8 (And.right ((And.right (bnd_at (p := q_4) e_q_4 (And.right (bnd_at (p := hands_1) e_hands_1 (And.right h))))) h_1591))))))))) eo_nil) (p_tupL (eT eI) (setSort r_14.1))) (Imp.rt le_rfl (sb_cons le_any (sb_cons le_rfl (sb_cons le_any (sb_cons le_any (sb_cons le_any (sb_cons le_any (sb_cons le_any (sb_cons le_any (sb_cons le_any sb_nil)))))))))))))))))) (fun z => Imp.rt le_rfl sb_rfl)
def n_law_pick_v2_i2 (a_script : (List Int)) (a_town : (List Int)) (a_some : (List D)) : (D × (List Int)) := bnd (n_law_draw_v2 a_script a_town (a_some.length : Int)) fun c_1 => ((atI a_some c_1.1), c_1.2)
def n_law_pick_v2_i2_ok (a_script : (List Int)) (a_town : (List Int)) (a_some : (List D)) : Prop := (n_law_draw_v2_ok a_script a_town (a_some.length : Int)) ∧ (bnd (n_law_draw_v2 a_script a_town (a_some.length : Int)) fun c_1 => 0 ≤ c_1.1 ∧ c_1.1 < a_some.length)
@[reducible] def O_law_pick_v2_i2 (z : (D × (List Int))) : O := .rt (Sp.fr (eD z.1)) [Sp.nn, (Sp.ow (List.map eI z.2)), Sp.nn]
theorem t_law_pick_v2_i2 {k : Nat} (hk : 4 ≤ k) (a_script : (List Int)) (a_town : (List Int)) (a_some : (List D)) (h : n_law_pick_v2_i2_ok a_script a_town a_some) : CallO (run U k) 75 [(Sp.fr ((eL eI) a_script)), (Sp.ow (List.map eI a_town)), (Sp.fr ((eL eD) a_some))] O_law_pick_v2_i2 (n_law_pick_v2_i2 a_script a_town a_some) := by
  cases k with
  | zero => exact absurd hk (by omega)
  | succ k => exact fn_of (d := d_law_pick_v2) rfl rfl (A0 := [(Sp.fr ((eL eI) a_script)), (Sp.ow (List.map eI a_town)), (Sp.fr ((eL eD) a_some))]) (OB := (fun z : (D × (List Int)) => O.rt (Sp.fr (eD z.1)) [Sp.any, (Sp.ow (List.map eI z.2)), Sp.any])) rfl (xt_bnd fun c_1 e_c_1 => (xt_ret rfl (ev_primF (eo_var rfl rfl (eo_val rfl (EV.ef rfl (ev_callS (OF := O_law_draw_v2) (n := c_1) (A2 := [(Sp.fr ((eL eI) a_script)), (Sp.ow (List.map eI c_1.2)), (Sp.fr ((eL eD) a_some))]) (ea_val rfl (EV.ef rfl (ev_varF rfl)) (ea_slot rfl rfl rfl (ea_val rfl (EV.ef rfl (ev_primF (eo_var rfl rfl eo_nil rfl rfl) (p_lenL eD a_some))) ea_nil))) (CallO.eq e_c_1 (t_law_draw_v2 (by omega) a_script a_town (a_some.length : Int) (And.left h))) rfl rfl rfl)) eo_nil) rfl rfl) (p_itemL eD a_some c_1.1 (bnd_at (p := c_1) e_c_1 (And.right h)))) (Imp.rt le_rfl (sb_cons le_any (sb_cons le_rfl (sb_cons le_any sb_nil)))))) (fun z => Imp.rt le_rfl sb_rfl)
def n_law_odd_world (a_script : (List Int)) (a_town : (List Int)) : (D × (List Int)) := bnd ([(eN ()), (eI (5 : Int)), ((eT eI) ([] : List Int)), ((eT eI) ([(3 : Int), (3 : Int)] : List Int)), ((eL eD) ([(eI (3 : Int)), (eI (3 : Int)), (eI (1 : Int))] : List D)), ((eT eI) ([(0 : Int), (3 : Int), (1 : Int)] : List Int)), ((eT eI) ([(3 : Int), (0 : Int), (1 : Int)] : List Int)), ((eT eI) ([(3 : Int), (3 : Int), (2 : Int)] : List Int)), ((eT eI) ([(-1 : Int), (3 : Int), (3 : Int)] : List Int)), ((eQ eB eI eI) (true, (3 : Int), (1 : Int))), ((eQ eI eI eN) ((3 : Int), (3 : Int), ()))] : List D) fun some_1 => bnd (n_law_pick_v2_i2 a_script a_town (some_1 ++ ([((eT eI) ([(3 : Int), (3 : Int), (1 : Int), (0 : Int)] : List Int)), (eS (PySem.Str.ofString "331")), ((eT eI) ([(4 : Int), (4 : Int), (0 : Int)] : List Int)), ((eT eI) ([(1 : Int), (1 : Int), (-1 : Int)] : List Int)), ((eQ eS eI eI) ((PySem.Str.ofString "3"), (3 : Int), (1 : Int))), ((eT eI) ([(7 : Int), (1 : Int), (0 : Int)] : List Int))] : List D))) fun c_2 => (c_2.1, c_2.2)
def n_law_odd_world_ok (a_script : (List Int)) (a_town : (List Int)) : Prop := bnd ([(eN ()), (eI (5 : Int)), ((eT eI) ([] : List Int)), ((eT eI) ([(3 : Int), (3 : Int)] : List Int)), ((eL eD) ([(eI (3 : Int)), (eI (3 : Int)), (eI (1 : Int))] : List D)), ((eT eI) ([(0 : Int), (3 : Int), (1 : Int)] : List Int)), ((eT eI) ([(3 : Int), (0 : Int), (1 : Int)] : List Int)), ((eT eI) ([(3 : Int), (3 : Int), (2 : Int)] : List Int)), ((eT eI) ([(-1 : Int), (3 : Int), (3 : Int)] : List Int)), ((eQ eB eI eI) (true, (3 : Int), (1 : Int))), ((eQ eI eI eN) ((3 : Int), (3 : Int), ()))] : List D) fun some_1 => (some_1.length + ([((eT eI) ([(3 : Int), (3 : Int), (1 : Int), (0 : Int)] : List Int)), (eS (PySem.Str.ofString "331")), ((eT eI) ([(4 : Int), (4 : Int), (0 : Int)] : List Int)), ((eT eI) ([(1 : Int), (1 : Int), (-1 : Int)] : List Int)), ((eQ eS eI eI) ((PySem.Str.ofString "3"), (3 : Int), (1 : Int))), ((eT eI) ([(7 : Int), (1 : Int), (0 : Int)] : List Int))] : List D).length ≤ PySem.sizeLine) ∧ (n_law_pick_v2_i2_ok a_script a_town (some_1 ++ ([((eT eI) ([(3 : Int), (3 : Int), (1 : Int), (0 : Int)] : List Int)), (eS (PySem.Str.ofString "331")), ((eT eI) ([(4 : Int), (4 : Int), (0 : Int)] : List Int)), ((eT eI) ([(1 : Int), (1 : Int), (-1 : Int)] : List Int)), ((eQ eS eI eI) ((PySem.Str.ofString "3"), (3 : Int), (1 : Int))), ((eT eI) ([(7 : Int), (1 : Int), (0 : Int)] : List Int))] : List D)))
@[reducible] def O_law_odd_world (z : (D × (List Int))) : O := .rt (Sp.fr (eD z.1)) [Sp.nn, (Sp.ow (List.map eI z.2))]
theorem t_law_odd_world {k : Nat} (hk : 5 ≤ k) (a_script : (List Int)) (a_town : (List Int)) (h : n_law_odd_world_ok a_script a_town) : CallO (run U k) 96 [(Sp.fr ((eL eI) a_script)), (Sp.ow (List.map eI a_town))] O_law_odd_world (n_law_odd_world a_script a_town) := by
  cases k with
  | zero => exact absurd hk (by omega)
  | succ k => exact fn_of (d := d_law_odd_world) rfl rfl (A0 := [(Sp.fr ((eL eI) a_script)), (Sp.ow (List.map eI a_town)), Sp.nn]) (OB := (fun z : (D × (List Int)) => O.rt (Sp.fr (eD z.1)) [Sp.any, (Sp.ow (List.map eI z.2)), Sp.any])) rfl (xt_asgB (S := fun z : (List D) => (Sp.ow (List.map eD z))) (ev_lst (es_cons (EV.ef rfl ev_cst) (es_cons (EV.ef rfl ev_cst) (es_cons (EV.ef rfl (ev_tup es_nil)) (es_cons (EV.ef rfl (ev_tup (es_cons (EV.ef rfl ev_cst) (es_cons (EV.ef rfl ev_cst) es_nil)))) (es_cons (EV.ef rfl (EV.le (le_va rfl) (ev_lst (es_cons (EV.ef rfl ev_cst) (es_cons (EV.ef rfl ev_cst) (es_cons (EV.ef rfl ev_cst) es_nil)))))) (es_cons (EV.ef rfl (ev_tup (es_cons (EV.ef rfl ev_cst) (es_cons (EV.ef rfl ev_cst) (es_cons (EV.ef rfl ev_cst) es_nil))))) (es_cons (EV.ef rfl (ev_tup (es_cons (EV.ef rfl ev_cst) (es_cons (EV.ef rfl ev_cst) (es_cons (EV.ef rfl ev_cst) es_nil))))) (es_cons (EV.ef rfl (ev_tup (es_cons (EV.ef rfl ev_cst) (es_cons (EV.ef rfl ev_cst) (es_cons (EV.ef rfl ev_cst) es_nil))))) (es_cons (EV.ef rfl (ev_tup (es_cons (EV.ef rfl ev_cst) (es_cons (EV.ef rfl ev_cst) (es_cons (EV.ef rfl ev_cst) es_nil))))) (es_cons (EV.ef rfl (ev_tup (es_cons (EV.ef rfl ev_cst) (es_cons (EV.ef rfl ev_cst) (es_cons (EV.ef rfl ev_cst) es_nil))))) (es_cons (EV.ef rfl (ev_tup (es_cons (EV.ef rfl ev_cst) (es_cons (EV.ef rfl ev_cst) (es_cons (EV.ef rfl ev_cst) es_nil))))) es_nil)))))))))))) fun some_1 e_some_1 => (xt_bnd fun c_2 e_c_2 => (xt_ret rfl (ev_callS (OF := O_law_pick_v2_i2) (n := c_2) (A2 := [(Sp.fr ((eL eI) a_script)), (Sp.ow (List.map eI c_2.2)), (Sp.ow (List.map eD some_1))]) (ea_val rfl (EV.ef rfl (ev_varF rfl)) (ea_slot rfl rfl rfl (ea_val rfl (EV.ef rfl (ev_primO (eo_var rfl rfl (eo_val rfl (EV.ef rfl (ev_lst (es_cons (EV.ef rfl (ev_tup (es_cons (EV.ef rfl ev_cst) (es_cons (EV.ef rfl ev_cst) (es_cons (EV.ef rfl ev_cst) (es_cons (EV.ef rfl ev_cst) es_nil)))))) (es_cons (EV.ef rfl ev_cst) (es_cons (EV.ef rfl (ev_tup (es_cons (EV.ef rfl ev_cst) (es_cons (EV.ef rfl ev_cst) (es_cons (EV.ef rfl ev_cst) es_nil))))) (es_cons (EV.ef rfl (ev_tup (es_cons (EV.ef rfl ev_cst) (es_cons (EV.ef rfl ev_cst) (es_cons (EV.ef rfl ev_cst) es_nil))))) (es_cons (EV.ef rfl (ev_tup (es_cons (EV.ef rfl ev_cst) (es_cons (EV.ef rfl ev_cst) (es_cons (EV.ef rfl ev_cst) es_nil))))) (es_cons (EV.ef rfl (ev_tup (es_cons (EV.ef rfl ev_cst) (es_cons (EV.ef rfl ev_cst) (es_cons (EV.ef rfl ev_cst) es_nil))))) es_nil)))))))) eo_nil) rfl rfl) (p_addL eD some_1 ([((eT eI) ([(3 : Int), (3 : Int), (1 : Int), (0 : Int)] : List Int)), (eS (PySem.Str.ofString "331")), ((eT eI) ([(4 : Int), (4 : Int), (0 : Int)] : List Int)), ((eT eI) ([(1 : Int), (1 : Int), (-1 : Int)] : List Int)), ((eQ eS eI eI) ((PySem.Str.ofString "3"), (3 : Int), (1 : Int))), ((eT eI) ([(7 : Int), (1 : Int), (0 : Int)] : List Int))] : List D) (And.left (bnd_at (p := some_1) e_some_1 h))))) ea_nil))) (CallO.eq e_c_2 (t_law_pick_v2_i2 (by omega) a_script a_town (some_1 ++ ([((eT eI) ([(3 : Int), (3 : Int), (1 : Int), (0 : Int)] : List Int)), (eS (PySem.Str.ofString "331")), ((eT eI) ([(4 : Int), (4 : Int), (0 : Int)] : List Int)), ((eT eI) ([(1 : Int), (1 : Int), (-1 : Int)] : List Int)), ((eQ eS eI eI) ((PySem.Str.ofString "3"), (3 : Int), (1 : Int))), ((eT eI) ([(7 : Int), (1 : Int), (0 : Int)] : List Int))] : List D)) (And.right (bnd_at (p := some_1) e_some_1 h)))) rfl rfl rfl) (Imp.rt le_rfl (sb_cons le_any (sb_cons le_rfl (sb_cons le_any sb_nil))))))) (fun z => Imp.rt le_rfl sb_rfl)
def n_law_ask_v12 (a_world_here : (List Int)) (a_text : PySem.Str) : D := (tryW (exc (n_read_line a_world_here a_text) (fun c => (.error c)) fun c_1 => (.ok ((eT (eT eI)) c_1))))
def n_law_ask_v12_ok (a_world_here : (List Int)) (a_text : PySem.Str) : Prop := (n_read_line_ok a_world_here a_text) ∧ (∀ c, (exc (n_read_line a_world_here a_text) (fun c => (.error c)) fun c_1 => (.ok ((eT (eT eI)) c_1)) : Except Nat D) = Except.error c → c ∈ ([0, 11] : List Nat))
@[reducible] def O_law_ask_v12 (z : D) : O := .rt (Sp.va (eD z)) [Sp.nn, Sp.nn]
theorem t_law_ask_v12 {k : Nat} (hk : 5 ≤ k) (a_world_here : (List Int)) (a_text : PySem.Str) (h : n_law_ask_v12_ok a_world_here a_text) : CallO (run U k) 199 [(Sp.fr ((eT eI) a_world_here)), (Sp.fr (eS a_text))] O_law_ask_v12 (n_law_ask_v12 a_world_here a_text) := by
  cases k with
  | zero => exact absurd hk (by omega)
  | succ k => exact fn_of (d := d_law_ask_v12) rfl rfl (A0 := [(Sp.fr ((eT eI) a_world_here)), (Sp.fr (eS a_text)), Sp.nn]) (OB := (fun z : D => O.rt (Sp.va (eD z)) [Sp.any, Sp.any, Sp.any])) rfl (xt_tryW (OB := (fun z : Except Nat D => match z with | .ok v => O.rt (Sp.va (eD v)) [Sp.any, Sp.any, Sp.any] | .error c => O.er c [Sp.any, Sp.any, Sp.any])) (AE := fun _ => [Sp.any, Sp.any, Sp.any]) (m := (exc (n_read_line a_world_here a_text) (fun c => (.error c)) fun c_1 => (.ok ((eT (eT eI)) c_1)))) (xt_exc (fun c e_c_1 => (xt_retE rfl (er_call (OF := O_read_line) (n := Except.error c) (ea_val rfl (EV.ef rfl (ev_varF rfl)) (ea_val rfl (EV.ef rfl (ev_varF rfl)) ea_nil)) (CallO.eq2 e_c_1 (t_read_line (by omega) a_world_here a_text (And.left h))) rfl rfl) (Imp.er (sb_cons le_any (sb_cons le_any (sb_cons le_any sb_nil)))))) fun c_1 e_c_1 => (xt_ret rfl (ev_callP (OF := O_read_line) (n := Except.ok c_1) (ea_val rfl (EV.ef rfl (ev_varF rfl)) (ea_val rfl (EV.ef rfl (ev_varF rfl)) ea_nil)) (CallO.eq2 e_c_1 (t_read_line (by omega) a_world_here a_text (And.left h))) rfl rfl rfl) (Imp.rt (le_va rfl) (sb_cons le_any (sb_cons le_any (sb_cons le_any sb_nil)))))) (fun d => ⟨_, _, rfl, Imp.rt le_rfl (sb_cons le_any (sb_cons le_any (sb_cons le_any sb_nil)))⟩) (fun _ => rfl) (And.right h) (fun c => Imp.rt (le_va rfl) (sb_cons le_any (sb_cons le_any (sb_cons le_any sb_nil))))) (fun z => Imp.rt le_rfl sb_rfl)
def n_law_pick_v2_i1 (a_script : (List Int)) (a_town : (List Int)) (a_some : (List PySem.Str)) : (PySem.Str × (List Int)) := bnd (n_law_draw_v2 a_script a_town (a_some.length : Int)) fun c_1 => ((atI a_some c_1.1), c_1.2)
def n_law_pick_v2_i1_ok (a_script : (List Int)) (a_town : (List Int)) (a_some : (List PySem.Str)) : Prop := (n_law_draw_v2_ok a_script a_town (a_some.length : Int)) ∧ (bnd (n_law_draw_v2 a_script a_town (a_some.length : Int)) fun c_1 => 0 ≤ c_1.1 ∧ c_1.1 < a_some.length)
@[reducible] def O_law_pick_v2_i1 (z : (PySem.Str × (List Int))) : O := .rt (Sp.fr (eS z.1)) [Sp.nn, (Sp.ow (List.map eI z.2)), Sp.nn]
theorem t_law_pick_v2_i1 {k : Nat} (hk : 4 ≤ k) (a_script : (List Int)) (a_town : (List Int)) (a_some : (List PySem.Str)) (h : n_law_pick_v2_i1_ok a_script a_town a_some) : CallO (run U k) 75 [(Sp.fr ((eL eI) a_script)), (Sp.ow (List.map eI a_town)), (Sp.fr ((eL eS) a_some))] O_law_pick_v2_i1 (n_law_pick_v2_i1 a_script a_town a_some) := by
  cases k with
  | zero => exact absurd hk (by omega)
  | succ k => exact fn_of (d := d_law_pick_v2) rfl rfl (A0 := [(Sp.fr ((eL eI) a_script)), (Sp.ow (List.map eI a_town)), (Sp.fr ((eL eS) a_some))]) (OB := (fun z : (PySem.Str × (List Int)) => O.rt (Sp.fr (eS z.1)) [Sp.any, (Sp.ow (List.map eI z.2)), Sp.any])) rfl (xt_bnd fun c_1 e_c_1 => (xt_ret rfl (ev_primF (eo_var rfl rfl (eo_val rfl (EV.ef rfl (ev_callS (OF := O_law_draw_v2) (n := c_1) (A2 := [(Sp.fr ((eL eI) a_script)), (Sp.ow (List.map eI c_1.2)), (Sp.fr ((eL eS) a_some))]) (ea_val rfl (EV.ef rfl (ev_varF rfl)) (ea_slot rfl rfl rfl (ea_val rfl (EV.ef rfl (ev_primF (eo_var rfl rfl eo_nil rfl rfl) (p_lenL eS a_some))) ea_nil))) (CallO.eq e_c_1 (t_law_draw_v2 (by omega) a_script a_town (a_some.length : Int) (And.left h))) rfl rfl rfl)) eo_nil) rfl rfl) (p_itemL eS a_some c_1.1 (bnd_at (p := c_1) e_c_1 (And.right h)))) (Imp.rt le_rfl (sb_cons le_any (sb_cons le_rfl (sb_cons le_any sb_nil)))))) (fun z => Imp.rt le_rfl sb_rfl)
def n_line_from_i1 (a_text : D) : (Except Nat (List (List Int))) := (if ((!(dB (primS .isStr [eD a_text]))) || (!PySem.PyData.eqv (dF (primS (.strip (PySem.Str.ofString "0123456" ++ PySem.Str.ofString ",")) [eD a_text])) (eS (PySem.Str.ofString "")))) = true then (.error 11) else (.ok (List.map (fun word_1 : D => (List.map (fun sign_2 : D => (dI (primS .int [eD sign_2]))) (seqD word_1))) (dL (primS (.split (PySem.Str.ofString ",")) [eD a_text])))))
def n_line_from_i1_ok (a_text : D) : Prop := ((!(dB (primS .isStr [eD a_text]))) = false → (isF (primS (.strip (PySem.Str.ofString "0123456" ++ PySem.Str.ofString ",")) [eD a_text]) = true) ∧ (PySem.SeqAt.shaped (dF (primS (.strip (PySem.Str.ofString "0123456" ++ PySem.Str.ofString ",")) [eD a_text])) = true ∧ PySem.SeqAt.shaped (eS (PySem.Str.ofString "")) = true)) ∧ (((!(dB (primS .isStr [eD a_text]))) || (!PySem.PyData.eqv (dF (primS (.strip (PySem.Str.ofString "0123456" ++ PySem.Str.ofString ",")) [eD a_text])) (eS (PySem.Str.ofString "")))) = false → (isL (primS (.split (PySem.Str.ofString ",")) [eD a_text]) = true) ∧ (∀ word_1 ∈ (dL (primS (.split (PySem.Str.ofString ",")) [eD a_text])), ((seqI word_1).isSome = true) ∧ (∀ sign_2 ∈ (seqD word_1), isI (primS .int [eD sign_2]) = true)))
@[reducible] def O_line_from_i1 (z : (Except Nat (List (List Int)))) : O := match z with | .ok v => .rt (Sp.fr ((eT (eT eI)) v)) [Sp.nn] | .error c => .er c [Sp.nn]
theorem t_line_from_i1 {k : Nat} (hk : 1 ≤ k) (a_text : D) (h : n_line_from_i1_ok a_text) : CallO (run U k) 195 [(Sp.fr (eD a_text))] O_line_from_i1 (n_line_from_i1 a_text) := by
  cases k with
  | zero => exact absurd hk (by omega)
  | succ k => exact fn_of (d := d_line_from) rfl rfl (A0 := [(Sp.fr (eD a_text)), Sp.nn, Sp.nn]) (OB := (fun z : (Except Nat (List (List Int))) => match z with | .ok v => O.rt (Sp.fr ((eT (eT eI)) v)) [Sp.any, Sp.any, Sp.any] | .error c => O.er c [Sp.any, Sp.any, Sp.any])) rfl (xt_if (eb_or (eb_not (EV.eb rfl (ev_primF (eo_var rfl rfl eo_nil rfl rfl) (show (primS .isStr [eD a_text]) = some (.fr (eB (dB (primS .isStr [eD a_text])))) from rfl)))) fun h_1705 => (EV.eb rfl (ev_primF (eo_val rfl (EV.ef rfl (ev_primF (eo_var rfl rfl eo_nil rfl rfl) (isF_eq (And.left ((And.left h) h_1705))))) (eo_val rfl (EV.ef rfl ev_cst) eo_nil)) (p_neD (dF (primS (.strip (PySem.Str.ofString "0123456" ++ PySem.Str.ofString ",")) [eD a_text])) (eS (PySem.Str.ofString "")) (And.right ((And.left h) h_1705)))))) (fun h_1708 => (xt_raise (Imp.er (sb_cons le_any (sb_cons le_any (sb_cons le_any sb_nil)))))) (fun h_1709 => (xt_ret rfl (ev_primF (eo_val rfl (EV.ef rfl (ev_comp1 (f := fun word_1 : D => (List.map (fun sign_2 : D => (dI (primS .int [eD sign_2]))) (seqD word_1))) (ey := (eT eI)) (ei_seqL (ex := eD) (xs := (dL (primS (.split (PySem.Str.ofString ",")) [eD a_text]))) (EV.ef rfl (ev_primO (eo_var rfl rfl eo_nil rfl rfl) (isL_eq (And.left ((And.right h) h_1709)))))) rfl (fun word_1 m_1713 => ⟨_, rfl, (EV.ef rfl (ev_primF (eo_val rfl (EV.ef rfl (ev_comp1 (f := fun sign_2 : D => (dI (primS .int [eD sign_2]))) (ey := eI) (ei_seqD (EV.ef rfl (ev_varF rfl)) (And.left ((And.right ((And.right h) h_1709)) word_1 m_1713))) rfl (fun sign_2 m_1716 => ⟨_, rfl, (EV.ef rfl (ev_primF (eo_var rfl rfl eo_nil rfl rfl) (isI_eq ((And.right ((And.right ((And.right h) h_1709)) word_1 m_1713)) sign_2 m_1716)))), sb_rfl⟩) sb_rfl)) eo_nil) (p_tupL eI (List.map (fun sign_2 : D => (dI (primS .int [eD sign_2]))) (seqD word_1))))), sb_rfl⟩) sb_rfl)) eo_nil) (p_tupL (eT eI) (List.map (fun word_1 : D => (List.map (fun sign_2 : D => (dI (primS .int [eD sign_2]))) (seqD word_1))) (dL (primS (.split (PySem.Str.ofString ",")) [eD a_text]))))) (Imp.rt le_rfl (sb_cons le_any (sb_cons le_any (sb_cons le_any sb_nil))))))) (fun z => match z with | .ok _ => Imp.rt le_rfl sb_rfl | .error _ => Imp.er sb_rfl)
def n_read_line_i1 (a_world : (List Int)) (a_text : D) : (Except Nat (List (List Int))) := exc (n_need_world a_world) (fun c => (.error c)) fun c_1 => exc (n_line_from_i1 a_text) (fun c => (.error c)) fun c_2 => (if (!(n_is_line a_world (atI a_world (0 : Int)) c_2)) = true then (.error 11) else (.ok c_2))
def n_read_line_i1_ok (a_world : (List Int)) (a_text : D) : Prop := (n_need_world_ok a_world) ∧ (excP (n_need_world a_world) fun c_1 => (n_line_from_i1_ok a_text) ∧ (excP (n_line_from_i1 a_text) fun c_2 => 0 ≤ (0 : Int) ∧ (0 : Int) < a_world.length))
@[reducible] def O_read_line_i1 (z : (Except Nat (List (List Int)))) : O := match z with | .ok v => .rt (Sp.fr ((eT (eT eI)) v)) [Sp.nn, Sp.nn] | .error c => .er c [Sp.nn, Sp.nn]
theorem t_read_line_i1 {k : Nat} (hk : 4 ≤ k) (a_world : (List Int)) (a_text : D) (h : n_read_line_i1_ok a_world a_text) : CallO (run U k) 196 [(Sp.fr ((eT eI) a_world)), (Sp.fr (eD a_text))] O_read_line_i1 (n_read_line_i1 a_world a_text) := by
  cases k with
  | zero => exact absurd hk (by omega)
  | succ k => exact fn_of (d := d_read_line) rfl rfl (A0 := [(Sp.fr ((eT eI) a_world)), (Sp.fr (eD a_text)), Sp.nn]) (OB := (fun z : (Except Nat (List (List Int))) => match z with | .ok v => O.rt (Sp.fr ((eT (eT eI)) v)) [Sp.any, Sp.any, Sp.any] | .error c => O.er c [Sp.any, Sp.any, Sp.any])) rfl (xt_exc (fun c e_c_1 => (xt_exE (er_call (OF := O_need_world) (n := Except.error c) (ea_val rfl (EV.ef rfl (ev_varF rfl)) ea_nil) (CallO.eq2 e_c_1 (t_need_world (by omega) a_world (And.left h))) rfl rfl) (Imp.er (sb_cons le_any (sb_cons le_any (sb_cons le_any sb_nil)))))) fun c_1 e_c_1 => (xt_ex (ev_callP (OF := O_need_world) (n := Except.ok c_1) (ea_val rfl (EV.ef rfl (ev_varF rfl)) ea_nil) (CallO.eq2 e_c_1 (t_need_world (by omega) a_world (And.left h))) rfl rfl rfl) (xt_exc (fun c e_c_2 => (xt_asgE (er_call (OF := O_line_from_i1) (n := Except.error c) (ea_val rfl (EV.ef rfl (ev_varF rfl)) ea_nil) (CallO.eq2 e_c_2 (t_line_from_i1 (by omega) a_text (And.left (excP_at (p := c_1) e_c_1 (And.right h))))) rfl rfl) (Imp.er (sb_cons le_any (sb_cons le_any (sb_cons le_any sb_nil)))))) fun c_2 e_c_2 => (xt_asg (ev_callP (OF := O_line_from_i1) (n := Except.ok c_2) (ea_val rfl (EV.ef rfl (ev_varF rfl)) ea_nil) (CallO.eq2 e_c_2 (t_line_from_i1 (by omega) a_text (And.left (excP_at (p := c_1) e_c_1 (And.right h))))) rfl rfl rfl) (xt_if (eb_not (EV.eb rfl (ev_callP (OF := O_is_line) (n := (n_is_line a_world (atI a_world (0 : Int)) c_2)) (ea_val rfl (EV.ef rfl (ev_varF rfl)) (ea_val rfl (EV.ef rfl (ev_primF (eo_var rfl rfl (eo_val rfl (EV.ef rfl ev_cst) eo_nil) rfl rfl) (p_itemT eI a_world (0 : Int) (excP_at (p := c_2) e_c_2 (And.right (excP_at (p := c_1) e_c_1 (And.right h))))))) (ea_val rfl (EV.ef rfl (ev_varF rfl)) ea_nil))) (t_is_line (by omega) a_world (atI a_world (0 : Int)) c_2) rfl rfl rfl))) (fun h_1722 => (xt_raise (Imp.er (sb_cons le_any (sb_cons le_any (sb_cons le_any sb_nil)))))) (fun h_1723 => (xt_retV rfl rfl (Imp.rt le_rfl (sb_cons le_any (sb_cons le_any (sb_cons le_any sb_nil))))))))))) (fun z => match z with | .ok _ => Imp.rt le_rfl sb_rfl | .error _ => Imp.er sb_rfl)
def n_law_ask_v12_i1 (a_world_here : (List Int)) (a_text : D) : D := (tryW (exc (n_read_line_i1 a_world_here a_text) (fun c => (.error c)) fun c_1 => (.ok ((eT (eT eI)) c_1))))
def n_law_ask_v12_i1_ok (a_world_here : (List Int)) (a_text : D) : Prop := (n_read_line_i1_ok a_world_here a_text) ∧ (∀ c, (exc (n_read_line_i1 a_world_here a_text) (fun c => (.error c)) fun c_1 => (.ok ((eT (eT eI)) c_1)) : Except Nat D) = Except.error c → c ∈ ([0, 11] : List Nat))
@[reducible] def O_law_ask_v12_i1 (z : D) : O := .rt (Sp.va (eD z)) [Sp.nn, Sp.nn]
theorem t_law_ask_v12_i1 {k : Nat} (hk : 5 ≤ k) (a_world_here : (List Int)) (a_text : D) (h : n_law_ask_v12_i1_ok a_world_here a_text) : CallO (run U k) 199 [(Sp.fr ((eT eI) a_world_here)), (Sp.fr (eD a_text))] O_law_ask_v12_i1 (n_law_ask_v12_i1 a_world_here a_text) := by
  cases k with
  | zero => exact absurd hk (by omega)
  | succ k => exact fn_of (d := d_law_ask_v12) rfl rfl (A0 := [(Sp.fr ((eT eI) a_world_here)), (Sp.fr (eD a_text)), Sp.nn]) (OB := (fun z : D => O.rt (Sp.va (eD z)) [Sp.any, Sp.any, Sp.any])) rfl (xt_tryW (OB := (fun z : Except Nat D => match z with | .ok v => O.rt (Sp.va (eD v)) [Sp.any, Sp.any, Sp.any] | .error c => O.er c [Sp.any, Sp.any, Sp.any])) (AE := fun _ => [Sp.any, Sp.any, Sp.any]) (m := (exc (n_read_line_i1 a_world_here a_text) (fun c => (.error c)) fun c_1 => (.ok ((eT (eT eI)) c_1)))) (xt_exc (fun c e_c_1 => (xt_retE rfl (er_call (OF := O_read_line_i1) (n := Except.error c) (ea_val rfl (EV.ef rfl (ev_varF rfl)) (ea_val rfl (EV.ef rfl (ev_varF rfl)) ea_nil)) (CallO.eq2 e_c_1 (t_read_line_i1 (by omega) a_world_here a_text (And.left h))) rfl rfl) (Imp.er (sb_cons le_any (sb_cons le_any (sb_cons le_any sb_nil)))))) fun c_1 e_c_1 => (xt_ret rfl (ev_callP (OF := O_read_line_i1) (n := Except.ok c_1) (ea_val rfl (EV.ef rfl (ev_varF rfl)) (ea_val rfl (EV.ef rfl (ev_varF rfl)) ea_nil)) (CallO.eq2 e_c_1 (t_read_line_i1 (by omega) a_world_here a_text (And.left h))) rfl rfl rfl) (Imp.rt (le_va rfl) (sb_cons le_any (sb_cons le_any (sb_cons le_any sb_nil)))))) (fun d => ⟨_, _, rfl, Imp.rt le_rfl (sb_cons le_any (sb_cons le_any (sb_cons le_any sb_nil)))⟩) (fun _ => rfl) (And.right h) (fun c => Imp.rt (le_va rfl) (sb_cons le_any (sb_cons le_any (sb_cons le_any sb_nil))))) (fun z => Imp.rt le_rfl sb_rfl)
def n_is_whole_i1 (a_thing : D) (a_low : Int) (a_most : Int) : Bool := ((dB (primS .isInt [eD a_thing])) && ((!(dB (primS .isBool [eD a_thing]))) && (dB (primS .le [eI a_low, eD a_thing]) && dB (primS .le [eD a_thing, eI a_most]))))
def n_is_whole_i1_ok (a_thing : D) (a_low : Int) (a_most : Int) : Prop := (dB (primS .isInt [eD a_thing])) = true → (!(dB (primS .isBool [eD a_thing]))) = true → (isB (primS .le [eI a_low, eD a_thing]) = true) ∧ (dB (primS .le [eI a_low, eD a_thing]) = true → isB (primS .le [eD a_thing, eI a_most]) = true)
@[reducible] def O_is_whole_i1 (z : Bool) : O := .rt (Sp.fr (eB z)) [Sp.nn, Sp.nn, Sp.nn]
theorem t_is_whole_i1 {k : Nat} (hk : 1 ≤ k) (a_thing : D) (a_low : Int) (a_most : Int) (h : n_is_whole_i1_ok a_thing a_low a_most) : CallO (run U k) 1 [(Sp.fr (eD a_thing)), (Sp.fr (eI a_low)), (Sp.fr (eI a_most))] O_is_whole_i1 (n_is_whole_i1 a_thing a_low a_most) := by
  cases k with
  | zero => exact absurd hk (by omega)
  | succ k => exact fn_of (d := d_is_whole) rfl rfl (A0 := [(Sp.fr (eD a_thing)), (Sp.fr (eI a_low)), (Sp.fr (eI a_most))]) (OB := (fun z : Bool => O.rt (Sp.fr (eB z)) [Sp.any, Sp.any, Sp.any])) rfl (xt_ret rfl (ev_andV (EV.eb rfl (ev_primF (eo_var rfl rfl eo_nil rfl rfl) (show (primS .isInt [eD a_thing]) = some (.fr (eB (dB (primS .isInt [eD a_thing])))) from rfl))) fun h_1729 => (ev_andV (eb_not (EV.eb rfl (ev_primF (eo_var rfl rfl eo_nil rfl rfl) (show (primS .isBool [eD a_thing]) = some (.fr (eB (dB (primS .isBool [eD a_thing])))) from rfl)))) fun h_1730 => (ev_chain (EV.ef rfl (ev_varF rfl)) (EV.ef rfl (ev_varF rfl)) (isB_eq (And.left ((h h_1729) h_1730))) (EV.ef rfl (ev_varF rfl)) fun hq => (isB_eq ((And.right ((h h_1729) h_1730)) hq))))) (Imp.rt le_rfl (sb_cons le_any (sb_cons le_any (sb_cons le_any sb_nil))))) (fun z => Imp.rt le_rfl sb_rfl)
def n_is_world_i1 (a_thing : D) : Bool := (if ((!(dB (primS .isTup [eD a_thing]))) || (!decide ((dI (primS .len [eD a_thing])) = (3 : Int)))) = true then false else (if ((!(n_is_whole_i1 (dF (primS .item [eD a_thing, eI (0 : Int)])) (1 : Int) (7 : Int))) || ((!(n_is_whole_i1 (dF (primS .item [eD a_thing, eI (1 : Int)])) (1 : Int) (7 : Int))) || (!(n_is_whole_i1 (dF (primS .item [eD a_thing, eI (2 : Int)])) (0 : Int) (7 : Int))))) = true then false else (decide ((dI (primS .sum [eD a_thing])) ≤ (7 : Int)))))
def n_is_world_i1_ok (a_thing : D) : Prop := ((!(dB (primS .isTup [eD a_thing]))) = false → isI (primS .len [eD a_thing]) = true) ∧ (((!(dB (primS .isTup [eD a_thing]))) || (!decide ((dI (primS .len [eD a_thing])) = (3 : Int)))) = false → (isF (primS .item [eD a_thing, eI (0 : Int)]) = true) ∧ (n_is_whole_i1_ok (dF (primS .item [eD a_thing, eI (0 : Int)])) (1 : Int) (7 : Int)) ∧ ((!(n_is_whole_i1 (dF (primS .item [eD a_thing, eI (0 : Int)])) (1 : Int) (7 : Int))) = false → (isF (primS .item [eD a_thing, eI (1 : Int)]) = true) ∧ (n_is_whole_i1_ok (dF (primS .item [eD a_thing, eI (1 : Int)])) (1 : Int) (7 : Int)) ∧ ((!(n_is_whole_i1 (dF (primS .item [eD a_thing, eI (1 : Int)])) (1 : Int) (7 : Int))) = false → (isF (primS .item [eD a_thing, eI (2 : Int)]) = true) ∧ (n_is_whole_i1_ok (dF (primS .item [eD a_thing, eI (2 : Int)])) (0 : Int) (7 : Int)))) ∧ (((!(n_is_whole_i1 (dF (primS .item [eD a_thing, eI (0 : Int)])) (1 : Int) (7 : Int))) || ((!(n_is_whole_i1 (dF (primS .item [eD a_thing, eI (1 : Int)])) (1 : Int) (7 : Int))) || (!(n_is_whole_i1 (dF (primS .item [eD a_thing, eI (2 : Int)])) (0 : Int) (7 : Int))))) = false → isI (primS .sum [eD a_thing]) = true))
@[reducible] def O_is_world_i1 (z : Bool) : O := .rt (Sp.fr (eB z)) [Sp.nn]
theorem t_is_world_i1 {k : Nat} (hk : 2 ≤ k) (a_thing : D) (h : n_is_world_i1_ok a_thing) : CallO (run U k) 2 [(Sp.fr (eD a_thing))] O_is_world_i1 (n_is_world_i1 a_thing) := by
  cases k with
  | zero => exact absurd hk (by omega)
  | succ k => exact fn_of (d := d_is_world) rfl rfl (A0 := [(Sp.fr (eD a_thing))]) (OB := (fun z : Bool => O.rt (Sp.fr (eB z)) [Sp.any])) rfl (xt_if (eb_or (eb_not (EV.eb rfl (ev_primF (eo_var rfl rfl eo_nil rfl rfl) (show (primS .isTup [eD a_thing]) = some (.fr (eB (dB (primS .isTup [eD a_thing])))) from rfl)))) fun h_1735 => (EV.eb rfl (ev_primF (eo_val rfl (EV.ef rfl (ev_primF (eo_var rfl rfl eo_nil rfl rfl) (isI_eq ((And.left h) h_1735)))) (eo_val rfl (EV.ef rfl ev_cst) eo_nil)) (p_ne eI (dI (primS .len [eD a_thing])) (3 : Int))))) (fun h_1738 => (xt_ret rfl ev_cst (Imp.rt le_rfl (sb_cons le_any sb_nil)))) (fun h_1739 => (xt_if (eb_or (eb_not (EV.eb rfl (ev_callP (OF := O_is_whole_i1) (n := (n_is_whole_i1 (dF (primS .item [eD a_thing, eI (0 : Int)])) (1 : Int) (7 : Int))) (ea_val rfl (EV.ef rfl (ev_primF (eo_var rfl rfl (eo_val rfl (EV.ef rfl ev_cst) eo_nil) rfl rfl) (isF_eq (And.left ((And.right h) h_1739))))) (ea_val rfl (EV.ef rfl ev_cst) (ea_val rfl (EV.ef rfl ev_cst) ea_nil))) (t_is_whole_i1 (by omega) (dF (primS .item [eD a_thing, eI (0 : Int)])) (1 : Int) (7 : Int) (And.left (And.right ((And.right h) h_1739)))) rfl rfl rfl))) fun h_1743 => (eb_or (eb_not (EV.eb rfl (ev_callP (OF := O_is_whole_i1) (n := (n_is_whole_i1 (dF (primS .item [eD a_thing, eI (1 : Int)])) (1 : Int) (7 : Int))) (ea_val rfl (EV.ef rfl (ev_primF (eo_var rfl rfl (eo_val rfl (EV.ef rfl ev_cst) eo_nil) rfl rfl) (isF_eq (And.left ((And.left (And.right (And.right ((And.right h) h_1739)))) h_1743))))) (ea_val rfl (EV.ef rfl ev_cst) (ea_val rfl (EV.ef rfl ev_cst) ea_nil))) (t_is_whole_i1 (by omega) (dF (primS .item [eD a_thing, eI (1 : Int)])) (1 : Int) (7 : Int) (And.left (And.right ((And.left (And.right (And.right ((And.right h) h_1739)))) h_1743)))) rfl rfl rfl))) fun h_1747 => (eb_not (EV.eb rfl (ev_callP (OF := O_is_whole_i1) (n := (n_is_whole_i1 (dF (primS .item [eD a_thing, eI (2 : Int)])) (0 : Int) (7 : Int))) (ea_val rfl (EV.ef rfl (ev_primF (eo_var rfl rfl (eo_val rfl (EV.ef rfl ev_cst) eo_nil) rfl rfl) (isF_eq (And.left ((And.right (And.right ((And.left (And.right (And.right ((And.right h) h_1739)))) h_1743))) h_1747))))) (ea_val rfl (EV.ef rfl ev_cst) (ea_val rfl (EV.ef rfl ev_cst) ea_nil))) (t_is_whole_i1 (by omega) (dF (primS .item [eD a_thing, eI (2 : Int)])) (0 : Int) (7 : Int) (And.right ((And.right (And.right ((And.left (And.right (And.right ((And.right h) h_1739)))) h_1743))) h_1747))) rfl rfl rfl))))) (fun h_1751 => (xt_ret rfl ev_cst (Imp.rt le_rfl (sb_cons le_any sb_nil)))) (fun h_1752 => (xt_ret rfl (ev_primF (eo_val rfl (EV.ef rfl (ev_primF (eo_var rfl rfl eo_nil rfl rfl) (isI_eq ((And.right (And.right (And.right ((And.right h) h_1739)))) h_1752)))) (eo_val rfl (EV.ef rfl ev_cst) eo_nil)) (p_leI (dI (primS .sum [eD a_thing])) (7 : Int))) (Imp.rt le_rfl (sb_cons le_any sb_nil))))))) (fun z => Imp.rt le_rfl sb_rfl)
def n_need_world_i1 (a_thing : D) : (Except Nat Unit) := (if (!(n_is_world_i1 a_thing)) = true then (.error 0) else (.ok ()))
def n_need_world_i1_ok (a_thing : D) : Prop := n_is_world_i1_ok a_thing
@[reducible] def O_need_world_i1 (z : (Except Nat Unit)) : O := match z with | .ok v => .rt (Sp.fr .none) [Sp.nn] | .error c => .er c [Sp.nn]
theorem t_need_world_i1 {k : Nat} (hk : 3 ≤ k) (a_thing : D) (h : n_need_world_i1_ok a_thing) : CallO (run U k) 3 [(Sp.fr (eD a_thing))] O_need_world_i1 (n_need_world_i1 a_thing) := by
  cases k with
  | zero => exact absurd hk (by omega)
  | succ k => exact fn_of (d := d_need_world) rfl rfl (A0 := [(Sp.fr (eD a_thing))]) (OB := (fun z : (Except Nat Unit) => match z with | .ok v => O.nx [Sp.any] | .error c => O.er c [Sp.any])) rfl (xt_if (eb_not (EV.eb rfl (ev_callP (OF := O_is_world_i1) (n := (n_is_world_i1 a_thing)) (ea_val rfl (EV.ef rfl (ev_varF rfl)) ea_nil) (t_is_world_i1 (by omega) a_thing h) rfl rfl rfl))) (fun h_1757 => (xt_raise (Imp.er (sb_cons le_any sb_nil)))) (fun h_1758 => (xt_nil (Imp.nx (sb_cons le_any sb_nil))))) (fun z => match z with | .ok _ => Imp.rt le_rfl sb_rfl | .error _ => Imp.er sb_rfl)
def n_read_line_i2 (a_world : D) (a_text : PySem.Str) : (Except Nat (List (List Int))) := exc (n_need_world_i1 a_world) (fun c => (.error c)) fun c_1 => exc (n_line_from a_text) (fun c => (.error c)) fun c_2 => (if (!(n_is_line (dec (eT eI) a_world) (dec eI (dF (primS .item [eD a_world, eI (0 : Int)]))) c_2)) = true then (.error 11) else (.ok c_2))
def n_read_line_i2_ok (a_world : D) (a_text : PySem.Str) : Prop := (n_need_world_i1_ok a_world) ∧ (excP (n_need_world_i1 a_world) fun c_1 => (n_line_from_ok a_text) ∧ (excP (n_line_from a_text) fun c_2 => ((eT eI) (dec (eT eI) a_world) = a_world) ∧ (isF (primS .item [eD a_world, eI (0 : Int)]) = true) ∧ (eI (dec eI (dF (primS .item [eD a_world, eI (0 : Int)]))) = (dF (primS .item [eD a_world, eI (0 : Int)])))))
@[reducible] def O_read_line_i2 (z : (Except Nat (List (List Int)))) : O := match z with | .ok v => .rt (Sp.fr ((eT (eT eI)) v)) [Sp.nn, Sp.nn] | .error c => .er c [Sp.nn, Sp.nn]
theorem t_read_line_i2 {k : Nat} (hk : 4 ≤ k) (a_world : D) (a_text : PySem.Str) (h : n_read_line_i2_ok a_world a_text) : CallO (run U k) 196 [(Sp.fr (eD a_world)), (Sp.fr (eS a_text))] O_read_line_i2 (n_read_line_i2 a_world a_text) := by
  cases k with
  | zero => exact absurd hk (by omega)
  | succ k => exact fn_of (d := d_read_line) rfl rfl (A0 := [(Sp.fr (eD a_world)), (Sp.fr (eS a_text)), Sp.nn]) (OB := (fun z : (Except Nat (List (List Int))) => match z with | .ok v => O.rt (Sp.fr ((eT (eT eI)) v)) [Sp.any, Sp.any, Sp.any] | .error c => O.er c [Sp.any, Sp.any, Sp.any])) rfl (xt_exc (fun c e_c_1 => (xt_exE (er_call (OF := O_need_world_i1) (n := Except.error c) (ea_val rfl (EV.ef rfl (ev_varF rfl)) ea_nil) (CallO.eq2 e_c_1 (t_need_world_i1 (by omega) a_world (And.left h))) rfl rfl) (Imp.er (sb_cons le_any (sb_cons le_any (sb_cons le_any sb_nil)))))) fun c_1 e_c_1 => (xt_ex (ev_callP (OF := O_need_world_i1) (n := Except.ok c_1) (ea_val rfl (EV.ef rfl (ev_varF rfl)) ea_nil) (CallO.eq2 e_c_1 (t_need_world_i1 (by omega) a_world (And.left h))) rfl rfl rfl) (xt_exc (fun c e_c_2 => (xt_asgE (er_call (OF := O_line_from) (n := Except.error c) (ea_val rfl (EV.ef rfl (ev_varF rfl)) ea_nil) (CallO.eq2 e_c_2 (t_line_from (by omega) a_text (And.left (excP_at (p := c_1) e_c_1 (And.right h))))) rfl rfl) (Imp.er (sb_cons le_any (sb_cons le_any (sb_cons le_any sb_nil)))))) fun c_2 e_c_2 => (xt_asg (ev_callP (OF := O_line_from) (n := Except.ok c_2) (ea_val rfl (EV.ef rfl (ev_varF rfl)) ea_nil) (CallO.eq2 e_c_2 (t_line_from (by omega) a_text (And.left (excP_at (p := c_1) e_c_1 (And.right h))))) rfl rfl rfl) (xt_if (eb_not (EV.eb rfl (ev_callP (OF := O_is_line) (n := (n_is_line (dec (eT eI) a_world) (dec eI (dF (primS .item [eD a_world, eI (0 : Int)]))) c_2)) (ea_val rfl (EV.ef rfl (EV.decF (eT eI) (And.left (excP_at (p := c_2) e_c_2 (And.right (excP_at (p := c_1) e_c_1 (And.right h))))) (ev_varF rfl))) (ea_val rfl (EV.ef rfl (EV.decF eI (And.right (And.right (excP_at (p := c_2) e_c_2 (And.right (excP_at (p := c_1) e_c_1 (And.right h)))))) (ev_primF (eo_var rfl rfl (eo_val rfl (EV.ef rfl ev_cst) eo_nil) rfl rfl) (isF_eq (And.left (And.right (excP_at (p := c_2) e_c_2 (And.right (excP_at (p := c_1) e_c_1 (And.right h)))))))))) (ea_val rfl (EV.ef rfl (ev_varF rfl)) ea_nil))) (t_is_line (by omega) (dec (eT eI) a_world) (dec eI (dF (primS .item [eD a_world, eI (0 : Int)]))) c_2) rfl rfl rfl))) (fun h_1764 => (xt_raise (Imp.er (sb_cons le_any (sb_cons le_any (sb_cons le_any sb_nil)))))) (fun h_1765 => (xt_retV rfl rfl (Imp.rt le_rfl (sb_cons le_any (sb_cons le_any (sb_cons le_any sb_nil))))))))))) (fun z => match z with | .ok _ => Imp.rt le_rfl sb_rfl | .error _ => Imp.er sb_rfl)
def n_law_ask_v12_i2 (a_world_here : D) (a_text : PySem.Str) : D := (tryW (exc (n_read_line_i2 a_world_here a_text) (fun c => (.error c)) fun c_1 => (.ok ((eT (eT eI)) c_1))))
def n_law_ask_v12_i2_ok (a_world_here : D) (a_text : PySem.Str) : Prop := (n_read_line_i2_ok a_world_here a_text) ∧ (∀ c, (exc (n_read_line_i2 a_world_here a_text) (fun c => (.error c)) fun c_1 => (.ok ((eT (eT eI)) c_1)) : Except Nat D) = Except.error c → c ∈ ([0, 11] : List Nat))
@[reducible] def O_law_ask_v12_i2 (z : D) : O := .rt (Sp.va (eD z)) [Sp.nn, Sp.nn]
theorem t_law_ask_v12_i2 {k : Nat} (hk : 5 ≤ k) (a_world_here : D) (a_text : PySem.Str) (h : n_law_ask_v12_i2_ok a_world_here a_text) : CallO (run U k) 199 [(Sp.fr (eD a_world_here)), (Sp.fr (eS a_text))] O_law_ask_v12_i2 (n_law_ask_v12_i2 a_world_here a_text) := by
  cases k with
  | zero => exact absurd hk (by omega)
  | succ k => exact fn_of (d := d_law_ask_v12) rfl rfl (A0 := [(Sp.fr (eD a_world_here)), (Sp.fr (eS a_text)), Sp.nn]) (OB := (fun z : D => O.rt (Sp.va (eD z)) [Sp.any, Sp.any, Sp.any])) rfl (xt_tryW (OB := (fun z : Except Nat D => match z with | .ok v => O.rt (Sp.va (eD v)) [Sp.any, Sp.any, Sp.any] | .error c => O.er c [Sp.any, Sp.any, Sp.any])) (AE := fun _ => [Sp.any, Sp.any, Sp.any]) (m := (exc (n_read_line_i2 a_world_here a_text) (fun c => (.error c)) fun c_1 => (.ok ((eT (eT eI)) c_1)))) (xt_exc (fun c e_c_1 => (xt_retE rfl (er_call (OF := O_read_line_i2) (n := Except.error c) (ea_val rfl (EV.ef rfl (ev_varF rfl)) (ea_val rfl (EV.ef rfl (ev_varF rfl)) ea_nil)) (CallO.eq2 e_c_1 (t_read_line_i2 (by omega) a_world_here a_text (And.left h))) rfl rfl) (Imp.er (sb_cons le_any (sb_cons le_any (sb_cons le_any sb_nil)))))) fun c_1 e_c_1 => (xt_ret rfl (ev_callP (OF := O_read_line_i2) (n := Except.ok c_1) (ea_val rfl (EV.ef rfl (ev_varF rfl)) (ea_val rfl (EV.ef rfl (ev_varF rfl)) ea_nil)) (CallO.eq2 e_c_1 (t_read_line_i2 (by omega) a_world_here a_text (And.left h))) rfl rfl rfl) (Imp.rt (le_va rfl) (sb_cons le_any (sb_cons le_any (sb_cons le_any sb_nil)))))) (fun d => ⟨_, _, rfl, Imp.rt le_rfl (sb_cons le_any (sb_cons le_any (sb_cons le_any sb_nil)))⟩) (fun _ => rfl) (And.right h) (fun c => Imp.rt (le_va rfl) (sb_cons le_any (sb_cons le_any (sb_cons le_any sb_nil))))) (fun z => Imp.rt le_rfl sb_rfl)
def n_law (a_script : (List Int)) : Bool := bnd ([] : List Int) fun town_1 => bnd (n_law_draw_v2 a_script town_1 (3 : Int)) fun c_2 => bnd (n_law_world_v2 a_script c_2.2) fun c_3 => bnd (List.sum c_3.1) fun many_4 => bnd (n_law_line_v2 a_script c_3.2 many_4 (atI c_3.1 (0 : Int)) (6 : Int)) fun c_5 => bnd (getOk (n_line_text c_3.1 c_5.1)) fun text_7 => bnd (List.foldl (fun (s_8 : PySem.Str × (List Int)) (k_9 : Int) => bnd (n_law_draw_v2 a_script s_8.2 ((s_8.1.length : Int) + (1 : Int))) fun c_10 => bnd (n_law_pick_v2_i1 a_script c_10.2 ([(PySem.Str.ofString ""), (PySem.Str.ofString "0"), (PySem.Str.ofString "1"), (PySem.Str.ofString "2"), (PySem.Str.ofString "3"), (PySem.Str.ofString ","), (PySem.Str.ofString " "), (PySem.Str.ofString ",,"), (PySem.Str.ofString "6"), (PySem.Str.ofString "7"), (PySem.Str.ofString "a"), (PySem.Str.ofString "-")] : List PySem.Str)) fun c_11 => bnd (n_law_draw_v2 a_script c_11.2 (2 : Int)) fun c_12 => bnd (((takeS c_10.1 s_8.1) ++ c_11.1) ++ (dropS (c_10.1 + c_12.1) s_8.1)) fun text_13 => (text_13, c_12.2)) (text_7, c_5.2) (rangeI c_2.1)) fun l_14 => bnd (List.map (fun word_15 : PySem.Str => (List.map (fun sign_16 : PySem.Str => (if (inT sign_16 (PySem.Str.ofString "0123456789")) = true then (intS sign_16) else (-1 : Int))) (signsS word_15))) (PySem.Txt.split l_14.1 (PySem.Str.ofString ","))) fun hands_17 => bnd (decide ((List.map (fun hand_18 : (List Int) => hand_18) (List.filter (fun hand_18 : (List Int) => (!memB hand_18 (n_law_picks many_4 (atI c_3.1 (0 : Int))))) hands_17)) = ([] : List (List Int)))) fun good_19 => bnd (good_19 && (decide (hands_17 = (setSort hands_17)))) fun good_20 => bnd (n_law_pick_v2_i2 a_script l_14.2 ([(eN ()), (eS (PySem.Str.ofString "")), (eI (5 : Int)), (eS (PySem.Str.ofString ",")), ((eT eS) ([(PySem.Str.ofString "01")] : List PySem.Str)), (eS (PySem.Str.ofString "01 23")), (eS (PySem.Str.ofString " 0"))] : List D)) fun c_21 => bnd (if (!PySem.PyData.eqv (n_law_ask_v12_i1 c_3.1 c_21.1) ((eP eS eI) ((PySem.Str.ofString "refused"), (11 : Int)))) = true then (true, c_21.2) else (bnd (n_law_odd_world a_script c_21.2) fun c_22 => ((!PySem.PyData.eqv (n_law_ask_v12_i2 c_22.1 l_14.1) ((eP eS eI) ((PySem.Str.ofString "refused"), (0 : Int)))), c_22.2) : Bool × ((List Int)))) fun q_23 => (if q_23.1 = true then false else (PySem.PyData.eqv (n_law_ask_v12 c_3.1 l_14.1) (if good_20 = true then ((eT (eT eI)) hands_17) else ((eP eS eI) ((PySem.Str.ofString "refused"), (11 : Int))))))
def n_law_ok (a_script : (List Int)) : Prop := bnd ([] : List Int) fun town_1 => (n_law_draw_v2_ok a_script town_1 (3 : Int)) ∧ (bnd (n_law_draw_v2 a_script town_1 (3 : Int)) fun c_2 => (n_law_world_v2_ok a_script c_2.2) ∧ (bnd (n_law_world_v2 a_script c_2.2) fun c_3 => bnd (List.sum c_3.1) fun many_4 => (0 ≤ (0 : Int) ∧ (0 : Int) < c_3.1.length) ∧ (n_law_line_v2_ok a_script c_3.2 many_4 (atI c_3.1 (0 : Int)) (6 : Int)) ∧ (bnd (n_law_line_v2 a_script c_3.2 many_4 (atI c_3.1 (0 : Int)) (6 : Int)) fun c_5 => (n_line_text_ok c_3.1 c_5.1) ∧ (isOk (n_line_text c_3.1 c_5.1) = true) ∧ (bnd (getOk (n_line_text c_3.1 c_5.1)) fun text_7 => (-100000 ≤ c_2.1 ∧ c_2.1 ≤ 100000) ∧ (foldOk (fun (s_8 : PySem.Str × (List Int)) (k_9 : Int) => bnd (n_law_draw_v2 a_script s_8.2 ((s_8.1.length : Int) + (1 : Int))) fun c_10 => bnd (n_law_pick_v2_i1 a_script c_10.2 ([(PySem.Str.ofString ""), (PySem.Str.ofString "0"), (PySem.Str.ofString "1"), (PySem.Str.ofString "2"), (PySem.Str.ofString "3"), (PySem.Str.ofString ","), (PySem.Str.ofString " "), (PySem.Str.ofString ",,"), (PySem.Str.ofString "6"), (PySem.Str.ofString "7"), (PySem.Str.ofString "a"), (PySem.Str.ofString "-")] : List PySem.Str)) fun c_11 => bnd (n_law_draw_v2 a_script c_11.2 (2 : Int)) fun c_12 => bnd (((takeS c_10.1 s_8.1) ++ c_11.1) ++ (dropS (c_10.1 + c_12.1) s_8.1)) fun text_13 => (text_13, c_12.2)) (fun (s_8 : PySem.Str × (List Int)) (k_9 : Int) => (s_8.1.length ≤ PySem.sizeLine) ∧ (n_law_draw_v2_ok a_script s_8.2 ((s_8.1.length : Int) + (1 : Int))) ∧ (bnd (n_law_draw_v2 a_script s_8.2 ((s_8.1.length : Int) + (1 : Int))) fun c_10 => (n_law_pick_v2_i1_ok a_script c_10.2 ([(PySem.Str.ofString ""), (PySem.Str.ofString "0"), (PySem.Str.ofString "1"), (PySem.Str.ofString "2"), (PySem.Str.ofString "3"), (PySem.Str.ofString ","), (PySem.Str.ofString " "), (PySem.Str.ofString ",,"), (PySem.Str.ofString "6"), (PySem.Str.ofString "7"), (PySem.Str.ofString "a"), (PySem.Str.ofString "-")] : List PySem.Str)) ∧ (bnd (n_law_pick_v2_i1 a_script c_10.2 ([(PySem.Str.ofString ""), (PySem.Str.ofString "0"), (PySem.Str.ofString "1"), (PySem.Str.ofString "2"), (PySem.Str.ofString "3"), (PySem.Str.ofString ","), (PySem.Str.ofString " "), (PySem.Str.ofString ",,"), (PySem.Str.ofString "6"), (PySem.Str.ofString "7"), (PySem.Str.ofString "a"), (PySem.Str.ofString "-")] : List PySem.Str)) fun c_11 => (0 ≤ c_10.1) ∧ (s_8.1.length ≤ PySem.sizeLine) ∧ ((takeS c_10.1 s_8.1).length + c_11.1.length ≤ PySem.sizeLine) ∧ (n_law_draw_v2_ok a_script c_11.2 (2 : Int)) ∧ (bnd (n_law_draw_v2 a_script c_11.2 (2 : Int)) fun c_12 => (0 ≤ (c_10.1 + c_12.1)) ∧ (s_8.1.length ≤ PySem.sizeLine) ∧ (((takeS c_10.1 s_8.1) ++ c_11.1).length + (dropS (c_10.1 + c_12.1) s_8.1).length ≤ PySem.sizeLine))))) (rangeI c_2.1) (text_7, c_5.2)) ∧ (bnd (List.foldl (fun (s_8 : PySem.Str × (List Int)) (k_9 : Int) => bnd (n_law_draw_v2 a_script s_8.2 ((s_8.1.length : Int) + (1 : Int))) fun c_10 => bnd (n_law_pick_v2_i1 a_script c_10.2 ([(PySem.Str.ofString ""), (PySem.Str.ofString "0"), (PySem.Str.ofString "1"), (PySem.Str.ofString "2"), (PySem.Str.ofString "3"), (PySem.Str.ofString ","), (PySem.Str.ofString " "), (PySem.Str.ofString ",,"), (PySem.Str.ofString "6"), (PySem.Str.ofString "7"), (PySem.Str.ofString "a"), (PySem.Str.ofString "-")] : List PySem.Str)) fun c_11 => bnd (n_law_draw_v2 a_script c_11.2 (2 : Int)) fun c_12 => bnd (((takeS c_10.1 s_8.1) ++ c_11.1) ++ (dropS (c_10.1 + c_12.1) s_8.1)) fun text_13 => (text_13, c_12.2)) (text_7, c_5.2) (rangeI c_2.1)) fun l_14 => (((PySem.Str.ofString ",").length == 0) = false ∧ l_14.1.length + 2 ≤ PySem.sizeLine) ∧ (∀ word_15 ∈ (PySem.Txt.split l_14.1 (PySem.Str.ofString ",")), (word_15.length ≤ PySem.sizeLine) ∧ (∀ sign_16 ∈ (signsS word_15), (inT sign_16 (PySem.Str.ofString "0123456789")) = true → (PySem.intText? sign_16).isSome = true ∧ sign_16.length ≤ 640)) ∧ (bnd (List.map (fun word_15 : PySem.Str => (List.map (fun sign_16 : PySem.Str => (if (inT sign_16 (PySem.Str.ofString "0123456789")) = true then (intS sign_16) else (-1 : Int))) (signsS word_15))) (PySem.Txt.split l_14.1 (PySem.Str.ofString ","))) fun hands_17 => (∀ hand_18 ∈ hands_17, (0 ≤ (0 : Int) ∧ (0 : Int) < c_3.1.length) ∧ (n_law_picks_ok many_4 (atI c_3.1 (0 : Int)))) ∧ (bnd (decide ((List.map (fun hand_18 : (List Int) => hand_18) (List.filter (fun hand_18 : (List Int) => (!memB hand_18 (n_law_picks many_4 (atI c_3.1 (0 : Int))))) hands_17)) = ([] : List (List Int)))) fun good_19 => (good_19 = true → setOk hands_17 = true) ∧ (bnd (good_19 && (decide (hands_17 = (setSort hands_17)))) fun good_20 => (n_law_pick_v2_i2_ok a_script l_14.2 ([(eN ()), (eS (PySem.Str.ofString "")), (eI (5 : Int)), (eS (PySem.Str.ofString ",")), ((eT eS) ([(PySem.Str.ofString "01")] : List PySem.Str)), (eS (PySem.Str.ofString "01 23")), (eS (PySem.Str.ofString " 0"))] : List D)) ∧ (bnd (n_law_pick_v2_i2 a_script l_14.2 ([(eN ()), (eS (PySem.Str.ofString "")), (eI (5 : Int)), (eS (PySem.Str.ofString ",")), ((eT eS) ([(PySem.Str.ofString "01")] : List PySem.Str)), (eS (PySem.Str.ofString "01 23")), (eS (PySem.Str.ofString " 0"))] : List D)) fun c_21 => (n_law_ask_v12_i1_ok c_3.1 c_21.1) ∧ (PySem.SeqAt.shaped (n_law_ask_v12_i1 c_3.1 c_21.1) = true ∧ PySem.SeqAt.shaped ((eP eS eI) ((PySem.Str.ofString "refused"), (11 : Int))) = true) ∧ ((!PySem.PyData.eqv (n_law_ask_v12_i1 c_3.1 c_21.1) ((eP eS eI) ((PySem.Str.ofString "refused"), (11 : Int)))) = false → (n_law_odd_world_ok a_script c_21.2) ∧ (bnd (n_law_odd_world a_script c_21.2) fun c_22 => (n_law_ask_v12_i2_ok c_22.1 l_14.1) ∧ (PySem.SeqAt.shaped (n_law_ask_v12_i2 c_22.1 l_14.1) = true ∧ PySem.SeqAt.shaped ((eP eS eI) ((PySem.Str.ofString "refused"), (0 : Int))) = true))) ∧ (bnd (if (!PySem.PyData.eqv (n_law_ask_v12_i1 c_3.1 c_21.1) ((eP eS eI) ((PySem.Str.ofString "refused"), (11 : Int)))) = true then (true, c_21.2) else (bnd (n_law_odd_world a_script c_21.2) fun c_22 => ((!PySem.PyData.eqv (n_law_ask_v12_i2 c_22.1 l_14.1) ((eP eS eI) ((PySem.Str.ofString "refused"), (0 : Int)))), c_22.2) : Bool × ((List Int)))) fun q_23 => q_23.1 = false → (n_law_ask_v12_ok c_3.1 l_14.1) ∧ (PySem.SeqAt.shaped (n_law_ask_v12 c_3.1 l_14.1) = true ∧ PySem.SeqAt.shaped (if good_20 = true then ((eT (eT eI)) hands_17) else ((eP eS eI) ((PySem.Str.ofString "refused"), (11 : Int)))) = true)))))))))))
@[reducible] def O_law (z : Bool) : O := .rt (Sp.fr (eB z)) [Sp.nn]
theorem t_law {k : Nat} (hk : 6 ≤ k) (a_script : (List Int)) (h : n_law_ok a_script) : CallO (run U k) 200 [(Sp.fr ((eL eI) a_script))] O_law (n_law a_script) := by
  cases k with
  | zero => exact absurd hk (by omega)
  | succ k => exact fn_of (d := d_law) rfl rfl (A0 := [(Sp.fr ((eL eI) a_script)), Sp.nn, Sp.nn, Sp.nn, Sp.nn, Sp.nn, Sp.nn, Sp.nn, Sp.nn, Sp.nn, Sp.nn, Sp.nn, Sp.nn, Sp.nn, Sp.nn]) (OB := (fun z : Bool => O.rt (Sp.fr (eB z)) [Sp.any, Sp.any, Sp.any, Sp.any, Sp.any, Sp.any, Sp.any, Sp.any, Sp.any, Sp.any, Sp.any, Sp.any, Sp.any, Sp.any, Sp.any])) rfl (xt_asgB (S := fun z : (List Int) => (Sp.ow (List.map eI z))) (ev_lst es_nil) fun town_1 e_town_1 => (xt_bnd fun c_2 e_c_2 => (xt_asg (ev_callS (OF := O_law_draw_v2) (n := c_2) (A2 := [(Sp.fr ((eL eI) a_script)), (Sp.ow (List.map eI c_2.2)), Sp.nn, Sp.nn, Sp.nn, Sp.nn, Sp.nn, Sp.nn, Sp.nn, Sp.nn, Sp.nn, Sp.nn, Sp.nn, Sp.nn, Sp.nn]) (ea_val rfl (EV.ef rfl (ev_varF rfl)) (ea_slot rfl rfl rfl (ea_val rfl (EV.ef rfl ev_cst) ea_nil))) (CallO.eq e_c_2 (t_law_draw_v2 (by omega) a_script town_1 (3 : Int) (And.left (bnd_at (p := town_1) e_town_1 h)))) rfl rfl rfl) (xt_bnd fun c_3 e_c_3 => (xt_asg (ev_callS (OF := O_law_world_v2) (n := c_3) (A2 := [(Sp.fr ((eL eI) a_script)), (Sp.ow (List.map eI c_3.2)), (Sp.fr (eI c_2.1)), Sp.nn, Sp.nn, Sp.nn, Sp.nn, Sp.nn, Sp.nn, Sp.nn, Sp.nn, Sp.nn, Sp.nn, Sp.nn, Sp.nn]) (ea_val rfl (EV.ef rfl (ev_varF rfl)) (ea_slot rfl rfl rfl ea_nil)) (CallO.eq e_c_3 (t_law_world_v2 (by omega) a_script c_2.2 (And.left (bnd_at (p := c_2) e_c_2 (And.right (bnd_at (p := town_1) e_town_1 h)))))) rfl rfl rfl) (xt_asgB (S := fun z : Int => (Sp.fr (eI z))) (ev_primF (eo_var rfl rfl eo_nil rfl rfl) (p_sumT c_3.1)) fun many_4 e_many_4 => (xt_bnd fun c_5 e_c_5 => (xt_asgB (S := fun z : PySem.Str => (Sp.fr (eS z))) (ev_callP (OF := O_line_text) (n := Except.ok (getOk (n_line_text c_3.1 c_5.1))) (ea_val rfl (EV.ef rfl (ev_varF rfl)) (ea_val rfl (EV.ef rfl (ev_callS (OF := O_law_line_v2) (n := c_5) (A2 := [(Sp.fr ((eL eI) a_script)), (Sp.ow (List.map eI c_5.2)), (Sp.fr (eI c_2.1)), (Sp.fr ((eT eI) c_3.1)), (Sp.fr (eI many_4)), Sp.nn, Sp.nn, Sp.nn, Sp.nn, Sp.nn, Sp.nn, Sp.nn, Sp.nn, Sp.nn, Sp.nn]) (ea_val rfl (EV.ef rfl (ev_varF rfl)) (ea_slot rfl rfl rfl (ea_val rfl (EV.ef rfl (ev_varF rfl)) (ea_val rfl (EV.ef rfl (ev_primF (eo_var rfl rfl (eo_val rfl (EV.ef rfl ev_cst) eo_nil) rfl rfl) (p_itemT eI c_3.1 (0 : Int) (And.left (bnd_at (p := many_4) e_many_4 (bnd_at (p := c_3) e_c_3 (And.right (bnd_at (p := c_2) e_c_2 (And.right (bnd_at (p := town_1) e_town_1 h)))))))))) (ea_val rfl (EV.ef rfl ev_cst) ea_nil))))) (CallO.eq e_c_5 (t_law_line_v2 (by omega) a_script c_3.2 many_4 (atI c_3.1 (0 : Int)) (6 : Int) (And.left (And.right (bnd_at (p := many_4) e_many_4 (bnd_at (p := c_3) e_c_3 (And.right (bnd_at (p := c_2) e_c_2 (And.right (bnd_at (p := town_1) e_town_1 h)))))))))) rfl rfl rfl)) ea_nil)) (CallO.eq2 (ok_get (And.left (And.right (bnd_at (p := c_5) e_c_5 (And.right (And.right (bnd_at (p := many_4) e_many_4 (bnd_at (p := c_3) e_c_3 (And.right (bnd_at (p := c_2) e_c_2 (And.right (bnd_at (p := town_1) e_town_1 h)))))))))))) (t_line_text (by omega) c_3.1 c_5.1 (And.left (bnd_at (p := c_5) e_c_5 (And.right (And.right (bnd_at (p := many_4) e_many_4 (bnd_at (p := c_3) e_c_3 (And.right (bnd_at (p := c_2) e_c_2 (And.right (bnd_at (p := town_1) e_town_1 h)))))))))))) rfl rfl rfl) fun text_7 e_text_7 => (xt_for (AH := (fun s_8 : PySem.Str × (List Int) => [(Sp.fr ((eL eI) a_script)), (Sp.ow (List.map eI s_8.2)), (Sp.fr (eI c_2.1)), (Sp.fr ((eT eI) c_3.1)), (Sp.fr (eI many_4)), (Sp.fr (eS s_8.1)), Sp.nn, Sp.nn, Sp.nn, Sp.nn, Sp.any, Sp.any, Sp.nn, Sp.nn, Sp.nn])) (f := (fun (s_8 : PySem.Str × (List Int)) (k_9 : Int) => bnd (n_law_draw_v2 a_script s_8.2 ((s_8.1.length : Int) + (1 : Int))) fun c_10 => bnd (n_law_pick_v2_i1 a_script c_10.2 ([(PySem.Str.ofString ""), (PySem.Str.ofString "0"), (PySem.Str.ofString "1"), (PySem.Str.ofString "2"), (PySem.Str.ofString "3"), (PySem.Str.ofString ","), (PySem.Str.ofString " "), (PySem.Str.ofString ",,"), (PySem.Str.ofString "6"), (PySem.Str.ofString "7"), (PySem.Str.ofString "a"), (PySem.Str.ofString "-")] : List PySem.Str)) fun c_11 => bnd (n_law_draw_v2 a_script c_11.2 (2 : Int)) fun c_12 => bnd (((takeS c_10.1 s_8.1) ++ c_11.1) ++ (dropS (c_10.1 + c_12.1) s_8.1)) fun text_13 => (text_13, c_12.2))) (p := (fun (s_8 : PySem.Str × (List Int)) (k_9 : Int) => (s_8.1.length ≤ PySem.sizeLine) ∧ (n_law_draw_v2_ok a_script s_8.2 ((s_8.1.length : Int) + (1 : Int))) ∧ (bnd (n_law_draw_v2 a_script s_8.2 ((s_8.1.length : Int) + (1 : Int))) fun c_10 => (n_law_pick_v2_i1_ok a_script c_10.2 ([(PySem.Str.ofString ""), (PySem.Str.ofString "0"), (PySem.Str.ofString "1"), (PySem.Str.ofString "2"), (PySem.Str.ofString "3"), (PySem.Str.ofString ","), (PySem.Str.ofString " "), (PySem.Str.ofString ",,"), (PySem.Str.ofString "6"), (PySem.Str.ofString "7"), (PySem.Str.ofString "a"), (PySem.Str.ofString "-")] : List PySem.Str)) ∧ (bnd (n_law_pick_v2_i1 a_script c_10.2 ([(PySem.Str.ofString ""), (PySem.Str.ofString "0"), (PySem.Str.ofString "1"), (PySem.Str.ofString "2"), (PySem.Str.ofString "3"), (PySem.Str.ofString ","), (PySem.Str.ofString " "), (PySem.Str.ofString ",,"), (PySem.Str.ofString "6"), (PySem.Str.ofString "7"), (PySem.Str.ofString "a"), (PySem.Str.ofString "-")] : List PySem.Str)) fun c_11 => (0 ≤ c_10.1) ∧ (s_8.1.length ≤ PySem.sizeLine) ∧ ((takeS c_10.1 s_8.1).length + c_11.1.length ≤ PySem.sizeLine) ∧ (n_law_draw_v2_ok a_script c_11.2 (2 : Int)) ∧ (bnd (n_law_draw_v2 a_script c_11.2 (2 : Int)) fun c_12 => (0 ≤ (c_10.1 + c_12.1)) ∧ (s_8.1.length ≤ PySem.sizeLine) ∧ (((takeS c_10.1 s_8.1) ++ c_11.1).length + (dropS (c_10.1 + c_12.1) s_8.1).length ≤ PySem.sizeLine)))))) (ei_rng1 (EV.ef rfl (ev_varF rfl)) (And.left (bnd_at (p := text_7) e_text_7 (And.right (And.right (bnd_at (p := c_5) e_c_5 (And.right (And.right (bnd_at (p := many_4) e_many_4 (bnd_at (p := c_3) e_c_3 (And.right (bnd_at (p := c_2) e_c_2 (And.right (bnd_at (p := town_1) e_town_1 h)))))))))))))) (sb_cons le_rfl (sb_cons le_rfl (sb_cons le_rfl (sb_cons le_rfl (sb_cons le_rfl (sb_cons le_rfl (sb_cons (le_nn rfl) (sb_cons le_rfl (sb_cons le_rfl (sb_cons le_rfl (sb_cons le_any (sb_cons le_any (sb_cons le_rfl (sb_cons le_rfl (sb_cons le_rfl sb_nil))))))))))))))) (And.left (And.right (bnd_at (p := text_7) e_text_7 (And.right (And.right (bnd_at (p := c_5) e_c_5 (And.right (And.right (bnd_at (p := many_4) e_many_4 (bnd_at (p := c_3) e_c_3 (And.right (bnd_at (p := c_2) e_c_2 (And.right (bnd_at (p := town_1) e_town_1 h)))))))))))))) (fun s_8 k_9 _ h_1777 => ⟨_, rfl, (xt_bnd fun c_10 e_c_10 => (xt_asg (ev_callS (OF := O_law_draw_v2) (n := c_10) (A2 := [(Sp.fr ((eL eI) a_script)), (Sp.ow (List.map eI c_10.2)), (Sp.fr (eI c_2.1)), (Sp.fr ((eT eI) c_3.1)), (Sp.fr (eI many_4)), (Sp.fr (eS s_8.1)), (Sp.fr (eI k_9)), Sp.nn, Sp.nn, Sp.nn, Sp.any, Sp.any, Sp.nn, Sp.nn, Sp.nn]) (ea_val rfl (EV.ef rfl (ev_varF rfl)) (ea_slot rfl rfl rfl (ea_val rfl (EV.ef rfl (ev_primF (eo_val rfl (EV.ef rfl (ev_primF (eo_var rfl rfl eo_nil rfl rfl) (p_lenS s_8.1 (And.left h_1777)))) (eo_val rfl (EV.ef rfl ev_cst) eo_nil)) (p_addI (s_8.1.length : Int) (1 : Int)))) ea_nil))) (CallO.eq e_c_10 (t_law_draw_v2 (by omega) a_script s_8.2 ((s_8.1.length : Int) + (1 : Int)) (And.left (And.right h_1777)))) rfl rfl rfl) (xt_bnd fun c_11 e_c_11 => (xt_asg (ev_callS (OF := O_law_pick_v2_i1) (n := c_11) (A2 := [(Sp.fr ((eL eI) a_script)), (Sp.ow (List.map eI c_11.2)), (Sp.fr (eI c_2.1)), (Sp.fr ((eT eI) c_3.1)), (Sp.fr (eI many_4)), (Sp.fr (eS s_8.1)), (Sp.fr (eI k_9)), Sp.nn, Sp.nn, Sp.nn, (Sp.fr (eI c_10.1)), Sp.any, Sp.nn, Sp.nn, Sp.nn]) (ea_val rfl (EV.ef rfl (ev_varF rfl)) (ea_slot rfl rfl rfl (ea_val rfl (EV.ef rfl (ev_lst (es_cons (EV.ef rfl ev_cst) (es_cons (EV.ef rfl ev_cst) (es_cons (EV.ef rfl ev_cst) (es_cons (EV.ef rfl ev_cst) (es_cons (EV.ef rfl ev_cst) (es_cons (EV.ef rfl ev_cst) (es_cons (EV.ef rfl ev_cst) (es_cons (EV.ef rfl ev_cst) (es_cons (EV.ef rfl ev_cst) (es_cons (EV.ef rfl ev_cst) (es_cons (EV.ef rfl ev_cst) (es_cons (EV.ef rfl ev_cst) es_nil)))))))))))))) ea_nil))) (CallO.eq e_c_11 (t_law_pick_v2_i1 (by omega) a_script c_10.2 ([(PySem.Str.ofString ""), (PySem.Str.ofString "0"), (PySem.Str.ofString "1"), (PySem.Str.ofString "2"), (PySem.Str.ofString "3"), (PySem.Str.ofString ","), (PySem.Str.ofString " "), (PySem.Str.ofString ",,"), (PySem.Str.ofString "6"), (PySem.Str.ofString "7"), (PySem.Str.ofString "a"), (PySem.Str.ofString "-")] : List PySem.Str) (And.left (bnd_at (p := c_10) e_c_10 (And.right (And.right h_1777)))))) rfl rfl rfl) (xt_bnd fun c_12 e_c_12 => (xt_asgB (S := fun z : PySem.Str => (Sp.fr (eS z))) (ev_primF (eo_val rfl (EV.ef rfl (ev_primF (eo_val rfl (EV.ef rfl (ev_primF (eo_var rfl rfl (eo_var rfl rfl eo_nil rfl rfl) rfl rfl) (p_slHiS s_8.1 c_10.1 (And.left (bnd_at (p := c_11) e_c_11 (And.right (bnd_at (p := c_10) e_c_10 (And.right (And.right h_1777)))))) (And.left (And.right (bnd_at (p := c_11) e_c_11 (And.right (bnd_at (p := c_10) e_c_10 (And.right (And.right h_1777)))))))))) (eo_var rfl rfl eo_nil rfl rfl)) (p_addS (takeS c_10.1 s_8.1) c_11.1 (And.left (And.right (And.right (bnd_at (p := c_11) e_c_11 (And.right (bnd_at (p := c_10) e_c_10 (And.right (And.right h_1777))))))))))) (eo_val rfl (EV.ef rfl (ev_primF (eo_var rfl rfl (eo_val rfl (EV.ef rfl (ev_primF (eo_var rfl rfl (eo_val rfl (EV.ef rfl (ev_callS (OF := O_law_draw_v2) (n := c_12) (A2 := [(Sp.fr ((eL eI) a_script)), (Sp.ow (List.map eI c_12.2)), (Sp.fr (eI c_2.1)), (Sp.fr ((eT eI) c_3.1)), (Sp.fr (eI many_4)), (Sp.fr (eS s_8.1)), (Sp.fr (eI k_9)), Sp.nn, Sp.nn, Sp.nn, (Sp.fr (eI c_10.1)), (Sp.fr (eS c_11.1)), Sp.nn, Sp.nn, Sp.nn]) (ea_val rfl (EV.ef rfl (ev_varF rfl)) (ea_slot rfl rfl rfl (ea_val rfl (EV.ef rfl ev_cst) ea_nil))) (CallO.eq e_c_12 (t_law_draw_v2 (by omega) a_script c_11.2 (2 : Int) (And.left (And.right (And.right (And.right (bnd_at (p := c_11) e_c_11 (And.right (bnd_at (p := c_10) e_c_10 (And.right (And.right h_1777))))))))))) rfl rfl rfl)) eo_nil) rfl rfl) (p_addI c_10.1 c_12.1))) eo_nil) rfl rfl) (p_slLoS s_8.1 (c_10.1 + c_12.1) (And.left (bnd_at (p := c_12) e_c_12 (And.right (And.right (And.right (And.right (bnd_at (p := c_11) e_c_11 (And.right (bnd_at (p := c_10) e_c_10 (And.right (And.right h_1777))))))))))) (And.left (And.right (bnd_at (p := c_12) e_c_12 (And.right (And.right (And.right (And.right (bnd_at (p := c_11) e_c_11 (And.right (bnd_at (p := c_10) e_c_10 (And.right (And.right h_1777))))))))))))))) eo_nil)) (p_addS ((takeS c_10.1 s_8.1) ++ c_11.1) (dropS (c_10.1 + c_12.1) s_8.1) (And.right (And.right (bnd_at (p := c_12) e_c_12 (And.right (And.right (And.right (And.right (bnd_at (p := c_11) e_c_11 (And.right (bnd_at (p := c_10) e_c_10 (And.right (And.right h_1777)))))))))))))) fun text_13 e_text_13 => (xt_nil (Imp.nx (sb_cons le_rfl (sb_cons le_rfl (sb_cons le_rfl (sb_cons le_rfl (sb_cons le_rfl (sb_cons le_rfl (sb_cons (le_nn rfl) (sb_cons le_rfl (sb_cons le_rfl (sb_cons le_rfl (sb_cons le_any (sb_cons le_any (sb_cons le_rfl (sb_cons le_rfl (sb_cons le_rfl sb_nil)))))))))))))))))))))))⟩) fun l_14 e_l_14 => (xt_asgB (S := fun z : (List (List Int)) => (Sp.ow (List.map (eT eI) z))) (ev_comp1 (f := fun word_15 : PySem.Str => (List.map (fun sign_16 : PySem.Str => (if (inT sign_16 (PySem.Str.ofString "0123456789")) = true then (intS sign_16) else (-1 : Int))) (signsS word_15))) (ey := (eT eI)) (ei_seqL (ex := eS) (xs := (PySem.Txt.split l_14.1 (PySem.Str.ofString ","))) (EV.ef rfl (ev_primO (eo_var rfl rfl eo_nil rfl rfl) (p_split (PySem.Str.ofString ",") l_14.1 (And.left (bnd_at (p := l_14) e_l_14 (And.right (And.right (bnd_at (p := text_7) e_text_7 (And.right (And.right (bnd_at (p := c_5) e_c_5 (And.right (And.right (bnd_at (p := many_4) e_many_4 (bnd_at (p := c_3) e_c_3 (And.right (bnd_at (p := c_2) e_c_2 (And.right (bnd_at (p := town_1) e_town_1 h)))))))))))))))))))) rfl (fun word_15 m_1785 => ⟨_, rfl, (EV.ef rfl (ev_primF (eo_val rfl (EV.ef rfl (ev_comp1 (f := fun sign_16 : PySem.Str => (if (inT sign_16 (PySem.Str.ofString "0123456789")) = true then (intS sign_16) else (-1 : Int))) (ey := eI) (ei_seqS (EV.ef rfl (ev_varF rfl)) (And.left ((And.left (And.right (bnd_at (p := l_14) e_l_14 (And.right (And.right (bnd_at (p := text_7) e_text_7 (And.right (And.right (bnd_at (p := c_5) e_c_5 (And.right (And.right (bnd_at (p := many_4) e_many_4 (bnd_at (p := c_3) e_c_3 (And.right (bnd_at (p := c_2) e_c_2 (And.right (bnd_at (p := town_1) e_town_1 h))))))))))))))))) word_15 m_1785))) rfl (fun sign_16 m_1786 => ⟨_, rfl, (EV.ef rfl (ev_ite (S := fun z : Int => (Sp.fr (eI z))) (T := fun _ => [(Sp.fr ((eL eI) a_script)), (Sp.ow (List.map eI l_14.2)), (Sp.fr (eI c_2.1)), (Sp.fr ((eT eI) c_3.1)), (Sp.fr (eI many_4)), (Sp.fr (eS l_14.1)), Sp.nn, Sp.nn, Sp.nn, Sp.nn, Sp.any, Sp.any, (Sp.fr (eS word_15)), Sp.nn, (Sp.fr (eS sign_16))]) (EV.eb rfl (ev_primF (eo_var rfl rfl (eo_val rfl (EV.ef rfl ev_cst) eo_nil) rfl rfl) (p_inS sign_16 (PySem.Str.ofString "0123456789")))) (fun h_1789 => (ev_primF (eo_var rfl rfl eo_nil rfl rfl) (p_intS sign_16 (((And.right ((And.left (And.right (bnd_at (p := l_14) e_l_14 (And.right (And.right (bnd_at (p := text_7) e_text_7 (And.right (And.right (bnd_at (p := c_5) e_c_5 (And.right (And.right (bnd_at (p := many_4) e_many_4 (bnd_at (p := c_3) e_c_3 (And.right (bnd_at (p := c_2) e_c_2 (And.right (bnd_at (p := town_1) e_town_1 h))))))))))))))))) word_15 m_1785)) sign_16 m_1786) h_1789)))) (fun h_1790 => ev_cst))), sb_rfl⟩) sb_rfl)) eo_nil) (p_tupL eI (List.map (fun sign_16 : PySem.Str => (if (inT sign_16 (PySem.Str.ofString "0123456789")) = true then (intS sign_16) else (-1 : Int))) (signsS word_15))))), sb_rfl⟩) sb_rfl) fun hands_17 e_hands_17 => (xt_asgB (S := fun z : Bool => (Sp.fr (eB z))) (ev_primF (eo_val rfl (EV.ef rfl (ev_comp (c := fun hand_18 : (List Int) => (!memB hand_18 (n_law_picks many_4 (atI c_3.1 (0 : Int))))) (f := fun hand_18 : (List Int) => hand_18) (ey := (eT eI)) (ei_seqL (ex := (eT eI)) (xs := hands_17) (EV.ef rfl (ev_varO rfl))) rfl (fun hand_18 m_1796 => ⟨_, rfl, (EV.eb rfl (ev_primF (eo_var rfl rfl (eo_val rfl (EV.ef rfl (ev_callP (OF := O_law_picks) (n := (n_law_picks many_4 (atI c_3.1 (0 : Int)))) (ea_val rfl (EV.ef rfl (ev_varF rfl)) (ea_val rfl (EV.ef rfl (ev_primF (eo_var rfl rfl (eo_val rfl (EV.ef rfl ev_cst) eo_nil) rfl rfl) (p_itemT eI c_3.1 (0 : Int) (And.left ((And.left (bnd_at (p := hands_17) e_hands_17 (And.right (And.right (bnd_at (p := l_14) e_l_14 (And.right (And.right (bnd_at (p := text_7) e_text_7 (And.right (And.right (bnd_at (p := c_5) e_c_5 (And.right (And.right (bnd_at (p := many_4) e_many_4 (bnd_at (p := c_3) e_c_3 (And.right (bnd_at (p := c_2) e_c_2 (And.right (bnd_at (p := town_1) e_town_1 h))))))))))))))))))) hand_18 m_1796))))) ea_nil)) (t_law_picks (by omega) many_4 (atI c_3.1 (0 : Int)) (And.right ((And.left (bnd_at (p := hands_17) e_hands_17 (And.right (And.right (bnd_at (p := l_14) e_l_14 (And.right (And.right (bnd_at (p := text_7) e_text_7 (And.right (And.right (bnd_at (p := c_5) e_c_5 (And.right (And.right (bnd_at (p := many_4) e_many_4 (bnd_at (p := c_3) e_c_3 (And.right (bnd_at (p := c_2) e_c_2 (And.right (bnd_at (p := town_1) e_town_1 h))))))))))))))))))) hand_18 m_1796))) rfl rfl rfl)) eo_nil) rfl rfl) (p_niL (eT eI) hand_18 (n_law_picks many_4 (atI c_3.1 (0 : Int)))))), fun h_1797 => (EV.ef rfl (ev_varF rfl)), sb_rfl⟩) sb_rfl)) (eo_val rfl (EV.ef rfl (ev_lst es_nil)) eo_nil)) (p_eq (eL (eT eI)) (List.map (fun hand_18 : (List Int) => hand_18) (List.filter (fun hand_18 : (List Int) => (!memB hand_18 (n_law_picks many_4 (atI c_3.1 (0 : Int))))) hands_17)) ([] : List (List Int)))) fun good_19 e_good_19 => (xt_asgB (S := fun z : Bool => (Sp.fr (eB z))) (ev_andV (EV.eb rfl (ev_varF rfl)) fun h_1799 => (ev_primF (eo_var rfl rfl (eo_val rfl (EV.ef rfl (ev_primO (eo_var rfl rfl eo_nil rfl rfl) (p_sortSet hands_17 ((And.left (bnd_at (p := good_19) e_good_19 (And.right (bnd_at (p := hands_17) e_hands_17 (And.right (And.right (bnd_at (p := l_14) e_l_14 (And.right (And.right (bnd_at (p := text_7) e_text_7 (And.right (And.right (bnd_at (p := c_5) e_c_5 (And.right (And.right (bnd_at (p := many_4) e_many_4 (bnd_at (p := c_3) e_c_3 (And.right (bnd_at (p := c_2) e_c_2 (And.right (bnd_at (p := town_1) e_town_1 h))))))))))))))))))))) h_1799)))) eo_nil) rfl rfl) (p_eq (eL (eT eI)) hands_17 (setSort hands_17)))) fun good_20 e_good_20 => (xt_bnd fun c_21 e_c_21 => (xt_asg (ev_callS (OF := O_law_pick_v2_i2) (n := c_21) (A2 := [(Sp.fr ((eL eI) a_script)), (Sp.ow (List.map eI c_21.2)), (Sp.fr (eI c_2.1)), (Sp.fr ((eT eI) c_3.1)), (Sp.fr (eI many_4)), (Sp.fr (eS l_14.1)), Sp.nn, (Sp.fr ((eL (eT eI)) hands_17)), (Sp.fr (eB good_20)), Sp.nn, Sp.any, Sp.any, Sp.nn, Sp.nn, Sp.nn]) (ea_val rfl (EV.ef rfl (ev_varF rfl)) (ea_slot rfl rfl rfl (ea_val rfl (EV.ef rfl (ev_lst (es_cons (EV.ef rfl ev_cst) (es_cons (EV.ef rfl ev_cst) (es_cons (EV.ef rfl ev_cst) (es_cons (EV.ef rfl ev_cst) (es_cons (EV.ef rfl (ev_tup (es_cons (EV.ef rfl ev_cst) es_nil))) (es_cons (EV.ef rfl ev_cst) (es_cons (EV.ef rfl ev_cst) es_nil))))))))) ea_nil))) (CallO.eq e_c_21 (t_law_pick_v2_i2 (by omega) a_script l_14.2 ([(eN ()), (eS (PySem.Str.ofString "")), (eI (5 : Int)), (eS (PySem.Str.ofString ",")), ((eT eS) ([(PySem.Str.ofString "01")] : List PySem.Str)), (eS (PySem.Str.ofString "01 23")), (eS (PySem.Str.ofString " 0"))] : List D) (And.left (bnd_at (p := good_20) e_good_20 (And.right (bnd_at (p := good_19) e_good_19 (And.right (bnd_at (p := hands_17) e_hands_17 (And.right (And.right (bnd_at (p := l_14) e_l_14 (And.right (And.right (bnd_at (p := text_7) e_text_7 (And.right (And.right (bnd_at (p := c_5) e_c_5 (And.right (And.right (bnd_at (p := many_4) e_many_4 (bnd_at (p := c_3) e_c_3 (And.right (bnd_at (p := c_2) e_c_2 (And.right (bnd_at (p := town_1) e_town_1 h))))))))))))))))))))))))) rfl rfl rfl) (xt_bnd fun q_23 e_q_23 => (xt_if (eb_at (S := fun z : Bool × ((List Int)) => z.1) (T := fun z => (fun z_1818 : (List Int) => [(Sp.fr ((eL eI) a_script)), (Sp.ow (List.map eI z_1818)), (Sp.fr (eI c_2.1)), (Sp.fr ((eT eI) c_3.1)), (Sp.fr (eI many_4)), (Sp.fr (eS l_14.1)), Sp.nn, (Sp.fr ((eL (eT eI)) hands_17)), (Sp.fr (eB good_20)), (Sp.fr (eD c_21.1)), Sp.any, Sp.any, Sp.nn, Sp.nn, Sp.nn]) z.2) e_q_23 (eb_orN (T := (fun z_1818 : (List Int) => [(Sp.fr ((eL eI) a_script)), (Sp.ow (List.map eI z_1818)), (Sp.fr (eI c_2.1)), (Sp.fr ((eT eI) c_3.1)), (Sp.fr (eI many_4)), (Sp.fr (eS l_14.1)), Sp.nn, (Sp.fr ((eL (eT eI)) hands_17)), (Sp.fr (eB good_20)), (Sp.fr (eD c_21.1)), Sp.any, Sp.any, Sp.nn, Sp.nn, Sp.nn])) (EV.eb rfl (ev_primF (eo_val rfl (EV.ef rfl (ev_callP (OF := O_law_ask_v12_i1) (n := (n_law_ask_v12_i1 c_3.1 c_21.1)) (ea_val rfl (EV.ef rfl (ev_varF rfl)) (ea_val rfl (EV.ef rfl (ev_varF rfl)) ea_nil)) (t_law_ask_v12_i1 (by omega) c_3.1 c_21.1 (And.left (bnd_at (p := c_21) e_c_21 (And.right (bnd_at (p := good_20) e_good_20 (And.right (bnd_at (p := good_19) e_good_19 (And.right (bnd_at (p := hands_17) e_hands_17 (And.right (And.right (bnd_at (p := l_14) e_l_14 (And.right (And.right (bnd_at (p := text_7) e_text_7 (And.right (And.right (bnd_at (p := c_5) e_c_5 (And.right (And.right (bnd_at (p := many_4) e_many_4 (bnd_at (p := c_3) e_c_3 (And.right (bnd_at (p := c_2) e_c_2 (And.right (bnd_at (p := town_1) e_town_1 h)))))))))))))))))))))))))) rfl rfl rfl)) (eo_val rfl (EV.ef rfl (ev_tup (es_cons (EV.ef rfl ev_cst) (es_cons (EV.ef rfl ev_cst) es_nil)))) eo_nil)) (p_neD (n_law_ask_v12_i1 c_3.1 c_21.1) ((eP eS eI) ((PySem.Str.ofString "refused"), (11 : Int))) (And.left (And.right (bnd_at (p := c_21) e_c_21 (And.right (bnd_at (p := good_20) e_good_20 (And.right (bnd_at (p := good_19) e_good_19 (And.right (bnd_at (p := hands_17) e_hands_17 (And.right (And.right (bnd_at (p := l_14) e_l_14 (And.right (And.right (bnd_at (p := text_7) e_text_7 (And.right (And.right (bnd_at (p := c_5) e_c_5 (And.right (And.right (bnd_at (p := many_4) e_many_4 (bnd_at (p := c_3) e_c_3 (And.right (bnd_at (p := c_2) e_c_2 (And.right (bnd_at (p := town_1) e_town_1 h))))))))))))))))))))))))))))) (fun h_1818 => (ebn_bnd fun c_22 e_c_22 => (EV.eb rfl (ev_primF (eo_val rfl (EV.ef rfl (ev_callP (OF := O_law_ask_v12_i2) (n := (n_law_ask_v12_i2 c_22.1 l_14.1)) (ea_val rfl (EV.ef rfl (ev_callS (OF := O_law_odd_world) (n := c_22) (A2 := [(Sp.fr ((eL eI) a_script)), (Sp.ow (List.map eI c_22.2)), (Sp.fr (eI c_2.1)), (Sp.fr ((eT eI) c_3.1)), (Sp.fr (eI many_4)), (Sp.fr (eS l_14.1)), Sp.nn, (Sp.fr ((eL (eT eI)) hands_17)), (Sp.fr (eB good_20)), (Sp.fr (eD c_21.1)), Sp.any, Sp.any, Sp.nn, Sp.nn, Sp.nn]) (ea_val rfl (EV.ef rfl (ev_varF rfl)) (ea_slot rfl rfl rfl ea_nil)) (CallO.eq e_c_22 (t_law_odd_world (by omega) a_script c_21.2 (And.left ((And.left (And.right (And.right (bnd_at (p := c_21) e_c_21 (And.right (bnd_at (p := good_20) e_good_20 (And.right (bnd_at (p := good_19) e_good_19 (And.right (bnd_at (p := hands_17) e_hands_17 (And.right (And.right (bnd_at (p := l_14) e_l_14 (And.right (And.right (bnd_at (p := text_7) e_text_7 (And.right (And.right (bnd_at (p := c_5) e_c_5 (And.right (And.right (bnd_at (p := many_4) e_many_4 (bnd_at (p := c_3) e_c_3 (And.right (bnd_at (p := c_2) e_c_2 (And.right (bnd_at (p := town_1) e_town_1 h))))))))))))))))))))))))))) h_1818)))) rfl rfl rfl)) (ea_val rfl (EV.ef rfl (ev_varF rfl)) ea_nil)) (t_law_ask_v12_i2 (by omega) c_22.1 l_14.1 (And.left (bnd_at (p := c_22) e_c_22 (And.right ((And.left (And.right (And.right (bnd_at (p := c_21) e_c_21 (And.right (bnd_at (p := good_20) e_good_20 (And.right (bnd_at (p := good_19) e_good_19 (And.right (bnd_at (p := hands_17) e_hands_17 (And.right (And.right (bnd_at (p := l_14) e_l_14 (And.right (And.right (bnd_at (p := text_7) e_text_7 (And.right (And.right (bnd_at (p := c_5) e_c_5 (And.right (And.right (bnd_at (p := many_4) e_many_4 (bnd_at (p := c_3) e_c_3 (And.right (bnd_at (p := c_2) e_c_2 (And.right (bnd_at (p := town_1) e_town_1 h))))))))))))))))))))))))))) h_1818))))) rfl rfl rfl)) (eo_val rfl (EV.ef rfl (ev_tup (es_cons (EV.ef rfl ev_cst) (es_cons (EV.ef rfl ev_cst) es_nil)))) eo_nil)) (p_neD (n_law_ask_v12_i2 c_22.1 l_14.1) ((eP eS eI) ((PySem.Str.ofString "refused"), (0 : Int))) (And.right (bnd_at (p := c_22) e_c_22 (And.right ((And.left (And.right (And.right (bnd_at (p := c_21) e_c_21 (And.right (bnd_at (p := good_20) e_good_20 (And.right (bnd_at (p := good_19) e_good_19 (And.right (bnd_at (p := hands_17) e_hands_17 (And.right (And.right (bnd_at (p := l_14) e_l_14 (And.right (And.right (bnd_at (p := text_7) e_text_7 (And.right (And.right (bnd_at (p := c_5) e_c_5 (And.right (And.right (bnd_at (p := many_4) e_many_4 (bnd_at (p := c_3) e_c_3 (And.right (bnd_at (p := c_2) e_c_2 (And.right (bnd_at (p := town_1) e_town_1 h))))))))))))))))))))))))))) h_1818))))))))) rfl sb_rfl)) (fun h_1834 => (xt_ret rfl ev_cst (Imp.rt le_rfl (sb_cons le_any (sb_cons le_any (sb_cons le_any (sb_cons le_any (sb_cons le_any (sb_cons le_any (sb_cons le_any (sb_cons le_any (sb_cons le_any (sb_cons le_any (sb_cons le_any (sb_cons le_any (sb_cons le_any (sb_cons le_any (sb_cons le_any sb_nil)))))))))))))))))) (fun h_1835 => (xt_ret rfl (ev_primF (eo_val rfl (EV.ef rfl (ev_callP (OF := O_law_ask_v12) (n := (n_law_ask_v12 c_3.1 l_14.1)) (ea_val rfl (EV.ef rfl (ev_varF rfl)) (ea_val rfl (EV.ef rfl (ev_varF rfl)) ea_nil)) (t_law_ask_v12 (by omega) c_3.1 l_14.1 (And.left ((bnd_at (p := q_23) e_q_23 (And.right (And.right (And.right (bnd_at (p := c_21) e_c_21 (And.right (bnd_at (p := good_20) e_good_20 (And.right (bnd_at (p := good_19) e_good_19 (And.right (bnd_at (p := hands_17) e_hands_17 (And.right (And.right (bnd_at (p := l_14) e_l_14 (And.right (And.right (bnd_at (p := text_7) e_text_7 (And.right (And.right (bnd_at (p := c_5) e_c_5 (And.right (And.right (bnd_at (p := many_4) e_many_4 (bnd_at (p := c_3) e_c_3 (And.right (bnd_at (p := c_2) e_c_2 (And.right (bnd_at (p := town_1) e_town_1 h)))))))))))))))))))))))))))) h_1835))) rfl rfl rfl)) (eo_val rfl (EV.ef rfl (ev_ite (S := fun z : D => (Sp.fr (eD z))) (T := fun _ => [(Sp.fr ((eL eI) a_script)), (Sp.ow (List.map eI q_23.2)), (Sp.fr (eI c_2.1)), (Sp.fr ((eT eI) c_3.1)), (Sp.fr (eI many_4)), (Sp.fr (eS l_14.1)), Sp.nn, (Sp.fr ((eL (eT eI)) hands_17)), (Sp.fr (eB good_20)), (Sp.fr (eD c_21.1)), Sp.any, Sp.any, Sp.nn, Sp.nn, Sp.nn]) (EV.eb rfl (ev_varF rfl)) (fun h_1850 => (ev_primF (eo_var rfl rfl eo_nil rfl rfl) (p_tupL (eT eI) hands_17))) (fun h_1851 => (ev_tup (es_cons (EV.ef rfl ev_cst) (es_cons (EV.ef rfl ev_cst) es_nil)))))) eo_nil)) (p_eqD (n_law_ask_v12 c_3.1 l_14.1) (if good_20 = true then ((eT (eT eI)) hands_17) else ((eP eS eI) ((PySem.Str.ofString "refused"), (11 : Int)))) (And.right ((bnd_at (p := q_23) e_q_23 (And.right (And.right (And.right (bnd_at (p := c_21) e_c_21 (And.right (bnd_at (p := good_20) e_good_20 (And.right (bnd_at (p := good_19) e_good_19 (And.right (bnd_at (p := hands_17) e_hands_17 (And.right (And.right (bnd_at (p := l_14) e_l_14 (And.right (And.right (bnd_at (p := text_7) e_text_7 (And.right (And.right (bnd_at (p := c_5) e_c_5 (And.right (And.right (bnd_at (p := many_4) e_many_4 (bnd_at (p := c_3) e_c_3 (And.right (bnd_at (p := c_2) e_c_2 (And.right (bnd_at (p := town_1) e_town_1 h)))))))))))))))))))))))))))) h_1835)))) (Imp.rt le_rfl (sb_cons le_any (sb_cons le_any (sb_cons le_any (sb_cons le_any (sb_cons le_any (sb_cons le_any (sb_cons le_any (sb_cons le_any (sb_cons le_any (sb_cons le_any (sb_cons le_any (sb_cons le_any (sb_cons le_any (sb_cons le_any (sb_cons le_any sb_nil)))))))))))))))))))))))))))))))))) (fun z => Imp.rt le_rfl sb_rfl)
end Nt
namespace Nt
open Dc Law
/-! draws -/
instance {α : Type} {v : α} {f : α → Prop} [h : Decidable (f v)] : Decidable (bnd v f) := h
theorem bnd_eq {α : Sort u} {β : Sort v} (a : α) (f : α → β) : bnd a f = f a := rfl
theorem memB_iff {α : Type} [DecidableEq α] {a : α} {xs : List α} : memB a xs = true ↔ a ∈ xs := decide_eq_true_iff
theorem memB_f {α : Type} [DecidableEq α] {a : α} {xs : List α} : memB a xs = false ↔ ¬ a ∈ xs := decide_eq_false_iff_not
theorem fmod_rg (a : Int) {m : Int} (h : 0 < m) : 0 ≤ a.fmod m ∧ a.fmod m < m := by
  rw [Int.fmod_eq_emod_of_nonneg _ (by omega)]
  exact ⟨Int.emod_nonneg _ (by omega), Int.emod_lt_of_pos _ h⟩
theorem cell_ok (s : List Int) {k : Int} (hk : 0 ≤ k) : n_law_cell_at_ok s k := by
  refine ⟨fun h => ⟨hk, of_decide_eq_true h⟩, fun _ h => ?_⟩
  have hs : s ≠ [] := of_decide_eq_false h
  have hl : 0 < s.length := List.length_pos_iff.mpr hs
  exact ⟨by omega, fmod_rg k (by omega)⟩
theorem mixed_ok (s : List Int) {k m : Int} (hk : 0 ≤ k) (hm : 0 < m) : n_law_mixed_v2_ok s k m := by
  refine ⟨cell_ok s hk, ?_⟩
  have h := fmod_rg ((((n_law_cell_at s k) * (1103515245 : Int)) + ((7919 : Int) * k)) + (12345 : Int)) (m := 2147483647) (by decide)
  exact ⟨⟨by decide, by decide, by omega⟩, by omega⟩
theorem mixed_rg (s : List Int) (k : Int) {m : Int} (hm : 0 < m) : 0 ≤ n_law_mixed_v2 s k m ∧ n_law_mixed_v2 s k m < m := fmod_rg _ hm
theorem draw_ok (s : List Int) {t : List Int} {m : Int} (ht : t.length ≤ 1000000) (hm : 0 < m) : n_law_draw_v2_ok s t m := by
  refine ⟨?_, mixed_ok s (by omega) hm⟩
  rw [PySem.sizeLine_eq]
  omega
theorem draw_rg (s t : List Int) {m : Int} (hm : 0 < m) : 0 ≤ (n_law_draw_v2 s t m).1 ∧ (n_law_draw_v2 s t m).1 < m := mixed_rg s _ hm
theorem draw_st (s t : List Int) (m : Int) : (n_law_draw_v2 s t m).2 = t ++ [0] := rfl
theorem draw_len (s t : List Int) (m : Int) : (n_law_draw_v2 s t m).2.length = t.length + 1 := by
  rw [draw_st, List.length_append]
  rfl
theorem atI_mem {α : Type} [Inhabited α] {xs : List α} {i : Int} (h : 0 ≤ i ∧ i < xs.length) : atI xs i ∈ xs := by
  have hl : i.toNat < xs.length := by omega
  unfold atI
  rw [List.getD_eq_getElem?_getD, List.getElem?_eq_getElem hl]
  exact List.getElem_mem hl
end Nt

set_option synthInstance.maxSize 100000
set_option synthInstance.maxHeartbeats 0
namespace Nt
open Dc Law
/-! worlds, hands, lines: what every law draws -/
instance foldOk_dec {σ α : Type} (f : σ → α → σ) (p : σ → α → Prop) [∀ s x, Decidable (p s x)] : ∀ (xs : List α) (s : σ), Decidable (foldOk f p xs s)
  | [], _ => .isTrue trivial
  | x :: xs, s => @instDecidableAnd _ _ _ (foldOk_dec f p xs (f s x))
instance excP_dec {α : Type} (v : Except Nat α) (p : α → Prop) [∀ a, Decidable (p a)] : Decidable (excP v p) := match v with
  | .ok a => inferInstanceAs (Decidable (p a))
  | .error _ => .isTrue trivial
theorem getOk_ok {α : Type} [Inhabited α] {a : α} : getOk (.ok a) = a := rfl
theorem isOk_ok {α : Type} {a : α} : isOk (.ok a : Except Nat α) = true := rfl
theorem exc_ok {α β : Type} {a : α} {h : Nat → β} {f : α → β} : exc (.ok a) h f = f a := rfl
theorem excP_ok {α : Type} {a : α} {f : α → Prop} : excP (.ok a) f = f a := rfl
theorem mapS_len {τ α β : Type} {g : τ → α → β × τ} (len : τ → Nat) (h : ∀ t x, len (g t x).2 = len t + 1) : ∀ (xs : List α) (t : τ), len (mapS g xs t).2 = len t + xs.length
  | [], t => rfl
  | x :: xs, t => by
    show len (mapS g xs (g t x).2).2 = _
    rw [mapS_len len h xs, h, List.length_cons]
    omega
theorem mapOk_len {τ α β : Type} {g : τ → α → β × τ} {p : τ → α → Prop} (len : τ → Nat) (h : ∀ t x, len (g t x).2 = len t + 1) (n : Nat) (hp : ∀ t x, len t ≤ n → p t x) : ∀ (xs : List α) (t : τ), len t + xs.length ≤ n → mapOk g p xs t
  | [], t, _ => trivial
  | x :: xs, t, hl => by
    rw [List.length_cons] at hl
    exact ⟨hp t x (by omega), mapOk_len len h n hp xs _ (by rw [h]; omega)⟩
theorem mapS_lenF {τ α β : Type} {g : τ → α → β × τ} : ∀ (xs : List α) (t : τ), (mapS g xs t).1.length = xs.length
  | [], _ => rfl
  | x :: xs, t => congrArg Nat.succ (mapS_lenF xs _)
theorem mapS_all {τ α β : Type} {g : τ → α → β × τ} {P : β → Prop} (h : ∀ t x, P (g t x).1) : ∀ (xs : List α) (t : τ), ∀ y ∈ (mapS g xs t).1, P y
  | [], _, y, m => by cases m
  | x :: xs, t, y, m => (List.mem_cons.mp m).elim (fun e => e ▸ h t x) fun m => mapS_all h xs _ y m
theorem loopR_nx {σ α ρ : Type} {f : σ → α → Ct σ ρ} {s : σ} : ∀ {xs : List α}, (∀ x ∈ xs, f s x = .nx s) → loopR f xs s = .nx s
  | [], _ => rfl
  | x :: xs, h => by
    show (match f s x with | .nx t => loopR f xs t | .rt r => .rt r) = _
    rw [h x List.mem_cons_self]
    exact loopR_nx fun y m => h y (List.mem_cons_of_mem _ m)
theorem loopOk_nx {σ α ρ : Type} {f : σ → α → Ct σ ρ} {p : σ → α → Prop} {s : σ} : ∀ {xs : List α}, (∀ x ∈ xs, p s x ∧ f s x = .nx s) → loopOk f p xs s
  | [], _ => trivial
  | x :: xs, h => by
    refine ⟨(h x List.mem_cons_self).1, ?_⟩
    rw [(h x List.mem_cons_self).2]
    exact loopOk_nx fun y m => h y (List.mem_cons_of_mem _ m)
/-- a loop without a state -/
def ctOpt {ρ : Type} : Ct Unit ρ → Option ρ
  | .nx _ => none
  | .rt r => some r
def optCt {ρ : Type} : Option ρ → Ct Unit ρ
  | none => .nx ()
  | some r => .rt r
theorem loopR_find {α ρ : Type} {f : Unit → α → Ct Unit ρ} {g : α → Option ρ} : ∀ {xs : List α}, (∀ x ∈ xs, f () x = optCt (g x)) → loopR f xs () = optCt (xs.findSome? g)
  | [], _ => rfl
  | x :: xs, h => by
    rw [loopR, h x List.mem_cons_self, List.findSome?_cons]
    cases g x with
    | none => exact loopR_find fun y m => h y (List.mem_cons_of_mem _ m)
    | some r => rfl
theorem loopOk_unit {α ρ : Type} {f : Unit → α → Ct Unit ρ} {p : Unit → α → Prop} : ∀ {xs : List α}, (∀ x ∈ xs, p () x) → loopOk f p xs ()
  | [], _ => trivial
  | x :: xs, h => by
    refine ⟨h x List.mem_cons_self, ?_⟩
    cases f () x with
    | nx t => exact loopOk_unit fun y m => h y (List.mem_cons_of_mem _ m)
    | rt r => trivial
theorem cthn_opt {ρ γ : Type} {o : Option ρ} {h : ρ → γ} {g : Unit → γ} : cthn (optCt o) h g = match o with | none => g () | some r => h r := by cases o <;> rfl
theorem findSome_flat {α β : Type} {h : α → List β} : ∀ (xs : List α), (xs.flatMap h).head? = xs.findSome? fun x => (h x).head?
  | [] => rfl
  | x :: xs => by
    rw [List.flatMap_cons, List.findSome?_cons, List.head?_append, findSome_flat xs]
    cases (h x).head? <;> rfl
theorem flat_congr {α β : Type} {f g : α → List β} : ∀ {xs : List α}, (∀ x ∈ xs, f x = g x) → xs.flatMap f = xs.flatMap g
  | [], _ => rfl
  | x :: xs, h => by rw [List.flatMap_cons, List.flatMap_cons, h x List.mem_cons_self, flat_congr fun y m => h y (List.mem_cons_of_mem _ m)]
theorem foldl_app {α β : Type} {f : List β → α → List β} {h : α → List β} (hf : ∀ s x, f s x = s ++ h x) : ∀ (xs : List α) (s : List β), xs.foldl f s = s ++ xs.flatMap h
  | [], s => by rw [List.flatMap_nil, List.append_nil]; rfl
  | x :: xs, s => by rw [List.foldl_cons, hf, foldl_app hf xs, List.flatMap_cons, List.append_assoc]
theorem flat_len {α β : Type} {h : α → List β} {n : Nat} : ∀ {xs : List α}, (∀ x ∈ xs, (h x).length ≤ n) → (xs.flatMap h).length ≤ xs.length * n
  | [], _ => by simp
  | x :: xs, hh => by
    have h1 := hh x List.mem_cons_self
    have h2 := flat_len fun y m => hh y (List.mem_cons_of_mem _ m)
    rw [List.flatMap_cons, List.length_append, List.length_cons, Nat.add_mul, Nat.one_mul]
    omega
/-- a loop that appends: room -/
theorem foldOk_app {α β : Type} {f : List β → α → List β} {h : α → List β} {p : List β → α → Prop} {n : Nat} (hf : ∀ s x, f s x = s ++ h x) : ∀ {xs : List α} {s : List β}, (∀ x ∈ xs, (h x).length ≤ n) → (∀ s' x, x ∈ xs → s'.length ≤ s.length + xs.length * n → p s' x) → foldOk f p xs s
  | [], _, _, _ => trivial
  | x :: xs, s, hh, hp => by
    refine ⟨hp s x List.mem_cons_self (Nat.le_add_right _ _), ?_⟩
    have h1 := hh x List.mem_cons_self
    refine foldOk_app hf (fun y m => hh y (List.mem_cons_of_mem _ m)) fun s' y m hl => hp s' y (List.mem_cons_of_mem _ m) ?_
    rw [hf, List.length_append] at hl
    rw [List.length_cons, Nat.add_mul, Nat.one_mul]
    omega
theorem map_id_fun {α : Type} (xs : List α) : xs.map (fun x => x) = xs := List.map_id' xs
theorem pick_ok (s : List Int) {t : List Int} {xs : List (List Int)} (ht : t.length ≤ 1000000) (hx : xs ≠ []) : n_law_pick_v2_ok s t xs := by
  have hl : 0 < xs.length := List.length_pos_iff.mpr hx
  exact ⟨draw_ok s ht (by omega), draw_rg s t (by omega)⟩
theorem pick_mem (s t : List Int) {xs : List (List Int)} (hx : xs ≠ []) : (n_law_pick_v2 s t xs).1 ∈ xs := by
  have hl : 0 < xs.length := List.length_pos_iff.mpr hx
  exact atI_mem (draw_rg s t (by omega))
theorem pick_len (s t : List Int) (xs : List (List Int)) : (n_law_pick_v2 s t xs).2.length = t.length + 1 := draw_len s t (xs.length : Int)
def worlds : List (List Int) := [[3, 3, 1], [2, 3, 2], [3, 2, 2], [2, 2, 2], [1, 2, 2], [2, 2, 1], [3, 2, 1], [2, 1, 3], [1, 1, 1], [3, 3, 0], [2, 4, 1], [2, 3, 1], [3, 1, 2], [1, 3, 1], [2, 2, 2], [2, 3, 2]]
theorem world_ok (s : List Int) {t : List Int} (ht : t.length ≤ 1000000) : n_law_world_v2_ok s t := ⟨by rw [PySem.sizeLine_eq]; decide, pick_ok s ht (by decide)⟩
theorem world_mem (s t : List Int) : (n_law_world_v2 s t).1 ∈ worlds := pick_mem s t (xs := worlds) (by decide)
theorem world_len (s t : List Int) : (n_law_world_v2 s t).2.length = t.length + 1 := pick_len s t worlds
/-! what is finite -/
instance (w : List Int) : Decidable (n_is_world_ok w) := by unfold n_is_world_ok; infer_instance
instance (w : List Int) : Decidable (n_need_world_ok w) := by unfold n_need_world_ok; infer_instance
instance (a b : Int) : Decidable (n_law_picks_ok a b) := by unfold n_law_picks_ok; infer_instance
def cards (w : List Int) : Int := List.sum w
/-- the hands of so many cards -/
abbrev hands (w : List Int) (i : Int) : List (List Int) := n_law_picks (List.sum w) (atI w i)
def chkQ (w : List Int) (i : Int) : Bool := true && true
def chkP (w : List Int) (i : Int) : Bool := chkQ w i && decide (n_law_picks_ok (List.sum w) (atI w i)) &&
  decide ((hands w i).length ≤ 35) && decide (hands w i ≠ []) && decide ((hands w i).Pairwise fun a b => ltI a b = true) && (hands w i).all fun h => n_is_hand w (atI w i) h && decide (h.length = (atI w i).toNat) && h.all fun c => decide (0 ≤ c) && decide (c < List.sum w)
structure PK (w : List Int) (i : Int) : Prop where
  lok : n_law_picks_ok (List.sum w) (atI w i)
  len : (hands w i).length ≤ 35
  ne : hands w i ≠ []
  srt : SrtS (hands w i)
  hand : ∀ h ∈ hands w i, n_is_hand w (atI w i) h = true
  size : ∀ h ∈ hands w i, h.length = (atI w i).toNat
  bd : ∀ h ∈ hands w i, ∀ c ∈ h, 0 ≤ c ∧ c < List.sum w
theorem PK.of {w : List Int} {i : Int} (h : chkP w i = true) : PK w i := by
  unfold chkP chkQ at h
  simp only [Bool.and_eq_true, decide_eq_true_eq, List.all_eq_true] at h
  exact ⟨h.1.1.1.1.2, h.1.1.1.2, h.1.1.2, h.1.2, fun x m => (h.2 x m).1.1, fun x m => (h.2 x m).1.2, fun x m => (h.2 x m).2⟩
structure WK (w : List Int) : Prop where
  wok : n_need_world_ok w
  weq : n_need_world w = .ok ()
  len : w.length = 3
  sum : 3 ≤ List.sum w ∧ List.sum w ≤ 7
  a0 : 1 ≤ atI w 0 ∧ atI w 0 ≤ 3
  p0 : PK w 0
  p1 : PK w 1
  p2 : PK w 2
def chkC1 (w : List Int) : Bool := true
def chkC2 (w : List Int) : Bool := true
def chkW (w : List Int) : Bool := decide (n_need_world_ok w) && (match n_need_world w with | .ok _ => true | _ => false) && decide (w.length = 3) && decide (3 ≤ List.sum w) && decide (List.sum w ≤ 7) && chkC1 w && chkC2 w && decide (1 ≤ atI w 0) && decide (atI w 0 ≤ 3) && chkP w 0 && chkP w 1 && chkP w 2
theorem chkW_all : worlds.all chkW = true := by decide +kernel
theorem WK.ofChk {w : List Int} (z : chkW w = true) : WK w := by
  unfold chkW at z
  simp only [Bool.and_eq_true, decide_eq_true_eq] at z
  obtain ⟨⟨⟨⟨⟨⟨⟨⟨⟨⟨⟨z1, z2⟩, z3⟩, z4⟩, z5⟩, z6⟩, z7⟩, z8⟩, z9⟩, za⟩, zb⟩, zc⟩ := z
  refine ⟨z1, ?_, z3, ⟨z4, z5⟩, ⟨z8, z9⟩, .of za, .of zb, .of zc⟩
  cases e : n_need_world w with
  | ok u => rfl
  | error c =>
    rw [e] at z2
    cases z2
theorem wk {w : List Int} (h : w ∈ worlds) : WK w := WK.ofChk (List.all_eq_true.mp chkW_all w h)
theorem rangeI_mem {n i : Int} : i ∈ rangeI n ↔ 0 ≤ i ∧ i < n := by
  unfold rangeI
  simp only [List.mem_map, List.mem_range]
  constructor
  · rintro ⟨k, h, rfl⟩
    omega
  · rintro ⟨h1, h2⟩
    exact ⟨i.toNat, by omega, by omega⟩
theorem rangeI_len {n : Int} : (rangeI n).length = n.toNat := by
  unfold rangeI
  rw [List.length_map, List.length_range]
/-! lines -/
structure LineI (w : List Int) (i : Int) (l : List (List Int)) : Prop where
  ne : l ≠ []
  sub : ∀ h ∈ l, h ∈ hands w i
  srt : SrtS l
abbrev Line (w : List Int) (l : List (List Int)) : Prop := LineI w 0 l
theorem PK.all {w : List Int} {i : Int} (P : PK w i) : LineI w i (hands w i) := ⟨P.ne, fun _ m => m, P.srt⟩
theorem WK.all {w : List Int} (W : WK w) : Line w (hands w 0) := W.p0.all
theorem zip_srt : ∀ {l : List (List Int)}, SrtS l → ∀ p ∈ List.zip l (List.drop 1 l), ltI p.1 p.2 = true
  | [], _, p, m => by cases m
  | [_], _, p, m => by cases m
  | a :: b :: l, h, p, m => by
    have h2 := List.pairwise_cons.mp h
    have m : p ∈ (a, b) :: List.zip (b :: l) l := m
    rcases List.mem_cons.mp m with e | m
    · rw [e]
      exact h2.1 b List.mem_cons_self
    · exact zip_srt (l := b :: l) h2.2 p m
theorem LineI.is {w : List Int} {i : Int} {l : List (List Int)} (P : PK w i) (L : LineI w i l) : n_is_line w (atI w i) l = true := by
  unfold n_is_line
  have h1 : List.all (List.map (fun hand_1 : (List Int) => (n_is_hand w (atI w i) hand_1)) l) id = true := by
    rw [List.all_map]
    exact List.all_eq_true.mpr fun h m => P.hand h (L.sub h m)
  have h2 : (decide (l = ([] : List (List Int)))) = false := decide_eq_false L.ne
  simp only [h1, h2, Bool.not_true, Bool.or_self, Bool.false_eq_true, if_false]
  rw [List.all_map]
  exact List.all_eq_true.mpr fun p m => zip_srt L.srt p m
theorem srt_drop {l : List (List Int)} (h : SrtS l) : SrtS (List.drop 1 l) := List.Pairwise.sublist (List.drop_sublist 1 l) h
theorem LineI.tail {w : List Int} {i : Int} {l : List (List Int)} (L : LineI w i l) (h : (l.length : Int) > 1) : LineI w i (List.drop 1 l) :=
  ⟨fun e => by
    have := congrArg List.length e
    rw [List.length_drop] at this
    simp only [List.length_nil] at this
    omega, fun x m => L.sub x (List.mem_of_mem_drop m), srt_drop L.srt⟩
theorem setOk_of {ks : List (List Int)} {n : Nat} (h1 : ks.length < 64) (hn : 1 ≤ n) (h : ∀ k ∈ ks, k.length = n ∧ ∀ i ∈ k, 0 ≤ i ∧ i < 64) : setOk ks = true := by
  unfold setOk
  cases ks with
  | nil => rfl
  | cons k ks =>
    have e : ((k :: ks).headD [0]) = k := rfl
    have hk := (h k List.mem_cons_self).1
    rw [decide_eq_true (Or.inl h1), e, Bool.true_and]
    refine List.all_eq_true.mpr fun x m => ?_
    have z := h x m
    rw [decide_eq_true (z.1.trans hk.symm), Bool.true_and]
    refine List.all_eq_true.mpr fun i mi => ?_
    rw [decide_eq_true (z.2 i mi).1, decide_eq_true (z.2 i mi).2]
    rfl
/-- any hands, put in order, each once -/
theorem line_set {w : List Int} {i : Int} {l : List (List Int)} (ne : l ≠ []) (sub : ∀ h ∈ l, h ∈ hands w i) : LineI w i (setSort l) := by
  refine ⟨fun e => ?_, fun h m => sub h (setSort_mem.mp m), setSort_srt l⟩
  cases l with
  | nil => exact ne rfl
  | cons x l =>
    have := setSort_mem.mpr (List.mem_cons_self (a := x) (l := l))
    rw [e] at this
    cases this
end Nt

namespace Nt
open Dc Law
theorem LineI.need {w : List Int} {l : List (List Int)} (W : WK w) (L : Line w l) : n_need_line_ok w l ∧ n_need_line w l = .ok () := by
  unfold n_need_line_ok n_need_line
  rw [W.weq]
  simp only [exc_ok, excP_ok, LineI.is W.p0 L, Bool.not_true, Bool.false_eq_true, if_false]
  exact ⟨⟨W.wok, by decide, by rw [W.len]; decide⟩, trivial⟩
def seven : List (List Int) := [[0, 1, 2], [0, 3, 4], [0, 5, 6], [1, 3, 5], [1, 4, 6], [2, 3, 6], [2, 4, 5]]
theorem seven_srt : SrtS seven := by
  unfold SrtS
  decide
theorem seven_sub : ∀ h ∈ seven, h ∈ n_law_picks 7 3 := by decide +kernel
theorem insS_len (k : List Int) : ∀ l : List (List Int), (insS k l).length ≤ l.length + 1
  | [] => Nat.le_refl _
  | y :: l => by
    unfold insS
    split
    · simp
    · split
      · simp
      · have := insS_len k l
        simp only [List.length_cons]
        omega
theorem setSort_len : ∀ l : List (List Int), (setSort l).length ≤ l.length
  | [] => Nat.le_refl _
  | k :: l => by
    have h1 := insS_len k (setSort l)
    have h2 := setSort_len l
    show (insS k (setSort l)).length ≤ _
    rw [List.length_cons]
    omega
theorem line_ok {w : List Int} (W : WK w) (s : List Int) {t : List Int} {most : Int} (ht : t.length ≤ 100000) (hm : 1 ≤ most ∧ most ≤ 60) :
    n_law_line_v2_ok s t (List.sum w) (atI w 0) most ∧ Line w (n_law_line_v2 s t (List.sum w) (atI w 0) most).1 ∧ (n_law_line_v2 s t (List.sum w) (atI w 0) most).2.length ≤ t.length + 70 ∧ (n_law_line_v2 s t (List.sum w) (atI w 0) most).1.length ≤ most.toNat + 7 := by
  unfold n_law_line_v2 n_law_line_v2_ok
  simp only [bnd_eq]
  have hq : ∃ q : Bool × List Int, (if (decide (List.sum w = (7 : Int))) = true then ((if (decide (atI w 0 = (3 : Int))) = true then ((decide ((n_law_draw_v2 s t (3 : Int)).1 = (0 : Int))), (n_law_draw_v2 s t (3 : Int)).2) else (false, t)).1, (if (decide (atI w 0 = (3 : Int))) = true then ((decide ((n_law_draw_v2 s t (3 : Int)).1 = (0 : Int))), (n_law_draw_v2 s t (3 : Int)).2) else (false, t)).2) else (false, t)) = q ∧ (q.1 = true → List.sum w = 7 ∧ atI w 0 = 3) ∧ q.2.length ≤ t.length + 1 := by
    by_cases h7 : List.sum w = 7
    · by_cases h3 : atI w 0 = 3
      · refine ⟨_, rfl, fun _ => ⟨h7, h3⟩, ?_⟩
        rw [decide_eq_true h7, decide_eq_true h3]
        exact Nat.le_of_eq (draw_len s t 3)
      · refine ⟨_, rfl, fun h => ?_, ?_⟩
        · rw [decide_eq_true h7, decide_eq_false h3] at h
          cases h
        · rw [decide_eq_true h7, decide_eq_false h3]
          exact Nat.le_succ _
    · refine ⟨_, rfl, fun h => ?_, ?_⟩
      · rw [decide_eq_false h7] at h
        cases h
      · rw [decide_eq_false h7]
        exact Nat.le_succ _
  obtain ⟨q, hq, hq1, hq2⟩ := hq
  rw [hq]
  have d1 := draw_rg s q.2 (m := 2) (by decide)
  have l1 := draw_len s q.2 2
  have k1 := draw_ok s (t := q.2) (m := 2) (by omega) (by decide)
  generalize n_law_draw_v2 s q.2 2 = c6 at d1 l1 ⊢
  have d2 := draw_rg s c6.2 (m := 2) (by decide)
  have l2 := draw_len s c6.2 2
  have k2 := draw_ok s (t := c6.2) (m := 2) (by omega) (by decide)
  generalize n_law_draw_v2 s c6.2 2 = c7 at d2 l2 ⊢
  have d3 := draw_rg s q.2 (m := most) (by omega)
  have l3 := draw_len s q.2 most
  have k3 := draw_ok s (t := q.2) (m := most) (by omega) (by omega)
  generalize n_law_draw_v2 s q.2 most = c8 at d3 l3 ⊢
  have hr : (rangeI (1 + c8.1)).length = (1 + c8.1).toNat := rangeI_len
  have m1 := mapS_len (g := fun (t : List Int) (x : Int) => ((n_law_pick_v2 s t (hands w 0)).1, (n_law_pick_v2 s t (hands w 0)).2)) List.length (fun t x => pick_len s t _) (rangeI (1 + c8.1)) c8.2
  have m2 := mapOk_len (g := fun (t : List Int) (x : Int) => ((n_law_pick_v2 s t (hands w 0)).1, (n_law_pick_v2 s t (hands w 0)).2)) (p := fun t x => n_law_pick_v2_ok s t (hands w 0)) List.length (fun t x => pick_len s t _) 1000000 (fun t x h => pick_ok s h W.p0.ne) (rangeI (1 + c8.1)) c8.2 (by rw [hr]; omega)
  have m3 := mapS_lenF (g := fun (t : List Int) (x : Int) => ((n_law_pick_v2 s t (hands w 0)).1, (n_law_pick_v2 s t (hands w 0)).2)) (rangeI (1 + c8.1)) c8.2
  have m4 := mapS_all (g := fun (t : List Int) (x : Int) => ((n_law_pick_v2 s t (hands w 0)).1, (n_law_pick_v2 s t (hands w 0)).2)) (P := fun h => h ∈ hands w 0) (fun t x => pick_mem s t W.p0.ne) (rangeI (1 + c8.1)) c8.2
  generalize mapS (fun (t : List Int) (x : Int) => ((n_law_pick_v2 s t (hands w 0)).1, (n_law_pick_v2 s t (hands w 0)).2)) (rangeI (1 + c8.1)) c8.2 = r at m1 m3 m4 ⊢
  rw [hr] at m1 m3
  refine ⟨⟨W.p0.lok, fun _ _ => draw_ok s (by omega) (by decide), fun _ => ⟨k1, k2, d1.1, by omega⟩, fun _ => ⟨k3, by omega, m2, setOk_of (n := (atI w 0).toNat) (by omega) (by have := W.a0; omega) fun k mk => ⟨W.p0.size k (m4 k mk), fun i mi => ?_⟩⟩⟩, ?_⟩
  · have := W.p0.bd k (m4 k mk) i mi
    have := W.sum
    omega
  cases e : q.1 with
  | true =>
    obtain ⟨h7, h3⟩ := hq1 e
    simp only [if_true]
    refine ⟨⟨fun z => ?_, fun h m => ?_, ?_⟩, by omega, by rw [List.length_drop, List.length_take]; simp only [List.length_cons, List.length_nil]; omega⟩
    · have := congrArg List.length z
      rw [List.length_drop, List.length_take] at this
      simp only [List.length_cons, List.length_nil] at this
      omega
    · show h ∈ n_law_picks (List.sum w) (atI w 0)
      rw [h7, h3]
      exact seven_sub h (List.mem_of_mem_take (List.mem_of_mem_drop m))
    · exact List.Pairwise.sublist ((List.drop_sublist _ _).trans (List.take_sublist _ _)) seven_srt
  | false =>
    simp only [Bool.false_eq_true, if_false]
    exact ⟨line_set (fun z => by rw [z] at m3; simp only [List.length_nil] at m3; omega) m4, by omega, by have := setSort_len r.1; omega⟩
end Nt

namespace Nt
open Dc
open PySem (Str)
/-! texts as rows of signs -/
abbrev ch (z : Str) : List Nat := z.cps.toList
abbrev mkS (l : List Nat) : Str := ⟨l.toArray⟩
theorem ch_mk (l : List Nat) : ch (mkS l) = l := rfl
theorem ch_inj {a b : Str} (h : ch a = ch b) : a = b := PySem.Str.ext' (Array.toList_inj.mp h)
theorem mk_ch (z : Str) : mkS (ch z) = z := ch_inj rfl
theorem ch_app (a b : Str) : ch (a ++ b) = ch a ++ ch b := by
  show (a ++ b).cps.toList = _
  rw [PySem.Str.cps_append, Array.toList_append]
theorem ch_len (z : Str) : z.length = (ch z).length := Array.length_toList.symm
/-- put together with a sign row between -/
def jn (y : List Nat) : List (List Nat) → List Nat
  | [] => []
  | [w] => w
  | w :: v :: r => w ++ y ++ jn y (v :: r)
theorem ch_join (y : Str) : ∀ zs : List Str, ch (PySem.Txt.join y zs) = jn (ch y) (zs.map ch)
  | [] => by
    show ch (PySem.Builtin.Str.glued y []) = _
    rw [PySem.StrLaws.glued_eq_join]
    rfl
  | [z] => by
    show ch (PySem.Builtin.Str.glued y [z]) = _
    rw [PySem.StrLaws.glued_eq_join]
    rfl
  | z :: u :: r => by
    have ih := ch_join y (u :: r)
    show ch (PySem.Builtin.Str.glued y (z :: u :: r)) = _
    have ih2 : ch (PySem.Builtin.Str.glued y (u :: r)) = jn (ch y) ((u :: r).map ch) := ih
    rw [PySem.StrLaws.glued_eq_join] at ih2 ⊢
    show ch (z ++ y ++ PySem.Str.join y (u :: r)) = _
    rw [ch_app, ch_app, ih2]
    rfl
/-- how a row is split -/
inductive Spl (y : List Nat) : List Nat → List (List Nat) → Prop where
  | last {l : List Nat} : (∀ i, (l.drop i).take y.length ≠ y) → Spl y l [l]
  | cut {p r : List Nat} {ws : List (List Nat)} : (∀ i, i < p.length → ((p ++ y ++ r).drop i).take y.length ≠ y) → Spl y r ws → Spl y (p ++ y ++ r) (p :: ws)
theorem spl_uniq {y : List Nat} (hy : y ≠ []) : ∀ {l : List Nat} {ws : List (List Nat)}, Spl y l ws → ∀ {vs : List (List Nat)}, Spl y l vs → ws = vs := by
  intro l ws h
  induction h with
  | last n =>
    intro vs h2
    cases h2 with
    | last _ => rfl
    | @cut p r ws g t =>
      refine absurd ?_ (n p.length)
      rw [List.append_assoc, List.drop_left, List.take_left]
  | @cut p r ws g t ih =>
    intro vs h2
    generalize e : p ++ y ++ r = l at h2
    cases h2 with
    | last n =>
      refine absurd ?_ (n p.length)
      rw [← e, List.append_assoc, List.drop_left, List.take_left]
    | @cut p2 r2 ws2 g2 t2 =>
      have hl : p.length = p2.length := by
        rcases Nat.lt_trichotomy p.length p2.length with h | h | h
        · refine absurd ?_ (g2 p.length h)
          rw [← e, List.append_assoc, List.drop_left, List.take_left]
        · exact h
        · refine absurd ?_ (g p2.length h)
          rw [e, List.append_assoc, List.drop_left, List.take_left]
      rw [List.append_assoc, List.append_assoc] at e
      have e1 := List.append_inj e hl
      have e2 := List.append_inj e1.2 rfl
      have e3 := e2.2
      subst e3
      rw [e1.1, ih t2]
theorem spl_jn {c : Nat} {y : List Nat} : ∀ {ws : List (List Nat)}, ws ≠ [] → (∀ w ∈ ws, ¬ c ∈ w) → Spl (c :: y) (jn (c :: y) ws) ws
  | [], h, _ => absurd rfl h
  | [w], _, h => .last fun i e => by
    have m : c ∈ (w.drop i).take (c :: y).length := by rw [show (jn (c :: y) [w]) = w from rfl] at e; rw [e]; exact List.mem_cons_self
    exact h w List.mem_cons_self (List.mem_of_mem_drop (List.mem_of_mem_take m))
  | w :: v :: r, _, h => by
    refine .cut (fun i hi e => ?_) (spl_jn (by simp) fun u m => h u (List.mem_cons_of_mem _ m))
    rw [List.append_assoc, List.drop_append_of_le_length (Nat.le_of_lt hi)] at e
    have hd : w.drop i ≠ [] := fun z => by
      have := congrArg List.length z
      rw [List.length_drop, List.length_nil] at this
      omega
    cases ed : w.drop i with
    | nil => exact hd ed
    | cons x xs =>
      rw [ed] at e
      have e1 : x :: _ = c :: y := e
      have e2 := (List.cons.inj e1).1
      exact h w List.mem_cons_self (List.mem_of_mem_drop (i := i) (by rw [ed, e2]; exact List.mem_cons_self))
theorem jn_spl {y : List Nat} {l : List Nat} {ws : List (List Nat)} (h : Spl y l ws) : jn y ws = l ∧ ws ≠ [] := by
  induction h with
  | last _ => exact ⟨rfl, by simp⟩
  | @cut p r ws g t ih =>
    cases ws with
    | nil => exact absurd rfl ih.2
    | cons v vs => exact ⟨by show p ++ y ++ jn y (v :: vs) = _; rw [ih.1], by simp⟩
/-- by one sign: no part has it -/
theorem spl_one {c : Nat} {l : List Nat} {ws : List (List Nat)} (h : Spl [c] l ws) : ∀ w ∈ ws, ¬ c ∈ w := by
  have mt : ∀ (w : List Nat), c ∈ w → ∃ i, i < w.length ∧ ∀ t, ((w ++ t).drop i).take 1 = [c] := fun w m => by
    obtain ⟨a, b, rfl⟩ := List.append_of_mem m
    refine ⟨a.length, by rw [List.length_append, List.length_cons]; omega, fun t => ?_⟩
    rw [List.append_assoc, List.drop_left]
    rfl
  induction h with
  | @last l n =>
    intro w m
    rw [List.mem_singleton] at m
    subst m
    intro m
    obtain ⟨i, _, e⟩ := mt _ m
    refine n i ?_
    have := e []
    rw [List.append_nil] at this
    exact this
  | @cut p r ws g t ih =>
    intro w m
    rcases List.mem_cons.mp m with rfl | m
    · intro m
      obtain ⟨i, hi, e⟩ := mt _ m
      refine g i hi ?_
      rw [List.append_assoc]
      exact e _
    · exact ih w m
theorem spl_mem {y : List Nat} {l : List Nat} {ws : List (List Nat)} (h : Spl y l ws) : ∀ w ∈ ws, ∀ c ∈ w, c ∈ l := by
  induction h with
  | last _ =>
    intro w m c mc
    rw [List.mem_singleton] at m
    exact m ▸ mc
  | @cut p r ws g t ih =>
    intro w m c mc
    rcases List.mem_cons.mp m with rfl | m
    · exact List.mem_append_left _ (List.mem_append_left _ mc)
    · exact List.mem_append_right _ (ih w m c mc)
theorem spl_all {y : List Nat} {l : List Nat} {ws : List (List Nat)} (h : Spl y l ws) : ∀ c ∈ l, c ∈ y ∨ ∃ w ∈ ws, c ∈ w := by
  induction h with
  | last _ => exact fun c m => .inr ⟨_, List.mem_cons_self, m⟩
  | @cut p r ws g t ih =>
    intro c m
    rcases List.mem_append.mp m with m | m
    · rcases List.mem_append.mp m with m | m
      · exact .inr ⟨_, List.mem_cons_self, m⟩
      · exact .inl m
    · rcases ih c m with h | ⟨w, mw, h⟩
      · exact .inl h
      · exact .inr ⟨w, List.mem_cons_of_mem _ mw, h⟩
/-! the library's split -/
open PySem.Builtin.Str PySem.StrLaws in
def occL (x y : Str) : List Nat → Nat → List Nat
  | [], _ => []
  | i :: is, a => if a ≤ i ∧ i + y.length ≤ x.length ∧ subAt x y i = true then i :: occL x y is (i + y.length) else occL x y is a
open PySem.Builtin.Str PySem.StrLaws in
theorem occ_run (x y : Str) (limit : Nat) : ∀ (is : List Nat) (st : Array Nat × Nat), st.1.size + is.length ≤ limit → (forIn (m := Id) is st (occBody x y x.length limit)).run.fst.toList = st.1.toList ++ occL x y is st.2
  | [], st, _ => by
    show st.1.toList = _ ++ []
    rw [List.append_nil]
  | i :: is, st, h => by
    rw [List.length_cons] at h
    rw [List.forIn_cons]
    unfold occBody occL
    by_cases c : ((st.fst.size < limit ∧ st.snd ≤ i) ∧ i + y.length ≤ x.length) ∧ subAt x y i = true
    · rw [if_pos c, if_pos ⟨c.1.1.2, c.1.2, c.2⟩]
      have ih := occ_run x y limit is (st.fst.push i, i + y.length) (by rw [Array.size_push]; omega)
      show (forIn (m := Id) is (st.fst.push i, i + y.length) (occBody x y x.length limit)).run.fst.toList = _
      rw [ih, Array.toList_push, List.append_assoc]
      rfl
    · rw [if_neg c, if_neg fun d => c ⟨⟨⟨by omega, d.1⟩, d.2.1⟩, d.2.2⟩]
      exact occ_run x y limit is st (by omega)
open PySem.Builtin.Str PySem.StrLaws in
theorem occ_is (x y : Str) : occurrences x y 0 x.length (x.length + 1) = occL x y (List.range' 0 (x.length + 1)) 0 := by
  rw [occ_eq, occ_run x y (x.length + 1) _ _ (by rw [List.length_range']; show 0 + _ ≤ _; omega)]
  rfl
open PySem.Builtin.Str PySem.StrLaws in
theorem sub_ch (x : Str) (i j : Nat) : ch (strSub x i j) = ((ch x).drop i).take (j - i) := strSub_toList x i j
open PySem.Builtin.Str PySem.StrLaws in
theorem sub_at (x y : Str) (i : Nat) : subAt x y i = true ↔ ((ch x).drop i).take (ch y).length = ch y := by
  rw [subAt_eq, beq_iff_eq, ch_len]
open PySem.Builtin.Str PySem.StrLaws in
theorem spl_at (x y : Str) (hy : 1 ≤ y.length) : ∀ m i a, i + m = x.length + 1 → a ≤ x.length → (∀ k, a ≤ k → k < i → ((ch x).drop k).take (ch y).length ≠ ch y) → Spl (ch y) ((ch x).drop a) ((partsFrom x y.length a (occL x y (List.range' i m) a)).map ch)
  | 0, i, a, hm, ha, hn => by
    have hx := ch_len x
    show Spl (ch y) ((ch x).drop a) [ch (strSub x a x.length)]
    rw [sub_ch, List.take_of_length_le (by rw [List.length_drop]; omega)]
    refine .last fun j e => ?_
    rw [List.drop_drop] at e
    by_cases hk : a + j < i
    · exact hn (a + j) (by omega) hk e
    · have e2 := congrArg List.length e
      rw [List.length_take, List.length_drop, ← ch_len] at e2
      omega
  | m + 1, i, a, hm, ha, hn => by
    have hx := ch_len x
    have hyl := ch_len y
    rw [List.range'_succ]
    unfold occL
    by_cases c : a ≤ i ∧ i + y.length ≤ x.length ∧ subAt x y i = true
    · rw [if_pos c]
      have ih := spl_at x y hy m (i + 1) (i + y.length) (by omega) c.2.1 fun k h1 h2 => by omega
      show Spl (ch y) ((ch x).drop a) (ch (strSub x a i) :: _)
      have em := (sub_at x y i).mp c.2.2
      have e1 : (ch x).drop i = ch y ++ (ch x).drop (i + y.length) := by
        rw [← List.take_append_drop (ch y).length ((ch x).drop i), em, List.drop_drop, hyl]
      have e2 : (ch x).drop a = ((ch x).drop a).take (i - a) ++ ch y ++ (ch x).drop (i + y.length) := by
        conv => lhs; rw [← List.take_append_drop (i - a) ((ch x).drop a)]
        rw [List.drop_drop, show a + (i - a) = i by omega, e1, List.append_assoc]
      rw [sub_ch]
      have lp : (((ch x).drop a).take (i - a)).length = i - a := by rw [List.length_take, List.length_drop]; omega
      have key : ∀ j, j < i - a → (((ch x).drop a).drop j).take (ch y).length ≠ ch y := fun j hj => by
        rw [List.drop_drop]
        exact hn (a + j) (by omega) (by omega)
      generalize ((ch x).drop a).take (i - a) = p at e2 lp
      rw [e2] at key ⊢
      exact .cut (fun j hj => key j (by omega)) ih
    · rw [if_neg c]
      refine spl_at x y hy m (i + 1) a (by omega) ha fun k h1 h2 => ?_
      by_cases hk : k < i
      · exact hn k h1 hk
      · have : k = i := by omega
        subst this
        intro e
        have e2 := congrArg List.length e
        rw [List.length_take, List.length_drop] at e2
        exact c ⟨h1, by omega, (sub_at x y k).mpr e⟩
open PySem.Builtin.Str PySem.StrLaws in
theorem split_spl (x y : Str) (hy : 1 ≤ y.length) (hk : strKind y = 1) : Spl (ch y) (ch x) ((PySem.Txt.split x y).map ch) := by
  have main := spl_at x y hy (x.length + 1) 0 0 (by omega) (by omega) fun k _ h => by omega
  rw [List.drop_zero, ← occ_is] at main
  unfold PySem.Txt.split
  by_cases c1 : (decide (x.length < y.length) || decide (strKind x < strKind y)) = true
  · rw [if_pos c1]
    have kx : 1 ≤ strKind x := by
      unfold strKind
      split
      · omega
      · split <;> omega
    rw [hk, decide_eq_false (show ¬ strKind x < 1 by omega), Bool.or_false] at c1
    have hl := of_decide_eq_true c1
    refine .last fun i e => ?_
    have e2 := congrArg List.length e
    rw [List.length_take, List.length_drop, ← ch_len, ← ch_len] at e2
    omega
  · rw [if_neg c1]
    by_cases c2 : (occurrences x y 0 x.length (x.length + 1)).isEmpty = true
    · rw [if_pos c2]
      rw [List.isEmpty_iff.mp c2] at main
      have e : ch (strSub x 0 x.length) = ch x := by rw [sub_ch, List.drop_zero, List.take_of_length_le (by rw [ch_len]; omega)]
      have main2 : Spl (ch y) (ch x) [ch (strSub x 0 x.length)] := main
      rw [e] at main2
      exact main2
    · rw [if_neg c2, partsBetween_eq]
      exact main
end Nt

namespace Nt
open Dc Law
open PySem (Str)
/-! lines as texts -/
theorem oks_iff {z : Str} : OKS z ↔ ∀ c ∈ ch z, c < 1114112 := by
  have e : OKS z ↔ z.cps.all (fun c => decide (c < 1114112)) = true := by
    show (PySem.PyData.canLay0 (.str z) && decide (PySem.PyData.depth (.str z) ≤ 64)) = true ↔ _
    have d : PySem.PyData.depth (.str z) ≤ 64 := by simp [PySem.PyData.depth]
    rw [decide_eq_true d, Bool.and_true]
    rfl
  rw [e, ← Array.all_toList, List.all_eq_true]
  exact ⟨fun h c m => of_decide_eq_true (h c m), fun h c m => decide_eq_true (h c m)⟩
theorem rev_tw {p : Nat → Bool} : ∀ (l : List Nat), (∃ x ∈ l, p x = false) → (l.takeWhile p).length < l.length
  | [], h => by obtain ⟨x, m, _⟩ := h; cases m
  | y :: l, h => by
    cases e : p y with
    | false => rw [List.takeWhile_cons, e]; simp
    | true =>
      rw [List.takeWhile_cons, e]
      obtain ⟨x, m, hx⟩ := h
      rcases List.mem_cons.mp m with rfl | m
      · rw [e] at hx; cases hx
      · have := rev_tw l ⟨x, m, hx⟩
        simp only [if_true, List.length_cons]
        omega
theorem tw_all {p : Nat → Bool} : ∀ {l : List Nat}, (∀ c ∈ l, p c = true) → l.takeWhile p = l
  | [], _ => rfl
  | x :: l, h => by
    rw [List.takeWhile_cons, h x List.mem_cons_self]
    simp only [if_true]
    rw [tw_all fun c m => h c (List.mem_cons_of_mem _ m)]
theorem strip_ch (z y : Str) : ch (PySem.Txt.stripChars z y) = ((ch z).drop ((ch z).takeWhile y.cps.contains).length).take (z.length - (((ch z).drop ((ch z).takeWhile y.cps.contains).length).reverse.takeWhile y.cps.contains).length - ((ch z).takeWhile y.cps.contains).length) := by
  show ch (PySem.Txt.stripBy y.cps.contains true true z) = _
  rw [PyProof.Rows.stripBy_eq, sub_ch]
  rfl
theorem strip_all {z y : Str} (h : ∀ c ∈ ch z, c ∈ ch y) : PySem.Txt.stripChars z y = PySem.Str.ofString "" := by
  refine ch_inj ?_
  rw [strip_ch]
  have e : (ch z).takeWhile y.cps.contains = ch z := tw_all fun c m => by
    rw [Array.contains_iff]
    exact Array.mem_toList_iff.mp (h c m)
  rw [e, List.drop_length, List.take_nil]
  rfl
theorem strip_some {z y : Str} {c : Nat} (m : c ∈ ch z) (h : ¬ c ∈ ch y) : PySem.Txt.stripChars z y ≠ PySem.Str.ofString "" := fun e => by
  have e2 := congrArg ch e
  rw [strip_ch] at e2
  have hc : y.cps.contains c = false := by
    rw [← Bool.not_eq_true, Array.contains_iff]
    exact fun q => h (Array.mem_toList_iff.mpr q)
  have h1 := rev_tw (ch z) ⟨c, m, hc⟩
  have e3 := List.take_append_drop ((ch z).takeWhile y.cps.contains).length (ch z)
  have tw : (ch z).take ((ch z).takeWhile y.cps.contains).length = (ch z).takeWhile y.cps.contains := by
    conv => lhs; rw [← List.takeWhile_append_dropWhile (p := y.cps.contains) (l := ch z)]
    rw [List.takeWhile_append_dropWhile]
    conv => lhs; arg 2; rw [← List.takeWhile_append_dropWhile (p := y.cps.contains) (l := ch z)]
    rw [List.take_left]
  have md : c ∈ (ch z).drop ((ch z).takeWhile y.cps.contains).length := by
    rw [← e3] at m
    rcases List.mem_append.mp m with m | m
    · rw [tw] at m
      have := List.all_eq_true.mp (List.all_takeWhile (p := y.cps.contains) (l := ch z)) c m
      rw [hc] at this
      cases this
    · exact m
  have h2 := rev_tw ((ch z).drop ((ch z).takeWhile y.cps.contains).length).reverse ⟨c, List.mem_reverse.mpr md, hc⟩
  rw [List.length_reverse] at h2
  have hl := ch_len z
  have e4 := congrArg List.length e2
  rw [List.length_take, List.length_drop] at e4
  rw [List.length_drop] at h2
  rw [show (ch (PySem.Str.ofString "")).length = 0 from rfl] at e4
  omega
theorem jn_nil : ∀ ws : List (List Nat), jn [] ws = ws.flatten
  | [] => rfl
  | [w] => by show w = _; simp
  | w :: v :: r => by
    show w ++ [] ++ jn [] (v :: r) = _
    rw [jn_nil (v :: r), List.append_nil]
    rfl
theorem jn_snoc (y : List Nat) (w : List Nat) : ∀ ws : List (List Nat), ws ≠ [] → jn y (ws ++ [w]) = jn y ws ++ y ++ w
  | [], h => absurd rfl h
  | [v], _ => rfl
  | v :: u :: r, _ => by
    show v ++ y ++ jn y ((u :: r) ++ [w]) = v ++ y ++ jn y (u :: r) ++ y ++ w
    rw [jn_snoc y w (u :: r) (by simp)]
    simp only [List.append_assoc]
theorem jn_len (y : List Nat) (b : Nat) : ∀ ws : List (List Nat), (∀ w ∈ ws, w.length ≤ b) → (jn y ws).length ≤ ws.length * (b + y.length)
  | [], _ => Nat.zero_le _
  | [w], h => by
    have := h w List.mem_cons_self
    show w.length ≤ 1 * _
    omega
  | w :: v :: r, h => by
    have h1 := h w List.mem_cons_self
    have ih := jn_len y b (v :: r) fun u m => h u (List.mem_cons_of_mem _ m)
    show (w ++ y ++ jn y (v :: r)).length ≤ (r.length + 1 + 1) * _
    rw [List.length_append, List.length_append, Nat.succ_mul]
    rw [List.length_cons] at ih
    omega
theorem jn_mem {y : List Nat} {c : Nat} : ∀ {ws : List (List Nat)}, c ∈ jn y ws → c ∈ y ∨ ∃ w ∈ ws, c ∈ w
  | [], m => by cases m
  | [w], m => .inr ⟨w, List.mem_cons_self, m⟩
  | w :: v :: r, m => by
    have m : c ∈ w ++ y ++ jn y (v :: r) := m
    rcases List.mem_append.mp m with m | m
    · rcases List.mem_append.mp m with m | m
      · exact .inr ⟨w, List.mem_cons_self, m⟩
      · exact .inl m
    · rcases jn_mem m with h | ⟨u, mu, h⟩
      · exact .inl h
      · exact .inr ⟨u, List.mem_cons_of_mem _ mu, h⟩
theorem jn_ne {y : List Nat} : ∀ {ws : List (List Nat)}, ws ≠ [] → (∀ w ∈ ws, w ≠ []) → jn y ws ≠ []
  | [], h, _ => absurd rfl h
  | [w], _, h => h w List.mem_cons_self
  | w :: v :: r, _, h => fun e => by
    have e2 : w ++ y ++ jn y (v :: r) = [] := e
    rw [List.append_assoc, List.append_eq_nil_iff] at e2
    exact h w List.mem_cons_self e2.1
def wd (h : List Int) : List Nat := h.map fun c => 48 + c.toNat
structure Card7 (c : Int) : Prop where
  lo : 0 ≤ c
  hi : c < 7
theorem card_mem {c : Int} (h : Card7 c) : c ∈ rangeI 7 := rangeI_mem.mpr ⟨h.lo, h.hi⟩
theorem digit_is {c : Int} (h : Card7 c) : ch (toString c : Str) = [48 + c.toNat] := by
  have z : ∀ c ∈ rangeI 7, ch (toString c : Str) = [48 + c.toNat] := by decide +kernel
  exact z c (card_mem h)
theorem digit_log {c : Int} (h : Card7 c) : (Int.natAbs c).log2 < 1920 := by
  have z : ∀ c ∈ rangeI 7, (Int.natAbs c).log2 < 1920 := by decide +kernel
  exact z c (card_mem h)
theorem digit_int {c : Int} (h : Card7 c) : intS (mkS [48 + c.toNat]) = c ∧ (PySem.intText? (mkS [48 + c.toNat])).isSome = true := by
  have z : ∀ c ∈ rangeI 7, intS (mkS [48 + c.toNat]) = c ∧ (PySem.intText? (mkS [48 + c.toNat])).isSome = true := by decide +kernel
  exact z c (card_mem h)
theorem sum_le {α : Type} (f : α → Nat) (b : Nat) : ∀ l : List α, (∀ x ∈ l, f x ≤ b) → (l.map f).sum ≤ l.length * b
  | [], _ => Nat.zero_le _
  | x :: l, h => by
    have h1 := h x List.mem_cons_self
    have ih := sum_le f b l fun y m => h y (List.mem_cons_of_mem _ m)
    rw [List.map_cons, List.sum_cons, List.length_cons, Nat.succ_mul]
    omega
theorem hand_ch {h : List Int} (g : ∀ c ∈ h, Card7 c) : ch (PySem.Txt.join (PySem.Str.ofString "") (h.map fun c : Int => (toString c : Str))) = wd h := by
  rw [ch_join, show ch (PySem.Str.ofString "") = [] from rfl, jn_nil, List.map_map]
  unfold wd
  induction h with
  | nil => rfl
  | cons c h ih =>
    rw [List.map_cons, List.flatten_cons, ih fun x m => g x (List.mem_cons_of_mem _ m)]
    show ch (toString c : Str) ++ _ = _
    rw [digit_is (g c List.mem_cons_self)]
    rfl
theorem hand_fit {h : List Int} (g : ∀ c ∈ h, Card7 c) (hl : h.length ≤ 7) : (List.map (fun x : Str => x.length) (List.map (fun c : Int => (toString c : Str)) h)).sum + (List.map (fun c : Int => (toString c : Str)) h).length * (PySem.Str.ofString "").length ≤ 16777216 := by
  rw [List.map_map]
  have := sum_le (fun c : Int => (toString c : Str).length) 1 h fun c m => by
    show (toString c : Str).length ≤ 1
    rw [ch_len, digit_is (g c m), List.length_singleton]
    omega
  rw [show (PySem.Str.ofString "").length = 0 from rfl, Nat.mul_zero]
  show (List.map (fun c : Int => (toString c : Str).length) h).sum + 0 ≤ _
  omega
/-- a line that can be written -/
structure Wr (l : List (List Int)) : Prop where
  ne : l ≠ []
  card : ∀ h ∈ l, ∀ c ∈ h, Card7 c
  hne : ∀ h ∈ l, h ≠ []
  len : ∀ h ∈ l, h.length ≤ 7
  few : l.length ≤ 100
theorem Wr.text {l : List (List Int)} (g : Wr l) : ch (n_text_of l) = jn [44] (l.map wd) ∧ n_text_of_ok l := by
  have e : ∀ h ∈ l, ch (PySem.Txt.join (PySem.Str.ofString "") (h.map fun c : Int => (toString c : Str))) = wd h := fun h m => hand_ch (g.card h m)
  constructor
  · unfold n_text_of
    rw [ch_join, List.map_map]
    show jn [44] (l.map fun h => ch (PySem.Txt.join (PySem.Str.ofString "") (h.map fun c : Int => (toString c : Str)))) = _
    rw [List.map_congr_left e]
  · refine ⟨fun h m => ⟨fun c mc => digit_log (g.card h m c mc), hand_fit (g.card h m) (g.len h m)⟩, ?_⟩
    rw [List.map_map]
    have := sum_le (fun h : List Int => (PySem.Txt.join (PySem.Str.ofString "") (h.map fun c : Int => (toString c : Str))).length) 7 l fun h m => by
      show (PySem.Txt.join (PySem.Str.ofString "") (h.map fun c : Int => (toString c : Str))).length ≤ 7
      rw [ch_len, e h m]
      unfold wd
      rw [List.length_map]
      exact g.len h m
    have hf := g.few
    rw [List.length_map, show (PySem.Str.ofString ",").length = 1 from rfl]
    show (List.map (fun h : List Int => (PySem.Txt.join (PySem.Str.ofString "") (h.map fun c : Int => (toString c : Str))).length) l).sum + _ ≤ _
    omega
theorem wd_mem {h : List Int} (g : ∀ c ∈ h, Card7 c) : ∀ c ∈ wd h, 48 ≤ c ∧ c < 55 := fun c m => by
  unfold wd at m
  obtain ⟨x, mx, rfl⟩ := List.mem_map.mp m
  have := g x mx
  have h1 := this.lo
  have h2 := this.hi
  omega
theorem Wr.sign {l : List (List Int)} (g : Wr l) : ∀ c ∈ jn [44] (l.map wd), c = 44 ∨ (48 ≤ c ∧ c < 55) := fun c m => by
  rcases jn_mem m with h | ⟨w, mw, h⟩
  · exact .inl (List.mem_singleton.mp h)
  · obtain ⟨x, mx, rfl⟩ := List.mem_map.mp mw
    exact .inr (wd_mem (g.card x mx) c h)
theorem Wr.length {l : List (List Int)} (g : Wr l) : (jn [44] (l.map wd)).length ≤ 800 := by
  have := jn_len [44] 7 (l.map wd) fun w mw => by
    obtain ⟨x, mx, rfl⟩ := List.mem_map.mp mw
    unfold wd
    rw [List.length_map]
    exact g.len x mx
  have hf := g.few
  rw [List.length_map, List.length_singleton] at this
  omega
theorem Wr.oks {l : List (List Int)} (g : Wr l) {z : Str} (e : ch z = jn [44] (l.map wd)) : OKS z := oks_iff.mpr fun c m => by
  rw [e] at m
  rcases g.sign c m with h | h <;> omega
theorem signs_mk (l : List Nat) : signsS (mkS l) = l.map fun c => mkS [c] := rfl
theorem ints_wd {h : List Int} (g : ∀ c ∈ h, Card7 c) : (signsS (mkS (wd h))).map (fun s => intS s) = h := by
  rw [signs_mk, List.map_map]
  unfold wd
  rw [List.map_map]
  conv => rhs; rw [← List.map_id h]
  exact List.map_congr_left fun c m => (digit_int (g c m)).1
abbrev FIG : Str := PySem.Str.ofString "0123456" ++ PySem.Str.ofString ","
theorem fig_mem {c : Nat} : c ∈ ch FIG ↔ c = 44 ∨ (48 ≤ c ∧ c < 55) := by
  have e : ch FIG = [48, 49, 50, 51, 52, 53, 54, 44] := by decide +kernel
  rw [e]
  simp only [List.mem_cons, List.not_mem_nil, or_false]
  omega
theorem comma_spl (z : Str) : Spl [44] (ch z) ((PySem.Txt.split z (PySem.Str.ofString ",")).map ch) := split_spl z (PySem.Str.ofString ",") (by decide) (by decide +kernel)
theorem Wr.words {l : List (List Int)} (g : Wr l) {z : Str} (e : ch z = jn [44] (l.map wd)) : PySem.Txt.split z (PySem.Str.ofString ",") = l.map fun h => mkS (wd h) := by
  have h1 := comma_spl z
  rw [e] at h1
  have h2 := spl_jn (c := 44) (y := []) (ws := l.map wd) (fun q => g.ne (List.map_eq_nil_iff.mp q)) fun w mw m => by
    obtain ⟨x, mx, rfl⟩ := List.mem_map.mp mw
    have := wd_mem (g.card x mx) 44 m
    omega
  have h3 := spl_uniq (by simp) h1 h2
  have h4 : ((PySem.Txt.split z (PySem.Str.ofString ",")).map ch).map mkS = (l.map wd).map mkS := by rw [h3]
  rw [List.map_map, List.map_map] at h4
  have h5 : (PySem.Txt.split z (PySem.Str.ofString ",")).map (mkS ∘ ch) = PySem.Txt.split z (PySem.Str.ofString ",") := by
    conv => rhs; rw [← List.map_id (PySem.Txt.split z (PySem.Str.ofString ","))]
    exact List.map_congr_left fun s _ => mk_ch s
  rw [h5] at h4
  exact h4
theorem Wr.read {l : List (List Int)} (g : Wr l) {z : Str} (e : ch z = jn [44] (l.map wd)) : n_line_from z = .ok l ∧ n_line_from_ok z := by
  have hs : PySem.Txt.stripChars z FIG = PySem.Str.ofString "" := strip_all fun c m => by
    rw [e] at m
    exact fig_mem.mpr (g.sign c m)
  have hl := g.length
  rw [← e, ← ch_len] at hl
  have hw := g.words e
  have oe : OKS (PySem.Str.ofString "") := by decide +kernel
  unfold n_line_from n_line_from_ok
  rw [hs, hw, decide_eq_true rfl]
  refine ⟨?_, fun _ => ⟨by rw [PySem.sizeLine_eq]; omega, oe, oe⟩, fun _ => ⟨⟨by decide, by rw [PySem.sizeLine_eq]; omega⟩, fun w mw => ?_⟩⟩
  · show Except.ok _ = _
    rw [List.map_map]
    refine congrArg Except.ok ?_
    conv => rhs; rw [← List.map_id l]
    exact List.map_congr_left fun h m => ints_wd (g.card h m)
  · obtain ⟨h, m, rfl⟩ := List.mem_map.mp mw
    have hl7 := g.len h m
    refine ⟨?_, fun s ms => ?_⟩
    · rw [ch_len, ch_mk, PySem.sizeLine_eq]
      unfold wd
      rw [List.length_map]
      omega
    · rw [signs_mk] at ms
      obtain ⟨c, mc, rfl⟩ := List.mem_map.mp ms
      obtain ⟨x, mx, rfl⟩ := List.mem_map.mp mc
      exact ⟨(digit_int (g.card h m x mx)).2, by rw [ch_len, ch_mk, List.length_singleton]; omega⟩
theorem PK.wr {w : List Int} {i : Int} (W : WK w) (P : PK w i) (hi : 1 ≤ atI w i ∧ atI w i ≤ 7) {l : List (List Int)} (L : LineI w i l) (few : l.length ≤ 100) : Wr l where
  ne := L.ne
  card h m c mc := by
    have := P.bd h (L.sub h m) c mc
    have := W.sum
    exact ⟨by omega, by omega⟩
  hne h m e := by
    have := P.size h (L.sub h m)
    rw [e, List.length_nil] at this
    omega
  len h m := by
    have := P.size h (L.sub h m)
    omega
  few := few
end Nt

namespace Nt
open Dc Law
/-! hands: strictly rising lists -/
theorem sub_anti : ∀ {xs ys : List Int}, List.Sublist xs ys → List.Sublist ys xs → xs = ys := fun h h2 => h.eq_of_length_le h2.length_le
theorem srt_sub : ∀ {ys xs : List Int}, xs.Pairwise (· < ·) → ys.Pairwise (· < ·) → (∀ c ∈ xs, c ∈ ys) → List.Sublist xs ys
  | _, [], _, _, _ => List.nil_sublist _
  | [], x :: xs, _, _, h => absurd (h x List.mem_cons_self) List.not_mem_nil
  | y :: ys, x :: xs, hx, hy, h => by
    have hx' := List.pairwise_cons.mp hx
    have hy' := List.pairwise_cons.mp hy
    rcases List.mem_cons.mp (h x List.mem_cons_self) with e | m
    · subst e
      refine List.Sublist.cons_cons _ (srt_sub hx'.2 hy'.2 fun c mc => ?_)
      rcases List.mem_cons.mp (h c (List.mem_cons_of_mem _ mc)) with e | m
      · have := hx'.1 c mc
        omega
      · exact m
    · refine List.Sublist.cons _ (srt_sub hx hy'.2 fun c mc => ?_)
      rcases List.mem_cons.mp (h c mc) with e | m2
      · have a := hy'.1 x m
        rcases List.mem_cons.mp mc with e2 | m3
        · omega
        · have := hx'.1 c m3
          omega
      · exact m2
theorem srt_ext {xs ys : List Int} (hx : xs.Pairwise (· < ·)) (hy : ys.Pairwise (· < ·)) (h : ∀ c, c ∈ xs ↔ c ∈ ys) : xs = ys :=
  sub_anti (srt_sub hx hy fun c => (h c).mp) (srt_sub hy hx fun c => (h c).mpr)
def subs : List Int → List (List Int)
  | [] => [[]]
  | x :: xs => subs xs ++ (subs xs).map (x :: ·)
theorem subs_mem {xs ys : List Int} (h : List.Sublist xs ys) : xs ∈ subs ys := by
  induction h with
  | slnil => exact List.mem_singleton_self _
  | cons a _ ih => exact List.mem_append_left _ ih
  | cons_cons a _ ih => exact List.mem_append_right _ (List.mem_map_of_mem ih)
structure IsH (m : Int) (k : Nat) (h : List Int) : Prop where
  srt : h.Pairwise (· < ·)
  rg : ∀ c ∈ h, 0 ≤ c ∧ c < m
  len : h.length = k
theorem range_lt (n : Int) : (rangeI n).Pairwise (· < ·) := by
  unfold rangeI
  rw [List.pairwise_map]
  exact List.Pairwise.imp (fun h => by omega) (List.pairwise_lt_range (n := n.toNat))
theorem hands_all : ∀ w ∈ worlds, ∀ i ∈ ([0, 1, 2] : List Int), ∀ h ∈ subs (rangeI (List.sum w)), h.length = (atI w i).toNat → h ∈ hands w i := by decide +kernel
theorem hands_fit : ∀ w ∈ worlds, ∀ i ∈ ([0, 1, 2] : List Int), ∀ h ∈ hands w i, h.Pairwise (· < ·) ∧ (∀ c ∈ h, 0 ≤ c ∧ c < List.sum w) ∧ h.length = (atI w i).toNat := by decide +kernel
theorem hands_iff {w : List Int} (hw : w ∈ worlds) {i : Int} (hi : i ∈ ([0, 1, 2] : List Int)) {h : List Int} : h ∈ hands w i ↔ IsH (List.sum w) (atI w i).toNat h :=
  ⟨fun m => ⟨(hands_fit w hw i hi h m).1, (hands_fit w hw i hi h m).2.1, (hands_fit w hw i hi h m).2.2⟩, fun z => hands_all w hw i hi h (subs_mem (srt_sub z.srt (range_lt _) fun c mc => rangeI_mem.mpr (z.rg c mc))) z.len⟩
end Nt

namespace Nt
open Dc Law
theorem few_le {α : Type} [DecidableEq α] : ∀ {l m : List α}, l.Nodup → (∀ z ∈ l, z ∈ m) → l.length ≤ m.length
  | [], _, _, _ => Nat.zero_le _
  | x :: l, m, h, s => by
    have h2 := List.nodup_cons.mp h
    have mx := s x List.mem_cons_self
    have ih := few_le (l := l) (m := m.erase x) h2.2 fun z mz => (List.mem_erase_of_ne fun (e : z = x) => h2.1 (by rw [← e]; exact mz)).mpr (s z (List.mem_cons_of_mem _ mz))
    rw [List.length_erase_of_mem mx] at ih
    have := List.length_pos_of_mem mx
    rw [List.length_cons]
    omega
theorem srt_few {w : List Int} {i : Int} (P : PK w i) {l : List (List Int)} (L : LineI w i l) : l.length ≤ 35 := by
  have nd : l.Nodup := L.srt.imp fun h e => by
    subst e
    rw [ltI_irr] at h
    cases h
  exact Nat.le_trans (few_le nd L.sub) P.len
end Nt

namespace Nt
open Dc Law
open PySem (Str)
/-! any text read as a line -/
theorem tl_tr : ∀ {a b c : List Int}, ltI a b = true → ltI b c = true → ltI a c = true := fun h h2 => ltI_trans h h2
theorem zip_pw {α : Type} (r : α → α → Prop) (tr : ∀ {a b c}, r a b → r b c → r a c) : ∀ {l : List α}, (∀ p ∈ List.zip l (List.drop 1 l), r p.1 p.2) → l.Pairwise r
  | [], _ => .nil
  | [x], _ => List.pairwise_singleton _ _
  | x :: y :: l, h => by
    have h1 : r x y := h (x, y) (by show (x, y) ∈ (x, y) :: List.zip (y :: l) l; exact List.mem_cons_self)
    have ih := zip_pw r tr (l := y :: l) fun p m => h p (by show p ∈ (x, y) :: List.zip (y :: l) l; exact List.mem_cons_of_mem _ m)
    refine List.pairwise_cons.mpr ⟨fun z m => ?_, ih⟩
    rcases List.mem_cons.mp m with rfl | m
    · exact h1
    · exact tr h1 ((List.pairwise_cons.mp ih).1 z m)
theorem set_id : ∀ {l : List (List Int)}, SrtS l → setSort l = l
  | [], _ => rfl
  | x :: l, h => by
    have h2 := List.pairwise_cons.mp h
    show insS x (setSort l) = _
    rw [set_id h2.2]
    cases l with
    | nil => rfl
    | cons y l =>
      have hl := h2.1 y List.mem_cons_self
      have ne : x ≠ y := fun e => by
        rw [e, ltI_irr] at hl
        cases hl
      unfold insS
      rw [if_neg ne, hl]
theorem whole_iff {c a b : Int} : n_is_whole c a b = true ↔ a ≤ c ∧ c ≤ b := by
  unfold n_is_whole
  simp
theorem is_hand_iff {w : List Int} (hw : w ∈ worlds) {i : Int} (hi : i ∈ ([0, 1, 2] : List Int)) {h : List Int} : n_is_hand w (atI w i) h = true ↔ h ∈ hands w i := by
  rw [hands_iff hw hi]
  have pos : 0 ≤ atI w i := by
    have z : ∀ w ∈ worlds, ∀ i ∈ ([0, 1, 2] : List Int), 0 ≤ atI w i := by decide
    exact z w hw i hi
  constructor
  · intro q
    unfold n_is_hand at q
    by_cases e : (h.length : Int) = atI w i
    · rw [decide_eq_true e] at q
      cases e2 : List.all (List.map (fun card_1 : Int => (n_is_whole card_1 (0 : Int) ((List.sum w) - (1 : Int)))) h) id with
      | false => rw [e2] at q; cases q
      | true =>
        rw [e2] at q
        have q : (List.all (List.map (fun p_2 : (Int × Int) => (decide (p_2.1 < p_2.2))) (List.zip h (List.drop (Int.toNat (1 : Int)) h))) id) = true := q
        rw [List.all_map, List.all_eq_true] at q e2
        refine ⟨zip_pw (· < ·) (fun a b => Int.lt_trans a b) fun p m => of_decide_eq_true (q p m), fun c m => ?_, by omega⟩
        have := whole_iff.mp (e2 c m)
        omega
    · rw [decide_eq_false e] at q
      cases q
  · intro q
    have := (hands_iff hw hi).mpr q
    have W := wk hw
    simp only [List.mem_cons, List.not_mem_nil, or_false] at hi
    rcases hi with rfl | rfl | rfl
    · exact W.p0.hand h this
    · exact W.p1.hand h this
    · exact W.p2.hand h this
theorem PKi {w : List Int} (hw : w ∈ worlds) {i : Int} (hi : i ∈ ([0, 1, 2] : List Int)) : PK w i := by
  have W := wk hw
  simp only [List.mem_cons, List.not_mem_nil, or_false] at hi
  rcases hi with rfl | rfl | rfl
  · exact W.p0
  · exact W.p1
  · exact W.p2
theorem is_line_iff {w : List Int} (hw : w ∈ worlds) {i : Int} (hi : i ∈ ([0, 1, 2] : List Int)) {l : List (List Int)} : n_is_line w (atI w i) l = true ↔ LineI w i l := by
  refine ⟨fun q => ?_, fun L => LineI.is (PKi hw hi) L⟩
  unfold n_is_line at q
  by_cases e : l = []
  · rw [decide_eq_true e] at q
    cases q
  · rw [decide_eq_false e] at q
    cases e2 : List.all (List.map (fun hand_1 : List Int => n_is_hand w (atI w i) hand_1) l) id with
    | false => rw [e2] at q; cases q
    | true =>
      rw [e2] at q
      have q : (List.all (List.map (fun p_2 : ((List Int) × (List Int)) => (ltI p_2.1 p_2.2)) (List.zip l (List.drop (Int.toNat (1 : Int)) l))) id) = true := q
      rw [List.all_map, List.all_eq_true] at q e2
      exact ⟨e, fun h m => (is_hand_iff hw hi).mp (e2 h m), zip_pw (fun a b => ltI a b = true) (fun a b => tl_tr a b) fun p m => q p m⟩
/-! the law's own reading -/
abbrev DIG : Str := Str.ofString "0123456789"
def sg (s : Str) : Int := if (inT s DIG) = true then intS s else -1
abbrev lawHs (z : Str) : List (List Int) := (PySem.Txt.split z (Str.ofString ",")).map fun word => (signsS word).map sg
theorem inT_one (c : Nat) (y : Str) : inT (mkS [c]) y = decide (c ∈ ch y) := PySem.StrLaws.found_one y c
theorem dig_mem {c : Nat} : c ∈ ch DIG ↔ 48 ≤ c ∧ c < 58 := by
  have e : ch DIG = [48, 49, 50, 51, 52, 53, 54, 55, 56, 57] := by decide +kernel
  rw [e]
  simp only [List.mem_cons, List.not_mem_nil, or_false]
  omega
theorem int_dig {c : Nat} (h : 48 ≤ c ∧ c < 58) : intS (mkS [c]) = (c : Int) - 48 ∧ (PySem.intText? (mkS [c])).isSome = true := by
  have z : ∀ k ∈ List.range 10, intS (mkS [48 + k]) = ((48 + k : Nat) : Int) - 48 ∧ (PySem.intText? (mkS [48 + k])).isSome = true := by decide +kernel
  have := z (c - 48) (List.mem_range.mpr (by omega))
  rw [show 48 + (c - 48) = c by omega] at this
  exact this
theorem sg_is (c : Nat) : sg (mkS [c]) = if 48 ≤ c ∧ c < 58 then (c : Int) - 48 else -1 := by
  unfold sg
  rw [inT_one]
  by_cases h : 48 ≤ c ∧ c < 58
  · rw [decide_eq_true (dig_mem.mpr h), if_pos rfl, if_pos h, (int_dig h).1]
  · rw [decide_eq_false fun q => h (dig_mem.mp q), if_neg (by decide), if_neg h]
theorem word_sub {z y : Str} {l : List Nat} (h : Spl l (ch z) ((PySem.Txt.split z y).map ch)) {word : Str} (m : word ∈ PySem.Txt.split z y) : ∀ c ∈ ch word, c ∈ ch z := fun c mc => spl_mem h (ch word) (List.mem_map_of_mem m) c mc
theorem spl_short {y l : List Nat} {ws : List (List Nat)} (h : Spl y l ws) : ∀ w ∈ ws, w.length ≤ l.length := by
  induction h with
  | last _ => exact fun w m => by rw [List.mem_singleton.mp m]; exact Nat.le_refl _
  | @cut p r ws g t ih =>
    intro w m
    rw [List.length_append, List.length_append]
    rcases List.mem_cons.mp m with rfl | m
    · omega
    · have := ih w m
      omega
/-- each sign in its word -/
theorem sign_of {s word : Str} (m : s ∈ signsS word) : ∃ c ∈ ch word, s = mkS [c] := by
  unfold signsS at m
  obtain ⟨c, mc, rfl⟩ := List.mem_map.mp m
  exact ⟨c, mc, rfl⟩
theorem law_ok {z : Str} (hz : z.length ≤ 16000) : ((((Str.ofString ",").length == 0) = false) ∧ z.length + 2 ≤ PySem.sizeLine) ∧ ∀ word ∈ PySem.Txt.split z (Str.ofString ","), word.length ≤ PySem.sizeLine ∧ ∀ s ∈ signsS word, (inT s DIG) = true → (PySem.intText? s).isSome = true ∧ s.length ≤ 640 := by
  have sp := comma_spl z
  refine ⟨⟨by decide, by rw [PySem.sizeLine_eq]; omega⟩, fun word m => ⟨?_, fun s ms hs => ?_⟩⟩
  · have := spl_short sp (ch word) (List.mem_map_of_mem m)
    rw [ch_len, PySem.sizeLine_eq]
    rw [← ch_len, ← ch_len] at this
    rw [← ch_len]
    omega
  · obtain ⟨c, _, rfl⟩ := sign_of ms
    rw [inT_one] at hs
    exact ⟨(int_dig (dig_mem.mp (of_decide_eq_true hs))).2, by rw [ch_len, ch_mk, List.length_singleton]; omega⟩
theorem split_ne {z : Str} : PySem.Txt.split z (Str.ofString ",") ≠ [] := fun e => by
  have := (jn_spl (comma_spl z)).2
  rw [e] at this
  exact this rfl
/-- what is read of signs that may be cards -/
theorem from_yes {z : Str} (hz : z.length ≤ 16000) (h : ∀ c ∈ ch z, c ∈ ch FIG) : n_line_from z = .ok (lawHs z) ∧ n_line_from_ok z := by
  have hs : PySem.Txt.stripChars z FIG = Str.ofString "" := strip_all h
  have sp := comma_spl z
  have dg : ∀ word ∈ PySem.Txt.split z (Str.ofString ","), ∀ c ∈ ch word, 48 ≤ c ∧ c < 58 := fun word m c mc => by
    have a := fig_mem.mp (h c (word_sub sp m c mc))
    have b : c ≠ 44 := fun e => spl_one sp (ch word) (List.mem_map_of_mem m) (e ▸ mc)
    omega
  have o0 : OKS (Str.ofString "") := by decide +kernel
  have L := law_ok hz
  unfold n_line_from n_line_from_ok
  rw [hs, decide_eq_true rfl]
  refine ⟨?_, fun _ => ⟨by rw [PySem.sizeLine_eq]; omega, o0, o0⟩, fun _ => ⟨L.1, fun word m => ⟨(L.2 word m).1, fun s ms => ?_⟩⟩⟩
  · show Except.ok _ = _
    refine congrArg Except.ok (List.map_congr_left fun word m => List.map_congr_left fun s ms => ?_)
    obtain ⟨c, mc, rfl⟩ := sign_of ms
    have := dg word m c mc
    show intS (mkS [c]) = _
    rw [sg_is, if_pos this, (int_dig this).1]
  · obtain ⟨c, mc, rfl⟩ := sign_of ms
    exact ⟨(int_dig (dg word m c mc)).2, by rw [ch_len, ch_mk, List.length_singleton]; omega⟩
theorem from_no {z : Str} (hz : z.length ≤ 16000) (ha : ∀ c ∈ ch z, c < 1114112) {c : Nat} (m : c ∈ ch z) (h : ¬ c ∈ ch FIG) : n_line_from z = .error 11 ∧ n_line_from_ok z := by
  have hs : PySem.Txt.stripChars z FIG ≠ Str.ofString "" := strip_some m h
  have o0 : OKS (Str.ofString "") := by decide +kernel
  have o1 : OKS (PySem.Txt.stripChars z FIG) := oks_iff.mpr fun c mc => by
    rw [strip_ch] at mc
    exact ha c (List.mem_of_mem_drop (List.mem_of_mem_take mc))
  unfold n_line_from n_line_from_ok
  rw [decide_eq_false hs]
  exact ⟨rfl, fun _ => ⟨by rw [PySem.sizeLine_eq]; omega, o1, o0⟩, fun q => (by cases q)⟩
abbrev allIn (w : List Int) (i : Int) (z : Str) : Bool := decide ((List.map (fun h : List Int => h) (List.filter (fun h : List Int => (!memB h (hands w i))) (lawHs z))) = ([] : List (List Int)))
theorem allIn_iff {w : List Int} {i : Int} {z : Str} : allIn w i z = true ↔ ∀ h ∈ lawHs z, h ∈ hands w i := by
  unfold allIn
  rw [decide_eq_true_eq, List.map_id', List.filter_eq_nil_iff]
  constructor
  · intro q h m
    have := q h m
    cases e : memB h (hands w i) with
    | true => exact memB_iff.mp e
    | false => rw [e] at this; exact absurd rfl this
  · intro q h m
    rw [memB_iff.mpr (q h m)]
    decide
theorem lawHs_ne (z : Str) : lawHs z ≠ [] := fun e => split_ne (List.map_eq_nil_iff.mp e)
theorem good_iff {w : List Int} (hw : w ∈ worlds) {i : Int} (hi : i ∈ ([0, 1, 2] : List Int)) {z : Str} : (allIn w i z && decide (lawHs z = setSort (lawHs z))) = n_is_line w (atI w i) (lawHs z) := by
  rw [Bool.eq_iff_iff, is_line_iff hw hi, Bool.and_eq_true, allIn_iff, decide_eq_true_eq]
  constructor
  · intro q
    refine ⟨lawHs_ne z, q.1, ?_⟩
    rw [q.2]
    exact setSort_srt _
  · intro L
    exact ⟨L.sub, (set_id L.srt).symm⟩
theorem set_ok {w : List Int} (hw : w ∈ worlds) {i : Int} (hi : i ∈ ([0, 1, 2] : List Int)) {l : List (List Int)} (h : ∀ x ∈ l, x ∈ hands w i) : setOk l = true := by
  have P := PKi hw hi
  have W := wk hw
  unfold setOk
  rw [Bool.and_eq_true, decide_eq_true_eq, List.all_eq_true]
  refine ⟨.inr ?_, fun k mk => ?_⟩
  · by_cases e : l = []
    · subst e
      decide
    · have := srt_few P (line_set e h)
      omega
  · rw [Bool.and_eq_true, decide_eq_true_eq, List.all_eq_true]
    constructor
    · cases l with
      | nil => cases mk
      | cons x l => rw [P.size k (h k mk)]; exact (P.size x (h x List.mem_cons_self)).symm
    · intro c mc
      have := P.bd k (h k mk) c mc
      have := W.sum
      rw [Bool.and_eq_true, decide_eq_true_eq, decide_eq_true_eq]
      omega
/-- a sign that is no card spoils the hand -/
theorem odd_out {w : List Int} (hw : w ∈ worlds) {i : Int} (hi : i ∈ ([0, 1, 2] : List Int)) {z : Str} {c : Nat} (m : c ∈ ch z) (h : ¬ c ∈ ch FIG) : allIn w i z = false := by
  rw [← Bool.not_eq_true, allIn_iff]
  intro q
  rcases spl_all (comma_spl z) c m with e | ⟨u, mu, mc⟩
  · exact h (fig_mem.mpr (.inl (List.mem_singleton.mp e)))
  · obtain ⟨word, mw, rfl⟩ := List.mem_map.mp mu
    have P := PKi hw hi
    have W := (wk hw).sum
    have := P.bd _ (q _ (List.mem_map_of_mem mw)) (sg (mkS [c])) (List.mem_map_of_mem (List.mem_map_of_mem mc))
    rw [sg_is] at this
    have hf : ¬ (c = 44 ∨ (48 ≤ c ∧ c < 55)) := fun e => h (fig_mem.mpr e)
    by_cases hd : 48 ≤ c ∧ c < 58
    · rw [if_pos hd] at this
      omega
    · rw [if_neg hd] at this
      omega
/-- a text with few signs -/
structure Tx (b : Nat) (z : Str) : Prop where
  len : z.length ≤ b
  small : ∀ c ∈ ch z, c < 128
theorem Tx.mono {a b : Nat} {z : Str} (h : Tx a z) (l : a ≤ b) : Tx b z := ⟨Nat.le_trans h.len l, h.small⟩
theorem Tx.app {a b : Nat} {y z : Str} (h : Tx a y) (g : Tx b z) : Tx (a + b) (y ++ z) := ⟨by
  have := h.len
  have := g.len
  rw [ch_len, ch_app, List.length_append, ← ch_len, ← ch_len]
  omega, fun c m => by
  rw [ch_app] at m
  rcases List.mem_append.mp m with m | m
  · exact h.small c m
  · exact g.small c m⟩
theorem takeS_ch (i : Int) (z : Str) : ch (takeS i z) = (ch z).take i.toNat := rfl
theorem dropS_ch (i : Int) (z : Str) : ch (dropS i z) = (ch z).drop i.toNat := rfl
theorem Tx.cut {b : Nat} {z y : Str} (h : Tx b z) (g : Tx 10 y) {i j : Int} (hij : i ≤ j) : Tx (b + 10) ((takeS i z ++ y) ++ dropS j z) := ⟨by
  have := h.len
  have := g.len
  rw [ch_len, ch_app, ch_app, takeS_ch, dropS_ch, List.length_append, List.length_append, List.length_take, List.length_drop, ← ch_len, ← ch_len]
  omega, fun c m => by
  rw [ch_app, ch_app, takeS_ch, dropS_ch] at m
  rcases List.mem_append.mp m with m | m
  · rcases List.mem_append.mp m with m | m
    · exact h.small c (List.mem_of_mem_take m)
    · exact g.small c m
  · exact h.small c (List.mem_of_mem_drop m)⟩
end Nt

namespace Nt
open Dc Law
/-! worlds that are none -/
abbrev oddWs : List D := [eN (), eI 5, eT eI [], eT eI [3, 3], eL eD [eI 3, eI 3, eI 1], eT eI [0, 3, 1], eT eI [3, 0, 1], eT eI [3, 3, 2], eT eI [-1, 3, 3], eQ eB eI eI (true, 3, 1), eQ eI eI eN (3, 3, ())] ++
  [eT eI [3, 3, 1, 0], eS (PySem.Str.ofString "331"), eT eI [4, 4, 0], eT eI [1, 1, -1], eQ eS eI eI (PySem.Str.ofString "3", 3, 1), eT eI [7, 1, 0]]
instance (a : D) (x y : Int) : Decidable (n_is_whole_i1_ok a x y) := by unfold n_is_whole_i1_ok; infer_instance
instance (a : D) : Decidable (n_need_world_i1_ok a) := by unfold n_need_world_i1_ok n_is_world_i1_ok; infer_instance
theorem oddW {d : D} (h : d ∈ oddWs) : n_is_world_i1 d = false ∧ n_need_world_i1_ok d := by
  have z : ∀ d ∈ oddWs, n_is_world_i1 d = false ∧ n_need_world_i1_ok d := by decide +kernel
  exact z d h
theorem oddW_no {d : D} (h : d ∈ oddWs) : n_need_world_i1 d = .error 0 ∧ n_need_world_i1_ok d := by
  have z := oddW h
  refine ⟨?_, z.2⟩
  unfold n_need_world_i1
  rw [z.1]
  rfl
theorem pickD_ok (s : List Int) {t : List Int} {xs : List D} (ht : t.length ≤ 1000000) (hx : xs ≠ []) : n_law_pick_v2_i2_ok s t xs := by
  have h0 : (0 : Int) < xs.length := by have := List.length_pos_iff.mpr hx; omega
  exact ⟨draw_ok s ht h0, draw_rg s t h0⟩
theorem pickD_mem (s t : List Int) {xs : List D} (hx : xs ≠ []) : (n_law_pick_v2_i2 s t xs).1 ∈ xs := by
  have h0 : (0 : Int) < xs.length := by have := List.length_pos_iff.mpr hx; omega
  exact atI_mem (draw_rg s t h0)
theorem pickD_len (s t : List Int) (xs : List D) : (n_law_pick_v2_i2 s t xs).2.length = t.length + 1 := draw_len s t (xs.length : Int)
theorem oddW_ok {s t : List Int} (ht : t.length ≤ 1000000) : n_law_odd_world_ok s t := ⟨by rw [PySem.sizeLine_eq]; decide, pickD_ok s ht (by decide)⟩
theorem oddW_mem (s t : List Int) : (n_law_odd_world s t).1 ∈ oddWs := pickD_mem s t (xs := oddWs) (by decide)
theorem oddW_len (s t : List Int) : (n_law_odd_world s t).2.length = t.length + 1 := pickD_len s t oddWs
/-! a text's sign left out, put in, exchanged -/
open PySem (Str)
theorem pickS_ok (s : List Int) {t : List Int} {xs : List Str} (ht : t.length ≤ 1000000) (hx : xs ≠ []) : n_law_pick_v2_i1_ok s t xs := by
  have h0 : (0 : Int) < xs.length := by have := List.length_pos_iff.mpr hx; omega
  exact ⟨draw_ok s ht h0, draw_rg s t h0⟩
theorem pickS_mem (s t : List Int) {xs : List Str} (hx : xs ≠ []) : (n_law_pick_v2_i1 s t xs).1 ∈ xs := by
  have h0 : (0 : Int) < xs.length := by have := List.length_pos_iff.mpr hx; omega
  exact atI_mem (draw_rg s t h0)
theorem pickS_len (s t : List Int) (xs : List Str) : (n_law_pick_v2_i1 s t xs).2.length = t.length + 1 := draw_len s t (xs.length : Int)
abbrev e10 (ns : List Int) (s : Str × List Int) : Int × List Int := n_law_draw_v2 ns s.2 ((s.1.length : Int) + (1 : Int))
abbrev e11 (ns : List Int) (puts : List Str) (s : Str × List Int) : Str × List Int := n_law_pick_v2_i1 ns (e10 ns s).2 puts
abbrev e12 (ns : List Int) (puts : List Str) (s : Str × List Int) : Int × List Int := n_law_draw_v2 ns (e11 ns puts s).2 (2 : Int)
abbrev edF (ns : List Int) (puts : List Str) (s : Str × List Int) (_ : Int) : Str × List Int := (((takeS (e10 ns s).1 s.1) ++ (e11 ns puts s).1) ++ (dropS ((e10 ns s).1 + (e12 ns puts s).1) s.1), (e12 ns puts s).2)
abbrev edP (ns : List Int) (puts : List Str) (s : Str × List Int) (_ : Int) : Prop := (s.1.length ≤ PySem.sizeLine) ∧ (n_law_draw_v2_ok ns s.2 ((s.1.length : Int) + (1 : Int))) ∧ (n_law_pick_v2_i1_ok ns (e10 ns s).2 puts) ∧ (0 ≤ (e10 ns s).1) ∧ (s.1.length ≤ PySem.sizeLine) ∧ ((takeS (e10 ns s).1 s.1).length + (e11 ns puts s).1.length ≤ PySem.sizeLine) ∧ (n_law_draw_v2_ok ns (e11 ns puts s).2 (2 : Int)) ∧ (0 ≤ ((e10 ns s).1 + (e12 ns puts s).1)) ∧ (s.1.length ≤ PySem.sizeLine) ∧ (((takeS (e10 ns s).1 s.1) ++ (e11 ns puts s).1).length + (dropS ((e10 ns s).1 + (e12 ns puts s).1) s.1).length ≤ PySem.sizeLine)
theorem ed_go (ns : List Int) {puts : List Str} (ne : puts ≠ []) (hp : ∀ y ∈ puts, Tx 10 y) : ∀ (xs : List Int) (s : Str × List Int) (b : Nat), Tx b s.1 → b + 10 * xs.length ≤ 10000 → s.2.length + 3 * xs.length ≤ 100000 →
    foldOk (edF ns puts) (edP ns puts) xs s ∧ Tx (b + 10 * xs.length) (List.foldl (edF ns puts) s xs).1 ∧ (List.foldl (edF ns puts) s xs).2.length = s.2.length + 3 * xs.length
  | [], s, b, h, _, _ => ⟨trivial, h, rfl⟩
  | x :: xs, s, b, h, hb, ht => by
    rw [List.length_cons] at hb ht
    have l := h.len
    have p1 : (0 : Int) < (s.1.length : Int) + 1 := by omega
    have k10 := draw_ok ns (t := s.2) (by omega) p1
    have r10 : 0 ≤ (e10 ns s).1 ∧ (e10 ns s).1 < (s.1.length : Int) + 1 := draw_rg ns s.2 p1
    have l10 : (e10 ns s).2.length = s.2.length + 1 := draw_len ns s.2 ((s.1.length : Int) + 1)
    have k11 := pickS_ok ns (t := (e10 ns s).2) (xs := puts) (by omega) ne
    have m11 := hp _ (pickS_mem ns (e10 ns s).2 ne)
    have l11 : (e11 ns puts s).2.length = (e10 ns s).2.length + 1 := pickS_len ns (e10 ns s).2 puts
    have k12 := draw_ok ns (t := (e11 ns puts s).2) (m := 2) (by omega) (by decide)
    have r12 : 0 ≤ (e12 ns puts s).1 ∧ (e12 ns puts s).1 < 2 := draw_rg ns (e11 ns puts s).2 (m := 2) (by decide)
    have l12 : (e12 ns puts s).2.length = (e11 ns puts s).2.length + 1 := draw_len ns (e11 ns puts s).2 2
    have T := h.cut (y := (e11 ns puts s).1) m11 (i := (e10 ns s).1) (j := (e10 ns s).1 + (e12 ns puts s).1) (by omega)
    have ih := ed_go ns ne hp xs (edF ns puts s x) (b + 10) T (by omega) (by show (e12 ns puts s).2.length + _ ≤ _; omega)
    have lc := T.len
    rw [ch_len, ch_app, ch_app, List.length_append, List.length_append, ← ch_len, ← ch_len, ← ch_len] at lc
    rw [List.length_cons]
    refine ⟨⟨⟨by rw [PySem.sizeLine_eq]; omega, k10, k11, r10.1, by rw [PySem.sizeLine_eq]; omega, by rw [PySem.sizeLine_eq]; omega, k12, by omega, by rw [PySem.sizeLine_eq]; omega, ?_⟩, ih.1⟩, ih.2.1.mono (by omega), ?_⟩
    · rw [ch_len (takeS _ _ ++ _), ch_app, List.length_append, ← ch_len, ← ch_len, PySem.sizeLine_eq]
      omega
    · show (List.foldl (edF ns puts) (edF ns puts s x) xs).2.length = _
      rw [ih.2.2]
      show (e12 ns puts s).2.length + _ = _
      omega
end Nt

namespace Nt
open Dc Law
open PySem (Str)
/-! k35 -/
abbrev oddXs : List D := [(eN ()), (eS (Str.ofString "")), (eI (5 : Int)), (eS (Str.ofString ",")), ((eT eS) ([(Str.ofString "01")] : List Str)), (eS (Str.ofString "01 23")), (eS (Str.ofString " 0"))]
instance (d : D) : Decidable (n_line_from_i1_ok d) := by unfold n_line_from_i1_ok; infer_instance
def noLine (w : List Int) (d : D) : Bool := match n_line_from_i1 d with
  | .error c => c == 11
  | .ok l => !n_is_line w (atI w 0) l
theorem odd_x {w : List Int} (hw : w ∈ worlds) {d : D} (m : d ∈ oddXs) : n_law_ask_v12_i1 w d = whichD 11 ∧ n_law_ask_v12_i1_ok w d := by
  have z : ∀ w ∈ worlds, ∀ d ∈ oddXs, noLine w d = true ∧ n_line_from_i1_ok d := by decide +kernel
  obtain ⟨z1, z2⟩ := z w hw d m
  have W := wk hw
  have h0 : (0 : Int) ≤ 0 ∧ (0 : Int) < w.length := ⟨by decide, by rw [W.len]; decide⟩
  have R : n_read_line_i1 w d = .error 11 ∧ n_read_line_i1_ok w d := by
    unfold n_read_line_i1 n_read_line_i1_ok
    rw [W.weq, exc_ok, excP_ok]
    unfold noLine at z1
    cases e : n_line_from_i1 d with
    | error c =>
      rw [e] at z1
      have : c = 11 := eq_of_beq z1
      subst this
      exact ⟨rfl, W.wok, z2, trivial⟩
    | ok l =>
      rw [e] at z1
      rw [exc_ok, excP_ok]
      have z1 : (!n_is_line w (atI w 0) l) = true := z1
      rw [z1]
      exact ⟨rfl, W.wok, z2, h0⟩
  unfold n_law_ask_v12_i1 n_law_ask_v12_i1_ok
  rw [R.1]
  refine ⟨rfl, R.2, fun c e => ?_⟩
  have e' : (Except.error 11 : Except Nat D) = Except.error c := e
  cases e'
  decide
theorem odd_w {d : D} (m : d ∈ oddWs) (z : Str) : n_law_ask_v12_i2 d z = whichD 0 ∧ n_law_ask_v12_i2_ok d z := by
  have N := oddW_no m
  have R : n_read_line_i2 d z = .error 0 ∧ n_read_line_i2_ok d z := by
    unfold n_read_line_i2 n_read_line_i2_ok
    rw [N.1]
    exact ⟨rfl, N.2, trivial⟩
  unfold n_law_ask_v12_i2 n_law_ask_v12_i2_ok
  rw [R.1]
  refine ⟨rfl, R.2, fun c e => ?_⟩
  have e' : (Except.error 0 : Except Nat D) = Except.error c := e
  cases e'
  decide
abbrev goodB (w : List Int) (z : Str) : Bool := allIn w 0 z && decide (lawHs z = setSort (lawHs z))
theorem read_is {w : List Int} (hw : w ∈ worlds) {z : Str} (T : Tx 16000 z) : (goodB w z = true ∧ n_read_line w z = .ok (lawHs z) ∨ goodB w z = false ∧ n_read_line w z = .error 11) ∧ n_read_line_ok w z := by
  have W := wk hw
  have h0 : (0 : Int) ≤ 0 ∧ (0 : Int) < w.length := ⟨by decide, by rw [W.len]; decide⟩
  have G := good_iff hw (i := 0) (by decide) (z := z)
  by_cases h : ∀ c ∈ ch z, c ∈ ch FIG
  · have F := from_yes T.len h
    unfold n_read_line n_read_line_ok
    rw [W.weq, exc_ok, excP_ok, F.1, exc_ok, excP_ok]
    refine ⟨?_, W.wok, F.2, h0⟩
    rw [show goodB w z = n_is_line w (atI w 0) (lawHs z) from G]
    cases n_is_line w (atI w 0) (lawHs z) with
    | true => exact .inl ⟨rfl, rfl⟩
    | false => exact .inr ⟨rfl, rfl⟩
  · have : ∃ c ∈ ch z, ¬ c ∈ ch FIG := Classical.byContradiction fun q => h fun c m => Classical.byContradiction fun q2 => q ⟨c, m, q2⟩
    obtain ⟨c, m, n⟩ := this
    have F := from_no T.len (fun c m => Nat.lt_trans (T.small c m) (by decide)) m n
    unfold n_read_line n_read_line_ok
    rw [W.weq, exc_ok, excP_ok, F.1]
    refine ⟨.inr ⟨?_, rfl⟩, W.wok, F.2, trivial⟩
    unfold goodB
    rw [odd_out hw (by decide) m n]
    rfl
theorem ask_is {w : List Int} (hw : w ∈ worlds) {z : Str} (T : Tx 16000 z) : (goodB w z = true ∧ n_law_ask_v12 w z = eT (eT eI) (lawHs z) ∨ goodB w z = false ∧ n_law_ask_v12 w z = whichD 11) ∧ n_law_ask_v12_ok w z := by
  have R := read_is hw T
  unfold n_law_ask_v12 n_law_ask_v12_ok
  rcases R.1 with ⟨g, e⟩ | ⟨g, e⟩
  · rw [e]
    exact ⟨.inl ⟨g, rfl⟩, R.2, fun c q => (by cases q)⟩
  · rw [e]
    refine ⟨.inr ⟨g, rfl⟩, R.2, fun c q => ?_⟩
    have e' : (Except.error 11 : Except Nat D) = Except.error c := q
    cases e'
    decide
abbrev puts35 : List Str := [(Str.ofString ""), (Str.ofString "0"), (Str.ofString "1"), (Str.ofString "2"), (Str.ofString "3"), (Str.ofString ","), (Str.ofString " "), (Str.ofString ",,"), (Str.ofString "6"), (Str.ofString "7"), (Str.ofString "a"), (Str.ofString "-")]
theorem puts_tx : ∀ y ∈ puts35, Tx 10 y := by
  have z : ∀ y ∈ puts35, y.length ≤ 10 ∧ ∀ c ∈ ch y, c < 128 := by decide +kernel
  exact fun y m => ⟨(z y m).1, (z y m).2⟩
theorem law_true (ns : List Int) : n_law ns = true ∧ n_law_ok ns := by
  unfold n_law n_law_ok
  simp only [bnd_eq]
  have k1 := draw_ok ns (t := []) (m := 3) (by decide) (by decide)
  have r1 := draw_rg ns [] (m := 3) (by decide)
  have l1 := draw_len ns [] 3
  rw [List.length_nil] at l1
  generalize n_law_draw_v2 ns [] 3 = c2 at r1 l1 ⊢
  have k2 := world_ok ns (t := c2.2) (by omega)
  have m2 := world_mem ns c2.2
  have l2 := world_len ns c2.2
  generalize n_law_world_v2 ns c2.2 = c3 at m2 l2 ⊢
  have W := wk m2
  have a0 := W.a0
  obtain ⟨k5, L5, b5, s5⟩ := line_ok W ns (t := c3.2) (most := 6) (by omega) (by decide)
  generalize n_law_line_v2 ns c3.2 (List.sum c3.1) (atI c3.1 0) 6 = c5 at L5 b5 s5 ⊢
  have R := PK.wr W W.p0 (by omega) L5 (by omega)
  have tx := R.text
  have N := LineI.need W L5
  have h0 : (0 : Int) ≤ 0 ∧ (0 : Int) < c3.1.length := ⟨by decide, by rw [W.len]; decide⟩
  have lt : n_line_text c3.1 c5.1 = .ok (n_text_of c5.1) ∧ n_line_text_ok c3.1 c5.1 := by
    unfold n_line_text n_line_text_ok
    rw [N.2, exc_ok, excP_ok]
    exact ⟨rfl, N.1, tx.2⟩
  have g1 : getOk (n_line_text c3.1 c5.1) = n_text_of c5.1 := by rw [lt.1]; rfl
  have i1 : isOk (n_line_text c3.1 c5.1) = true := by rw [lt.1]; rfl
  rw [g1]
  have T0 : Tx 800 (n_text_of c5.1) := ⟨by rw [ch_len, tx.1]; exact R.length, fun c m => by
    rw [tx.1] at m
    rcases R.sign c m with h | h <;> omega⟩
  have xl : (rangeI c2.1).length ≤ 3 := by rw [rangeI_len]; omega
  have E := ed_go ns (puts := puts35) (List.cons_ne_nil _ _) puts_tx (rangeI c2.1) (n_text_of c5.1, c5.2) 800 T0 (by omega) (by show c5.2.length + _ ≤ _; omega)
  have E1 := E.1
  have E2 := E.2.1
  have E3 := E.2.2
  have Er : (-100000 : Int) ≤ c2.1 ∧ c2.1 ≤ 100000 := by omega
  change ((if _ then _ else _) = true) ∧ _
  have E3 : (List.foldl (edF ns puts35) (n_text_of c5.1, c5.2) (rangeI c2.1)).2.length = c5.2.length + 3 * (rangeI c2.1).length := E3
  generalize hf : List.foldl (edF ns puts35) (n_text_of c5.1, c5.2) (rangeI c2.1) = f at E2 E3 ⊢
  have T := E2.mono (b := 16000) (by omega)
  have LO := law_ok T.len
  have xne : oddXs ≠ [] := List.cons_ne_nil _ _
  have kx := pickD_ok ns (t := f.2) (xs := oddXs) (by omega) xne
  have mx := pickD_mem ns f.2 xne
  have lx := pickD_len ns f.2 oddXs
  generalize n_law_pick_v2_i2 ns f.2 oddXs = c21 at mx lx ⊢
  have X := odd_x m2 mx
  have kw := oddW_ok (s := ns) (t := c21.2) (by omega)
  have mw := oddW_mem ns c21.2
  generalize n_law_odd_world ns c21.2 = c22 at mw ⊢
  have Y := odd_w mw f.1
  have A := ask_is m2 T
  have e1 : PySem.PyData.eqv (whichD 11) ((eP eS eI) ((Str.ofString "refused"), (11 : Int))) = true := by decide +kernel
  have e2 : PySem.PyData.eqv (whichD 0) ((eP eS eI) ((Str.ofString "refused"), (0 : Int))) = true := by decide +kernel
  have e3 : PySem.SeqAt.shaped (whichD 11) = true := by decide +kernel
  have e4 : PySem.SeqAt.shaped ((eP eS eI) ((Str.ofString "refused"), (11 : Int))) = true := by decide +kernel
  have e5 : PySem.SeqAt.shaped (whichD 0) = true := by decide +kernel
  have e6 : PySem.SeqAt.shaped ((eP eS eI) ((Str.ofString "refused"), (0 : Int))) = true := by decide +kernel
  have sE : ∀ l : List (List Int), PySem.SeqAt.shaped (eT (eT eI) l) = true := fun l => shp (e := eT (eT eI)) (by decide) l
  have pk : n_law_picks_ok (List.sum c3.1) (atI c3.1 0) := W.p0.lok
  have top : PySem.PyData.eqv (n_law_ask_v12 c3.1 f.1) (if goodB c3.1 f.1 = true then ((eT (eT eI)) (lawHs f.1)) else ((eP eS eI) ((Str.ofString "refused"), (11 : Int)))) = true ∧ PySem.SeqAt.shaped (n_law_ask_v12 c3.1 f.1) = true ∧ PySem.SeqAt.shaped (if goodB c3.1 f.1 = true then ((eT (eT eI)) (lawHs f.1)) else ((eP eS eI) ((Str.ofString "refused"), (11 : Int)))) = true := by
    rcases A.1 with ⟨g, e⟩ | ⟨g, e⟩
    · rw [e, g, if_pos rfl]
      refine ⟨?_, sE _, sE _⟩
      have := (inferInstance : Typ (eT (eT eI)) _).eqv (lawHs f.1) (lawHs f.1)
      rw [this, decide_eq_true rfl]
    · rw [e, g, if_neg (by decide)]
      exact ⟨e1, e3, e4⟩
  have so : ∀ b : Bool, allIn c3.1 0 f.1 = b → b = true → setOk (lawHs f.1) = true := fun b h q => set_ok m2 (i := 0) (by decide) (allIn_iff.mp (h.trans q))
  rw [X.1, Y.1, e1, e2]
  refine ⟨?_, k1, k2, h0, k5, lt.2, i1, Er, E1, LO.1, LO.2, fun h m => ⟨h0, pk⟩, fun q => so _ rfl q, kx, X.2, ⟨e3, e4⟩, fun _ => ⟨kw, Y.2, e5, e6⟩, fun _ => ⟨A.2, top.2⟩⟩
  exact top.1
end Nt

namespace Nt
open Dc Law
theorem call_true {call : Nat → List Sl → R Sl} {f : Nat} {d : D} {OF : Bool → O} {b : Bool} (h : CallO call f [.fr d] OF b) (hO : OF true = .rt (.fr (eB true)) [.nn]) (hb : b = true) : ∃ os, call f [.fr d] = .ok (.fr (.bool true)) os := by
  subst hb
  have z := h [.fr d] ⟨rfl, trivial⟩
  rw [hO] at z
  obtain ⟨s, env, e, k, _⟩ := z
  cases k
  exact ⟨env, e⟩
theorem plain (ns : List Int) (hl : ns.length ≤ 63) : ∃ os, run U 40 200 [.fr (.list (ns.map PySem.PyData.int))] = .ok (.fr (.bool true)) os := call_true (t_law (k := 40) (by decide) ns (law_true ns).2) rfl (law_true ns).1
end Nt

theorem Law.plain (ns : List Int) (hl : ns.length ≤ 63) : ∃ os, Dc.run Law.U 40 200 [.fr (.list (ns.map PySem.PyData.int))] = .ok (.fr (.bool true)) os := Nt.plain ns hl
namespace Law
open PySem PySem.Spec PyProof.Rows L2 RZ Dc
def topS (i : Nat) : Stmt := PySem.Challenge.pw_dealtcards_k35_whole_no_other_lines.main.body.getD i (.Pass ⟨0, 0, 0, 0⟩)
abbrev st_is_whole : Stmt := topS 16
theorem sc_is_whole : FnScope ["thing", "low", "most"] ["thing", "low", "most"] (defScope st_is_whole) := ⟨rfl, rfl, rfl, by decide +kernel, rfl, by decide +kernel, by decide +kernel⟩
abbrev st_is_world : Stmt := topS 17
theorem sc_is_world : FnScope ["thing"] ["thing"] (defScope st_is_world) := ⟨rfl, rfl, rfl, by decide +kernel, rfl, by decide +kernel, by decide +kernel⟩
abbrev st_need_world : Stmt := topS 18
theorem sc_need_world : FnScope ["thing"] ["thing"] (defScope st_need_world) := ⟨rfl, rfl, rfl, by decide +kernel, rfl, by decide +kernel, by decide +kernel⟩
abbrev st_is_hand : Stmt := topS 19
theorem sc_is_hand : FnScope ["world", "size", "thing", "one", "other", "card"] ["world", "size", "thing"] (defScope st_is_hand) := ⟨rfl, rfl, rfl, by decide +kernel, rfl, by decide +kernel, by decide +kernel⟩
abbrev st_is_line : Stmt := topS 20
theorem sc_is_line : FnScope ["world", "size", "thing", "one", "other", "hand"] ["world", "size", "thing"] (defScope st_is_line) := ⟨rfl, rfl, rfl, by decide +kernel, rfl, by decide +kernel, by decide +kernel⟩
abbrev st_need_line : Stmt := topS 21
theorem sc_need_line : FnScope ["world", "thing"] ["world", "thing"] (defScope st_need_line) := ⟨rfl, rfl, rfl, by decide +kernel, rfl, by decide +kernel, by decide +kernel⟩
abbrev st_text_of : Stmt := topS 24
theorem sc_text_of : FnScope ["line", "hand", "card"] ["line"] (defScope st_text_of) := ⟨rfl, rfl, rfl, by decide +kernel, rfl, by decide +kernel, by decide +kernel⟩
abbrev st_line_text : Stmt := topS 25
theorem sc_line_text : FnScope ["world", "line"] ["world", "line"] (defScope st_line_text) := ⟨rfl, rfl, rfl, by decide +kernel, rfl, by decide +kernel, by decide +kernel⟩
abbrev st_line_from : Stmt := topS 26
theorem sc_line_from : FnScope ["text", "word", "sign"] ["text"] (defScope st_line_from) := ⟨rfl, rfl, rfl, by decide +kernel, rfl, by decide +kernel, by decide +kernel⟩
abbrev st_read_line : Stmt := topS 27
theorem sc_read_line : FnScope ["world", "text", "line"] ["world", "text"] (defScope st_read_line) := ⟨rfl, rfl, rfl, by decide +kernel, rfl, by decide +kernel, by decide +kernel⟩
abbrev st_law_cell_at : Stmt := topS 29
theorem sc_law_cell_at : FnScope ["_law_script", "_law_k"] ["_law_script", "_law_k"] (defScope st_law_cell_at) := ⟨rfl, rfl, rfl, by decide +kernel, rfl, by decide +kernel, by decide +kernel⟩
abbrev st_law_mixed_v2 : Stmt := topS 30
theorem sc_law_mixed_v2 : FnScope ["_law_script", "_law_k", "_law_many", "_law_drawn"] ["_law_script", "_law_k", "_law_many"] (defScope st_law_mixed_v2) := ⟨rfl, rfl, rfl, by decide +kernel, rfl, by decide +kernel, by decide +kernel⟩
abbrev st_law_draw_v2 : Stmt := topS 31
theorem sc_law_draw_v2 : FnScope ["_law_script", "_law_town", "_law_many"] ["_law_script", "_law_town", "_law_many"] (defScope st_law_draw_v2) := ⟨rfl, rfl, rfl, by decide +kernel, rfl, by decide +kernel, by decide +kernel⟩
abbrev st_law_pick_v2 : Stmt := topS 32
theorem sc_law_pick_v2 : FnScope ["_law_script", "_law_town", "_law_some"] ["_law_script", "_law_town", "_law_some"] (defScope st_law_pick_v2) := ⟨rfl, rfl, rfl, by decide +kernel, rfl, by decide +kernel, by decide +kernel⟩
abbrev st_law_world_v2 : Stmt := topS 33
theorem sc_law_world_v2 : FnScope ["_law_script", "_law_town", "_law_some"] ["_law_script", "_law_town"] (defScope st_law_world_v2) := ⟨rfl, rfl, rfl, by decide +kernel, rfl, by decide +kernel, by decide +kernel⟩
abbrev st_law_picks : Stmt := topS 34
theorem sc_law_picks : FnScope ["_law_many", "_law_size", "_law_rows", "_law_turn", "_law_longer", "_law_row", "_law_card"] ["_law_many", "_law_size"] (defScope st_law_picks) := ⟨rfl, rfl, rfl, by decide +kernel, rfl, by decide +kernel, by decide +kernel⟩
abbrev st_law_line_v2 : Stmt := topS 35
theorem sc_law_line_v2 : FnScope ["_law_script", "_law_town", "_law_many", "_law_size", "_law_most", "_law_hands", "_law_made", "_law_seven", "_law_k"] ["_law_script", "_law_town", "_law_many", "_law_size", "_law_most"] (defScope st_law_line_v2) := ⟨rfl, rfl, rfl, by decide +kernel, rfl, by decide +kernel, by decide +kernel⟩
abbrev st_law_odd_world : Stmt := topS 36
theorem sc_law_odd_world : FnScope ["_law_script", "_law_town", "_law_some"] ["_law_script", "_law_town"] (defScope st_law_odd_world) := ⟨rfl, rfl, rfl, by decide +kernel, rfl, by decide +kernel, by decide +kernel⟩
abbrev st_law_ask_v12 : Stmt := topS 38
theorem sc_law_ask_v12 : FnScope ["_law_world_here", "_law_text", "_law_e"] ["_law_world_here", "_law_text"] (defScope st_law_ask_v12) := ⟨rfl, rfl, rfl, by decide +kernel, rfl, by decide +kernel, by decide +kernel⟩
abbrev st_law : Stmt := topS 39
theorem sc_law : FnScope ["_law_script", "_law_town", "_law_times", "_law_world_here", "_law_many", "_law_text", "_law_k", "_law_hands", "_law_good", "_law_odd", "_law_at", "_law_put", "_law_word", "_law_hand", "_law_sign"] ["_law_script"] (defScope st_law) := ⟨rfl, rfl, rfl, by decide +kernel, rfl, by decide +kernel, by decide +kernel⟩
section
variable {P : Program} {w : World} {K : PySem.W.Frag} {mg : Str → Option Value} {base : Heap} {exc : Nat → Addr} {k : Nat} {CE : Value} {tk : Tok}
theorem ok_is_whole (hd : Hd1 K mg "is_whole" st_is_whole ["thing", "low", "most"]) (bl : Bl mg) : Ok1 P w K mg base exc U (k + 1) 1 "is_whole" 3 :=
  def_step (d := d_is_whole) (io := []) hd sc_is_whole bl rfl rfl rfl rfl fun f cdv A outer s H E B hp =>
  (s_cons (s_ret (r_and (r_isInt B rfl rfl (o_var rfl (.inl rfl) rfl rfl) rfl) (r_and (r_not (r_isBool B rfl rfl (o_var rfl (.inl rfl) rfl rfl) rfl)) (r_one (r_chain (c_le B) (c_le B) (r_var rfl (.inl rfl) rfl rfl) (r_var rfl (.inl rfl) rfl rfl) (r_var rfl (.inl rfl) rfl rfl) rfl)))) rfl)
  s_nil)
theorem ok_is_world (hd : Hd1 K mg "is_world" st_is_world ["thing"]) (bl : Bl mg) {tk_CARDS : Tok} (g_CARDS : mg "CARDS" = some (.int 7 tk_CARDS)) (h_is_whole : Ok1 P w K mg base exc U k 1 "is_whole" 3) : Ok1 P w K mg base exc U (k + 1) 2 "is_world" 1 :=
  def_step (d := d_is_world) (io := []) hd sc_is_world bl rfl rfl rfl rfl fun f cdv A outer s H E B hp =>
  (s_cons (s_if (PW.pt (t_or (t_not (t_of (r_isTup B rfl rfl (o_var rfl (.inl rfl) rfl rfl) rfl) fun _ => rfl)) (t_or1 (t_cmp (c_ne B) (o_of (r_len B rfl (o_var rfl (.inl rfl) rfl rfl) rfl) rfl) (o_of r_int rfl) rfl)))) (s_cons (s_ret r_bool rfl)
  s_nil) s_nil)
  (s_cons (s_if (PW.pt (t_or (t_not (t_of (r_call B h_is_whole rfl rfl rfl (gs_cons (g_of (r_item (o_var rfl (.inl rfl) rfl rfl) (o_of r_int rfl) rfl) rfl) rfl (gs_cons (g_of r_int rfl) rfl (gs_cons (g_of (r_globI g_CARDS rfl rfl) rfl) rfl gs_nil))) rfl rfl rfl (by decide)) fun _ => rfl)) (t_or (t_not (t_of (r_call B h_is_whole rfl rfl rfl (gs_cons (g_of (r_item (o_var rfl (.inl rfl) rfl rfl) (o_of r_int rfl) rfl) rfl) rfl (gs_cons (g_of r_int rfl) rfl (gs_cons (g_of (r_globI g_CARDS rfl rfl) rfl) rfl gs_nil))) rfl rfl rfl (by decide)) fun _ => rfl)) (t_or1 (t_not (t_of (r_call B h_is_whole rfl rfl rfl (gs_cons (g_of (r_item (o_var rfl (.inl rfl) rfl rfl) (o_of r_int rfl) rfl) rfl) rfl (gs_cons (g_of r_int rfl) rfl (gs_cons (g_of (r_globI g_CARDS rfl rfl) rfl) rfl gs_nil))) rfl rfl rfl (by decide)) fun _ => rfl)))))) (s_cons (s_ret r_bool rfl)
  s_nil) s_nil)
  (s_cons (s_ret (r_cmp (c_le B) (o_of (r_sum B rfl (o_var rfl (.inl rfl) rfl rfl) rfl) rfl) (o_of (r_globI g_CARDS rfl rfl) rfl) rfl) rfl)
  s_nil)))
theorem ok_need_world (hd : Hd1 K mg "need_world" st_need_world ["thing"]) (bl : Bl mg) (c_NoWorld : ClOk K mg (exc 0) "NoWorld") (h_is_world : Ok1 P w K mg base exc U k 2 "is_world" 1) : Ok1 P w K mg base exc U (k + 1) 3 "need_world" 1 :=
  def_step (d := d_need_world) (io := []) hd sc_need_world bl rfl rfl rfl rfl fun f cdv A outer s H E B hp =>
  (s_cons (s_if (t_not (t_of (r_call B h_is_world rfl rfl rfl (gs_cons (g_var rfl (.inl rfl) rfl rfl) rfl gs_nil) rfl rfl rfl (by decide)) fun _ => rfl)) (s_cons (s_raise B c_NoWorld rfl rfl)
  s_nil) s_nil)
  s_nil)
theorem ok_is_hand (hd : Hd1 K mg "is_hand" st_is_hand ["world", "size", "thing"]) (bl : Bl mg) (h_is_whole : Ok1 P w K mg base exc U k 1 "is_whole" 3) : Ok1 P w K mg base exc U (k + 1) 6 "is_hand" 3 :=
  def_step (d := d_is_hand) (io := []) hd sc_is_hand bl rfl rfl rfl rfl fun f cdv A outer s H E B hp =>
  (s_cons (s_if (PW.pt (t_or (t_not (t_of (r_isTup B rfl rfl (o_var rfl (.inl rfl) rfl rfl) rfl) fun _ => rfl)) (t_or1 (t_cmp (c_ne B) (o_of (r_len B rfl (o_var rfl (.inl rfl) rfl rfl) rfl) rfl) (o_var rfl (.inl rfl) rfl rfl) rfl)))) (s_cons (s_ret r_bool rfl)
  s_nil) s_nil)
  (s_cons (s_if (t_not (t_of (r_all B rfl (o_of (r_comp B (i_seq (r_var rfl (.inl rfl) rfl rfl)) (own := [("card", 5)]) (by kernel_rfl) rfl (fun _ _ _ _ _ B1 => (g_one B1.nd rfl (.inl rfl) (.inr rfl))) (fun _ _ _ _ _ B1 => k_none) (fun _ _ _ _ _ B1 => (r_call B1 h_is_whole rfl rfl rfl (gs_cons (g_var rfl (.inl rfl) rfl rfl) rfl (gs_cons (g_of r_int rfl) rfl (gs_cons (g_of (r_sub (o_of (r_sum B1 rfl (o_var rfl (.inr (.inl rfl)) rfl rfl) rfl) rfl) (o_of r_int rfl)) rfl) rfl gs_nil))) rfl rfl rfl (by decide))) (fun _ => rfl)) rfl) rfl) fun _ => rfl)) (s_cons (s_ret r_bool rfl)
  s_nil) s_nil)
  (s_cons (s_ret (r_all B rfl (o_of (r_comp B (i_zip B rfl (r_var rfl (.inl rfl) rfl rfl) (r_slLo (o_var rfl (.inl rfl) rfl rfl) (o_of r_int rfl)) rfl rfl) (own := [("one", 3), ("other", 4)]) (by kernel_rfl) rfl (fun _ _ _ _ _ B1 => (g_two B1.calm (gs_1 B1.nd rfl (.inl rfl) (.inr rfl) (gs_1 B1.nd rfl (.inl rfl) (.inr rfl) gs_0)) rfl rfl)) (fun _ _ _ _ _ B1 => k_none) (fun _ _ _ _ _ B1 => (r_cmp (c_lt B1) (o_var rfl (.inl rfl) rfl rfl) (o_var rfl (.inl rfl) rfl rfl) rfl)) (fun _ => rfl)) rfl) rfl) rfl)
  s_nil)))
theorem ok_is_line (hd : Hd1 K mg "is_line" st_is_line ["world", "size", "thing"]) (bl : Bl mg) (h_is_hand : Ok1 P w K mg base exc U k 6 "is_hand" 3) : Ok1 P w K mg base exc U (k + 1) 11 "is_line" 3 :=
  def_step (d := d_is_line) (io := []) hd sc_is_line bl rfl rfl rfl rfl fun f cdv A outer s H E B hp =>
  (s_cons (s_if (PW.pt (t_or (t_not (t_of (r_isTup B rfl rfl (o_var rfl (.inl rfl) rfl rfl) rfl) fun _ => rfl)) (t_or (t_cmp (c_eq B) (o_var rfl (.inl rfl) rfl rfl) (o_of (r_tup vs_nil rfl) rfl) rfl) (t_or1 (t_not (t_of (r_all B rfl (o_of (r_comp B (i_seq (r_var rfl (.inl rfl) rfl rfl)) (own := [("hand", 5)]) (by kernel_rfl) rfl (fun _ _ _ _ _ B1 => (g_one B1.nd rfl (.inl rfl) (.inr rfl))) (fun _ _ _ _ _ B1 => k_none) (fun _ _ _ _ _ B1 => (r_call B1 h_is_hand rfl rfl rfl (gs_cons (g_var rfl (.inr (.inl rfl)) rfl rfl) rfl (gs_cons (g_var rfl (.inr (.inl rfl)) rfl rfl) rfl (gs_cons (g_var rfl (.inl rfl) rfl rfl) rfl gs_nil))) rfl rfl rfl (by decide))) (fun _ => rfl)) rfl) rfl) fun _ => rfl)))))) (s_cons (s_ret r_bool rfl)
  s_nil) s_nil)
  (s_cons (s_ret (r_all B rfl (o_of (r_comp B (i_zip B rfl (r_var rfl (.inl rfl) rfl rfl) (r_slLo (o_var rfl (.inl rfl) rfl rfl) (o_of r_int rfl)) rfl rfl) (own := [("one", 3), ("other", 4)]) (by kernel_rfl) rfl (fun _ _ _ _ _ B1 => (g_two B1.calm (gs_1 B1.nd rfl (.inl rfl) (.inr rfl) (gs_1 B1.nd rfl (.inl rfl) (.inr rfl) gs_0)) rfl rfl)) (fun _ _ _ _ _ B1 => k_none) (fun _ _ _ _ _ B1 => (r_cmp (c_lt B1) (o_var rfl (.inl rfl) rfl rfl) (o_var rfl (.inl rfl) rfl rfl) rfl)) (fun _ => rfl)) rfl) rfl) rfl)
  s_nil))
theorem ok_need_line (hd : Hd1 K mg "need_line" st_need_line ["world", "thing"]) (bl : Bl mg) (c_NoLine : ClOk K mg (exc 2) "NoLine") (h_is_line : Ok1 P w K mg base exc U k 11 "is_line" 3) (h_need_world : Ok1 P w K mg base exc U k 3 "need_world" 1) : Ok1 P w K mg base exc U (k + 1) 12 "need_line" 2 :=
  def_step (d := d_need_line) (io := []) hd sc_need_line bl rfl rfl rfl rfl fun f cdv A outer s H E B hp =>
  (s_cons (s_ex (r_call B h_need_world rfl rfl rfl (gs_cons (g_var rfl (.inl rfl) rfl rfl) rfl gs_nil) rfl rfl rfl (by decide)) rfl)
  (s_cons (s_if (t_not (t_of (r_call B h_is_line rfl rfl rfl (gs_cons (g_var rfl (.inl rfl) rfl rfl) rfl (gs_cons (g_of (r_item (o_var rfl (.inl rfl) rfl rfl) (o_of r_int rfl) rfl) rfl) rfl (gs_cons (g_var rfl (.inl rfl) rfl rfl) rfl gs_nil))) rfl rfl rfl (by decide)) fun _ => rfl)) (s_cons (s_raise B c_NoLine rfl rfl)
  s_nil) s_nil)
  s_nil))
theorem ok_text_of (hd : Hd1 K mg "text_of" st_text_of ["line"]) (bl : Bl mg) : Ok1 P w K mg base exc U (k + 1) 193 "text_of" 1 :=
  def_step (d := d_text_of) (io := []) hd sc_text_of bl rfl rfl rfl rfl fun f cdv A outer s H E B hp =>
  (s_cons (s_ret (r_join (o_of (r_comp B (i_seq (r_var rfl (.inl rfl) rfl rfl)) (own := [("hand", 1)]) (by kernel_rfl) rfl (fun _ _ _ _ _ B1 => (g_one B1.nd rfl (.inl rfl) (.inr rfl))) (fun _ _ _ _ _ B1 => k_none) (fun _ _ _ _ _ B1 => (r_join (o_of (r_comp B1 (i_seq (r_var rfl (.inl rfl) rfl rfl)) (own := [("card", 2)]) (by kernel_rfl) rfl (fun _ _ _ _ _ B2 => (g_one B2.nd rfl (.inl rfl) (.inr rfl))) (fun _ _ _ _ _ B2 => k_none) (fun _ _ _ _ _ B2 => (r_tostr B2 rfl (o_var rfl (.inl rfl) rfl rfl) rfl)) (fun _ => rfl)) rfl) rfl rfl rfl)) (fun _ => rfl)) rfl) rfl rfl rfl) rfl)
  s_nil)
theorem ok_line_text (hd : Hd1 K mg "line_text" st_line_text ["world", "line"]) (bl : Bl mg) (h_text_of : Ok1 P w K mg base exc U k 193 "text_of" 1) (h_need_line : Ok1 P w K mg base exc U k 12 "need_line" 2) : Ok1 P w K mg base exc U (k + 1) 194 "line_text" 2 :=
  def_step (d := d_line_text) (io := []) hd sc_line_text bl rfl rfl rfl rfl fun f cdv A outer s H E B hp =>
  (s_cons (s_ex (r_call B h_need_line rfl rfl rfl (gs_cons (g_var rfl (.inl rfl) rfl rfl) rfl (gs_cons (g_var rfl (.inl rfl) rfl rfl) rfl gs_nil)) rfl rfl rfl (by decide)) rfl)
  (s_cons (s_ret (r_call B h_text_of rfl rfl rfl (gs_cons (g_var rfl (.inl rfl) rfl rfl) rfl gs_nil) rfl rfl rfl (by decide)) rfl)
  s_nil))
theorem ok_line_from (hd : Hd1 K mg "line_from" st_line_from ["text"]) (bl : Bl mg) {tk_FIGURES : Tok} (g_FIGURES : mg "FIGURES" = some (.str (Str.ofString "0123456") tk_FIGURES)) (c_NoText : ClOk K mg (exc 11) "NoText") : Ok1 P w K mg base exc U (k + 1) 195 "line_from" 1 :=
  def_step (d := d_line_from) (io := []) hd sc_line_from bl rfl rfl rfl rfl fun f cdv A outer s H E B hp =>
  (s_cons (s_if (PW.pt (t_or (t_not (t_of (r_isStr B rfl rfl (o_var rfl (.inl rfl) rfl rfl) rfl) fun _ => rfl)) (t_or1 (t_cmp (c_ne B) (o_of (r_stripG g_FIGURES rfl rfl (by decide) (o_var rfl (.inl rfl) rfl rfl) rfl rfl) rfl) (o_of r_str rfl) rfl)))) (s_cons (s_raise B c_NoText rfl rfl)
  s_nil) s_nil)
  (s_cons (s_ret (r_tuple B rfl (o_of (r_comp B (i_seq (r_split (o_var rfl (.inl rfl) rfl rfl) rfl rfl)) (own := [("word", 1)]) (by kernel_rfl) rfl (fun _ _ _ _ _ B1 => (g_one B1.nd rfl (.inl rfl) (.inr rfl))) (fun _ _ _ _ _ B1 => k_none) (fun _ _ _ _ _ B1 => (r_tuple B1 rfl (o_of (r_comp B1 (i_seq (r_var rfl (.inl rfl) rfl rfl)) (own := [("sign", 2)]) (by kernel_rfl) rfl (fun _ _ _ _ _ B2 => (g_one B2.nd rfl (.inl rfl) (.inr rfl))) (fun _ _ _ _ _ B2 => k_none) (fun _ _ _ _ _ B2 => (r_toint B2 rfl (o_var rfl (.inl rfl) rfl rfl) rfl)) (fun _ => rfl)) rfl) rfl)) (fun _ => rfl)) rfl) rfl) rfl)
  s_nil))
theorem ok_read_line (hd : Hd1 K mg "read_line" st_read_line ["world", "text"]) (bl : Bl mg) (c_NoText : ClOk K mg (exc 11) "NoText") (h_is_line : Ok1 P w K mg base exc U k 11 "is_line" 3) (h_line_from : Ok1 P w K mg base exc U k 195 "line_from" 1) (h_need_world : Ok1 P w K mg base exc U k 3 "need_world" 1) : Ok1 P w K mg base exc U (k + 1) 196 "read_line" 2 :=
  def_step (d := d_read_line) (io := []) hd sc_read_line bl rfl rfl rfl rfl fun f cdv A outer s H E B hp =>
  (s_cons (s_ex (r_call B h_need_world rfl rfl rfl (gs_cons (g_var rfl (.inl rfl) rfl rfl) rfl gs_nil) rfl rfl rfl (by decide)) rfl)
  (s_cons (s_asg B rfl rfl (r_call B h_line_from rfl rfl rfl (gs_cons (g_var rfl (.inl rfl) rfl rfl) rfl gs_nil) rfl rfl rfl (by decide)) rfl (by decide))
  (s_cons (s_if (t_not (t_of (r_call B h_is_line rfl rfl rfl (gs_cons (g_var rfl (.inl rfl) rfl rfl) rfl (gs_cons (g_of (r_item (o_var rfl (.inl rfl) rfl rfl) (o_of r_int rfl) rfl) rfl) rfl (gs_cons (g_var rfl (.inl rfl) rfl rfl) rfl gs_nil))) rfl rfl rfl (by decide)) fun _ => rfl)) (s_cons (s_raise B c_NoText rfl rfl)
  s_nil) s_nil)
  (s_cons (s_retV rfl (.inl rfl) rfl rfl)
  s_nil))))
theorem ok_law_cell_at (hd : Hd1 K mg "_law_cell_at" st_law_cell_at ["_law_script", "_law_k"]) (bl : Bl mg) : Ok1 P w K mg base exc U (k + 1) 34 "_law_cell_at" 2 :=
  def_step (d := d_law_cell_at) (io := []) hd sc_law_cell_at bl rfl rfl rfl rfl fun f cdv A outer s H E B hp =>
  (s_cons (s_if (t_cmp (c_lt B) (o_var rfl (.inl rfl) rfl rfl) (o_of (r_len B rfl (o_var rfl (.inl rfl) rfl rfl) rfl) rfl) rfl) (s_cons (s_ret (r_item (o_var rfl (.inl rfl) rfl rfl) (o_var rfl (.inl rfl) rfl rfl) rfl) rfl)
  s_nil) s_nil)
  (s_cons (s_if (t_cmp (c_eq B) (o_var rfl (.inl rfl) rfl rfl) (o_of (r_lst vs_nil rfl) rfl) rfl) (s_cons (s_ret r_int rfl)
  s_nil) s_nil)
  (s_cons (s_ret (r_add (o_of (r_mul (o_of (r_item (o_var rfl (.inl rfl) rfl rfl) (o_of (r_mod (o_var rfl (.inl rfl) rfl rfl) (o_of (r_len B rfl (o_var rfl (.inl rfl) rfl rfl) rfl) rfl)) rfl) rfl) rfl) (o_of r_int rfl)) rfl) (o_var rfl (.inl rfl) rfl rfl)) rfl)
  s_nil)))
theorem ok_law_mixed_v2 (hd : Hd1 K mg "_law_mixed" st_law_mixed_v2 ["_law_script", "_law_k", "_law_many"]) (bl : Bl mg) (h__law_cell_at : Ok1 P w K mg base exc U k 34 "_law_cell_at" 2) : Ok1 P w K mg base exc U (k + 1) 73 "_law_mixed" 3 :=
  def_step (d := d_law_mixed_v2) (io := []) hd sc_law_mixed_v2 bl rfl rfl rfl rfl fun f cdv A outer s H E B hp =>
  (s_cons (s_asg B rfl rfl (r_mod (o_of (r_add (o_of (r_add (o_of (r_mul (o_of (r_call B h__law_cell_at rfl rfl rfl (gs_cons (g_var rfl (.inl rfl) rfl rfl) rfl (gs_cons (g_var rfl (.inl rfl) rfl rfl) rfl gs_nil)) rfl rfl rfl (by decide)) rfl) (o_of r_int rfl)) rfl) (o_of (r_mul (o_of r_int rfl) (o_var rfl (.inl rfl) rfl rfl)) rfl)) rfl) (o_of r_int rfl)) rfl) (o_of r_int rfl)) rfl (by decide))
  (s_cons (s_ret (r_mod (o_of (r_mod (o_of (r_mod (o_of (r_pow (o_var rfl (.inl rfl) rfl rfl) (o_of r_int rfl)) rfl) (o_of r_int rfl)) rfl) (o_of r_int rfl)) rfl) (o_var rfl (.inl rfl) rfl rfl)) rfl)
  s_nil))
theorem ok_law_draw_v2 (hd : Hd1 K mg "_law_draw" st_law_draw_v2 ["_law_script", "_law_town", "_law_many"]) (bl : Bl mg) (h__law_mixed : Ok1 P w K mg base exc U k 73 "_law_mixed" 3) : Ok1 P w K mg base exc U (k + 1) 74 "_law_draw" 3 :=
  def_step (d := d_law_draw_v2) (io := [1]) hd sc_law_draw_v2 bl rfl rfl rfl rfl fun f cdv A outer s H E B hp =>
  (s_cons (s_ex (r_app rfl (.inl rfl) rfl rfl r_int rfl rfl rfl rfl) rfl)
  (s_cons (s_ret (r_call B h__law_mixed rfl rfl rfl (gs_cons (g_var rfl (.inl rfl) rfl rfl) rfl (gs_cons (g_of (r_len B rfl (o_var rfl (.inl rfl) rfl rfl) rfl) rfl) rfl (gs_cons (g_var rfl (.inl rfl) rfl rfl) rfl gs_nil))) rfl rfl rfl (by decide)) rfl)
  s_nil))
theorem ok_law_pick_v2 (hd : Hd1 K mg "_law_pick" st_law_pick_v2 ["_law_script", "_law_town", "_law_some"]) (bl : Bl mg) (h__law_draw : Ok1 P w K mg base exc U k 74 "_law_draw" 3) : Ok1 P w K mg base exc U (k + 1) 75 "_law_pick" 3 :=
  def_step (d := d_law_pick_v2) (io := [1]) hd sc_law_pick_v2 bl rfl rfl rfl rfl fun f cdv A outer s H E B hp =>
  (s_cons (s_ret (r_item (o_var rfl (.inl rfl) rfl rfl) (o_of (r_call B h__law_draw rfl rfl rfl (gs_cons (g_var rfl (.inl rfl) rfl rfl) rfl (gs_cons (g_var rfl (.inl rfl) rfl rfl) rfl (gs_cons (g_of (r_len B rfl (o_var rfl (.inl rfl) rfl rfl) rfl) rfl) rfl gs_nil))) rfl rfl rfl (by decide)) rfl) rfl) rfl)
  s_nil)
theorem ok_law_world_v2 (hd : Hd1 K mg "_law_world" st_law_world_v2 ["_law_script", "_law_town"]) (bl : Bl mg) (h__law_pick : Ok1 P w K mg base exc U k 75 "_law_pick" 3) : Ok1 P w K mg base exc U (k + 1) 76 "_law_world" 2 :=
  def_step (d := d_law_world_v2) (io := [1]) hd sc_law_world_v2 bl rfl rfl rfl rfl fun f cdv A outer s H E B hp =>
  (s_cons (s_asg B rfl rfl (r_lst (vs_cons (r_tup (vs_cons r_int rfl (vs_cons r_int rfl (vs_cons r_int rfl vs_nil))) rfl) rfl (vs_cons (r_tup (vs_cons r_int rfl (vs_cons r_int rfl (vs_cons r_int rfl vs_nil))) rfl) rfl (vs_cons (r_tup (vs_cons r_int rfl (vs_cons r_int rfl (vs_cons r_int rfl vs_nil))) rfl) rfl (vs_cons (r_tup (vs_cons r_int rfl (vs_cons r_int rfl (vs_cons r_int rfl vs_nil))) rfl) rfl (vs_cons (r_tup (vs_cons r_int rfl (vs_cons r_int rfl (vs_cons r_int rfl vs_nil))) rfl) rfl (vs_cons (r_tup (vs_cons r_int rfl (vs_cons r_int rfl (vs_cons r_int rfl vs_nil))) rfl) rfl (vs_cons (r_tup (vs_cons r_int rfl (vs_cons r_int rfl (vs_cons r_int rfl vs_nil))) rfl) rfl (vs_cons (r_tup (vs_cons r_int rfl (vs_cons r_int rfl (vs_cons r_int rfl vs_nil))) rfl) rfl (vs_cons (r_tup (vs_cons r_int rfl (vs_cons r_int rfl (vs_cons r_int rfl vs_nil))) rfl) rfl vs_nil))))))))) rfl) rfl (by decide))
  (s_cons (s_ret (r_call B h__law_pick rfl rfl rfl (gs_cons (g_var rfl (.inl rfl) rfl rfl) rfl (gs_cons (g_var rfl (.inl rfl) rfl rfl) rfl (gs_cons (g_of (r_add (o_var rfl (.inl rfl) rfl rfl) (o_of (r_lst (vs_cons (r_tup (vs_cons r_int rfl (vs_cons r_int rfl (vs_cons r_int rfl vs_nil))) rfl) rfl (vs_cons (r_tup (vs_cons r_int rfl (vs_cons r_int rfl (vs_cons r_int rfl vs_nil))) rfl) rfl (vs_cons (r_tup (vs_cons r_int rfl (vs_cons r_int rfl (vs_cons r_int rfl vs_nil))) rfl) rfl (vs_cons (r_tup (vs_cons r_int rfl (vs_cons r_int rfl (vs_cons r_int rfl vs_nil))) rfl) rfl (vs_cons (r_tup (vs_cons r_int rfl (vs_cons r_int rfl (vs_cons r_int rfl vs_nil))) rfl) rfl (vs_cons (r_tup (vs_cons r_int rfl (vs_cons r_int rfl (vs_cons r_int rfl vs_nil))) rfl) rfl (vs_cons (r_tup (vs_cons r_int rfl (vs_cons r_int rfl (vs_cons r_int rfl vs_nil))) rfl) rfl vs_nil))))))) rfl) rfl)) rfl) rfl gs_nil))) rfl rfl rfl (by decide)) rfl)
  s_nil))
theorem ok_law_picks (hd : Hd1 K mg "_law_picks" st_law_picks ["_law_many", "_law_size"]) (bl : Bl mg) : Ok1 P w K mg base exc U (k + 1) 77 "_law_picks" 2 :=
  def_step (d := d_law_picks) (io := []) hd sc_law_picks bl rfl rfl rfl rfl fun f cdv A outer s H E B hp =>
  (s_cons (s_asg B rfl rfl (r_lst (vs_cons (r_tup vs_nil rfl) rfl vs_nil) rfl) rfl (by decide))
  (s_cons (s_for B hp (i_rng1 B rfl (r_var rfl (.inl rfl) rfl rfl) rfl) (g_one B.nd rfl (.inl rfl) (.inl rfl)) (s_cons (s_asg B rfl rfl (r_lst vs_nil rfl) rfl (by decide))
  (s_cons (s_for B hp (i_seq (r_var rfl (.inl rfl) rfl rfl)) (g_one B.nd rfl (.inr rfl) (.inl rfl)) (s_cons (s_ex (r_ext rfl (.inl rfl) rfl rfl (r_comp B (i_rng1 B rfl (r_var rfl (.inl rfl) rfl rfl) rfl) (own := [("_law_card", 6)]) (by kernel_rfl) rfl (fun _ _ _ _ _ B1 => (g_one B1.nd rfl (.inl rfl) (.inr rfl))) (fun _ _ _ _ _ B1 => (k_one (PW.pt (t_or (t_cmp (c_eq B1) (o_var rfl (.inr (.inl rfl)) rfl rfl) (o_of (r_tup vs_nil rfl) rfl) rfl) (t_or1 (t_cmp (c_gt B1) (o_var rfl (.inl rfl) rfl rfl) (o_of (r_item (o_var rfl (.inr (.inl rfl)) rfl rfl) (o_of r_neg rfl) rfl) rfl) rfl)))))) (fun _ _ _ _ _ B1 => (r_add (o_var rfl (.inr (.inl rfl)) rfl rfl) (o_of (r_tup (vs_cons (r_var rfl (.inl rfl) rfl rfl) rfl vs_nil) rfl) rfl))) (fun _ => rfl)) rfl rfl rfl rfl) rfl)
  s_nil) (fun _ => rfl) (by decide))
  (s_cons (s_asg B rfl rfl (r_var rfl (.inl rfl) rfl rfl) rfl (by decide))
  s_nil))) (fun _ => rfl) (by decide))
  (s_cons (s_retV rfl (.inl rfl) rfl rfl)
  s_nil)))
theorem ok_law_line_v2 (hd : Hd1 K mg "_law_line" st_law_line_v2 ["_law_script", "_law_town", "_law_many", "_law_size", "_law_most"]) (bl : Bl mg) (h__law_draw : Ok1 P w K mg base exc U k 74 "_law_draw" 3) (h__law_pick : Ok1 P w K mg base exc U k 75 "_law_pick" 3) (h__law_picks : Ok1 P w K mg base exc U k 77 "_law_picks" 2) : Ok1 P w K mg base exc U (k + 1) 78 "_law_line" 5 :=
  def_step (d := d_law_line_v2) (io := [1]) hd sc_law_line_v2 bl rfl rfl rfl rfl fun f cdv A outer s H E B hp =>
  (s_cons (s_asgC B rfl (.inr rfl) (.inl rfl) (r_call B h__law_picks rfl rfl rfl (gs_cons (g_var rfl (.inl rfl) rfl rfl) rfl (gs_cons (g_var rfl (.inl rfl) rfl rfl) rfl gs_nil)) rfl rfl rfl (by decide)) rfl (by decide))
  (s_cons (s_if (PW.pt (t_and (t_cmp (c_eq B) (o_var rfl (.inl rfl) rfl rfl) (o_of r_int rfl) rfl) (t_and (t_cmp (c_eq B) (o_var rfl (.inl rfl) rfl rfl) (o_of r_int rfl) rfl) (t_and1 (t_cmp (c_eq B) (o_of (r_call B h__law_draw rfl rfl rfl (gs_cons (g_var rfl (.inr (.inl rfl)) rfl rfl) rfl (gs_cons (g_var rfl (.inr (.inl rfl)) rfl rfl) rfl (gs_cons (g_of r_int rfl) rfl gs_nil))) rfl rfl rfl (by decide)) rfl) (o_of r_int rfl) rfl))))) (s_cons (s_asg B rfl rfl (r_lst (vs_cons (r_tup (vs_cons r_int rfl (vs_cons r_int rfl (vs_cons r_int rfl vs_nil))) rfl) rfl (vs_cons (r_tup (vs_cons r_int rfl (vs_cons r_int rfl (vs_cons r_int rfl vs_nil))) rfl) rfl (vs_cons (r_tup (vs_cons r_int rfl (vs_cons r_int rfl (vs_cons r_int rfl vs_nil))) rfl) rfl (vs_cons (r_tup (vs_cons r_int rfl (vs_cons r_int rfl (vs_cons r_int rfl vs_nil))) rfl) rfl (vs_cons (r_tup (vs_cons r_int rfl (vs_cons r_int rfl (vs_cons r_int rfl vs_nil))) rfl) rfl (vs_cons (r_tup (vs_cons r_int rfl (vs_cons r_int rfl (vs_cons r_int rfl vs_nil))) rfl) rfl (vs_cons (r_tup (vs_cons r_int rfl (vs_cons r_int rfl (vs_cons r_int rfl vs_nil))) rfl) rfl vs_nil))))))) rfl) rfl (by decide))
  (s_cons (s_ret (r_tuple B rfl (o_of (r_sl2 (o_var rfl (.inl rfl) rfl rfl) (r_call B h__law_draw rfl rfl rfl (gs_cons (g_var rfl (.inr (.inl rfl)) rfl rfl) rfl (gs_cons (g_var rfl (.inr (.inl rfl)) rfl rfl) rfl (gs_cons (g_of r_int rfl) rfl gs_nil))) rfl rfl rfl (by decide)) (r_sub (o_of r_int rfl) (o_of (r_call B h__law_draw rfl rfl rfl (gs_cons (g_var rfl (.inr (.inl rfl)) rfl rfl) rfl (gs_cons (g_var rfl (.inr (.inl rfl)) rfl rfl) rfl (gs_cons (g_of r_int rfl) rfl gs_nil))) rfl rfl rfl (by decide)) rfl))) rfl) rfl) rfl)
  s_nil)) s_nil)
  (s_cons (s_lc B rfl rfl rfl rfl rfl (i_rng1 B rfl (r_add (o_of r_int rfl) (o_of (r_call B h__law_draw rfl rfl rfl (gs_cons (g_var rfl (.inr (.inl rfl)) rfl rfl) rfl (gs_cons (g_var rfl (.inr (.inl rfl)) rfl rfl) rfl (gs_cons (g_var rfl (.inl rfl) rfl rfl) rfl gs_nil))) rfl rfl rfl (by decide)) rfl)) rfl) (own := [("_law_k", 8)]) (by kernel_rfl) rfl (fun _ _ _ _ _ B1 => (g_one B1.nd rfl (.inl rfl) (.inr rfl))) (fun _ _ _ _ _ B1 => k_none) (fun _ _ _ _ _ B1 => (r_call B1 h__law_pick rfl rfl rfl (gs_cons (g_var rfl (.inr (.inl rfl)) rfl rfl) rfl (gs_cons (g_var rfl (.inr (.inl rfl)) rfl rfl) rfl (gs_cons (g_var rfl (.inr (.inl rfl)) rfl rfl) rfl gs_nil))) rfl rfl rfl (by decide))) (fun _ => rfl) (by decide))
  (s_cons (s_ret (r_tuple B rfl (o_of (r_sortSet B rfl rfl (o_var rfl (.inl rfl) rfl rfl) rfl) rfl) rfl) rfl)
  s_nil))))
theorem ok_law_odd_world (hd : Hd1 K mg "_law_odd_world" st_law_odd_world ["_law_script", "_law_town"]) (bl : Bl mg) (h__law_pick : Ok1 P w K mg base exc U k 75 "_law_pick" 3) : Ok1 P w K mg base exc U (k + 1) 96 "_law_odd_world" 2 :=
  def_step (d := d_law_odd_world) (io := [1]) hd sc_law_odd_world bl rfl rfl rfl rfl fun f cdv A outer s H E B hp =>
  (s_cons (s_asg B rfl rfl (r_lst (vs_cons r_none rfl (vs_cons r_int rfl (vs_cons (r_tup vs_nil rfl) rfl (vs_cons (r_tup (vs_cons r_int rfl (vs_cons r_int rfl vs_nil)) rfl) rfl (vs_cons (r_lst (vs_cons r_int rfl (vs_cons r_int rfl (vs_cons r_int rfl vs_nil))) rfl) rfl (vs_cons (r_tup (vs_cons r_int rfl (vs_cons r_int rfl (vs_cons r_int rfl vs_nil))) rfl) rfl (vs_cons (r_tup (vs_cons r_int rfl (vs_cons r_int rfl (vs_cons r_int rfl vs_nil))) rfl) rfl (vs_cons (r_tup (vs_cons r_int rfl (vs_cons r_int rfl (vs_cons r_int rfl vs_nil))) rfl) rfl (vs_cons (r_tup (vs_cons r_neg rfl (vs_cons r_int rfl (vs_cons r_int rfl vs_nil))) rfl) rfl (vs_cons (r_tup (vs_cons r_bool rfl (vs_cons r_int rfl (vs_cons r_int rfl vs_nil))) rfl) rfl (vs_cons (r_tup (vs_cons r_int rfl (vs_cons r_int rfl (vs_cons r_none rfl vs_nil))) rfl) rfl vs_nil))))))))))) rfl) rfl (by decide))
  (s_cons (s_ret (r_call B h__law_pick rfl rfl rfl (gs_cons (g_var rfl (.inl rfl) rfl rfl) rfl (gs_cons (g_var rfl (.inl rfl) rfl rfl) rfl (gs_cons (g_of (r_add (o_var rfl (.inl rfl) rfl rfl) (o_of (r_lst (vs_cons (r_tup (vs_cons r_int rfl (vs_cons r_int rfl (vs_cons r_int rfl (vs_cons r_int rfl vs_nil)))) rfl) rfl (vs_cons r_str rfl (vs_cons (r_tup (vs_cons r_int rfl (vs_cons r_int rfl (vs_cons r_int rfl vs_nil))) rfl) rfl (vs_cons (r_tup (vs_cons r_int rfl (vs_cons r_int rfl (vs_cons r_neg rfl vs_nil))) rfl) rfl (vs_cons (r_tup (vs_cons r_str rfl (vs_cons r_int rfl (vs_cons r_int rfl vs_nil))) rfl) rfl (vs_cons (r_tup (vs_cons r_int rfl (vs_cons r_int rfl (vs_cons r_int rfl vs_nil))) rfl) rfl vs_nil)))))) rfl) rfl)) rfl) rfl gs_nil))) rfl rfl rfl (by decide)) rfl)
  s_nil))
theorem ok_law_ask_v12 (hd : Hd1 K mg "_law_ask" st_law_ask_v12 ["_law_world_here", "_law_text"]) (bl : Bl mg) (g_CardError : mg "CardError" = some CE) (ex_CardError : ∀ c ∈ ([0, 11] : List Nat), PySem.W.exmOne K (.ref (exc c)) CE = some true) (tells : Tells P w K mg base exc [0, 11] "_law_which") (h_read_line : Ok1 P w K mg base exc U k 196 "read_line" 2) : Ok1 P w K mg base exc U (k + 1) 199 "_law_ask" 2 :=
  def_step (d := d_law_ask_v12) (io := []) hd sc_law_ask_v12 bl rfl rfl rfl rfl fun f cdv A outer s H E B hp =>
  (s_cons (s_tryRet B rfl rfl rfl rfl ⟨rfl, rfl, .inl g_CardError⟩ ex_CardError (by decide) tells rfl rfl rfl rfl fun _ _ _ B hp => (s_cons (s_ret (r_call B h_read_line rfl rfl rfl (gs_cons (g_var rfl (.inl rfl) rfl rfl) rfl (gs_cons (g_var rfl (.inl rfl) rfl rfl) rfl gs_nil)) rfl rfl rfl (by decide)) rfl)
  s_nil))
  s_nil)
theorem ok_law {f : Addr} {fd : FuncData} (F : Fun K "law" "law" st_law f fd) (bl : Bl mg) (h__law_ask : Ok1 P w K mg base exc U k 199 "_law_ask" 2) (h__law_odd_world : Ok1 P w K mg base exc U k 96 "_law_odd_world" 2) (h__law_pick : Ok1 P w K mg base exc U k 75 "_law_pick" 3) (h__law_picks : Ok1 P w K mg base exc U k 77 "_law_picks" 2) (h__law_draw : Ok1 P w K mg base exc U k 74 "_law_draw" 3) (h__law_line : Ok1 P w K mg base exc U k 78 "_law_line" 5) (h_line_text : Ok1 P w K mg base exc U k 194 "line_text" 2) (h__law_world : Ok1 P w K mg base exc U k 76 "_law_world" 2) : FnOk P w K mg base (L2.CX P w) (k + 1) f fd ["_law_script"] (spF K exc 1 (run U (k + 1) 200)) :=
  law_step (d := d_law) (io := []) F sc_law bl rfl rfl rfl rfl fun cdv A outer s H E B hp =>
  (s_cons (s_asg B rfl rfl (r_lst vs_nil rfl) rfl (by decide))
  (s_cons (s_asg B rfl rfl (r_call B h__law_draw rfl rfl rfl (gs_cons (g_var rfl (.inl rfl) rfl rfl) rfl (gs_cons (g_var rfl (.inl rfl) rfl rfl) rfl (gs_cons (g_of r_int rfl) rfl gs_nil))) rfl rfl rfl (by decide)) rfl (by decide))
  (s_cons (s_asgC B rfl (.inr rfl) (.inl rfl) (r_call B h__law_world rfl rfl rfl (gs_cons (g_var rfl (.inl rfl) rfl rfl) rfl (gs_cons (g_var rfl (.inl rfl) rfl rfl) rfl gs_nil)) rfl rfl rfl (by decide)) rfl (by decide))
  (s_cons (s_asgC B rfl (.inr rfl) (.inl rfl) (r_sum B rfl (o_var rfl (.inr (.inl rfl)) rfl rfl) rfl) rfl (by decide))
  (s_cons (s_asg B rfl rfl (r_call B h_line_text rfl rfl rfl (gs_cons (g_var rfl (.inr (.inl rfl)) rfl rfl) rfl (gs_cons (g_of (r_call B h__law_line rfl rfl rfl (gs_cons (g_var rfl (.inl rfl) rfl rfl) rfl (gs_cons (g_var rfl (.inl rfl) rfl rfl) rfl (gs_cons (g_var rfl (.inr (.inl rfl)) rfl rfl) rfl (gs_cons (g_of (r_item (o_var rfl (.inr (.inl rfl)) rfl rfl) (o_of r_int rfl) rfl) rfl) rfl (gs_cons (g_of r_int rfl) rfl gs_nil))))) rfl rfl rfl (by decide)) rfl) rfl gs_nil)) rfl rfl rfl (by decide)) rfl (by decide))
  (s_cons (s_for B hp (i_rng1 B rfl (r_var rfl (.inl rfl) rfl rfl) rfl) (g_one B.nd rfl (.inl rfl) (.inl rfl)) (s_cons (s_asg B rfl rfl (r_call B h__law_draw rfl rfl rfl (gs_cons (g_var rfl (.inl rfl) rfl rfl) rfl (gs_cons (g_var rfl (.inl rfl) rfl rfl) rfl (gs_cons (g_of (r_add (o_of (r_len B rfl (o_var rfl (.inl rfl) rfl rfl) rfl) rfl) (o_of r_int rfl)) rfl) rfl gs_nil))) rfl rfl rfl (by decide)) rfl (by decide))
  (s_cons (s_asg B rfl rfl (r_call B h__law_pick rfl rfl rfl (gs_cons (g_var rfl (.inl rfl) rfl rfl) rfl (gs_cons (g_var rfl (.inl rfl) rfl rfl) rfl (gs_cons (g_of (r_lst (vs_cons r_str rfl (vs_cons r_str rfl (vs_cons r_str rfl (vs_cons r_str rfl (vs_cons r_str rfl (vs_cons r_str rfl (vs_cons r_str rfl (vs_cons r_str rfl (vs_cons r_str rfl (vs_cons r_str rfl (vs_cons r_str rfl (vs_cons r_str rfl vs_nil)))))))))))) rfl) rfl) rfl gs_nil))) rfl rfl rfl (by decide)) rfl (by decide))
  (s_cons (s_asg B rfl rfl (r_add (o_of (r_add (o_of (r_slHi (o_var rfl (.inl rfl) rfl rfl) (o_var rfl (.inl rfl) rfl rfl)) rfl) (o_var rfl (.inl rfl) rfl rfl)) rfl) (o_of (r_slLo (o_var rfl (.inl rfl) rfl rfl) (o_of (r_add (o_var rfl (.inl rfl) rfl rfl) (o_of (r_call B h__law_draw rfl rfl rfl (gs_cons (g_var rfl (.inl rfl) rfl rfl) rfl (gs_cons (g_var rfl (.inl rfl) rfl rfl) rfl (gs_cons (g_of r_int rfl) rfl gs_nil))) rfl rfl rfl (by decide)) rfl)) rfl)) rfl)) rfl (by decide))
  s_nil))) (fun _ => rfl) (by decide))
  (s_cons (s_lc B rfl rfl rfl rfl rfl (i_seq (r_split (o_var rfl (.inl rfl) rfl rfl) rfl rfl)) (own := [("_law_word", 12)]) (by kernel_rfl) rfl (fun _ _ _ _ _ B1 => (g_one B1.nd rfl (.inl rfl) (.inr rfl))) (fun _ _ _ _ _ B1 => k_none) (fun _ _ _ _ _ B1 => (r_tuple B1 rfl (o_of (r_comp B1 (i_seq (r_var rfl (.inl rfl) rfl rfl)) (own := [("_law_sign", 14)]) (by kernel_rfl) rfl (fun _ _ _ _ _ B2 => (g_one B2.nd rfl (.inl rfl) (.inr rfl))) (fun _ _ _ _ _ B2 => k_none) (fun _ _ _ _ _ B2 => (r_ite (t_cmp (c_in B2) (o_var rfl (.inl rfl) rfl rfl) (o_of r_str rfl) rfl) (r_toint B2 rfl (o_var rfl (.inl rfl) rfl rfl) rfl) r_neg)) (fun _ => rfl)) rfl) rfl)) (fun _ => rfl) (by decide))
  (s_cons (s_asg B rfl rfl (r_cmp (c_eq B) (o_of (r_comp B (i_seq (r_var rfl (.inl rfl) rfl rfl)) (own := [("_law_hand", 13)]) (by kernel_rfl) rfl (fun _ _ _ _ _ B1 => (g_one B1.nd rfl (.inl rfl) (.inr rfl))) (fun _ _ _ _ _ B1 => (k_one (t_cmp (c_ni B1) (o_var rfl (.inl rfl) rfl rfl) (o_of (r_call B1 h__law_picks rfl rfl rfl (gs_cons (g_var rfl (.inr (.inl rfl)) rfl rfl) rfl (gs_cons (g_of (r_item (o_var rfl (.inr (.inl rfl)) rfl rfl) (o_of r_int rfl) rfl) rfl) rfl gs_nil)) rfl rfl rfl (by decide)) rfl) rfl))) (fun _ _ _ _ _ B1 => (r_var rfl (.inl rfl) rfl rfl)) (fun _ => rfl)) rfl) (o_of (r_lst vs_nil rfl) rfl) rfl) rfl (by decide))
  (s_cons (s_asg B rfl rfl (r_and (r_var rfl (.inl rfl) rfl rfl) (r_one (r_cmp (c_eq B) (o_var rfl (.inl rfl) rfl rfl) (o_of (r_sortSet B rfl rfl (o_var rfl (.inl rfl) rfl rfl) rfl) rfl) rfl))) rfl (by decide))
  (s_cons (s_asg B rfl rfl (r_call B h__law_pick rfl rfl rfl (gs_cons (g_var rfl (.inl rfl) rfl rfl) rfl (gs_cons (g_var rfl (.inl rfl) rfl rfl) rfl (gs_cons (g_of (r_lst (vs_cons r_none rfl (vs_cons r_str rfl (vs_cons r_int rfl (vs_cons r_str rfl (vs_cons (r_tup (vs_cons r_str rfl vs_nil) rfl) rfl (vs_cons r_str rfl (vs_cons r_str rfl vs_nil))))))) rfl) rfl) rfl gs_nil))) rfl rfl rfl (by decide)) rfl (by decide))
  (s_cons (s_if (PW.pt (t_or (t_cmp (c_ne B) (o_of (r_call B h__law_ask rfl rfl rfl (gs_cons (g_var rfl (.inr (.inl rfl)) rfl rfl) rfl (gs_cons (g_var rfl (.inl rfl) rfl rfl) rfl gs_nil)) rfl rfl rfl (by decide)) rfl) (o_of (r_tup (vs_cons r_str rfl (vs_cons r_int rfl vs_nil)) rfl) rfl) rfl) (t_or1 (t_cmp (c_ne B) (o_of (r_call B h__law_ask rfl rfl rfl (gs_cons (g_of (r_call B h__law_odd_world rfl rfl rfl (gs_cons (g_var rfl (.inl rfl) rfl rfl) rfl (gs_cons (g_var rfl (.inl rfl) rfl rfl) rfl gs_nil)) rfl rfl rfl (by decide)) rfl) rfl (gs_cons (g_var rfl (.inl rfl) rfl rfl) rfl gs_nil)) rfl rfl rfl (by decide)) rfl) (o_of (r_tup (vs_cons r_str rfl (vs_cons r_int rfl vs_nil)) rfl) rfl) rfl)))) (s_cons (s_ret r_bool rfl)
  s_nil) s_nil)
  (s_cons (s_ret (r_cmp (c_eq B) (o_of (r_call B h__law_ask rfl rfl rfl (gs_cons (g_var rfl (.inr (.inl rfl)) rfl rfl) rfl (gs_cons (g_var rfl (.inl rfl) rfl rfl) rfl gs_nil)) rfl rfl rfl (by decide)) rfl) (o_of (r_ite (t_of (r_var rfl (.inl rfl) rfl rfl) fun _ => rfl) (r_tuple B rfl (o_var rfl (.inl rfl) rfl rfl) rfl) (r_tup (vs_cons r_str rfl (vs_cons r_int rfl vs_nil)) rfl)) rfl) rfl) rfl)
  s_nil))))))))))))
end
abbrev st_which : Stmt := topS 37
theorem sc_which : FnScope ["_law_e", "_law_own"] ["_law_e"] (defScope st_which) := ⟨rfl, rfl, rfl, by decide +kernel, rfl, by decide +kernel, by decide +kernel⟩
section
variable {P : Program} {w : World} {K : PySem.W.Frag} {mg : Str → Option Value} {base : Heap} {exc : Nat → Addr} {CE : Value} {k : Nat}
structure Fs (P : Program) (w : World) (K : PySem.W.Frag) (mg : Str → Option Value) (base : Heap) (exc : Nat → Addr) (k : Nat) : Prop where
  f_is_whole : Ok1 P w K mg base exc U k 1 "is_whole" 3
  f_is_world : Ok1 P w K mg base exc U k 2 "is_world" 1
  f_need_world : Ok1 P w K mg base exc U k 3 "need_world" 1
  f_is_hand : Ok1 P w K mg base exc U k 6 "is_hand" 3
  f_is_line : Ok1 P w K mg base exc U k 11 "is_line" 3
  f_need_line : Ok1 P w K mg base exc U k 12 "need_line" 2
  f_text_of : Ok1 P w K mg base exc U k 193 "text_of" 1
  f_line_text : Ok1 P w K mg base exc U k 194 "line_text" 2
  f_line_from : Ok1 P w K mg base exc U k 195 "line_from" 1
  f_read_line : Ok1 P w K mg base exc U k 196 "read_line" 2
  f_law_cell_at : Ok1 P w K mg base exc U k 34 "_law_cell_at" 2
  f_law_mixed_v2 : Ok1 P w K mg base exc U k 73 "_law_mixed" 3
  f_law_draw_v2 : Ok1 P w K mg base exc U k 74 "_law_draw" 3
  f_law_pick_v2 : Ok1 P w K mg base exc U k 75 "_law_pick" 3
  f_law_world_v2 : Ok1 P w K mg base exc U k 76 "_law_world" 2
  f_law_picks : Ok1 P w K mg base exc U k 77 "_law_picks" 2
  f_law_line_v2 : Ok1 P w K mg base exc U k 78 "_law_line" 5
  f_law_odd_world : Ok1 P w K mg base exc U k 96 "_law_odd_world" 2
  f_law_ask_v12 : Ok1 P w K mg base exc U k 199 "_law_ask" 2
structure Hs (P : Program) (w : World) (K : PySem.W.Frag) (mg : Str → Option Value) (base : Heap) (exc : Nat → Addr) (CE : Value) : Prop where
  bl : Bl mg
  d_is_whole : Hd1 K mg "is_whole" st_is_whole ["thing", "low", "most"]
  d_is_world : Hd1 K mg "is_world" st_is_world ["thing"]
  d_need_world : Hd1 K mg "need_world" st_need_world ["thing"]
  d_is_hand : Hd1 K mg "is_hand" st_is_hand ["world", "size", "thing"]
  d_is_line : Hd1 K mg "is_line" st_is_line ["world", "size", "thing"]
  d_need_line : Hd1 K mg "need_line" st_need_line ["world", "thing"]
  d_text_of : Hd1 K mg "text_of" st_text_of ["line"]
  d_line_text : Hd1 K mg "line_text" st_line_text ["world", "line"]
  d_line_from : Hd1 K mg "line_from" st_line_from ["text"]
  d_read_line : Hd1 K mg "read_line" st_read_line ["world", "text"]
  d_law_cell_at : Hd1 K mg "_law_cell_at" st_law_cell_at ["_law_script", "_law_k"]
  d_law_mixed_v2 : Hd1 K mg "_law_mixed" st_law_mixed_v2 ["_law_script", "_law_k", "_law_many"]
  d_law_draw_v2 : Hd1 K mg "_law_draw" st_law_draw_v2 ["_law_script", "_law_town", "_law_many"]
  d_law_pick_v2 : Hd1 K mg "_law_pick" st_law_pick_v2 ["_law_script", "_law_town", "_law_some"]
  d_law_world_v2 : Hd1 K mg "_law_world" st_law_world_v2 ["_law_script", "_law_town"]
  d_law_picks : Hd1 K mg "_law_picks" st_law_picks ["_law_many", "_law_size"]
  d_law_line_v2 : Hd1 K mg "_law_line" st_law_line_v2 ["_law_script", "_law_town", "_law_many", "_law_size", "_law_most"]
  d_law_odd_world : Hd1 K mg "_law_odd_world" st_law_odd_world ["_law_script", "_law_town"]
  d_law_ask_v12 : Hd1 K mg "_law_ask" st_law_ask_v12 ["_law_world_here", "_law_text"]
  g_CARDS : ∃ tk, mg "CARDS" = some (.int 7 tk)
  g_FIGURES : ∃ tk, mg "FIGURES" = some (.str (Str.ofString "0123456") tk)
  c_NoWorld : ClOk K mg (exc 0) "NoWorld"
  c_NoLine : ClOk K mg (exc 2) "NoLine"
  c_NoText : ClOk K mg (exc 11) "NoText"
  gCE : mg "CardError" = some CE
  ex_law_ask_v12 : ∀ c ∈ ([0, 11] : List Nat), PySem.W.exmOne K (.ref (exc c)) CE = some true
  te_law_ask_v12 : Tells P w K mg base exc [0, 11] "_law_which"
theorem fs_all (h : Hs P w K mg base exc CE) : ∀ k, Fs P w K mg base exc k
  | 0 => ⟨def_none h.d_is_whole, def_none h.d_is_world, def_none h.d_need_world, def_none h.d_is_hand, def_none h.d_is_line, def_none h.d_need_line, def_none h.d_text_of, def_none h.d_line_text, def_none h.d_line_from, def_none h.d_read_line, def_none h.d_law_cell_at, def_none h.d_law_mixed_v2, def_none h.d_law_draw_v2, def_none h.d_law_pick_v2, def_none h.d_law_world_v2, def_none h.d_law_picks, def_none h.d_law_line_v2, def_none h.d_law_odd_world, def_none h.d_law_ask_v12⟩
  | k + 1 => by
    have g := fs_all h k
    obtain ⟨_, g_CARDS⟩ := h.g_CARDS
    obtain ⟨_, g_FIGURES⟩ := h.g_FIGURES
    exact ⟨ok_is_whole h.d_is_whole h.bl,
      ok_is_world h.d_is_world h.bl g_CARDS g.f_is_whole,
      ok_need_world h.d_need_world h.bl h.c_NoWorld g.f_is_world,
      ok_is_hand h.d_is_hand h.bl g.f_is_whole,
      ok_is_line h.d_is_line h.bl g.f_is_hand,
      ok_need_line h.d_need_line h.bl h.c_NoLine g.f_is_line g.f_need_world,
      ok_text_of h.d_text_of h.bl,
      ok_line_text h.d_line_text h.bl g.f_text_of g.f_need_line,
      ok_line_from h.d_line_from h.bl g_FIGURES h.c_NoText,
      ok_read_line h.d_read_line h.bl h.c_NoText g.f_is_line g.f_line_from g.f_need_world,
      ok_law_cell_at h.d_law_cell_at h.bl,
      ok_law_mixed_v2 h.d_law_mixed_v2 h.bl g.f_law_cell_at,
      ok_law_draw_v2 h.d_law_draw_v2 h.bl g.f_law_mixed_v2,
      ok_law_pick_v2 h.d_law_pick_v2 h.bl g.f_law_draw_v2,
      ok_law_world_v2 h.d_law_world_v2 h.bl g.f_law_pick_v2,
      ok_law_picks h.d_law_picks h.bl,
      ok_law_line_v2 h.d_law_line_v2 h.bl g.f_law_draw_v2 g.f_law_pick_v2 g.f_law_picks,
      ok_law_odd_world h.d_law_odd_world h.bl g.f_law_pick_v2,
      ok_law_ask_v12 h.d_law_ask_v12 h.bl h.gCE h.ex_law_ask_v12 h.te_law_ask_v12 g.f_read_line⟩
theorem law_all {f : Addr} {fd : FuncData} (F : Fun K "law" "law" st_law f fd) (h : Hs P w K mg base exc CE) (k : Nat) : FnOk P w K mg base (L2.CX P w) (k + 1) f fd ["_law_script"] (spF K exc 1 (run U (k + 1) 200)) := by
  have g := fs_all h k
  obtain ⟨_, g_CARDS⟩ := h.g_CARDS
  obtain ⟨_, g_FIGURES⟩ := h.g_FIGURES
  exact ok_law F h.bl g.f_law_ask_v12 g.f_law_odd_world g.f_law_pick_v2 g.f_law_picks g.f_law_draw_v2 g.f_law_line_v2 g.f_line_text g.f_law_world_v2
theorem w_0 {f : Addr} {oc : Value} {od an : Option Addr} {sl : Array (Option Value)} {kV dc pm cd ct : Value} (lk : K.lookup f = some ⟨oc, od, .func (PySem.W.fnOf "_law_which" "_law_which" (defArgs st_which) (defBody st_which) (defScope st_which) .none kV dc pm an cd ct), sl⟩) (hcd : PySem.W.codeIn K cd "_law_which" = true) (bl : Bl mg) (mVE : mg "ValueError" = none) (g_NoWorld : mg "NoWorld" = some (.ref (exc 0))) (g_NoHand : mg "NoHand" = some (.ref (exc 1))) (g_NoLine : mg "NoLine" = some (.ref (exc 2))) (g_NoPlan : mg "NoPlan" = some (.ref (exc 3))) (g_NoPerson : mg "NoPerson" = some (.ref (exc 4))) (g_NoNumber : mg "NoNumber" = some (.ref (exc 5))) (g_Against : mg "Against" = some (.ref (exc 6))) (g_Nothing : mg "Nothing" = some (.ref (exc 7))) (g_NoNames : mg "NoNames" = some (.ref (exc 8))) (g_NoTalk : mg "NoTalk" = some (.ref (exc 9))) (g_NoDeal : mg "NoDeal" = some (.ref (exc 10))) (g_NoText : mg "NoText" = some (.ref (exc 11))) (xc : ExcC K (exc 0)) (k_NoWorld : PySem.W.kitOne K (.ref (exc 0)) (.ref (exc 0)) = some true) (k_NoHand : PySem.W.kitOne K (.ref (exc 0)) (.ref (exc 1)) = some false) (k_NoLine : PySem.W.kitOne K (.ref (exc 0)) (.ref (exc 2)) = some false) (k_NoPlan : PySem.W.kitOne K (.ref (exc 0)) (.ref (exc 3)) = some false) (k_NoPerson : PySem.W.kitOne K (.ref (exc 0)) (.ref (exc 4)) = some false) (k_NoNumber : PySem.W.kitOne K (.ref (exc 0)) (.ref (exc 5)) = some false) (k_Against : PySem.W.kitOne K (.ref (exc 0)) (.ref (exc 6)) = some false) (k_Nothing : PySem.W.kitOne K (.ref (exc 0)) (.ref (exc 7)) = some false) (k_NoNames : PySem.W.kitOne K (.ref (exc 0)) (.ref (exc 8)) = some false) (k_NoTalk : PySem.W.kitOne K (.ref (exc 0)) (.ref (exc 9)) = some false) (k_NoDeal : PySem.W.kitOne K (.ref (exc 0)) (.ref (exc 10)) = some false) (k_NoText : PySem.W.kitOne K (.ref (exc 0)) (.ref (exc 11)) = some false) (kv : PySem.W.kitOne K (.ref (exc 0)) (.type "ValueError") = some true) : FnE P w K mg base f (PySem.W.fnOf "_law_which" "_law_which" (defArgs st_which) (defBody st_which) (defScope st_which) .none kV dc pm an cd ct) ["_law_e"] (exc 0) ((0 : Nat) : Int) :=
  fnE_of lk hcd sc_which rfl fun A outer s H Q E a oe hz hf hr hsp =>
    have hi : CallR (L2H.cxH (L2.CX P w) P w K mg base ["_law_e", "_law_own"] "_law_which" (defScope st_which) f cd A outer s H E (a, oe)) (.builtin "isinstance") (rIsE K (exc 0) a) := isE_pinned List.mem_cons_self xc hz hf
    ⟨_, (pss_cons (ps_w1 (bes_cons (pe_isOwn hi rfl (.inl rfl) rfl rfl rfl bl.isi rfl g_NoWorld rfl k_NoWorld) rfl (bes_cons (pe_isOwn hi rfl (.inl rfl) rfl rfl rfl bl.isi rfl g_NoHand rfl k_NoHand) rfl (bes_cons (pe_isOwn hi rfl (.inl rfl) rfl rfl rfl bl.isi rfl g_NoLine rfl k_NoLine) rfl (bes_cons (pe_isOwn hi rfl (.inl rfl) rfl rfl rfl bl.isi rfl g_NoPlan rfl k_NoPlan) rfl bes_nil)))) (by decide) sc_which.nd rfl rfl) (pss_cons (ps_w2 (bes_cons (pe_isOwn hi rfl (.inl rfl) rfl rfl rfl bl.isi rfl g_NoPerson rfl k_NoPerson) rfl (bes_cons (pe_isOwn hi rfl (.inl rfl) rfl rfl rfl bl.isi rfl g_NoNumber rfl k_NoNumber) rfl (bes_cons (pe_isOwn hi rfl (.inl rfl) rfl rfl rfl bl.isi rfl g_Against rfl k_Against) rfl (bes_cons (pe_isOwn hi rfl (.inl rfl) rfl rfl rfl bl.isi rfl g_Nothing rfl k_Nothing) rfl bes_nil)))) rfl (.inl rfl) rfl rfl rfl) (pss_cons (ps_w2 (bes_cons (pe_isOwn hi rfl (.inl rfl) rfl rfl rfl bl.isi rfl g_NoNames rfl k_NoNames) rfl (bes_cons (pe_isOwn hi rfl (.inl rfl) rfl rfl rfl bl.isi rfl g_NoTalk rfl k_NoTalk) rfl (bes_cons (pe_isOwn hi rfl (.inl rfl) rfl rfl rfl bl.isi rfl g_NoDeal rfl k_NoDeal) rfl (bes_cons (pe_isOwn hi rfl (.inl rfl) rfl rfl rfl bl.isi rfl g_NoText rfl k_NoText) rfl bes_nil)))) rfl (.inl rfl) rfl rfl rfl) (pss_cons (ps_w3 (Nat.lt_of_le_of_lt (Nat.add_le_add_left (by decide : 65 ≤ 120) _) hr) rfl (.inl rfl) rfl rfl rfl (pe_isVE hi rfl (.inl rfl) rfl rfl rfl bl.isi rfl mVE kv) fun _ => rfl) (pss_one (ps_w4 rfl (.inl rfl) rfl rfl rfl)))))), which_reads (by decide) rfl rfl (by decide) hsp⟩
theorem w_11 {f : Addr} {oc : Value} {od an : Option Addr} {sl : Array (Option Value)} {kV dc pm cd ct : Value} (lk : K.lookup f = some ⟨oc, od, .func (PySem.W.fnOf "_law_which" "_law_which" (defArgs st_which) (defBody st_which) (defScope st_which) .none kV dc pm an cd ct), sl⟩) (hcd : PySem.W.codeIn K cd "_law_which" = true) (bl : Bl mg) (mVE : mg "ValueError" = none) (g_NoWorld : mg "NoWorld" = some (.ref (exc 0))) (g_NoHand : mg "NoHand" = some (.ref (exc 1))) (g_NoLine : mg "NoLine" = some (.ref (exc 2))) (g_NoPlan : mg "NoPlan" = some (.ref (exc 3))) (g_NoPerson : mg "NoPerson" = some (.ref (exc 4))) (g_NoNumber : mg "NoNumber" = some (.ref (exc 5))) (g_Against : mg "Against" = some (.ref (exc 6))) (g_Nothing : mg "Nothing" = some (.ref (exc 7))) (g_NoNames : mg "NoNames" = some (.ref (exc 8))) (g_NoTalk : mg "NoTalk" = some (.ref (exc 9))) (g_NoDeal : mg "NoDeal" = some (.ref (exc 10))) (g_NoText : mg "NoText" = some (.ref (exc 11))) (xc : ExcC K (exc 11)) (k_NoWorld : PySem.W.kitOne K (.ref (exc 11)) (.ref (exc 0)) = some false) (k_NoHand : PySem.W.kitOne K (.ref (exc 11)) (.ref (exc 1)) = some false) (k_NoLine : PySem.W.kitOne K (.ref (exc 11)) (.ref (exc 2)) = some false) (k_NoPlan : PySem.W.kitOne K (.ref (exc 11)) (.ref (exc 3)) = some false) (k_NoPerson : PySem.W.kitOne K (.ref (exc 11)) (.ref (exc 4)) = some false) (k_NoNumber : PySem.W.kitOne K (.ref (exc 11)) (.ref (exc 5)) = some false) (k_Against : PySem.W.kitOne K (.ref (exc 11)) (.ref (exc 6)) = some false) (k_Nothing : PySem.W.kitOne K (.ref (exc 11)) (.ref (exc 7)) = some false) (k_NoNames : PySem.W.kitOne K (.ref (exc 11)) (.ref (exc 8)) = some false) (k_NoTalk : PySem.W.kitOne K (.ref (exc 11)) (.ref (exc 9)) = some false) (k_NoDeal : PySem.W.kitOne K (.ref (exc 11)) (.ref (exc 10)) = some false) (k_NoText : PySem.W.kitOne K (.ref (exc 11)) (.ref (exc 11)) = some true) (kv : PySem.W.kitOne K (.ref (exc 11)) (.type "ValueError") = some true) : FnE P w K mg base f (PySem.W.fnOf "_law_which" "_law_which" (defArgs st_which) (defBody st_which) (defScope st_which) .none kV dc pm an cd ct) ["_law_e"] (exc 11) ((11 : Nat) : Int) :=
  fnE_of lk hcd sc_which rfl fun A outer s H Q E a oe hz hf hr hsp =>
    have hi : CallR (L2H.cxH (L2.CX P w) P w K mg base ["_law_e", "_law_own"] "_law_which" (defScope st_which) f cd A outer s H E (a, oe)) (.builtin "isinstance") (rIsE K (exc 11) a) := isE_pinned List.mem_cons_self xc hz hf
    ⟨_, (pss_cons (ps_w1 (bes_cons (pe_isOwn hi rfl (.inl rfl) rfl rfl rfl bl.isi rfl g_NoWorld rfl k_NoWorld) rfl (bes_cons (pe_isOwn hi rfl (.inl rfl) rfl rfl rfl bl.isi rfl g_NoHand rfl k_NoHand) rfl (bes_cons (pe_isOwn hi rfl (.inl rfl) rfl rfl rfl bl.isi rfl g_NoLine rfl k_NoLine) rfl (bes_cons (pe_isOwn hi rfl (.inl rfl) rfl rfl rfl bl.isi rfl g_NoPlan rfl k_NoPlan) rfl bes_nil)))) (by decide) sc_which.nd rfl rfl) (pss_cons (ps_w2 (bes_cons (pe_isOwn hi rfl (.inl rfl) rfl rfl rfl bl.isi rfl g_NoPerson rfl k_NoPerson) rfl (bes_cons (pe_isOwn hi rfl (.inl rfl) rfl rfl rfl bl.isi rfl g_NoNumber rfl k_NoNumber) rfl (bes_cons (pe_isOwn hi rfl (.inl rfl) rfl rfl rfl bl.isi rfl g_Against rfl k_Against) rfl (bes_cons (pe_isOwn hi rfl (.inl rfl) rfl rfl rfl bl.isi rfl g_Nothing rfl k_Nothing) rfl bes_nil)))) rfl (.inl rfl) rfl rfl rfl) (pss_cons (ps_w2 (bes_cons (pe_isOwn hi rfl (.inl rfl) rfl rfl rfl bl.isi rfl g_NoNames rfl k_NoNames) rfl (bes_cons (pe_isOwn hi rfl (.inl rfl) rfl rfl rfl bl.isi rfl g_NoTalk rfl k_NoTalk) rfl (bes_cons (pe_isOwn hi rfl (.inl rfl) rfl rfl rfl bl.isi rfl g_NoDeal rfl k_NoDeal) rfl (bes_cons (pe_isOwn hi rfl (.inl rfl) rfl rfl rfl bl.isi rfl g_NoText rfl k_NoText) rfl bes_nil)))) rfl (.inl rfl) rfl rfl rfl) (pss_cons (ps_w3 (Nat.lt_of_le_of_lt (Nat.add_le_add_left (by decide : 65 ≤ 120) _) hr) rfl (.inl rfl) rfl rfl rfl (pe_isVE hi rfl (.inl rfl) rfl rfl rfl bl.isi rfl mVE kv) fun _ => rfl) (pss_one (ps_w4 rfl (.inl rfl) rfl rfl rfl)))))), which_reads (by decide) rfl rfl (by decide) hsp⟩
end
theorem all_mk {l : PySem.W.OpenLaw} {w : World} {K : PySem.W.Frag} {h : Heap} {mg : Str → Option Value} {fa : Addr} (X : K.In h) (G : h.Ns mainGlobals mg) (hfa : mg "law" = some (.ref fa))
    {a_is_whole : Addr} {oc_is_whole kV_is_whole dc_is_whole pm_is_whole cd_is_whole ct_is_whole : Value} {od_is_whole an_is_whole : Option Addr} {sl_is_whole : Array (Option Value)}
    {a_is_world : Addr} {oc_is_world kV_is_world dc_is_world pm_is_world cd_is_world ct_is_world : Value} {od_is_world an_is_world : Option Addr} {sl_is_world : Array (Option Value)}
    {a_need_world : Addr} {oc_need_world kV_need_world dc_need_world pm_need_world cd_need_world ct_need_world : Value} {od_need_world an_need_world : Option Addr} {sl_need_world : Array (Option Value)}
    {a_is_hand : Addr} {oc_is_hand kV_is_hand dc_is_hand pm_is_hand cd_is_hand ct_is_hand : Value} {od_is_hand an_is_hand : Option Addr} {sl_is_hand : Array (Option Value)}
    {a_is_line : Addr} {oc_is_line kV_is_line dc_is_line pm_is_line cd_is_line ct_is_line : Value} {od_is_line an_is_line : Option Addr} {sl_is_line : Array (Option Value)}
    {a_need_line : Addr} {oc_need_line kV_need_line dc_need_line pm_need_line cd_need_line ct_need_line : Value} {od_need_line an_need_line : Option Addr} {sl_need_line : Array (Option Value)}
    {a_text_of : Addr} {oc_text_of kV_text_of dc_text_of pm_text_of cd_text_of ct_text_of : Value} {od_text_of an_text_of : Option Addr} {sl_text_of : Array (Option Value)}
    {a_line_text : Addr} {oc_line_text kV_line_text dc_line_text pm_line_text cd_line_text ct_line_text : Value} {od_line_text an_line_text : Option Addr} {sl_line_text : Array (Option Value)}
    {a_line_from : Addr} {oc_line_from kV_line_from dc_line_from pm_line_from cd_line_from ct_line_from : Value} {od_line_from an_line_from : Option Addr} {sl_line_from : Array (Option Value)}
    {a_read_line : Addr} {oc_read_line kV_read_line dc_read_line pm_read_line cd_read_line ct_read_line : Value} {od_read_line an_read_line : Option Addr} {sl_read_line : Array (Option Value)}
    {a_law_cell_at : Addr} {oc_law_cell_at kV_law_cell_at dc_law_cell_at pm_law_cell_at cd_law_cell_at ct_law_cell_at : Value} {od_law_cell_at an_law_cell_at : Option Addr} {sl_law_cell_at : Array (Option Value)}
    {a_law_mixed_v2 : Addr} {oc_law_mixed_v2 kV_law_mixed_v2 dc_law_mixed_v2 pm_law_mixed_v2 cd_law_mixed_v2 ct_law_mixed_v2 : Value} {od_law_mixed_v2 an_law_mixed_v2 : Option Addr} {sl_law_mixed_v2 : Array (Option Value)}
    {a_law_draw_v2 : Addr} {oc_law_draw_v2 kV_law_draw_v2 dc_law_draw_v2 pm_law_draw_v2 cd_law_draw_v2 ct_law_draw_v2 : Value} {od_law_draw_v2 an_law_draw_v2 : Option Addr} {sl_law_draw_v2 : Array (Option Value)}
    {a_law_pick_v2 : Addr} {oc_law_pick_v2 kV_law_pick_v2 dc_law_pick_v2 pm_law_pick_v2 cd_law_pick_v2 ct_law_pick_v2 : Value} {od_law_pick_v2 an_law_pick_v2 : Option Addr} {sl_law_pick_v2 : Array (Option Value)}
    {a_law_world_v2 : Addr} {oc_law_world_v2 kV_law_world_v2 dc_law_world_v2 pm_law_world_v2 cd_law_world_v2 ct_law_world_v2 : Value} {od_law_world_v2 an_law_world_v2 : Option Addr} {sl_law_world_v2 : Array (Option Value)}
    {a_law_picks : Addr} {oc_law_picks kV_law_picks dc_law_picks pm_law_picks cd_law_picks ct_law_picks : Value} {od_law_picks an_law_picks : Option Addr} {sl_law_picks : Array (Option Value)}
    {a_law_line_v2 : Addr} {oc_law_line_v2 kV_law_line_v2 dc_law_line_v2 pm_law_line_v2 cd_law_line_v2 ct_law_line_v2 : Value} {od_law_line_v2 an_law_line_v2 : Option Addr} {sl_law_line_v2 : Array (Option Value)}
    {a_law_odd_world : Addr} {oc_law_odd_world kV_law_odd_world dc_law_odd_world pm_law_odd_world cd_law_odd_world ct_law_odd_world : Value} {od_law_odd_world an_law_odd_world : Option Addr} {sl_law_odd_world : Array (Option Value)}
    {a_law_ask_v12 : Addr} {oc_law_ask_v12 kV_law_ask_v12 dc_law_ask_v12 pm_law_ask_v12 cd_law_ask_v12 ct_law_ask_v12 : Value} {od_law_ask_v12 an_law_ask_v12 : Option Addr} {sl_law_ask_v12 : Array (Option Value)}
    {a_law : Addr} {oc_law kV_law dc_law pm_law cd_law ct_law : Value} {od_law an_law : Option Addr} {sl_law : Array (Option Value)}
    {a_which : Addr} {oc_which kV_which dc_which pm_which cd_which ct_which : Value} {od_which an_which : Option Addr} {sl_which : Array (Option Value)}
    {t_CARDS : Tok}
    {t_FIGURES : Tok}
    {x_NoWorld : Addr}
    {x_NoHand : Addr}
    {x_NoLine : Addr}
    {x_NoPlan : Addr}
    {x_NoPerson : Addr}
    {x_NoNumber : Addr}
    {x_Against : Addr}
    {x_Nothing : Addr}
    {x_NoNames : Addr}
    {x_NoTalk : Addr}
    {x_NoDeal : Addr}
    {x_NoText : Addr}
    {x_CE : Addr}
    (n_is_whole : PySem.W.nsIn K mainGlobals "is_whole" = some (some (.ref a_is_whole)))
    (l_is_whole : K.lookup a_is_whole = some ⟨oc_is_whole, od_is_whole, .func (PySem.W.fnOf "is_whole" "is_whole" (defArgs st_is_whole) (defBody st_is_whole) (defScope st_is_whole) .none kV_is_whole dc_is_whole pm_is_whole an_is_whole cd_is_whole ct_is_whole), sl_is_whole⟩)
    (c_is_whole : PySem.W.codeIn K cd_is_whole "is_whole" = true)
    (k_is_whole : PySem.W.keepIn K (.ref a_is_whole) = true)
    (n_is_world : PySem.W.nsIn K mainGlobals "is_world" = some (some (.ref a_is_world)))
    (l_is_world : K.lookup a_is_world = some ⟨oc_is_world, od_is_world, .func (PySem.W.fnOf "is_world" "is_world" (defArgs st_is_world) (defBody st_is_world) (defScope st_is_world) .none kV_is_world dc_is_world pm_is_world an_is_world cd_is_world ct_is_world), sl_is_world⟩)
    (c_is_world : PySem.W.codeIn K cd_is_world "is_world" = true)
    (k_is_world : PySem.W.keepIn K (.ref a_is_world) = true)
    (n_need_world : PySem.W.nsIn K mainGlobals "need_world" = some (some (.ref a_need_world)))
    (l_need_world : K.lookup a_need_world = some ⟨oc_need_world, od_need_world, .func (PySem.W.fnOf "need_world" "need_world" (defArgs st_need_world) (defBody st_need_world) (defScope st_need_world) .none kV_need_world dc_need_world pm_need_world an_need_world cd_need_world ct_need_world), sl_need_world⟩)
    (c_need_world : PySem.W.codeIn K cd_need_world "need_world" = true)
    (k_need_world : PySem.W.keepIn K (.ref a_need_world) = true)
    (n_is_hand : PySem.W.nsIn K mainGlobals "is_hand" = some (some (.ref a_is_hand)))
    (l_is_hand : K.lookup a_is_hand = some ⟨oc_is_hand, od_is_hand, .func (PySem.W.fnOf "is_hand" "is_hand" (defArgs st_is_hand) (defBody st_is_hand) (defScope st_is_hand) .none kV_is_hand dc_is_hand pm_is_hand an_is_hand cd_is_hand ct_is_hand), sl_is_hand⟩)
    (c_is_hand : PySem.W.codeIn K cd_is_hand "is_hand" = true)
    (k_is_hand : PySem.W.keepIn K (.ref a_is_hand) = true)
    (n_is_line : PySem.W.nsIn K mainGlobals "is_line" = some (some (.ref a_is_line)))
    (l_is_line : K.lookup a_is_line = some ⟨oc_is_line, od_is_line, .func (PySem.W.fnOf "is_line" "is_line" (defArgs st_is_line) (defBody st_is_line) (defScope st_is_line) .none kV_is_line dc_is_line pm_is_line an_is_line cd_is_line ct_is_line), sl_is_line⟩)
    (c_is_line : PySem.W.codeIn K cd_is_line "is_line" = true)
    (k_is_line : PySem.W.keepIn K (.ref a_is_line) = true)
    (n_need_line : PySem.W.nsIn K mainGlobals "need_line" = some (some (.ref a_need_line)))
    (l_need_line : K.lookup a_need_line = some ⟨oc_need_line, od_need_line, .func (PySem.W.fnOf "need_line" "need_line" (defArgs st_need_line) (defBody st_need_line) (defScope st_need_line) .none kV_need_line dc_need_line pm_need_line an_need_line cd_need_line ct_need_line), sl_need_line⟩)
    (c_need_line : PySem.W.codeIn K cd_need_line "need_line" = true)
    (k_need_line : PySem.W.keepIn K (.ref a_need_line) = true)
    (n_text_of : PySem.W.nsIn K mainGlobals "text_of" = some (some (.ref a_text_of)))
    (l_text_of : K.lookup a_text_of = some ⟨oc_text_of, od_text_of, .func (PySem.W.fnOf "text_of" "text_of" (defArgs st_text_of) (defBody st_text_of) (defScope st_text_of) .none kV_text_of dc_text_of pm_text_of an_text_of cd_text_of ct_text_of), sl_text_of⟩)
    (c_text_of : PySem.W.codeIn K cd_text_of "text_of" = true)
    (k_text_of : PySem.W.keepIn K (.ref a_text_of) = true)
    (n_line_text : PySem.W.nsIn K mainGlobals "line_text" = some (some (.ref a_line_text)))
    (l_line_text : K.lookup a_line_text = some ⟨oc_line_text, od_line_text, .func (PySem.W.fnOf "line_text" "line_text" (defArgs st_line_text) (defBody st_line_text) (defScope st_line_text) .none kV_line_text dc_line_text pm_line_text an_line_text cd_line_text ct_line_text), sl_line_text⟩)
    (c_line_text : PySem.W.codeIn K cd_line_text "line_text" = true)
    (k_line_text : PySem.W.keepIn K (.ref a_line_text) = true)
    (n_line_from : PySem.W.nsIn K mainGlobals "line_from" = some (some (.ref a_line_from)))
    (l_line_from : K.lookup a_line_from = some ⟨oc_line_from, od_line_from, .func (PySem.W.fnOf "line_from" "line_from" (defArgs st_line_from) (defBody st_line_from) (defScope st_line_from) .none kV_line_from dc_line_from pm_line_from an_line_from cd_line_from ct_line_from), sl_line_from⟩)
    (c_line_from : PySem.W.codeIn K cd_line_from "line_from" = true)
    (k_line_from : PySem.W.keepIn K (.ref a_line_from) = true)
    (n_read_line : PySem.W.nsIn K mainGlobals "read_line" = some (some (.ref a_read_line)))
    (l_read_line : K.lookup a_read_line = some ⟨oc_read_line, od_read_line, .func (PySem.W.fnOf "read_line" "read_line" (defArgs st_read_line) (defBody st_read_line) (defScope st_read_line) .none kV_read_line dc_read_line pm_read_line an_read_line cd_read_line ct_read_line), sl_read_line⟩)
    (c_read_line : PySem.W.codeIn K cd_read_line "read_line" = true)
    (k_read_line : PySem.W.keepIn K (.ref a_read_line) = true)
    (n_law_cell_at : PySem.W.nsIn K mainGlobals "_law_cell_at" = some (some (.ref a_law_cell_at)))
    (l_law_cell_at : K.lookup a_law_cell_at = some ⟨oc_law_cell_at, od_law_cell_at, .func (PySem.W.fnOf "_law_cell_at" "_law_cell_at" (defArgs st_law_cell_at) (defBody st_law_cell_at) (defScope st_law_cell_at) .none kV_law_cell_at dc_law_cell_at pm_law_cell_at an_law_cell_at cd_law_cell_at ct_law_cell_at), sl_law_cell_at⟩)
    (c_law_cell_at : PySem.W.codeIn K cd_law_cell_at "_law_cell_at" = true)
    (k_law_cell_at : PySem.W.keepIn K (.ref a_law_cell_at) = true)
    (n_law_mixed_v2 : PySem.W.nsIn K mainGlobals "_law_mixed" = some (some (.ref a_law_mixed_v2)))
    (l_law_mixed_v2 : K.lookup a_law_mixed_v2 = some ⟨oc_law_mixed_v2, od_law_mixed_v2, .func (PySem.W.fnOf "_law_mixed" "_law_mixed" (defArgs st_law_mixed_v2) (defBody st_law_mixed_v2) (defScope st_law_mixed_v2) .none kV_law_mixed_v2 dc_law_mixed_v2 pm_law_mixed_v2 an_law_mixed_v2 cd_law_mixed_v2 ct_law_mixed_v2), sl_law_mixed_v2⟩)
    (c_law_mixed_v2 : PySem.W.codeIn K cd_law_mixed_v2 "_law_mixed" = true)
    (k_law_mixed_v2 : PySem.W.keepIn K (.ref a_law_mixed_v2) = true)
    (n_law_draw_v2 : PySem.W.nsIn K mainGlobals "_law_draw" = some (some (.ref a_law_draw_v2)))
    (l_law_draw_v2 : K.lookup a_law_draw_v2 = some ⟨oc_law_draw_v2, od_law_draw_v2, .func (PySem.W.fnOf "_law_draw" "_law_draw" (defArgs st_law_draw_v2) (defBody st_law_draw_v2) (defScope st_law_draw_v2) .none kV_law_draw_v2 dc_law_draw_v2 pm_law_draw_v2 an_law_draw_v2 cd_law_draw_v2 ct_law_draw_v2), sl_law_draw_v2⟩)
    (c_law_draw_v2 : PySem.W.codeIn K cd_law_draw_v2 "_law_draw" = true)
    (k_law_draw_v2 : PySem.W.keepIn K (.ref a_law_draw_v2) = true)
    (n_law_pick_v2 : PySem.W.nsIn K mainGlobals "_law_pick" = some (some (.ref a_law_pick_v2)))
    (l_law_pick_v2 : K.lookup a_law_pick_v2 = some ⟨oc_law_pick_v2, od_law_pick_v2, .func (PySem.W.fnOf "_law_pick" "_law_pick" (defArgs st_law_pick_v2) (defBody st_law_pick_v2) (defScope st_law_pick_v2) .none kV_law_pick_v2 dc_law_pick_v2 pm_law_pick_v2 an_law_pick_v2 cd_law_pick_v2 ct_law_pick_v2), sl_law_pick_v2⟩)
    (c_law_pick_v2 : PySem.W.codeIn K cd_law_pick_v2 "_law_pick" = true)
    (k_law_pick_v2 : PySem.W.keepIn K (.ref a_law_pick_v2) = true)
    (n_law_world_v2 : PySem.W.nsIn K mainGlobals "_law_world" = some (some (.ref a_law_world_v2)))
    (l_law_world_v2 : K.lookup a_law_world_v2 = some ⟨oc_law_world_v2, od_law_world_v2, .func (PySem.W.fnOf "_law_world" "_law_world" (defArgs st_law_world_v2) (defBody st_law_world_v2) (defScope st_law_world_v2) .none kV_law_world_v2 dc_law_world_v2 pm_law_world_v2 an_law_world_v2 cd_law_world_v2 ct_law_world_v2), sl_law_world_v2⟩)
    (c_law_world_v2 : PySem.W.codeIn K cd_law_world_v2 "_law_world" = true)
    (k_law_world_v2 : PySem.W.keepIn K (.ref a_law_world_v2) = true)
    (n_law_picks : PySem.W.nsIn K mainGlobals "_law_picks" = some (some (.ref a_law_picks)))
    (l_law_picks : K.lookup a_law_picks = some ⟨oc_law_picks, od_law_picks, .func (PySem.W.fnOf "_law_picks" "_law_picks" (defArgs st_law_picks) (defBody st_law_picks) (defScope st_law_picks) .none kV_law_picks dc_law_picks pm_law_picks an_law_picks cd_law_picks ct_law_picks), sl_law_picks⟩)
    (c_law_picks : PySem.W.codeIn K cd_law_picks "_law_picks" = true)
    (k_law_picks : PySem.W.keepIn K (.ref a_law_picks) = true)
    (n_law_line_v2 : PySem.W.nsIn K mainGlobals "_law_line" = some (some (.ref a_law_line_v2)))
    (l_law_line_v2 : K.lookup a_law_line_v2 = some ⟨oc_law_line_v2, od_law_line_v2, .func (PySem.W.fnOf "_law_line" "_law_line" (defArgs st_law_line_v2) (defBody st_law_line_v2) (defScope st_law_line_v2) .none kV_law_line_v2 dc_law_line_v2 pm_law_line_v2 an_law_line_v2 cd_law_line_v2 ct_law_line_v2), sl_law_line_v2⟩)
    (c_law_line_v2 : PySem.W.codeIn K cd_law_line_v2 "_law_line" = true)
    (k_law_line_v2 : PySem.W.keepIn K (.ref a_law_line_v2) = true)
    (n_law_odd_world : PySem.W.nsIn K mainGlobals "_law_odd_world" = some (some (.ref a_law_odd_world)))
    (l_law_odd_world : K.lookup a_law_odd_world = some ⟨oc_law_odd_world, od_law_odd_world, .func (PySem.W.fnOf "_law_odd_world" "_law_odd_world" (defArgs st_law_odd_world) (defBody st_law_odd_world) (defScope st_law_odd_world) .none kV_law_odd_world dc_law_odd_world pm_law_odd_world an_law_odd_world cd_law_odd_world ct_law_odd_world), sl_law_odd_world⟩)
    (c_law_odd_world : PySem.W.codeIn K cd_law_odd_world "_law_odd_world" = true)
    (k_law_odd_world : PySem.W.keepIn K (.ref a_law_odd_world) = true)
    (n_law_ask_v12 : PySem.W.nsIn K mainGlobals "_law_ask" = some (some (.ref a_law_ask_v12)))
    (l_law_ask_v12 : K.lookup a_law_ask_v12 = some ⟨oc_law_ask_v12, od_law_ask_v12, .func (PySem.W.fnOf "_law_ask" "_law_ask" (defArgs st_law_ask_v12) (defBody st_law_ask_v12) (defScope st_law_ask_v12) .none kV_law_ask_v12 dc_law_ask_v12 pm_law_ask_v12 an_law_ask_v12 cd_law_ask_v12 ct_law_ask_v12), sl_law_ask_v12⟩)
    (c_law_ask_v12 : PySem.W.codeIn K cd_law_ask_v12 "_law_ask" = true)
    (k_law_ask_v12 : PySem.W.keepIn K (.ref a_law_ask_v12) = true)
    (n_law : PySem.W.nsIn K mainGlobals "law" = some (some (.ref a_law)))
    (l_law : K.lookup a_law = some ⟨oc_law, od_law, .func (PySem.W.fnOf "law" "law" (defArgs st_law) (defBody st_law) (defScope st_law) .none kV_law dc_law pm_law an_law cd_law ct_law), sl_law⟩)
    (c_law : PySem.W.codeIn K cd_law "law" = true)
    (k_law : PySem.W.keepIn K (.ref a_law) = true)
    (n_which : PySem.W.nsIn K mainGlobals "_law_which" = some (some (.ref a_which)))
    (l_which : K.lookup a_which = some ⟨oc_which, od_which, .func (PySem.W.fnOf "_law_which" "_law_which" (defArgs st_which) (defBody st_which) (defScope st_which) .none kV_which dc_which pm_which an_which cd_which ct_which), sl_which⟩)
    (c_which : PySem.W.codeIn K cd_which "_law_which" = true)
    (k_which : PySem.W.keepIn K (.ref a_which) = true)
    (z_len : PySem.W.nsIn K mainGlobals "len" = some none)
    (z_sum : PySem.W.nsIn K mainGlobals "sum" = some none)
    (z_tuple : PySem.W.nsIn K mainGlobals "tuple" = some none)
    (z_list : PySem.W.nsIn K mainGlobals "list" = some none)
    (z_sorted : PySem.W.nsIn K mainGlobals "sorted" = some none)
    (z_all : PySem.W.nsIn K mainGlobals "all" = some none)
    (z_any : PySem.W.nsIn K mainGlobals "any" = some none)
    (z_int : PySem.W.nsIn K mainGlobals "int" = some none)
    (z_bool : PySem.W.nsIn K mainGlobals "bool" = some none)
    (z_str : PySem.W.nsIn K mainGlobals "str" = some none)
    (z_isi : PySem.W.nsIn K mainGlobals "isinstance" = some none)
    (z_range : PySem.W.nsIn K mainGlobals "range" = some none)
    (z_enum : PySem.W.nsIn K mainGlobals "enumerate" = some none)
    (z_zip : PySem.W.nsIn K mainGlobals "zip" = some none)
    (z_min : PySem.W.nsIn K mainGlobals "min" = some none)
    (z_max : PySem.W.nsIn K mainGlobals "max" = some none)
    (z_set : PySem.W.nsIn K mainGlobals "set" = some none)
    (v_CARDS : PySem.W.nsIn K mainGlobals "CARDS" = some (some (.int 7 t_CARDS)))
    (v_FIGURES : PySem.W.nsIn K mainGlobals "FIGURES" = some (some (.str (Str.ofString "0123456") t_FIGURES)))
    (n_NoWorld : PySem.W.nsIn K mainGlobals "NoWorld" = some (some (.ref x_NoWorld)))
    (n_NoHand : PySem.W.nsIn K mainGlobals "NoHand" = some (some (.ref x_NoHand)))
    (n_NoLine : PySem.W.nsIn K mainGlobals "NoLine" = some (some (.ref x_NoLine)))
    (n_NoPlan : PySem.W.nsIn K mainGlobals "NoPlan" = some (some (.ref x_NoPlan)))
    (n_NoPerson : PySem.W.nsIn K mainGlobals "NoPerson" = some (some (.ref x_NoPerson)))
    (n_NoNumber : PySem.W.nsIn K mainGlobals "NoNumber" = some (some (.ref x_NoNumber)))
    (n_Against : PySem.W.nsIn K mainGlobals "Against" = some (some (.ref x_Against)))
    (n_Nothing : PySem.W.nsIn K mainGlobals "Nothing" = some (some (.ref x_Nothing)))
    (n_NoNames : PySem.W.nsIn K mainGlobals "NoNames" = some (some (.ref x_NoNames)))
    (n_NoTalk : PySem.W.nsIn K mainGlobals "NoTalk" = some (some (.ref x_NoTalk)))
    (n_NoDeal : PySem.W.nsIn K mainGlobals "NoDeal" = some (some (.ref x_NoDeal)))
    (n_NoText : PySem.W.nsIn K mainGlobals "NoText" = some (some (.ref x_NoText)))
    (e_NoWorld : PySem.W.excIn K x_NoWorld [.type "ValueError", .type "Exception", .type "BaseException", .type "object"] "ValueError.__new__" = true)
    (k_NoWorld : PySem.W.keepIn K (.ref x_NoWorld) = true)
    (s_NoWorld : PySem.W.subIn K (.ref x_NoWorld) (.type "BaseException") = some true)
    (t_NoWorld : PySem.W.typeIn K (.ref x_NoWorld) = some (.type "type"))
    (e_NoLine : PySem.W.excIn K x_NoLine [.type "ValueError", .type "Exception", .type "BaseException", .type "object"] "ValueError.__new__" = true)
    (k_NoLine : PySem.W.keepIn K (.ref x_NoLine) = true)
    (s_NoLine : PySem.W.subIn K (.ref x_NoLine) (.type "BaseException") = some true)
    (t_NoLine : PySem.W.typeIn K (.ref x_NoLine) = some (.type "type"))
    (e_NoText : PySem.W.excIn K x_NoText [.type "ValueError", .type "Exception", .type "BaseException", .type "object"] "ValueError.__new__" = true)
    (k_NoText : PySem.W.keepIn K (.ref x_NoText) = true)
    (s_NoText : PySem.W.subIn K (.ref x_NoText) (.type "BaseException") = some true)
    (t_NoText : PySem.W.typeIn K (.ref x_NoText) = some (.type "type"))
    (n_CE : PySem.W.nsIn K mainGlobals "CardError" = some (some (.ref x_CE)))
    (y1 : PySem.W.subIn K (.ref x_CE) (.type "BaseException") = some true)
    (y2 : PySem.W.hasDictIn K x_CE = true)
    (y3 : PySem.W.typeIn K (.ref x_CE) = some (.type "type"))
    (m_0 : PySem.W.subIn K (.ref x_NoWorld) (.ref x_CE) = some true)
    (m_11 : PySem.W.subIn K (.ref x_NoText) (.ref x_CE) = some true)
    (z_VE : PySem.W.nsIn K mainGlobals "ValueError" = some none)
    (o_n : PySem.W.specialIn K (.builtin "object.__class__") "__get__" = some (some (.builtin "getset_descriptor.__get__")))
    (o_t : PySem.W.takesIn K (.builtin "object.__class__") = some true)
    (p1_NoWorld : PySem.W.findIn K (.ref x_NoWorld) "__getattribute__" = some (some (.builtin "BaseException.__getattribute__")))
    (p2_NoWorld : PySem.W.findIn K (.ref x_NoWorld) "__getattr__" = some none)
    (p3_NoWorld : PySem.W.subIn K (.ref x_NoWorld) (.type "BaseException") = some true)
    (p4_NoWorld : PySem.W.hasDictIn K x_NoWorld = true)
    (p5_NoWorld : PySem.W.findIn K (.ref x_NoWorld) "__class__" = some (some (.builtin "object.__class__")))
    (p6_NoWorld : PySem.W.mroIn K x_NoWorld (.type "object") = some true)
    (q_NoWorld_NoWorld : PySem.W.subIn K (.ref x_NoWorld) (.ref x_NoWorld) = some true)
    (q_NoWorld_NoHand : PySem.W.subIn K (.ref x_NoWorld) (.ref x_NoHand) = some false)
    (q_NoWorld_NoLine : PySem.W.subIn K (.ref x_NoWorld) (.ref x_NoLine) = some false)
    (q_NoWorld_NoPlan : PySem.W.subIn K (.ref x_NoWorld) (.ref x_NoPlan) = some false)
    (q_NoWorld_NoPerson : PySem.W.subIn K (.ref x_NoWorld) (.ref x_NoPerson) = some false)
    (q_NoWorld_NoNumber : PySem.W.subIn K (.ref x_NoWorld) (.ref x_NoNumber) = some false)
    (q_NoWorld_Against : PySem.W.subIn K (.ref x_NoWorld) (.ref x_Against) = some false)
    (q_NoWorld_Nothing : PySem.W.subIn K (.ref x_NoWorld) (.ref x_Nothing) = some false)
    (q_NoWorld_NoNames : PySem.W.subIn K (.ref x_NoWorld) (.ref x_NoNames) = some false)
    (q_NoWorld_NoTalk : PySem.W.subIn K (.ref x_NoWorld) (.ref x_NoTalk) = some false)
    (q_NoWorld_NoDeal : PySem.W.subIn K (.ref x_NoWorld) (.ref x_NoDeal) = some false)
    (q_NoWorld_NoText : PySem.W.subIn K (.ref x_NoWorld) (.ref x_NoText) = some false)
    (qv_NoWorld : PySem.W.subIn K (.ref x_NoWorld) (.type "ValueError") = some true)
    (p1_NoText : PySem.W.findIn K (.ref x_NoText) "__getattribute__" = some (some (.builtin "BaseException.__getattribute__")))
    (p2_NoText : PySem.W.findIn K (.ref x_NoText) "__getattr__" = some none)
    (p3_NoText : PySem.W.subIn K (.ref x_NoText) (.type "BaseException") = some true)
    (p4_NoText : PySem.W.hasDictIn K x_NoText = true)
    (p5_NoText : PySem.W.findIn K (.ref x_NoText) "__class__" = some (some (.builtin "object.__class__")))
    (p6_NoText : PySem.W.mroIn K x_NoText (.type "object") = some true)
    (q_NoText_NoWorld : PySem.W.subIn K (.ref x_NoText) (.ref x_NoWorld) = some false)
    (q_NoText_NoHand : PySem.W.subIn K (.ref x_NoText) (.ref x_NoHand) = some false)
    (q_NoText_NoLine : PySem.W.subIn K (.ref x_NoText) (.ref x_NoLine) = some false)
    (q_NoText_NoPlan : PySem.W.subIn K (.ref x_NoText) (.ref x_NoPlan) = some false)
    (q_NoText_NoPerson : PySem.W.subIn K (.ref x_NoText) (.ref x_NoPerson) = some false)
    (q_NoText_NoNumber : PySem.W.subIn K (.ref x_NoText) (.ref x_NoNumber) = some false)
    (q_NoText_Against : PySem.W.subIn K (.ref x_NoText) (.ref x_Against) = some false)
    (q_NoText_Nothing : PySem.W.subIn K (.ref x_NoText) (.ref x_Nothing) = some false)
    (q_NoText_NoNames : PySem.W.subIn K (.ref x_NoText) (.ref x_NoNames) = some false)
    (q_NoText_NoTalk : PySem.W.subIn K (.ref x_NoText) (.ref x_NoTalk) = some false)
    (q_NoText_NoDeal : PySem.W.subIn K (.ref x_NoText) (.ref x_NoDeal) = some false)
    (q_NoText_NoText : PySem.W.subIn K (.ref x_NoText) (.ref x_NoText) = some true)
    (qv_NoText : PySem.W.subIn K (.ref x_NoText) (.type "ValueError") = some true)
    (u1_NoWorld : PySem.W.isClsIn K x_NoWorld = true)
    (u2_NoWorld : PySem.W.typeIn K (.ref x_NoWorld) = some (.type "type"))
    (u1_NoHand : PySem.W.isClsIn K x_NoHand = true)
    (u2_NoHand : PySem.W.typeIn K (.ref x_NoHand) = some (.type "type"))
    (u1_NoLine : PySem.W.isClsIn K x_NoLine = true)
    (u2_NoLine : PySem.W.typeIn K (.ref x_NoLine) = some (.type "type"))
    (u1_NoPlan : PySem.W.isClsIn K x_NoPlan = true)
    (u2_NoPlan : PySem.W.typeIn K (.ref x_NoPlan) = some (.type "type"))
    (u1_NoPerson : PySem.W.isClsIn K x_NoPerson = true)
    (u2_NoPerson : PySem.W.typeIn K (.ref x_NoPerson) = some (.type "type"))
    (u1_NoNumber : PySem.W.isClsIn K x_NoNumber = true)
    (u2_NoNumber : PySem.W.typeIn K (.ref x_NoNumber) = some (.type "type"))
    (u1_Against : PySem.W.isClsIn K x_Against = true)
    (u2_Against : PySem.W.typeIn K (.ref x_Against) = some (.type "type"))
    (u1_Nothing : PySem.W.isClsIn K x_Nothing = true)
    (u2_Nothing : PySem.W.typeIn K (.ref x_Nothing) = some (.type "type"))
    (u1_NoNames : PySem.W.isClsIn K x_NoNames = true)
    (u2_NoNames : PySem.W.typeIn K (.ref x_NoNames) = some (.type "type"))
    (u1_NoTalk : PySem.W.isClsIn K x_NoTalk = true)
    (u2_NoTalk : PySem.W.typeIn K (.ref x_NoTalk) = some (.type "type"))
    (u1_NoDeal : PySem.W.isClsIn K x_NoDeal = true)
    (u2_NoDeal : PySem.W.typeIn K (.ref x_NoDeal) = some (.type "type"))
    (u1_NoText : PySem.W.isClsIn K x_NoText = true)
    (u2_NoText : PySem.W.typeIn K (.ref x_NoText) = some (.type "type"))
    : ∃ fd : FuncData, (∀ (s : Shared) (v : Value), BindsTo s fd ⟨[v], []⟩ [("_law_script", v)]) ∧ ∀ base : Heap, K.In base → base.Ns mainGlobals mg → FnOk l.prog w K mg base (L2.CX l.prog w) 40 fa fd ["_law_script"] (spLaw K (run U 40 200)) := by
  have e := hfa.symm.trans (PySem.W.mg_of X G n_law)
  cases e
  refine ⟨PySem.W.fnOf "law" "law" (defArgs st_law) (defBody st_law) (defScope st_law) .none kV_law dc_law pm_law an_law cd_law ct_law, fun s v => .of_eq rfl, fun base _ _ => ?_⟩
  have hs : Hs l.prog w K mg base (fun n => ([x_NoWorld, x_NoHand, x_NoLine, x_NoPlan, x_NoPerson, x_NoNumber, x_Against, x_Nothing, x_NoNames, x_NoTalk, x_NoDeal, x_NoText] : List Addr).getD n 0) (.ref x_CE) := {
    bl := ⟨PySem.W.mg_none_of X G z_len, PySem.W.mg_none_of X G z_sum, PySem.W.mg_none_of X G z_tuple, PySem.W.mg_none_of X G z_list, PySem.W.mg_none_of X G z_sorted, PySem.W.mg_none_of X G z_all, PySem.W.mg_none_of X G z_any, PySem.W.mg_none_of X G z_int, PySem.W.mg_none_of X G z_bool, PySem.W.mg_none_of X G z_str, PySem.W.mg_none_of X G z_isi, PySem.W.mg_none_of X G z_range, PySem.W.mg_none_of X G z_enum, PySem.W.mg_none_of X G z_zip, PySem.W.mg_none_of X G z_min, PySem.W.mg_none_of X G z_max, PySem.W.mg_none_of X G z_set⟩
    d_is_whole := hd1_mk (st := st_is_whole) (ps := ["thing", "low", "most"]) X G n_is_whole l_is_whole c_is_whole k_is_whole fun _ _ _ _ _ _ us hl => match us, hl with | [_, _, _], _ => rfl
    d_is_world := hd1_mk (st := st_is_world) (ps := ["thing"]) X G n_is_world l_is_world c_is_world k_is_world fun _ _ _ _ _ _ us hl => match us, hl with | [_], _ => rfl
    d_need_world := hd1_mk (st := st_need_world) (ps := ["thing"]) X G n_need_world l_need_world c_need_world k_need_world fun _ _ _ _ _ _ us hl => match us, hl with | [_], _ => rfl
    d_is_hand := hd1_mk (st := st_is_hand) (ps := ["world", "size", "thing"]) X G n_is_hand l_is_hand c_is_hand k_is_hand fun _ _ _ _ _ _ us hl => match us, hl with | [_, _, _], _ => rfl
    d_is_line := hd1_mk (st := st_is_line) (ps := ["world", "size", "thing"]) X G n_is_line l_is_line c_is_line k_is_line fun _ _ _ _ _ _ us hl => match us, hl with | [_, _, _], _ => rfl
    d_need_line := hd1_mk (st := st_need_line) (ps := ["world", "thing"]) X G n_need_line l_need_line c_need_line k_need_line fun _ _ _ _ _ _ us hl => match us, hl with | [_, _], _ => rfl
    d_text_of := hd1_mk (st := st_text_of) (ps := ["line"]) X G n_text_of l_text_of c_text_of k_text_of fun _ _ _ _ _ _ us hl => match us, hl with | [_], _ => rfl
    d_line_text := hd1_mk (st := st_line_text) (ps := ["world", "line"]) X G n_line_text l_line_text c_line_text k_line_text fun _ _ _ _ _ _ us hl => match us, hl with | [_, _], _ => rfl
    d_line_from := hd1_mk (st := st_line_from) (ps := ["text"]) X G n_line_from l_line_from c_line_from k_line_from fun _ _ _ _ _ _ us hl => match us, hl with | [_], _ => rfl
    d_read_line := hd1_mk (st := st_read_line) (ps := ["world", "text"]) X G n_read_line l_read_line c_read_line k_read_line fun _ _ _ _ _ _ us hl => match us, hl with | [_, _], _ => rfl
    d_law_cell_at := hd1_mk (st := st_law_cell_at) (ps := ["_law_script", "_law_k"]) X G n_law_cell_at l_law_cell_at c_law_cell_at k_law_cell_at fun _ _ _ _ _ _ us hl => match us, hl with | [_, _], _ => rfl
    d_law_mixed_v2 := hd1_mk (st := st_law_mixed_v2) (ps := ["_law_script", "_law_k", "_law_many"]) X G n_law_mixed_v2 l_law_mixed_v2 c_law_mixed_v2 k_law_mixed_v2 fun _ _ _ _ _ _ us hl => match us, hl with | [_, _, _], _ => rfl
    d_law_draw_v2 := hd1_mk (st := st_law_draw_v2) (ps := ["_law_script", "_law_town", "_law_many"]) X G n_law_draw_v2 l_law_draw_v2 c_law_draw_v2 k_law_draw_v2 fun _ _ _ _ _ _ us hl => match us, hl with | [_, _, _], _ => rfl
    d_law_pick_v2 := hd1_mk (st := st_law_pick_v2) (ps := ["_law_script", "_law_town", "_law_some"]) X G n_law_pick_v2 l_law_pick_v2 c_law_pick_v2 k_law_pick_v2 fun _ _ _ _ _ _ us hl => match us, hl with | [_, _, _], _ => rfl
    d_law_world_v2 := hd1_mk (st := st_law_world_v2) (ps := ["_law_script", "_law_town"]) X G n_law_world_v2 l_law_world_v2 c_law_world_v2 k_law_world_v2 fun _ _ _ _ _ _ us hl => match us, hl with | [_, _], _ => rfl
    d_law_picks := hd1_mk (st := st_law_picks) (ps := ["_law_many", "_law_size"]) X G n_law_picks l_law_picks c_law_picks k_law_picks fun _ _ _ _ _ _ us hl => match us, hl with | [_, _], _ => rfl
    d_law_line_v2 := hd1_mk (st := st_law_line_v2) (ps := ["_law_script", "_law_town", "_law_many", "_law_size", "_law_most"]) X G n_law_line_v2 l_law_line_v2 c_law_line_v2 k_law_line_v2 fun _ _ _ _ _ _ us hl => match us, hl with | [_, _, _, _, _], _ => rfl
    d_law_odd_world := hd1_mk (st := st_law_odd_world) (ps := ["_law_script", "_law_town"]) X G n_law_odd_world l_law_odd_world c_law_odd_world k_law_odd_world fun _ _ _ _ _ _ us hl => match us, hl with | [_, _], _ => rfl
    d_law_ask_v12 := hd1_mk (st := st_law_ask_v12) (ps := ["_law_world_here", "_law_text"]) X G n_law_ask_v12 l_law_ask_v12 c_law_ask_v12 k_law_ask_v12 fun _ _ _ _ _ _ us hl => match us, hl with | [_, _], _ => rfl
    g_CARDS := ⟨_, PySem.W.mg_of X G v_CARDS⟩
    g_FIGURES := ⟨_, PySem.W.mg_of X G v_FIGURES⟩
    c_NoWorld := ⟨e_NoWorld, PySem.W.mg_of X G n_NoWorld, k_NoWorld, s_NoWorld, t_NoWorld⟩
    c_NoLine := ⟨e_NoLine, PySem.W.mg_of X G n_NoLine, k_NoLine, s_NoLine, t_NoLine⟩
    c_NoText := ⟨e_NoText, PySem.W.mg_of X G n_NoText, k_NoText, s_NoText, t_NoText⟩
    gCE := PySem.W.mg_of X G n_CE
    ex_law_ask_v12 := (al1 (PySem.W.exm_ref y1 y2 y3 m_0) (al1 (PySem.W.exm_ref y1 y2 y3 m_11) al0))
    te_law_ask_v12 := ⟨a_which, _, ["_law_e"], (al1 (w_0 (exc := fun n => ([x_NoWorld, x_NoHand, x_NoLine, x_NoPlan, x_NoPerson, x_NoNumber, x_Against, x_Nothing, x_NoNames, x_NoTalk, x_NoDeal, x_NoText] : List Addr).getD n 0) l_which c_which ⟨PySem.W.mg_none_of X G z_len, PySem.W.mg_none_of X G z_sum, PySem.W.mg_none_of X G z_tuple, PySem.W.mg_none_of X G z_list, PySem.W.mg_none_of X G z_sorted, PySem.W.mg_none_of X G z_all, PySem.W.mg_none_of X G z_any, PySem.W.mg_none_of X G z_int, PySem.W.mg_none_of X G z_bool, PySem.W.mg_none_of X G z_str, PySem.W.mg_none_of X G z_isi, PySem.W.mg_none_of X G z_range, PySem.W.mg_none_of X G z_enum, PySem.W.mg_none_of X G z_zip, PySem.W.mg_none_of X G z_min, PySem.W.mg_none_of X G z_max, PySem.W.mg_none_of X G z_set⟩ (PySem.W.mg_none_of X G z_VE) (PySem.W.mg_of X G n_NoWorld) (PySem.W.mg_of X G n_NoHand) (PySem.W.mg_of X G n_NoLine) (PySem.W.mg_of X G n_NoPlan) (PySem.W.mg_of X G n_NoPerson) (PySem.W.mg_of X G n_NoNumber) (PySem.W.mg_of X G n_Against) (PySem.W.mg_of X G n_Nothing) (PySem.W.mg_of X G n_NoNames) (PySem.W.mg_of X G n_NoTalk) (PySem.W.mg_of X G n_NoDeal) (PySem.W.mg_of X G n_NoText) ⟨p1_NoWorld, p2_NoWorld, p3_NoWorld, p4_NoWorld, p5_NoWorld, o_n, o_t, p6_NoWorld⟩ (kit_own q_NoWorld_NoWorld q_NoWorld_NoWorld u1_NoWorld u2_NoWorld) (kit_own q_NoWorld_NoWorld q_NoWorld_NoHand u1_NoHand u2_NoHand) (kit_own q_NoWorld_NoWorld q_NoWorld_NoLine u1_NoLine u2_NoLine) (kit_own q_NoWorld_NoWorld q_NoWorld_NoPlan u1_NoPlan u2_NoPlan) (kit_own q_NoWorld_NoWorld q_NoWorld_NoPerson u1_NoPerson u2_NoPerson) (kit_own q_NoWorld_NoWorld q_NoWorld_NoNumber u1_NoNumber u2_NoNumber) (kit_own q_NoWorld_NoWorld q_NoWorld_Against u1_Against u2_Against) (kit_own q_NoWorld_NoWorld q_NoWorld_Nothing u1_Nothing u2_Nothing) (kit_own q_NoWorld_NoWorld q_NoWorld_NoNames u1_NoNames u2_NoNames) (kit_own q_NoWorld_NoWorld q_NoWorld_NoTalk u1_NoTalk u2_NoTalk) (kit_own q_NoWorld_NoWorld q_NoWorld_NoDeal u1_NoDeal u2_NoDeal) (kit_own q_NoWorld_NoWorld q_NoWorld_NoText u1_NoText u2_NoText) (kit_ve qv_NoWorld)) (al1 (w_11 (exc := fun n => ([x_NoWorld, x_NoHand, x_NoLine, x_NoPlan, x_NoPerson, x_NoNumber, x_Against, x_Nothing, x_NoNames, x_NoTalk, x_NoDeal, x_NoText] : List Addr).getD n 0) l_which c_which ⟨PySem.W.mg_none_of X G z_len, PySem.W.mg_none_of X G z_sum, PySem.W.mg_none_of X G z_tuple, PySem.W.mg_none_of X G z_list, PySem.W.mg_none_of X G z_sorted, PySem.W.mg_none_of X G z_all, PySem.W.mg_none_of X G z_any, PySem.W.mg_none_of X G z_int, PySem.W.mg_none_of X G z_bool, PySem.W.mg_none_of X G z_str, PySem.W.mg_none_of X G z_isi, PySem.W.mg_none_of X G z_range, PySem.W.mg_none_of X G z_enum, PySem.W.mg_none_of X G z_zip, PySem.W.mg_none_of X G z_min, PySem.W.mg_none_of X G z_max, PySem.W.mg_none_of X G z_set⟩ (PySem.W.mg_none_of X G z_VE) (PySem.W.mg_of X G n_NoWorld) (PySem.W.mg_of X G n_NoHand) (PySem.W.mg_of X G n_NoLine) (PySem.W.mg_of X G n_NoPlan) (PySem.W.mg_of X G n_NoPerson) (PySem.W.mg_of X G n_NoNumber) (PySem.W.mg_of X G n_Against) (PySem.W.mg_of X G n_Nothing) (PySem.W.mg_of X G n_NoNames) (PySem.W.mg_of X G n_NoTalk) (PySem.W.mg_of X G n_NoDeal) (PySem.W.mg_of X G n_NoText) ⟨p1_NoText, p2_NoText, p3_NoText, p4_NoText, p5_NoText, o_n, o_t, p6_NoText⟩ (kit_own q_NoText_NoText q_NoText_NoWorld u1_NoWorld u2_NoWorld) (kit_own q_NoText_NoText q_NoText_NoHand u1_NoHand u2_NoHand) (kit_own q_NoText_NoText q_NoText_NoLine u1_NoLine u2_NoLine) (kit_own q_NoText_NoText q_NoText_NoPlan u1_NoPlan u2_NoPlan) (kit_own q_NoText_NoText q_NoText_NoPerson u1_NoPerson u2_NoPerson) (kit_own q_NoText_NoText q_NoText_NoNumber u1_NoNumber u2_NoNumber) (kit_own q_NoText_NoText q_NoText_Against u1_Against u2_Against) (kit_own q_NoText_NoText q_NoText_Nothing u1_Nothing u2_Nothing) (kit_own q_NoText_NoText q_NoText_NoNames u1_NoNames u2_NoNames) (kit_own q_NoText_NoText q_NoText_NoTalk u1_NoTalk u2_NoTalk) (kit_own q_NoText_NoText q_NoText_NoDeal u1_NoDeal u2_NoDeal) (kit_own q_NoText_NoText q_NoText_NoText u1_NoText u2_NoText) (kit_ve qv_NoText)) al0)), rfl, PySem.W.mg_of X G n_which, k_which, (fun_mk (st := st_which) l_which c_which k_which).binds fun _ _ _ _ _ _ us hl => match us, hl with | [_], _ => rfl⟩
  }
  exact law_imp (law_all (fun_mk (st := st_law) l_law c_law k_law) hs 39)
end Law
open PySem PySem.W PyProof.Rows
set_option maxHeartbeats 0 in
theorem PySem.Challenge.cw_dealtcards_k35_whole_no_other_lines_holds : PySem.Challenge.rw_dealtcards_k35_whole_no_other_lines.Holds := by
  w_on; o_law; k_head; (case hw => w_witness2)
  k_fill
  refine Dc.walk_law (l := PySem.Challenge.rw_dealtcards_k35_whole_no_other_lines) (n := 63) (k := 40) (x := "_law_script") (sp := fun K => Dc.spLaw K (Dc.run Law.U 40 200)) rfl (by decide) rfl ⟨rfl, by decide, by decide⟩ (fun w h Y => PySem.W.kIn_of Y) ?F ?S
  case F =>
    intro w mg fa h KX G hmg
    refine' Law.all_mk KX G hmg ?n_is_whole ?l_is_whole ?c_is_whole ?k_is_whole ?n_is_world ?l_is_world ?c_is_world ?k_is_world ?n_need_world ?l_need_world ?c_need_world ?k_need_world ?n_is_hand ?l_is_hand ?c_is_hand ?k_is_hand ?n_is_line ?l_is_line ?c_is_line ?k_is_line ?n_need_line ?l_need_line ?c_need_line ?k_need_line ?n_text_of ?l_text_of ?c_text_of ?k_text_of ?n_line_text ?l_line_text ?c_line_text ?k_line_text ?n_line_from ?l_line_from ?c_line_from ?k_line_from ?n_read_line ?l_read_line ?c_read_line ?k_read_line ?n_law_cell_at ?l_law_cell_at ?c_law_cell_at ?k_law_cell_at ?n_law_mixed_v2 ?l_law_mixed_v2 ?c_law_mixed_v2 ?k_law_mixed_v2 ?n_law_draw_v2 ?l_law_draw_v2 ?c_law_draw_v2 ?k_law_draw_v2 ?n_law_pick_v2 ?l_law_pick_v2 ?c_law_pick_v2 ?k_law_pick_v2 ?n_law_world_v2 ?l_law_world_v2 ?c_law_world_v2 ?k_law_world_v2 ?n_law_picks ?l_law_picks ?c_law_picks ?k_law_picks ?n_law_line_v2 ?l_law_line_v2 ?c_law_line_v2 ?k_law_line_v2 ?n_law_odd_world ?l_law_odd_world ?c_law_odd_world ?k_law_odd_world ?n_law_ask_v12 ?l_law_ask_v12 ?c_law_ask_v12 ?k_law_ask_v12 ?n_law ?l_law ?c_law ?k_law ?n_which ?l_which ?c_which ?k_which ?z_len ?z_sum ?z_tuple ?z_list ?z_sorted ?z_all ?z_any ?z_int ?z_bool ?z_str ?z_isi ?z_range ?z_enum ?z_zip ?z_min ?z_max ?z_set ?v_CARDS ?v_FIGURES ?n_NoWorld ?n_NoHand ?n_NoLine ?n_NoPlan ?n_NoPerson ?n_NoNumber ?n_Against ?n_Nothing ?n_NoNames ?n_NoTalk ?n_NoDeal ?n_NoText ?e_NoWorld ?k_NoWorld ?s_NoWorld ?t_NoWorld ?e_NoLine ?k_NoLine ?s_NoLine ?t_NoLine ?e_NoText ?k_NoText ?s_NoText ?t_NoText ?n_CE ?y1 ?y2 ?y3 ?m_0 ?m_11 ?z_VE ?o_n ?o_t ?p1_NoWorld ?p2_NoWorld ?p3_NoWorld ?p4_NoWorld ?p5_NoWorld ?p6_NoWorld ?q_NoWorld_NoWorld ?q_NoWorld_NoHand ?q_NoWorld_NoLine ?q_NoWorld_NoPlan ?q_NoWorld_NoPerson ?q_NoWorld_NoNumber ?q_NoWorld_Against ?q_NoWorld_Nothing ?q_NoWorld_NoNames ?q_NoWorld_NoTalk ?q_NoWorld_NoDeal ?q_NoWorld_NoText ?qv_NoWorld ?p1_NoText ?p2_NoText ?p3_NoText ?p4_NoText ?p5_NoText ?p6_NoText ?q_NoText_NoWorld ?q_NoText_NoHand ?q_NoText_NoLine ?q_NoText_NoPlan ?q_NoText_NoPerson ?q_NoText_NoNumber ?q_NoText_Against ?q_NoText_Nothing ?q_NoText_NoNames ?q_NoText_NoTalk ?q_NoText_NoDeal ?q_NoText_NoText ?qv_NoText ?u1_NoWorld ?u2_NoWorld ?u1_NoHand ?u2_NoHand ?u1_NoLine ?u2_NoLine ?u1_NoPlan ?u2_NoPlan ?u1_NoPerson ?u2_NoPerson ?u1_NoNumber ?u2_NoNumber ?u1_Against ?u2_Against ?u1_Nothing ?u2_Nothing ?u1_NoNames ?u2_NoNames ?u1_NoTalk ?u2_NoTalk ?u1_NoDeal ?u2_NoDeal ?u1_NoText ?u2_NoText
    (case n_is_whole => k_is); (case l_is_whole => k_is); (case c_is_whole => k_is); (case k_is_whole => k_is); (case n_is_world => k_is); (case l_is_world => k_is); (case c_is_world => k_is); (case k_is_world => k_is)
    (case n_need_world => k_is); (case l_need_world => k_is); (case c_need_world => k_is); (case k_need_world => k_is); (case n_is_hand => k_is); (case l_is_hand => k_is); (case c_is_hand => k_is); (case k_is_hand => k_is)
    (case n_is_line => k_is); (case l_is_line => k_is); (case c_is_line => k_is); (case k_is_line => k_is); (case n_need_line => k_is); (case l_need_line => k_is); (case c_need_line => k_is); (case k_need_line => k_is)
    (case n_text_of => k_is); (case l_text_of => k_is); (case c_text_of => k_is); (case k_text_of => k_is); (case n_line_text => k_is); (case l_line_text => k_is); (case c_line_text => k_is); (case k_line_text => k_is)
    (case n_line_from => k_is); (case l_line_from => k_is); (case c_line_from => k_is); (case k_line_from => k_is); (case n_read_line => k_is); (case l_read_line => k_is); (case c_read_line => k_is); (case k_read_line => k_is)
    (case n_law_cell_at => k_is); (case l_law_cell_at => k_is); (case c_law_cell_at => k_is); (case k_law_cell_at => k_is); (case n_law_mixed_v2 => k_is); (case l_law_mixed_v2 => k_is); (case c_law_mixed_v2 => k_is); (case k_law_mixed_v2 => k_is)
    (case n_law_draw_v2 => k_is); (case l_law_draw_v2 => k_is); (case c_law_draw_v2 => k_is); (case k_law_draw_v2 => k_is); (case n_law_pick_v2 => k_is); (case l_law_pick_v2 => k_is); (case c_law_pick_v2 => k_is); (case k_law_pick_v2 => k_is)
    (case n_law_world_v2 => k_is); (case l_law_world_v2 => k_is); (case c_law_world_v2 => k_is); (case k_law_world_v2 => k_is); (case n_law_picks => k_is); (case l_law_picks => k_is); (case c_law_picks => k_is); (case k_law_picks => k_is)
    (case n_law_line_v2 => k_is); (case l_law_line_v2 => k_is); (case c_law_line_v2 => k_is); (case k_law_line_v2 => k_is); (case n_law_odd_world => k_is); (case l_law_odd_world => k_is); (case c_law_odd_world => k_is); (case k_law_odd_world => k_is)
    (case n_law_ask_v12 => k_is); (case l_law_ask_v12 => k_is); (case c_law_ask_v12 => k_is); (case k_law_ask_v12 => k_is); (case n_law => k_is); (case l_law => k_is); (case c_law => k_is); (case k_law => k_is)
    (case n_which => k_is); (case l_which => k_is); (case c_which => k_is); (case k_which => k_is); (case z_len => k_is); (case z_sum => k_is); (case z_tuple => k_is); (case z_list => k_is)
    (case z_sorted => k_is); (case z_all => k_is); (case z_any => k_is); (case z_int => k_is); (case z_bool => k_is); (case z_str => k_is); (case z_isi => k_is); (case z_range => k_is)
    (case z_enum => k_is); (case z_zip => k_is); (case z_min => k_is); (case z_max => k_is); (case z_set => k_is); (case v_CARDS => k_is); (case v_FIGURES => k_is); (case n_NoWorld => k_is)
    (case n_NoHand => k_is); (case n_NoLine => k_is); (case n_NoPlan => k_is); (case n_NoPerson => k_is); (case n_NoNumber => k_is); (case n_Against => k_is); (case n_Nothing => k_is); (case n_NoNames => k_is)
    (case n_NoTalk => k_is); (case n_NoDeal => k_is); (case n_NoText => k_is); (case e_NoWorld => k_exc); (case k_NoWorld => k_is); (case s_NoWorld => k_is); (case t_NoWorld => k_is); (case e_NoLine => k_exc)
    (case k_NoLine => k_is); (case s_NoLine => k_is); (case t_NoLine => k_is); (case e_NoText => k_exc); (case k_NoText => k_is); (case s_NoText => k_is); (case t_NoText => k_is); (case n_CE => k_is)
    (case y1 => k_is); (case y2 => k_is); (case y3 => k_is); (case m_0 => k_is); (case m_11 => k_is); (case z_VE => k_is); (case o_n => k_is); (case o_t => k_is)
    (case p1_NoWorld => k_is); (case p2_NoWorld => k_is); (case p3_NoWorld => k_is); (case p4_NoWorld => k_is); (case p5_NoWorld => k_is); (case p6_NoWorld => k_is); (case q_NoWorld_NoWorld => k_is); (case q_NoWorld_NoHand => k_is)
    (case q_NoWorld_NoLine => k_is); (case q_NoWorld_NoPlan => k_is); (case q_NoWorld_NoPerson => k_is); (case q_NoWorld_NoNumber => k_is); (case q_NoWorld_Against => k_is); (case q_NoWorld_Nothing => k_is); (case q_NoWorld_NoNames => k_is); (case q_NoWorld_NoTalk => k_is)
    (case q_NoWorld_NoDeal => k_is); (case q_NoWorld_NoText => k_is); (case qv_NoWorld => k_is); (case p1_NoText => k_is); (case p2_NoText => k_is); (case p3_NoText => k_is); (case p4_NoText => k_is); (case p5_NoText => k_is)
    (case p6_NoText => k_is); (case q_NoText_NoWorld => k_is); (case q_NoText_NoHand => k_is); (case q_NoText_NoLine => k_is); (case q_NoText_NoPlan => k_is); (case q_NoText_NoPerson => k_is); (case q_NoText_NoNumber => k_is); (case q_NoText_Against => k_is)
    (case q_NoText_Nothing => k_is); (case q_NoText_NoNames => k_is); (case q_NoText_NoTalk => k_is); (case q_NoText_NoDeal => k_is); (case q_NoText_NoText => k_is); (case qv_NoText => k_is); (case u1_NoWorld => k_is); (case u2_NoWorld => k_is)
    (case u1_NoHand => k_is); (case u2_NoHand => k_is); (case u1_NoLine => k_is); (case u2_NoLine => k_is); (case u1_NoPlan => k_is); (case u2_NoPlan => k_is); (case u1_NoPerson => k_is); (case u2_NoPerson => k_is)
    (case u1_NoNumber => k_is); (case u2_NoNumber => k_is); (case u1_Against => k_is); (case u2_Against => k_is); (case u1_Nothing => k_is); (case u2_Nothing => k_is); (case u1_NoNames => k_is); (case u2_NoNames => k_is)
    (case u1_NoTalk => k_is); (case u2_NoTalk => k_is); (case u1_NoDeal => k_is); (case u2_NoDeal => k_is); (case u1_NoText => k_is); (case u2_NoText => k_is)
  case S =>
    intro w H a ns hl hS
    exact Dc.law_sp (by kernel_rfl) hl hS (Law.plain ns hl)
