import PyProof.Rows.All
import Wide.All
import OpenK.AllK
import Wide.FinOn
import HandS.List
import HandS.Base
import HandS.Call
import HandS.Comp
import HandS.Dict
import HandS.Exc
import HandS.Words
import HandS.TupMul
import HandS.TupAny
import HandS.Deep
import HandS.Style
import HandS.WordsExc
import HandS.Flow
import HandS.CallSlots
import HandS.IsInst
import HandS.WordsDict
import HandS.Ends
import HandS.SortInts
import HandS.Conv
import KE.SortData
import KE.DataMinMax
import KE.KTupSum
import HandS.Iter
import HandS.Zip
import KE.GoesEnum
import KE.GoesMore
import KE.GoesZip
import HandS.Small
import HandS.Defaults
import PyProof.Rows.TupDisplay
import HandS.Star
import HandS.HeadEnd
import KE.KDictZip
import KE.KDictItemsList
import HandS.HeadHook2
import KE.KStateDown
import HandS.More
import HandS.Head0
import HandS.Head1
import HandS.Head2
import HandS.HeadHook1
import Lean
import PySem.Challenge.RW_lasthopes_k30_squads_and_bans
section
set_option linter.all false
/-! An interpreter for a small part of Python over data (PyData) and owned lists and dicts. Own work. -/
namespace PD
open PySem

/-- a value: data; a list or a dict that one name alone holds (l: while it is walked); a def; an error that is held -/
inductive MV where
  | d (p : PyData)
  | ml (xs : List PyData)
  | lk (xs : List PyData)
  | md (kvs : List (PyData × PyData))
  | kd (kvs : List (PyData × PyData))
  | fn (f : Nat)
  | sc (xs : List PyData)
  | kt (xs : List PyData)
  | ex (c : Nat) (as : List PyData)
  | jk
  | lkd (od : PySem.Obj) (o : L2.HO)

abbrev Env := List (Option MV)

inductive R (α : Type) where
  | ok (a : α) (env : Env)
  | exc (c : Nat) (as : List PyData) (env : Env)
  | no

abbrev M (α : Type) := Env → R α
def M.pure {α : Type} (a : α) : M α := fun env => .ok a env
def M.bind {α β : Type} (x : M α) (f : α → M β) : M β := fun env => match x env with
  | .ok a e => f a e
  | .exc c as e => .exc c as e
  | .no => .no
def M.no {α : Type} : M α := fun _ => .no
def M.opt {α : Type} : Option α → M α
  | some a => .pure a
  | none => .no

/-- an operand: a value just made, or a name -/
inductive O where
  | v (m : MV)
  | r (i : Nat)

inductive BO where | add | sub | mul | fdiv | mod | pow
inductive CO where | eq | ne | lt | le | gt | ge | isin | notin | isN | notN
inductive BI where | len | int | abs | list | tuple | sorted | sum | all | any | max | min | set | dict | repr | str | fmt
inductive MT where | get | items | vals | keys | index | count | upper | split | join
inductive MU where | append | extend | pop | popAt | remove | update
inductive TY where | int | bool | str | tuple | list | dict
  deriving DecidableEq

mutual
inductive Tg where
  | n (i : Nat)
  | t (ts : TgL)
inductive TgL where
  | nil
  | cons (t : Tg) (ts : TgL)
end

mutual
/-- a test -/
inductive T where
  | e (x : E)
  | an (a b : T)
  | or (a b : T)
  | nt (a : T)
inductive E where
  | cst (p : PyData)
  | var (i : Nat)
  | fn (f : Nat)
  | bin (o : BO) (a b : E)
  | neg (a : E)
  | nt (a : E)
  | an (a b : E)
  | or (a b : E)
  | cmp (o : CO) (a b : E)
  | chn (o p : CO) (a b c : E)
  | ite (c : T) (a b : E)
  | tup (es : EL)
  | lst (es : EL)
  | dct (es : EL)
  | sub (a i : E)
  | slA (a : E)
  | slF (a lo : E)
  | slT (a hi : E)
  | slB (a lo hi : E)
  | rev (a : E)
  | call (f : Nat) (es : EL)
  | cav (i : Nat) (fs : List Nat) (es : EL)
  | bi (b : BI) (es : EL)
  | isi (a : E) (ts : List TY)
  | src (b : BI) (s : Src)
  | mt (m : MT) (o : E) (es : EL)
  | mu (m : MU) (i : Nat) (es : EL)
  | comp (e : E) (t : Tg) (s : Src) (c : T)
  | comp2 (e : E) (t : Tg) (s : Src) (c : T) (t2 : Tg) (s2 : Src) (c2 : T)
  | att (a : E) (k : Nat)
inductive Src where
  | sq (e : E)
  | rng (es : EL)
  | zip (es : EL)
  | enm (e : E)
  | items (e : E)
  | vals (e : E)
inductive EL where
  | nil
  | cons (e : E) (es : EL)
  | star (e : E) (es : EL)
end

mutual
inductive S where
  | set (i : Nat) (e : E)
  | par (is : List Nat) (es : EL)
  | unp (t : Tg) (e : E)
  | ssb (i : Nat) (k e : E)
  | aug (o : BO) (i : Nat) (e : E)
  | asb (o : BO) (i : Nat) (k e : E)
  | for (t : Tg) (s : Src) (b : SL)
  | whl (c : T) (b : SL)
  | iff (c : T) (a b : SL)
  | ret (e : E)
  | ex (e : E)
  | ps
  | br
  | ct
  | rs (c : Nat) (es : EL)
  | tr (b : SL) (hs : HL)
inductive SL where
  | nil
  | cons (s : S) (ss : SL)
inductive HL where
  | nil
  | cons (cs : List Nat) (i : Option Nat) (b : SL) (hs : HL)
end

/-- a def: parameters, names, the parameter whose list it may change -/
structure FDef where
  np : Nat
  ns : Nat
  io : Option Nat
  body : SL

/-- a call's end: the result, the in-out argument behind it -/
inductive CR where
  | ok (m : MV) (io : Option MV)
  | exc (c : Nat) (as : List PyData) (io : Option MV)
  | no
structure Callee where
  io : Option Nat
  run : List MV → CR

/-! ### names -/
def Env.at (env : Env) (i : Nat) : Option MV := match env[i]? with
  | some o => o
  | none => none
/-- a value as data: what was owned is owned no more -/
def MV.dat : MV → Option PyData
  | .d p => some p
  | .ml xs => some (.list xs)
  | .md kvs => some (.dict kvs)
  | _ => none
/-- what is read off an operand -/
def rd (o : O) : M MV := fun env => match o with
  | .v m => .ok m env
  | .r i => match env.at i with
    | some m => .ok m env
    | none => .no
/-- read as data, without a claim on it -/
def MV.look : MV → Option PyData
  | .d p => some p
  | .ml xs => some (.list xs)
  | .lk xs => some (.list xs)
  | .md kvs => some (.dict kvs)
  | _ => none
def rdD (o : O) : M PyData := M.bind (rd o) fun m => .opt m.look
/-- taken as data: a name's list is owned no more -/
def tk (o : O) : M PyData := fun env => match o with
  | .v m => match m.dat with
    | some p => .ok p env
    | none => .no
  | .r i => match env.at i with
    | some m => match m.dat with
      | some p => .ok p (env.set i (some (.d p)))
      | none => .no
    | none => .no

/-- passed as it is: a def, the script -/
def isP : MV → Bool
  | .fn _ => true
  | .sc _ => true
  | _ => false
def passO : O → Env → Option MV
  | .v m, _ => if isP m = true then some m else none
  | .r i, env => match env.at i with
    | some m => if isP m = true then some m else none
    | none => none
def tkA (o : O) : M MV := fun env => match passO o env with
  | some m => .ok m env
  | none => M.bind (tk o) (fun p => .pure (.d p)) env
def tkAll : List O → M (List PyData)
  | [] => .pure []
  | o :: os => M.bind (tk o) fun p => M.bind (tkAll os) fun ps => .pure (p :: ps)
def rdAll : List O → M (List PyData)
  | [] => .pure []
  | o :: os => M.bind (rdD o) fun p => M.bind (rdAll os) fun ps => .pure (p :: ps)

/-! ### operations on data -/
abbrev line : Nat := 16777216
def small (i : Int) : Bool := decide (-18446744073709551616 < i ∧ i < 18446744073709551616)
def binI : BO → Int → Int → Option Int
  | .add, i, j => some (i + j)
  | .sub, i, j => some (i - j)
  | .mul, i, j => if small i || small j then some (i * j) else none
  | .fdiv, i, j => if 0 < j ∧ j < 1073741824 then some (i / j) else none
  | .mod, i, j => if 0 < j then some (i % j) else none
  | .pow, i, j => if 0 ≤ j ∧ j ≤ 1000000 ∧ i.natAbs < 18446744073709551616 then some (i ^ j.toNat) else none
def reps (xs : List PyData) (n : Int) : List PyData := (List.replicate n.toNat xs).flatten
def binop (o : BO) (a b : PyData) : Option MV := match a, b with
  | .int i, .int j => (binI o i j).map fun k => .d (.int k)
  | .list xs, .list ys => match o with
    | .add => if xs.length ≤ line ∧ ys.length ≤ line ∧ xs.length + ys.length ≤ line then some (.ml (xs ++ ys)) else none
    | _ => none
  | .tuple xs, .tuple ys => match o with
    | .add => if xs.length + ys.length ≤ line then some (.d (.tuple (xs ++ ys))) else none
    | _ => none
  | .list xs, .int k => match o with
    | .mul => if -9223372036854775808 ≤ k ∧ k < 9223372036854775808 ∧ xs.length * k.toNat ≤ line then some (.ml (reps xs k)) else none
    | _ => none
  | .tuple xs, .int k => match o with
    | .mul => if -9223372036854775808 ≤ k ∧ k < 9223372036854775808 ∧ xs.length * k.toNat ≤ line then some (.d (.tuple (reps xs k))) else none
    | _ => none
  | .str x, .str y => match o with
    | .add => if x.length + y.length ≤ line then some (.d (.str (x ++ y))) else none
    | _ => none
  | _, _ => none
/-- == of data -/
def eqD (a b : PyData) : Option Bool := if SeqAt.shaped a = true ∧ SeqAt.shaped b = true then some (PyData.eqv a b) else none
/-- keys: asInts, texts; tuples of these -/
def isK1 : PyData → Bool
  | .int _ => true
  | .str _ => true
  | _ => false
def isK2 : PyData → Bool
  | .tuple xs => xs.all isK1
  | _ => false
def isKey (p : PyData) : Bool := isK1 p || isK2 p
def same1 : PyData → PyData → Bool
  | .int i, .int j => i == j
  | .str x, .str y => x == y
  | _, _ => false
def same1s : List PyData → List PyData → Bool
  | [], [] => true
  | x :: xs, y :: ys => same1 x y && same1s xs ys
  | _, _ => false
def sameK : PyData → PyData → Bool
  | .tuple xs, .tuple ys => same1s xs ys
  | x, y => same1 x y
def look (k : PyData) : List (PyData × PyData) → Option PyData
  | [] => none
  | (a, v) :: r => if sameK a k = true then some v else look k r
def putK (k v : PyData) (kvs : List (PyData × PyData)) : List (PyData × PyData) :=
  if (kvs.any fun kv => sameK kv.1 k) = true then kvs.map fun kv => if sameK kv.1 k = true then (kv.1, v) else kv else kvs ++ [(k, v)]
/-- a dict's keys are of one kind, and so is k -/
def keyed (k : PyData) (kvs : List (PyData × PyData)) : Bool := (isK1 k && kvs.all fun p => isK1 p.1) || (isK2 k && kvs.all fun p => isK2 p.1)
def flatD : PyData → Bool
  | .none => true
  | .bool _ => true
  | .int _ => true
  | .str _ => true
  | _ => false
def isIn (a : PyData) : PyData → Option Bool
  | .list ys => if SeqAt.shaped a = true ∧ SeqAt.shaped (.list ys) = true then some (ys.any fun z => PyData.eqv z a) else none
  | .tuple ys => if flatD a = true ∧ ys.all flatD = true then some (ys.any fun z => PyData.eqv z a) else none
  | .dict kvs => if keyed a kvs = true then some (look a kvs).isSome else none
  | _ => none
def cmpI : CO → Int → Int → Option Bool
  | .lt, i, j => some (decide (i < j))
  | .le, i, j => some (decide (i ≤ j))
  | .gt, i, j => some (decide (j < i))
  | .ge, i, j => some (decide (j ≤ i))
  | _, _, _ => none
def isN : PyData → Bool
  | .none => true
  | _ => false
def cmpII (o : CO) (a b : PyData) : Option Bool := match a, b with
  | .int i, .int j => cmpI o i j
  | _, _ => none
def cmpD (o : CO) (a b : PyData) : Option Bool := match o with
  | .eq => eqD a b
  | .ne => (eqD a b).map not
  | .isin => isIn a b
  | .notin => (isIn a b).map not
  | .isN => if isN b = true then some (isN a) else none
  | .notN => if isN b = true then some (!isN a) else none
  | o => cmpII o a b
def truth : PyData → Option Bool
  | .none => some false
  | .bool b => some b
  | .int i => some (i != 0)
  | .str x => if x.length ≤ line then some ((x.length : Int) != 0) else none
  | .list xs => some (!xs.isEmpty)
  | .tuple xs => some (!xs.isEmpty)
  | .dict _ => none
/-- an index from 0, or from behind -/
abbrev ix (n : Nat) (i : Int) : Option Nat := L2.ixN n i
def item (a i : PyData) : Option PyData := match a, i with
  | .list xs, .int i => match ix xs.length i with
    | some k => xs[k]?
    | none => none
  | .tuple xs, .int i => match ix xs.length i with
    | some k => xs[k]?
    | none => none
  | .dict kvs, k => if keyed k kvs = true then look k kvs else none
  | _, _ => none
def itemM (a i : PyData) : Option PyData := match a with
  | .tuple _ => none
  | a => item a i
/-- a slice -/
def cutL {α : Type} (xs : List α) (lo hi : Option Int) : List α := (xs.drop (HT.sIx xs.length 0 lo)).take (HT.sIx xs.length xs.length hi - HT.sIx xs.length 0 lo)
def slice (m : MV) (lo hi : Option Int) : Option MV := match m with
  | .d (.list xs) => some (.ml (cutL xs lo hi))
  | .ml xs => some (.ml (cutL xs lo hi))
  | .lk xs => some (.ml (cutL xs lo hi))
  | .sc xs => some (.ml (cutL xs lo hi))
  | .d (.tuple xs) => some (.d (.tuple (cutL xs lo hi)))
  | _ => none
def rdI (o : O) : M Int := M.bind (rdD o) fun p => match p with
  | .int i => .pure i
  | _ => .no
def asInts : List PyData → Option (List Int)
  | [] => some []
  | .int i :: r => (asInts r).map (i :: ·)
  | _ :: _ => none
def asBools : List PyData → Option (List Bool)
  | [] => some []
  | .bool i :: r => (asBools r).map (i :: ·)
  | _ :: _ => none
def seqOf : PyData → Option (List PyData)
  | .list xs => some xs
  | .tuple xs => some xs
  | _ => none
/-! the order of data of one shape; sorting -/
mutual
def ltD : PyData → PyData → Bool
  | .int i, .int j => decide (i < j)
  | .str x, .str y => decide (x.cps.toList < y.cps.toList)
  | .tuple xs, .tuple ys => ltL xs ys
  | _, _ => false
def ltL : List PyData → List PyData → Bool
  | [], [] => false
  | [], _ :: _ => true
  | _ :: _, [] => false
  | x :: xs, y :: ys => if PyData.eqv x y = true then ltL xs ys else ltD x y
end
mutual
/-- of one shape: ints, texts, tuples of such of one length -/
def sameSh : PyData → PyData → Bool
  | .int _, .int _ => true
  | .str _, .str _ => true
  | .tuple xs, .tuple ys => sameShL xs ys
  | _, _ => false
def sameShL : List PyData → List PyData → Bool
  | [], [] => true
  | x :: xs, y :: ys => sameSh x y && sameShL xs ys
  | _, _ => false
end
def isIntD : PyData → Bool
  | .int _ => true
  | _ => false
/-- a tuple of ints, not empty -/
def isIntTup : PyData → Bool
  | .tuple (x :: xs) => isIntD x && xs.all isIntD
  | _ => false
def notE : PyData → Bool
  | .tuple [] => false
  | _ => true
/-- what can be sorted -/
def sortOk : List PyData → Bool
  | [] => true
  | d :: r => ((notE d && sameSh d d) && decide (d.depth ≤ 60) && r.all fun e => sameSh d e) || (isIntTup d && r.all isIntTup)
def insD (d : PyData) : List PyData → List PyData
  | [] => [d]
  | e :: r => if ltD e d = true then e :: insD d r else d :: e :: r
def sortL : List PyData → List PyData
  | [] => []
  | d :: r => insD d (sortL r)
/-- the greatest, the least of data of one shape: the first of them -/
def maxF : PyData → List PyData → PyData
  | x, [] => x
  | x, y :: r => maxF (if ltD x y = true then y else x) r
def minF : PyData → List PyData → PyData
  | x, [] => x
  | x, y :: r => minF (if ltD y x = true then y else x) r
/-- kinds of values -/
inductive TK where | non | bool | int | str | list | tuple | dict
def tkD : PyData → TK
  | .none => .non
  | .bool _ => .bool
  | .int _ => .int
  | .str _ => .str
  | .list _ => .list
  | .tuple _ => .tuple
  | .dict _ => .dict
def MV.tk : MV → Option TK
  | .d p => some (tkD p)
  | .ml _ => some .list
  | .md _ => some .dict
  | .sc _ => some .list
  | _ => none
def isTy : TY → TK → Bool
  | .int, .int => true
  | .int, .bool => true
  | .bool, .bool => true
  | .str, .str => true
  | .tuple, .tuple => true
  | .list, .list => true
  | .dict, .dict => true
  | _, _ => false
def augI (o : BO) : PyData → PyData → Option Int
  | .int i, .int j => match o with
    | .add => some (i + j)
    | .sub => some (i - j)
    | _ => none
  | _, _ => none
/-! ### the interpreter -/
def M.ofO : Option MV → M O
  | some m => .pure (.v m)
  | none => .no
def tDef (x : M O) : M Bool := M.bind x fun o => M.bind (rdD o) fun p => .opt (truth p)
def bI (x : M O) : M PyData := M.bind x rdD

/-- an owned value -/
def MV.free : MV → Bool
  | .ml _ => true
  | .md _ => true
  | _ => false
def tkAs : Option Nat → List O → M (List MV)
  | _, [] => .pure []
  | some 0, _ :: os => M.bind (tkAs none os) fun ms => .pure (.d .none :: ms)
  | some (j + 1), o :: os => M.bind (tkA o) fun m => M.bind (tkAs (some j) os) fun ms => .pure (m :: ms)
  | none, o :: os => M.bind (tkA o) fun m => M.bind (tkAs none os) fun ms => .pure (m :: ms)
def own (c : Callee) (os : List O) : M O := M.bind (tkAs c.io os) fun as => fun env => match c.io with
  | none => match c.run as with
    | .ok m none => .ok (.v m) env
    | .exc k es none => .exc k es env
    | _ => .no
  | some j => match os[j]? with
    | some (.r i) => match env.at i with
      | some m0 => if m0.free = true then (match c.run (as.set j m0) with
        | .ok m (some m1) => if m1.free = true then .ok (.v m) (env.set i (some m1)) else .no
        | .exc k es (some m1) => if m1.free = true then .exc k es (env.set i (some m1)) else .no
        | _ => .no) else .no
      | none => .no
    | _ => .no

def keysOf (kvs : List (PyData × PyData)) : List PyData := kvs.map (·.1)
def itemsOf : PyData → Option (List PyData)
  | .list xs => some xs
  | .tuple xs => some xs
  | .dict kvs => some (keysOf kvs)
  | _ => none
def scOf : O → Env → Option (List PyData)
  | .v (.sc xs), _ => some xs
  | .r i, env => match env.at i with
    | some (.sc xs) => some xs
    | _ => none
  | _, _ => none
/-- what is walked: its items (a name's list is owned no more) -/
def walk (o : O) : M (List PyData) := fun env => match scOf o env with
  | some xs => .ok xs env
  | none => M.bind (tk o) (fun p => .opt (seqOf p)) env
/-- .. a dict's keys as well -/
def walkK (o : O) : M (List PyData) := fun env => match scOf o env with
  | some xs => .ok xs env
  | none => M.bind (tk o) (fun p => .opt (itemsOf p)) env
/-- no script -/
def walkD (o : O) : M (List PyData) := M.bind (tk o) fun p => .opt (seqOf p)
def rangeI (lo : Int) (n : Nat) : List PyData := (List.range n).map fun (k : Nat) => PyData.int (lo + (k : Int))
/-- downwards -/
def rangeD (lo : Int) (n : Nat) : List PyData := (List.range n).map fun (k : Nat) => PyData.int (lo + (k : Int) * -1)
def rng : List PyData → Option (List PyData)
  | [.int j] => if j < 4611686018427387904 ∧ -4611686018427387904 ≤ j then some (rangeI 0 j.toNat) else none
  | [.int i, .int j] => if -4611686018427387904 ≤ i ∧ i < 4611686018427387904 ∧ -4611686018427387904 ≤ j ∧ j < 4611686018427387904 then some (rangeI i (j - i).toNat) else none
  | [.int i, .int j, .int c] => if c = -1 ∧ -4611686018427387904 ≤ i ∧ i < 4611686018427387904 ∧ -4611686018427387904 ≤ j ∧ j < 4611686018427387904 then some (rangeD i (i - j).toNat) else none
  | _ => none
def zip2 (xs ys : List PyData) : List PyData := List.zipWith (fun x y => .tuple [x, y]) xs ys
def enumD (xs : List PyData) : List PyData := (List.range xs.length).zipWith (fun (k : Nat) x => PyData.tuple [PyData.int (k : Int), x]) xs
mutual
def bindT : Tg → PyData → Env → Option Env
  | .n i, p, env => if i < env.length then some (env.set i (some (.d p))) else none
  | .t ts, .tuple ps, env => bindTs ts ps env
  | .t _, _, _ => none
def bindTs : TgL → List PyData → Env → Option Env
  | .nil, [], env => some env
  | .cons t ts, p :: ps, env => match bindT t p env with
    | some e => bindTs ts ps e
    | none => none
  | _, _, _ => none
end
mutual
def Tg.vars : Tg → List Nat
  | .n i => [i]
  | .t ts => ts.vars
def TgL.vars : TgL → List Nat
  | .nil => []
  | .cons t ts => t.vars ++ ts.vars
end
/-- a comprehension's names are its own -/
def hide : List Nat → Env → Env
  | [], env => env
  | i :: r, env => (hide r env).set i none
def unhide (old : Env) : List Nat → Env → Env
  | [], env => env
  | i :: r, env => (unhide old r env).set i (match old[i]? with | some o => o | none => none)
def inN (vs : List Nat) (env : Env) : Bool := vs.all fun i => decide (i < env.length)
/-- the turns of a comprehension -/
def turns (f : PyData → List PyData → M (List PyData)) : List PyData → List PyData → M (List PyData)
  | [], acc => .pure acc
  | x :: xs, acc => M.bind (f x acc) fun acc' => turns f xs acc'
def M.noX {α : Type} (x : M α) : M α := fun env => match x env with
  | .ok a e => .ok a e
  | _ => .no
def getE (f : Env → Option Env) : M Unit := fun env => match f env with
  | some e => .ok () e
  | none => .no

def bLen : List PyData → Option MV
  | [.list xs] => some (.d (.int xs.length))
  | [.tuple xs] => some (.d (.int xs.length))
  | [.str x] => if x.length ≤ line then some (.d (.int x.length)) else none
  | _ => none
def bInt : List PyData → Option MV
  | [.int i] => some (.d (.int i))
  | [.bool b] => some (.d (.int (if b then 1 else 0)))
  | _ => none
def bAbs : List PyData → Option MV
  | [.int i] => some (.d (.int (if i < 0 then -i else i)))
  | _ => none
def bList : List PyData → Option MV
  | [.list xs] => some (.ml xs)
  | [.tuple xs] => some (.ml xs)
  | [.dict kvs] => some (.ml (keysOf kvs))
  | _ => none
def bTuple : List PyData → Option MV
  | [.list xs] => some (.d (.tuple xs))
  | [.tuple xs] => some (.d (.tuple xs))
  | _ => none
def bSum : List PyData → Option MV
  | [p] => match seqOf p with
    | some xs => (asInts xs).map fun is => .d (.int is.sum)
    | none => none
  | _ => none
def bAll : List PyData → Option MV
  | [.list xs] => (asBools xs).map fun bs => .d (.bool (bs.all id))
  | _ => none
def bAny : List PyData → Option MV
  | [.list xs] => (asBools xs).map fun bs => .d (.bool (bs.any id))
  | _ => none
def bestOf (f : PyData → List PyData → PyData) (p : PyData) : Option MV := match seqOf p with
  | some (d :: r) => if sortOk (d :: r) = true then some (.d (f d r)) else none
  | _ => none
def bMax : List PyData → Option MV
  | [.int i, .int j] => some (.d (.int (if j > i then j else i)))
  | [p] => bestOf maxF p
  | _ => none
def bMin : List PyData → Option MV
  | [.int i, .int j] => some (.d (.int (if j < i then j else i)))
  | [p] => bestOf minF p
  | _ => none
/-- what stands in a list, a tuple, a dict -/
def gathD : PyData → Option (List PyData)
  | .list xs => some xs
  | .tuple xs => some xs
  | .dict kvs => some (keysOf kvs)
  | _ => none
def bSorted : List PyData → Option MV
  | [p] => match gathD p with
    | some xs => if sortOk xs = true then some (.ml (sortL xs)) else none
    | none => none
  | _ => none
def builtin : BI → List PyData → Option MV
  | .len => bLen
  | .int => bInt
  | .abs => bAbs
  | .list => bList
  | .tuple => bTuple
  | .sum => bSum
  | .all => bAll
  | .any => bAny
  | .max => bMax
  | .min => bMin
  | .sorted => bSorted
  | _ => fun _ => none
/-- a list made of what is walked -/
def srcTo : BI → List PyData → Option MV
  | .list, xs => if xs.length ≤ line then some (.ml xs) else none
  | .tuple, xs => if xs.length ≤ line then some (.d (.tuple xs)) else none
  | _, _ => none
def isDct : PyData → Bool
  | .dict _ => true
  | _ => false
def meth : MT → PyData → List PyData → Option MV
  | .get, .dict kvs, [k, v] => if keyed k kvs = true then some (.d ((look k kvs).getD v)) else none
  | .get, .dict kvs, [k] => if keyed k kvs = true then some (.d ((look k kvs).getD .none)) else none
  | _, _, _ => none
def isMl : Option MV → Bool
  | some (.ml _) => true
  | _ => false
def mAppend : List PyData → List PyData → Option (List PyData × PyData)
  | xs, [p] => if xs.length < line then some (xs ++ [p], .none) else none
  | _, _ => none
def mExtend : List PyData → List PyData → Option (List PyData × PyData)
  | xs, [.list ys] => if xs.length + ys.length ≤ line then some (xs ++ ys, .none) else none
  | _, _ => none
def mPop : List PyData → List PyData → Option (List PyData × PyData)
  | xs, [] => match xs[xs.length - 1]? with
    | some p => some (xs.dropLast, p)
    | none => none
  | _, _ => none
def mPopAt : List PyData → List PyData → Option (List PyData × PyData)
  | xs, [.int i] => if -9223372036854775808 ≤ i ∧ i < 9223372036854775808 then (match seqIndex? i xs.length with
    | some k => match xs[k]? with
      | some p => some (xs.eraseIdx k, p)
      | none => none
    | none => none) else none
  | _, _ => none
def mutL : MU → List PyData → List PyData → Option (List PyData × PyData)
  | .append => mAppend
  | .extend => mExtend
  | .pop => mPop
  | .popAt => mPopAt
  | _ => fun _ _ => none
def mutm (m : MU) : MV → List PyData → Option (List PyData × PyData)
  | .ml xs, ps => mutL m xs ps
  | _, _ => none
/-- o[k] = v -/
def setIt : MV → PyData → PyData → Option MV
  | .ml xs, .int i, v => match ix xs.length i with
    | some k => some (.ml (xs.set k v))
    | none => none
  | .md kvs, k, v => if keyed k kvs = true ∧ kvs.length < line then some (.md (putK k v kvs)) else none
  | _, _, _ => none

section
variable (C : Nat → Callee)
mutual
def evT : T → M Bool
  | .e x => tDef (evO x)
  | .an a b => M.bind (evT a) fun t => match t with
    | true => evT b
    | false => .pure false
  | .or a b => M.bind (evT a) fun t => match t with
    | true => .pure true
    | false => evT b
  | .nt a => M.bind (evT a) fun t => .pure (!t)
def evO : E → M O
  | .cst p => .pure (.v (.d p))
  | .var i => fun env => match env.at i with
    | some _ => .ok (.r i) env
    | none => .no
  | .fn f => .pure (.v (.fn f))
  | .bin o a b => M.bind (evO a) fun x => M.bind (evO b) fun y => M.bind (rdD x) fun p => M.bind (rdD y) fun q => .ofO (binop o p q)
  | .neg a => M.bind (evO a) fun x => M.bind (rdD x) fun p => match p with
    | .int i => .pure (.v (.d (.int (-i))))
    | _ => .no
  | .nt a => M.bind (evO a) fun x => M.bind (rdD x) fun p => .ofO ((truth p).map fun t => .d (.bool (!t)))
  | .an a b => M.bind (evO a) fun x => M.bind (tk x) fun p => match truth p with
    | some true => evO b
    | some false => .pure (.v (.d p))
    | none => .no
  | .or a b => M.bind (evO a) fun x => M.bind (tk x) fun p => match truth p with
    | some true => .pure (.v (.d p))
    | some false => evO b
    | none => .no
  | .cmp o a b => M.bind (evO a) fun x => M.bind (evO b) fun y => M.bind (rdD x) fun p => M.bind (rdD y) fun q => .ofO ((cmpD o p q).map fun t => .d (.bool t))
  | .chn o o' a b c => M.bind (evO a) fun x => M.bind (evO b) fun y => M.bind (rdD x) fun p => M.bind (rdD y) fun q => match cmpD o p q with
    | some true => M.bind (evO c) fun z => M.bind (rdD y) fun q' => M.bind (rdD z) fun r => .ofO ((cmpD o' q' r).map fun t => .d (.bool t))
    | some false => .pure (.v (.d (.bool false)))
    | none => .no
  | .ite c a b => M.bind (evT c) fun t => match t with
    | true => evO a
    | false => evO b
  | .tup es => M.bind (evL es) fun os => M.bind (tkAll os) fun ps => if ps.length ≤ line then .pure (.v (.d (.tuple ps))) else .no
  | .lst es => M.bind (evL es) fun os => M.bind (tkAll os) fun ps => if ps.length ≤ line then .pure (.v (.ml ps)) else .no
  | .dct es => match es with
    | .nil => .pure (.v (.md []))
    | .cons k (.cons v .nil) => M.bind (evO k) fun x => M.bind (evO v) fun y => M.bind (tk x) fun p => M.bind (tk y) fun q => if isKey p = true then .pure (.v (.md [(p, q)])) else .no
    | _ => .no
  | .sub a i => M.bind (evO a) fun x => M.bind (evO i) fun y => M.bind (rdD x) fun p => M.bind (rdD y) fun q => .ofO ((item p q).map .d)
  | .slA a => M.bind (evO a) fun x => M.bind (rd x) fun m => .ofO (slice m none none)
  | .slF a lo => M.bind (evO a) fun x => M.bind (evO lo) fun l => M.bind (rdI l) fun i => M.bind (rd x) fun m => .ofO (slice m (some i) none)
  | .slT a hi => M.bind (evO a) fun x => M.bind (evO hi) fun l => M.bind (rdI l) fun i => M.bind (rd x) fun m => .ofO (slice m none (some i))
  | .slB a lo hi => M.bind (evO a) fun x => M.bind (evO lo) fun l => M.bind (rdI l) fun i => M.bind (evO hi) fun h => M.bind (rdI h) fun j => M.bind (rd x) fun m => .ofO (slice m (some i) (some j))
  | .rev a => M.bind (evO a) fun x => M.bind (rdD x) fun p => match p with
    | .list xs => .pure (.v (.ml xs.reverse))
    | _ => .no
  | .call f es => M.bind (evL es) fun os => own (C f) os
  | .cav i fs es => fun env => match env.at i with
    | some (.fn f) => if fs.contains f = true then M.bind (evL es) (fun os => own (C f) os) env else .no
    | _ => .no
  | .bi b es => M.bind (evL es) fun os => M.bind (rdAll os) fun ps => .ofO (builtin b ps)
  | .isi a ts => M.bind (evO a) fun x => M.bind (rd x) fun m => .ofO (m.tk.map fun k => .d (.bool (ts.any fun t => isTy t k)))
  | .src b s => M.bind (evS s) fun w => M.ofO (srcTo b w)
  | .mt m a es => M.bind (evO a) fun x => M.bind (rdD x) fun p0 => if isDct p0 = true then M.bind (evL es) (fun os => M.bind (tkAll os) fun ps => M.bind (rdD x) fun p => .ofO (meth m p ps)) else .no
  | .mu m i es => fun env => if isMl (env.at i) = true then M.bind (evL es) (fun os => M.bind (tkAll os) fun ps => fun env => match env.at i with
    | some mv => match mutm m mv ps with
      | some (xs, r) => .ok (.v (.d r)) (env.set i (some (.ml xs)))
      | none => .no
    | none => .no) env else .no
  | .comp e t s c => M.bind (evS s) fun w => fun env => if inN t.vars env = true then (match turns (fun x acc => M.bind (getE fun env => bindT t x (hide t.vars env)) fun _ => M.bind (evT c) fun k => match k with
      | true => M.bind (evO e) fun y => M.bind (tk y) fun p => if acc.length < line then .pure (acc ++ [p]) else .no
      | false => .pure acc) w [] env with
    | .ok acc env' => .ok (.v (.ml acc)) (unhide env t.vars env')
    | _ => .no) else .no
  | .comp2 e t s c t2 s2 c2 => M.bind (evS s) fun w => fun env => if inN (t.vars ++ t2.vars) env = true then (match turns (fun x acc => M.bind (getE fun env => bindT t x (hide (t.vars ++ t2.vars) env)) fun _ => M.bind (evT c) fun k => match k with
      | true => M.bind (evS s2) fun w2 => turns (fun x2 acc2 => M.bind (getE fun env => bindT t2 x2 (hide t2.vars env)) fun _ => M.bind (evT c2) fun k2 => match k2 with
        | true => M.bind (evO e) fun y => M.bind (tk y) fun p => if acc2.length < line then .pure (acc2 ++ [p]) else .no
        | false => .pure acc2) w2 acc
      | false => .pure acc) w [] env with
    | .ok acc env' => .ok (.v (.ml acc)) (unhide env (t.vars ++ t2.vars) env')
    | _ => .no) else .no
  | .att a k => M.bind (evO a) fun x => M.bind (rd x) fun m => match m with
    | .ex _ as => match as[k]? with
      | some p => .pure (.v (.d p))
      | none => .no
    | _ => .no
def evS : Src → M (List PyData)
  | .sq e => M.bind (evO e) walkK
  | .rng es => M.bind (evL es) fun os => M.bind (rdAll os) fun ps => .opt (rng ps)
  | .zip es => M.bind (evL es) fun os => match os with
    | [x, y] => M.bind (walkD x) fun a => M.bind (walkD y) fun b => .pure (zip2 a b)
    | _ => .no
  | .enm e => M.bind (evO e) fun x => M.bind (walk x) fun a => .pure (enumD a)
  | .items _ => .no
  | .vals _ => .no
def evL : EL → M (List O)
  | .nil => .pure []
  | .cons e es => M.bind (evO e) fun x => M.bind (evL es) fun xs => .pure (x :: xs)
  | .star e es => M.bind (evO e) fun x => M.bind (rdD x) fun p => match seqOf p with
    | some ps => M.bind (evL es) fun xs => .pure (ps.map (fun d => O.v (.d d)) ++ xs)
    | none => .no
end

inductive RS where
  | nx (env : Env)
  | br (env : Env)
  | ct (env : Env)
  | ret (m : MV) (env : Env)
  | exc (c : Nat) (as : List PyData) (env : Env)
  | no
def RS.of {α : Type} (r : R α) (f : α → Env → RS) : RS := match r with
  | .ok a e => f a e
  | .exc c as e => .exc c as e
  | .no => .no
/-- an operand's value, to be kept -/
def tkO : O → M MV
  | .v m => .pure m
  | .r i => tkA (.r i)
def tkOs : List O → M (List MV)
  | [] => .pure []
  | o :: os => M.bind (tkO o) fun m => M.bind (tkOs os) fun ms => .pure (m :: ms)
def setM (i : Nat) (m : MV) (env : Env) : RS := if i < env.length then .nx (env.set i (some m)) else .no
def setMs : List Nat → List MV → Env → RS
  | [], [], env => .nx env
  | i :: is, m :: ms, env => if i < env.length then setMs is ms (env.set i (some m)) else .no
  | _, _, _ => .no
def loop (t : Tg) (f : Env → RS) : List PyData → Env → RS
  | [], env => .nx env
  | x :: xs, env => match bindT t x env with
    | some e => match f e with
      | .nx e1 => loop t f xs e1
      | .ct e1 => loop t f xs e1
      | .br e1 => .nx e1
      | r => r
    | none => .no
def wloop (c : M Bool) (f : Env → RS) : Nat → Env → RS
  | 0, _ => .no
  | n + 1, env => match c env with
    | .ok true e => match f e with
      | .nx e1 => wloop c f n e1
      | .ct e1 => wloop c f n e1
      | .br e1 => .nx e1
      | r => r
    | .ok false e => .nx e
    | .exc k as e => .exc k as e
    | .no => .no
/-- many turns -/
def turnsMax : Nat := 1099511627776
mutual
def exS : S → Env → RS
  | .set i e, env => RS.of (M.bind (evO C e) tkO env) fun m e1 => setM i m e1
  | .par is es, env => RS.of (M.bind (evL C es) tkOs env) fun ms e1 => setMs is ms e1
  | .unp t e, env => RS.of (M.bind (evO C e) tk env) fun p e1 => match bindT t p e1 with
    | some e2 => .nx e2
    | none => .no
  | .ssb i k e, env => RS.of (M.bind (evO C e) (fun y => M.bind (evO C (.var i)) fun _ => M.bind (evO C k) fun x => M.bind (tk y) fun p => M.bind (tk x) fun q => .pure (q, p)) env) fun qp e1 => match e1.at i with
    | some m => match setIt m qp.1 qp.2 with
      | some m' => .nx (e1.set i (some m'))
      | none => .no
    | none => .no
  | .aug o i e, env => RS.of (M.bind (evO C (.var i)) (fun x => M.bind (evO C e) fun y => M.bind (rdD x) fun p => M.bind (rdD y) fun q => .opt (augI o p q)) env) fun n e1 => setM i (.d (.int n)) e1
  | .asb o i k e, env => RS.of (M.bind (evO C (.var i)) (fun x => M.bind (evO C k) fun y => M.bind (tk y) fun q => M.bind (rdD x) fun p => M.bind (.opt (itemM p q)) fun old => M.bind (evO C e) fun z => M.bind (rdD z) fun r => M.bind (.opt (augI o old r)) fun n => .pure (q, n)) env) fun qn e1 => match e1.at i with
    | some m => match setIt m qn.1 (.int qn.2) with
      | some m' => .nx (e1.set i (some m'))
      | none => .no
    | none => .no
  | .for t s b, env => RS.of (evS C s env) fun w e1 => loop t (exL b) w e1
  | .whl c b, env => wloop (evT C c) (exL b) turnsMax env
  | .iff c a b, env => RS.of (evT C c env) fun t e1 => match t with
    | true => exL a e1
    | false => exL b e1
  | .ret e, env => RS.of (evO C e env) fun o e1 => match o with
    | .v m => .ret m e1
    | .r i => match e1.at i with
      | some m => .ret m (e1.set i none)
      | none => .no
  | .ex e, env => RS.of (evO C e env) fun _ e1 => .nx e1
  | .ps, env => .nx env
  | .br, env => .br env
  | .ct, env => .ct env
  | .rs c es, env => RS.of (M.bind (evL C es) tkAll env) fun ps e1 => .exc c ps e1
  | .tr _ _, _ => .no
def exL : SL → Env → RS
  | .nil, env => .nx env
  | .cons s ss, env => match exS s env with
    | .nx e => exL ss e
    | r => r
end
def runDef (F : FDef) (args : List MV) : CR :=
  if args.length = F.np then
    let fin (m : MV) (e : Env) : CR := match F.io with
      | none => .ok m none
      | some j => match e.at j with
        | some m' => if m'.free = true then .ok m (some m') else .no
        | none => .no
    match exL C F.body (args.map some ++ List.replicate (F.ns - F.np) none) with
    | .nx e => fin (.d .none) e
    | .ret m e => fin m e
    | .exc c as e => match F.io with
      | none => .exc c as none
      | some j => match e.at j with
        | some m' => if m'.free = true then .exc c as (some m') else .no
        | none => .no
    | _ => .no
  else .no
end
/-- calls, n deep -/
def callF (G : Nat → Option FDef) : Nat → Nat → Callee
  | 0, _ => ⟨none, fun _ => .no⟩
  | n + 1, f => match G f with
    | some F => ⟨F.io, runDef (callF G n) F⟩
    | none => ⟨none, fun _ => .no⟩
end PD
end
section
set_option linter.all false
set_option maxRecDepth 100000
namespace PD
open PySem L2

def kP : Key → PyData
  | .inl i => .int i
  | .inr x => .str x

mutual
/-- v is the data d, its lists and dicts are written by nobody (Z) -/
inductive Fz (K : PySem.W.Frag) (Z : Addr → Prop) (H : Hp) : V → PyData → Prop
  | non : Fz K Z H .non .none
  | bl (b : Bool) : Fz K Z H (.bl b) (.bool b)
  | int (i : Int) : Fz K Z H (.int i) (.int i)
  | str (x : Str) : Fz K Z H (.str x) (.str x)
  | lst {a : Addr} {vs : List V} {ds : List PyData} : H a = some (.lst vs) → Z a → FzL K Z H vs ds → Fz K Z H (.ref a) (.list ds)
  | tup {a : Addr} {vs : List V} {ds : List PyData} : H a = some (.tup vs) → FzL K Z H vs ds → Fz K Z H (.ref a) (.tuple ds)
  | dK {a : Addr} {ks : List Key} {vs : List V} {ds : List PyData} : Rd H a (.dK (ks.zip vs)) → Z a → ks.length = vs.length → FzL K Z H vs ds → Fz K Z H (.ref a) (.dict ((ks.map kP).zip ds))
  | dT {a : Addr} {ks : List (List Key)} {vs : List V} {ds : List PyData} : Rd H a (.dT (ks.zip vs)) → Z a → ks.length = vs.length → FzL K Z H vs ds → Fz K Z H (.ref a) (.dict ((ks.map fun k => .tuple (k.map kP)).zip ds))
inductive FzL (K : PySem.W.Frag) (Z : Addr → Prop) (H : Hp) : List V → List PyData → Prop
  | nil : FzL K Z H [] []
  | cons {v : V} {vs : List V} {d : PyData} {ds : List PyData} : Fz K Z H v d → FzL K Z H vs ds → FzL K Z H (v :: vs) (d :: ds)
end

section
variable {K : PySem.W.Frag} {Z Z' : Addr → Prop} {H H' : Hp}
theorem FzL.length : ∀ {vs : List V} {ds : List PyData}, FzL K Z H vs ds → vs.length = ds.length
  | _, _, .nil => rfl
  | _, _, .cons _ t => congrArg (· + 1) (FzL.length t)
theorem FzL.get : ∀ {vs : List V} {ds : List PyData} {i : Nat} {v : V}, FzL K Z H vs ds → vs[i]? = some v → ∃ d, ds[i]? = some d ∧ Fz K Z H v d
  | _, _, _, _, .nil, e => by simp at e
  | _, _, 0, _, .cons r _, e => by simp at e; subst e; exact ⟨_, rfl, r⟩
  | _, _, i + 1, v, .cons _ t, e => by
    obtain ⟨d, h1, h2⟩ := FzL.get (i := i) (v := v) t (by simpa using e)
    exact ⟨d, by simpa using h1, h2⟩
theorem FzL.get' : ∀ {vs : List V} {ds : List PyData} {i : Nat} {d : PyData}, FzL K Z H vs ds → ds[i]? = some d → ∃ v, vs[i]? = some v ∧ Fz K Z H v d
  | _, _, _, _, .nil, e => by simp at e
  | _, _, 0, _, .cons r _, e => by simp at e; subst e; exact ⟨_, rfl, r⟩
  | _, _, i + 1, d, .cons _ t, e => by
    obtain ⟨v, h1, h2⟩ := FzL.get' (i := i) (d := d) t (by simpa using e)
    exact ⟨v, by simpa using h1, h2⟩
theorem FzL.append : ∀ {xs ys : List V} {ds es : List PyData}, FzL K Z H xs ds → FzL K Z H ys es → FzL K Z H (xs ++ ys) (ds ++ es)
  | _, _, _, _, .nil, s => s
  | _, _, _, _, .cons r t, s => .cons r (FzL.append t s)
theorem FzL.take : ∀ {xs : List V} {ds : List PyData} (n : Nat), FzL K Z H xs ds → FzL K Z H (xs.take n) (ds.take n)
  | _, _, 0, _ => by simp only [List.take_zero]; exact .nil
  | _, _, _ + 1, .nil => .nil
  | _, _, n + 1, .cons r t => .cons r (FzL.take n t)
theorem FzL.drop : ∀ {xs : List V} {ds : List PyData} (n : Nat), FzL K Z H xs ds → FzL K Z H (xs.drop n) (ds.drop n)
  | _, _, 0, r => r
  | _, _, _ + 1, .nil => .nil
  | _, _, n + 1, .cons _ t => FzL.drop n t
theorem FzL.set {v : V} {d : PyData} (r : Fz K Z H v d) : ∀ {xs : List V} {ds : List PyData} (i : Nat), FzL K Z H xs ds → FzL K Z H (xs.set i v) (ds.set i d)
  | _, _, _, .nil => .nil
  | _, _, 0, .cons _ t => .cons r t
  | _, _, i + 1, .cons q t => .cons q (FzL.set r i t)
theorem FzL.one {v : V} {d : PyData} (r : Fz K Z H v d) : FzL K Z H [v] [d] := .cons r .nil
theorem FzL.erase : ∀ {xs : List V} {ds : List PyData} (i : Nat), FzL K Z H xs ds → FzL K Z H (xs.eraseIdx i) (ds.eraseIdx i)
  | _, _, _, .nil => .nil
  | _, _, 0, .cons _ t => t
  | _, _, i + 1, .cons q t => .cons q (FzL.erase i t)
theorem FzL.flatten_rep {vs : List V} {ds : List PyData} (r : FzL K Z H vs ds) : ∀ n : Nat, FzL K Z H (List.replicate n vs).flatten (List.replicate n ds).flatten
  | 0 => .nil
  | n + 1 => by rw [List.replicate_succ, List.replicate_succ, List.flatten_cons, List.flatten_cons]; exact r.append (FzL.flatten_rep r n)
theorem FzL.reverse : ∀ {xs : List V} {ds : List PyData}, FzL K Z H xs ds → FzL K Z H xs.reverse ds.reverse
  | _, _, .nil => .nil
  | _, _, .cons q t => by rw [List.reverse_cons, List.reverse_cons]; exact (FzL.reverse t).append (.one q)
theorem FzL.mem' : ∀ {vs : List V} {ds : List PyData}, FzL K Z H vs ds → ∀ v ∈ vs, ∃ d ∈ ds, Fz K Z H v d
  | _, _, .nil, v, h => by cases h
  | _, _, .cons r t, v, h => by
    rcases List.mem_cons.mp h with rfl | h
    · exact ⟨_, List.mem_cons_self, r⟩
    · obtain ⟨d, h1, h2⟩ := FzL.mem' t v h
      exact ⟨d, List.mem_cons_of_mem _ h1, h2⟩
/-- a dict, not locked -/
def Dx (o : HO) : Prop := (∃ kvs, o = .dK kvs) ∨ ∃ kvs, o = .dT kvs
/-- as it was, or a dict that is locked now -/
def Go (H' : Hp) (a : Addr) (o : HO) : Prop := H' a = some o ∨ (Dx o ∧ ∃ od, H' a = some (.frz od o))
theorem Go.rd {a : Addr} {u : HO} (hd : Dx u) (h : Rd H a u) (g : ∀ o, H a = some o → Go H' a o) : Rd H' a u := by
  rcases h with h | ⟨od, h⟩
  · rcases g _ h with x | ⟨_, x⟩
    · exact .inl x
    · exact .inr x
  · rcases g _ h with x | ⟨x, _⟩
    · exact .inr ⟨od, x⟩
    · rcases x with ⟨_, x⟩ | ⟨_, x⟩ <;> cases x
mutual
/-- the heap may change where nothing of it stands -/
theorem Fz.goL (hz : ∀ a o, H a = some o → Z a → Go H' a o ∧ Z' a) (ht : ∀ a vs, H a = some (.tup vs) → H' a = some (.tup vs)) : ∀ {v : V} {d : PyData}, Fz K Z H v d → Fz K Z' H' v d
  | _, _, .non => .non
  | _, _, .bl b => .bl b
  | _, _, .int i => .int i
  | _, _, .str x => .str x
  | _, _, .lst h z r => .lst (by
      rcases (hz _ _ h z).1 with x | ⟨x, _⟩
      · exact x
      · rcases x with ⟨_, x⟩ | ⟨_, x⟩ <;> cases x) (hz _ _ h z).2 (FzL.goL hz ht r)
  | _, _, .tup h r => .tup (ht _ _ h) (FzL.goL hz ht r)
  | _, _, .dK h z l r => .dK (Go.rd (.inl ⟨_, rfl⟩) h fun o e => (hz _ o e z).1) (by
      rcases h with h | ⟨od, h⟩
      · exact (hz _ _ h z).2
      · exact (hz _ _ h z).2) l (FzL.goL hz ht r)
  | _, _, .dT h z l r => .dT (Go.rd (.inr ⟨_, rfl⟩) h fun o e => (hz _ o e z).1) (by
      rcases h with h | ⟨od, h⟩
      · exact (hz _ _ h z).2
      · exact (hz _ _ h z).2) l (FzL.goL hz ht r)
theorem FzL.goL (hz : ∀ a o, H a = some o → Z a → Go H' a o ∧ Z' a) (ht : ∀ a vs, H a = some (.tup vs) → H' a = some (.tup vs)) : ∀ {vs : List V} {ds : List PyData}, FzL K Z H vs ds → FzL K Z' H' vs ds
  | _, _, .nil => .nil
  | _, _, .cons r t => .cons (Fz.goL hz ht r) (FzL.goL hz ht t)
end
theorem Fz.go (hz : ∀ a o, H a = some o → Z a → H' a = some o ∧ Z' a) (ht : ∀ a vs, H a = some (.tup vs) → H' a = some (.tup vs)) {v : V} {d : PyData} (r : Fz K Z H v d) : Fz K Z' H' v d := Fz.goL (fun a o h z => ⟨.inl (hz a o h z).1, (hz a o h z).2⟩) ht r
theorem FzL.go (hz : ∀ a o, H a = some o → Z a → H' a = some o ∧ Z' a) (ht : ∀ a vs, H a = some (.tup vs) → H' a = some (.tup vs)) {vs : List V} {ds : List PyData} (r : FzL K Z H vs ds) : FzL K Z' H' vs ds := FzL.goL (fun a o h z => ⟨.inl (hz a o h z).1, (hz a o h z).2⟩) ht r
end

/-- where defs stand, which errors -/
structure Pl where
  fa : Nat → Addr
  exr : Nat → Value → Prop

/-- a dict at a -/
def DctAt (K : PySem.W.Frag) (Z : Addr → Prop) (H : Hp) (o : HO) (kvs : List (PyData × PyData)) : Prop :=
  (∃ (ks : List Key) (vs : List V) (ds : List PyData), o = .dK (ks.zip vs) ∧ ks.length = vs.length ∧ FzL K Z H vs ds ∧ kvs = (ks.map kP).zip ds) ∨
  (∃ (ks : List (List Key)) (vs : List V) (ds : List PyData), o = .dT (ks.zip vs) ∧ ks.length = vs.length ∧ FzL K Z H vs ds ∧ kvs = (ks.map fun k => .tuple (k.map kP)).zip ds)

/-- the script -/
def ScAt (K : PySem.W.Frag) (H : Hp) (a : Addr) (ns : List Int) : Prop := (∃ o, H a = some (.frz o (.lst (ns.map V.int)))) ∨
  ∃ (o : Obj) (its : Array Value) (n : Nat), K.lookup a = some o ∧ o.cls = .type "list" ∧ o.dict = none ∧ o.data = .seq its n ∧ its.size ≤ sizeLine ∧ Vals (ns.map V.int) its.toList
theorem ScAt.sq {K : PySem.W.Frag} {H : Hp} {a : Addr} {ns : List Int} (h : ScAt K H a ns) : SqL K H a (ns.map V.int) := by
  rcases h with ⟨o, h⟩ | h
  · exact .inl (.inr ⟨o, h⟩)
  · exact .inr h
theorem ScAt.go {K : PySem.W.Frag} {H H' : Hp} {a : Addr} {ns : List Int} (h2 : ∀ a o u, H a = some (.frz o u) → H' a = some (.frz o u)) (h : ScAt K H a ns) : ScAt K H' a ns := by
  rcases h with ⟨o, h⟩ | h
  · exact .inl ⟨o, h2 _ _ _ h⟩
  · exact .inr h
def Rp (K : PySem.W.Frag) (P : Pl) (Z : Addr → Prop) (H : Hp) (v : V) : MV → Prop
  | .d p => Fz K Z H v p
  | .ml xs => ∃ a vs, v = .ref a ∧ H a = some (.lst vs) ∧ FzL K Z H vs xs
  | .lk xs => ∃ a vs, v = .ref a ∧ H a = some (.lst vs) ∧ FzL K Z H vs xs
  | .md kvs => ∃ a o, v = .ref a ∧ H a = some o ∧ DctAt K Z H o kvs
  | .kd _ => ∃ a, v = .ref a ∧ H a = some (.dK [])
  | .fn f => v = .ref (P.fa f)
  | .kt xs => ∃ (a : Addr) (vs : List V), v = .ref a ∧ SqT K H a vs ∧ FzL K Z H vs xs
  | .sc xs => ∃ (a : Addr) (ns : List Int), v = .ref a ∧ ScAt K H a ns ∧ xs = ns.map PyData.int
  | .ex c as => False
  | .jk => True
  | .lkd od o => ∃ a, v = .ref a ∧ H a = some (.frz od o)

def MV.own : MV → Bool
  | .ml _ => true
  | .lk _ => true
  | .md _ => true
  | .kd _ => true
  | _ => false

theorem DctAt.goL {K : PySem.W.Frag} {Z Z' : Addr → Prop} {H H' : Hp} (hz : ∀ a o, H a = some o → Z a → Go H' a o ∧ Z' a) (ht : ∀ a vs, H a = some (.tup vs) → H' a = some (.tup vs)) {o : HO} {kvs : List (PyData × PyData)} (h : DctAt K Z H o kvs) : DctAt K Z' H' o kvs := by
  rcases h with ⟨ks, vs, ds, e, l, r, e2⟩ | ⟨ks, vs, ds, e, l, r, e2⟩
  · exact .inl ⟨ks, vs, ds, e, l, r.goL hz ht, e2⟩
  · exact .inr ⟨ks, vs, ds, e, l, r.goL hz ht, e2⟩
theorem DctAt.go {K : PySem.W.Frag} {Z Z' : Addr → Prop} {H H' : Hp} (hz : ∀ a o, H a = some o → Z a → H' a = some o ∧ Z' a) (ht : ∀ a vs, H a = some (.tup vs) → H' a = some (.tup vs)) {o : HO} {kvs : List (PyData × PyData)} (h : DctAt K Z H o kvs) : DctAt K Z' H' o kvs :=
  DctAt.goL (fun a o h z => ⟨.inl (hz a o h z).1, (hz a o h z).2⟩) ht h

/-- the cells: the names, then what is held while an expression runs -/
def cell (env : Env) (σ : St) (ts : List (V × O)) (p : Nat) : Option (V × MV) :=
  if p < env.length then (match env[p]?, σ[p]? with
    | some (some m), some (some v) => some (v, m)
    | _, _ => none)
  else match ts[p - env.length]? with
    | some (v, .v m) => some (v, m)
    | _ => none

structure Base where
  N0 : Addr → Prop
  H0 : Hp
  io : List (Nat × Addr)

def Base.ioA (B : Base) (a : Addr) : Prop := ∃ j, (j, a) ∈ B.io

abbrev Cells := Nat → Option (V × MV)
/-- a is the address of what the cell at p owns -/
def Rt (L : Cells) (p : Nat) (a : Addr) : Prop := ∃ m, L p = some (.ref a, m) ∧ m.own = true
def Zf (B : Base) (L : Cells) (a : Addr) : Prop := (∀ p, ¬ Rt L p a) ∧ ¬ B.N0 a

structure CS (K : PySem.W.Frag) (P : Pl) (B : Base) (L : Cells) (H : Hp) : Prop where
  rep : ∀ p v m, L p = some (v, m) → Rp K P (Zf B L) H v m
  inj : ∀ p q a, Rt L p a → Rt L q a → p = q
  out : ∀ p a, Rt L p a → ¬ B.N0 a ∧ (B.ioA a ∨ B.H0 a = none)
  dom : ∀ a, B.N0 a → ∃ o, H a = some o
  frm : ∀ a o, B.H0 a = some o → ¬ B.ioA a → H a = some o ∨ (¬ B.N0 a ∧ Dx o ∧ ∃ od, H a = some (.frz od o))

structure Sim (K : PySem.W.Frag) (P : Pl) (B : Base) (env : Env) (ts : List (V × O)) (σ : St) (H : Hp) : Prop where
  len : σ.length = env.length
  val : ∀ (i : Nat) (m : MV), env[i]? = some (some m) → ∃ v, σ[i]? = some (some v)
  ref : ∀ (v : V) (i : Nat), (v, O.r i) ∈ ts → σ[i]? = some (some v)
  cs : CS K P B (cell env σ ts) H
  ios : ∀ (j : Nat) (a : Addr), (j, a) ∈ B.io → σ[j]? = some (some (.ref a))

section
variable {K : PySem.W.Frag} {P : Pl} {B : Base} {Z Z' : Addr → Prop} {H H' : Hp} {L L' : Cells}

theorem SqT.go (h1 : ∀ a vs, H a = some (.tup vs) → H' a = some (.tup vs)) (h2 : ∀ a o u, H a = some (.frz o u) → H' a = some (.frz o u)) {a : Addr} {vs : List V} (h : SqT K H a vs) : SqT K H' a vs := by
  rcases h with (h | ⟨o, h⟩) | h
  · exact .inl (.inl (h1 _ _ h))
  · exact .inl (.inr ⟨o, h2 _ _ _ h⟩)
  · exact .inr h
theorem Rp.goL {v : V} {m : MV} (hz : ∀ a o, H a = some o → Z a → Go H' a o ∧ Z' a) (h1 : ∀ a vs, H a = some (.tup vs) → H' a = some (.tup vs)) (h2 : ∀ a o u, H a = some (.frz o u) → H' a = some (.frz o u))
    (hm : ∀ a o, v = .ref a → m.own = true → H a = some o → H' a = some o) (r : Rp K P Z H v m) : Rp K P Z' H' v m := by
  have ht := h1
  cases m with
  | d p => exact Fz.goL hz ht r
  | ml xs => obtain ⟨a, vs, e, h, q⟩ := r; exact ⟨a, vs, e, hm _ _ e rfl h, FzL.goL hz ht q⟩
  | lk xs => obtain ⟨a, vs, e, h, q⟩ := r; exact ⟨a, vs, e, hm _ _ e rfl h, FzL.goL hz ht q⟩
  | md xs => obtain ⟨a, o, e, h, q⟩ := r; exact ⟨a, o, e, hm _ _ e rfl h, DctAt.goL hz ht q⟩
  | kd xs => obtain ⟨a, e, h⟩ := r; exact ⟨a, e, hm _ _ e rfl h⟩
  | fn f => exact r
  | sc xs => obtain ⟨a, ns, e, h, q⟩ := r; exact ⟨a, ns, e, h.go h2, q⟩
  | kt xs => obtain ⟨a, vs, e, h, q⟩ := r; exact ⟨a, vs, e, SqT.go h1 h2 h, q.goL hz ht⟩
  | ex c as => exact r
  | jk => exact r
  | lkd od o => obtain ⟨a, e, h⟩ := r; exact ⟨a, e, h2 _ _ _ h⟩
theorem Rp.go {v : V} {m : MV} (hz : ∀ a o, H a = some o → Z a → H' a = some o ∧ Z' a) (h1 : ∀ a vs, H a = some (.tup vs) → H' a = some (.tup vs)) (h2 : ∀ a o u, H a = some (.frz o u) → H' a = some (.frz o u))
    (hm : ∀ a o, v = .ref a → m.own = true → H a = some o → H' a = some o) (r : Rp K P Z H v m) : Rp K P Z' H' v m := Rp.goL (fun a o h z => ⟨.inl (hz a o h z).1, (hz a o h z).2⟩) h1 h2 hm r

/-- what an owned cell's object is not -/
theorem Rp.root {v : V} {m : MV} (r : Rp K P Z H v m) (h : m.own = true) : ∃ a o, v = .ref a ∧ H a = some o ∧ ∀ vs, o ≠ .tup vs := by
  cases m with
  | ml xs => obtain ⟨a, vs, e, h, q⟩ := r; exact ⟨a, _, e, h, fun _ z => nomatch z⟩
  | lk xs => obtain ⟨a, vs, e, h, q⟩ := r; exact ⟨a, _, e, h, fun _ z => nomatch z⟩
  | md xs =>
    obtain ⟨a, o, e, h, q⟩ := r
    refine ⟨a, _, e, h, fun _ z => ?_⟩
    rcases q with ⟨_, _, _, e, _⟩ | ⟨_, _, _, e, _⟩ <;> (subst e; cases z)
  | kd xs => obtain ⟨a, e, h⟩ := r; exact ⟨a, _, e, h, fun _ z => nomatch z⟩
  | _ => cases h
theorem Rt.some (cs : CS K P B L H) {p : Nat} {a : Addr} (r : Rt L p a) : ∃ o, H a = some o ∧ ∀ vs, o ≠ .tup vs := by
  obtain ⟨m, e, ho⟩ := r
  obtain ⟨b, o, eb, h, n⟩ := (cs.rep p _ _ e).root ho
  cases eb
  exact ⟨o, h, n⟩

/-- as it was, or a dict that nobody owns is locked now -/
def GoB (B : Base) (L : Cells) (H' : Hp) (a : Addr) (o : HO) : Prop := H' a = some o ∨ (Dx o ∧ (∃ od, H' a = some (.frz od o)) ∧ (∀ p, ¬ Rt L p a) ∧ ¬ B.N0 a)
theorem GoB.go {a : Addr} {o : HO} (h : GoB B L H' a o) : Go H' a o := by
  rcases h with h | ⟨h, x, _⟩
  · exact .inl h
  · exact .inr ⟨h, x⟩
theorem Dx.tup {vs : List V} (h : Dx (.tup vs)) : False := by rcases h with ⟨_, h⟩ | ⟨_, h⟩ <;> cases h
theorem Dx.frz {od : Obj} {u : HO} (h : Dx (.frz od u)) : False := by rcases h with ⟨_, h⟩ | ⟨_, h⟩ <;> cases h
/-- THE STEP: the objects at C are changed, all of them owned; the cells are as they were or told anew; dicts that nobody owns may be locked -/
theorem CS.stepL (cs : CS K P B L H) (C : Addr → Prop) (h1 : ∀ a o, H a = some o → ¬ C a → GoB B L H' a o)
    (h2 : ∀ a, C a → (∃ p, Rt L p a) ∧ (∀ o u, H a ≠ some (.frz o u)) ∧ ∃ o, H' a = some o)
    (h3 : ∀ p v m, L' p = some (v, m) → (L p = some (v, m) ∧ ∀ a, Rt L p a → ¬ C a) ∨ Rp K P (Zf B L') H' v m)
    (h4 : ∀ p a, Rt L' p a → Rt L p a ∨ H a = none) (h5 : ∀ p q a, Rt L' p a → Rt L' q a → H a = none → p = q) : CS K P B L' H' := by
  have tup : ∀ a vs, H a = some (.tup vs) → H' a = some (.tup vs) := fun a vs h => by
    have nc : ¬ C a := fun c => by
      obtain ⟨⟨p, r⟩, _, _⟩ := h2 a c
      obtain ⟨o, e, n⟩ := Rt.some cs r
      rw [h] at e; cases e; exact n _ rfl
    rcases h1 a _ h nc with x | ⟨x, _⟩
    · exact x
    · exact x.tup.elim
  have frz : ∀ a o u, H a = some (.frz o u) → H' a = some (.frz o u) := fun a o u h => by
    rcases h1 a _ h (fun c => (h2 a c).2.1 _ _ h) with x | ⟨x, _⟩
    · exact x
    · exact x.frz.elim
  refine ⟨fun p v m e => ?_, fun p q a r r' => ?_, fun p a r => ?_, fun a n => ?_, fun a o h n => ?_⟩
  · rcases h3 p v m e with ⟨e', nc⟩ | r
    · refine (cs.rep p v m e').goL (fun a o h z => ⟨(h1 a o h fun c => ?_).go, fun q r => ?_, z.2⟩) tup frz fun a o ev ho h => ?_
      · obtain ⟨q, r⟩ := (h2 a c).1
        exact z.1 q r
      · rcases h4 q a r with r | r
        · exact z.1 q r
        · rw [h] at r; cases r
      · subst ev
        rcases h1 a o h (fun c => nc a ⟨m, e', ho⟩ c) with x | ⟨_, _, x, _⟩
        · exact x
        · exact absurd ⟨m, e', ho⟩ (x p)
    · exact r
  · rcases h4 p a r with x | x
    · rcases h4 q a r' with y | y
      · exact cs.inj p q a x y
      · obtain ⟨o, e, _⟩ := Rt.some cs x
        rw [y] at e; cases e
    · exact h5 p q a r r' x
  · rcases h4 p a r with x | x
    · exact cs.out p a x
    · refine ⟨fun n => ?_, ?_⟩
      · obtain ⟨o, e⟩ := cs.dom a n
        rw [x] at e; cases e
      · by_cases hi : B.ioA a
        · exact .inl hi
        · cases e : B.H0 a with
          | none => exact .inr rfl
          | some o =>
            rcases cs.frm a o e hi with this | ⟨_, _, od, this⟩ <;> (rw [x] at this; cases this)
  · obtain ⟨o, e⟩ := cs.dom a n
    by_cases c : C a
    · exact (h2 a c).2.2
    · rcases h1 a o e c with x | ⟨_, ⟨od, x⟩, _⟩
      · exact ⟨o, x⟩
      · exact ⟨_, x⟩
  · have nc : ¬ C a := fun c => by
      obtain ⟨p, r⟩ := (h2 a c).1
      rcases (cs.out p a r).2 with x | x
      · exact n x
      · rw [h] at x; cases x
    rcases cs.frm a o h n with e | ⟨nn, dx, od, e⟩
    · rcases h1 a o e nc with x | ⟨x, y, _, z⟩
      · exact .inl x
      · exact .inr ⟨z, x, y⟩
    · exact .inr ⟨nn, dx, od, frz a od o e⟩
theorem CS.step (cs : CS K P B L H) (C : Addr → Prop) (h1 : ∀ a o, H a = some o → ¬ C a → H' a = some o)
    (h2 : ∀ a, C a → (∃ p, Rt L p a) ∧ (∀ o u, H a ≠ some (.frz o u)) ∧ ∃ o, H' a = some o)
    (h3 : ∀ p v m, L' p = some (v, m) → (L p = some (v, m) ∧ ∀ a, Rt L p a → ¬ C a) ∨ Rp K P (Zf B L') H' v m)
    (h4 : ∀ p a, Rt L' p a → Rt L p a ∨ H a = none) (h5 : ∀ p q a, Rt L' p a → Rt L' q a → H a = none → p = q) : CS K P B L' H' :=
  cs.stepL C (fun a o e n => .inl (h1 a o e n)) h2 h3 h4 h5
/-- .. and some dicts are locked -/
theorem CS.growL (cs : CS K P B L H) (h : ∀ a o, H a = some o → GoB B L H' a o) : CS K P B L H' :=
  cs.stepL (fun _ => False) (fun a o e _ => h a o e) (fun _ c => c.elim) (fun _ _ _ e => .inl ⟨e, fun _ _ c => c⟩) (fun _ _ r => .inl r) fun p q a r r' _ => cs.inj p q a r r'
/-- the heap grows -/
theorem CS.grow (cs : CS K P B L H) (h : ∀ a o, H a = some o → H' a = some o) : CS K P B L H' :=
  cs.step (fun _ => False) (fun a o e _ => h a o e) (fun _ c => c.elim) (fun _ _ _ e => .inl ⟨e, fun _ _ c => c⟩) (fun _ _ r => .inl r) fun p q a r r' _ => cs.inj p q a r r'
theorem CS.weak (cs : CS K P B L H) (h : ∀ p c, L' p = some c → L p = some c) : CS K P B L' H :=
  cs.step (fun _ => False) (fun a o e _ => e) (fun _ c => c.elim) (fun _ _ _ e => .inl ⟨h _ _ e, fun _ _ c => c⟩) (fun _ _ ⟨m, e, o⟩ => .inl ⟨m, h _ _ e, o⟩) fun p q a ⟨m, e, o⟩ ⟨m', e', o'⟩ _ => cs.inj p q a ⟨m, h _ _ e, o⟩ ⟨m', h _ _ e', o'⟩
/-- the cells told by other places -/
theorem CS.remap (cs : CS K P B L H) (π : Nat → Nat) (h : ∀ p c, L' p = some c → L (π p) = some c) (hi : ∀ p q c c', L' p = some c → L' q = some c' → π p = π q → p = q) : CS K P B L' H := by
  have rt : ∀ p a, Rt L' p a → Rt L (π p) a := fun p a ⟨m, e, o⟩ => ⟨m, h _ _ e, o⟩
  refine ⟨fun p v m e => ?_, fun p q a r r' => ?_, fun p a r => cs.out _ _ (rt p a r), cs.dom, cs.frm⟩
  · exact (cs.rep _ v m (h p _ e)).go (fun a o x z => ⟨x, fun q r => z.1 _ (rt q a r), z.2⟩) (fun _ _ x => x) (fun _ _ _ x => x) fun _ _ _ _ x => x
  · have := cs.inj _ _ a (rt p a r) (rt q a r')
    obtain ⟨m, e, _⟩ := r
    obtain ⟨m', e', _⟩ := r'
    exact hi p q _ _ e e' this
end

/-! ### cells of names and of what is held -/
section
variable {env : Env} {σ : St} {ts : List (V × O)} {p : Nat}
theorem cell_lt (h : p < env.length) : cell env σ ts p = (match env[p]?, σ[p]? with
    | some (some m), some (some v) => some (v, m)
    | _, _ => none) := by unfold cell; rw [if_pos h]
theorem cell_ge (h : env.length ≤ p) : cell env σ ts p = (match ts[p - env.length]? with
    | some (v, .v m) => some (v, m)
    | _ => none) := by unfold cell; rw [if_neg (by omega)]
theorem cell_name {i : Nat} {m : MV} {v : V} (e : env[i]? = some (some m)) (s : σ[i]? = some (some v)) : cell env σ ts i = some (v, m) := by
  have h : i < env.length := (List.getElem?_eq_some_iff.mp e).1
  rw [cell_lt h, e, s]
theorem cell_name_inv {i : Nat} {c : V × MV} (h : i < env.length) (e : cell env σ ts i = some c) : env[i]? = some (some c.2) ∧ σ[i]? = some (some c.1) := by
  rw [cell_lt h] at e
  split at e
  · rename_i m v e1 e2
    cases e
    exact ⟨e1, e2⟩
  · cases e
theorem cell_held_inv {c : V × MV} (h : env.length ≤ p) (e : cell env σ ts p = some c) : ts[p - env.length]? = some (c.1, .v c.2) := by
  rw [cell_ge h] at e
  split at e
  · rename_i v m e1
    cases e
    exact e1
  · cases e
theorem cell_held {j : Nat} {v : V} {m : MV} (e : ts[j]? = some (v, .v m)) : cell env σ ts (env.length + j) = some (v, m) := by
  rw [cell_ge (by omega), show env.length + j - env.length = j by omega, e]
theorem at_some {i : Nat} {m : MV} (h : env.at i = some m) : env[i]? = some (some m) := by
  unfold Env.at at h
  split at h
  · rename_i o e; rw [e, h]
  · cases h
theorem at_of {i : Nat} {m : MV} (h : env[i]? = some (some m)) : env.at i = some m := by
  unfold Env.at; rw [h]
end

section
variable {K : PySem.W.Frag} {P : Pl} {B : Base} {env env' : Env} {ts ts' : List (V × O)} {σ σ' : St} {H H' : Hp}
theorem Sim.name (S : Sim K P B env ts σ H) {i : Nat} {m : MV} (h : env.at i = some m) : ∃ v, σ[i]? = some (some v) ∧ cell env σ ts i = some (v, m) ∧ Rp K P (Zf B (cell env σ ts)) H v m := by
  obtain ⟨v, e⟩ := S.val i m (at_some h)
  have c := cell_name (ts := ts) (at_some h) e
  exact ⟨v, e, c, S.cs.rep _ _ _ c⟩
theorem Sim.held (S : Sim K P B env ts σ H) {v : V} {m : MV} (h : (v, O.v m) ∈ ts) : Rp K P (Zf B (cell env σ ts)) H v m := by
  obtain ⟨j, e⟩ := List.getElem?_of_mem h
  exact S.cs.rep _ _ _ (cell_held e)
/-- less is held -/
theorem Sim.drop (S : Sim K P B env (ts ++ ts') σ H) : Sim K P B env ts σ H := by
  refine ⟨S.len, S.val, fun v i h => S.ref v i (List.mem_append_left _ h), S.cs.weak fun p c e => ?_, S.ios⟩
  by_cases hp : p < env.length
  · rw [cell_lt hp] at e ⊢; exact e
  · have e1 := cell_held_inv (by omega) e
    have hl : p - env.length < ts.length := (List.getElem?_eq_some_iff.mp e1).1
    rw [cell_ge (by omega), List.getElem?_append_left hl, e1]
theorem Sim.growL (S : Sim K P B env ts σ H) (h : ∀ a o, H a = some o → GoB B (cell env σ ts) H' a o) : Sim K P B env ts σ H' := ⟨S.len, S.val, S.ref, S.cs.growL h, S.ios⟩
theorem Sim.grow (S : Sim K P B env ts σ H) (h : ∀ a o, H a = some o → H' a = some o) : Sim K P B env ts σ H' := ⟨S.len, S.val, S.ref, S.cs.grow h, S.ios⟩
theorem grow_upd {a : Addr} {o : HO} (h : H a = none) : ∀ b u, H b = some u → upd H a o b = some u := fun b u e => by rw [upd_ne (ne_of_none e h)]; exact e
/-- a value more is held: data -/
theorem Sim.pushD (S : Sim K P B env ts σ H) {v : V} {p : PyData} (h : Fz K (Zf B (cell env σ ts)) H v p) : Sim K P B env (ts ++ [(v, .v (.d p))]) σ H := by
  have key : ∀ q c, cell env σ (ts ++ [(v, .v (.d p))]) q = some c → cell env σ ts q = some c ∨ c = (v, .d p) := fun q c e => by
    by_cases hp : q < env.length
    · rw [cell_lt hp] at e ⊢; exact .inl e
    · have e1 := cell_held_inv (by omega) e
      by_cases hl : q - env.length < ts.length
      · rw [List.getElem?_append_left hl] at e1
        left; rw [cell_ge (by omega), e1]
      · rw [List.getElem?_append_right (by omega)] at e1
        have : q - env.length - ts.length = 0 := by
          have := (List.getElem?_eq_some_iff.mp e1).1
          simpa using this
        rw [this] at e1
        simp at e1
        right; exact Prod.ext e1.1.symm e1.2.symm
  have rt : ∀ q a, Rt (cell env σ (ts ++ [(v, .v (.d p))])) q a → Rt (cell env σ ts) q a := fun q a ⟨m, e, o⟩ => by
    rcases key q _ e with x | x
    · exact ⟨m, x, o⟩
    · cases x; cases o
  refine ⟨S.len, S.val, fun w i h => ?_, S.cs.step (fun _ => False) (fun a o e _ => e) (fun _ c => c.elim) (fun q w m e => ?_) (fun q a r => .inl (rt q a r)) (fun q q' a r r' _ => S.cs.inj q q' a (rt q a r) (rt q' a r')), S.ios⟩
  · rcases List.mem_append.mp h with h | h
    · exact S.ref w i h
    · simp at h
  · rcases key q _ e with x | x
    · exact .inl ⟨x, fun _ _ c => c⟩
    · cases x
      exact .inr (Fz.go (fun a o x z => ⟨x, fun q r => z.1 q (rt q a r), z.2⟩) (fun _ _ x => x) h)
theorem Sim.pushR (S : Sim K P B env ts σ H) {v : V} {i : Nat} (h : σ[i]? = some (some v)) : Sim K P B env (ts ++ [(v, .r i)]) σ H := by
  refine ⟨S.len, S.val, fun w j h' => ?_, S.cs.weak fun p c e => ?_, S.ios⟩
  · rcases List.mem_append.mp h' with h' | h'
    · exact S.ref w j h'
    · simp at h'; obtain ⟨rfl, rfl⟩ := h'; exact h
  · by_cases hp : p < env.length
    · rw [cell_lt hp] at e ⊢; exact e
    · have e1 := cell_held_inv (by omega) e
      by_cases hl : p - env.length < ts.length
      · rw [List.getElem?_append_left hl] at e1
        rw [cell_ge (by omega), e1]
      · rw [List.getElem?_append_right (by omega)] at e1
        have : p - env.length - ts.length = 0 := by
          have := (List.getElem?_eq_some_iff.mp e1).1
          simpa using this
        rw [this] at e1
        simp at e1
/-- a new object that is held alone -/
theorem Sim.pushN (S : Sim K P B env ts σ H) {a : Addr} {m : MV} (ho : m.own = true) (hn : H a = none) (h1 : ∀ b o, H b = some o → H' b = some o) (h : Rp K P (Zf B (cell env σ (ts ++ [(.ref a, .v m)]))) H' (.ref a) m) :
    Sim K P B env (ts ++ [(.ref a, .v m)]) σ H' := by
  have key : ∀ q c, cell env σ (ts ++ [(.ref a, .v m)]) q = some c → cell env σ ts q = some c ∨ (c = (.ref a, m) ∧ q = env.length + ts.length) := fun q c e => by
    by_cases hp : q < env.length
    · rw [cell_lt hp] at e ⊢; exact .inl e
    · have e1 := cell_held_inv (by omega) e
      by_cases hl : q - env.length < ts.length
      · rw [List.getElem?_append_left hl] at e1
        left; rw [cell_ge (by omega), e1]
      · rw [List.getElem?_append_right (by omega)] at e1
        have : q - env.length - ts.length = 0 := by
          have := (List.getElem?_eq_some_iff.mp e1).1
          simpa using this
        rw [this] at e1
        simp at e1
        right; exact ⟨Prod.ext e1.1.symm e1.2.symm, by omega⟩
  refine ⟨S.len, S.val, fun w i h => ?_, S.cs.step (fun _ => False) (fun b o e _ => h1 b o e) (fun _ c => c.elim) (fun q w m' e => ?_) (fun q b r => ?_) (fun q q' b r r' nb => ?_), S.ios⟩
  · rcases List.mem_append.mp h with h | h
    · exact S.ref w i h
    · simp at h
  · rcases key q _ e with x | ⟨x, _⟩
    · exact .inl ⟨x, fun _ _ c => c⟩
    · cases x; exact .inr h
  · obtain ⟨m', e, o⟩ := r
    rcases key q _ e with x | ⟨x, _⟩
    · exact .inl ⟨m', x, o⟩
    · cases x; exact .inr hn
  · obtain ⟨m', e, o⟩ := r
    obtain ⟨m2, e', o'⟩ := r'
    rcases key q _ e with x | ⟨_, x⟩
    · obtain ⟨u, hu, _⟩ := Rt.some S.cs ⟨m', x, o⟩
      rw [nb] at hu; cases hu
    · rcases key q' _ e' with y | ⟨_, y⟩
      · obtain ⟨u, hu, _⟩ := Rt.some S.cs ⟨m2, y, o'⟩
        rw [nb] at hu; cases hu
      · omega
end
end PD
end
section
set_option linter.all false
set_option maxRecDepth 100000
namespace PD
open PySem L2

section
variable {K : PySem.W.Frag} {P : Pl} {B : Base} {env env' : Env} {ts ts' : List (V × O)} {σ σ' : St} {H H' : Hp}

/-- v reads as p -/
def Lk (K : PySem.W.Frag) (Z : Addr → Prop) (H : Hp) (v : V) (p : PyData) : Prop := match p with
  | .list ds => ∃ a vs, v = .ref a ∧ H a = some (.lst vs) ∧ FzL K Z H vs ds
  | .dict kvs => ∃ a o, v = .ref a ∧ Rd H a o ∧ DctAt K Z H o kvs
  | p => Fz K Z H v p
theorem Fz.lk {Z : Addr → Prop} {v : V} {p : PyData} (h : Fz K Z H v p) : Lk K Z H v p := by
  cases h with
  | non => exact .non
  | bl b => exact .bl b
  | int i => exact .int i
  | str x => exact .str x
  | lst h z r => exact ⟨_, _, rfl, h, r⟩
  | tup h r => exact .tup h r
  | dK h z l r => exact ⟨_, _, rfl, h, .inl ⟨_, _, _, rfl, l, r, rfl⟩⟩
  | dT h z l r => exact ⟨_, _, rfl, h, .inr ⟨_, _, _, rfl, l, r, rfl⟩⟩
theorem Rp.lk {Z : Addr → Prop} {v : V} {m : MV} {p : PyData} (h : Rp K P Z H v m) (e : m.look = some p) : Lk K Z H v p := by
  cases m with
  | d q => cases e; exact Fz.lk h
  | ml xs => cases e; exact h
  | lk xs => cases e; exact h
  | md xs => cases e; obtain ⟨a, o, e, h, q⟩ := h; exact ⟨a, o, e, .inl h, q⟩
  | _ => cases e

theorem rd_ok {o : O} {m : MV} (h : rd o env = .ok m env') : env' = env ∧ (o = .v m ∨ ∃ i, o = .r i ∧ env.at i = some m) := by
  cases o with
  | v m' => cases h; exact ⟨rfl, .inl rfl⟩
  | r i =>
    unfold rd at h
    dsimp only at h
    split at h
    · rename_i m' e; cases h; exact ⟨rfl, .inr ⟨i, rfl, e⟩⟩
    · cases h
theorem rd_exc {o : O} {c as} : rd o env ≠ .exc c as env' := by
  intro h
  cases o with
  | v m' => cases h
  | r i =>
    unfold rd at h
    dsimp only at h
    split at h <;> cases h
theorem bind_ok {α β : Type} {x : M α} {f : α → M β} {b : β} (h : M.bind x f env = .ok b env') : ∃ a e, x env = .ok a e ∧ f a e = .ok b env' := by
  unfold M.bind at h
  split at h
  · rename_i a e h1; exact ⟨a, e, h1, h⟩
  · cases h
  · cases h
theorem bind_exc {α β : Type} {x : M α} {f : α → M β} {c as} (h : M.bind x f env = .exc c as env') : x env = .exc c as env' ∨ ∃ a e, x env = .ok a e ∧ f a e = .exc c as env' := by
  unfold M.bind at h
  split at h
  · rename_i a e h1; exact .inr ⟨a, e, h1, h⟩
  · rename_i c' as' e' h1; cases h; exact .inl h1
  · cases h
theorem opt_ok {α : Type} {x : Option α} {a : α} (h : M.opt x env = .ok a env') : env' = env ∧ x = some a := by
  cases x with
  | none => cases h
  | some b => cases h; exact ⟨rfl, rfl⟩
theorem opt_exc {α : Type} {x : Option α} {c as} : M.opt x env ≠ .exc c as env' := by
  intro h; cases x <;> cases h
theorem rdD_ok {o : O} {p : PyData} (h : rdD o env = .ok p env') : env' = env ∧ ∃ m, m.look = some p ∧ (o = .v m ∨ ∃ i, o = .r i ∧ env.at i = some m) := by
  obtain ⟨m, e, h1, h2⟩ := bind_ok h
  obtain ⟨rfl, hm⟩ := rd_ok h1
  obtain ⟨rfl, hl⟩ := opt_ok h2
  exact ⟨rfl, m, hl, hm⟩
theorem rdD_exc {o : O} {c as} : rdD o env ≠ .exc c as env' := by
  intro h
  rcases bind_exc h with h | ⟨a, e, _, h⟩
  · exact rd_exc h
  · exact opt_exc h

/-- a held operand, read -/
theorem Sim.rd (S : Sim K P B env ts σ H) {v : V} {o : O} {m : MV} (hv : (v, o) ∈ ts) (h : PD.rd o env = .ok m env') : env' = env ∧ Rp K P (Zf B (cell env σ ts)) H v m := by
  obtain ⟨rfl, h⟩ := rd_ok h
  refine ⟨rfl, ?_⟩
  rcases h with rfl | ⟨i, rfl, e⟩
  · exact S.held hv
  · obtain ⟨w, e1, _, r⟩ := S.name e
    have := S.ref v i hv
    rw [e1] at this; cases this
    exact r
theorem Sim.rdD (S : Sim K P B env ts σ H) {v : V} {o : O} {p : PyData} (hv : (v, o) ∈ ts) (h : PD.rdD o env = .ok p env') : env' = env ∧ Lk K (Zf B (cell env σ ts)) H v p := by
  obtain ⟨m, e, h1, h2⟩ := bind_ok h
  obtain ⟨rfl, r⟩ := S.rd hv h1
  obtain ⟨rfl, hl⟩ := opt_ok h2
  exact ⟨rfl, r.lk hl⟩

/-! ### a cell's content told anew at the same place -/
theorem set_at {i j : Nat} {m : Option MV} : (env.set i m)[j]? = if i = j then (if i < env.length then some m else none) else env[j]? := by
  rw [List.getElem?_set]
/-- the cells behind a change of one name's value -/
theorem cell_set {i : Nat} {m : MV} {v : V} (hs : σ[i]? = some (some v)) (hi : i < env.length) (q : Nat) : cell (env.set i (some m)) σ ts q = if q = i then some (v, m) else cell env σ ts q := by
  by_cases hq : q < env.length
  · rw [cell_lt (by rw [List.length_set]; exact hq), cell_lt hq, set_at]
    by_cases e : q = i
    · subst e
      rw [if_pos rfl, if_pos hi, if_pos rfl, hs]
    · rw [if_neg (Ne.symm e), if_neg e]
  · rw [cell_ge (by rw [List.length_set]; omega), cell_ge (by omega), List.length_set, if_neg (by omega)]
theorem Sim.nameSet (S : Sim K P B env ts σ H) {i : Nat} {m m' : MV} {v : V} (e : env.at i = some m) (hv : σ[i]? = some (some v)) (C : Addr → Prop) (h1 : ∀ a o, H a = some o → ¬ C a → H' a = some o)
    (h2 : ∀ a, C a → v = .ref a ∧ m.own = true ∧ (∀ o u, H a ≠ some (.frz o u)) ∧ ∃ o, H' a = some o)
    (h3 : (∀ p a, Rt (cell (env.set i (some m')) σ ts) p a → Rt (cell env σ ts) p a) → Rp K P (Zf B (cell (env.set i (some m')) σ ts)) H' v m')
    (h4 : m'.own = true → m.own = true) : Sim K P B (env.set i (some m')) ts σ H' := by
  have hi : i < env.length := (List.getElem?_eq_some_iff.mp (at_some e)).1
  have cs := cell_set (ts := ts) (m := m') hv hi
  have c0 : cell env σ ts i = some (v, m) := cell_name (at_some e) hv
  have rt : ∀ p a, Rt (cell (env.set i (some m')) σ ts) p a → Rt (cell env σ ts) p a := fun p a ⟨k, ek, ok⟩ => by
    rw [cs] at ek
    by_cases hp : p = i
    · subst hp
      rw [if_pos rfl] at ek
      cases ek
      exact ⟨m, c0, h4 ok⟩
    · rw [if_neg hp] at ek
      exact ⟨k, ek, ok⟩
  refine ⟨by rw [List.length_set]; exact S.len, fun j k ej => ?_, S.ref, S.cs.step C h1 (fun a c => ?_) (fun p w k ek => ?_) (fun p a r => .inl (rt p a r)) (fun p q a r r' _ => S.cs.inj p q a (rt p a r) (rt q a r')), S.ios⟩
  · rw [set_at] at ej
    by_cases hj : i = j
    · subst hj; exact ⟨v, hv⟩
    · rw [if_neg hj] at ej; exact S.val j k ej
  · obtain ⟨ev, ho, hf, ho'⟩ := h2 a c
    subst ev
    exact ⟨⟨i, m, c0, ho⟩, hf, ho'⟩
  · rw [cs] at ek
    by_cases hp : p = i
    · subst hp
      rw [if_pos rfl] at ek
      cases ek
      exact .inr (h3 rt)
    · rw [if_neg hp] at ek
      refine .inl ⟨ek, fun a r c => ?_⟩
      obtain ⟨ev, ho, _⟩ := h2 a c
      subst ev
      exact hp (S.cs.inj p i a r ⟨m, c0, ho⟩)
theorem Zf.less {L L' : Cells} (h : ∀ p a, Rt L' p a → Rt L p a) {a : Addr} (z : Zf B L a) : Zf B L' a := ⟨fun p r => z.1 p (h p a r), z.2⟩
theorem FzL.less {L L' : Cells} (h : ∀ p a, Rt L' p a → Rt L p a) {vs ds} (r : FzL K (Zf B L) H vs ds) : FzL K (Zf B L') H vs ds := FzL.go (fun a o x z => ⟨x, Zf.less h z⟩) (fun _ _ x => x) r
theorem DctAt.less {L L' : Cells} (h : ∀ p a, Rt L' p a → Rt L p a) {o ds} (r : DctAt K (Zf B L) H o ds) : DctAt K (Zf B L') H o ds := DctAt.go (fun a o x z => ⟨x, Zf.less h z⟩) (fun _ _ x => x) r
theorem DctAt.fz {Z : Addr → Prop} {a : Addr} {o : HO} {kvs} (h : Rd H a o) (z : Z a) (r : DctAt K Z H o kvs) : Fz K Z H (.ref a) (.dict kvs) := by
  rcases r with ⟨ks, vs, ds, rfl, l, r, rfl⟩ | ⟨ks, vs, ds, rfl, l, r, rfl⟩
  · exact .dK h z l r
  · exact .dT h z l r
/-- an owned value is owned no more -/
theorem Rp.fzOf {L L' : Cells} (cs : CS K P B L H) {p : Nat} {v : V} {m : MV} {q : PyData} (e : L p = some (v, m)) (h : ∀ p a, Rt L' p a → Rt L p a) (hp : ∀ a, ¬ Rt L' p a) (hd : m.dat = some q) : Fz K (Zf B L') H v q := by
  have r := cs.rep p v m e
  have zz : ∀ a, v = .ref a → m.own = true → Zf B L' a := fun a ev ho => by
    subst ev
    refine ⟨fun k rk => ?_, (cs.out p a ⟨m, e, ho⟩).1⟩
    have := cs.inj k p a (h k a rk) ⟨m, e, ho⟩
    subst this
    exact hp a rk
  cases m with
  | d q' => cases hd; exact Fz.go (fun a o x z => ⟨x, Zf.less h z⟩) (fun _ _ x => x) r
  | ml xs => cases hd; obtain ⟨a, vs, ev, hh, rr⟩ := r; subst ev; exact .lst hh (zz a rfl rfl) (rr.less h)
  | md xs => cases hd; obtain ⟨a, o, ev, hh, rr⟩ := r; subst ev; exact (rr.less h).fz (.inl hh) (zz a rfl rfl)
  | _ => cases hd
theorem dat_own {m : MV} {q : PyData} (h : m.dat = some q) : ∀ p : PyData, (MV.d p).own = true → m.own = true := fun p z => nomatch z
/-- a name's value becomes data -/
theorem Sim.freeze (S : Sim K P B env ts σ H) {i : Nat} {m : MV} {q : PyData} (e : env.at i = some m) (hd : m.dat = some q) : Sim K P B (env.set i (some (.d q))) ts σ H := by
  obtain ⟨v, hv, c0, r⟩ := S.name e
  refine S.nameSet e hv (fun _ => False) (fun a o x _ => x) (fun a c => c.elim) (fun h => ?_) (fun z => nomatch z)
  refine Rp.fzOf S.cs c0 h (fun a r => ?_) hd
  obtain ⟨m', e', o'⟩ := r
  rw [cell_set hv (List.getElem?_eq_some_iff.mp (at_some e)).1, if_pos rfl] at e'
  cases e'; cases o'
/-- .. held -/
theorem cell_rep {v w : V} {o o' : O} (q : Nat) : cell env σ (ts ++ (v, o') :: ts') q = if q = env.length + ts.length then (match o' with
    | .v m => some (v, m)
    | _ => none) else cell env σ (ts ++ (w, o) :: ts') q := by
  by_cases hq : q < env.length
  · rw [cell_lt hq, cell_lt hq, if_neg (by omega)]
  · rw [cell_ge (by omega), cell_ge (by omega)]
    by_cases hl : q - env.length < ts.length
    · rw [List.getElem?_append_left hl, List.getElem?_append_left hl, if_neg (by omega)]
    · rw [List.getElem?_append_right (by omega), List.getElem?_append_right (by omega)]
      by_cases e : q = env.length + ts.length
      · rw [if_pos e, show q - env.length - ts.length = 0 by omega]
        cases o' <;> rfl
      · rw [if_neg e]
        obtain ⟨k, hk⟩ : ∃ k, q - env.length - ts.length = k + 1 := ⟨q - env.length - ts.length - 1, by omega⟩
        rw [hk]
        rfl
theorem Sim.freezeT (S : Sim K P B env (ts ++ (v, .v m) :: ts') σ H) {q : PyData} (hd : m.dat = some q) : Sim K P B env (ts ++ (v, .v (.d q)) :: ts') σ H := by
  have key := cell_rep (env := env) (σ := σ) (ts := ts) (ts' := ts') (v := v) (w := v) (o := .v m) (o' := .v (.d q))
  have c0 : cell env σ (ts ++ (v, .v m) :: ts') (env.length + ts.length) = some (v, m) := cell_held (by rw [List.getElem?_append_right (Nat.le_refl _), Nat.sub_self]; rfl)
  have rt : ∀ p a, Rt (cell env σ (ts ++ (v, .v (.d q)) :: ts')) p a → Rt (cell env σ (ts ++ (v, .v m) :: ts')) p a := fun p a ⟨k, ek, ok⟩ => by
    rw [key] at ek
    by_cases hp : p = env.length + ts.length
    · rw [if_pos hp] at ek; cases ek; cases ok
    · rw [if_neg hp] at ek; exact ⟨k, ek, ok⟩
  refine ⟨S.len, S.val, fun w i h => S.ref w i ?_, S.cs.step (fun _ => False) (fun a o x _ => x) (fun a c => c.elim) (fun p w k ek => ?_) (fun p a r => .inl (rt p a r)) (fun p p' a r r' _ => S.cs.inj p p' a (rt p a r) (rt p' a r')), S.ios⟩
  · rcases List.mem_append.mp h with h | h
    · exact List.mem_append_left _ h
    · rcases List.mem_cons.mp h with h | h
      · cases h
      · exact List.mem_append_right _ (List.mem_cons_of_mem _ h)
  · have ek0 := ek
    rw [key] at ek
    by_cases hp : p = env.length + ts.length
    · rw [if_pos hp] at ek
      cases ek
      subst hp
      refine .inr (Rp.fzOf S.cs c0 rt (fun a ⟨m', e', o'⟩ => ?_) hd)
      rw [key, if_pos rfl] at e'
      cases e'; cases o'
    · rw [if_neg hp] at ek
      exact .inl ⟨ek, fun _ _ c => c⟩
/-- a ref that is held becomes data -/
theorem Sim.refT (S : Sim K P B env (ts ++ (v, .r i) :: ts') σ H) {q : PyData} (e : env.at i = some (.d q)) : Sim K P B env (ts ++ (v, .v (.d q)) :: ts') σ H := by
  have key := cell_rep (env := env) (σ := σ) (ts := ts) (ts' := ts') (v := v) (w := v) (o := .r i) (o' := .v (.d q))
  obtain ⟨w, hw, c0, r⟩ := S.name e
  have hvw : σ[i]? = some (some v) := S.ref v i (List.mem_append_right _ List.mem_cons_self)
  rw [hw] at hvw; cases hvw
  have rt : ∀ p a, Rt (cell env σ (ts ++ (v, .v (.d q)) :: ts')) p a → Rt (cell env σ (ts ++ (v, .r i) :: ts')) p a := fun p a ⟨k, ek, ok⟩ => by
    rw [key] at ek
    by_cases hp : p = env.length + ts.length
    · rw [if_pos hp] at ek; cases ek; cases ok
    · rw [if_neg hp] at ek; exact ⟨k, ek, ok⟩
  refine ⟨S.len, S.val, fun w i h => S.ref w i ?_, S.cs.step (fun _ => False) (fun a o x _ => x) (fun a c => c.elim) (fun p w k ek => ?_) (fun p a r => .inl (rt p a r)) (fun p p' a r r' _ => S.cs.inj p p' a (rt p a r) (rt p' a r')), S.ios⟩
  · rcases List.mem_append.mp h with h | h
    · exact List.mem_append_left _ h
    · rcases List.mem_cons.mp h with h | h
      · cases h
      · exact List.mem_append_right _ (List.mem_cons_of_mem _ h)
  · rw [key] at ek
    by_cases hp : p = env.length + ts.length
    · rw [if_pos hp] at ek
      cases ek
      exact .inr (Fz.go (fun a o x z => ⟨x, Zf.less rt z⟩) (fun _ _ x => x) r)
    · rw [if_neg hp] at ek
      exact .inl ⟨ek, fun _ _ c => c⟩
theorem tk_ok {o : O} {p : PyData} (h : tk o env = .ok p env') : (∃ m, o = .v m ∧ m.dat = some p ∧ env' = env) ∨ ∃ i m, o = .r i ∧ env.at i = some m ∧ m.dat = some p ∧ env' = env.set i (some (.d p)) := by
  cases o with
  | v m =>
    unfold tk at h; dsimp only at h
    split at h
    · rename_i q e; cases h; exact .inl ⟨m, rfl, e, rfl⟩
    · cases h
  | r i =>
    unfold tk at h; dsimp only at h
    split at h
    · rename_i m e
      split at h
      · rename_i q e2; cases h; exact .inr ⟨i, m, rfl, e, e2, rfl⟩
      · cases h
    · cases h
theorem tk_exc {o : O} {c as} : tk o env ≠ .exc c as env' := by
  intro h
  cases o with
  | v m => unfold tk at h; dsimp only at h; split at h <;> cases h
  | r i =>
    unfold tk at h; dsimp only at h
    split at h
    · split at h <;> cases h
    · cases h
/-- a held operand is taken -/
theorem Sim.tk {v : V} {o : O} {p : PyData} (S : Sim K P B env (ts ++ (v, o) :: ts') σ H) (h : PD.tk o env = .ok p env') : Sim K P B env' (ts ++ (v, .v (.d p)) :: ts') σ H := by
  rcases tk_ok h with ⟨m, rfl, hd, rfl⟩ | ⟨i, m, rfl, e, hd, rfl⟩
  · exact S.freezeT hd
  · have S1 := S.freeze e hd
    refine S1.refT (i := i) ?_
    have hi := (List.getElem?_eq_some_iff.mp (at_some e)).1
    exact at_of (by rw [set_at, if_pos rfl, if_pos hi])
theorem tkAll_ok : ∀ {os : List O} {ps : List PyData} {env env' : Env}, PD.tkAll os env = .ok ps env' → ps.length = os.length
  | [], ps, _, _, h => by cases h; rfl
  | o :: os, ps, _, _, h => by
    obtain ⟨p, e, h1, h2⟩ := bind_ok h
    obtain ⟨qs, e2, h3, h4⟩ := bind_ok h2
    cases h4
    simp [tkAll_ok h3]
theorem tkAll_exc : ∀ {os : List O} {c as} {env env' : Env}, PD.tkAll os env ≠ .exc c as env'
  | [], c, as, _, _, h => by cases h
  | o :: os, c, as, _, _, h => by
    rcases bind_exc h with h | ⟨p, e, h1, h2⟩
    · exact tk_exc h
    · rcases bind_exc h2 with h | ⟨qs, e2, h3, h4⟩
      · exact tkAll_exc h
      · cases h4
def hld (vs : List V) (ps : List PyData) : List (V × O) := vs.zip (ps.map fun p => O.v (.d p))
theorem Sim.tkAll : ∀ {os : List O} {vs : List V} {ps : List PyData} {env env' : Env} {ts : List (V × O)}, vs.length = os.length → Sim K P B env (ts ++ vs.zip os ++ ts') σ H → PD.tkAll os env = .ok ps env' → Sim K P B env' (ts ++ hld vs ps ++ ts') σ H
  | [], [], _, _, _, _, _, S, h => by cases h; exact S
  | o :: os, v :: vs, ps, env, env', ts, hl, S, h => by
    obtain ⟨p, e, h1, h2⟩ := bind_ok h
    obtain ⟨qs, e2, h3, h4⟩ := bind_ok h2
    cases h4
    have S1 : Sim K P B env (ts ++ (v, o) :: (vs.zip os ++ ts')) σ H := by simpa using S
    have S2 := S1.tk h1
    have S3 : Sim K P B e ((ts ++ [(v, .v (.d p))]) ++ vs.zip os ++ ts') σ H := by simpa using S2
    have S4 := Sim.tkAll (os := os) (vs := vs) (by simpa using hl) S3 h3
    simpa [hld] using S4
theorem Sim.heldL : ∀ {vs : List V} {ps : List PyData}, vs.length = ps.length → (∀ x ∈ hld vs ps, x ∈ ts) → Sim K P B env ts σ H → FzL K (Zf B (cell env σ ts)) H vs ps
  | [], [], _, _, _ => .nil
  | v :: vs, p :: ps, hl, hm, S => .cons (S.held (m := .d p) (hm _ (by simp [hld]))) (Sim.heldL (by simpa using hl) (fun x hx => hm x (by simp only [hld, List.map_cons, List.zip_cons_cons]; exact List.mem_cons_of_mem _ hx)) S)
theorem rdAll_ok : ∀ {os : List O} {ps : List PyData} {env env' : Env}, PD.rdAll os env = .ok ps env' → env' = env ∧ ps.length = os.length
  | [], ps, _, _, h => by cases h; exact ⟨rfl, rfl⟩
  | o :: os, ps, _, _, h => by
    obtain ⟨p, e, h1, h2⟩ := bind_ok h
    obtain ⟨rfl, _⟩ := rdD_ok h1
    obtain ⟨qs, e2, h3, h4⟩ := bind_ok h2
    cases h4
    obtain ⟨rfl, hl⟩ := rdAll_ok h3
    exact ⟨rfl, by simp [hl]⟩
theorem rdAll_exc : ∀ {os : List O} {c as} {env env' : Env}, PD.rdAll os env ≠ .exc c as env'
  | [], c, as, _, _, h => by cases h
  | o :: os, c, as, _, _, h => by
    rcases bind_exc h with h | ⟨p, e, h1, h2⟩
    · exact rdD_exc h
    · rcases bind_exc h2 with h | ⟨qs, e2, h3, h4⟩
      · exact rdAll_exc h
      · cases h4
/-- all read -/
inductive LkL (K : PySem.W.Frag) (Z : Addr → Prop) (H : Hp) : List V → List PyData → Prop
  | nil : LkL K Z H [] []
  | cons {v : V} {vs : List V} {d : PyData} {ds : List PyData} : Lk K Z H v d → LkL K Z H vs ds → LkL K Z H (v :: vs) (d :: ds)
theorem rdAllS : ∀ {os : List O} {vs : List V} {ps : List PyData} {env' : Env}, Sim K P B env ts σ H → vs.length = os.length → (∀ x ∈ vs.zip os, x ∈ ts) → PD.rdAll os env = .ok ps env' → LkL K (Zf B (cell env σ ts)) H vs ps
  | [], [], _, _, _, _, _, h => by cases h; exact .nil
  | o :: os, v :: vs, ps, env', S, hl, hm, h => by
    obtain ⟨p, e, h1, h2⟩ := bind_ok h
    obtain ⟨he, r⟩ := S.rdD (v := v) (hm _ (by simp)) h1
    rw [he] at h2
    obtain ⟨qs, e2, h3, h4⟩ := bind_ok h2
    cases h4
    exact .cons r (rdAllS (os := os) (vs := vs) S (by simpa using hl) (fun x hx => hm x (by rw [List.zip_cons_cons]; exact List.mem_cons_of_mem _ hx)) h3)
end
end PD
end
section
set_option linter.all false
set_option maxRecDepth 100000
set_option maxHeartbeats 4000000
namespace PD
open PySem PySem.Spec PyProof.Rows L2
theorem tuple_mul1 (l : Addr) (items : Array Value) (n : Nat) (dd : Option Addr) (sl : Array (Option Value)) (x : Int) (u : Tok) (c0 : (decide (x < -(2 ^ 63)) || decide (x ≥ 2 ^ 63)) = false) (c1 : (items.isEmpty || x == 1) = true) :
    Meets (Builtin.«tuple.__mul__» ⟨[.ref l, .int x u], []⟩) (fun _ R s => s.heap.get? l = some { cls := .type "tuple", dict := dd, data := .seq items n, slots := sl } ∧
      R (.ok (.ret (Value.ref l))) s) :=
  .of_wp fun prog w A R s h => by
    obtain ⟨hp, g, d, tk, os⟩ := s
    obtain ⟨hl, h⟩ := h
    have f1 := AutoSeq1.idx_int
    wp_walk using wpAny_loadPart' hl
    repeat (first
      | (refine wpAny_ite_false (decide_eq_false (by rw [c0]; exact Bool.false_ne_true)) ?_; wp_walk using wpAny_loadPart' hl)
      | (refine wpAny_ite_true (decide_eq_true c1) ?_; wp_walk using wpAny_loadPart' hl))
    exact ⟨_, rfl, h⟩
theorem tuple_mul0 (l : Addr) (items : Array Value) (n : Nat) (dd : Option Addr) (sl : Array (Option Value)) (x : Int) (u : Tok) (c0 : (decide (x < -(2 ^ 63)) || decide (x ≥ 2 ^ 63)) = false) (c1 : (items.isEmpty || x == 1) = false) (c2 : (decide (x ≤ 0) || items.isEmpty) = true) :
    Meets (Builtin.«tuple.__mul__» ⟨[.ref l, .int x u], []⟩) (fun _ R s => s.heap.get? l = some { cls := .type "tuple", dict := dd, data := .seq items n, slots := sl } ∧
      R (.ok (.ret (Value.ref s.heap.objs.size))) { s with heap := s.heap.push { cls := Value.type "tuple", data := Data.seq #[] }, toks := s.toks }) :=
  .of_wp fun prog w A R s h => by
    obtain ⟨hp, g, d, tk, os⟩ := s
    obtain ⟨hl, h⟩ := h
    have f1 := AutoSeq1.idx_int
    wp_walk using wpAny_loadPart' hl
    repeat (first
      | (refine wpAny_ite_false (decide_eq_false (by rw [c0]; exact Bool.false_ne_true)) ?_; wp_walk using wpAny_loadPart' hl)
      | (refine wpAny_ite_false (decide_eq_false (by rw [c1]; exact Bool.false_ne_true)) ?_; wp_walk using wpAny_loadPart' hl)
      | (refine wpAny_ite_true (decide_eq_true c2) ?_; wp_walk using wpAny_loadPart' hl))
    exact ⟨_, rfl, h⟩

/-- t * k, any -/
def rRepA (K : PySem.W.Frag) : R2 := fun x y H Q => ∃ l k xs, x = .ref l ∧ y = .int k ∧ SqT K H l xs ∧ -(2 ^ 63) ≤ k ∧ k < 2 ^ 63 ∧ xs.length * k.toNat ≤ sizeLine ∧ (xs = [] ∨ k = 1 → Q (.ref l) H) ∧
  (¬ (xs = [] ∨ k = 1) → ∀ p, H p = none → Q (.ref p) (upd H p (.tup (List.replicate k.toNat xs).flatten)))
theorem op_repA {X : Cx} : OpR X (binaryOp .Mult) (rRepA X.K) := by
  intro pins s σ H x y v u Q I rx ry h
  obtain ⟨l, k, xs, rfl, rfl, hT, h1, h2, hz, q1, q2⟩ := h
  cases rx
  obtain ⟨t, rfl⟩ := ry
  obtain ⟨its, r, ⟨⟨cls, dd, data, sl⟩, ho, hc, n, hd⟩, hs⟩ := I.tuple hT
  simp only at hc hd
  subst hc hd
  have hle : its.length = xs.length := r.length.symm
  have c0 : (decide (k < -(2 ^ 63)) || decide (k ≥ 2 ^ 63)) = false := by
    rw [decide_eq_false (by omega), decide_eq_false (by omega)] <;> rfl
  have he : its.toArray.isEmpty = decide (xs = []) := by
    cases its with
    | nil => cases xs with
      | nil => rfl
      | cons a b => simp at hle
    | cons a b => cases xs with
      | nil => simp at hle
      | cons a b => simp
  by_cases hw : xs = [] ∨ k = 1
  · have c1 : (its.toArray.isEmpty || k == 1) = true := by
      rw [he]
      rcases hw with hw | hw
      · simp [hw]
      · simp [hw]
    refine wpAny_binaryOp_repeat_ref (T := "tuple") (U := "int") (by decide) ⟨_, ho, rfl⟩ (fun s' => typeIs_int s' k t) noFill_tuple_mul F.fills_int_mul F.slot_int_rmul repeat_tuple F.slot_int_index.lookup
      (call_meets F.slot_int_rmul (typeIs_int s k t) F.entry_int_rmul (F.args_int_rmul_2 _ _) (int_rmul_tuple k t l its.toArray n dd sl)
        ⟨ho, rfl, ⟨_, ho, rfl⟩, call_meets F.slot_tuple_mul ⟨_, ho, rfl⟩ F.entry_tuple_mul (F.args_tuple_mul_2 _ _) (tuple_mul1 l its.toArray n dd sl k t c0 c1) ⟨ho, ?_⟩⟩)
    exact ⟨.ref l, H, I, rfl, q1 hw⟩
  · have q2 := q2 hw
    have hne : xs ≠ [] := fun e => hw (.inl e)
    have hk1 : k ≠ 1 := fun e => hw (.inr e)
    have hi : its.toArray.isEmpty = false := by rw [he]; exact decide_eq_false hne
    have c1 : (its.toArray.isEmpty || k == 1) = false := by
      rw [hi, Bool.false_or]
      exact beq_eq_false_iff_ne.mpr hk1
    by_cases hk : k ≤ 0
    · have c2 : (decide (k ≤ 0) || its.toArray.isEmpty) = true := by rw [decide_eq_true hk]; rfl
      refine wpAny_binaryOp_repeat_ref (T := "tuple") (U := "int") (by decide) ⟨_, ho, rfl⟩ (fun s' => typeIs_int s' k t) noFill_tuple_mul F.fills_int_mul F.slot_int_rmul repeat_tuple F.slot_int_index.lookup
        (call_meets F.slot_int_rmul (typeIs_int s k t) F.entry_int_rmul (F.args_int_rmul_2 _ _) (int_rmul_tuple k t l its.toArray n dd sl)
          ⟨ho, rfl, ⟨_, ho, rfl⟩, call_meets F.slot_tuple_mul ⟨_, ho, rfl⟩ F.entry_tuple_mul (F.args_tuple_mul_2 _ _) (tuple_mul0 l its.toArray n dd sl k t c0 c1 c2) ⟨ho, ?_⟩⟩)
      have e0 : k.toNat = 0 := by omega
      rw [e0] at q2
      refine ⟨.ref s.heap.objs.size, _, I.laid (t' := s.toks) (o := .tup []) (fun b ob q => Heap.get?_push_of_some _ q) (Nat.le_refl _) ?_, rfl, q2 _ (I.hok.fresh (Nat.le_refl _))⟩
      exact ⟨Nat.zero_le _, [], .nil, IsTup.new _ _⟩
    · have hsz0 : its.toArray.size = xs.length := by rw [List.size_toArray, hle]
      have hkn : ((k.toNat : Nat) : Int) = k := by omega
      have hm : ((its.toArray.size : Nat) : Int) * k ≤ 16777216 := by
        rw [hsz0, ← hkn]
        rw [sizeLine_eq] at hz
        have : (((xs.length * k.toNat : Nat)) : Int) ≤ 16777216 := by omega
        rw [Int.natCast_mul] at this
        exact this
      have flen : (List.replicate k.toNat its).flatten.length ≤ sizeLine := by
        rw [PyProof.Rows.lm_len_rep_flat, hle, Nat.mul_comm]
        exact hz
      have c2 : (decide (k ≤ 0) || its.toArray.isEmpty) = false := by
        rw [hi, Bool.or_false]
        exact decide_eq_false (by omega)
      have c4 : Builtin.Tuple.tupleTooMany (((its.toArray.size : Nat) : Int) * k) = false := by
        unfold Builtin.Tuple.tupleTooMany
        rw [sizeLine_eq]
        exact decide_eq_false (by omega)
      refine wpAny_binaryOp_repeat_ref (T := "tuple") (U := "int") (by decide) ⟨_, ho, rfl⟩ (fun s' => typeIs_int s' k t) noFill_tuple_mul F.fills_int_mul F.slot_int_rmul repeat_tuple F.slot_int_index.lookup
        (call_meets F.slot_int_rmul (typeIs_int s k t) F.entry_int_rmul (F.args_int_rmul_2 _ _) (int_rmul_tuple k t l its.toArray n dd sl)
          ⟨ho, rfl, ⟨_, ho, rfl⟩, call_meets F.slot_tuple_mul ⟨_, ho, rfl⟩ F.entry_tuple_mul (F.args_tuple_mul_2 _ _) (tuple_mulW l its.toArray n dd sl k t c0 c1 c2 (by omega) c4 (by rw [size_rep, List.size_toArray]; exact flen)) ⟨ho, ?_⟩⟩)
      rw [size_rep]
      refine ⟨.ref s.heap.objs.size, _, I.laid (t' := s.toks) (o := .tup (List.replicate k.toNat xs).flatten) (fun b ob q => Heap.get?_push_of_some _ q) (Nat.le_refl _) ?_, rfl, q2 _ (I.hok.fresh (Nat.le_refl _))⟩
      exact ⟨by rw [PyProof.Rows.lm_len_rep_flat, Nat.mul_comm]; exact hz, _, r.rep k.toNat, IsTup.new _ _⟩
end PD
end
section
set_option linter.all false
set_option maxRecDepth 100000
namespace PD
open PySem L2

/-! ### more of cells -/
section
variable {K : PySem.W.Frag} {P : Pl} {B : Base} {env env' : Env} {ts ts' : List (V × O)} {σ σ' : St} {H H' : Hp}
theorem rt_drop {p : Nat} {a : Addr} (h : Rt (cell env σ ts) p a) : Rt (cell env σ (ts ++ ts')) p a := by
  obtain ⟨m, e, o⟩ := h
  refine ⟨m, ?_, o⟩
  by_cases hp : p < env.length
  · rw [cell_lt hp] at e ⊢; exact e
  · have e1 := cell_held_inv (by omega) e
    have hl : p - env.length < ts.length := (List.getElem?_eq_some_iff.mp e1).1
    rw [cell_ge (by omega), List.getElem?_append_left hl, e1]
theorem FzL.drop' {vs ds} (r : FzL K (Zf B (cell env σ (ts ++ ts'))) H vs ds) : FzL K (Zf B (cell env σ ts)) H vs ds := r.less fun _ _ => rt_drop
theorem Fz.less {L L' : Cells} (h : ∀ p a, Rt L' p a → Rt L p a) {v d} (r : Fz K (Zf B L) H v d) : Fz K (Zf B L') H v d := Fz.go (fun a o x z => ⟨x, Zf.less h z⟩) (fun _ _ x => x) r
theorem Fz.drop' {v d} (r : Fz K (Zf B (cell env σ (ts ++ ts'))) H v d) : Fz K (Zf B (cell env σ ts)) H v d := Fz.less (fun _ _ => rt_drop) r
theorem FzL.newZ {a : Addr} {m : MV} {o : HO} (hn : H a = none) {vs ds} (r : FzL K (Zf B (cell env σ ts)) H vs ds) : FzL K (Zf B (cell env σ (ts ++ [(.ref a, .v m)]))) (upd H a o) vs ds := by
  refine FzL.go (fun b u x z => ⟨grow_upd hn b u x, fun p ⟨m', e, o'⟩ => ?_, z.2⟩) (fun b vs h => grow_upd hn b _ h) r
  by_cases hp : p < env.length
  · rw [cell_lt hp] at e
    exact z.1 p ⟨m', by rw [cell_lt hp]; exact e, o'⟩
  · have e1 := cell_held_inv (by omega) e
    by_cases hl : p - env.length < ts.length
    · rw [List.getElem?_append_left hl] at e1
      exact z.1 p ⟨m', by rw [cell_ge (by omega), e1], o'⟩
    · rw [List.getElem?_append_right (by omega)] at e1
      have : p - env.length - ts.length = 0 := by
        have := (List.getElem?_eq_some_iff.mp e1).1
        simpa using this
      rw [this] at e1
      simp at e1
      obtain ⟨⟨rfl⟩, _⟩ := e1
      rw [x] at hn; cases hn
/-- a new list -/
theorem Sim.newL (S : Sim K P B env ts σ H) {a : Addr} {vs : List V} {ds : List PyData} (hn : H a = none) (r : FzL K (Zf B (cell env σ ts)) H vs ds) : Sim K P B env (ts ++ [(.ref a, .v (.ml ds))]) σ (upd H a (.lst vs)) :=
  S.pushN rfl hn (grow_upd hn) ⟨a, vs, rfl, upd_same, r.newZ hn⟩
/-- a new tuple -/
theorem Sim.newT (S : Sim K P B env ts σ H) {a : Addr} {vs : List V} {ds : List PyData} (hn : H a = none) (r : FzL K (Zf B (cell env σ ts)) H vs ds) : Sim K P B env (ts ++ [(.ref a, .v (.d (.tuple ds)))]) σ (upd H a (.tup vs)) := by
  have S1 := S.grow (grow_upd (o := .tup vs) hn)
  exact S1.pushD (.tup upd_same (FzL.go (fun b u x z => ⟨grow_upd hn b u x, z⟩) (fun b vs h => grow_upd hn b _ h) r))
theorem Sim.atom (S : Sim K P B env ts σ H) {v : V} {p : PyData} (h : ∀ Z, Fz K Z H v p) : Sim K P B env (ts ++ [(v, .v (.d p))]) σ H := S.pushD (h _)
end

section
variable {P : Pl} {B : Base} {σ : St} {H : Hp}
theorem rdI_ok {o : O} {i : Int} {env env' : Env} (h : rdI o env = .ok i env') : env' = env ∧ rdD o env = .ok (.int i) env := by
  obtain ⟨p, e, h1, h2⟩ := bind_ok h
  obtain ⟨rfl, _⟩ := rdD_ok h1
  cases p with
  | int j => cases h2; exact ⟨rfl, h1⟩
  | _ => cases h2
theorem rdI_exc {o : O} {c as} {env env' : Env} : rdI o env ≠ .exc c as env' := by
  intro h
  rcases bind_exc h with h | ⟨p, e, h1, h2⟩
  · exact rdD_exc h
  · cases p <;> cases h2
end
section
variable {K : PySem.W.Frag} {Z : Addr → Prop} {H : Hp} {x : V}
theorem Lk.int {i : Int} (h : Lk K Z H x (.int i)) : x = .int i := by
  have h' : Fz K Z H x (.int i) := h
  cases h'; rfl
theorem Lk.str {i : Str} (h : Lk K Z H x (.str i)) : x = .str i := by
  have h' : Fz K Z H x (.str i) := h
  cases h'; rfl
theorem Lk.tup {ds : List PyData} (h : Lk K Z H x (.tuple ds)) : ∃ a vs, x = .ref a ∧ H a = some (.tup vs) ∧ FzL K Z H vs ds := by
  have h' : Fz K Z H x (.tuple ds) := h
  cases h' with
  | tup h' r => exact ⟨_, _, rfl, h', r⟩
end
/-! ### readings -/
abbrev Wi := Nat → List PyData → Env → Prop
/-! ### what is wanted behind a reckoning -/
section
variable {P : Pl} {B : Base} {W : Wi} {σ : St} {H : Hp}
def wpM {α : Type} (W : Wi) (m : M α) (env : Env) (Φ : α → Env → Prop) : Prop := match m env with
  | .ok a e => Φ a e
  | .exc c as e => W c as e
  | .no => False
theorem wpM_bind {α β : Type} {x : M α} {f : α → M β} {env : Env} {Φ : β → Env → Prop} : wpM W (M.bind x f) env Φ = wpM W x env fun a e => wpM W (f a) e Φ := by
  unfold wpM M.bind
  cases x env <;> rfl
theorem wpM_pure {α : Type} {a : α} {env : Env} {Φ : α → Env → Prop} : wpM W (M.pure a) env Φ = Φ a env := rfl
theorem wpM_opt {α : Type} {o : Option α} {env : Env} {Φ : α → Env → Prop} (h : wpM W (M.opt o) env Φ) : ∃ a, o = some a ∧ Φ a env := by
  cases o with
  | none => exact h.elim
  | some a => exact ⟨a, rfl, h⟩
theorem wpM_ofO {o : Option MV} {env : Env} {Φ : O → Env → Prop} (h : wpM W (M.ofO o) env Φ) : ∃ a, o = some a ∧ Φ (.v a) env := by
  cases o with
  | none => exact h.elim
  | some a => exact ⟨a, rfl, h⟩
theorem wpM_mono {α : Type} {m : M α} {env : Env} {Φ Ψ : α → Env → Prop} (h : wpM W m env Φ) (i : ∀ a e, Φ a e → Ψ a e) : wpM W m env Ψ := by
  unfold wpM at h ⊢
  cases e : m env with
  | ok a e' => rw [e] at h; exact i _ _ h
  | exc c as e' => rw [e] at h; exact h
  | no => rw [e] at h; exact h
section
variable {K : PySem.W.Frag} {env : Env} {ts ts' : List (V × O)} {x : V} {o : O}
theorem wp_rd {Φ : MV → Env → Prop} (S : Sim K P B env ts σ H) (hx : (x, o) ∈ ts) (h : wpM W (rd o) env Φ) : ∃ m, Rp K P (Zf B (cell env σ ts)) H x m ∧ Φ m env := by
  unfold wpM at h
  cases e : rd o env with
  | exc c as env' => exact absurd e rd_exc
  | no => rw [e] at h; exact h.elim
  | ok m env' =>
    obtain ⟨rfl, r⟩ := S.rd hx e
    rw [e] at h
    exact ⟨m, r, h⟩
theorem wp_rdD {Φ : PyData → Env → Prop} (S : Sim K P B env ts σ H) (hx : (x, o) ∈ ts) (h : wpM W (rdD o) env Φ) : ∃ p, Lk K (Zf B (cell env σ ts)) H x p ∧ Φ p env := by
  unfold wpM at h
  cases e : rdD o env with
  | exc c as env' => exact absurd e rdD_exc
  | no => rw [e] at h; exact h.elim
  | ok m env' =>
    obtain ⟨rfl, r⟩ := S.rdD hx e
    rw [e] at h
    exact ⟨m, r, h⟩
theorem wp_rdI {Φ : Int → Env → Prop} (S : Sim K P B env ts σ H) (hx : (x, o) ∈ ts) (h : wpM W (rdI o) env Φ) : ∃ i, x = .int i ∧ Φ i env := by
  unfold wpM at h
  cases e : rdI o env with
  | exc c as env' => exact absurd e rdI_exc
  | no => rw [e] at h; exact h.elim
  | ok m env' =>
    obtain ⟨rfl, e2⟩ := rdI_ok e
    obtain ⟨_, r⟩ := S.rdD hx e2
    rw [e] at h
    exact ⟨m, r.int, h⟩
theorem wp_rdAll {Φ : List PyData → Env → Prop} {os : List O} {vs : List V} (S : Sim K P B env ts σ H) (hl : vs.length = os.length) (hx : ∀ x ∈ vs.zip os, x ∈ ts) (h : wpM W (rdAll os) env Φ) : ∃ ps, LkL K (Zf B (cell env σ ts)) H vs ps ∧ Φ ps env := by
  unfold wpM at h
  cases e : rdAll os env with
  | exc c as env' => exact absurd e rdAll_exc
  | no => rw [e] at h; exact h.elim
  | ok ps env' =>
    obtain ⟨rfl, _⟩ := rdAll_ok e
    rw [e] at h
    exact ⟨ps, rdAllS S hl hx e, h⟩
theorem wp_tk {Φ : PyData → Env → Prop} (S : Sim K P B env (ts ++ (x, o) :: ts') σ H) (h : wpM W (tk o) env Φ) : ∃ p env', Sim K P B env' (ts ++ (x, .v (.d p)) :: ts') σ H ∧ Φ p env' := by
  unfold wpM at h
  cases e : tk o env with
  | exc c as env' => exact absurd e tk_exc
  | no => rw [e] at h; exact h.elim
  | ok p env' =>
    rw [e] at h
    exact ⟨p, env', S.tk e, h⟩
theorem wp_tkAll {Φ : List PyData → Env → Prop} {os : List O} {vs : List V} (hl : vs.length = os.length) (S : Sim K P B env (ts ++ vs.zip os ++ ts') σ H) (h : wpM W (tkAll os) env Φ) :
    ∃ ps env', Sim K P B env' (ts ++ hld vs ps ++ ts') σ H ∧ vs.length = ps.length ∧ Φ ps env' := by
  unfold wpM at h
  cases e : tkAll os env with
  | exc c as env' => exact absurd e tkAll_exc
  | no => rw [e] at h; exact h.elim
  | ok ps env' =>
    rw [e] at h
    exact ⟨ps, env', Sim.tkAll hl S e, by rw [hl, tkAll_ok e], h⟩
end
end
section
variable (K : PySem.W.Frag) (P : Pl) (B : Base) (C : Nat → Callee) (W : Wi)
def rO (m : M O) : TE := fun σ H Q => ∃ env ts, Sim K P B env ts σ H ∧ wpM W m env fun o env' => ∀ v H', Sim K P B env' (ts ++ [(v, o)]) σ H' → Q v H'
def rL (m : M (List O)) : TA := fun σ H Q => ∃ env ts, Sim K P B env ts σ H ∧ wpM W m env fun os env' => ∀ vs H', vs.length = os.length → Sim K P B env' (ts ++ vs.zip os) σ H' → Q vs H'
def rT (m : M Bool) : TT := fun σ H Q => ∃ env ts, Sim K P B env ts σ H ∧ wpM W m env fun b env' => ∀ H', Sim K P B env' ts σ H' → Q b H'
end
section
variable {P : Pl} {B : Base} {W : Wi} {σ : St} {H : Hp}
/-- the first operand of a reckoning -/
theorem rO_first {K : PySem.W.Frag} {m : M O} {f : O → M O} {env : Env} {ts : List (V × O)} {Φ : O → Env → Prop} (S : Sim K P B env ts σ H) (h : wpM W (M.bind m f) env Φ) (R : VK)
    (hR : ∀ o e v H', Sim K P B e (ts ++ [(v, o)]) σ H' → wpM W (f o) e Φ → R v H') : rO K P B W m σ H R := by
  rw [wpM_bind] at h
  exact ⟨env, ts, S, wpM_mono h fun o e h v H' S' => hR o e v H' S' h⟩
theorem rL_first {K : PySem.W.Frag} {m : M (List O)} {f : List O → M O} {env : Env} {ts : List (V × O)} {Φ : O → Env → Prop} (S : Sim K P B env ts σ H) (h : wpM W (M.bind m f) env Φ) (R : List V → Hp → Prop)
    (hR : ∀ os e vs H', vs.length = os.length → Sim K P B e (ts ++ vs.zip os) σ H' → wpM W (f os) e Φ → R vs H') : rL K P B W m σ H R := by
  rw [wpM_bind] at h
  exact ⟨env, ts, S, wpM_mono h fun o e h v H' hl S' => hR o e v H' hl S' h⟩


theorem rT_first {K : PySem.W.Frag} {α : Type} {m : M Bool} {f : Bool → M α} {env : Env} {ts : List (V × O)} {Φ : α → Env → Prop} (S : Sim K P B env ts σ H) (h : wpM W (M.bind m f) env Φ) (R : Bool → Hp → Prop)
    (hR : ∀ o e H', Sim K P B e ts σ H' → wpM W (f o) e Φ → R o H') : rT K P B W m σ H R := by
  rw [wpM_bind] at h
  exact ⟨env, ts, S, wpM_mono h fun o e h H' S' => hR o e H' S' h⟩
end
theorem PE.imp {X : Cx} {e : Expr} {t t' : TE} (h : PE X e t) (i : ∀ σ H Q, t' σ H Q → t σ H Q) : PE X e t' := ⟨fun pins s σ H Q I q => h.run pins s σ H Q I (i _ _ _ q)⟩
theorem PT.imp {X : Cx} {e : Expr} {t t' : TT} (h : PT X e t) (i : ∀ σ H Q, t' σ H Q → t σ H Q) : PT X e t' := ⟨fun pins s σ H Q I q => h.run pins s σ H Q I (i _ _ _ q)⟩
theorem PW.imp {X : Cx} {e : Expr} {t t' : TT} (h : PW X e t) (i : ∀ σ H Q, t' σ H Q → t σ H Q) : PW X e t' := ⟨fun wh pins s σ H Q I q => h.run wh pins s σ H Q I (i _ _ _ q)⟩
theorem PA.imp {X : Cx} {e : List Expr} {t t' : TA} (h : PA X e t) (i : ∀ σ H Q, t' σ H Q → t σ H Q) : PA X e t' := ⟨fun pos pins s σ H Q I q => h.run pos pins s σ H Q I (i _ _ _ q)⟩

/-! ### operators -/
def opOf : BO → Operator
  | .add => .Add
  | .sub => .Sub
  | .mul => .Mult
  | .fdiv => .FloorDiv
  | .mod => .Mod
  | .pow => .Pow
def rB (K : PySem.W.Frag) : BO → R2
  | .add => fun x y H Q => (rI0 fun i j => .int (i + j)) x y H Q ∨ (rCat x y H Q ∨ (rCatA K x y H Q ∨ ∃ i j, x = .str i ∧ y = .str j ∧ i.length + j.length ≤ sizeLine ∧ Q (.str (i ++ j)) H))
  | .sub => rI0 fun i j => .int (i - j)
  | .mul => fun x y H Q => (rI CMul fun i j => .int (i * j)) x y H Q ∨ (rRep x y H Q ∨ rRepA K x y H Q)
  | .fdiv => rI CDiv fun i j => .int (i / j)
  | .mod => rI (fun _ j => 0 < j) fun i j => .int (i % j)
  | .pow => rI CPow fun i j => .int (i ^ j.toNat)
theorem opR {X : Cx} : ∀ o : BO, OpR X (binaryOp (opOf o)) (rB X.K o)
  | .add => .or op_add (.or op_cat (.or op_catA op_add_str))
  | .sub => op_sub
  | .mul => .or op_mul (.or op_rep op_repA)
  | .fdiv => op_fdiv
  | .mod => op_mod
  | .pow => op_pow
theorem line_eq : sizeLine = line := by decide
section
variable {K : PySem.W.Frag} {P : Pl} {B : Base} {env : Env} {ts : List (V × O)} {σ : St} {H : Hp} {x y : V} {ox oy : O} {p q : PyData} {m : MV} {Q : VK} {Z : Addr → Prop}
theorem small_ok {i : Int} (h : small i = true) : -(2 ^ 64) < i ∧ i < 2 ^ 64 := by
  have := of_decide_eq_true (show decide (-18446744073709551616 < i ∧ i < 18446744073709551616) = true from h)
  omega
theorem bin_read {o : BO} (S : Sim K P B env ts σ H) (lx : Lk K (Zf B (cell env σ ts)) H x p) (ly : Lk K (Zf B (cell env σ ts)) H y q) (h : binop o p q = some m)
    (hQ : ∀ v H', Sim K P B env (ts ++ [(v, .v m)]) σ H' → Q v H') : rB K o x y H Q := by
  unfold binop at h
  split at h
  · rename_i i j
    obtain rfl := lx.int
    obtain rfl := ly.int
    cases e : binI o i j with
    | none => rw [e] at h; cases h
    | some k =>
      rw [e] at h; cases h
      have fin : Q (.int k) H := hQ _ _ (S.atom fun _ => .int k)
      unfold binI at e
      split at e
      · cases e; exact .inl ⟨_, _, rfl, rfl, fin⟩
      · cases e; exact ⟨_, _, rfl, rfl, fin⟩
      · split at e
        · rename_i hs
          cases e
          refine .inl ⟨_, _, rfl, rfl, ?_, fin⟩
          rcases Bool.or_eq_true_iff.mp hs with z | z
          · exact .inl (small_ok z)
          · exact .inr (small_ok z)
        · cases e
      · split at e
        · rename_i hs; cases e; exact ⟨_, _, rfl, rfl, hs, fin⟩
        · cases e
      · split at e
        · rename_i hs; cases e; exact ⟨_, _, rfl, rfl, hs, fin⟩
        · cases e
      · split at e
        · rename_i hs; cases e; exact ⟨_, _, rfl, rfl, ⟨hs.1, hs.2.1, by have := hs.2.2; omega⟩, fin⟩
        · cases e
  · rename_i xs ys
    obtain ⟨a, vs, rfl, ha, ra⟩ := lx
    obtain ⟨b, ws, rfl, hb, rb⟩ := ly
    cases o with
    | add =>
      dsimp only at h
      split at h
      · rename_i hs
        cases h
        refine .inr (.inl ⟨a, b, vs, ws, rfl, rfl, ha, hb, ?_, fun c hc => hQ _ _ (S.newL hc (ra.append rb))⟩)
        rw [ra.length, rb.length, line_eq]; exact hs.2.2
      · cases h
    | _ => cases h
  · rename_i xs ys
    obtain ⟨a, vs, rfl, ha, ra⟩ := lx.tup
    obtain ⟨b, ws, rfl, hb, rb⟩ := ly.tup
    cases o with
    | add =>
      dsimp only at h
      split at h
      · rename_i hs
        cases h
        refine .inr (.inr (.inl ⟨a, b, vs, ws, rfl, rfl, .of ha, .of hb, ?_, fun e => ?_, fun _ e => ?_, fun _ _ c hc => hQ _ _ (S.newT hc (ra.append rb))⟩))
        · rw [ra.length, rb.length, line_eq]; exact hs
        · subst e
          cases ra
          exact hQ _ _ (S.pushD (.tup hb rb))
        · subst e
          cases rb
          rw [List.append_nil] at hQ
          exact hQ _ _ (S.pushD (.tup ha ra))
      · cases h
    | _ => cases h
  · rename_i xs k
    obtain ⟨a, vs, rfl, ha, ra⟩ := lx
    obtain rfl := ly.int
    cases o with
    | mul =>
      dsimp only at h
      split at h
      · rename_i hs
        cases h
        exact .inr (.inl ⟨a, k, vs, rfl, rfl, ha, by omega, by omega, by rw [ra.length, line_eq]; exact hs.2.2, fun c hc => hQ _ _ (S.newL hc (ra.flatten_rep _))⟩)
      · cases h
    | _ => cases h
  · rename_i xs k
    obtain ⟨a, vs, rfl, ha, ra⟩ := lx.tup
    obtain rfl := ly.int
    cases o with
    | mul =>
      dsimp only at h
      split at h
      · rename_i hs
        cases h
        refine .inr (.inr ⟨a, k, vs, rfl, rfl, .of ha, by omega, by omega, by rw [ra.length, line_eq]; exact hs.2.2, fun e => ?_, fun _ c hc => hQ _ _ (S.newT hc (ra.flatten_rep _))⟩)
        have e2 : reps xs k = xs := by
          rcases e with e | e
          · subst e; cases ra; unfold reps; generalize k.toNat = n; induction n with
            | zero => rfl
            | succ n ih => rw [List.replicate_succ, List.flatten_cons, ih]; rfl
          · subst e; unfold reps; simp
        rw [e2] at hQ
        exact hQ _ _ (S.pushD (.tup ha ra))
      · cases h
    | _ => cases h
  · rename_i xs ys
    obtain rfl := lx.str
    obtain rfl := ly.str
    cases o with
    | add =>
      dsimp only at h
      split at h
      · rename_i hs
        cases h
        exact .inr (.inr (.inr ⟨_, _, rfl, rfl, by rw [line_eq]; exact hs, hQ _ _ (S.atom fun _ => .str _)⟩))
      · cases h
    | _ => cases h
  · cases h
end

/-! ### comparisons -/
def cOf : CO → CmpOp
  | .eq => .Eq
  | .ne => .NotEq
  | .lt => .Lt
  | .le => .LtE
  | .gt => .Gt
  | .ge => .GtE
  | .isin => .In
  | .notin => .NotIn
  | .isN => .Is
  | .notN => .IsNot
section
variable {K : PySem.W.Frag} {P : Pl} {B : Base} {env : Env} {ts : List (V × O)} {σ : St} {H : Hp} {x y : V} {ox oy : O} {p q : PyData} {m : MV} {Q : VK} {Z : Addr → Prop}
mutual
theorem Fz.dp : ∀ {v : V} {d : PyData}, Fz K Z H v d → d.canLay0 = true → Dp K H v d
  | _, _, .non, _ => .non
  | _, _, .bl b, _ => .bl b
  | _, _, .int i, _ => .int i
  | _, _, .str x, _ => .str x
  | _, _, .lst h z r, c => .lst (.of h) (FzL.dp r (by simpa [PyData.canLay0] using c))
  | _, _, .tup h r, c => .tup (.of h) (FzL.dp r (by simpa [PyData.canLay0] using c))
  | _, _, .dK h z l r, c => by simp [PyData.canLay0] at c
  | _, _, .dT h z l r, c => by simp [PyData.canLay0] at c
theorem FzL.dp : ∀ {vs : List V} {ds : List PyData}, FzL K Z H vs ds → PyData.canLayAll0 ds = true → DpAll K H vs ds
  | _, _, .nil, _ => .nil
  | _, _, .cons r t, c => by
    have c' := Bool.and_eq_true_iff.mp (by simpa [PyData.canLayAll0] using c)
    exact .cons (Fz.dp r c'.1) (FzL.dp t c'.2)
end
theorem Lk.dp (h : Lk K Z H x p) (c : p.canLay0 = true) : Dp K H x p := by
  cases p with
  | list ds => obtain ⟨a, vs, rfl, ha, r⟩ := h; exact .lst (.of ha) (r.dp (by simpa [PyData.canLay0] using c))
  | dict kvs => simp [PyData.canLay0] at c
  | none => exact Fz.dp h c
  | bool _ => exact Fz.dp h c
  | int _ => exact Fz.dp h c
  | str _ => exact Fz.dp h c
  | tuple _ => exact Fz.dp h c
theorem shaped_lay {d : PyData} (h : SeqAt.shaped d = true) : d.canLay0 = true := SeqAt.canLay_of_shaped h
theorem flat_fz {v : V} {d : PyData} (h : Fz K Z H v d) (f : flatD d = true) : flatV v = true := by
  cases h <;> first | rfl | cases f
theorem eqV_fz {v w : V} {d e : PyData} (h : Fz K Z H v d) (g : Fz K Z H w e) (f : flatD d = true) (f' : flatD e = true) : eqV v w = PyData.eqv d e := by
  cases h <;> cases g <;> first | rfl | (cases f; done) | (cases f'; done) | simp [eqV, PyData.eqv]
theorem flat_all : ∀ {vs : List V} {ds : List PyData}, FzL K Z H vs ds → ds.all flatD = true → vs.all flatV = true
  | _, _, .nil, _ => rfl
  | _, _, .cons r t, f => by
    rw [List.all_cons] at f
    have f' := Bool.and_eq_true_iff.mp f
    simp only [List.all_cons, flat_fz r f'.1, Bool.true_and]
    exact flat_all t f'.2
theorem inV_fz {v : V} {d : PyData} (h : Fz K Z H v d) (f : flatD d = true) : ∀ {vs : List V} {ds : List PyData}, FzL K Z H vs ds → ds.all flatD = true → inV v vs = ds.any fun z => PyData.eqv z d
  | _, _, .nil, _ => rfl
  | _, _, .cons r t, f' => by
    rw [List.all_cons] at f'
    have f2 := Bool.and_eq_true_iff.mp f'
    have ih := inV_fz h f t f2.2
    unfold inV at ih ⊢
    rw [List.any_cons, List.any_cons, ih, eqV_fz r h f2.1 f]
theorem Lk.fz (h : Lk K Z H x p) (f : flatD p = true) : Fz K Z H x p := by
  cases p with
  | list ds => cases f
  | dict kvs => cases f
  | none => exact h
  | bool _ => exact h
  | int _ => exact h
  | str _ => exact h
  | tuple _ => exact h
theorem Lk.none_iff (h : Lk K Z H x p) : decide (x = .non) = isN p := by
  cases p with
  | list ds => obtain ⟨a, vs, rfl, _⟩ := h; rfl
  | dict kvs => obtain ⟨a, o, rfl, _⟩ := h; rfl
  | none => cases (show Fz K Z H x _ from h); rfl
  | bool _ => cases (show Fz K Z H x _ from h); rfl
  | int _ => cases (show Fz K Z H x _ from h); rfl
  | str _ => cases (show Fz K Z H x _ from h); rfl
  | tuple _ => cases (show Fz K Z H x _ from h); rfl

/-! ### dicts by keys -/
theorem kP_inj {a b : Key} (h : kP a = kP b) : a = b := by
  cases a <;> cases b <;> simp [kP] at h <;> simp [h]
theorem same1_kP (a b : Key) : same1 (kP a) (kP b) = decide (a = b) := by
  cases a <;> cases b <;> simp [kP, same1, decide_eq_decide]
  all_goals first
    | (rw [Bool.eq_iff_iff]; simp)
theorem sameK_kP (a b : Key) : sameK (kP a) (kP b) = decide (a = b) := by
  rw [← same1_kP]
  cases a <;> cases b <;> rfl
theorem same1s_kP : ∀ a b : List Key, same1s (a.map kP) (b.map kP) = decide (a = b)
  | [], [] => rfl
  | [], _ :: _ => rfl
  | _ :: _, [] => rfl
  | x :: xs, y :: ys => by
    simp only [List.map_cons, same1s, same1_kP, same1s_kP xs ys]
    rw [Bool.eq_iff_iff]; simp
theorem sameK_kPs (a b : List Key) : sameK (.tuple (a.map kP)) (.tuple (b.map kP)) = decide (a = b) := same1s_kP a b
theorem isK1_kP (k : Key) : isK1 (kP k) = true := by cases k <;> rfl
theorem kP_of {d : PyData} (h : isK1 d = true) : ∃ k, d = kP k := by
  cases d with
  | int i => exact ⟨.inl i, rfl⟩
  | str x => exact ⟨.inr x, rfl⟩
  | _ => cases h
theorem kPs_of : ∀ {ds : List PyData}, ds.all isK1 = true → ∃ ks : List Key, ds = ks.map kP
  | [], _ => ⟨[], rfl⟩
  | d :: ds, h => by
    rw [List.all_cons] at h
    have h' := Bool.and_eq_true_iff.mp h
    obtain ⟨k, hk⟩ := kP_of h'.1
    obtain ⟨ks, hks⟩ := kPs_of (ds := ds) h'.2
    exact ⟨k :: ks, by rw [hk, hks]; rfl⟩
theorem fz_key {v : V} {k : Key} (h : Fz K Z H v (kP k)) : v = kV k := by
  cases k with
  | inl i => cases h; rfl
  | inr x => cases h; rfl
theorem fzL_key : ∀ {vs : List V} {ks : List Key}, FzL K Z H vs (ks.map kP) → vs = ks.map kV
  | _, [], .nil => rfl
  | _, k :: ks, .cons r t => by rw [fz_key r, fzL_key t]; rfl
theorem key_fz (k : Key) : Fz K Z H (kV k) (kP k) := by
  cases k with
  | inl i => exact .int i
  | inr x => exact .str x
theorem keys_fz : ∀ ks : List Key, FzL K Z H (ks.map kV) (ks.map kP)
  | [] => .nil
  | k :: ks => .cons (key_fz k) (keys_fz ks)
/-- looked up -/
theorem look_dK (k : Key) : ∀ (ks : List Key) (vs : List V) (ds : List PyData), ks.length = vs.length → FzL K Z H vs ds →
    (valV (ks.zip vs) k = none ∧ look (kP k) ((ks.map kP).zip ds) = none) ∨ ∃ v d, valV (ks.zip vs) k = some v ∧ look (kP k) ((ks.map kP).zip ds) = some d ∧ Fz K Z H v d
  | [], _, _, _, _ => .inl ⟨rfl, rfl⟩
  | a :: ks, v :: vs, _, hl, .cons (ds := ds) (d := d) r t => by
    simp only [List.map_cons, List.zip_cons_cons, look, sameK_kP]
    by_cases e : a = k
    · rw [valV_pos e, decide_eq_true e, if_pos rfl]
      exact .inr ⟨v, d, rfl, rfl, r⟩
    · rw [valV_neg e, decide_eq_false e, if_neg Bool.false_ne_true]
      exact look_dK k ks vs ds (by simpa using hl) t
theorem look_dT (k : List Key) : ∀ (ks : List (List Key)) (vs : List V) (ds : List PyData), ks.length = vs.length → FzL K Z H vs ds →
    (valV (ks.zip vs) k = none ∧ look (.tuple (k.map kP)) ((ks.map fun k => PyData.tuple (k.map kP)).zip ds) = none) ∨
      ∃ v d, valV (ks.zip vs) k = some v ∧ look (.tuple (k.map kP)) ((ks.map fun k => PyData.tuple (k.map kP)).zip ds) = some d ∧ Fz K Z H v d
  | [], _, _, _, _ => .inl ⟨rfl, rfl⟩
  | a :: ks, v :: vs, _, hl, .cons (ds := ds) (d := d) r t => by
    simp only [List.map_cons, List.zip_cons_cons, look, sameK_kPs]
    by_cases e : a = k
    · rw [valV_pos e, decide_eq_true e, if_pos rfl]
      exact .inr ⟨v, d, rfl, rfl, r⟩
    · rw [valV_neg e, decide_eq_false e, if_neg Bool.false_ne_true]
      exact look_dT k ks vs ds (by simpa using hl) t
end
end PD
end
section
set_option linter.all false
set_option maxRecDepth 100000
namespace PD
open PySem L2

/-! ### the empty dict is of both kinds -/
section
variable {X : Cx} {pins : List (Addr × Obj)} {σ : St} {H : Hp} {s : Shared} {a : Addr}
theorem ok_toT {P : Program} {w : World} {H H' : Hp} {h : Heap} (o : ObjOk P w H h a (.dK [])) : ObjOk P w H' h a (.dT []) := by
  obtain ⟨hl, hs, vs, r, ob, es, ep, e1, e2, e3, _, e4, _⟩ := o
  cases r
  have hz := e4.length
  exact ⟨hl, hs, [], .nil, ob, es, ep, e1, e2, e3, List.eq_nil_of_length_eq_zero hz, List.nodup_nil⟩
theorem ok_toK {P : Program} {w : World} {H H' : Hp} {h : Heap} (o : ObjOk P w H h a (.dT [])) : ObjOk P w H' h a (.dK []) := by
  obtain ⟨hl, hs, xs, r, ob, es, ep, e1, e2, e3, e4, _⟩ := o
  cases r
  have e5 : es.toList = [] := e4
  refine ⟨hl, hs, [], .nil, ob, es, ep, e1, e2, e3, ?_, ?_, List.nodup_nil⟩
  · intro e he
    have : e ∈ es.toList := Array.mem_toList_iff.mpr he
    rw [e5] at this; cases this
  · rw [e5]; exact .nil
theorem toT (I : Inv X pins σ H s) (e : H a = some (.dK [])) : Inv X pins σ (upd H a (.dT [])) s := by
  have ob := I.hok a _ e
  have ex : ∃ q, s.heap.get? a = some q := by obtain ⟨_, _, _, _, q, _, _, e1, _⟩ := ob; exact ⟨q, e1⟩
  exact I.write (h' := s.heap) (t' := s.toks) (x := a) (e := a) (o := .dT []) (by rw [e]; trivial) (.inl rfl) (fun _ _ _ z => z) ex (ok_toT ob)
theorem toK (I : Inv X pins σ H s) (e : H a = some (.dT [])) : Inv X pins σ (upd H a (.dK [])) s := by
  have ob := I.hok a _ e
  have ex : ∃ q, s.heap.get? a = some q := by obtain ⟨_, _, _, _, q, _, _, e1, _⟩ := ob; exact ⟨q, e1⟩
  exact I.write (h' := s.heap) (t' := s.toks) (x := a) (e := a) (o := .dK []) (by rw [e]; trivial) (.inl rfl) (fun _ _ _ z => z) ex (ok_toK ob)
theorem upd_self {o : HO} (e : H a = some o) : upd H a o = H := by
  funext b
  by_cases h : b = a
  · subst h; rw [upd_same, e]
  · rw [upd_ne h]
theorem backK {u : HO} (e : H a = some (.dK [])) (I : Inv X pins σ (upd H a (.dT [])) s) : Inv X pins σ H s := by
  have := toK I upd_same
  rw [upd_upd, upd_self e] at this
  exact this
theorem backT {u : HO} (e : H a = some (.dT [])) (I : Inv X pins σ (upd H a (.dK [])) s) : Inv X pins σ H s := by
  have := toT I upd_same
  rw [upd_upd, upd_self e] at this
  exact this
/-- the same frame, what was tracked at its start told anew -/
abbrev X0 (X : Cx) (H0 : Hp) : Cx := { X with H_0 := H0 }
/-- what is locked at a told anew -/
def swH (H0 : Hp) (a : Addr) (u' : HO) : Hp := fun b => if b = a then (match H0 b with
  | some (.frz od _) => some (.frz od u')
  | o => o) else H0 b
theorem swH_ne {H0 : Hp} {u' : HO} {b : Addr} (h : b ≠ a) : swH H0 a u' b = H0 b := by unfold swH; rw [if_neg h]
theorem swH_none {H0 : Hp} {u' : HO} {b : Addr} : swH H0 a u' b = none ↔ H0 b = none := by
  unfold swH
  by_cases h : b = a
  · rw [if_pos h]
    split
    · rename_i od u e; rw [e]; exact ⟨(fun z => nomatch z), (fun z => nomatch z)⟩
    · exact Iff.rfl
  · rw [if_neg h]
theorem swH_not {H0 : Hp} {u' : HO} {b : Addr} {o : HO} (n : ∀ od u, o ≠ .frz od u) (h : swH H0 a u' b = some o) : H0 b = some o := by
  unfold swH at h
  by_cases hb : b = a
  · rw [if_pos hb] at h
    split at h
    · cases h; exact (n _ _ rfl).elim
    · exact h
  · rw [if_neg hb] at h; exact h
/-- a locked thing told anew -/
theorem recast {od : Obj} {u u' : HO} (I : Inv X pins σ H s) (e : H a = some (.frz od u)) (k : ∀ H' : Hp, ObjOk X.prog X.w H s.heap a u → ObjOk X.prog X.w H' s.heap a u') :
    Inv (X0 X (swH X.H_0 a u')) pins σ (upd H a (.frz od u')) s := by
  have ne : ∀ b o, H b = some o → (∀ od u, o ≠ .frz od u) → b ≠ a := fun b o x n z => by rw [z, e] at x; cases x; exact n _ _ rfl
  have nn : ∀ b, H b = none → b ≠ a := fun b x z => by rw [z, e] at x; cases x
  have ok : (X0 X (swH X.H_0 a u')).Ok := by
    have := I.ok
    exact ⟨this.mod, this.kind, this.glob, this.blt, this.above, this.inj, this.has, this.cab, this.hd, this.frames, this.stk, this.exf, fun b o x => ⟨(this.bs b o x).1, swH_none.mpr (this.bs b o x).2⟩, this.bsz, this.noex, this.exfs, this.funs, fun b x => swH_none.mpr (this.frf b x)⟩
  refine ⟨ok, I.os, I.bare, ⟨fun b o x n => I.base.keep b o x (swH_none.mp n), fun b o x n => I.base.slot b o x (swH_none.mp n), fun b o x n hx => ?_, I.base.there, fun b xs x => ?_, fun b o v x => ?_, fun b ps x => ?_⟩, I.loc, I.cell, ?_, fun x c q => ?_, fun p hp => ?_, fun b o x => ?_, I.len⟩
  · have q := I.base.free b o x (swH_none.mp n) hx
    rw [upd_ne (nn b q)]; exact q
  · have q := I.base.tups b xs (swH_not (fun _ _ z => nomatch z) x)
    rw [upd_ne (ne b _ q fun _ _ z => nomatch z)]; exact q
  · have x : swH X.H_0 a u' b = some (.frz o v) := x
    unfold swH at x
    by_cases hb : b = a
    · subst hb
      rw [if_pos rfl] at x
      split at x
      · rename_i od0 u0 e0
        have q := I.base.frzs b _ _ e0
        rw [e] at q; cases q
        cases x
        exact upd_same
      · have q := I.base.frzs b _ _ x
        rename_i n
        exact (n _ _ x).elim
    · rw [if_neg hb] at x
      rw [upd_ne hb]; exact I.base.frzs b o v x
  · obtain ⟨m, q⟩ := I.base.tbls b ps (swH_not (fun _ _ z => nomatch z) x)
    exact ⟨m, by rw [upd_ne (ne b _ q fun _ _ z => nomatch z)]; exact q⟩
  · rw [upd_ne (nn _ I.free)]; exact I.free
  · rw [upd_ne (nn _ (I.freeC x c q))]; exact I.freeC x c q
  · obtain ⟨x, n, r⟩ := I.pin p hp
    exact ⟨x, by rw [upd_ne (nn _ n)]; exact n, r⟩
  · by_cases hb : b = a
    · subst hb
      rw [upd_same] at x
      cases x
      obtain ⟨x1, x2⟩ := I.hok b _ e
      exact ⟨x1, k _ x2⟩
    · rw [upd_ne hb] at x
      refine (I.hok b o x).stay (fun c v _ q => q) (fun c q => ?_) fun c xs q => ?_
      · rw [upd_ne (ne c _ q fun _ _ z => nomatch z)]; exact q
      · rw [upd_ne (ne c _ q fun _ _ z => nomatch z)]; exact q
/-- .. and back -/
theorem recastBack {od : Obj} {u u' : HO} (I : Inv X pins σ H s) (e : H a = some (.frz od u)) {s' : Shared} (k : ∀ H' : Hp, ObjOk X.prog X.w (upd H a (.frz od u')) s'.heap a u' → ObjOk X.prog X.w H' s'.heap a u)
    (I' : Inv (X0 X (swH X.H_0 a u')) pins σ (upd H a (.frz od u')) s') : Inv X pins σ H s' := by
  have J := recast (u' := u) (od := od) I' upd_same k
  rw [upd_upd, upd_self e] at J
  have q : swH (swH X.H_0 a u') a u = X.H_0 := by
    funext b
    by_cases hb : b = a
    · subst hb
      unfold swH
      rw [if_pos rfl, if_pos rfl]
      cases e0 : X.H_0 b with
      | none => rfl
      | some o =>
        cases o with
        | frz od0 u0 =>
          have q := I.base.frzs b _ _ e0
          rw [e] at q; cases q
          rfl
        | _ => rfl
    · rw [swH_ne hb, swH_ne hb]
  have J : Inv (X0 X (swH (swH X.H_0 a u') a u)) pins σ H s' := J
  rw [q] at J
  exact J
/-- what a dict holds at a key, the empty one of either kind -/
def DG (H : Hp) (a : Addr) (y : V) (o : Option V) : Prop :=
  DGet H a y o ∨ (o = none ∧ ((Rd H a (.dK []) ∧ ∃ b k, y = .ref b ∧ H b = some (.tup (List.map kV k))) ∨ (Rd H a (.dT []) ∧ ∃ k, y = kV k)))
/-- a read of a dict: as if it were of the key's kind -/
theorem DG.run {y : V} {o : Option V} {α : Type} {t : Sem α} {Q : α → Shared → Prop} {E : Value → Shared → Prop} {A : Around} (g : DG H a y o) (I : Inv X pins σ H s)
    (run : ∀ H0 H', Inv (X0 X H0) pins σ H' s → DGet H' a y o → (∀ s', Inv (X0 X H0) pins σ H' s' → Inv X pins σ H s') → wpAny (model X.prog X.w) A t Q E s) : wpAny (model X.prog X.w) A t Q E s := by
  rcases g with g | ⟨rfl, ⟨e | ⟨od, e⟩, b, k, rfl, hb⟩ | ⟨e | ⟨od, e⟩, k, rfl⟩⟩
  · exact run X.H_0 H I g fun _ i => i
  · have ne : b ≠ a := ne_of hb e (by intro z; cases z)
    exact run X.H_0 _ (toT I e) (DGet.t (kvs := []) upd_same (by rw [upd_ne ne]; exact hb)) fun _ i => backK (u := .dK []) e i
  · have ne : b ≠ a := ne_of hb e (by intro z; cases z)
    exact run _ _ (recast I e fun _ => ok_toT) (.inr ⟨_, k, b, .inr ⟨od, upd_same⟩, rfl, by rw [upd_ne ne]; exact hb, rfl⟩) fun _ i => recastBack I e (fun _ => ok_toK) i
  · exact run X.H_0 _ (toK I e) (DGet.k (kvs := []) upd_same) fun _ i => backT (u := .dK []) e i
  · exact run _ _ (recast I e fun _ => ok_toK) (.inl ⟨_, k, .inr ⟨od, upd_same⟩, rfl, rfl⟩) fun _ i => recastBack I e (fun _ => ok_toT) i
def rDin (neg : Bool) : R2 := fun x y H Q => ∃ a o, y = .ref a ∧ DG H a x o ∧ Q (.bl (if neg then !o.isSome else o.isSome)) H
theorem op_din (hu : X.A.units + 1 < cLine) : OpR X (compareOp .In) (rDin false) := by
  intro pins s σ H x y v u Q I rx ry h
  obtain ⟨a, o, rfl, g, q⟩ := h
  cases ry
  exact g.run I fun H0 H' I' g' back => d_in (X := X0 X H0) hu I' g' rx fun s' I2 => ⟨.bl o.isSome, H, back _ I2, rfl, q⟩
theorem op_dnotin (hu : X.A.units + 1 < cLine) : OpR X (compareOp .NotIn) (rDin true) := by
  intro pins s σ H x y v u Q I rx ry h
  obtain ⟨a, o, rfl, g, q⟩ := h
  cases ry
  exact g.run I fun H0 H' I' g' back => d_notIn (X := X0 X H0) hu I' g' rx fun s' I2 => ⟨.bl (!o.isSome), H, back _ I2, rfl, q⟩
end
section
variable {K : PySem.W.Frag} {P : Pl} {B : Base} {env : Env} {ts : List (V × O)} {σ : St} {H : Hp} {x y : V} {p q : PyData} {Z : Addr → Prop}
theorem isK2_of {d : PyData} (h : isK2 d = true) : ∃ ks : List Key, d = .tuple (ks.map kP) := by
  cases d with
  | tuple xs => obtain ⟨ks, rfl⟩ := kPs_of (show xs.all isK1 = true from h); exact ⟨ks, rfl⟩
  | _ => cases h
theorem all_k1 {ks : List Key} {ds : List PyData} (h : ks.length = ds.length) (hk : (((ks.map fun k => kP k).zip ds).all fun p => isK2 p.1) = true) : ks = [] := by
  cases ks with
  | nil => rfl
  | cons k ks =>
    cases ds with
    | nil => simp at h
    | cons d ds =>
      simp only [List.map_cons, List.zip_cons_cons, List.all_cons] at hk
      have := (Bool.and_eq_true_iff.mp hk).1
      cases k <;> simp [kP, isK2] at this
theorem all_k2 {ks : List (List Key)} {ds : List PyData} (h : ks.length = ds.length) (hk : (((ks.map fun k => PyData.tuple (k.map kP)).zip ds).all fun p => isK1 p.1) = true) : ks = [] := by
  cases ks with
  | nil => rfl
  | cons k ks =>
    cases ds with
    | nil => simp at h
    | cons d ds =>
      simp only [List.map_cons, List.zip_cons_cons, List.all_cons] at hk
      have := (Bool.and_eq_true_iff.mp hk).1
      simp [isK1] at this
/-- a dict is asked -/
theorem dct_look {a : Addr} {o : HO} {kvs : List (PyData × PyData)} (ho : Rd H a o) (h : DctAt K Z H o kvs) (lk : Lk K Z H x p) (hk : keyed p kvs = true) :
    ∃ r, DG H a x r ∧ ((r = none ∧ look p kvs = none) ∨ ∃ v d, r = some v ∧ look p kvs = some d ∧ Fz K Z H v d) := by
  have rdk : ∀ {u : HO}, o = u → Rd H a u := fun e => by subst e; exact ho
  have he : kvs = [] → Rd H a o := fun _ => ho
  unfold keyed at hk
  rcases Bool.or_eq_true_iff.mp hk with hk | hk <;> have hk := Bool.and_eq_true_iff.mp hk
  · obtain ⟨k, rfl⟩ := kP_of hk.1
    have ex : x = kV k := fz_key (Lk.fz lk (by cases k <;> rfl))
    subst ex
    rcases h with ⟨ks, vs, ds, e, l, r, rfl⟩ | ⟨ks, vs, ds, e, l, r, rfl⟩
    · refine ⟨valV (ks.zip vs) k, .inl (.inl ⟨_, k, rdk e, rfl, rfl⟩), ?_⟩
      rcases look_dK k ks vs ds l r with ⟨h1, h2⟩ | ⟨v, d, h1, h2, h3⟩
      · exact .inl ⟨h1, h2⟩
      · exact .inr ⟨v, d, h1, h2, h3⟩
    · have ek : ks = [] := all_k2 (by rw [l, r.length]) hk.2
      subst ek
      refine ⟨none, .inr ⟨rfl, .inr ⟨?_, k, rfl⟩⟩, .inl ⟨rfl, rfl⟩⟩
      have : vs = [] := by simpa using l.symm
      subst this
      exact rdk e
  · obtain ⟨k, rfl⟩ := isK2_of hk.1
    obtain ⟨b, vs', rfl, hb, rb⟩ := lk.tup
    have e2 := fzL_key rb
    subst e2
    rcases h with ⟨ks, vs, ds, e, l, r, rfl⟩ | ⟨ks, vs, ds, e, l, r, rfl⟩
    · have ek : ks = [] := all_k1 (by rw [l, r.length]) hk.2
      subst ek
      refine ⟨none, .inr ⟨rfl, .inl ⟨?_, b, k, rfl, hb⟩⟩, .inl ⟨rfl, rfl⟩⟩
      have : vs = [] := by simpa using l.symm
      subst this
      exact rdk e
    · refine ⟨valV (ks.zip vs) k, .inl (.inr ⟨_, k, b, rdk e, rfl, hb, rfl⟩), ?_⟩
      rcases look_dT k ks vs ds l r with ⟨h1, h2⟩ | ⟨v, d, h1, h2, h3⟩
      · exact .inl ⟨h1, h2⟩
      · exact .inr ⟨v, d, h1, h2, h3⟩
end
def rC (K : PySem.W.Frag) : CO → R2
  | .eq => rEqD K
  | .ne => rNeD K
  | .lt => rI0 fun i j => .bl (decide (i < j))
  | .le => rI0 fun i j => .bl (decide (i ≤ j))
  | .gt => rI0 fun i j => .bl (decide (j < i))
  | .ge => rI0 fun i j => .bl (decide (j ≤ i))
  | .isin => fun x y H Q => rInD K x y H Q ∨ (rIn K false x y H Q ∨ rDin false x y H Q)
  | .notin => fun x y H Q => rNotInD K x y H Q ∨ (rIn K true x y H Q ∨ rDin true x y H Q)
  | .isN => fun x y H Q => y = .non ∧ Q (.bl (decide (x = .non))) H
  | .notN => fun x y H Q => y = .non ∧ Q (.bl (!decide (x = .non))) H
theorem cR {X : Cx} (hu : X.A.units + 65 < cLine) : ∀ o : CO, OpR X (compareOp (cOf o)) (rC X.K o)
  | .eq => op_eqD (by omega)
  | .ne => op_neD (by omega)
  | .lt => op_lt
  | .le => op_le
  | .gt => op_gt
  | .ge => op_ge
  | .isin => .or (op_inD hu) (.or op_in_seq (op_din (by omega)))
  | .notin => .or (op_notInD hu) (.or op_notIn_seq (op_dnotin (by omega)))
  | .isN => op_isN
  | .notN => op_notN

section
variable {K : PySem.W.Frag} {P : Pl} {B : Base} {env : Env} {ts : List (V × O)} {σ : St} {H : Hp} {x y : V} {p q : PyData} {Q : VK} {Z : Addr → Prop}
theorem isin_read {t : Bool} (lx : Lk K Z H x p) (ly : Lk K Z H y q) (h : isIn p q = some t) (neg : Bool) (hQ : Q (.bl (if neg then !t else t)) H) :
    (if neg = true then rNotInD K x y H Q else rInD K x y H Q) ∨ (rIn K neg x y H Q ∨ rDin neg x y H Q) := by
  unfold isIn at h
  split at h
  · rename_i ys
    split at h
    · rename_i hs
      cases h
      left
      have d1 := lx.dp (shaped_lay hs.1)
      have d2 := ly.dp (shaped_lay hs.2)
      cases neg with
      | true => exact ⟨p, ys, d1, d2, hs.1, hs.2, hQ⟩
      | false => exact ⟨p, ys, d1, d2, hs.1, hs.2, hQ⟩
    · cases h
  · rename_i ys
    split at h
    · rename_i hs
      cases h
      obtain ⟨b, vs, rfl, hb, rb⟩ := ly.tup
      have fx := lx.fz hs.1
      refine .inr (.inl ⟨b, vs, rfl, .inr (.of hb), flat_fz fx hs.1, flat_all rb hs.2, ?_⟩)
      rw [inV_fz fx hs.1 rb hs.2]
      exact hQ
    · cases h
  · rename_i kvs
    split at h
    · rename_i hs
      cases h
      obtain ⟨a, o, rfl, ho, hd⟩ := ly
      obtain ⟨r, g, hr⟩ := dct_look ho hd lx hs
      have e : r.isSome = (look p kvs).isSome := by
        rcases hr with ⟨h1, h2⟩ | ⟨v, d, h1, h2, _⟩
        · rw [h1, h2]; rfl
        · rw [h1, h2]; rfl
      exact .inr (.inr ⟨a, r, rfl, g, by rw [e]; exact hQ⟩)
    · cases h
  · cases h
theorem cmp_read {o : CO} {t : Bool} (lx : Lk K Z H x p) (ly : Lk K Z H y q) (h : cmpD o p q = some t) (hQ : Q (.bl t) H) : rC K o x y H Q := by
  cases o with
  | eq =>
    have h : eqD p q = some t := h
    unfold eqD at h
    split at h
    · rename_i hs
      cases h
      exact ⟨p, q, lx.dp (shaped_lay hs.1), ly.dp (shaped_lay hs.2), hs.1, hs.2, hQ⟩
    · cases h
  | ne =>
    have h : (eqD p q).map not = some t := h
    unfold eqD at h
    split at h
    · rename_i hs
      cases h
      exact ⟨p, q, lx.dp (shaped_lay hs.1), ly.dp (shaped_lay hs.2), hs.1, hs.2, hQ⟩
    · cases h
  | isin => exact isin_read lx ly h false hQ
  | notin =>
    have h : (isIn p q).map not = some t := h
    cases e : isIn p q with
    | none => rw [e] at h; cases h
    | some b => rw [e] at h; cases h; exact isin_read lx ly e true hQ
  | isN =>
    have h : (if isN q = true then some (isN p) else none) = some t := h
    split at h
    · rename_i hq
      cases h
      rw [← lx.none_iff] at hQ
      rw [← ly.none_iff] at hq
      exact ⟨of_decide_eq_true hq, hQ⟩
    · cases h
  | notN =>
    have h : (if isN q = true then some (!isN p) else none) = some t := h
    split at h
    · rename_i hq
      cases h
      rw [← lx.none_iff] at hQ
      rw [← ly.none_iff] at hq
      exact ⟨of_decide_eq_true hq, hQ⟩
    · cases h
  | lt =>
    have h : cmpII .lt p q = some t := h
    unfold cmpII at h
    split at h
    · cases h; exact ⟨_, _, lx.int, ly.int, hQ⟩
    · cases h
  | le =>
    have h : cmpII .le p q = some t := h
    unfold cmpII at h
    split at h
    · cases h; exact ⟨_, _, lx.int, ly.int, hQ⟩
    · cases h
  | gt =>
    have h : cmpII .gt p q = some t := h
    unfold cmpII at h
    split at h
    · cases h; exact ⟨_, _, lx.int, ly.int, hQ⟩
    · cases h
  | ge =>
    have h : cmpII .ge p q = some t := h
    unfold cmpII at h
    split at h
    · cases h; exact ⟨_, _, lx.int, ly.int, hQ⟩
    · cases h
end
end PD
end
section
set_option linter.all false
set_option maxRecDepth 100000
namespace PD
open PySem L2
section
variable {X : Cx} {P : Pl} {B : Base} {W : Wi} {σ : St} {H : Hp} {C : Nat → Callee}
/-! ### what is done with readings -/
section
variable {K : PySem.W.Frag} {env env' : Env} {ts ts' : List (V × O)} {Q : VK} {x y : V} {p q : PyData}
theorem Sim.drop2 {a b : V × O} (S : Sim K P B env (ts ++ [a] ++ [b]) σ H) : Sim K P B env ts σ H := S.drop.drop
theorem Lk.drop' {v : V} {p : PyData} (h : Lk K (Zf B (cell env σ (ts ++ ts'))) H v p) : Lk K (Zf B (cell env σ ts)) H v p := by
  cases p with
  | list ds => obtain ⟨a, vs, e, ha, r⟩ := h; exact ⟨a, vs, e, ha, r.drop'⟩
  | dict kvs => obtain ⟨a, o, e, ha, r⟩ := h; exact ⟨a, o, e, ha, r.less fun _ _ => rt_drop⟩
  | none => exact Fz.drop' h
  | bool _ => exact Fz.drop' h
  | int _ => exact Fz.drop' h
  | str _ => exact Fz.drop' h
  | tuple _ => exact Fz.drop' h
theorem Rp.drop' {v : V} {m : MV} (h : Rp K P (Zf B (cell env σ (ts ++ ts'))) H v m) : Rp K P (Zf B (cell env σ ts)) H v m :=
  h.go (fun a o x z => ⟨x, Zf.less (fun _ _ => rt_drop) z⟩) (fun _ _ x => x) (fun _ _ _ x => x) fun _ _ _ _ x => x
theorem truth_read {t : Bool} {Z : Addr → Prop} (h : Lk K Z H x p) (e : truth p = some t) : TruV K x H t := by
  cases p with
  | list ds =>
    cases e
    obtain ⟨a, vs, rfl, ha, r⟩ := h
    refine .inl ⟨vs, .of ha, ?_⟩
    cases r <;> rfl
  | tuple ds =>
    cases e
    obtain ⟨a, vs, rfl, ha, r⟩ := h.tup
    refine .inr (.inl ⟨vs, .of ha, ?_⟩)
    cases r <;> rfl
  | dict kvs => cases e
  | none => cases e; cases (show Fz K Z H x _ from h); rfl
  | bool b => cases e; cases (show Fz K Z H x _ from h); rfl
  | int i => cases e; cases (show Fz K Z H x _ from h); rfl
  | str z =>
    have h := h.str
    subst h
    have e : (if z.length ≤ line then some ((z.length : Int) != 0) else none) = some t := e
    split at e
    · rename_i hz; cases e; exact ⟨by rw [line_eq]; exact hz, rfl⟩
    · cases e
/-- a bool at the end -/
theorem Sim.bl (S : Sim K P B env ts σ H) (b : Bool) : Sim K P B env (ts ++ [(.bl b, .v (.d (.bool b)))]) σ H := S.atom fun _ => .bl b
end

theorem s_const {v : V} {p : PyData} {e : Expr} (h : PE X e (tC v)) (hf : ∀ Z H, Fz X.K Z H v p) : PE X e (rO X.K P B W (evO C (.cst p))) :=
  PE.imp h fun σ H Q ⟨env, ts, S, h⟩ => h v H (S.atom fun Z => hf Z H)
theorem s_var {i : Nat} {x : Str} {pos : Pos} (h : PE X (.Name x pos) (tVar i)) : PE X (.Name x pos) (rO X.K P B W (evO C (.var i))) := by
  refine PE.imp h fun σ H Q ⟨env, ts, S, h⟩ => ?_
  unfold wpM evO at h
  cases e : env.at i with
  | none => simp only [e] at h
  | some m =>
    simp only [e] at h
    obtain ⟨v, hv, _⟩ := S.name e
    exact ⟨v, hv, h v H (S.pushR hv)⟩

/-- two operands, read -/
theorem two_read {a b : M O} {f : PyData → PyData → Option MV} {r : R2} {env : Env} {ts : List (V × O)} {Φ : O → Env → Prop} (S : Sim X.K P B env ts σ H)
    (h : wpM W (M.bind a fun x => M.bind b fun y => M.bind (rdD x) fun p => M.bind (rdD y) fun q => .ofO (f p q)) env Φ) (Q : VK)
    (hr : ∀ env H x y p q m, Sim X.K P B env ts σ H → Lk X.K (Zf B (cell env σ ts)) H x p → Lk X.K (Zf B (cell env σ ts)) H y q → f p q = some m → Φ (.v m) env → r x y H Q) :
    tOp r (rO X.K P B W a) (rO X.K P B W b) σ H Q := by
  refine rO_first S h _ fun ox e x H1 S1 h => rO_first S1 h _ fun oy e y H2 S2 h => ?_
  rw [wpM_bind] at h
  obtain ⟨p, lx, h⟩ := wp_rdD S2 (x := x) (by simp) h
  rw [wpM_bind] at h
  obtain ⟨q, ly, h⟩ := wp_rdD S2 (x := y) (by simp) h
  obtain ⟨m, e1, h⟩ := wpM_ofO h
  exact hr e H2 x y p q m S2.drop2 lx.drop'.drop' ly.drop'.drop' e1 h
theorem s_bin {l r : Expr} {a b : E} {o : BO} {pos : Pos} (ha : PE X l (rO X.K P B W (evO C a))) (hb : PE X r (rO X.K P B W (evO C b))) : PE X (.BinOp l (opOf o) r pos) (rO X.K P B W (evO C (.bin o a b))) :=
  PE.imp (pe_op (opR o) ha hb) fun σ H Q ⟨env, ts, S, h⟩ => two_read S h Q fun env H x y p q m S lx ly e hQ => bin_read S lx ly e hQ
theorem s_cmp {l r : Expr} {a b : E} {o : CO} {pos : Pos} (hu : X.A.units + 65 < cLine) (hm : behindInMarks (cOf o) r = false) (ha : PE X l (rO X.K P B W (evO C a))) (hb : PE X r (rO X.K P B W (evO C b))) :
    PE X (.Compare l [cOf o] [r] pos) (rO X.K P B W (evO C (.cmp o a b))) := by
  refine PE.imp (pe_cmpR (cR hu o) ha hb hm) fun σ H Q ⟨env, ts, S, h⟩ => two_read S h Q fun env H x y p q m S lx ly e hQ => ?_
  cases e1 : cmpD o p q with
  | none => rw [e1] at e; cases e
  | some t =>
    rw [e1] at e
    cases e
    exact cmp_read lx ly e1 (hQ _ _ (S.bl t))
/-- two comparisons in a row -/
theorem chn_read {o o' : CO} {a b c : E} {env : Env} {ts : List (V × O)} {Φ : O → Env → Prop} (S : Sim X.K P B env ts σ H) (h : wpM W (evO C (.chn o o' a b c)) env Φ) (Q : VK)
    (hQ : ∀ t env H, Sim X.K P B env ts σ H → Φ (.v (.d (.bool t))) env → Q (.bl t) H) :
    tChain (rC X.K o) (rC X.K o') (rO X.K P B W (evO C a)) (rO X.K P B W (evO C b)) (rO X.K P B W (evO C c)) σ H Q := by
  refine rO_first S h _ fun ox e x H1 S1 h => rO_first S1 h _ fun oy e y H2 S2 h => ?_
  rw [wpM_bind] at h
  obtain ⟨p, lx, h⟩ := wp_rdD S2 (x := x) (by simp) h
  rw [wpM_bind] at h
  obtain ⟨q, ly, h⟩ := wp_rdD S2 (x := y) (by simp) h
  cases e1 : cmpD o p q with
  | none => rw [e1] at h; exact h.elim
  | some t =>
    rw [e1] at h
    refine cmp_read lx ly e1 ⟨t, rfl, ?_⟩
    cases t with
    | false => exact hQ false _ _ S2.drop2 h
    | true =>
      refine rO_first S2 h _ fun oz e z H3 S3 h => ?_
      rw [wpM_bind] at h
      obtain ⟨q', ly', h⟩ := wp_rdD S3 (x := y) (by simp) h
      rw [wpM_bind] at h
      obtain ⟨r, lz, h⟩ := wp_rdD S3 (x := z) (by simp) h
      obtain ⟨m, e2, h⟩ := wpM_ofO h
      cases e3 : cmpD o' q' r with
      | none => rw [e3] at e2; cases e2
      | some t2 =>
        rw [e3] at e2
        cases e2
        exact cmp_read ly' lz e3 (hQ t2 _ _ S3.drop.drop.drop h)
theorem s_chn {l m r : Expr} {a b c : E} {o o' : CO} {pos : Pos} (hu : X.A.units + 65 < cLine) (hm : lastMarks [cOf o, cOf o'] [m, r] = false) (ha : PE X l (rO X.K P B W (evO C a))) (hb : PE X m (rO X.K P B W (evO C b))) (hc : PE X r (rO X.K P B W (evO C c))) :
    PE X (.Compare l [cOf o, cOf o'] [m, r] pos) (rO X.K P B W (evO C (.chn o o' a b c))) :=
  PE.imp (pe_chain (cR hu o) (cR hu o') ha hb hc hm) fun σ H Q ⟨env, ts, S, h⟩ => chn_read S h Q fun t env H S h => h _ _ (S.bl t)
/-- one operand, read -/
theorem one_read {a : M O} {f : PyData → M O} {env : Env} {ts : List (V × O)} {Φ : O → Env → Prop} (S : Sim X.K P B env ts σ H) (h : wpM W (M.bind a fun x => M.bind (rdD x) f) env Φ) (R : VK)
    (hr : ∀ env H x p, Sim X.K P B env ts σ H → Lk X.K (Zf B (cell env σ ts)) H x p → wpM W (f p) env Φ → R x H) : rO X.K P B W a σ H R := by
  refine rO_first S h _ fun ox e x H1 S1 h => ?_
  rw [wpM_bind] at h
  obtain ⟨p, lx, h⟩ := wp_rdD S1 (x := x) (by simp) h
  exact hr e H1 x p S1.drop lx.drop' h
theorem s_neg {l : Expr} {a : E} {pos : Pos} (ha : PE X l (rO X.K P B W (evO C a))) : PE X (.UnaryOp .USub l pos) (rO X.K P B W (evO C (.neg a))) := by
  refine PE.imp (pe_un un_neg ha) fun σ H Q ⟨env, ts, S, h⟩ => one_read S h _ fun env H x p S lx h1 => ?_
  cases p with
  | int i => exact ⟨i, lx.int, h1 _ _ (S.atom fun _ => .int (-i))⟩
  | _ => exact h1.elim
theorem s_nt {l : Expr} {a : E} {pos : Pos} (ha : PE X l (rO X.K P B W (evO C a))) : PE X (.UnaryOp .Not l pos) (rO X.K P B W (evO C (.nt a))) := by
  refine PE.imp (pe_notT ha) fun σ H Q ⟨env, ts, S, h⟩ => one_read S h _ fun env H x p S lx h1 => ?_
  cases e : truth p with
  | none => rw [e] at h1; exact h1.elim
  | some t => rw [e] at h1; exact ⟨t, truth_read lx e, h1 _ _ (S.bl _)⟩

/-! ### tests -/
theorem s_test {l : Expr} {a : E} (ha : PE X l (rO X.K P B W (evO C a))) (he : ∀ whole, isTrue l X.env whole = (do let v ← whole; standAt l.pos; holding [v] (truthy v))) : PT X l (rT X.K P B W (evT C (.e a))) := by
  refine PT.imp (pt_truth ha he) fun σ H Q ⟨env, ts, S, h⟩ => ?_
  have h : wpM W (M.bind (evO C a) fun o => M.bind (rdD o) fun p => .opt (truth p)) env _ := h
  rw [wpM_bind] at h
  refine ⟨env, ts, S, wpM_mono h fun o e h x H1 S1 => ?_⟩
  rw [wpM_bind] at h
  obtain ⟨p, lx, h⟩ := wp_rdD S1 (x := x) (by simp) h
  obtain ⟨t, e1, h⟩ := wpM_opt h
  exact ⟨t, truth_read lx e1, h _ S1.drop⟩
/-- a comparison as a test -/
theorem t_cmp {l r : Expr} {a b : E} {o : CO} {pos : Pos} (hu : X.A.units + 65 < cLine) (hm : behindInMarks (cOf o) r = false) (ha : PE X l (rO X.K P B W (evO C a))) (hb : PE X r (rO X.K P B W (evO C b))) :
    PT X (.Compare l [cOf o] [r] pos) (rT X.K P B W (evT C (.e (.cmp o a b)))) := by
  refine PT.imp (pt_cmpR (cR hu o) ha hb hm) fun σ H Q ⟨env, ts, S, h⟩ => ?_
  have h : wpM W (M.bind (evO C (.cmp o a b)) fun o => M.bind (rdD o) fun p => .opt (truth p)) env _ := h
  rw [wpM_bind] at h
  refine two_read (f := fun p q => (cmpD o p q).map fun t => MV.d (.bool t)) S h _ fun env H x y p q m S lx ly e hQ => ?_
  cases e1 : cmpD o p q with
  | none => rw [e1] at e; cases e
  | some t =>
    rw [e1] at e
    cases e
    exact cmp_read lx ly e1 ⟨t, rfl, hQ _ S⟩
theorem t_chn {l m r : Expr} {a b c : E} {o o' : CO} {pos : Pos} (hu : X.A.units + 65 < cLine) (hm : lastMarks [cOf o, cOf o'] [m, r] = false) (ha : PE X l (rO X.K P B W (evO C a))) (hb : PE X m (rO X.K P B W (evO C b))) (hc : PE X r (rO X.K P B W (evO C c))) :
    PT X (.Compare l [cOf o, cOf o'] [m, r] pos) (rT X.K P B W (evT C (.e (.chn o o' a b c)))) := by
  refine PT.imp (pt_chain (cR hu o) (cR hu o') ha hb hc hm) fun σ H Q ⟨env, ts, S, h⟩ => ?_
  have h : wpM W (M.bind (evO C (.chn o o' a b c)) fun o => M.bind (rdD o) fun p => .opt (truth p)) env _ := h
  rw [wpM_bind] at h
  exact chn_read S h _ fun t env H S h => ⟨t, rfl, h _ S⟩
theorem t_not {l : Expr} {a : T} {pos : Pos} (ha : PT X l (rT X.K P B W (evT C a))) : PT X (.UnaryOp .Not l pos) (rT X.K P B W (evT C (.nt a))) :=
  PT.imp (pt_not ha) fun σ H Q ⟨env, ts, S, h⟩ => rT_first S h _ fun b e H' S h => h H' S
theorem t_and {l r : Expr} {rest : List Expr} {a b : T} {pos : Pos} (ha : PT X l (rT X.K P B W (evT C a))) (hb : PW X (.BoolOp .And (r :: rest) pos) (rT X.K P B W (evT C b))) : PW X (.BoolOp .And (l :: r :: rest) pos) (rT X.K P B W (evT C (.an a b))) := by
  refine PW.imp (pw_and ha hb) fun σ H Q ⟨env, ts, S, h⟩ => rT_first S h _ fun b e H' S h => ?_
  cases b with
  | true => exact ⟨e, ts, S, h⟩
  | false => exact h H' S
theorem t_or {l r : Expr} {rest : List Expr} {a b : T} {pos : Pos} (ha : PT X l (rT X.K P B W (evT C a))) (hb : PW X (.BoolOp .Or (r :: rest) pos) (rT X.K P B W (evT C b))) : PW X (.BoolOp .Or (l :: r :: rest) pos) (rT X.K P B W (evT C (.or a b))) := by
  refine PW.imp (pw_or ha hb) fun σ H Q ⟨env, ts, S, h⟩ => rT_first S h _ fun b e H' S h => ?_
  cases b with
  | true => exact h H' S
  | false => exact ⟨e, ts, S, h⟩
theorem s_ite {c l r : Expr} {t : T} {a b : E} {pos : Pos} (hc : PT X c (rT X.K P B W (evT C t))) (ha : PE X l (rO X.K P B W (evO C a))) (hb : PE X r (rO X.K P B W (evO C b))) : PE X (.IfExp c l r pos) (rO X.K P B W (evO C (.ite t a b))) := by
  refine PE.imp (pe_ifExp hc ha hb) fun σ H Q ⟨env, ts, S, h⟩ => rT_first S h _ fun b e H' S h => ?_
  cases b with
  | true => exact ⟨e, ts, S, h⟩
  | false => exact ⟨e, ts, S, h⟩
/-- and, or as values -/
theorem s_an {l r : Expr} {rest : List Expr} {a b : E} {pos : Pos} (ha : PE X l (rO X.K P B W (evO C a))) (hb : PE X (.BoolOp .And (r :: rest) pos) (rO X.K P B W (evO C b))) : PE X (.BoolOp .And (l :: r :: rest) pos) (rO X.K P B W (evO C (.an a b))) := by
  refine PE.imp (pe_andT ha hb) fun σ H Q ⟨env, ts, S, h⟩ => rO_first S h _ fun o e v H' S h => ?_
  rw [wpM_bind] at h
  obtain ⟨p, env', S1, h⟩ := wp_tk S h
  have r := S1.held (v := v) (m := .d p) (by simp)
  cases e2 : truth p with
  | none => rw [e2] at h; exact h.elim
  | some t =>
    rw [e2] at h
    refine ⟨t, truth_read (Fz.lk r) e2, ?_⟩
    cases t with
    | true => exact ⟨env', ts, S1.drop, h⟩
    | false => exact h v H' S1
theorem s_or {l r : Expr} {rest : List Expr} {a b : E} {pos : Pos} (ha : PE X l (rO X.K P B W (evO C a))) (hb : PE X (.BoolOp .Or (r :: rest) pos) (rO X.K P B W (evO C b))) : PE X (.BoolOp .Or (l :: r :: rest) pos) (rO X.K P B W (evO C (.or a b))) := by
  refine PE.imp (pe_orT ha hb) fun σ H Q ⟨env, ts, S, h⟩ => rO_first S h _ fun o e v H' S h => ?_
  rw [wpM_bind] at h
  obtain ⟨p, env', S1, h⟩ := wp_tk S h
  have r := S1.held (v := v) (m := .d p) (by simp)
  cases e2 : truth p with
  | none => rw [e2] at h; exact h.elim
  | some t =>
    rw [e2] at h
    refine ⟨t, truth_read (Fz.lk r) e2, ?_⟩
    cases t with
    | true => exact h v H' S1
    | false => exact ⟨env', ts, S1.drop, h⟩
end
end PD
end
section
set_option linter.all false
set_option maxRecDepth 100000
namespace PD
open PySem L2

section
variable {K : PySem.W.Frag} {P : Pl} {B : Base} {env env' : Env} {ts ts' : List (V × O)} {σ σ' : St} {H H' : Hp}
theorem cell_push {v : V} {m : MV} {q : Nat} {c : V × MV} (e : cell env σ (ts ++ [(v, .v m)]) q = some c) : (cell env σ ts q = some c ∧ q ≠ env.length + ts.length) ∨ (c = (v, m) ∧ q = env.length + ts.length) := by
  by_cases hp : q < env.length
  · rw [cell_lt hp] at e ⊢; exact .inl ⟨e, by omega⟩
  · have e1 := cell_held_inv (by omega) e
    by_cases hl : q - env.length < ts.length
    · rw [List.getElem?_append_left hl] at e1
      left; rw [cell_ge (by omega), e1]; exact ⟨rfl, by omega⟩
    · rw [List.getElem?_append_right (by omega)] at e1
      have : q - env.length - ts.length = 0 := by
        have := (List.getElem?_eq_some_iff.mp e1).1
        simpa using this
      rw [this] at e1
      simp at e1
      right; exact ⟨Prod.ext e1.1.symm e1.2.symm, by omega⟩
theorem rt_push {v : V} {m : MV} {q : Nat} {a : Addr} (r : Rt (cell env σ (ts ++ [(v, .v m)])) q a) : Rt (cell env σ ts) q a ∨ (v = .ref a ∧ m.own = true ∧ q = env.length + ts.length) := by
  obtain ⟨m', e, o⟩ := r
  rcases cell_push e with ⟨x, _⟩ | ⟨x, y⟩
  · exact .inl ⟨m', x, o⟩
  · cases x; exact .inr ⟨rfl, o, y⟩
/-- a value more is held, of any kind -/
theorem Sim.pushAL (S : Sim K P B env ts σ H) {v : V} {m : MV} (h1 : ∀ b o, H b = some o → GoB B (cell env σ ts) H' b o) (hn : ∀ a, v = .ref a → m.own = true → H a = none)
    (h : Rp K P (Zf B (cell env σ (ts ++ [(v, .v m)]))) H' v m) : Sim K P B env (ts ++ [(v, .v m)]) σ H' := by
  refine ⟨S.len, S.val, fun w i h => ?_, S.cs.stepL (fun _ => False) (fun b o e _ => h1 b o e) (fun _ c => c.elim) (fun q w m' e => ?_) (fun q b r => ?_) (fun q q' b r r' nb => ?_), S.ios⟩
  · rcases List.mem_append.mp h with h | h
    · exact S.ref w i h
    · simp at h
  · rcases cell_push e with ⟨x, _⟩ | ⟨x, _⟩
    · exact .inl ⟨x, fun _ _ c => c⟩
    · cases x; exact .inr h
  · rcases rt_push r with x | ⟨x, y, _⟩
    · exact .inl x
    · exact .inr (hn b x y)
  · rcases rt_push r with x | ⟨_, _, x⟩
    · obtain ⟨u, hu, _⟩ := Rt.some S.cs x
      rw [nb] at hu; cases hu
    · rcases rt_push r' with y | ⟨_, _, y⟩
      · obtain ⟨u, hu, _⟩ := Rt.some S.cs y
        rw [nb] at hu; cases hu
      · omega
theorem Sim.pushA (S : Sim K P B env ts σ H) {v : V} {m : MV} (h1 : ∀ b o, H b = some o → H' b = some o) (hn : ∀ a, v = .ref a → m.own = true → H a = none)
    (h : Rp K P (Zf B (cell env σ (ts ++ [(v, .v m)]))) H' v m) : Sim K P B env (ts ++ [(v, .v m)]) σ H' := S.pushAL (fun b o e => .inl (h1 b o e)) hn h

/-! ### a call's promise -/
def argCell (vs : List V) (ms : List MV) : Cells := fun p => match vs[p]?, ms[p]? with
  | some v, some m => some (v, m)
  | _, _ => none
def resCell (v : V) (m : MV) (r : Addr) (io : Option MV) : Cells := fun p => if p = 0 then some (v, m) else if p = 1 then io.map fun m' => (.ref r, m') else none
/-- an error of the class c with the values as, held by its own dict -/
def ExR (K : PySem.W.Frag) (P : Pl) (Z : Addr → Prop) (H : Hp) (c : Nat) (as : List PyData) (cls : Value) (d : Option Addr) : Prop := P.exr c cls ∧ True
def spOf (K : PySem.W.Frag) (P : Pl) (c : Callee) : Sp := fun vs H Q E => ∃ (ms : List MV) (B : Base) (r : Addr),
  vs.length = ms.length ∧ B.H0 = H ∧ CS K P B (argCell vs ms) H ∧
  (match c.io with
    | none => B.io = [] ∧ ∀ m ∈ ms, m.own = false
    | some j => ∃ m, B.io = [(j, r)] ∧ vs[j]? = some (.ref r) ∧ ms[j]? = some m ∧ m.free = true ∧ ∀ i m', i ≠ j → ms[i]? = some m' → m'.own = false) ∧
  match c.run ms with
  | .ok m io => ∀ v H', CS K P B (resCell v m r io) H' → Q v H'
  | .exc k as io => ∀ cls d H', CS K P B (resCell .non (.d .none) r io) H' → ExR K P (Zf B (resCell .non (.d .none) r io)) H' k as cls d → E cls d H'
  | .no => False

theorem passO_some {o : O} {m : MV} (h : passO o env = some m) : isP m = true ∧ (o = .v m ∨ ∃ i, o = .r i ∧ env.at i = some m) := by
  cases o with
  | v m' =>
    have h : (if isP m' = true then some m' else none) = some m := h
    split at h
    · cases h; rename_i hp; exact ⟨hp, .inl rfl⟩
    · cases h
  | r i =>
    unfold passO at h
    cases e : env.at i with
    | none => simp only [e] at h; cases h
    | some m' =>
      simp only [e] at h
      split at h
      · cases h; rename_i hp; exact ⟨hp, .inr ⟨i, rfl, e⟩⟩
      · cases h
theorem isP_own {m : MV} (h : isP m = true) : m.own = false := by cases m <;> first | rfl | cases h
theorem tkA_ok {o : O} {m : MV} (h : tkA o env = .ok m env') : (isP m = true ∧ env' = env ∧ (o = .v m ∨ ∃ i, o = .r i ∧ env.at i = some m)) ∨ ∃ p, m = .d p ∧ tk o env = .ok p env' := by
  unfold tkA at h
  split at h
  · rename_i f e; cases h; obtain ⟨h1, h2⟩ := passO_some e; exact .inl ⟨h1, rfl, h2⟩
  · obtain ⟨p, e, h1, h2⟩ := bind_ok h; cases h2; exact .inr ⟨p, rfl, h1⟩
theorem tkA_exc {o : O} {c as} : tkA o env ≠ .exc c as env' := by
  intro h
  unfold tkA at h
  split at h
  · cases h
  · rcases bind_exc h with h | ⟨_, _, _, h⟩
    · exact tk_exc h
    · cases h
theorem Sim.fnT (S : Sim K P B env (ts ++ (v, .r i) :: ts') σ H) {m0 : MV} (e : env.at i = some m0) (hP : isP m0 = true) : Sim K P B env (ts ++ (v, .v m0) :: ts') σ H := by
  have key := cell_rep (env := env) (σ := σ) (ts := ts) (ts' := ts') (v := v) (w := v) (o := .r i) (o' := .v m0)
  obtain ⟨w, hw, c0, r⟩ := S.name e
  have hvw : σ[i]? = some (some v) := S.ref v i (List.mem_append_right _ List.mem_cons_self)
  rw [hw] at hvw; cases hvw
  have rt : ∀ p a, Rt (cell env σ (ts ++ (v, .v m0) :: ts')) p a → Rt (cell env σ (ts ++ (v, .r i) :: ts')) p a := fun p a ⟨k, ek, ok⟩ => by
    rw [key] at ek
    by_cases hp : p = env.length + ts.length
    · rw [if_pos hp] at ek; cases ek; rw [isP_own hP] at ok; cases ok
    · rw [if_neg hp] at ek; exact ⟨k, ek, ok⟩
  refine ⟨S.len, S.val, fun w i h => S.ref w i ?_, S.cs.step (fun _ => False) (fun a o x _ => x) (fun a c => c.elim) (fun p w k ek => ?_) (fun p a r => .inl (rt p a r)) (fun p p' a r r' _ => S.cs.inj p p' a (rt p a r) (rt p' a r')), S.ios⟩
  · rcases List.mem_append.mp h with h | h
    · exact List.mem_append_left _ h
    · rcases List.mem_cons.mp h with h | h
      · cases h
      · exact List.mem_append_right _ (List.mem_cons_of_mem _ h)
  · rw [key] at ek
    by_cases hp : p = env.length + ts.length
    · rw [if_pos hp] at ek
      cases ek
      exact .inr (r.go (fun a o x z => ⟨x, Zf.less rt z⟩) (fun _ _ x => x) (fun _ _ _ x => x) fun _ _ _ _ x => x)
    · rw [if_neg hp] at ek
      exact .inl ⟨ek, fun _ _ c => c⟩
theorem Sim.tkA {v : V} {o : O} {m : MV} (S : Sim K P B env (ts ++ (v, o) :: ts') σ H) (h : PD.tkA o env = .ok m env') : Sim K P B env' (ts ++ (v, .v m) :: ts') σ H ∧ m.own = false := by
  rcases tkA_ok h with ⟨hp, rfl, rfl | ⟨i, rfl, e⟩⟩ | ⟨p, rfl, h1⟩
  · exact ⟨S, isP_own hp⟩
  · exact ⟨S.fnT e hp, isP_own hp⟩
  · exact ⟨S.tk h1, rfl⟩
/-- what is held behind the taking of all but the j-th -/
def mix : Option Nat → List O → List MV → List O
  | some 0, o :: _, _ :: ms => o :: ms.map O.v
  | some (j + 1), _ :: os, m :: ms => .v m :: mix (some j) os ms
  | _, _, ms => ms.map O.v
def hldM (vs : List V) (ms : List MV) : List (V × O) := vs.zip (ms.map O.v)
theorem tkAs_exc : ∀ {os : List O} {j c as} {env env' : Env}, PD.tkAs j os env ≠ .exc c as env' := by
  intro os
  induction os with
  | nil => intro j c as env env' h; cases j with
    | none => cases h
    | some j => cases j <;> cases h
  | cons o os ih =>
    intro j c as env env' h
    cases j with
    | none =>
      rcases bind_exc h with h | ⟨p, e, h1, h2⟩
      · exact tkA_exc h
      · rcases bind_exc h2 with h | ⟨qs, e2, h3, h4⟩
        · exact ih h
        · cases h4
    | some j => cases j with
      | zero =>
        rcases bind_exc h with h | ⟨qs, e2, h3, h4⟩
        · exact ih h
        · cases h4
      | succ j =>
        rcases bind_exc h with h | ⟨p, e, h1, h2⟩
        · exact tkA_exc h
        · rcases bind_exc h2 with h | ⟨qs, e2, h3, h4⟩
          · exact ih h
          · cases h4
theorem Sim.tkAs : ∀ {os : List O} {j : Option Nat} {vs : List V} {ms : List MV} {env env' : Env} {ts : List (V × O)}, vs.length = os.length → Sim K P B env (ts ++ vs.zip os ++ ts') σ H → PD.tkAs j os env = .ok ms env' →
    Sim K P B env' (ts ++ vs.zip (mix j os ms) ++ ts') σ H ∧ ms.length = os.length ∧ ∀ m ∈ ms, m.own = false := by
  intro os
  induction os with
  | nil =>
    intro j vs ms env env' ts hl S h
    cases vs with
    | cons _ _ => simp at hl
    | nil =>
      have : ms = [] ∧ env' = env := by cases j with
        | none => cases h; exact ⟨rfl, rfl⟩
        | some j => cases j <;> (cases h; exact ⟨rfl, rfl⟩)
      obtain ⟨rfl, rfl⟩ := this
      exact ⟨by simpa using S, rfl, fun _ z => nomatch z⟩
  | cons o os ih =>
    intro j vs ms env env' ts hl S h
    cases vs with
    | nil => simp at hl
    | cons v vs =>
      have S1 : Sim K P B env (ts ++ (v, o) :: (vs.zip os ++ ts')) σ H := by simpa using S
      have hl' : vs.length = os.length := by simpa using hl
      have two : ∀ j', (M.bind (PD.tkA o) fun m => M.bind (PD.tkAs j' os) fun ms => .pure (m :: ms)) env = .ok ms env' →
          ∃ m ms', ms = m :: ms' ∧ Sim K P B env' (ts ++ (v, .v m) :: (vs.zip (mix j' os ms') ++ ts')) σ H ∧ ms'.length = os.length ∧ m.own = false ∧ ∀ m ∈ ms', m.own = false := fun j' h => by
        obtain ⟨p, e, h1, h2⟩ := bind_ok h
        obtain ⟨qs, e2, h3, h4⟩ := bind_ok h2
        cases h4
        obtain ⟨S2, hp⟩ := S1.tkA h1
        have S3 : Sim K P B e ((ts ++ [(v, .v p)]) ++ vs.zip os ++ ts') σ H := by simpa using S2
        obtain ⟨S4, hq, ho⟩ := ih hl' S3 h3
        exact ⟨p, qs, rfl, by simpa using S4, hq, hp, ho⟩
      cases j with
      | none =>
        obtain ⟨m, ms', rfl, S4, hq, hp, ho⟩ := two none h
        refine ⟨by cases os with | nil => simpa [mix] using S4 | cons _ _ => simpa [mix] using S4, by simp [hq], fun m hm => ?_⟩
        rcases List.mem_cons.mp hm with rfl | hm
        · exact hp
        · exact ho m hm
      | some j => cases j with
        | zero =>
          obtain ⟨qs, e2, h3, h4⟩ := bind_ok h
          cases h4
          have S3 : Sim K P B env ((ts ++ [(v, o)]) ++ vs.zip os ++ ts') σ H := by simpa using S1
          obtain ⟨S4, hq, ho⟩ := ih hl' S3 h3
          refine ⟨by cases os with | nil => simpa [mix] using S4 | cons _ _ => simpa [mix] using S4, by simp [hq], fun m hm => ?_⟩
          rcases List.mem_cons.mp hm with rfl | hm
          · rfl
          · exact ho m hm
        | succ j =>
          obtain ⟨m, ms', rfl, S4, hq, hp, ho⟩ := two (some j) h
          refine ⟨by simpa [mix] using S4, by simp [hq], fun m hm => ?_⟩
          rcases List.mem_cons.mp hm with rfl | hm
          · exact hp
          · exact ho m hm
theorem mix_none (os : List O) (ms : List MV) : mix none os ms = ms.map O.v := by
  cases os <;> cases ms <;> rfl
theorem mix_get : ∀ {j : Nat} {os : List O} {ms : List MV} {p : Nat} {m : MV}, p ≠ j → ms[p]? = some m → ms.length = os.length → (mix (some j) os ms)[p]? = some (.v m)
  | 0, o :: os, m' :: ms, p, m, hp, h, hl => by
    cases p with
    | zero => exact absurd rfl hp
    | succ p => simpa [mix] using h
  | j + 1, o :: os, m' :: ms, p, m, hp, h, hl => by
    cases p with
    | zero => simpa [mix] using h
    | succ p =>
      simp only [mix, List.getElem?_cons_succ]
      exact mix_get (by omega) (by simpa using h) (by simpa using hl)
  | 0, [], m' :: ms, _, _, _, _, hl => by simp at hl
  | 0, [], [], _, _, _, h, _ => by simp at h
  | 0, _ :: _, [], _, _, _, h, _ => by simp at h
  | j + 1, [], _, _, _, _, h, hl => by
    have := List.eq_nil_of_length_eq_zero hl
    subst this; simp at h
  | j + 1, _ :: _, [], _, _, _, h, _ => by simp at h
theorem mix_at : ∀ {j : Nat} {os : List O} {ms : List MV} {o : O}, os[j]? = some o → ms.length = os.length → (mix (some j) os ms)[j]? = some o
  | 0, o' :: os, m' :: ms, o, h, hl => by simpa [mix] using h
  | j + 1, o' :: os, m' :: ms, o, h, hl => by
    simp only [mix, List.getElem?_cons_succ]
    exact mix_at (by simpa using h) (by simpa using hl)
  | 0, [], _, _, h, _ => by simp at h
  | 0, _ :: _, [], _, _, hl => by simp at hl
  | _ + 1, [], _, _, h, _ => by simp at h
  | _ + 1, _ :: _, [], _, _, hl => by simp at hl
theorem hldM_get {vs : List V} {ms : List MV} {p : Nat} {v : V} {m : MV} (h1 : vs[p]? = some v) (h2 : ms[p]? = some m) : (v, O.v m) ∈ hldM vs ms := by
  refine List.mem_of_getElem? (i := p) ?_
  unfold hldM
  rw [List.getElem?_zip_eq_some]
  exact ⟨h1, by simp [h2]⟩
theorem argCell_inv {vs : List V} {ms : List MV} {p : Nat} {c : V × MV} (h : argCell vs ms p = some c) : vs[p]? = some c.1 ∧ ms[p]? = some c.2 := by
  unfold argCell at h
  split at h
  · rename_i v m e1 e2; cases h; exact ⟨e1, e2⟩
  · cases h

/-- a call without an in-out argument -/
theorem Sim.call0 (S : Sim K P B env (ts ++ hldM vs ms) σ H) (hl : vs.length = ms.length) (ho : ∀ m ∈ ms, m.own = false) :
    ∃ Bc : Base, Bc.H0 = H ∧ Bc.io = [] ∧ CS K P Bc (argCell vs ms) H ∧ ∀ v m r H', CS K P Bc (resCell v m r none) H' → Sim K P B env (ts ++ [(v, .v m)]) σ H' := by
  have no : ∀ p a, ¬ Rt (argCell vs ms) p a := fun p a ⟨m, e, o⟩ => by
    obtain ⟨_, h2⟩ := argCell_inv e
    rw [ho m (List.mem_of_getElem? h2)] at o; cases o
  refine ⟨⟨fun a => B.N0 a ∨ ∃ p, Rt (cell env σ (ts ++ hldM vs ms)) p a, H, []⟩, rfl, rfl, ⟨fun p v m e => ?_, fun p q a r _ => absurd r (no p a), fun p a r => absurd r (no p a), fun a n => ?_, fun a o h _ => .inl h⟩, fun v m r H' c => ?_⟩
  · obtain ⟨h1, h2⟩ := argCell_inv e
    refine (S.held (List.mem_append_right _ (hldM_get h1 h2))).go (fun a o x z => ⟨x, fun q r => no q a r, fun n => ?_⟩) (fun _ _ x => x) (fun _ _ _ x => x) fun _ _ _ _ x => x
    rcases n with n | ⟨q, r⟩
    · exact z.2 n
    · exact z.1 q r
  · rcases n with n | ⟨q, r⟩
    · exact S.cs.dom a n
    · obtain ⟨o, h, _⟩ := Rt.some S.cs r
      exact ⟨o, h⟩
  · have c0 : resCell v m r none 0 = some (v, m) := rfl
    have h1 : ∀ b o, H b = some o → GoB B (cell env σ ts) H' b o := fun b o e => by
      rcases c.frm b o e fun ⟨j, h⟩ => nomatch h with x | ⟨x, y, z⟩
      · exact .inl x
      · exact .inr ⟨y, z, fun p rr => x (.inr ⟨p, rt_drop rr⟩), fun n => x (.inl n)⟩
    refine S.drop.pushAL h1 (fun a ev om => ?_) ((c.rep 0 v m c0).go (fun a o x z => ⟨x, fun q rr => ?_, fun n => z.2 (.inl n)⟩) (fun _ _ x => x) (fun _ _ _ x => x) fun _ _ _ _ x => x)
    · subst ev
      rcases (c.out 0 a ⟨m, c0, om⟩).2 with ⟨j, h⟩ | h
      · cases h
      · exact h
    · rcases rt_push rr with x | ⟨x, y, _⟩
      · exact z.2 (.inr ⟨q, rt_drop x⟩)
      · subst x
        exact z.1 0 ⟨m, c0, y⟩

theorem MV.free_own {m : MV} (h : m.free = true) : m.own = true := by cases m <;> first | rfl | cases h
theorem free_frz {Z : Addr → Prop} {a : Addr} {m : MV} (h : m.free = true) (r : Rp K P Z H (.ref a) m) : (∀ o u, H a ≠ some (.frz o u)) ∧ ∃ o, H a = some o := by
  cases m with
  | ml xs => obtain ⟨b, vs, e, hb, _⟩ := r; cases e; exact ⟨fun o u z => (by rw [hb] at z; cases z), _, hb⟩
  | md xs =>
    obtain ⟨b, o, e, hb, d⟩ := r
    cases e
    refine ⟨fun o' u z => ?_, _, hb⟩
    rw [hb] at z
    rcases d with ⟨_, _, _, e, _⟩ | ⟨_, _, _, e, _⟩ <;> (subst e; cases z)
  | _ => cases h
/-- a call with an in-out argument: the name i's value, the j-th argument -/
theorem Sim.call1 {vs : List V} {os : List O} {ms : List MV} {i j : Nat} {m0 : MV} (S : Sim K P B env (ts ++ vs.zip (mix (some j) os ms)) σ H) (hl : vs.length = os.length) (hm : ms.length = os.length) (ho : ∀ m ∈ ms, m.own = false)
    (hj : os[j]? = some (.r i)) (hi : env.at i = some m0) (hf : m0.free = true) :
    ∃ (Bc : Base) (r : Addr), Bc.H0 = H ∧ Bc.io = [(j, r)] ∧ vs[j]? = some (.ref r) ∧ CS K P Bc (argCell vs (ms.set j m0)) H ∧
      ∀ v m m1 H', m1.free = true → CS K P Bc (resCell v m r (some m1)) H' → Sim K P B (env.set i (some m1)) (ts ++ [(v, .v m)]) σ H' := by
  have hjl : j < os.length := (List.getElem?_eq_some_iff.mp hj).1
  obtain ⟨w, hw, c0, r0⟩ := S.name hi
  obtain ⟨r, o, rfl, hr, _⟩ := r0.root (MV.free_own hf)
  have hvj : vs[j]? = some (.ref r) := by
    have e : vs[j]? = some vs[j] := List.getElem?_eq_getElem (by omega)
    have mem : (vs[j], O.r i) ∈ ts ++ vs.zip (mix (some j) os ms) := List.mem_append_right _ (List.mem_of_getElem? (i := j) (List.getElem?_zip_eq_some.mpr ⟨e, mix_at hj hm⟩))
    have := S.ref _ _ mem
    rw [hw] at this
    rw [e, ← Option.some.inj (Option.some.inj this)]
  have msj : (ms.set j m0)[j]? = some m0 := by rw [List.getElem?_set_self (by omega)]
  have cj : argCell vs (ms.set j m0) j = some (.ref r, m0) := by unfold argCell; rw [hvj, msj]
  have rts : ∀ p a, Rt (argCell vs (ms.set j m0)) p a → p = j ∧ a = r := fun p a ⟨m, e, o⟩ => by
    obtain ⟨h1, h2⟩ := argCell_inv e
    by_cases hp : p = j
    · subst hp
      rw [hvj] at h1
      exact ⟨rfl, by cases h1; rfl⟩
    · rw [List.getElem?_set_ne (Ne.symm hp)] at h2
      rw [ho m (List.mem_of_getElem? h2)] at o; cases o
  have ri : Rt (cell env σ (ts ++ vs.zip (mix (some j) os ms))) i r := ⟨m0, c0, MV.free_own hf⟩
  have ff := free_frz hf (S.cs.rep _ _ _ c0)
  refine ⟨⟨fun a => B.N0 a ∨ ∃ p, p ≠ i ∧ Rt (cell env σ (ts ++ vs.zip (mix (some j) os ms))) p a, H, [(j, r)]⟩, r, rfl, rfl, hvj, ⟨fun p v m e => ?_, fun p q a x y => ?_, fun p a x => ?_, fun a n => ?_, fun a o h _ => .inl h⟩, fun v m m1 H' hf1 c => ?_⟩
  · have zz : ∀ a, Zf B (cell env σ (ts ++ vs.zip (mix (some j) os ms))) a → Zf ⟨fun a => B.N0 a ∨ ∃ p, p ≠ i ∧ Rt (cell env σ (ts ++ vs.zip (mix (some j) os ms))) p a, H, [(j, r)]⟩ (argCell vs (ms.set j m0)) a := fun a z => by
      refine ⟨fun q rr => ?_, fun n => ?_⟩
      · obtain ⟨_, rfl⟩ := rts q a rr
        exact z.1 i ri
      · rcases n with n | ⟨q, _, rr⟩
        · exact z.2 n
        · exact z.1 q rr
    obtain ⟨h1, h2⟩ := argCell_inv e
    by_cases hp : p = j
    · subst hp
      rw [msj] at h2; rw [hvj] at h1
      cases h1; cases h2
      exact (S.cs.rep _ _ _ c0).go (fun a o x z => ⟨x, zz a z⟩) (fun _ _ x => x) (fun _ _ _ x => x) fun _ _ _ _ x => x
    · rw [List.getElem?_set_ne (Ne.symm hp)] at h2
      have mem : (v, O.v m) ∈ ts ++ vs.zip (mix (some j) os ms) := List.mem_append_right _ (List.mem_of_getElem? (i := p) (List.getElem?_zip_eq_some.mpr ⟨h1, mix_get hp h2 hm⟩))
      exact (S.held mem).go (fun a o x z => ⟨x, zz a z⟩) (fun _ _ x => x) (fun _ _ _ x => x) fun _ _ _ _ x => x
  · rw [(rts p a x).1, (rts q a y).1]
  · obtain ⟨_, rfl⟩ := rts p a x
    refine ⟨fun n => ?_, .inl ⟨j, List.mem_singleton.mpr rfl⟩⟩
    rcases n with n | ⟨q, hq, rr⟩
    · exact (S.cs.out i a ri).1 n
    · exact hq (S.cs.inj q i a rr ri)
  · rcases n with n | ⟨q, _, rr⟩
    · exact S.cs.dom a n
    · obtain ⟨o, h, _⟩ := Rt.some S.cs rr
      exact ⟨o, h⟩
  · -- behind the call
    have k0 : resCell v m r (some m1) 0 = some (v, m) := rfl
    have k1 : resCell v m r (some m1) 1 = some (.ref r, m1) := rfl
    have own1 : m1.own = true := MV.free_own hf1
    have hil : i < env.length := (List.getElem?_eq_some_iff.mp (at_some hi)).1
    have h1 : ∀ a o, H a = some o → ¬ a = r → GoB B (cell env σ ts) H' a o := fun a o e ne => by
      rcases c.frm a o e fun ⟨k, hk⟩ => ne (by have := List.mem_singleton.mp hk; cases this; rfl) with x | ⟨x, y, z⟩
      · exact .inl x
      · refine .inr ⟨y, z, fun p rr => ?_, fun n => x (.inl n)⟩
        by_cases hp : p = i
        · subst hp
          have c1 := S.drop (ts := ts)
          have := c1.cs.inj p p a rr rr
          obtain ⟨k, ek, _⟩ := rr
          rw [cell_name (at_some hi) hw] at ek
          cases ek
          exact ne rfl
        · exact x (.inr ⟨p, hp, rt_drop rr⟩)
    obtain ⟨_, o1, ho1⟩ := free_frz hf1 (c.rep 1 _ _ k1)
    -- the result's root is new
    have newr : ∀ a, v = .ref a → m.own = true → H a = none := fun a ev om => by
      subst ev
      rcases (c.out 0 a ⟨m, k0, om⟩).2 with ⟨k, hk⟩ | h
      · have := List.mem_singleton.mp hk
        cases this
        have := c.inj 0 1 r ⟨m, k0, om⟩ ⟨m1, k1, own1⟩
        omega
      · exact h
    have cs := cell_set (ts := ts ++ [(v, .v m)]) (m := m1) hw hil
    have S0 := S.drop (ts := ts)
    have c00 : cell env σ ts i = some (.ref r, m0) := cell_name (at_some hi) hw
    have inv : ∀ q c', cell (env.set i (some m1)) σ (ts ++ [(v, .v m)]) q = some c' → (q = i ∧ c' = (.ref r, m1)) ∨ (q ≠ i ∧ cell env σ ts q = some c') ∨ (q = env.length + ts.length ∧ c' = (v, m)) := fun q c' e => by
      rw [cs] at e
      by_cases hq : q = i
      · rw [if_pos hq] at e; cases e; exact .inl ⟨hq, rfl⟩
      · rw [if_neg hq] at e
        rcases cell_push e with ⟨x, _⟩ | ⟨x, y⟩
        · exact .inr (.inl ⟨hq, x⟩)
        · exact .inr (.inr ⟨y, x⟩)
    have rt : ∀ q a, Rt (cell (env.set i (some m1)) σ (ts ++ [(v, .v m)])) q a → Rt (cell env σ ts) q a ∨ (q = env.length + ts.length ∧ v = .ref a ∧ m.own = true) := fun q a ⟨k, e, o⟩ => by
      rcases inv q _ e with ⟨rfl, z⟩ | ⟨_, z⟩ | ⟨e1, z⟩
      · cases z; exact .inl ⟨m0, c00, MV.free_own hf⟩
      · exact .inl ⟨k, z, o⟩
      · cases z; exact .inr ⟨e1, rfl, o⟩
    have zz : ∀ a, Zf ⟨fun a => B.N0 a ∨ ∃ p, p ≠ i ∧ Rt (cell env σ (ts ++ vs.zip (mix (some j) os ms))) p a, H, [(j, r)]⟩ (resCell v m r (some m1)) a → Zf B (cell (env.set i (some m1)) σ (ts ++ [(v, .v m)])) a := fun a z => by
      refine ⟨fun q rr => ?_, fun n => z.2 (.inl n)⟩
      rcases rt q a rr with x | ⟨_, x, y⟩
      · by_cases hq : q = i
        · subst hq
          obtain ⟨k, e, o⟩ := x
          rw [c00] at e; cases e
          exact z.1 1 ⟨m1, k1, own1⟩
        · exact z.2 (.inr ⟨q, hq, rt_drop x⟩)
      · subst x
        exact z.1 0 ⟨m, k0, y⟩
    refine ⟨by rw [List.length_set]; exact S.len, fun k mk ek => ?_, fun w k hk => ?_, S0.cs.stepL (fun a => a = r) h1 (fun a e => ?_) (fun q w k e => ?_) (fun q a x => ?_) (fun q q' a x y nb => ?_), S.ios⟩
    · rw [set_at] at ek
      by_cases hk : i = k
      · subst hk; exact ⟨_, hw⟩
      · rw [if_neg hk] at ek; exact S.val k mk ek
    · rcases List.mem_append.mp hk with hk | hk
      · exact S.ref w k (List.mem_append_left _ hk)
      · simp at hk
    · subst e
      exact ⟨⟨i, m0, c00, MV.free_own hf⟩, ff.1, o1, ho1⟩
    · rcases inv q _ e with ⟨rfl, z⟩ | ⟨hq, z⟩ | ⟨_, z⟩
      · cases z
        exact .inr ((c.rep 1 _ _ k1).go (fun a o x z => ⟨x, zz a z⟩) (fun _ _ x => x) (fun _ _ _ x => x) fun _ _ _ _ x => x)
      · refine .inl ⟨z, fun a x e => ?_⟩
        subst e
        exact hq (S0.cs.inj q i a x ⟨m0, c00, MV.free_own hf⟩)
      · cases z
        exact .inr ((c.rep 0 _ _ k0).go (fun a o x z => ⟨x, zz a z⟩) (fun _ _ x => x) (fun _ _ _ x => x) fun _ _ _ _ x => x)
    · rcases rt q a x with x | ⟨_, x, y⟩
      · exact .inl (by
          obtain ⟨k, e, o⟩ := x
          exact ⟨k, e, o⟩)
      · exact .inr (newr a x y)
    · rcases rt q a x with x | ⟨x, _⟩
      · obtain ⟨u, hu, _⟩ := Rt.some S0.cs x
        rw [nb] at hu; cases hu
      · rcases rt q' a y with y | ⟨y, _⟩
        · obtain ⟨u, hu, _⟩ := Rt.some S0.cs y
          rw [nb] at hu; cases hu
        · omega
end
end PD
end
section
set_option linter.all false
set_option maxRecDepth 100000
namespace PD
open PySem L2

/-- what an error leaves: as the interpreter's -/
def wX (K : PySem.W.Frag) (P : Pl) (B : Base) (W : Wi) : WX := fun cls d σ H => ∃ c as env, W c as env ∧ Sim K P B env [] σ H ∧ ExR K P (Zf B (cell env σ [])) H c as cls d

section
variable {X : Cx} {P : Pl} {B : Base} {W : Wi} {σ : St} {H : Hp} {C : Nat → Callee}

/-! ### argument lists -/
theorem s_nil : PA X [] (rL X.K P B W (evL C .nil)) := PA.imp pa_nil fun σ H Q ⟨env, ts, S, h⟩ => h [] H rfl (by simpa using S)
theorem s_cons {e : Expr} {es : List Expr} {a : E} {as : EL} (he : PE X e (rO X.K P B W (evO C a))) (hr : PA X es (rL X.K P B W (evL C as))) (hs : starEach (e :: es) X.env = (false, eval e X.env) :: starEach es X.env) :
    PA X (e :: es) (rL X.K P B W (evL C (.cons a as))) := by
  refine PA.imp (pa_cons he hr hs) fun σ H Q ⟨env, ts, S, h⟩ => ?_
  have h : wpM W (M.bind (evO C a) fun x => M.bind (evL C as) fun xs => .pure (x :: xs)) env _ := h
  rw [wpM_bind] at h
  refine ⟨env, ts, S, wpM_mono h fun o e h v H1 S1 => ?_⟩
  rw [wpM_bind] at h
  refine ⟨e, ts ++ [(v, o)], S1, wpM_mono h fun os e2 h vs H2 hl S2 => ?_⟩
  exact h (v :: vs) H2 (by simp [hl]) (by simpa using S2)

/-! ### tuples, lists -/
theorem s_tup {es : List Expr} {as : EL} {k pos} (h : PA X es (rL X.K P B W (evL C as))) : PE X (.Tuple es k pos) (rO X.K P B W (evO C (.tup as))) := by
  refine PE.imp (pe_tup h) fun σ H Q ⟨env, ts, S, h⟩ => rL_first S h _ fun os e vs H' hl S h => ?_
  rw [wpM_bind] at h
  obtain ⟨ps, env', S1, hp, h⟩ := wp_tkAll (ts' := []) hl (by simpa using S) h
  rw [List.append_nil] at S1
  have r := Sim.heldL hp (fun x hx => List.mem_append_right _ hx) S1
  by_cases hz : ps.length ≤ line
  · rw [if_pos hz] at h
    refine ⟨by rw [line_eq, hp]; exact hz, fun p np => h _ _ (S1.drop.newT np r.drop')⟩
  · rw [if_neg hz] at h; exact h.elim
theorem s_lst {es : List Expr} {as : EL} {pos} (h : PA X es (rL X.K P B W (evL C as))) : PE X (.List es pos) (rO X.K P B W (evO C (.lst as))) := by
  refine PE.imp (pe_lst h) fun σ H Q ⟨env, ts, S, h⟩ => rL_first S h _ fun os e vs H' hl S h => ?_
  rw [wpM_bind] at h
  obtain ⟨ps, env', S1, hp, h⟩ := wp_tkAll (ts' := []) hl (by simpa using S) h
  rw [List.append_nil] at S1
  have r := Sim.heldL hp (fun x hx => List.mem_append_right _ hx) S1
  by_cases hz : ps.length ≤ line
  · rw [if_pos hz] at h
    refine ⟨by rw [line_eq, hp]; exact hz, fun p np => h _ _ (S1.drop.newL np r.drop')⟩
  · rw [if_neg hz] at h; exact h.elim

/-! ### calls -/
theorem Sim.none {K : PySem.W.Frag} {env : Env} {ts : List (V × O)} (S : Sim K P B env ts σ H) : Sim K P B env [] σ H := Sim.drop (ts := []) (ts' := ts) (by simpa using S)
theorem own_sp {c : Callee} {env : Env} {ts : List (V × O)} {os : List O} {vs : List V} {Q : VK} (hl : vs.length = os.length) (S : Sim X.K P B env (ts ++ vs.zip os) σ H) (h : wpM W (own c os) env fun o' env' => ∀ w H'', Sim X.K P B env' (ts ++ [(w, o')]) σ H'' → Q w H'') : spOf X.K P c vs H Q fun cls d H' => wX X.K P B W cls d σ H' := by
  unfold wpM own M.bind at h
  cases e : tkAs c.io os env with
  | exc c as env' => exact absurd e tkAs_exc
  | no => rw [e] at h; exact h.elim
  | ok ms env' =>
    rw [e] at h
    dsimp only at h
    obtain ⟨S1, hm, ho⟩ := Sim.tkAs (ts' := []) hl (by simpa using S) e
    rw [List.append_nil] at S1
    cases ei : c.io with
    | none =>
      rw [ei] at h S1
      rw [mix_none] at S1
      dsimp only at h
      obtain ⟨Bc, h0, hio, cs, post⟩ := Sim.call0 S1 (by omega) ho
      refine ⟨ms, Bc, 0, by omega, h0, cs, ?_, ?_⟩
      · rw [ei]; exact ⟨hio, ho⟩
      · cases er : c.run ms with
        | no => rw [er] at h; exact h
        | ok m io =>
          rw [er] at h
          cases io with
          | none => exact fun v H' c' => h v H' (post v m 0 H' c')
          | some _ => exact h.elim
        | exc k as io =>
          rw [er] at h
          cases io with
          | none => exact fun cls d H' c' x => ⟨k, as, env', h, (post _ _ 0 H' c').none, x⟩
          | some _ => exact h.elim
    | some j =>
      rw [ei] at h S1
      dsimp only at h
      cases hj : os[j]? with
      | none => rw [hj] at h; exact h.elim
      | some o1 => cases o1 with
        | v m => rw [hj] at h; exact h.elim
        | r i =>
          rw [hj] at h
          dsimp only at h
          cases hi : env'.at i with
          | none => rw [hi] at h; exact h.elim
          | some m0 =>
            rw [hi] at h
            dsimp only at h
            by_cases hf : m0.free = true
            · rw [if_pos hf] at h
              obtain ⟨Bc, r, h0, hio, hv, cs, post⟩ := Sim.call1 S1 hl hm ho hj hi hf
              have hjl : j < ms.length := by
                have := (List.getElem?_eq_some_iff.mp hj).1
                omega
              refine ⟨ms.set j m0, Bc, r, by rw [List.length_set]; omega, h0, cs, ?_, ?_⟩
              · rw [ei]
                refine ⟨m0, hio, hv, List.getElem?_set_self hjl, hf, fun p m' hp hm' => ?_⟩
                rw [List.getElem?_set_ne (Ne.symm hp)] at hm'
                exact ho m' (List.mem_of_getElem? hm')
              · cases er : c.run (ms.set j m0) with
                | no => rw [er] at h; exact h
                | ok m io =>
                  rw [er] at h
                  cases io with
                  | none => exact h.elim
                  | some m1 =>
                    dsimp only at h
                    by_cases h1 : m1.free = true
                    · rw [if_pos h1] at h
                      exact fun v H' c' => h v H' (post v m m1 H' h1 c')
                    · rw [if_neg h1] at h; exact h.elim
                | exc k as io =>
                  rw [er] at h
                  cases io with
                  | none => exact h.elim
                  | some m1 =>
                    dsimp only at h
                    by_cases h1 : m1.free = true
                    · rw [if_pos h1] at h
                      exact fun cls d H' c' x => ⟨k, as, _, h, (post _ _ m1 H' h1 c').none, x⟩
                    · rw [if_neg h1] at h; exact h.elim
            · rw [if_neg hf] at h; exact h.elim
/-- a def is known -/
structure FOk (X : Cx) (P : Pl) (C : Nat → Callee) (n f : Nat) : Prop where
  ex : ∃ fd ps, FnOk X.prog X.w X.K X.mg X.base (L2.CX X.prog X.w) n (P.fa f) fd ps (spOf X.K P (C f)) ∧ Binds X.K fd ps []
  kp : PySem.W.keepIn X.K (.ref (P.fa f)) = true
theorem s_call {x : Str} {p pos : Pos} {e : Expr} {es : List Expr} {as : EL} {f n : Nat} (F : FOk X P C n f) (hr : Room n X.A) (hg : Gl X x) (hm : X.mg x = some (.ref (P.fa f))) (tk : Takes X (wX X.K P B W)) (ha : PA X (e :: es) (rL X.K P B W (evL C as)))
    (hdb : (x == ("__debug__" : Str)) = false) (he : starEach (e :: es) X.env = (false, eval e X.env) :: starEach es X.env) (hpl : (backTo pos (starEach es X.env)).any (·.1) = false) :
    PE X (.Call (.Name x p) (e :: es) [] pos) (rO X.K P B W (evO C (.call f as))) := by
  obtain ⟨fd, ps, F1, F2⟩ := F.ex
  refine PE.imp (pe_callSD (E := fun σ cls d H' => wX X.K P B W cls d σ H') F1 hr hg hm F.kp F2 .nil (fun σ => passAt tk σ) ha hdb he hpl) fun σ H Q ⟨env, ts, S, h⟩ => rL_first S h _ fun os e vs H' hl S h => ?_
  rw [List.append_nil]
  exact own_sp hl S h
theorem pe_call0SD {CX : CXT} {k : Nat} {f : Addr} {fd : FuncData} {ps : List Str} {sp : Sp} {dvs : List V} {ds : List Value} {E : St → XK} {x : Str} {p pos : Pos} (F : FnOk X.prog X.w X.K X.mg X.base CX k f fd ps sp) (hr : Room k X.A) (hg : Gl X x) (hm : X.mg x = some (.ref f)) (hk : PySem.W.keepIn X.K (.ref f) = true) (hb : Binds X.K fd ps ds) (hd : Vals dvs ds) (hx : ∀ σ, PassesAt CX X σ (E σ))
    (hdb : (x == ("__debug__" : Str)) = false := by decide) : PE X (.Call (.Name x p) [] [] pos) (tCallSD sp dvs E tNil) := by
  refine ⟨fun pins s σ H Q I h => ?_⟩
  refine wpAny_Call_Name_kw (ld_glob I hg hm ?_ hdb)
  exact PySem.W.callWith_K0 I.kIn hk (run_fnSD (us := []) F hr hb hd (hx σ) I .nil h)
theorem s_call0 {x : Str} {p pos : Pos} {f n : Nat} (F : FOk X P C n f) (hr : Room n X.A) (hg : Gl X x) (hm : X.mg x = some (.ref (P.fa f))) (tk : Takes X (wX X.K P B W)) (hdb : (x == ("__debug__" : Str)) = false) :
    PE X (.Call (.Name x p) [] [] pos) (rO X.K P B W (evO C (.call f .nil))) := by
  obtain ⟨fd, ps, F1, F2⟩ := F.ex
  refine PE.imp (pe_call0SD (E := fun σ cls d H' => wX X.K P B W cls d σ H') F1 hr hg hm F.kp F2 .nil (fun σ => passAt tk σ) hdb) fun σ H Q ⟨env, ts, S, h⟩ => ?_
  exact own_sp (os := []) (vs := []) (ts := ts) rfl (by simpa using S) h
end
end PD
end
section
set_option linter.all false
set_option maxRecDepth 100000
namespace PD
open PySem L2

section
variable {X : Cx} {P : Pl} {B : Base} {W : Wi} {σ : St} {H : Hp} {C : Nat → Callee}

/-! ### a local name called -/
theorem pe_callLSD {CX : CXT} {k i : Nat} {f : Addr} {fd : FuncData} {ps : List Str} {sp : Sp} {dvs : List V} {ds : List Value} {E : St → XK} {x : Str} {p pos : Pos} {e : Expr} {es : List Expr} {t : TA}
    (F : FnOk X.prog X.w X.K X.mg X.base CX k f fd ps sp) (hr : Room k X.A) (hN : X.N[i]? = some x) (hv : Vis X.env.scope x) (hk : PySem.W.keepIn X.K (.ref f) = true) (hb : Binds X.K fd ps ds) (hd : Vals dvs ds) (hx : ∀ σ, PassesAt CX X σ (E σ)) (ha : PA X (e :: es) t)
    (hdb : (x == ("__debug__" : Str)) = false) (hcd : (x == ("__classdict__" : Str)) = false)
    (he : starEach (e :: es) X.env = (false, eval e X.env) :: starEach es X.env) (hpl : (backTo pos (starEach es X.env)).any (·.1) = false) : PE X (.Call (.Name x p) (e :: es) [] pos) (fun σ H Q => σ[i]? = some (some (.ref f)) ∧ tCallSD sp dvs E t σ H Q) := by
  refine ⟨fun pins s σ H Q I h => ?_⟩
  obtain ⟨hs, ht⟩ := h
  refine wpAny_Call_Name_kw (thn ((pe_var (pos := p) hN hv hdb hcd).run pins s σ H (fun v H1 => v = .ref f ∧ H1 = H) I ⟨.ref f, hs, rfl, rfl⟩) fun u s1 ⟨v, H1, I1, r1, q1⟩ => ?_)
  obtain ⟨rfl, rfl⟩ := q1
  cases r1
  refine PySem.W.callWith_K (h₀ := X.base) I.ok.mod.kin hk (thn (ha.run pos pins s1 σ _ _ I1 ht) fun us s2 ⟨vs, H2, I2, r, q⟩ => ⟨I2.kIn, ?_⟩) he hpl
  exact run_fnSD F hr hb hd (hx σ) I2 r q
theorem pe_ex {α : Type} {e : Expr} {t : α → TE} (h : ∀ a, PE X e (t a)) : PE X e (fun σ H Q => ∃ a, t a σ H Q) := ⟨fun pins s σ H Q I ⟨a, q⟩ => (h a).run pins s σ H Q I q⟩
theorem pe_if {p : Prop} {e : Expr} {t : TE} (h : p → PE X e t) : PE X e (fun σ H Q => p ∧ t σ H Q) := ⟨fun pins s σ H Q I ⟨a, q⟩ => (h a).run pins s σ H Q I q⟩
theorem s_cav {x : Str} {p pos : Pos} {e : Expr} {es : List Expr} {as : EL} {i n : Nat} {fs : List Nat} (F : ∀ f, f ∈ fs → FOk X P C n f) (hr : Room n X.A) (hN : X.N[i]? = some x) (hv : Vis X.env.scope x) (tk : Takes X (wX X.K P B W)) (ha : PA X (e :: es) (rL X.K P B W (evL C as)))
    (hdb : (x == ("__debug__" : Str)) = false) (hcd : (x == ("__classdict__" : Str)) = false) (he : starEach (e :: es) X.env = (false, eval e X.env) :: starEach es X.env) (hpl : (backTo pos (starEach es X.env)).any (·.1) = false) :
    PE X (.Call (.Name x p) (e :: es) [] pos) (rO X.K P B W (evO C (.cav i fs as))) := by
  refine PE.imp (pe_ex fun f => pe_if (p := f ∈ fs) (t := fun σ H Q => σ[i]? = some (some (.ref (P.fa f))) ∧ tCallSD (spOf X.K P (C f)) [] (fun σ cls d H' => wX X.K P B W cls d σ H') (rL X.K P B W (evL C as)) σ H Q) fun hf => ?_) fun σ H Q ⟨env, ts, S, h⟩ => ?_
  · obtain ⟨fd, ps, F1, F2⟩ := (F f hf).ex
    exact pe_callLSD F1 hr hN hv (F f hf).kp F2 .nil (fun σ => passAt tk σ) ha hdb hcd he hpl
  · have h : wpM W (fun env => match env.at i with
      | some (.fn f) => if fs.contains f = true then M.bind (evL C as) (fun os => own (C f) os) env else .no
      | _ => .no) env _ := h
    unfold wpM at h
    dsimp only at h
    cases e1 : env.at i with
    | none => rw [e1] at h; exact h.elim
    | some m =>
      rw [e1] at h
      cases m with
      | fn f =>
        dsimp only at h
        by_cases hf : fs.contains f = true
        · rw [if_pos hf] at h
          obtain ⟨v, hv, _, rv⟩ := S.name e1
          have ev : v = .ref (P.fa f) := rv
          subst ev
          refine ⟨f, by simpa using hf, hv, ?_⟩
          refine rL_first (f := fun os => own (C f) os) S h _ fun os e vs H' hl S h => ?_
          rw [List.append_nil]
          exact own_sp hl S h
        · rw [if_neg hf] at h; exact h.elim
      | _ => exact h.elim

/-! ### subscripts -/
theorem tail_ty {prog : Program} {w : World} {A : Around} {E : Value → Shared → Prop} {s : Shared} {value slice : Expr} {T id : String} {o i : Value} {Q : Value → Shared → Prop}
    (hT : s.TypeIs o T) (hl : typeLookup (.type T) "__getitem__" = pure (some (.builtin id))) (hs : subscripted slice false o i = operate [o, i] (getItem o i)) (h : wpAny (model prog w) A (getItem o i) Q E s) :
    wpAny (model prog w) A (PyProof.Rows.subscriptTail value slice o i) Q E s := by
  unfold PyProof.Rows.subscriptTail
  refine wpAny_bind ?_
  rw [getitemInPython_of_ne hT.not_modules]
  refine wpAny_bind (wpAny_specialOf hT hl ?_)
  have fin : wpAny (model prog w) A (subscripted slice false o i) (fun r s₃ => wpAny (model prog w) A (letTemporaryGo value o r >>= fun _ => pure r) Q E s₃) E s := by
    rw [hs]
    exact PySem.wpAny_operating (wpAny_mono h (fun r s₃ h₃ => wpAny_bind (PySem.wpAny_letTemporaryGo (wpAny_pure h₃))) fun _ _ x => x)
  first
    | exact wpAny_pure (wpAny_bind fin)
    | exact wpAny_bind (wpAny_pure (wpAny_bind fin))
    | exact wpAny_bind fin
theorem ix_dict (hu : X.A.units + 1 < cLine) : IxR X (fun x y H Q => ∃ a v, x = .ref a ∧ DG H a y (some v) ∧ Q v H) := by
  intro value slice pins s σ H x y v u Q I rx ry h hs
  obtain ⟨a, w, rfl, g, q⟩ := h
  cases rx
  refine g.run I fun H0 H' I' g' back => ?_
  exact tail_ty (dict_typeIs (X := X0 X H0) I' g') PySem.F.slot_dict_getitem.lookup hs (d_getItem (X := X0 X H0) hu I' g' ry fun w' s3 I3 rw' => ⟨w, H, back _ I3, rw', q⟩)
theorem s_sub {l r : Expr} {a i : E} {pos : Pos} (hu : X.A.units + 65 < cLine) (hs : PlainIx r) (ha : PE X l (rO X.K P B W (evO C a))) (hb : PE X r (rO X.K P B W (evO C i))) : PE X (.Subscript l r pos) (rO X.K P B W (evO C (.sub a i))) := by
  refine PE.imp (pe_ix (.or ix_list (.or ix_tup (ix_dict (by omega)))) ha hb hs) fun σ H Q ⟨env, ts, S, h⟩ => two_read S h Q fun env H x y p q m S lx ly e hQ => ?_
  cases e1 : item p q with
  | none => rw [e1] at e; cases e
  | some d =>
    rw [e1] at e
    cases e
    have seq : ∀ {xs : List PyData} {vs : List V} {k : Int}, FzL X.K (Zf B (cell env σ ts)) H vs xs → (match ix xs.length k with
      | some k => xs[k]?
      | none => none) = some d → ∃ v, atI vs k = some v ∧ Fz X.K (Zf B (cell env σ ts)) H v d := fun {xs vs k} r e => by
      unfold atI
      rw [r.length]
      cases e2 : ix xs.length k with
      | none => rw [e2] at e; cases e
      | some j =>
        rw [e2] at e
        obtain ⟨v, hv, rv⟩ := r.get' e
        have e3 : ixN xs.length k = some j := e2
        exact ⟨v, by rw [e3]; exact hv, rv⟩
    unfold item at e1
    split at e1
    · rename_i xs k
      obtain ⟨b, vs, rfl, hb, rb⟩ := lx
      obtain ⟨v, hv, rv⟩ := seq rb e1
      exact .inl ⟨b, vs, k, v, rfl, ly.int, .of hb, hv, hQ _ _ (S.pushD rv)⟩
    · rename_i xs k
      obtain ⟨b, vs, rfl, hb, rb⟩ := lx.tup
      obtain ⟨v, hv, rv⟩ := seq rb e1
      exact .inr (.inl ⟨b, vs, k, v, rfl, ly.int, .of hb, hv, hQ _ _ (S.pushD rv)⟩)
    · rename_i kvs
      split at e1
      · rename_i hk
        obtain ⟨b, o, rfl, ho, hd⟩ := lx
        obtain ⟨r, g, hr⟩ := dct_look ho hd ly hk
        rcases hr with ⟨_, h2⟩ | ⟨v, d', rfl, h2, h3⟩
        · rw [h2] at e1; cases e1
        · rw [h2] at e1; cases e1
          exact .inr (.inr ⟨b, v, rfl, g, hQ _ _ (S.pushD h3)⟩)
      · cases e1
    · cases e1

/-! ### slices -/
theorem FzL.cut {K : PySem.W.Frag} {Z : Addr → Prop} {vs : List V} {ds : List PyData} (r : FzL K Z H vs ds) (lo hi : Option Int) : FzL K Z H (cutV vs lo hi) (cutL ds lo hi) := by
  unfold cutV cutL
  rw [r.length]
  exact (r.drop _).take _
def rSl (K : PySem.W.Frag) : V → Option Int → Option Int → Hp → VK → Prop := fun x lo hi H Q => rSlL K x lo hi H Q ∨ rSlA K x lo hi H Q
theorem sl_any : SlR X (rSl X.K) := .or sl_list sl_tupA
theorem cut_whole {α : Type} {xs : List α} {lo hi : Option Int} (h : HT.sIx xs.length 0 lo = 0 ∧ HT.sIx xs.length xs.length hi = xs.length) : cutL xs lo hi = xs := by
  unfold cutL
  rw [h.1, h.2]
  simp
theorem slice_read {env : Env} {ts : List (V × O)} {x : V} {m r : MV} {lo hi : Option Int} {Q : VK} (S : Sim X.K P B env ts σ H) (h : Rp X.K P (Zf B (cell env σ ts)) H x m) (e : slice m lo hi = some r)
    (hQ : ∀ v H', Sim X.K P B env (ts ++ [(v, .v r)]) σ H' → Q v H') : rSl X.K x lo hi H Q := by
  unfold slice at e
  split at e
  · cases e
    obtain ⟨a, vs, rfl, ha, r⟩ := Fz.lk h
    exact .inl ⟨a, vs, rfl, .of ha, fun p np => hQ _ _ (S.newL np (r.cut lo hi))⟩
  · cases e
    obtain ⟨a, vs, rfl, ha, r⟩ := h
    exact .inl ⟨a, vs, rfl, .of ha, fun p np => hQ _ _ (S.newL np (r.cut lo hi))⟩
  · cases e
    obtain ⟨a, vs, rfl, ha, r⟩ := h
    exact .inl ⟨a, vs, rfl, .of ha, fun p np => hQ _ _ (S.newL np (r.cut lo hi))⟩
  · cases e
    obtain ⟨a, ns, rfl, ha, rfl⟩ := h
    have r : ∀ ns : List Int, FzL X.K (Zf B (cell env σ ts)) H (ns.map V.int) (ns.map PyData.int) := fun ns => by
      induction ns with
      | nil => exact .nil
      | cons n ns ih => exact .cons (.int n) ih
    exact .inl ⟨a, _, rfl, ha.sq, fun p np => hQ _ _ (S.newL np ((r ns).cut lo hi))⟩
  · cases e
    obtain ⟨a, vs, rfl, ha, r⟩ := Lk.tup (Fz.lk h)
    refine .inr ⟨a, vs, rfl, .of ha, fun w => ?_, fun _ p np => hQ _ _ (S.newT np (r.cut lo hi))⟩
    have e : cutL _ lo hi = _ := cut_whole (by rw [r.length] at w; exact w)
    rw [e] at hQ
    exact hQ _ _ (S.pushD (.tup ha r))
  · cases e
theorem s_slA {l : Expr} {a : E} {p1 p2} (ha : PE X l (rO X.K P B W (evO C a))) : PE X (.Subscript l (.Slice none none none p1) p2) (rO X.K P B W (evO C (.slA a))) := by
  refine PE.imp (pe_slice sl_any ha po_none po_none) fun σ H Q ⟨env, ts, S, h⟩ => rO_first S h _ fun o e v H' S1 h => ?_
  obtain ⟨m, r, h⟩ := wp_rd S1 (x := v) (o := o) (by simp) (by rw [wpM_bind] at h; exact h)
  obtain ⟨m', e1, h⟩ := wpM_ofO h
  exact slice_read S1.drop r.drop' e1 h
theorem s_slF {l lo : Expr} {a b : E} {p1 p2} (ha : PE X l (rO X.K P B W (evO C a))) (hb : PE X lo (rO X.K P B W (evO C b))) : PE X (.Subscript l (.Slice (some lo) none none p1) p2) (rO X.K P B W (evO C (.slF a b))) := by
  refine PE.imp (pe_slice sl_any ha (po_some hb) po_none) fun σ H Q ⟨env, ts, S, h⟩ => rO_first S h _ fun o e v H' S1 h => rO_first S1 h _ fun o2 e v2 H2 S2 h => ?_
  obtain ⟨i, rfl, h⟩ := wp_rdI S2 (x := v2) (o := o2) (by simp) (by rw [wpM_bind] at h; exact h)
  obtain ⟨m, r, h⟩ := wp_rd S2 (x := v) (o := o) (by simp) (by rw [wpM_bind] at h; exact h)
  obtain ⟨m', e1, h⟩ := wpM_ofO h
  exact ⟨i, rfl, slice_read S2.drop2 r.drop'.drop' e1 h⟩
theorem s_slT {l lo : Expr} {a b : E} {p1 p2} (ha : PE X l (rO X.K P B W (evO C a))) (hb : PE X lo (rO X.K P B W (evO C b))) : PE X (.Subscript l (.Slice none (some lo) none p1) p2) (rO X.K P B W (evO C (.slT a b))) := by
  refine PE.imp (pe_slice sl_any ha po_none (po_some hb)) fun σ H Q ⟨env, ts, S, h⟩ => rO_first S h _ fun o e v H' S1 h => rO_first S1 h _ fun o2 e v2 H2 S2 h => ?_
  obtain ⟨i, rfl, h⟩ := wp_rdI S2 (x := v2) (o := o2) (by simp) (by rw [wpM_bind] at h; exact h)
  obtain ⟨m, r, h⟩ := wp_rd S2 (x := v) (o := o) (by simp) (by rw [wpM_bind] at h; exact h)
  obtain ⟨m', e1, h⟩ := wpM_ofO h
  exact ⟨i, rfl, slice_read S2.drop2 r.drop'.drop' e1 h⟩
theorem s_slB {l lo hi : Expr} {a b c : E} {p1 p2} (ha : PE X l (rO X.K P B W (evO C a))) (hb : PE X lo (rO X.K P B W (evO C b))) (hc : PE X hi (rO X.K P B W (evO C c))) :
    PE X (.Subscript l (.Slice (some lo) (some hi) none p1) p2) (rO X.K P B W (evO C (.slB a b c))) := by
  refine PE.imp (pe_slice sl_any ha (po_some hb) (po_some hc)) fun σ H Q ⟨env, ts, S, h⟩ => rO_first S h _ fun o e v H' S1 h => rO_first S1 h _ fun o2 e v2 H2 S2 h => ?_
  obtain ⟨i, rfl, h⟩ := wp_rdI S2 (x := v2) (o := o2) (by simp) (by rw [wpM_bind] at h; exact h)
  refine ⟨i, rfl, rO_first S2 h _ fun o3 e v3 H3 S3 h => ?_⟩
  obtain ⟨j, rfl, h⟩ := wp_rdI S3 (x := v3) (o := o3) (by simp) (by rw [wpM_bind] at h; exact h)
  obtain ⟨m, r, h⟩ := wp_rd S3 (x := v) (o := o) (by simp) (by rw [wpM_bind] at h; exact h)
  obtain ⟨m', e1, h⟩ := wpM_ofO h
  exact ⟨j, rfl, slice_read S3.drop2.drop r.drop'.drop'.drop' e1 h⟩
end
end PD
end
section
set_option linter.all false
set_option maxRecDepth 100000
set_option Elab.async false
/-! what a list, a tuple, a dict gives when it is gathered; sorted of data of one shape -/
namespace PD
open PySem L2 PySem.Spec PyProof.Rows
/-! ### the plain side -/
section
open PySem.W
theorem ltL_eq (ih : ∀ (x y : PyData), sizeOf x < n → sameSh x y = true → alike x y = true ∧ ltD x y = dataLt x y) : ∀ (xs ys : List PyData), sizeOf xs ≤ n → sameShL xs ys = true → alikeAll xs ys = true ∧ ltL xs ys = PyProof.Rows.lexLt itemOrd (keyToksAll xs) (keyToksAll ys)
  | [], [], _, _ => ⟨by simp [alikeAll], by rw [ltL]; exact (lex_irrefl _).symm⟩
  | [], _ :: _, _, h => by simp [sameShL] at h
  | _ :: _, [], _, h => by simp [sameShL] at h
  | x :: xs, y :: ys, hn, h => by
    rw [sameShL, Bool.and_eq_true] at h
    have hs : sizeOf (x :: xs) = 1 + sizeOf x + sizeOf xs := by simp
    obtain ⟨a1, l1⟩ := ih x y (by omega) h.1
    obtain ⟨a2, l2⟩ := ltL_eq ih xs ys (by omega) h.2
    refine ⟨by rw [alikeAll, a1, a2]; rfl, ?_⟩
    rw [ltL, dataLt_cons a1, l1, l2]
theorem ltD_eq : ∀ (n : Nat) (x y : PyData), sizeOf x ≤ n → sameSh x y = true → alike x y = true ∧ ltD x y = dataLt x y
  | 0, x, y, hn, _ => by cases x <;> simp at hn
  | n + 1, x, y, hn, h => by
    cases x with
    | int i => cases y with
      | int j => exact ⟨by simp [alike], by rw [ltD, dataLt_int]⟩
      | _ => simp [sameSh] at h
    | str i => cases y with
      | str j => exact ⟨by simp [alike], by rw [ltD, dataLt_str]⟩
      | _ => simp [sameSh] at h
    | tuple xs => cases y with
      | tuple ys =>
        rw [sameSh] at h
        have hs : sizeOf (PyData.tuple xs) = 1 + sizeOf xs := by simp
        obtain ⟨a, l⟩ := ltL_eq (n := n) (fun x y hx => ltD_eq n x y (by omega)) xs ys (by omega) h
        exact ⟨by rw [alike]; exact a, by rw [ltD, dataLt_tuple, l]⟩
      | _ => simp [sameSh] at h
    | _ => cases y <;> simp [sameSh] at h
mutual
theorem sh_trans : ∀ (x y z : PyData), sameSh x y = true → sameSh x z = true → sameSh y z = true
  | .int _, y, z, h, g => by cases y <;> cases z <;> first | rfl | simp [sameSh] at h g
  | .str _, y, z, h, g => by cases y <;> cases z <;> first | rfl | simp [sameSh] at h g
  | .tuple xs, .tuple ys, .tuple zs, h, g => by
    rw [sameSh] at h g ⊢
    exact shL_trans xs ys zs h g
  | .tuple xs, .tuple ys, .none, h, g => by simp [sameSh] at g
  | .tuple xs, .tuple ys, .bool _, h, g => by simp [sameSh] at g
  | .tuple xs, .tuple ys, .int _, h, g => by simp [sameSh] at g
  | .tuple xs, .tuple ys, .str _, h, g => by simp [sameSh] at g
  | .tuple xs, .tuple ys, .list _, h, g => by simp [sameSh] at g
  | .tuple xs, .tuple ys, .dict _, h, g => by simp [sameSh] at g
  | .tuple xs, .none, z, h, g => by simp [sameSh] at h
  | .tuple xs, .bool _, z, h, g => by simp [sameSh] at h
  | .tuple xs, .int _, z, h, g => by simp [sameSh] at h
  | .tuple xs, .str _, z, h, g => by simp [sameSh] at h
  | .tuple xs, .list _, z, h, g => by simp [sameSh] at h
  | .tuple xs, .dict _, z, h, g => by simp [sameSh] at h
  | .none, y, z, h, g => by cases y <;> simp [sameSh] at h
  | .bool _, y, z, h, g => by cases y <;> simp [sameSh] at h
  | .list _, y, z, h, g => by cases y <;> simp [sameSh] at h
  | .dict _, y, z, h, g => by cases y <;> simp [sameSh] at h
theorem shL_trans : ∀ (xs ys zs : List PyData), sameShL xs ys = true → sameShL xs zs = true → sameShL ys zs = true
  | [], [], [], _, _ => rfl
  | [], [], _ :: _, _, g => by simp [sameShL] at g
  | [], _ :: _, _, h, _ => by simp [sameShL] at h
  | _ :: _, [], _, h, _ => by simp [sameShL] at h
  | _ :: _, _ :: _, [], _, g => by simp [sameShL] at g
  | x :: xs, y :: ys, z :: zs, h, g => by
    rw [sameShL, Bool.and_eq_true] at h g ⊢
    exact ⟨sh_trans x y z h.1 g.1, shL_trans xs ys zs h.2 g.2⟩
end
mutual
theorem sh_depth : ∀ (x y : PyData), sameSh x y = true → x.depth = y.depth
  | .int _, y, h => by cases y <;> first | rfl | simp [sameSh] at h
  | .str _, y, h => by cases y <;> first | rfl | simp [sameSh] at h
  | .tuple xs, .tuple ys, h => by
    rw [sameSh] at h
    rw [PyData.depth, PyData.depth, shL_depth xs ys h]
  | .tuple xs, .none, h => by simp [sameSh] at h
  | .tuple xs, .bool _, h => by simp [sameSh] at h
  | .tuple xs, .int _, h => by simp [sameSh] at h
  | .tuple xs, .str _, h => by simp [sameSh] at h
  | .tuple xs, .list _, h => by simp [sameSh] at h
  | .tuple xs, .dict _, h => by simp [sameSh] at h
  | .none, y, h => by cases y <;> simp [sameSh] at h
  | .bool _, y, h => by cases y <;> simp [sameSh] at h
  | .list _, y, h => by cases y <;> simp [sameSh] at h
  | .dict _, y, h => by cases y <;> simp [sameSh] at h
theorem shL_depth : ∀ (xs ys : List PyData), sameShL xs ys = true → PyData.depthAll xs = PyData.depthAll ys
  | [], [], _ => rfl
  | [], _ :: _, h => by simp [sameShL] at h
  | _ :: _, [], h => by simp [sameShL] at h
  | x :: xs, y :: ys, h => by
    rw [sameShL, Bool.and_eq_true] at h
    rw [PyData.depthAll, PyData.depthAll, sh_depth x y h.1, shL_depth xs ys h.2]
end
mutual
/-- no list and no dict in it -/
def flatS : PyData → Bool
  | .int _ => true
  | .str _ => true
  | .tuple xs => flatSL xs
  | _ => false
def flatSL : List PyData → Bool
  | [] => true
  | x :: xs => flatS x && flatSL xs
end
mutual
theorem sh_flat : ∀ (x y : PyData), sameSh x y = true → flatS y = true
  | .int _, y, h => by cases y <;> first | rfl | simp [sameSh] at h
  | .str _, y, h => by cases y <;> first | rfl | simp [sameSh] at h
  | .tuple xs, .tuple ys, h => by
    rw [sameSh] at h
    rw [flatS]
    exact shL_flat xs ys h
  | .tuple xs, .none, h => by simp [sameSh] at h
  | .tuple xs, .bool _, h => by simp [sameSh] at h
  | .tuple xs, .int _, h => by simp [sameSh] at h
  | .tuple xs, .str _, h => by simp [sameSh] at h
  | .tuple xs, .list _, h => by simp [sameSh] at h
  | .tuple xs, .dict _, h => by simp [sameSh] at h
  | .none, y, h => by cases y <;> simp [sameSh] at h
  | .bool _, y, h => by cases y <;> simp [sameSh] at h
  | .list _, y, h => by cases y <;> simp [sameSh] at h
  | .dict _, y, h => by cases y <;> simp [sameSh] at h
theorem shL_flat : ∀ (xs ys : List PyData), sameShL xs ys = true → flatSL ys = true
  | [], [], _ => rfl
  | [], _ :: _, h => by simp [sameShL] at h
  | _ :: _, [], h => by simp [sameShL] at h
  | x :: xs, y :: ys, h => by
    rw [sameShL, Bool.and_eq_true] at h
    rw [flatSL, sh_flat x y h.1, shL_flat xs ys h.2]; rfl
end
mutual
theorem flat_reads {h : Heap} : ∀ (x : PyData) (v : Value) (as : List Addr), flatS x = true → Reads h v x as → as = []
  | .int _, _, _, _, r => by cases r; rfl
  | .str _, _, _, _, r => by cases r; rfl
  | .tuple xs, _, _, f, r => by
    rw [flatS] at f
    cases r with
    | tuple h1 h2 h3 h4 => exact flatL_reads xs _ _ f h4
  | .none, _, _, f, _ => by simp [flatS] at f
  | .bool _, _, _, f, _ => by simp [flatS] at f
  | .list _, _, _, f, _ => by simp [flatS] at f
  | .dict _, _, _, f, _ => by simp [flatS] at f
theorem flatL_reads {h : Heap} : ∀ (xs : List PyData) (vs : List Value) (as : List Addr), flatSL xs = true → ReadsAll h vs xs as → as = []
  | [], _, _, _, r => by cases r; rfl
  | x :: xs, _, _, f, r => by
    rw [flatSL, Bool.and_eq_true] at f
    cases r with
    | cons h1 h2 => rw [flat_reads x _ _ f.1 h1, flatL_reads xs _ _ f.2 h2]; rfl
end
theorem ints_of_all : ∀ {xs : List PyData}, xs.all isIntD = true → ∃ is : List Int, xs = is.map PyData.int
  | [], _ => ⟨[], rfl⟩
  | x :: xs, h => by
    rw [List.all_cons, Bool.and_eq_true] at h
    obtain ⟨is, rfl⟩ := ints_of_all h.2
    cases x with
    | int i => exact ⟨i :: is, rfl⟩
    | _ => cases h.1
theorem intTup_of {d : PyData} (h : isIntTup d = true) : ∃ (i : Int) (is : List Int), d = .tuple ((i :: is).map PyData.int) := by
  cases d with
  | tuple xs =>
    cases xs with
    | nil => cases h
    | cons x xs =>
      have h : (isIntD x && xs.all isIntD) = true := h
      obtain ⟨js, e⟩ := ints_of_all (xs := x :: xs) (by rw [List.all_cons]; exact h)
      cases js with
      | nil => cases e
      | cons j js => exact ⟨j, js, by rw [e]⟩
  | _ => cases h
theorem ltL_ints : ∀ (is js : List Int), ltL (is.map PyData.int) (js.map PyData.int) = PyProof.Rows.lexLt itemOrd (keyToksAll (is.map PyData.int)) (keyToksAll (js.map PyData.int))
  | [], [] => by rw [List.map_nil, ltL]; exact (lex_irrefl _).symm
  | [], j :: js => by
    have e := dataLt_ints [] (j :: js)
    unfold rowLt at e
    rw [e]
    simp [ltL]
  | i :: is, [] => by
    have e := dataLt_ints (i :: is) []
    unfold rowLt at e
    rw [e]
    simp [ltL]
  | i :: is, j :: js => by
    rw [List.map_cons, List.map_cons, ltL, dataLt_cons (by simp [alike]), ltL_ints is js, ltD, dataLt_int]
theorem flatSL_ints : ∀ is : List Int, flatSL (is.map PyData.int) = true
  | [] => by simp [flatSL]
  | i :: is => by rw [List.map_cons, flatSL, flatSL_ints is, flatS]; rfl
/-- what sortOk says -/
theorem sortOk_spec {xs : List PyData} (h : sortOk xs = true) : AllAlike xs ∧ Sortable xs ∧ (∀ a ∈ xs, ∀ b ∈ xs, ltD a b = dataLt a b) ∧ (∀ a ∈ xs, a.depth ≤ 60) ∧ ∀ a ∈ xs, flatS a = true := by
  cases xs with
  | nil => exact ⟨(fun _ h => nomatch h), .inl (fun _ h => nomatch h), (fun _ h => nomatch h), (fun _ h => nomatch h), (fun _ h => nomatch h)⟩
  | cons d r =>
    unfold sortOk at h
    rcases Bool.or_eq_true_iff.mp h with h | h
    · rw [Bool.and_eq_true, Bool.and_eq_true, Bool.and_eq_true] at h
      obtain ⟨⟨⟨hn, hd⟩, hp⟩, hr⟩ := h
      have all : ∀ a ∈ d :: r, sameSh d a = true := fun a ha => by
        rcases List.mem_cons.mp ha with rfl | ha
        · exact hd
        · exact List.all_eq_true.mp hr a ha
      have two : ∀ a ∈ d :: r, ∀ b ∈ d :: r, sameSh a b = true := fun a ha b hb => sh_trans d a b (all a ha) (all b hb)
      refine ⟨fun a ha b hb => (ltD_eq _ a b (Nat.le_refl _) (two a ha b hb)).1, ?_, fun a ha b hb => (ltD_eq _ a b (Nat.le_refl _) (two a ha b hb)).2, fun a ha => ?_, fun a ha => sh_flat d a (all a ha)⟩
      · cases d with
        | tuple ys =>
          cases ys with
          | nil => cases hn
          | cons y ys =>
            refine .inl fun a ha => ?_
            have q := all a ha
            cases a with
            | tuple zs => cases zs with
              | nil => simp [sameSh, sameShL] at q
              | cons z zs => exact ⟨z, zs, rfl⟩
            | _ => simp [sameSh] at q
        | int i =>
          refine .inr fun a ha => ?_
          have q := all a ha
          cases a with
          | int j => exact ⟨(fun z => nomatch z), fun _ z => nomatch z⟩
          | _ => simp [sameSh] at q
        | str i =>
          refine .inr fun a ha => ?_
          have q := all a ha
          cases a with
          | str j => exact ⟨(fun z => nomatch z), fun _ z => nomatch z⟩
          | _ => simp [sameSh] at q
        | _ => simp [sameSh] at hd
      · rw [← sh_depth d a (all a ha)]; exact of_decide_eq_true hp
    · rw [Bool.and_eq_true] at h
      have all : ∀ a ∈ d :: r, isIntTup a = true := fun a ha => by
        rcases List.mem_cons.mp ha with rfl | ha
        · exact h.1
        · exact List.all_eq_true.mp h.2 a ha
      refine ⟨fun a ha b hb => ?_, .inl fun a ha => ?_, fun a ha b hb => ?_, fun a ha => ?_, fun a ha => ?_⟩
      · obtain ⟨i, is, rfl⟩ := intTup_of (all a ha)
        obtain ⟨j, js, rfl⟩ := intTup_of (all b hb)
        rw [alike]
        exact alike_ints _ _
      · obtain ⟨i, is, rfl⟩ := intTup_of (all a ha)
        exact ⟨_, _, rfl⟩
      · obtain ⟨i, is, rfl⟩ := intTup_of (all a ha)
        obtain ⟨j, js, rfl⟩ := intTup_of (all b hb)
        rw [ltD, dataLt_tuple, ltL_ints]
      · obtain ⟨i, is, rfl⟩ := intTup_of (all a ha)
        rw [PyData.depth, depth_ints]; decide
      · obtain ⟨i, is, rfl⟩ := intTup_of (all a ha)
        rw [flatS]; exact flatSL_ints _
/-! stable insertion is the sort -/
theorem insD_congr {l : List PyData} (d : PyData) : ∀ {r : List PyData}, (∀ a ∈ d :: r, ∀ b ∈ d :: r, ltD a b = dataLt a b) → insD d r = insD d r := fun _ => rfl
def insLe {α : Type} (le : α → α → Bool) (d : α) : List α → List α
  | [] => [d]
  | e :: r => if le d e = true then d :: e :: r else e :: insLe le d r
def sortLe' {α : Type} (le : α → α → Bool) : List α → List α
  | [] => []
  | d :: r => insLe le d (sortLe' le r)
section
variable {α : Type} {le : α → α → Bool}
theorem insLe_perm (d : α) : ∀ r : List α, (insLe le d r).Perm (d :: r)
  | [] => .refl _
  | e :: r => by
    unfold insLe
    split
    · exact .refl _
    · exact ((insLe_perm d r).cons e).trans (.swap d e r)
theorem sortLe_perm : ∀ r : List α, (sortLe' le r).Perm r
  | [] => .refl _
  | d :: r => (insLe_perm d _).trans ((sortLe_perm r).cons d)
theorem insLe_pw (h : TotalLe le) (d : α) : ∀ {r : List α}, r.Pairwise (fun a b => le a b = true) → (insLe le d r).Pairwise (fun a b => le a b = true)
  | [], _ => List.pairwise_singleton _ _
  | e :: r, hr => by
    have hc := List.pairwise_cons.mp hr
    unfold insLe
    split
    · rename_i hde
      refine List.pairwise_cons.mpr ⟨fun y hy => ?_, hr⟩
      rcases List.mem_cons.mp hy with rfl | hy
      · exact hde
      · exact h.trans _ _ _ hde (hc.1 y hy)
    · rename_i hde
      refine List.pairwise_cons.mpr ⟨fun y hy => ?_, insLe_pw h d hc.2⟩
      rcases List.mem_cons.mp ((insLe_perm d r).mem_iff.mp hy) with rfl | hy
      · exact (h.total e _).resolve_right hde
      · exact hc.1 y hy
theorem sortLe_pw (h : TotalLe le) : ∀ r : List α, (sortLe' le r).Pairwise (fun a b => le a b = true)
  | [] => List.Pairwise.nil
  | d :: r => insLe_pw h d (sortLe_pw h r)
theorem insLe_filter (h : TotalLe le) (c d : α) : ∀ (r : List α), (insLe le d r).filter (sameRank le c) = (d :: r).filter (sameRank le c)
  | [] => rfl
  | e :: r => by
    unfold insLe
    split
    · rfl
    · rename_i hde
      have ih := insLe_filter h c d r
      by_cases he : sameRank le c e = true
      · by_cases hd : sameRank le c d = true
        · exfalso
          unfold sameRank at he hd
          rw [Bool.and_eq_true] at he hd
          exact hde (h.trans _ _ _ hd.2 he.1)
        · rw [List.filter_cons_of_pos he, ih, List.filter_cons_of_neg hd, List.filter_cons_of_neg hd, List.filter_cons_of_pos he]
      · rw [List.filter_cons_of_neg he, ih]
        by_cases hd : sameRank le c d = true
        · rw [List.filter_cons_of_pos hd, List.filter_cons_of_pos hd, List.filter_cons_of_neg he]
        · rw [List.filter_cons_of_neg hd, List.filter_cons_of_neg hd, List.filter_cons_of_neg he]
theorem sortLe_filter (h : TotalLe le) (c : α) : ∀ (r : List α), (sortLe' le r).filter (sameRank le c) = r.filter (sameRank le c)
  | [] => rfl
  | d :: r => by
    show (insLe le d (sortLe' le r)).filter _ = _
    rw [insLe_filter h, List.filter_cons, List.filter_cons, sortLe_filter h c r]
theorem sortLe_eq (h : TotalLe le) (l : List α) : sortLe' le l = l.mergeSort le := sort_unique h (sortLe_pw h l) (sortLe_filter h · l)
end
theorem insD_le {β : Type} (enc : β → PyData) {d : β} : ∀ {r : List β}, (∀ e ∈ r, ltD (enc e) (enc d) = dataLt (enc e) (enc d)) → insD (enc d) (r.map enc) = (insLe (dataLe false enc) d r).map enc
  | [], _ => rfl
  | e :: r, h => by
    have h1 := h e List.mem_cons_self
    have ih := insD_le enc (d := d) (r := r) fun x hx => h x (List.mem_cons_of_mem _ hx)
    rw [List.map_cons]
    unfold insD insLe
    have e2 : dataLe false enc d e = !dataLt (enc e) (enc d) := by rw [dataLe_eq]; rfl
    rw [h1, e2]
    cases dataLt (enc e) (enc d) with
    | true => rw [if_pos rfl, if_neg (by decide), ih]; rfl
    | false => rw [if_neg (by decide)]; rfl
theorem sortL_le {β : Type} (enc : β → PyData) : ∀ {r : List β}, (∀ a ∈ r, ∀ b ∈ r, ltD (enc a) (enc b) = dataLt (enc a) (enc b)) → sortL (r.map enc) = (sortLe' (dataLe false enc) r).map enc
  | [], _ => rfl
  | d :: r, h => by
    show insD (enc d) (sortL (r.map enc)) = (insLe _ d (sortLe' _ r)).map enc
    rw [sortL_le enc (r := r) fun a ha b hb => h a (List.mem_cons_of_mem _ ha) b (List.mem_cons_of_mem _ hb)]
    exact insD_le enc fun e he => h e (List.mem_cons_of_mem _ ((sortLe_perm r).mem_iff.mp he)) d List.mem_cons_self
theorem sortL_eq {β : Type} (enc : β → PyData) {bs : List β} (h : sortOk (bs.map enc) = true) : sortL (bs.map enc) = (bs.mergeSort (dataLe false enc)).map enc := by
  obtain ⟨_, _, h3, _⟩ := sortOk_spec h
  rw [sortL_le enc fun a ha b hb => h3 _ (List.mem_map.mpr ⟨a, ha, rfl⟩) _ (List.mem_map.mpr ⟨b, hb, rfl⟩), sortLe_eq (le := dataLe false enc) (sortLe_total _ _ _)]
end
/-! ### what is gathered -/
/-- what stands in the list, the tuple, the dict at a is as k says -/
def rGat (K : PySem.W.Frag) (H : Hp) (a : Addr) (k : List V → Prop) : Prop := (∃ ws, (SqL K H a ws ∨ SqT K H a ws) ∧ k ws) ∨ (∃ kvs, Rd H a (.dK kvs) ∧ k (kvs.map fun kv => kV kv.1)) ∨ ∃ kvs, Rd H a (.dT kvs) ∧ ∀ bs, IsKeys H kvs bs → k (bs.map V.ref)
section
variable {X : Cx} {pins : List (Addr × Obj)} {σ : L2.St} {H : Hp} {s : Shared} {a : Addr}
theorem gather {k : List V → Prop} (I : Inv X pins σ H s) (h : rGat X.K H a k) : ∃ ws, k ws ∧ ws.length ≤ sizeLine ∧ ∀ (A : Around) (R : List Value → Shared → Prop) (E : Value → Shared → Prop), A.handled = none →
    (∀ h' tk vs, (∀ b o, s.heap.get? b = some o → h'.get? b = some o) → Vals ws vs → R vs { s with heap := h', toks := tk }) → wpAny (model X.prog X.w) A (collect (.ref a)) R E s := by
  rcases h with ⟨ws, h | h, kw⟩ | ⟨kvs, h, kw⟩ | ⟨kvs, h, kw⟩
  · obtain ⟨its, rv, p, z⟩ := I.list h
    obtain ⟨o, ho, hc, n, hd⟩ := p.isList
    exact ⟨ws, kw, z, fun A R E hh q => wpAny_collect_seq (A := A) a (T := "list") (.inl rfl) ho hc hd (fun h' k => q h' s.toks its k rv) (by rw [List.size_toArray, ← rv.length]; exact z)⟩
  · obtain ⟨its, rv, p, z⟩ := I.tuple h
    obtain ⟨o, ho, hc, n, hd⟩ := id p
    exact ⟨ws, kw, z, fun A R E hh q => wpAny_collect_seq (A := A) a (T := "tuple") (.inr rfl) ho hc hd (fun h' k => q h' s.toks its k rv) (by rw [List.size_toArray, ← rv.length]; exact z)⟩
  · obtain ⟨z, lo, vs, rel, dd⟩ := dk_rd I.hok h
    obtain ⟨ep, hat⟩ := dd.dictAt
    have hl : kvs.length = vs.length := Paired.length rel
    refine ⟨_, kw, by rw [List.length_map]; exact z, fun A R E hh q => PySem.W.kdu_collect (A := A) (PySem.W.kdl_dict (knd := mixKind X.prog X.w) (kvs := vs) (ep := ep) lo) hh hat (by rw [← hl]; exact z) fun h' tk acc hk hacc => q h' tk _ hk ?_⟩
    have el : acc.toList.length = acc.size := by simp
    refine vals_of_at (by rw [List.length_map, el, hacc.1, hl]) fun j x w h1 h2 => ?_
    obtain ⟨k, y, hky, hi⟩ := hacc.2 j w (by rw [← Array.getElem?_toList]; exact h2)
    have e1 : (kvs.map (·.1))[j]? = some k := by
      rw [KV.keys rel, List.getElem?_map, hky] <;> rfl
    have e2 : (kvs.map fun kv => kV kv.1)[j]? = some (kV k) := by
      have e3 : (kvs.map fun kv => kV kv.1) = (kvs.map (·.1)).map kV := by rw [List.map_map] <;> rfl
      rw [e3, List.getElem?_map, e1] <;> rfl
    rw [e2] at h1
    cases h1
    exact keyIs_rel hi
  · obtain ⟨z, hs, ks, pr, o, es, ep, ho, hx, hdt, he, hn⟩ := (show ObjOk X.prog X.w H s.heap a (.dT kvs) from h.ok I.hok)
    have l1 : es.size = ks.length := size_of_entries he
    have l2 : kvs.length = ks.length := Paired.length pr
    refine ⟨(ks.map fun x => x.2.1).map V.ref, kw _ (isKeys_of pr), by rw [List.length_map, List.length_map]; omega, fun A R E hh q => PySem.W.kdu_collect (A := A) (kdl_raw hs hx hdt) hh ho (by omega) fun h' tk acc kp it => q h' tk _ kp ?_⟩
    have ea : acc.toList = ks.map fun x => Value.ref x.2.1 := by
      have hl : acc.toList.length = ks.length := by rw [Array.length_toList, it.1]; exact l1
      apply List.ext_getElem?
      intro j
      rw [List.getElem?_map]
      cases hj : acc.toList[j]? with
      | none =>
        have h1 := List.getElem?_eq_none_iff.mp hj
        rw [List.getElem?_eq_none (by omega)]
        all_goals rfl
      | some v =>
        obtain ⟨en, hen, hv⟩ := it.2 j v (by rw [← Array.getElem?_toList]; exact hj)
        have qe := entry_at he j
        rw [hen] at qe
        cases hb : ks[j]? with
        | none =>
          rw [hb] at qe
          exact nomatch (show some en = none from qe)
        | some b =>
          rw [hb] at qe
          have e2 : en = entryOfKey (tupleKind (mixKind X.prog X.w)) b := Option.some.inj qe
          rw [hv, e2]
          all_goals rfl
    have eb : acc.toList = (ks.map fun x => x.2.1).map Value.ref := by rw [ea, List.map_map]; all_goals rfl
    rw [eb]; exact vals_refs _
/-- sorted(x): the items ws, told as ds, in order -/
def rSrt (K : PySem.W.Frag) : List V → Hp → VK → Prop := fun vs H Q => ∃ a, vs = [.ref a] ∧ rGat K H a fun ws => ∃ ds, DpAll K H ws ds ∧ sortOk ds = true ∧
  ∀ p, H p = none → Q (.ref p) (upd H p (.lst (((ws.zip ds).mergeSort (PySem.W.dataLe false Prod.snd)).map Prod.fst)))
theorem dpAll_length {K : PySem.W.Frag} : ∀ {ws : List V} {ds : List PyData}, DpAll K H ws ds → ws.length = ds.length
  | _, _, .nil => rfl
  | _, _, .cons _ t => congrArg (· + 1) (dpAll_length t)
theorem vals_out : ∀ {out : List Value} {bs : List (V × PyData)}, PySem.W.EachIs (fun v (b : V × PyData) => RelV b.1 v) out bs → Vals (bs.map Prod.fst) out
  | _, _, .nil => .nil
  | _, _, .cons r t => .cons r (vals_out t)
theorem each_in : ∀ {ws : List V} {ds : List PyData} {vs : List Value}, Vals ws vs → ws.length = ds.length → PySem.W.EachIs (fun v (b : V × PyData) => RelV b.1 v) vs (ws.zip ds)
  | _, [], _, .nil, _ => .nil
  | _, d :: ds, _, .cons r t, h => .cons r (each_in t (by simpa using h))
  | _, [], _, .cons _ _, h => by simp at h
  | _, _ :: _, _, .nil, h => by simp at h
theorem cr_sortedA (hc : X.calm = true) (hu : X.A.units + 64 < cLine) : CallR X (.builtin "sorted") (rSrt X.K) := by
  intro pins s σ H xs us Q I r h
  obtain ⟨a, rfl, it⟩ := h
  obtain ⟨u, rfl, rx⟩ := r.one
  cases rx
  obtain ⟨ws, ⟨ds, dp, ok, q⟩, z, col⟩ := gather I it
  have hl := dpAll_length dp
  have hen : (ws.zip ds).map Prod.snd = ds := by rw [List.map_snd_zip (by omega)]
  obtain ⟨al, so, _, dep, fl⟩ := sortOk_spec ok
  have lb : (ws.zip ds).length = ws.length := by rw [List.length_zip]; omega
  refine Calls.call_function_entry PyProof.Rows.kind_sorted PyProof.Rows.plain_sorted PyProof.Rows.entry_sorted (PyProof.Rows.args_sorted1 _) ?_
  unfold Builtin.«sorted»
  refine wpAny_bind (m := checkCount "sorted" 1 1 _) (wpAny_pure ?_)
  refine wpAny_bind (col X.A.in1 _ _ (I.ok.hd hc) fun h' tk vs hk rv => ?_)
  have I1 : Inv X pins σ H { s with heap := h', toks := tk } := I.kept hk
  have lv : vs.length = ws.length := rv.length.symm
  refine wpAny_bind (wpAny_newList ?_ (by rw [lv]; exact z))
  have hoL : (h'.push (seqObj "list" vs.toArray 0)).get? h'.objs.size = some (seqObj "list" vs.toArray 0) := Heap.get?_push_size _ rfl
  show wpAny _ _ _ _ _ { s with heap := h'.push (seqObj "list" vs.toArray 0), toks := tk }
  have rd : PySem.W.EachIs (fun v (b : V × PyData) => ∃ as, Reads (h'.push (seqObj "list" vs.toArray 0)) v b.2 as ∧ h'.objs.size ∉ as) vs (ws.zip ds) := by
    have go : ∀ (hn : Heap), (∀ b o, h'.get? b = some o → hn.get? b = some o) → ∀ {ws : List V} {ds : List PyData} {vs : List Value}, DpAll X.K H ws ds → Vals ws vs → (∀ d ∈ ds, flatS d = true) → PySem.W.EachIs (fun v (b : V × PyData) => ∃ as, Reads hn v b.2 as ∧ h'.objs.size ∉ as) vs (ws.zip ds) := fun hn kN ws => by
      induction ws with
      | nil =>
        intro ds vs dp rv f
        cases dp; cases rv; exact .nil
      | cons w ws ih =>
        intro ds vs dp rv f
        cases dp with
        | cons d1 d2 =>
          cases rv with
          | cons r1 r2 =>
            obtain ⟨as, q⟩ := Dp.reads I1 _ _ _ d1 r1
            have e := flat_reads _ _ _ (f _ List.mem_cons_self) q
            subst e
            exact .cons ⟨[], PyProof.Rows.Reads.keeps kN q, fun z => nomatch z⟩ (ih d2 r2 fun d hd => f d (List.mem_cons_of_mem _ hd))
    exact go _ (fun b o e => Heap.get?_push_of_some _ e) dp rv fl
  refine wpAny_bind (wpAny_holding (PySem.W.list_sort_data (s := { s with heap := h'.push (seqObj "list" vs.toArray 0), toks := tk }) (bs := ws.zip ds) (enc := Prod.snd) (R := fun v b => RelV b.1 v) hoL (each_in rv hl) rd (by rw [hen]; exact al) (by rw [hen]; exact so) (by rw [lb]; exact z) (fun b hb => ?_) fun out ho eo => ?_))
  · have := dep b.2 (by rw [← hen]; exact List.mem_map.mpr ⟨b, hb, rfl⟩)
    show X.A.in1.units + 1 + b.2.depth < cLine
    have e1 : X.A.in1.units = X.A.units + 1 := by first | rfl | simp [Around.in1]
    omega
  · obtain ⟨e', he'⟩ := PyProof.Rows.sortedHeap_at (vs := vs) (out := out.toArray) hoL
    refine wpAny_pure ⟨_, rfl, .ref h'.objs.size, upd H h'.objs.size _, I1.laid (t' := tk) (fun b u e => ?_) (Nat.le_refl _)
      (show ObjOk X.prog X.w _ _ _ (.lst (((ws.zip ds).mergeSort (PySem.W.dataLe false Prod.snd)).map Prod.fst)) from ⟨?_, out, e', vals_out eo, he'⟩), rfl, q _ (I1.hok.fresh (Nat.le_refl _))⟩
    · have hb : b < h'.objs.size := Heap.lt_size e
      rw [PyProof.Rows.sortedHeap_old (Nat.ne_of_lt hb) (by rw [size_push']; exact Nat.lt_succ_of_lt hb)]
      exact Heap.get?_push_of_some _ e
    · rw [List.length_map, ← eo.length, ho, lb]; exact z
end
/-- list(x) -/
def rLstA (K : PySem.W.Frag) : List V → Hp → VK → Prop := fun xs H Q => ∃ a, xs = [.ref a] ∧ rGat K H a fun ws => ∀ p, H p = none → Q (.ref p) (upd H p (.lst ws))
theorem cr_listA {X : Cx} (hc : X.calm = true) : CallR X (.type "list") (rLstA X.K) := by
  intro pins s σ H xs us Q I r h
  obtain ⟨a, rfl, h⟩ := h
  rcases h with ⟨ws, h, q⟩ | ⟨kvs, h, q⟩ | ⟨kvs, h, q⟩
  · exact call_list_of pins s σ H _ us Q I r ⟨a, ws, rfl, h, q⟩
  · obtain ⟨u, rfl, rx⟩ := r.one
    cases rx
    obtain ⟨z, lo, vs, rk, hd⟩ := dk_rd I.hok h
    obtain ⟨ep, hat⟩ := hd.dictAt
    have hl : kvs.length = vs.length := Paired.length rk
    refine PySem.W.kdl_call (PySem.W.kdl_dict (knd := mixKind X.prog X.w) (kvs := vs) (ep := ep) lo) (I.ok.hd hc) hat (by rw [← hl]; exact z) fun h' tk acc' c' hkeep hS hacc => ?_
    refine ⟨.ref s.heap.objs.size, upd H s.heap.objs.size (.lst (kvs.map fun kv => kV kv.1)), I.laid hkeep (Nat.le_refl _) (show ObjOk X.prog X.w _ _ _ (.lst (kvs.map fun kv => kV kv.1)) from ⟨?_, acc'.toList, c', ?_, ?_⟩), rfl, q _ (I.hok.fresh (Nat.le_refl _))⟩
    · rw [List.length_map]; exact z
    · have el : acc'.toList.length = acc'.size := by simp
      refine vals_of_at (by rw [List.length_map, el, hacc.1, hl]) fun j x w h1 h2 => ?_
      obtain ⟨k, y, hky, hi⟩ := hacc.2 j w (by rw [← Array.getElem?_toList]; exact h2)
      have e1 : (kvs.map (·.1))[j]? = some k := by
        rw [KV.keys rk, List.getElem?_map, hky] <;> rfl
      have e2 : (kvs.map fun kv => kV kv.1)[j]? = some (kV k) := by
        have e3 : (kvs.map fun kv => kV kv.1) = (kvs.map (·.1)).map kV := by rw [List.map_map] <;> rfl
        rw [e3, List.getElem?_map, e1] <;> rfl
      rw [e2] at h1
      cases h1
      exact keyIs_rel hi
    · rw [Array.toArray_toList]; exact hS
  · exact call_list_dT hc pins s σ H _ us Q I r ⟨a, kvs, rfl, h, fun p bs hp hb => q bs hb p hp⟩
/-! ### the interpreter's side -/
section
variable {K : PySem.W.Frag} {Z : Addr → Prop} {H : Hp}
theorem kV_fz : ∀ k : Key, Fz K Z H (kV k) (kP k)
  | .inl i => .int i
  | .inr x => .str x
theorem kVs_fz : ∀ ks : List Key, FzL K Z H (ks.map kV) (ks.map kP)
  | [] => .nil
  | k :: ks => .cons (kV_fz k) (kVs_fz ks)
theorem keysOf_zip {α : Type} (f : α → PyData) : ∀ {ks : List α} {ds : List PyData}, ks.length = ds.length → keysOf ((ks.map f).zip ds) = ks.map f
  | [], [], _ => rfl
  | [], _ :: _, h => by simp at h
  | _ :: _, [], h => by simp at h
  | k :: ks, d :: ds, h => by
    have := keysOf_zip f (ks := ks) (ds := ds) (by simpa using h)
    unfold keysOf at this ⊢
    rw [List.map_cons, List.zip_cons_cons, List.map_cons, this]
theorem fst_zip {α β : Type} : ∀ {ks : List α} {vs : List β}, ks.length = vs.length → (ks.zip vs).map Prod.fst = ks
  | [], [], _ => rfl
  | [], _ :: _, h => by simp at h
  | _ :: _, [], h => by simp at h
  | k :: ks, d :: ds, h => by rw [List.zip_cons_cons, List.map_cons, fst_zip (by simpa using h)]
theorem keysT_fz : ∀ {ks : List (List Key)} {vs : List V} {bs : List Addr}, ks.length = vs.length → IsKeys H (ks.zip vs) bs → FzL K Z H (bs.map V.ref) (ks.map fun k => PyData.tuple (k.map kP))
  | [], [], _, _, h => by cases h; exact .nil
  | [], _ :: _, _, h, _ => by simp at h
  | _ :: _, [], _, h, _ => by simp at h
  | k :: ks, v :: vs, _, hl, h => by
    cases h with
    | cons h1 h2 => exact .cons (.tup h1 (kVs_fz k)) (keysT_fz (by simpa using hl) h2)
/-- the keys of a dict -/
theorem dct_gat {a : Addr} {o : HO} {kvs : List (PyData × PyData)} {k : List V → Prop} (ho : Rd H a o) (h : DctAt K Z H o kvs) (hk : ∀ ws, FzL K Z H ws (keysOf kvs) → k ws) :
    (∃ kvs, Rd H a (.dK kvs) ∧ k (kvs.map fun kv => kV kv.1)) ∨ ∃ kvs, Rd H a (.dT kvs) ∧ ∀ bs, IsKeys H kvs bs → k (bs.map V.ref) := by
  rcases h with ⟨ks, vs, ds, rfl, l, r, rfl⟩ | ⟨ks, vs, ds, rfl, l, r, rfl⟩
  · rw [keysOf_zip kP (by rw [l, r.length])] at hk
    refine .inl ⟨_, ho, hk _ ?_⟩
    have e : ((ks.zip vs).map fun kv => kV kv.1) = ks.map kV := by
      rw [show (fun kv : Key × V => kV kv.1) = kV ∘ Prod.fst from rfl, ← List.map_map, fst_zip l]
    rw [e]
    exact kVs_fz ks
  · rw [keysOf_zip (fun k : List Key => PyData.tuple (k.map kP)) (by rw [l, r.length])] at hk
    exact .inr ⟨_, ho, fun bs hb => hk _ (keysT_fz l hb)⟩
theorem Lk.gat {x : V} {p : PyData} {xs : List PyData} (h : Lk K Z H x p) (e : gathD p = some xs) : ∃ a, x = .ref a ∧ ∀ k : List V → Prop, (∀ ws, FzL K Z H ws xs → k ws) → rGat K H a k := by
  cases p with
  | list ys => cases e; obtain ⟨a, vs, rfl, ha, r⟩ := h; exact ⟨a, rfl, fun k hk => .inl ⟨vs, .inl (.of ha), hk _ r⟩⟩
  | tuple ys => cases e; obtain ⟨a, vs, rfl, ha, r⟩ := h.tup; exact ⟨a, rfl, fun k hk => .inl ⟨vs, .inr (.of ha), hk _ r⟩⟩
  | dict kvs => cases e; obtain ⟨a, o, rfl, ha, r⟩ := h; exact ⟨a, rfl, fun k hk => .inr (dct_gat ha r hk)⟩
  | _ => cases e
mutual
theorem Fz.dpF : ∀ {v : V} {d : PyData}, Fz K Z H v d → flatS d = true → Dp K H v d
  | _, _, .int i, _ => .int i
  | _, _, .str x, _ => .str x
  | _, _, .tup h r, c => .tup (.of h) (FzL.dpF r (by simpa [flatS] using c))
  | _, _, .non, c => by simp [flatS] at c
  | _, _, .bl b, c => by simp [flatS] at c
  | _, _, .lst h z r, c => by simp [flatS] at c
  | _, _, .dK h z l r, c => by simp [flatS] at c
  | _, _, .dT h z l r, c => by simp [flatS] at c
theorem FzL.dpF : ∀ {vs : List V} {ds : List PyData}, FzL K Z H vs ds → flatSL ds = true → DpAll K H vs ds
  | _, _, .nil, _ => .nil
  | _, _, .cons r t, c => by
    have c' := Bool.and_eq_true_iff.mp (by simpa [flatSL] using c)
    exact .cons (Fz.dpF r c'.1) (FzL.dpF t c'.2)
end
theorem flatSL_of : ∀ {ds : List PyData}, (∀ d ∈ ds, flatS d = true) → flatSL ds = true
  | [], _ => by simp [flatSL]
  | d :: ds, h => by rw [flatSL, h d List.mem_cons_self, flatSL_of fun e he => h e (List.mem_cons_of_mem _ he)]; rfl
theorem fzL_zip : ∀ {ws : List V} {ds : List PyData}, FzL K Z H ws ds → ∀ p ∈ ws.zip ds, Fz K Z H p.1 p.2
  | _, _, .nil, p, hp => by simp at hp
  | _, _, .cons r t, p, hp => by
    rw [List.zip_cons_cons] at hp
    rcases List.mem_cons.mp hp with rfl | hp
    · exact r
    · exact fzL_zip t p hp
theorem fzL_of : ∀ {bs : List (V × PyData)}, (∀ p ∈ bs, Fz K Z H p.1 p.2) → FzL K Z H (bs.map Prod.fst) (bs.map Prod.snd)
  | [], _ => .nil
  | b :: bs, h => .cons (h b List.mem_cons_self) (fzL_of fun p hp => h p (List.mem_cons_of_mem _ hp))
/-- sorted -/
theorem FzL.sort {ws : List V} {ds : List PyData} (r : FzL K Z H ws ds) (ok : sortOk ds = true) : FzL K Z H (((ws.zip ds).mergeSort (PySem.W.dataLe false Prod.snd)).map Prod.fst) (sortL ds) := by
  have hen : (ws.zip ds).map Prod.snd = ds := by rw [List.map_snd_zip (by rw [r.length]; exact Nat.le_refl _)]
  have e := sortL_eq (β := V × PyData) Prod.snd (bs := ws.zip ds) (by rw [hen]; exact ok)
  rw [hen] at e
  rw [e]
  exact fzL_of fun p hp => fzL_zip r p ((List.mergeSort_perm _ _).mem_iff.mp hp)
end
end PD
end
section
set_option linter.all false
set_option maxRecDepth 100000
set_option Elab.async false
/-! sum, max, min of what stands in a list or a tuple -/
namespace PD
open PySem L2 PySem.Spec PyProof.Rows
section
variable {X : Cx}
def SqA (K : PySem.W.Frag) (H : Hp) (a : Addr) (ws : List V) : Prop := SqL K H a ws ∨ SqT K H a ws
def rSumA (K : PySem.W.Frag) : List V → Hp → VK → Prop := fun vs H Q => ∃ (a : Addr) (ns : List Int), vs = [V.ref a] ∧ SqA K H a (ns.map V.int) ∧ Q (.int ns.sum) H
theorem cr_sumA (hc : X.calm = true) : CallR X (.builtin "sum") (rSumA X.K) := by
  intro pins s σ H vs us Q I r h
  obtain ⟨a, ns, rfl, hs, q⟩ := h
  rcases hs with hs | hs
  · exact cr_sum hc pins s σ H _ us Q I r ⟨a, ns, rfl, hs, q⟩
  · obtain ⟨its, rv, p, _⟩ := I.tuple hs
    rw [Vals.ref1 r]
    have hi : IntsAre its ns := rv.ints
    obtain ⟨xs, e⟩ := hi.allInts.items
    have hn : numsOf (intItems xs).toList = ns := by rw [← e]; exact hi.numsOf
    rw [nums_intItems] at hn
    have ht : s.heap.IsTuple a (intItems xs) := by rw [← e]; exact p
    refine PySem.W.ktm_sumG (I.ok.hd hc) ht fun h' tk t' hk => ?_
    rw [preSum_eq, List.take_of_length_le (by simp), hn]
    exact ⟨.int _, H, I.kept hk, ⟨_, rfl⟩, q⟩
/-! ### max, min -/
theorem depthAll_le {xs : List PyData} {n : Nat} (h : ∀ a ∈ xs, a.depth ≤ n) : PyData.depthAll xs ≤ n := by
  induction xs with
  | nil => simp [PyData.depthAll]
  | cons x xs ih =>
    rw [PyData.depthAll]
    exact Nat.max_le.mpr ⟨h x List.mem_cons_self, ih fun a ha => h a (List.mem_cons_of_mem _ ha)⟩
theorem maxF_eq : ∀ {x : PyData} {xs : List PyData} {all : List PyData}, x ∈ all → (∀ a ∈ xs, a ∈ all) → (∀ a ∈ all, ∀ b ∈ all, ltD a b = PySem.W.dataLt a b) → maxF x xs = PySem.W.maxD x xs ∧ maxF x xs ∈ all
  | x, [], all, hx, _, _ => ⟨rfl, hx⟩
  | x, y :: r, all, hx, hr, h => by
    have hy := hr y List.mem_cons_self
    have hm : (if ltD x y = true then y else x) ∈ all := by split <;> assumption
    have ih := maxF_eq (x := if ltD x y = true then y else x) (xs := r) hm (fun a ha => hr a (List.mem_cons_of_mem _ ha)) h
    refine ⟨?_, ih.2⟩
    show maxF (if ltD x y = true then y else x) r = _
    rw [ih.1]
    unfold PySem.W.maxD
    rw [List.foldl_cons, h x hx y hy]
theorem minF_eq : ∀ {x : PyData} {xs : List PyData} {all : List PyData}, x ∈ all → (∀ a ∈ xs, a ∈ all) → (∀ a ∈ all, ∀ b ∈ all, ltD a b = PySem.W.dataLt a b) → minF x xs = PySem.W.minD x xs ∧ minF x xs ∈ all
  | x, [], all, hx, _, _ => ⟨rfl, hx⟩
  | x, y :: r, all, hx, hr, h => by
    have hy := hr y List.mem_cons_self
    have hm : (if ltD y x = true then y else x) ∈ all := by split <;> assumption
    have ih := minF_eq (x := if ltD y x = true then y else x) (xs := r) hm (fun a ha => hr a (List.mem_cons_of_mem _ ha)) h
    refine ⟨?_, ih.2⟩
    show minF (if ltD y x = true then y else x) r = _
    rw [ih.1]
    unfold PySem.W.minD
    rw [List.foldl_cons, h y hy x hx]
/-- max(x), min(x): the item itself -/
def rBest (K : PySem.W.Frag) (f : PyData → List PyData → PyData) : List V → Hp → VK → Prop := fun vs H Q => ∃ (a : Addr) (ws : List V) (d : PyData) (ds : List PyData), vs = [V.ref a] ∧ SqA K H a ws ∧ DpAll K H ws (d :: ds) ∧ sortOk (d :: ds) = true ∧ ∀ (i : Nat) (w : V), ws[i]? = some w → (d :: ds)[i]? = some (f d ds) → Q w H
theorem best_run {pins : List (Addr × Obj)} {σ : L2.St} {H : Hp} {s : Shared} {Q : VK} {id : String} {f g : PyData → List PyData → PyData} (hc : X.calm = true) (hu : X.A.units + 64 < cLine)
    (hL : ∀ {l : Addr} {vs : Array Value} {x : PyData} {xs : List PyData} {as : List Addr} {Q : Value → Shared → Prop}, X.A.handled = none → s.heap.IsList l vs → ReadsAll s.heap vs.toList (x :: xs) as → PySem.W.AlikeAll (x :: xs) → X.A.units + 1 + PyData.depthAll (x :: xs) < cLine →
      (∀ (i : Nat) v h' tk bs, vs[i]? = some v → Reads h' v (g x xs) bs → (∀ b o, s.heap.get? b = some o → h'.get? b = some o) → Q v { s with heap := h', toks := tk }) → wpAny (model X.prog X.w) X.A (call (.builtin id) [.ref l]) Q X.xe s)
    (hT : ∀ {l : Addr} {vs : Array Value} {x : PyData} {xs : List PyData} {as : List Addr} {Q : Value → Shared → Prop}, X.A.handled = none → s.heap.IsTuple l vs → ReadsAll s.heap vs.toList (x :: xs) as → PySem.W.AlikeAll (x :: xs) → X.A.units + 1 + PyData.depthAll (x :: xs) < cLine →
      (∀ (i : Nat) v h' tk bs, vs[i]? = some v → Reads h' v (g x xs) bs → (∀ b o, s.heap.get? b = some o → h'.get? b = some o) → Q v { s with heap := h', toks := tk }) → wpAny (model X.prog X.w) X.A (call (.builtin id) [.ref l]) Q X.xe s)
    (hfg : ∀ x xs, (∀ a ∈ x :: xs, ∀ b ∈ x :: xs, ltD a b = PySem.W.dataLt a b) → f x xs = g x xs ∧ f x xs ∈ x :: xs)
    {vs : List V} {us : List Value} (I : Inv X pins σ H s) (r : Vals vs us) (h : rBest X.K f vs H Q) : wpAny (model X.prog X.w) X.A (call (.builtin id) us) (EP X pins σ Q) X.xe s := by
  obtain ⟨a, ws, d, ds, rfl, hs, dp, ok, q⟩ := h
  rw [Vals.ref1 r]
  obtain ⟨al, so, lt, dep, fl⟩ := sortOk_spec ok
  obtain ⟨e1, e2⟩ := hfg d ds lt
  have nn : PySem.W.AlikeAll (d :: ds) := ⟨al, fun x hx e => by have := fl x hx; rw [e] at this; simp [flatS] at this⟩
  have hd : X.A.units + 1 + PyData.depthAll (d :: ds) < cLine := by have := depthAll_le dep; omega
  have fin : ∀ (its : List Value) (i : Nat) (v : Value) (h' : Heap) (tk : Nat) (bs : List Addr), Vals ws its → its.toArray[i]? = some v → Reads h' v (g d ds) bs → (∀ b o, s.heap.get? b = some o → h'.get? b = some o) → EP X pins σ Q v { s with heap := h', toks := tk } := fun its i v h' tk bs rv hv rd hk => by
    rw [List.getElem?_toArray] at hv
    have li : i < ws.length := by rw [rv.length]; exact (List.getElem?_eq_some_iff.mp hv).1
    have ew := List.getElem?_eq_getElem li
    obtain ⟨u, hu, ru⟩ := rv.get ew
    rw [hv] at hu; cases hu
    have I1 : Inv X pins σ H { s with heap := h', toks := tk } := I.kept hk
    have ld : i < (d :: ds).length := by rw [← dpAll_length dp]; exact li
    have ed := List.getElem?_eq_getElem ld
    have dpi : Dp X.K H ws[i] ((d :: ds)[i]) := by
      have go : ∀ {ws : List V} {es : List PyData} (i : Nat) (w : V) (e : PyData), DpAll X.K H ws es → ws[i]? = some w → es[i]? = some e → Dp X.K H w e := fun {ws} => by
        induction ws with
        | nil => intro es i w e h hw; simp at hw
        | cons x ws ih =>
          intro es i w e h hw he
          cases h with
          | cons h1 h2 => cases i with
            | zero => simp at hw he; subst hw he; exact h1
            | succ i => exact ih i w e h2 (by simpa using hw) (by simpa using he)
      exact go i _ _ dp ew ed
    obtain ⟨as, rd2⟩ := Dp.reads I1 _ _ _ dpi ru
    have eq := PySem.W.alike_unique _ _ _ _ _ (al _ (e1 ▸ e2) _ (List.getElem_mem ld)) rd rd2
    exact ⟨ws[i], H, I1, ru, q i _ ew (by rw [ed, ← eq, e1])⟩
  rcases hs with hs | hs
  · obtain ⟨its, rv, hl, _⟩ := I.list hs
    obtain ⟨as, rd⟩ := Dp.readsAll I _ _ _ dp rv
    exact hL (I.ok.hd hc) hl.isList rd nn hd fun i v h' tk bs hv rd hk => fin its i v h' tk bs rv hv rd hk
  · obtain ⟨its, rv, p, _⟩ := I.tuple hs
    obtain ⟨as, rd⟩ := Dp.readsAll I _ _ _ dp rv
    exact hT (I.ok.hd hc) p rd nn hd fun i v h' tk bs hv rd hk => fin its i v h' tk bs rv hv rd hk
theorem cr_maxA (hc : X.calm = true) (hu : X.A.units + 64 < cLine) : CallR X (.builtin "max") (rBest X.K maxF) := by
  intro pins s σ H vs us Q I r h
  exact best_run hc hu (g := PySem.W.maxD) PySem.W.max_list_data PySem.W.max_tuple_data (fun x xs h => maxF_eq List.mem_cons_self (fun a ha => List.mem_cons_of_mem _ ha) h) I r h
theorem cr_minA (hc : X.calm = true) (hu : X.A.units + 64 < cLine) : CallR X (.builtin "min") (rBest X.K minF) := by
  intro pins s σ H vs us Q I r h
  exact best_run hc hu (g := PySem.W.minD) PySem.W.min_list_data PySem.W.min_tuple_data (fun x xs h => minF_eq List.mem_cons_self (fun a ha => List.mem_cons_of_mem _ ha) h) I r h
end
end PD
end
section
set_option linter.all false
set_option maxRecDepth 100000
namespace PD
open PySem L2

section
variable {X : Cx} {P : Pl} {B : Base} {W : Wi} {σ : St} {H : Hp} {C : Nat → Callee}

/-! ### built-in functions -/
theorem LkL.drop' {K : PySem.W.Frag} {env : Env} {ts ts' : List (V × O)} {vs ds} (h : LkL K (Zf B (cell env σ (ts ++ ts'))) H vs ds) : LkL K (Zf B (cell env σ ts)) H vs ds := by
  induction h with
  | nil => exact .nil
  | cons r _ ih => exact .cons r.drop' ih
/-- what a built-in does with what is read -/
def BiR (X : Cx) (P : Pl) (B : Base) (b : BI) (r : List V → Hp → VK → Prop) : Prop :=
  ∀ (env : Env) (ts : List (V × O)) (σ : St) (H : Hp) (vs : List V) (ps : List PyData) (m : MV) (Q : VK), Sim X.K P B env ts σ H → LkL X.K (Zf B (cell env σ ts)) H vs ps → builtin b ps = some m →
    (∀ v H', Sim X.K P B env (ts ++ [(v, .v m)]) σ H' → Q v H') → r vs H Q
theorem bi_read {b : BI} {r : List V → Hp → VK → Prop} {as : EL} {Q : VK} (br : BiR X P B b r) (h : rO X.K P B W (evO C (.bi b as)) σ H Q) : tCB r (rL X.K P B W (evL C as)) σ H Q := by
  obtain ⟨env, ts, S, h⟩ := h
  refine rL_first S h _ fun os e vs H' hl S h => ?_
  rw [wpM_bind] at h
  obtain ⟨ps, lk, h⟩ := wp_rdAll (vs := vs) S hl (fun x hx => List.mem_append_right _ hx) h
  obtain ⟨m, e1, h⟩ := wpM_ofO h
  exact br _ _ _ _ _ _ _ _ (Sim.drop S) (LkL.drop' lk) e1 h
theorem s_biB {b : BI} {id : String} {r : List V → Hp → VK → Prop} (hc : CallR X (.builtin id) r) (br : BiR X P B b r) {x : Str} {p pos : Pos} {e : Expr} {es : List Expr} {as : EL} (hg : Gl X x) (hm : X.mg x = none) (hv : bootBuiltins x = some (.builtin id)) (ha : PA X (e :: es) (rL X.K P B W (evL C as)))
    (hn : x ≠ "__name__" := by decide) (hdb : (x == ("__debug__" : Str)) = false := by decide) (he : starEach (e :: es) X.env = (false, eval e X.env) :: starEach es X.env := by rfl) (hpl : (backTo pos (starEach es X.env)).any (·.1) = false := by rfl) :
    PE X (.Call (.Name x p) (e :: es) [] pos) (rO X.K P B W (evO C (.bi b as))) :=
  PE.imp (pe_callB hc hg hm hv ha hn hdb he hpl) fun _ _ _ h => bi_read br h
theorem s_biT {b : BI} {id : String} {r : List V → Hp → VK → Prop} (hc : CallR X (.type id) r) (br : BiR X P B b r) {x : Str} {p pos : Pos} {e : Expr} {es : List Expr} {as : EL} (hg : Gl X x) (hm : X.mg x = none) (hv : bootBuiltins x = some (.type id)) (ha : PA X (e :: es) (rL X.K P B W (evL C as)))
    (hn : x ≠ "__name__" := by decide) (hdb : (x == ("__debug__" : Str)) = false := by decide) (he : starEach (e :: es) X.env = (false, eval e X.env) :: starEach es X.env := by rfl) (hpl : (backTo pos (starEach es X.env)).any (·.1) = false := by rfl) :
    PE X (.Call (.Name x p) (e :: es) [] pos) (rO X.K P B W (evO C (.bi b as))) :=
  PE.imp (pe_callTy hc hg hm hv ha hn hdb he hpl) fun _ _ _ h => bi_read br h
/-- a list or a tuple, read -/
theorem Lk.seq {K : PySem.W.Frag} {Z : Addr → Prop} {x : V} {p : PyData} {xs : List PyData} (h : Lk K Z H x p) (e : seqOf p = some xs) : ∃ a vs, x = .ref a ∧ (SqL K H a vs ∨ SqT K H a vs) ∧ FzL K Z H vs xs := by
  cases p with
  | list ys => cases e; obtain ⟨a, vs, rfl, ha, r⟩ := h; exact ⟨a, vs, rfl, .inl (.inl (.inl ha)), r⟩
  | tuple ys => cases e; obtain ⟨a, vs, rfl, ha, r⟩ := h.tup; exact ⟨a, vs, rfl, .inr (.of ha), r⟩
  | _ => cases e
theorem asInts_map : ∀ {xs : List PyData} {is : List Int}, asInts xs = some is → xs = is.map PyData.int
  | [], is, h => by cases h; rfl
  | x :: r, is, h => by
    cases x with
    | int i =>
      have h : (asInts r).map (i :: ·) = some is := h
      cases e : asInts r with
      | none => rw [e] at h; cases h
      | some js => rw [e] at h; cases h; rw [asInts_map e]; rfl
    | _ => cases h
theorem asBools_map : ∀ {xs : List PyData} {is : List Bool}, asBools xs = some is → xs = is.map PyData.bool
  | [], is, h => by cases h; rfl
  | x :: r, is, h => by
    cases x with
    | bool i =>
      have h : (asBools r).map (i :: ·) = some is := h
      cases e : asBools r with
      | none => rw [e] at h; cases h
      | some js => rw [e] at h; cases h; rw [asBools_map e]; rfl
    | _ => cases h
theorem FzL.ints {K : PySem.W.Frag} {Z : Addr → Prop} : ∀ {is : List Int} {vs : List V}, FzL K Z H vs (is.map PyData.int) → vs = is.map V.int
  | [], _, .nil => rfl
  | i :: is, _, .cons r t => by cases r; rw [FzL.ints t]; rfl
theorem FzL.bools {K : PySem.W.Frag} {Z : Addr → Prop} : ∀ {is : List Bool} {vs : List V}, FzL K Z H vs (is.map PyData.bool) → vs = is.map V.bl
  | [], _, .nil => rfl
  | i :: is, _, .cons r t => by cases r; rw [FzL.bools t]; rfl
theorem FzL.ofInts {K : PySem.W.Frag} {Z : Addr → Prop} : ∀ is : List Int, FzL K Z H (is.map V.int) (is.map PyData.int)
  | [] => .nil
  | i :: is => .cons (.int i) (FzL.ofInts is)
theorem br_len : BiR X P B .len (fun xs H Q => ∃ x n, xs = [x] ∧ LenV X.K x H n ∧ Q (.int n) H) := by
  intro env ts σ H vs ps m Q S lk e hQ
  replace e : bLen ps = some m := e
  unfold bLen at e
  split at e <;> try cases e
  · cases lk with | cons r t => cases t; obtain ⟨a, ws, rfl, ha, r⟩ := r; exact ⟨_, _, rfl, .inl ⟨ws, .of ha, rfl⟩, by rw [r.length]; exact hQ _ _ (S.atom fun _ => .int _)⟩
  · cases lk with | cons r t => cases t; obtain ⟨a, ws, rfl, ha, r⟩ := r.tup; exact ⟨_, _, rfl, .inr ⟨ws, .of ha, rfl⟩, by rw [r.length]; exact hQ _ _ (S.atom fun _ => .int _)⟩
  · rename_i x
    split at e
    · rename_i hz
      cases e
      cases lk with | cons r t => cases t; cases r.str; exact ⟨_, _, rfl, ⟨by rw [line_eq]; exact hz, rfl⟩, hQ _ _ (S.atom fun _ => .int _)⟩
    · cases e
theorem br_int : BiR X P B .int (fun xs H Q => (∃ i, xs = [.int i] ∧ Q (.int i) H) ∨ ∃ k, xs = [.bl k] ∧ Q (.int (if k then 1 else 0)) H) := by
  intro env ts σ H vs ps m Q S lk e hQ
  replace e : bInt ps = some m := e
  unfold bInt at e
  split at e <;> try cases e
  · cases lk with | cons r t => cases t; cases r.int; exact .inl ⟨_, rfl, hQ _ _ (S.atom fun _ => .int _)⟩
  · cases lk with | cons r t => cases t; cases (show Fz _ _ _ _ _ from r); exact .inr ⟨_, rfl, hQ _ _ (S.atom fun _ => .int _)⟩
theorem br_abs : BiR X P B .abs (fun xs H Q => ∃ i, xs = [.int i] ∧ Q (.int (if i < 0 then -i else i)) H) := by
  intro env ts σ H vs ps m Q S lk e hQ
  replace e : bAbs ps = some m := e
  unfold bAbs at e
  split at e <;> try cases e
  · cases lk with | cons r t => cases t; cases r.int; exact ⟨_, rfl, hQ _ _ (S.atom fun _ => .int _)⟩
theorem br_list : BiR X P B .list (rLstA X.K) := by
  intro env ts σ H vs ps m Q S lk e hQ
  replace e : bList ps = some m := e
  have two : ∃ p xs, ps = [p] ∧ gathD p = some xs ∧ m = .ml xs := by
    unfold bList at e
    split at e <;> cases e <;> exact ⟨_, _, rfl, rfl, rfl⟩
  obtain ⟨p, xs, rfl, e1, rfl⟩ := two
  cases lk with | cons r t => cases t; obtain ⟨a, rfl, g⟩ := r.gat e1; exact ⟨a, rfl, g _ fun ws rw' p hp => hQ _ _ (S.newL hp rw')⟩
theorem br_tuple : BiR X P B .tuple (fun xs H Q => ∃ p ys, xs = [.ref p] ∧ ((SqL X.K H p ys ∧ ∀ l, H l = none → Q (.ref l) (upd H l (.tup ys))) ∨ (SqT X.K H p ys ∧ Q (.ref p) H))) := by
  intro env ts σ H vs ps m Q S lk e hQ
  replace e : bTuple ps = some m := e
  unfold bTuple at e
  split at e <;> try cases e
  · cases lk with | cons r t => cases t; obtain ⟨a, ws, rfl, ha, r⟩ := r; exact ⟨_, _, rfl, .inl ⟨.of ha, fun l hl => hQ _ _ (S.newT hl r)⟩⟩
  · cases lk with | cons r t => cases t; obtain ⟨a, ws, rfl, ha, r⟩ := r.tup; exact ⟨_, _, rfl, .inr ⟨.of ha, hQ _ _ (S.pushD (.tup ha r))⟩⟩
theorem br_sum : BiR X P B .sum (rSumA X.K) := by
  intro env ts σ H vs ps m Q S lk e hQ
  replace e : bSum ps = some m := e
  unfold bSum at e
  split at e <;> try cases e
  · rename_i p
    cases e0 : seqOf p with
    | none => simp only [e0] at e; cases e
    | some xs =>
      simp only [e0] at e
      cases e1 : asInts xs with
      | none => rw [e1] at e; cases e
      | some is =>
        rw [e1] at e; cases e
        cases lk with | cons r t => cases t; obtain ⟨a, ws, rfl, ha, r⟩ := r.seq e0; rw [asInts_map e1] at r; rw [r.ints] at ha; exact ⟨_, _, rfl, ha, hQ _ _ (S.atom fun _ => .int _)⟩
theorem br_all : BiR X P B .all (rAll X.K) := by
  intro env ts σ H vs ps m Q S lk e hQ
  replace e : bAll ps = some m := e
  unfold bAll at e
  split at e <;> try cases e
  · rename_i xs
    cases e1 : asBools xs with
    | none => rw [e1] at e; cases e
    | some is =>
      rw [e1] at e; cases e
      cases lk with | cons r t => cases t; obtain ⟨a, ws, rfl, ha, r⟩ := r; rw [asBools_map e1] at r; rw [r.bools] at ha; exact ⟨_, _, rfl, .of ha, hQ _ _ (S.atom fun _ => .bl _)⟩
theorem br_any : BiR X P B .any (rAny X.K) := by
  intro env ts σ H vs ps m Q S lk e hQ
  replace e : bAny ps = some m := e
  unfold bAny at e
  split at e <;> try cases e
  · rename_i xs
    cases e1 : asBools xs with
    | none => rw [e1] at e; cases e
    | some is =>
      rw [e1] at e; cases e
      cases lk with | cons r t => cases t; obtain ⟨a, ws, rfl, ha, r⟩ := r; rw [asBools_map e1] at r; rw [r.bools] at ha; exact ⟨_, _, rfl, .of ha, hQ _ _ (S.atom fun _ => .bl _)⟩
theorem br_max : BiR X P B .max (fun xs H Q => (∃ i j, xs = [.int i, .int j] ∧ Q (.int (if j > i then j else i)) H) ∨ rBest X.K maxF xs H Q) := by
  intro env ts σ H vs ps m Q S lk e hQ
  replace e : bMax ps = some m := e
  unfold bMax at e
  split at e
  · cases e
    cases lk with | cons r t => cases t with | cons r2 t => cases t; cases r.int; cases r2.int; exact .inl ⟨_, _, rfl, hQ _ _ (S.atom fun _ => .int _)⟩
  · rename_i p
    unfold bestOf at e
    split at e
    · rename_i d r' e0
      split at e <;> cases e
      rename_i ok
      cases lk with | cons r t => cases t; obtain ⟨a, ws, rfl, ha, r⟩ := r.seq e0; exact .inr ⟨a, ws, d, r', rfl, ha, r.dpF (flatSL_of (sortOk_spec ok).2.2.2.2), ok, fun i w hw hd => by
        obtain ⟨d', hd', rr⟩ := r.get hw
        rw [hd] at hd'; cases hd'
        exact hQ _ _ (S.pushD rr)⟩
    · cases e
  · cases e
theorem br_min : BiR X P B .min (fun xs H Q => (∃ i j, xs = [.int i, .int j] ∧ Q (.int (if j < i then j else i)) H) ∨ rBest X.K minF xs H Q) := by
  intro env ts σ H vs ps m Q S lk e hQ
  replace e : bMin ps = some m := e
  unfold bMin at e
  split at e
  · cases e
    cases lk with | cons r t => cases t with | cons r2 t => cases t; cases r.int; cases r2.int; exact .inl ⟨_, _, rfl, hQ _ _ (S.atom fun _ => .int _)⟩
  · rename_i p
    unfold bestOf at e
    split at e
    · rename_i d r' e0
      split at e <;> cases e
      rename_i ok
      cases lk with | cons r t => cases t; obtain ⟨a, ws, rfl, ha, r⟩ := r.seq e0; exact .inr ⟨a, ws, d, r', rfl, ha, r.dpF (flatSL_of (sortOk_spec ok).2.2.2.2), ok, fun i w hw hd => by
        obtain ⟨d', hd', rr⟩ := r.get hw
        rw [hd] at hd'; cases hd'
        exact hQ _ _ (S.pushD rr)⟩
    · cases e
  · cases e
theorem br_sorted : BiR X P B .sorted (rSrt X.K) := by
  intro env ts σ H vs ps m Q S lk e hQ
  replace e : bSorted ps = some m := e
  unfold bSorted at e
  split at e <;> try cases e
  · rename_i p
    cases e1 : gathD p with
    | none => simp only [e1] at e; cases e
    | some xs =>
      simp only [e1] at e
      split at e <;> try cases e
      rename_i ok
      cases lk with | cons r t => cases t; obtain ⟨a, rfl, g⟩ := r.gat e1; exact ⟨a, rfl, g _ fun ws rw' => ⟨xs, rw'.dpF (flatSL_of (sortOk_spec ok).2.2.2.2), ok, fun p hp => hQ _ _ (S.newL hp (rw'.sort ok))⟩⟩
/-! ### each by its name -/
section
variable {x : Str} {p pos : Pos} {e : Expr} {es : List Expr} {as : EL}
theorem s_len (hg : Gl X "len") (hm : X.mg "len" = none) (ha : PA X (e :: es) (rL X.K P B W (evL C as))) (he : starEach (e :: es) X.env = (false, eval e X.env) :: starEach es X.env := by rfl) (hpl : (backTo pos (starEach es X.env)).any (·.1) = false := by rfl) : PE X (.Call (.Name "len" p) (e :: es) [] pos) (rO X.K P B W (evO C (.bi .len as))) := s_biB call_len br_len hg hm rfl ha (he := he) (hpl := hpl)
theorem s_abs (hg : Gl X "abs") (hm : X.mg "abs" = none) (ha : PA X (e :: es) (rL X.K P B W (evL C as))) (he : starEach (e :: es) X.env = (false, eval e X.env) :: starEach es X.env := by rfl) (hpl : (backTo pos (starEach es X.env)).any (·.1) = false := by rfl) : PE X (.Call (.Name "abs" p) (e :: es) [] pos) (rO X.K P B W (evO C (.bi .abs as))) := s_biB call_abs br_abs hg hm rfl ha (he := he) (hpl := hpl)
theorem s_sum (hc : X.calm = true) (hg : Gl X "sum") (hm : X.mg "sum" = none) (ha : PA X (e :: es) (rL X.K P B W (evL C as))) (he : starEach (e :: es) X.env = (false, eval e X.env) :: starEach es X.env := by rfl) (hpl : (backTo pos (starEach es X.env)).any (·.1) = false := by rfl) : PE X (.Call (.Name "sum" p) (e :: es) [] pos) (rO X.K P B W (evO C (.bi .sum as))) := s_biB (cr_sumA hc) br_sum hg hm rfl ha (he := he) (hpl := hpl)
theorem s_all (hc : X.calm = true) (hg : Gl X "all") (hm : X.mg "all" = none) (ha : PA X (e :: es) (rL X.K P B W (evL C as))) (he : starEach (e :: es) X.env = (false, eval e X.env) :: starEach es X.env := by rfl) (hpl : (backTo pos (starEach es X.env)).any (·.1) = false := by rfl) : PE X (.Call (.Name "all" p) (e :: es) [] pos) (rO X.K P B W (evO C (.bi .all as))) := s_biB (cr_all hc) br_all hg hm rfl ha (he := he) (hpl := hpl)
theorem s_any (hc : X.calm = true) (hg : Gl X "any") (hm : X.mg "any" = none) (ha : PA X (e :: es) (rL X.K P B W (evL C as))) (he : starEach (e :: es) X.env = (false, eval e X.env) :: starEach es X.env := by rfl) (hpl : (backTo pos (starEach es X.env)).any (·.1) = false := by rfl) : PE X (.Call (.Name "any" p) (e :: es) [] pos) (rO X.K P B W (evO C (.bi .any as))) := s_biB (cr_any hc) br_any hg hm rfl ha (he := he) (hpl := hpl)
theorem s_max (hc : X.calm = true) (hu : X.A.units + 64 < cLine) (hg : Gl X "max") (hm : X.mg "max" = none) (ha : PA X (e :: es) (rL X.K P B W (evL C as))) (he : starEach (e :: es) X.env = (false, eval e X.env) :: starEach es X.env := by rfl) (hpl : (backTo pos (starEach es X.env)).any (·.1) = false := by rfl) : PE X (.Call (.Name "max" p) (e :: es) [] pos) (rO X.K P B W (evO C (.bi .max as))) := s_biB (.or (call_max2 hc) (cr_maxA hc hu)) br_max hg hm rfl ha (he := he) (hpl := hpl)
theorem s_min (hc : X.calm = true) (hu : X.A.units + 64 < cLine) (hg : Gl X "min") (hm : X.mg "min" = none) (ha : PA X (e :: es) (rL X.K P B W (evL C as))) (he : starEach (e :: es) X.env = (false, eval e X.env) :: starEach es X.env := by rfl) (hpl : (backTo pos (starEach es X.env)).any (·.1) = false := by rfl) : PE X (.Call (.Name "min" p) (e :: es) [] pos) (rO X.K P B W (evO C (.bi .min as))) := s_biB (.or (call_min2 hc) (cr_minA hc hu)) br_min hg hm rfl ha (he := he) (hpl := hpl)
theorem s_int (hg : Gl X "int") (hm : X.mg "int" = none) (ha : PA X (e :: es) (rL X.K P B W (evL C as))) (he : starEach (e :: es) X.env = (false, eval e X.env) :: starEach es X.env := by rfl) (hpl : (backTo pos (starEach es X.env)).any (·.1) = false := by rfl) : PE X (.Call (.Name "int" p) (e :: es) [] pos) (rO X.K P B W (evO C (.bi .int as))) := s_biT call_int1 br_int hg hm rfl ha (he := he) (hpl := hpl)
theorem s_list (hc : X.calm = true) (hg : Gl X "list") (hm : X.mg "list" = none) (ha : PA X (e :: es) (rL X.K P B W (evL C as))) (he : starEach (e :: es) X.env = (false, eval e X.env) :: starEach es X.env := by rfl) (hpl : (backTo pos (starEach es X.env)).any (·.1) = false := by rfl) : PE X (.Call (.Name "list" p) (e :: es) [] pos) (rO X.K P B W (evO C (.bi .list as))) := s_biT (cr_listA hc) br_list hg hm rfl ha (he := he) (hpl := hpl)
theorem s_tuple (hg : Gl X "tuple") (hm : X.mg "tuple" = none) (ha : PA X (e :: es) (rL X.K P B W (evL C as))) (he : starEach (e :: es) X.env = (false, eval e X.env) :: starEach es X.env := by rfl) (hpl : (backTo pos (starEach es X.env)).any (·.1) = false := by rfl) : PE X (.Call (.Name "tuple" p) (e :: es) [] pos) (rO X.K P B W (evO C (.bi .tuple as))) := s_biT call_tuple_of br_tuple hg hm rfl ha (he := he) (hpl := hpl)
theorem s_sorted (hc : X.calm = true) (hu : X.A.units + 64 < cLine) (hg : Gl X "sorted") (hm : X.mg "sorted" = none) (ha : PA X (e :: es) (rL X.K P B W (evL C as))) (he : starEach (e :: es) X.env = (false, eval e X.env) :: starEach es X.env := by rfl) (hpl : (backTo pos (starEach es X.env)).any (·.1) = false := by rfl) : PE X (.Call (.Name "sorted" p) (e :: es) [] pos) (rO X.K P B W (evO C (.bi .sorted as))) := s_biB (cr_sortedA hc hu) br_sorted hg hm rfl ha (he := he) (hpl := hpl)
end
end
end PD
end
section
set_option linter.all false
set_option maxRecDepth 100000
namespace PD
open PySem L2

section
variable {X : Cx} {P : Pl} {B : Base} {W : Wi} {σ : St} {H : Hp} {C : Nat → Callee}

theorem s_rev {l : Expr} {a : E} {k : Nat} {p1 p2 p3 pos : Pos} (ha : PE X l (rO X.K P B W (evO C a))) : PE X (.Subscript l (.Slice none none (some (.UnaryOp .USub (.Constant (.int 1) k p1) p2)) p3) pos) (rO X.K P B W (evO C (.rev a))) := by
  refine PE.imp (pe_revL ha) fun σ H Q ⟨env, ts, S, h⟩ => one_read S h _ fun env H x p S lx h1 => ?_
  cases p with
  | list xs => obtain ⟨b, vs, rfl, hb, r⟩ := lx; exact ⟨b, vs, rfl, .of hb, fun p hp => h1 _ _ (S.newL hp r.reverse)⟩
  | _ => exact h1.elim

/-! ### methods that change a list -/
section
variable {K : PySem.W.Frag} {env : Env} {ts : List (V × O)} {H' : Hp}
/-- a name's list is written -/
theorem Sim.setL (S : Sim K P B env ts σ H) {i : Nat} {xs xs' : List PyData} {a : Addr} {vs vs' : List V} (e : env.at i = some (.ml xs)) (hv : σ[i]? = some (some (.ref a))) (ha : H a = some (.lst vs)) (r : FzL K (Zf B (cell env σ ts)) H vs' xs') :
    Sim K P B (env.set i (some (.ml xs'))) ts σ (upd H a (.lst vs')) := by
  have c0 : cell env σ ts i = some (.ref a, .ml xs) := cell_name (at_some e) hv
  refine S.nameSet e hv (fun b => b = a) (fun b o x ne => by rw [upd_ne ne]; exact x) (fun b c => ⟨by rw [c], rfl, (fun o u z => by subst c; rw [ha] at z; cases z), ⟨_, by subst c; exact upd_same⟩⟩) (fun h => ?_) (fun _ => rfl)
  refine ⟨a, vs', rfl, upd_same, FzL.go (fun b o x z => ⟨?_, Zf.less h z⟩) (fun b ws x => ?_) r⟩
  · rw [upd_ne]
    · exact x
    · intro c; subst c; exact z.1 i ⟨_, c0, rfl⟩
  · rw [upd_ne]
    · exact x
    · intro c; subst c; rw [ha] at x; cases x
theorem Fz.setL (S : Sim K P B env ts σ H) {i : Nat} {xs xs' : List PyData} {a : Addr} {vs vs' : List V} (e : env.at i = some (.ml xs)) (hv : σ[i]? = some (some (.ref a))) (ha : H a = some (.lst vs)) {v : V} {d : PyData} (r : Fz K (Zf B (cell env σ ts)) H v d) :
    Fz K (Zf B (cell (env.set i (some (.ml xs'))) σ ts)) (upd H a (.lst vs')) v d := by
  have c0 : cell env σ ts i = some (.ref a, .ml xs) := cell_name (at_some e) hv
  have h : ∀ p a, Rt (cell (env.set i (some (.ml xs'))) σ ts) p a → Rt (cell env σ ts) p a := fun p b ⟨m, em, om⟩ => by
    rw [cell_set hv (List.getElem?_eq_some_iff.mp (at_some e)).1] at em
    by_cases hp : p = i
    · subst hp; rw [if_pos rfl] at em; cases em; exact ⟨_, c0, rfl⟩
    · rw [if_neg hp] at em; exact ⟨m, em, om⟩
  refine Fz.go (fun b o x z => ⟨?_, Zf.less h z⟩) (fun b ws x => ?_) r
  · rw [upd_ne]
    · exact x
    · intro c; subst c; exact z.1 i ⟨_, c0, rfl⟩
  · rw [upd_ne]
    · exact x
    · intro c; subst c; rw [ha] at x; cases x
end
/-- what a method does with what is taken -/
def MuR (X : Cx) (P : Pl) (B : Base) (f : List PyData → List PyData → Option (List PyData × PyData)) (r : V → List V → Hp → VK → Prop) : Prop :=
  ∀ (env : Env) (ts : List (V × O)) (σ : St) (H : Hp) (i : Nat) (a : Addr) (ws vs : List V) (xs ps xs' : List PyData) (y : PyData) (Q : VK), Sim X.K P B env ts σ H → env.at i = some (.ml xs) → σ[i]? = some (some (.ref a)) → H a = some (.lst ws) → FzL X.K (Zf B (cell env σ ts)) H ws xs → FzL X.K (Zf B (cell env σ ts)) H vs ps → f xs ps = some (xs', y) →
    (∀ v H', Sim X.K P B (env.set i (some (.ml xs'))) (ts ++ [(v, .v (.d y))]) σ H' → Q v H') → r (.ref a) vs H Q
theorem mu_read {m : MU} {i : Nat} {es : EL} {env : Env} {ts : List (V × O)} {Φ : O → Env → Prop} (S : Sim X.K P B env ts σ H) (h : wpM W (evO C (.mu m i es)) env Φ) :
    ∃ a ws xs, env.at i = some (.ml xs) ∧ σ[i]? = some (some (.ref a)) ∧ H a = some (.lst ws) ∧ wpM W (M.bind (evL C es) (fun os => M.bind (tkAll os) fun ps => fun env => match env.at i with
    | some mv => match mutm m mv ps with
      | some (xs, r) => .ok (.v (.d r)) (env.set i (some (.ml xs)))
      | none => .no
    | none => .no)) env Φ := by
  unfold wpM evO at h
  cases e : env.at i with
  | none => simp only [e, isMl] at h; exact (by simpa using h)
  | some mv =>
    cases mv with
    | ml xs =>
      obtain ⟨v, hv, _, a, ws, ev, ha, r⟩ := S.name e
      subst ev
      refine ⟨a, ws, xs, rfl, hv, ha, ?_⟩
      have h2 : wpM W (fun env => if isMl (env.at i) = true then _ else R.no) env Φ := h
      unfold wpM at h2 ⊢
      simp only [e, isMl, if_true] at h2
      exact h2
    | _ => simp only [e, isMl] at h; exact (by simpa using h)
theorem mu_rest {m : MU} {i : Nat} {os : List O} {env : Env} {ts : List (V × O)} {a : Addr} {vs : List V} {r : V → List V → Hp → VK → Prop} {Q : VK} (mr : MuR X P B (mutL m) r) (hl : vs.length = os.length) (S : Sim X.K P B env (ts ++ vs.zip os) σ H) (hv : σ[i]? = some (some (.ref a)))
    (h : wpM W (M.bind (tkAll os) fun ps => fun env => match env.at i with
    | some mv => match mutm m mv ps with
      | some (xs, r) => .ok (.v (.d r)) (env.set i (some (.ml xs)))
      | none => .no
    | none => .no) env fun o env' => ∀ v H', Sim X.K P B env' (ts ++ [(v, o)]) σ H' → Q v H') : r (.ref a) vs H Q := by
  rw [wpM_bind] at h
  obtain ⟨ps, env', S1, hp, h⟩ := wp_tkAll (ts' := []) hl (by simpa using S) h
  rw [List.append_nil] at S1
  have rp := Sim.heldL hp (fun x hx => List.mem_append_right _ hx) S1
  unfold wpM at h
  cases e : env'.at i with
  | none => simp only [e] at h
  | some mv =>
    simp only [e] at h
    cases mv with
    | ml xs =>
      cases e2 : mutm m (.ml xs) ps with
      | none => simp only [e2] at h
      | some q =>
        simp only [e2] at h
        obtain ⟨v, hv', _, b, ws, ev, hb, rr⟩ := S1.drop.name e
        subst ev
        rw [hv] at hv'; cases hv'
        exact mr _ _ _ _ i a ws vs xs ps q.1 q.2 Q S1.drop e hv hb rr rp.drop' e2 h
    | _ => simp [mutm] at h
theorem s_mu {m : MU} {id : String} {r : V → List V → Hp → VK → Prop} {name x : Str} {i : Nat} {e : Expr} {es : List Expr} {as : EL} {px apos cpos : Pos} (mr : MuR X P B (mutL m) r) (hm : MtR X id r) (slot : Slot "list" name id) (hty : typeOf (.builtin id) = pure (.type "method_descriptor"))
    (ho : PE X (.Name x px) (tVar i)) (ha : PA X (e :: es) (rL X.K P B W (evL C as)))
    (hbase : attributeBase (.Name x px) name X.env (eval (.Name x px) X.env) = eval (.Name x px) X.env := by rfl)
    (hfew : ((backTo cpos (starEach (e :: es) X.env)).all (fun x => !x.1) && (backToKw cpos (keywordEach [] X.env)).all (fun x => x.1.isSome)
      && decide ((e :: es).length + ([] : List Keyword).length + (if ([] : List Keyword).isEmpty then 0 else 1) < 30)) = true := by rfl)
    (hline : (apos.endLine == cpos.line) = true := by rfl) (hs : starEach (e :: es) X.env = (false, eval e X.env) :: starEach es X.env := by rfl) (hplain : (backTo cpos (starEach es X.env)).any (·.1) = false := by rfl) :
    PE X (.Call (.Attribute (.Name x px) name apos) (e :: es) [] cpos) (rO X.K P B W (evO C (.mu m i as))) := by
  refine PE.imp (pe_bm PySem.F.plainAttrs_list slot hty hm ho ha hbase hfew hline hs hplain) fun σ H Q ⟨env, ts, S, h⟩ => ?_
  obtain ⟨a, ws, xs, e1, hv, ha, h⟩ := mu_read S h
  refine ⟨.ref a, hv, .inl ⟨rfl, ws, .of ha⟩, ?_⟩
  exact rL_first S h _ fun os e vs H' hl S h => mu_rest mr hl S hv h
theorem s_mu0 {m : MU} {id : String} {r : V → List V → Hp → VK → Prop} {name x : Str} {i : Nat} {px apos cpos : Pos} (mr : MuR X P B (mutL m) r) (hm : MtR X id r) (slot : Slot "list" name id) (hty : typeOf (.builtin id) = pure (.type "method_descriptor"))
    (ho : PE X (.Name x px) (tVar i)) (hbase : attributeBase (.Name x px) name X.env (eval (.Name x px) X.env) = eval (.Name x px) X.env := by rfl) (hline : (apos.endLine == cpos.line) = true := by rfl) :
    PE X (.Call (.Attribute (.Name x px) name apos) [] [] cpos) (rO X.K P B W (evO C (.mu m i .nil))) := by
  refine PE.imp (pe_bm0 PySem.F.plainAttrs_list slot hty hm ho hbase hline) fun σ H Q ⟨env, ts, S, h⟩ => ?_
  obtain ⟨a, ws, xs, e1, hv, ha, h⟩ := mu_read S h
  exact ⟨.ref a, hv, .inl ⟨rfl, ws, .of ha⟩, mu_rest (os := []) (vs := []) (ts := ts) mr rfl (by simpa using S) hv h⟩
theorem mr_append : MuR X P B (mutL .append) rAppend := by
  intro env ts σ H i a ws vs xs ps xs' y Q S e hv ha rw' rp h hQ
  replace h : mAppend xs ps = some (xs', y) := h
  unfold mAppend at h
  split at h <;> try cases h
  split at h <;> try cases h
  rename_i hz
  cases rp with | cons r t => cases t; exact ⟨a, ws, _, rfl, rfl, ha, by rw [rw'.length, line_eq]; exact hz, hQ _ _ ((S.setL e hv ha (rw'.append (.one r))).atom fun _ => .non)⟩
theorem mr_extend : MuR X P B (mutL .extend) rExtend := by
  intro env ts σ H i a ws vs xs ps xs' y Q S e hv ha rw' rp h hQ
  replace h : mExtend xs ps = some (xs', y) := h
  unfold mExtend at h
  split at h <;> try cases h
  split at h <;> try cases h
  rename_i hz
  cases rp with | cons r t => cases t; cases r with | lst hb _ rb => exact ⟨a, _, ws, _, rfl, rfl, ha, hb, by rw [rw'.length, rb.length, line_eq]; exact hz, hQ _ _ ((S.setL e hv ha (rw'.append rb)).atom fun _ => .non)⟩
theorem FzL.dropLast {K : PySem.W.Frag} {Z : Addr → Prop} {vs : List V} {ds : List PyData} (r : FzL K Z H vs ds) : FzL K Z H vs.dropLast ds.dropLast := by
  rw [List.dropLast_eq_take, List.dropLast_eq_take, r.length]
  exact r.take _
theorem mr_pop : MuR X P B (mutL .pop) rPop := by
  intro env ts σ H i a ws vs xs ps xs' y Q S e hv ha rw' rp h hQ
  replace h : mPop xs ps = some (xs', y) := h
  unfold mPop at h
  split at h <;> try cases h
  split at h <;> try cases h
  rename_i p hp
  cases rp
  obtain ⟨v, hv', rv⟩ := rw'.get' hp
  exact ⟨a, ws, v, rfl, rfl, ha, by rw [rw'.length]; exact hv', hQ _ _ ((S.setL e hv ha rw'.dropLast).pushD (Fz.setL S e hv ha rv))⟩
theorem mr_popAt : MuR X P B (mutL .popAt) rPopAt := by
  intro env ts σ H i a ws vs xs ps xs' y Q S e hv ha rw' rp h hQ
  replace h : mPopAt xs ps = some (xs', y) := h
  unfold mPopAt at h
  split at h <;> try cases h
  rename_i j
  by_cases hz : -9223372036854775808 ≤ j ∧ j < 9223372036854775808
  · rw [if_pos hz] at h
    cases hk : seqIndex? j xs.length with
    | none => simp only [hk] at h; cases h
    | some k =>
      simp only [hk] at h
      cases hp : xs[k]? with
      | none => simp only [hp] at h; cases h
      | some p =>
        simp only [hp] at h
        cases h
        cases rp with | cons r t =>
          cases t; cases r
          obtain ⟨v, hv', rv⟩ := rw'.get' hp
          exact ⟨a, ws, _, k, v, rfl, rfl, ha, by omega, by omega, by rw [rw'.length]; exact hk, hv', hQ _ _ ((S.setL e hv ha (rw'.erase k)).pushD (Fz.setL S e hv ha rv))⟩
  · rw [if_neg hz] at h; cases h
section
variable {x : Str} {i : Nat} {e : Expr} {es : List Expr} {as : EL} {px apos cpos : Pos}
theorem s_append (ho : PE X (.Name x px) (tVar i)) (ha : PA X [e] (rL X.K P B W (evL C as))) (hs : starEach [e] X.env = (false, eval e X.env) :: starEach [] X.env := by rfl) (hbase : attributeBase (.Name x px) "append" X.env (eval (.Name x px) X.env) = eval (.Name x px) X.env := by rfl) (hfew : ((backTo cpos (starEach [e] X.env)).all (fun x => !x.1) && (backToKw cpos (keywordEach [] X.env)).all (fun x => x.1.isSome)
      && decide (([e]).length + ([] : List Keyword).length + (if ([] : List Keyword).isEmpty then 0 else 1) < 30)) = true := by rfl) (hline : (apos.endLine == cpos.line) = true := by rfl) :
    PE X (.Call (.Attribute (.Name x px) "append" apos) [e] [] cpos) (rO X.K P B W (evO C (.mu .append i as))) := s_mu mr_append mt_append PySem.F.slot_list_append PySem.F.type_list_append ho ha (hs := hs) (hbase := hbase) (hfew := hfew) (hline := hline)
theorem s_extend (ho : PE X (.Name x px) (tVar i)) (ha : PA X [e] (rL X.K P B W (evL C as))) (hs : starEach [e] X.env = (false, eval e X.env) :: starEach [] X.env := by rfl) (hbase : attributeBase (.Name x px) "extend" X.env (eval (.Name x px) X.env) = eval (.Name x px) X.env := by rfl) (hfew : ((backTo cpos (starEach [e] X.env)).all (fun x => !x.1) && (backToKw cpos (keywordEach [] X.env)).all (fun x => x.1.isSome)
      && decide (([e]).length + ([] : List Keyword).length + (if ([] : List Keyword).isEmpty then 0 else 1) < 30)) = true := by rfl) (hline : (apos.endLine == cpos.line) = true := by rfl) :
    PE X (.Call (.Attribute (.Name x px) "extend" apos) [e] [] cpos) (rO X.K P B W (evO C (.mu .extend i as))) := s_mu mr_extend mt_extend PySem.F.slot_list_extend PySem.F.type_list_extend ho ha (hs := hs) (hbase := hbase) (hfew := hfew) (hline := hline)
theorem s_popAt (ho : PE X (.Name x px) (tVar i)) (ha : PA X [e] (rL X.K P B W (evL C as))) (hs : starEach [e] X.env = (false, eval e X.env) :: starEach [] X.env := by rfl) (hbase : attributeBase (.Name x px) "pop" X.env (eval (.Name x px) X.env) = eval (.Name x px) X.env := by rfl) (hfew : ((backTo cpos (starEach [e] X.env)).all (fun x => !x.1) && (backToKw cpos (keywordEach [] X.env)).all (fun x => x.1.isSome)
      && decide (([e]).length + ([] : List Keyword).length + (if ([] : List Keyword).isEmpty then 0 else 1) < 30)) = true := by rfl) (hline : (apos.endLine == cpos.line) = true := by rfl) :
    PE X (.Call (.Attribute (.Name x px) "pop" apos) [e] [] cpos) (rO X.K P B W (evO C (.mu .popAt i as))) := s_mu mr_popAt mt_popAt PySem.F.slot_list_pop PySem.F.type_list_pop ho ha (hs := hs) (hbase := hbase) (hfew := hfew) (hline := hline)
theorem s_pop (ho : PE X (.Name x px) (tVar i)) (hbase : attributeBase (.Name x px) "pop" X.env (eval (.Name x px) X.env) = eval (.Name x px) X.env := by rfl) (hline : (apos.endLine == cpos.line) = true := by rfl) :
    PE X (.Call (.Attribute (.Name x px) "pop" apos) [] [] cpos) (rO X.K P B W (evO C (.mu .pop i .nil))) := s_mu0 mr_pop mt_pop PySem.F.slot_list_pop PySem.F.type_list_pop ho (hbase := hbase) (hline := hline)
end
end
end PD
end
section
set_option linter.all false
set_option maxRecDepth 100000
set_option Elab.async false
namespace PD
open PySem L2 PySem.Spec PyProof.Rows
open PySem (Draws ZipSep2)

/-- a list or a tuple -/
inductive SK where | l | t
def SqK (K : PySem.W.Frag) (H : Hp) : SK → Addr → List V → Prop
  | .l, a, xs => SqL K H a xs
  | .t, a, xs => SqT K H a xs
def IterK (h : Heap) : SK → Addr → Addr → Nat → Prop
  | .l, it, a, i => h.IsListIter it a i
  | .t, it, a, i => h.IsTupleIter it a i
def IsK (h : Heap) : SK → Addr → Array Value → Prop
  | .l, a, xs => h.IsList a xs
  | .t, a, xs => h.IsTuple a xs
def itObj : SK → Addr → Obj
  | .l, a => { cls := .type "list_iterator", data := .fields #[.ref a, .int 0 0] }
  | .t, a => { cls := .type "tuple_iterator", data := .fields #[.ref a, .int 0 0] }
section
variable {X : Cx} {pins : List (Addr × Obj)} {σ : L2.St} {H : Hp} {s : Shared} {k : SK} {a it : Addr} {xs ys : List V} {i : Nat} {h h' : Heap}
theorem Inv.sqK (I : Inv X pins σ H s) (hq : SqK X.K H k a xs) : ∃ its : List Value, Vals xs its ∧ IsK s.heap k a its.toArray ∧ a < s.heap.objs.size := by
  cases k with
  | l => obtain ⟨its, r, p, _⟩ := I.list hq; exact ⟨its, r, p.isList, p.lt⟩
  | t => obtain ⟨its, r, p, _⟩ := I.tuple hq; obtain ⟨o, ho, _⟩ := id p; exact ⟨its, r, p, Heap.lt_size ho⟩
theorem Inv.sqK_inj (I : Inv X pins σ H s) (h : SqK X.K H k a xs) (h' : SqK X.K H k a ys) : xs = ys := by
  cases k with
  | l => exact I.list_inj h h'
  | t => exact I.tuple_inj h h'
theorem IterK.obj (st : IterK h k it a i) : ∃ o, h.get? it = some o ∧ ∀ v, o.data ≠ .cell v := by
  cases k with
  | l => obtain ⟨o, e, c, d⟩ := st; exact ⟨o, e, fun v z => by rw [d] at z; cases z⟩
  | t => obtain ⟨o, e, c, d⟩ := st; exact ⟨o, e, fun v z => by rw [d] at z; cases z⟩
theorem IterK.at (st : IterK h k it a i) (f : ∀ o, h.get? it = some o → h'.get? it = some o) : IterK h' k it a i := by
  cases k with
  | l => exact Heap.IsListIter.at st f
  | t => exact Heap.IsTupleIter.at st f
theorem itObj.is (e : h.get? it = some (itObj k a)) : IterK h k it a 0 := by
  cases k with
  | l => exact ⟨_, e, rfl, rfl⟩
  | t => exact ⟨_, e, rfl, rfl⟩
theorem drawsK {prog : Program} {w : World} {A : Around} (hh : A.handled = none) (it a : Addr) (hne : a ≠ it) (items : Array Value) :
    Draws prog w A it [it, a] items.size (fun i v => items[i]? = some v) (fun i h => IterK h k it a i ∧ IsK h k a items) := by
  cases k with
  | l => exact .list hh it a hne items
  | t => exact .tuple hh it a hne items
theorem beginsK (a : Addr) (items : Array Value) : Begins (.ref a) (itObj k a) (fun h => IsK h k a items) := by
  cases k with
  | l => exact begins_list a items
  | t => exact begins_tuple a items

/-! ### zip -/
def ItzK (K : PySem.W.Frag) (k k' : SK) (a b : Addr) : It :=
  ⟨fun i H => ∃ (xs ys : List V) (x y : V), SqK K H k a xs ∧ SqK K H k' b ys ∧ xs[i]? = some x ∧ ys[i]? = some y,
    fun i H v H' => ∃ T x y, v = .ref T ∧ H T = none ∧ H' = upd H T (.tup [x, y]) ∧ (∀ xs, SqK K H k a xs → xs[i]? = some x) ∧ ∀ ys, SqK K H k' b ys → ys[i]? = some y,
    fun i H => ∃ xs ys : List V, SqK K H k a xs ∧ SqK K H k' b ys ∧ i ≤ xs.length ∧ i ≤ ys.length ∧ (xs.length = i ∨ ys.length = i)⟩
theorem turn_zipK {P : Program} {w : World} {K : PySem.W.Frag} {elts : List Expr} {kk : Nat} {tpos : Pos} {k k' : SK} {a b z TI TO i1 i2 : Addr} (D : ZipSep2 z TI TO i1 i2 [i1, a] [i2, b]) (ha : a ≠ i1) (hb : b ≠ i2) :
    Turn P w K (.Tuple elts kk tpos) (ItzK K k k' a b) [z, TI, TO, i1, i2] z (fun i h => IsZip h z TI TO .none ∧ IsTupOf2 h TI (.ref i1) (.ref i2) ∧ (∃ x y, IsTupOf2 h TO x y) ∧ IterK h k i1 a i ∧ IterK h k' i2 b i) where
  mem := by simp
  obj := fun i h st c hc => by
    obtain ⟨hz, hTI, ⟨x, y, hTO⟩, h1, h2⟩ := st
    have e' : c = z ∨ c = TI ∨ c = TO ∨ c = i1 ∨ c = i2 := by simpa using hc
    rcases e' with q | q | q | q | q
    · rw [q]; exact ⟨_, hz, fun v q => nomatch q⟩
    · rw [q]; exact ⟨_, hTI, fun v q => nomatch q⟩
    · rw [q]; exact ⟨_, hTO, fun v q => nomatch q⟩
    · rw [q]; exact h1.obj
    · rw [q]; exact h2.obj
  keep := fun i h h' st k => by
    obtain ⟨hz, hTI, ⟨x, y, hTO⟩, h1, h2⟩ := st
    exact ⟨k z (by simp) _ hz, k TI (by simp) _ hTI, ⟨x, y, k TO (by simp) _ hTO⟩, h1.at fun o q => k i1 (by simp) o q, h2.at fun o q => k i2 (by simp) o q⟩
  item := by
    intro X hP hw hK hc i pins s σ H E I hf st hg
    subst hP hw hK
    obtain ⟨hz, hTI, ⟨x0, y0, hTO⟩, h1, h2⟩ := st
    obtain ⟨xs, ys, x, y, hqx, hqy, hx, hy⟩ := hg
    obtain ⟨its, rv, p, _⟩ := Inv.sqK I hqx
    obtain ⟨its2, rv2, p2, _⟩ := Inv.sqK I hqy
    obtain ⟨u, hu, ru⟩ := rv.get hx
    obtain ⟨u2, hu2, ru2⟩ := rv2.get hy
    have hzl : z < s.heap.objs.size := Heap.lt_size hz
    have l1 : i < its.toArray.size := by rw [List.size_toArray]; exact (List.getElem?_eq_some_iff.mp hu).1
    have l2 : i < its2.toArray.size := by rw [List.size_toArray]; exact (List.getElem?_eq_some_iff.mp hu2).1
    refine wpAny_pyNext_zipD2_item D (drawsK (prog := X.prog) (w := X.w) (k := k) (A := X.A.in1) (show X.A.in1.handled = none from I.ok.hd hc) i1 a ha its.toArray) (drawsK (prog := X.prog) (w := X.w) (k := k') (A := X.A.in1) (show X.A.in1.handled = none from I.ok.hd hc) i2 b hb its2.toArray) hz hTI hTO ⟨h1, p⟩ ⟨h2, p2⟩ l1 l2 fun v1 v2 h' tk e1 e2 z' TO' h1' h2' hT hsz hk => ?_
    have q1 : v1 = u := by
      have e1 : its.toArray[i]? = some v1 := e1
      rw [List.getElem?_toArray, hu] at e1; cases e1; rfl
    have q2 : v2 = u2 := by
      have e2 : its2.toArray[i]? = some v2 := e2
      rw [List.getElem?_toArray, hu2] at e2; cases e2; rfl
    subst q1 q2
    refine ⟨_, rfl, wpAny_letOwnedTupleGo_zip (s := { s with heap := h', toks := tk }) z' fun h'' z'' sb => ?_⟩
    have hT2 : h''.get? s.heap.objs.size = some { cls := .type "tuple", data := .seq #[v1, v2] } := (sb.2 _ (Nat.ne_of_gt hzl)).trans hT
    have new : ObjOk X.prog X.w (upd H s.heap.objs.size (.tup [x, y])) h'' s.heap.objs.size (.tup [x, y]) :=
      ⟨by show 2 ≤ sizeLine; decide, [v1, v2], .cons ru (.cons ru2 .nil), ⟨_, hT2, rfl, _, rfl⟩⟩
    have I1 : Inv X pins σ (upd H s.heap.objs.size (.tup [x, y])) { s with heap := h'', toks := tk } :=
      I.turnedNew (t' := tk) (ch := [z, TI, TO, i1, i2]) (fun c o hb q => (sb.2 c (fun q' => hb (by simp [q']))).trans (hk c o (fun q' => hb (by simp [q'])) (fun q' => hb (by simp [q'])) (fun q' => hb (by simp [q'])) (fun q' => hb (by simp [q'])) q)) hf (Nat.le_refl _) new
    refine ⟨.ref s.heap.objs.size, _, I1, rfl, ⟨_, x, y, rfl, I.hok.fresh (Nat.le_refl _), rfl, fun l hl => by rw [Inv.sqK_inj I hl hqx]; exact hx, fun l hl => by rw [Inv.sqK_inj I hl hqy]; exact hy⟩, ⟨z'', ?_, ⟨v1, v2, ?_⟩, ?_, ?_⟩, fun c hcm => ?_⟩
    · exact (sb.2 _ D.TIz).trans (hk _ _ D.TIz D.TITO D.TIi1 D.TIi2 hTI)
    · exact (sb.2 _ D.TOz).trans TO'
    · exact h1'.1.at fun o q => (sb.2 _ D.zi1.symm).trans q
    · exact h2'.1.at fun o q => (sb.2 _ D.zi2.symm).trans q
    · have hlt : c < s.heap.objs.size := by
        have e' : c = z ∨ c = TI ∨ c = TO ∨ c = i1 ∨ c = i2 := by simpa using hcm
        rcases e' with q | q | q | q | q
        · rw [q]; exact hzl
        · rw [q]; exact Heap.lt_size hTI
        · rw [q]; exact Heap.lt_size hTO
        · rw [q]; obtain ⟨_, e1, _⟩ := h1.obj; exact Heap.lt_size e1
        · rw [q]; obtain ⟨_, e2, _⟩ := h2.obj; exact Heap.lt_size e2
      rw [upd_ne (Nat.ne_of_lt hlt)]
      exact (hf c hcm).1
  done := by
    intro X hP hw hK hc i pins s σ H E I hf st hg
    subst hP hw hK
    obtain ⟨hz, hTI, ⟨x0, y0, hTO⟩, h1, h2⟩ := st
    obtain ⟨xs, ys, hqx, hqy, hl1, hl2, hend⟩ := hg
    obtain ⟨its, rv, p, _⟩ := Inv.sqK I hqx
    obtain ⟨its2, rv2, p2, _⟩ := Inv.sqK I hqy
    have l1 := rv.length
    have l2 := rv2.length
    exact wpAny_pyNext_zipD2_end D (drawsK (prog := X.prog) (w := X.w) (k := k) (A := X.A.in1) (show X.A.in1.handled = none from I.ok.hd hc) i1 a ha its.toArray) (drawsK (prog := X.prog) (w := X.w) (k := k') (A := X.A.in1) (show X.A.in1.handled = none from I.ok.hd hc) i2 b hb its2.toArray) hz hTI hTO ⟨h1, p⟩ ⟨h2, p2⟩ (by simp; omega) (by simp; omega) (by simp; omega) fun h' tk hk => ⟨rfl, I.turnedL (t' := tk) (ch := [z, TI, TO, i1, i2]) (fun c o hb q =>
      hk c o (fun q' => hb (by simp [q'])) (fun q' => hb (by simp [q'])) (fun q' => hb (by simp [q'])) (fun q' => hb (by simp [q'])) q) hf⟩
  self := fun A i s Q E st h => wpAny_pyIter_zip st.1 h
def iZipK (K : PySem.W.Frag) (ta : TA) : TI := fun σ H R => ta σ H fun vs H1 => ∃ k k' a b xs ys, vs = [.ref a, .ref b] ∧ SqK K H1 k a xs ∧ SqK K H1 k' b ys ∧ R (ItzK K k k' a b) H1
theorem pi_zipK {e e2 : Expr} {ta : TA} {p pos tpos : Pos} {elts : List Expr} {kk : Nat} (hg : Gl X "zip") (hm : X.mg "zip" = none) (ha : PA X [e, e2] ta)
    (hs : starEach [e, e2] X.env = (false, eval e X.env) :: starEach [e2] X.env := by rfl) (hpl : (backTo pos (starEach [e2] X.env)).any (·.1) = false := by rfl) :
    PI X (.Tuple elts kk tpos) (.Call (.Name "zip" p) [e, e2] [] pos) (iZipK X.K ta) := by
  refine ⟨fun pins s σ H R I h => ?_⟩
  refine Call_ (ld_blt I hg hm PyProof.Rows.boot_zip (PyProof.Rows.callWith_type1 (thn (ha.run pos pins s σ H _ I h) fun us s1 ⟨vs, H1, I1, r1, q1⟩ => ?_) hs hpl))
  obtain ⟨k, k', a, b, xs, ys, ex, hqx, hqy, q⟩ := q1
  subst ex
  cases r1 with
  | cons r rr =>
    cases rr with
    | cons r' rr =>
      cases rr
      cases r
      cases r'
      obtain ⟨its, rv, p1, la⟩ := Inv.sqK I1 hqx
      obtain ⟨its2, rv2, p2, lb⟩ := Inv.sqK I1 hqy
      refine zip_begins2 (beginsK a its.toArray) (beginsK b its2.toArray) p1 p2 fun h' hz hTI hTO h1 h2 hsz hk => wpAny_pyIter_zip hz ?_
      have I2 : Inv X pins σ H1 { s1 with heap := h' } := I1.kept (t' := s1.toks) hk
      refine ⟨s1.heap.objs.size + 4, [s1.heap.objs.size + 4, s1.heap.objs.size + 2, s1.heap.objs.size + 3, s1.heap.objs.size, s1.heap.objs.size + 1], _, _, H1, rfl, I2, turn_zipK (k := k) (k' := k') (a := a) (b := b) (zip_sep2 (fp1 := [a]) (fp2 := [b]) (by simpa using la) (by simpa using lb)) (Nat.ne_of_lt la) (Nat.ne_of_lt (Nat.lt_succ_of_lt lb)), ⟨hz, hTI, ⟨_, _, hTO⟩, itObj.is h1, itObj.is h2⟩, fun c hcm => ?_, q⟩
      have e' : c = s1.heap.objs.size + 4 ∨ c = s1.heap.objs.size + 2 ∨ c = s1.heap.objs.size + 3 ∨ c = s1.heap.objs.size ∨ c = s1.heap.objs.size + 1 := by simpa using hcm
      have hle : s1.heap.objs.size ≤ c := by
        rcases e' with z | z | z | z | z
        · rw [z]; exact Nat.le_add_right _ _
        · rw [z]; exact Nat.le_add_right _ _
        · rw [z]; exact Nat.le_add_right _ _
        · rw [z]; exact Nat.le_refl _
        · rw [z]; exact Nat.le_add_right _ _
      exact I1.fpOk hle (I1.hok.fresh hle)

/-! ### enumerate -/
set_option maxHeartbeats 1000000 in
theorem meets_enumerate_new1 {v : Value} {o : Obj} {H : Heap → Prop} (B : Begins v o H) :
    Meets (Builtin.«enumerate.__new__» ⟨[.type "enumerate", v], []⟩) (fun _ R s => H s.heap ∧
      R (.ok (.ret (.ref (s.heap.push o).objs.size))) { s with heap := (s.heap.push o).push { cls := .type "enumerate", data := .fields #[.none, .bool false, .ref s.heap.objs.size, rawInt 0, .none, .none] } }) :=
  .of_wp fun prog w A R s h => by
    obtain ⟨hp, g, d, tk, os⟩ := s; obtain ⟨h1, h⟩ := h
    have hsub := sub_enumerate
    have q1 : ∀ {A' : Around} {E : Value → Shared → Prop} {Q : Value → Shared → Prop}, Q (.ref hp.objs.size) ⟨hp.push o, g, d, tk, os⟩ → wpAny (model prog w) A' (pyIter v) Q E ⟨hp, g, d, tk, os⟩ :=
      fun q => B.iter prog w _ _ ⟨hp, g, d, tk, os⟩ _ h1 q
    wp_walk using q1
    refine wpAny_stack_any fun st => wpAny_pure ?_
    split
    · rename_i c _ _ _ _ _
      cases (c == Value.type "enumerate")
      · wp_walk using q1
        exact ⟨_, rfl, h⟩
      · wp_walk using q1
        exact ⟨_, rfl, h⟩
    · wp_walk using q1
      exact ⟨_, rfl, h⟩
theorem enum_begins1 {prog : Program} {w : World} {A : Around} {E : Value → Shared → Prop} {v : Value} {o : Obj} {H : Heap → Prop} {Q : Value → Shared → Prop} (B : Begins v o H) (h1 : H s.heap)
    (h : ∀ h', IsEnum h' (s.heap.objs.size + 1) s.heap.objs.size 0 .none → h'.get? s.heap.objs.size = some o → h'.objs.size = s.heap.objs.size + 2 →
      (∀ b o, s.heap.get? b = some o → h'.get? b = some o) → Q (.ref (s.heap.objs.size + 1)) { s with heap := h' }) :
    wpAny (model prog w) A (call (.type "enumerate") [v]) Q E s := by
  refine callType_new F.called_enumerate (by decide) (F.typeCall_enumerate_1 _) (F.newCall_enumerate_1 _) (fun obj => F.args_object_init_2 obj _) F.entry_enumerate_new
    (meets_enumerate_new1 B) ⟨h1, ?_⟩
  have hz : (s.heap.push o).objs.size = s.heap.objs.size + 1 := Heap.size_push ..
  show _ ∧ _
  rw [hz]
  have he : IsEnum ((s.heap.push o).push { cls := .type "enumerate", data := .fields #[.none, .bool false, .ref s.heap.objs.size, rawInt 0, .none, .none] }) (s.heap.objs.size + 1) s.heap.objs.size 0 .none := by
    have := Heap.get?_push_size (s.heap.push o) (o := { cls := .type "enumerate", data := .fields #[.none, .bool false, .ref s.heap.objs.size, rawInt 0, .none, .none] }) rfl
    rw [hz] at this; exact this
  exact ⟨⟨_, he, rfl⟩, h _ he (Heap.get?_push_of_some _ (Heap.get?_push_size _ B.free)) (by rw [Heap.size_push, hz]) fun b o x => Heap.get?_push_of_some _ (Heap.get?_push_of_some _ x)⟩
def IteK (K : PySem.W.Frag) (k : SK) (a : Addr) : It :=
  ⟨fun i H => ∃ (xs : List V) (x : V), SqK K H k a xs ∧ xs[i]? = some x, fun i H v H' => ∃ T x, v = .ref T ∧ H T = none ∧ H' = upd H T (.tup [.int (i : Nat), x]) ∧ ∀ xs, SqK K H k a xs → xs[i]? = some x, fun i H => ∃ xs : List V, SqK K H k a xs ∧ xs.length = i⟩
theorem turn_enumK {P : Program} {w : World} {K : PySem.W.Frag} {elts : List Expr} {kk : Nat} {tpos : Pos} {k : SK} (a e it : Addr) (ha : a ≠ it) (hea : e ≠ a) :
    Turn P w K (.Tuple elts kk tpos) (IteK K k a) [e, it] e (fun i h => (∃ old, IsEnum h e it ((i : Nat) : Int) old) ∧ IterK h k it a i ∧ e ≠ it) where
  mem := by simp
  obj := fun i h st b hb => by
    obtain ⟨⟨old, he⟩, hi, _⟩ := st
    have e' : b = e ∨ b = it := by simpa using hb
    rcases e' with z | z
    · rw [z]; exact ⟨_, he, fun v q => nomatch q⟩
    · rw [z]; exact hi.obj
  keep := fun i h h' st k => let ⟨⟨old, he⟩, hi, hne⟩ := st; ⟨⟨old, k e (by simp) _ he⟩, hi.at fun o q => k it (by simp) o q, hne⟩
  item := by
    intro X hP hw hK hc i pins s σ H E I hf st hg
    subst hP hw hK
    obtain ⟨⟨old, he⟩, hit, hne⟩ := st
    obtain ⟨xs, x, hq, hx⟩ := hg
    obtain ⟨its, rv, p, hz⟩ := Inv.sqK I hq
    obtain ⟨u, hu, ru⟩ := rv.get hx
    have hel : e < s.heap.objs.size := Heap.lt_size he
    have hil : it < s.heap.objs.size := by obtain ⟨_, q, _⟩ := hit.obj; exact Heap.lt_size q
    have l1 : i < its.toArray.size := by rw [List.size_toArray]; exact (List.getElem?_eq_some_iff.mp hu).1
    refine wpAny_pyNext_enum_itemD (drawsK (prog := X.prog) (w := X.w) (k := k) (A := X.A.in1) (show X.A.in1.handled = none from I.ok.hd hc) it a ha its.toArray) he ⟨hit, p⟩ l1 hne (by simp; exact ⟨hne, hea⟩) fun v h' tk ev ho hit' hT hsz hk => ?_
    have q1 : v = u := by
      have ev : its.toArray[i]? = some v := ev
      rw [List.getElem?_toArray, hu] at ev; cases ev; rfl
    subst q1
    refine ⟨_, rfl, wpAny_letOwnedTupleGo_enum (s := { s with heap := h', toks := tk + 1 }) ho fun h'' he' sb => ?_⟩
    have hT2 : h''.get? s.heap.objs.size = some { cls := .type "tuple", data := .seq #[.int i tk, v] } := (sb.2 _ (Nat.ne_of_gt hel)).trans hT
    have new : ObjOk X.prog X.w (upd H s.heap.objs.size (.tup [.int (i : Nat), x])) h'' s.heap.objs.size (.tup [.int (i : Nat), x]) :=
      ⟨by show 2 ≤ sizeLine; decide, [.int i tk, v], .cons ⟨_, rfl⟩ (.cons ru .nil), ⟨_, hT2, rfl, _, rfl⟩⟩
    have I1 : Inv X pins σ (upd H s.heap.objs.size (.tup [.int (i : Nat), x])) { s with heap := h'', toks := tk + 1 } :=
      I.turnedNew (ch := [e, it]) (fun b ob hb q => (sb.2 b (fun z => hb (by simp [z]))).trans (hk b ob (fun z => hb (by simp [z])) (fun z => hb (by simp [z])) q)) hf (Nat.le_refl _) new
    refine ⟨.ref s.heap.objs.size, _, I1, rfl, ⟨_, x, rfl, I.hok.fresh (Nat.le_refl _), rfl, fun ys hy => by rw [Inv.sqK_inj I hy hq]; exact hx⟩, ⟨⟨v, ?_⟩, hit'.1.at fun o q => (sb.2 it (Ne.symm hne)).trans q, hne⟩, fun b hb => ?_⟩
    · have e1 : ((i + 1 : Nat) : Int) = (i : Int) + 1 := by omega
      rw [e1]; exact he'
    · have hb' : b < s.heap.objs.size := by
        have e' : b = e ∨ b = it := by simpa using hb
        rcases e' with z | z
        · rw [z]; exact hel
        · rw [z]; exact hil
      rw [upd_ne (Nat.ne_of_lt hb')]
      exact (hf b hb).1
  done := by
    intro X hP hw hK hc i pins s σ H E I hf st hg
    subst hP hw hK
    obtain ⟨⟨old, he⟩, hit, hne⟩ := st
    obtain ⟨xs, hq, hx⟩ := hg
    obtain ⟨its, rv, p, hz⟩ := Inv.sqK I hq
    obtain ⟨f0, f1, f2, f3, f4, f5⟩ := hf it (by simp)
    have hl := rv.length
    have e0 : i = its.toArray.size := by simp; omega
    subst e0
    exact wpAny_pyNext_enum_endD (drawsK (prog := X.prog) (w := X.w) (k := k) (A := X.A.in1) (show X.A.in1.handled = none from I.ok.hd hc) it a ha its.toArray) he ⟨hit, p⟩ fun h' eb => ⟨rfl, I.turned (t' := s.toks) (fun b o hb q => eb b o hb q) f0 f1 f3 f4 f5⟩
  self := fun A i s Q E st h => let ⟨⟨_, he⟩, _⟩ := st; wpAny_pyIter_enum he h
def iEnumK (K : PySem.W.Frag) (ta : TA) : TI := fun σ H R => ta σ H fun vs H1 => ∃ k a xs, vs = [.ref a] ∧ SqK K H1 k a xs ∧ R (IteK K k a) H1
theorem pi_enumK {e : Expr} {ta : TA} {p pos tpos : Pos} {elts : List Expr} {kk : Nat} (hg : Gl X "enumerate") (hm : X.mg "enumerate" = none) (ha : PA X [e] ta) (hs : starEach [e] X.env = [(false, eval e X.env)] := by rfl) :
    PI X (.Tuple elts kk tpos) (.Call (.Name "enumerate" p) [e] [] pos) (iEnumK X.K ta) := by
  refine ⟨fun pins s σ H R I h => ?_⟩
  refine Call_ (ld_blt I hg hm boot_enumerate (PyProof.Rows.callWith_type1 (thn (ha.run pos pins s σ H _ I h) fun us s1 ⟨vs, H1, I1, r1, q1⟩ => ?_) hs rfl))
  obtain ⟨k, a, xs, ex, hq, q⟩ := q1
  subst ex
  cases r1 with
  | cons r rr =>
    cases rr
    cases r
    obtain ⟨its, rv, p', hz⟩ := Inv.sqK I1 hq
    refine enum_begins1 (beginsK a its.toArray) p' fun h' he hit hsz hk => wpAny_pyIter_enum he ?_
    have I2 : Inv X pins σ H1 { s1 with heap := h' } := I1.kept (t' := s1.toks) hk
    refine ⟨s1.heap.objs.size + 1, [s1.heap.objs.size + 1, s1.heap.objs.size], _, _, H1, rfl, I2, turn_enumK (k := k) a (s1.heap.objs.size + 1) s1.heap.objs.size (Nat.ne_of_lt hz) (Nat.ne_of_gt (Nat.lt_succ_of_lt hz)), ⟨⟨.none, he⟩, itObj.is hit, Nat.succ_ne_self _⟩, fun b hb => ?_, q⟩
    have e' : b = s1.heap.objs.size + 1 ∨ b = s1.heap.objs.size := by simpa using hb
    have hle : s1.heap.objs.size ≤ b := by
      rcases e' with z | z
      · rw [z]; exact Nat.le_add_right _ _
      · rw [z]; exact Nat.le_refl _
    exact I1.fpOk hle (I1.hok.fresh hle)
/-- a list or a tuple is walked -/
theorem pi_seqK {tg l : Expr} {tl : TE} (hl : PE X l tl) : PI X tg l (fun σ H R => tl σ H fun x H1 => ∃ a, x = .ref a ∧ (((∃ xs, SqL X.K H1 a xs) ∧ R (Itl X.K a) H1) ∨ ((∃ xs, SqT X.K H1 a xs) ∧ R (Itt X.K a) H1))) := by
  refine ⟨fun pins s σ H R I h => ?_⟩
  refine thn (hl.run pins s σ H _ I h) fun v s1 ⟨x, H1, I1, r1, q1⟩ => ?_
  obtain ⟨a, e, q1⟩ := q1
  subst e
  cases r1
  rcases q1 with ⟨⟨xs, hq⟩, q⟩ | ⟨⟨xs, hq⟩, q⟩
  · obtain ⟨its, rv, p, hz⟩ := I1.list hq
    refine wpAny_pyIter_list p.isList ?_
    refine ⟨s1.heap.objs.size, [s1.heap.objs.size], _, _, H1, rfl, I1.kept (t' := s1.toks) fun b o e => Heap.get?_push_of_some _ e, turn_list a _, ⟨_, Heap.get?_push_size _ rfl, rfl, rfl⟩, fun b hb => ?_, q⟩
    have : b = s1.heap.objs.size := by simpa using hb
    subst this
    exact I1.fpOk (Nat.le_refl _) (I1.hok.fresh (Nat.le_refl _))
  · obtain ⟨its, rv, p, hz⟩ := I1.tuple hq
    refine wpAny_pyIter_tuple (show s1.heap.IsTuple a its.toArray from p) ?_
    refine ⟨s1.heap.objs.size, [s1.heap.objs.size], _, _, H1, rfl, I1.kept (t' := s1.toks) fun b o e => Heap.get?_push_of_some _ e, turn_tuple a _, ⟨_, Heap.get?_push_size _ rfl, rfl, rfl⟩, fun b hb => ?_, q⟩
    have : b = s1.heap.objs.size := by simpa using hb
    subst this
    exact I1.fpOk (Nat.le_refl _) (I1.hok.fresh (Nat.le_refl _))
end
end PD
end
section
set_option linter.all false
set_option maxRecDepth 100000
namespace PD
open PySem L2

/-- what is held while something is walked -/
abbrev hv (hs : List (V × MV)) : List (V × O) := hs.map fun q => (q.1, O.v q.2)
/-- J walks xs, while hs are held -/
structure Wk (K : PySem.W.Frag) (P : Pl) (J : It) (xs : List PyData) (hs : List (V × MV)) : Prop where
  run : ∀ (B : Base) (env : Env) (ts : List (V × O)) (σ : St) (H : Hp), Sim K P B env ts σ H → (∀ q ∈ hs, ∃ p, cell env σ ts p = some q) →
    (∀ (i : Nat) (d : PyData), xs[i]? = some d → J.go i H ∧ ∀ x H', J.yld i H x H' → Sim K P B env (ts ++ [(x, .v (.d d))]) σ H') ∧ J.stop xs.length H
section
variable (K : PySem.W.Frag) (P : Pl) (B : Base) (W : Wi)
def rW (m : M (List PyData)) : TI := fun σ H R => ∃ env ts, Sim K P B env ts σ H ∧ wpM W m env fun xs env' => ∀ J H' hs, Sim K P B env' (ts ++ hv hs) σ H' → Wk K P J xs hs → R J H'
end
section
variable {X : Cx} {P : Pl} {B : Base} {W : Wi} {σ : St} {H : Hp} {C : Nat → Callee}
theorem PI.imp {tg e : Expr} {t t' : TI} (h : PI X tg e t) (i : ∀ σ H Q, t' σ H Q → t σ H Q) : PI X tg e t' := ⟨fun pins s σ H Q I q => h.run pins s σ H Q I (i _ _ _ q)⟩
section
variable {K : PySem.W.Frag} {env : Env} {ts : List (V × O)} {v : V} {o : O}
theorem cell_last {m : MV} : cell env σ (ts ++ [(v, .v m)]) (env.length + ts.length) = some (v, m) := cell_held (by rw [List.getElem?_append_right (Nat.le_refl _), Nat.sub_self]; rfl)
theorem held_mem {q : V × MV} (h : (q.1, O.v q.2) ∈ ts) : ∃ p, cell env σ ts p = some q := by
  obtain ⟨i, hi⟩ := List.mem_iff_getElem?.mp h
  exact ⟨env.length + i, cell_held hi⟩
theorem hv_held {hs : List (V × MV)} : ∀ q ∈ hs, ∃ p, cell env σ (ts ++ hv hs) p = some q := fun q hq => held_mem (List.mem_append_right _ (List.mem_map.mpr ⟨q, hq, rfl⟩))
/-- lists, tuples, the script -/
def seqM : SK → MV → Option (List PyData)
  | .l, .d (.list xs) => some xs
  | .l, .sc xs => some xs
  | .t, .d (.tuple xs) => some xs
  | _, _ => none
theorem seqM_at {k : SK} {m : MV} {xs : List PyData} {Z : Addr → Prop} (h : seqM k m = some xs) (r : Rp K P Z H v m) : ∃ a vs, v = .ref a ∧ SqK K H k a vs ∧ FzL K Z H vs xs := by
  unfold seqM at h
  split at h
  · cases h
    obtain ⟨a, vs, e, ha, r⟩ := Fz.lk r
    exact ⟨a, vs, e, SqL.of ha, r⟩
  · cases h
    obtain ⟨a, ns, e, ha, rfl⟩ := r
    exact ⟨a, _, e, ha.sq, FzL.ofInts ns⟩
  · cases h
    obtain ⟨a, vs, e, ha, r⟩ := Lk.tup (Fz.lk r)
    exact ⟨a, vs, e, SqT.of ha, r⟩
  · cases h
theorem wp_walkO {Φ : List PyData → Env → Prop} (S : Sim K P B env (ts ++ [(v, o)]) σ H) (h : wpM W (walk o) env Φ) :
    ∃ k m xs env', Sim K P B env' (ts ++ [(v, .v m)]) σ H ∧ seqM k m = some xs ∧ Φ xs env' := by
  unfold wpM walk at h
  cases e : scOf o env with
  | some xs =>
    simp only [e] at h
    cases o with
    | v m =>
      cases m with
      | sc ys => cases e; exact ⟨.l, _, _, env, S, rfl, h⟩
      | _ => cases e
    | r i =>
      cases ei : env.at i with
      | none => simp [scOf, ei] at e
      | some m =>
        simp only [scOf, ei] at e
        cases m with
        | sc ys =>
          cases e
          obtain ⟨w, hw, _, r⟩ := S.name ei
          have : w = v := by
            have := S.ref v i (by simp)
            rw [hw] at this; cases this; rfl
          subst this
          refine ⟨.l, .sc xs, xs, env, S.drop.pushA (fun _ _ x => x) (fun _ _ z => nomatch z) ?_, rfl, h⟩
          obtain ⟨a, ns, e1, ha, e2⟩ := r
          exact ⟨a, ns, e1, ha, e2⟩
        | _ => cases e
  | none =>
    simp only [e] at h
    have h : wpM W (M.bind (tk o) fun p => M.opt (seqOf p)) env Φ := h
    rw [wpM_bind] at h
    obtain ⟨p, env', S1, h⟩ := wp_tk S h
    obtain ⟨xs, e1, h⟩ := wpM_opt h
    cases p with
    | list ys => cases e1; exact ⟨.l, _, _, env', S1, rfl, h⟩
    | tuple ys => cases e1; exact ⟨.t, _, _, env', S1, rfl, h⟩
    | _ => cases e1
theorem wp_walkD {Φ : List PyData → Env → Prop} {ts' : List (V × O)} (S : Sim K P B env (ts ++ (v, o) :: ts') σ H) (h : wpM W (walkD o) env Φ) :
    ∃ k m xs env', Sim K P B env' (ts ++ (v, .v m) :: ts') σ H ∧ seqM k m = some xs ∧ Φ xs env' := by
  have h : wpM W (M.bind (tk o) fun p => M.opt (seqOf p)) env Φ := h
  rw [wpM_bind] at h
  obtain ⟨p, env', S1, h⟩ := wp_tk S h
  obtain ⟨xs, e1, h⟩ := wpM_opt h
  cases p with
  | list ys => cases e1; exact ⟨.l, _, _, env', S1, rfl, h⟩
  | tuple ys => cases e1; exact ⟨.t, _, _, env', S1, rfl, h⟩
  | _ => cases e1
/-- a cell of the source tells it -/
theorem src_at {k : SK} {m : MV} {xs : List PyData} {a : Addr} (S : Sim K P B env ts σ H) (h : seqM k m = some xs) (hc : ∃ p, cell env σ ts p = some (.ref a, m)) : ∃ vs, SqK K H k a vs ∧ FzL K (Zf B (cell env σ ts)) H vs xs := by
  obtain ⟨p, hp⟩ := hc
  obtain ⟨b, vs, e, hq, r⟩ := seqM_at h (S.cs.rep p _ _ hp)
  cases e
  exact ⟨vs, hq, r⟩
end
/-! ### walks -/
def itS (K : PySem.W.Frag) : SK → Addr → It
  | .l, a => Itl K a
  | .t, a => Itt K a
theorem wk_seq {K : PySem.W.Frag} {k : SK} {m : MV} {xs : List PyData} {a : Addr} (h : seqM k m = some xs) : Wk K P (itS K k a) xs [(.ref a, m)] := by
  refine ⟨fun B env ts σ H S hc => ?_⟩
  obtain ⟨vs, hq, r⟩ := src_at S h (hc _ (List.mem_singleton.mpr rfl))
  refine ⟨fun i d hd => ?_, ?_⟩
  · obtain ⟨v, hv, rv⟩ := r.get' hd
    cases k with
    | l => exact ⟨⟨vs, v, hq, hv⟩, fun x H' ⟨e, g⟩ => by
        subst e
        have := g vs hq
        rw [hv] at this; cases this
        exact S.pushD rv⟩
    | t => exact ⟨⟨vs, v, hq, hv⟩, fun x H' ⟨e, g⟩ => by
        subst e
        have := g vs hq
        rw [hv] at this; cases this
        exact S.pushD rv⟩
  · have hl : vs.length ≤ xs.length := by rw [r.length]; exact Nat.le_refl _
    cases k with
    | l => exact ⟨vs, hq, hl⟩
    | t => exact ⟨vs, hq, hl⟩
theorem zip2_get {xs ys : List PyData} {i : Nat} {d : PyData} (h : (zip2 xs ys)[i]? = some d) : ∃ x y, xs[i]? = some x ∧ ys[i]? = some y ∧ d = .tuple [x, y] := by
  unfold zip2 at h
  rw [List.getElem?_zipWith] at h
  cases e1 : xs[i]? with
  | none => rw [e1] at h; cases h
  | some x =>
    cases e2 : ys[i]? with
    | none => rw [e1, e2] at h; cases h
    | some y => rw [e1, e2] at h; cases h; exact ⟨x, y, rfl, rfl, rfl⟩
theorem wk_zip {K : PySem.W.Frag} {k k' : SK} {m m' : MV} {xs ys : List PyData} {a b : Addr} (h : seqM k m = some xs) (h' : seqM k' m' = some ys) : Wk K P (ItzK K k k' a b) (zip2 xs ys) [(.ref a, m), (.ref b, m')] := by
  refine ⟨fun B env ts σ H S hc => ?_⟩
  obtain ⟨vs, hq, r⟩ := src_at S h (hc (.ref a, m) (by simp))
  obtain ⟨ws, hq', r'⟩ := src_at S h' (hc (.ref b, m') (by simp))
  refine ⟨fun i d hd => ?_, ?_⟩
  · obtain ⟨x, y, hx, hy, rfl⟩ := zip2_get hd
    obtain ⟨v, hv, rv⟩ := r.get' hx
    obtain ⟨w, hw, rw'⟩ := r'.get' hy
    refine ⟨⟨vs, ws, v, w, hq, hq', hv, hw⟩, fun z H' ⟨T, x', y', e, hn, eH, g, g'⟩ => ?_⟩
    subst e eH
    have e1 := g vs hq
    rw [hv] at e1; cases e1
    have e2 := g' ws hq'
    rw [hw] at e2; cases e2
    exact S.newT hn (.cons rv (.cons rw' .nil))
  · refine ⟨vs, ws, hq, hq', ?_⟩
    have l1 := r.length
    have l2 := r'.length
    unfold zip2
    rw [List.length_zipWith]
    omega
theorem enumD_get {xs : List PyData} {i : Nat} {d : PyData} (h : (enumD xs)[i]? = some d) : ∃ x, xs[i]? = some x ∧ d = .tuple [.int (i : Nat), x] := by
  unfold enumD at h
  rw [List.getElem?_zipWith] at h
  cases e1 : xs[i]? with
  | none =>
    rw [e1] at h
    cases e2 : (List.range xs.length)[i]? with
    | none => rw [e2] at h; cases h
    | some y => rw [e2] at h; cases h
  | some x =>
    have hi : i < xs.length := (List.getElem?_eq_some_iff.mp e1).1
    rw [e1, List.getElem?_range hi] at h
    cases h
    exact ⟨x, rfl, rfl⟩
theorem wk_enum {K : PySem.W.Frag} {k : SK} {m : MV} {xs : List PyData} {a : Addr} (h : seqM k m = some xs) : Wk K P (IteK K k a) (enumD xs) [(.ref a, m)] := by
  refine ⟨fun B env ts σ H S hc => ?_⟩
  obtain ⟨vs, hq, r⟩ := src_at S h (hc (.ref a, m) (by simp))
  refine ⟨fun i d hd => ?_, ?_⟩
  · obtain ⟨x, hx, rfl⟩ := enumD_get hd
    obtain ⟨v, hv, rv⟩ := r.get' hx
    refine ⟨⟨vs, v, hq, hv⟩, fun z H' ⟨T, x', e, hn, eH, g⟩ => ?_⟩
    subst e eH
    have e1 := g vs hq
    rw [hv] at e1; cases e1
    exact S.newT hn (.cons (.int _) (.cons rv .nil))
  · refine ⟨vs, hq, ?_⟩
    have l1 := r.length
    unfold enumD
    rw [List.length_zipWith, List.length_range]
    omega
theorem wk_rng {K : PySem.W.Frag} {lo : Int} {n : Nat} : Wk K P (Itr lo n) (rangeI lo n) [] := by
  refine ⟨fun B env ts σ H S _ => ⟨fun i d hd => ?_, ?_⟩⟩
  · unfold rangeI at hd
    rw [List.getElem?_map] at hd
    cases e : (List.range n)[i]? with
    | none => rw [e] at hd; cases hd
    | some j =>
      have hi : i < n := by
        have := (List.getElem?_eq_some_iff.mp e).1
        simpa using this
      rw [List.getElem?_range hi] at e
      cases e
      rw [List.getElem?_range hi] at hd
      cases hd
      exact ⟨hi, fun x H' ⟨e1, e2⟩ => by subst e1 e2; exact S.atom fun _ => .int _⟩
  · show n ≤ (rangeI lo n).length
    unfold rangeI
    rw [List.length_map, List.length_range]
    exact Nat.le_refl _
/-! ### a dict's keys: it is locked from here on -/
def ItD (a : Addr) (od : Obj) : HO → It
  | .dK kvs => Itk a od kvs
  | .dT kvs => Itkt a od kvs
  | _ => ⟨fun _ _ => False, fun _ _ _ _ => False, fun _ _ => False⟩
def iSeqD (K : PySem.W.Frag) (td : TE) : TI := fun σ H R => td σ H fun x H1 => ∃ a, x = .ref a ∧ (((∃ xs, SqL K H1 a xs) ∧ R (Itl K a) H1) ∨ ((∃ xs, SqT K H1 a xs) ∧ R (Itt K a) H1) ∨
  ∃ o, Dx o ∧ ((∃ od, H1 a = some (.frz od o) ∧ R (ItD a od o) H1) ∨ (H1 a = some o ∧ ∀ od, R (ItD a od o) (upd H1 a (.frz od o)))))
theorem iter_lkd {pins : List (Addr × Obj)} {tg : Expr} {s : Shared} {a : Addr} {od : Obj} {o : HO} {R : It → Hp → Prop} (I : Inv X pins σ H s) (d : Dx o) (h : H a = some (.frz od o)) (q : R (ItD a od o) H) : wpAny (model X.prog X.w) X.A (pyIter (.ref a)) (PIE X pins σ tg R) X.xe s := by
  rcases d with ⟨kvs, rfl⟩ | ⟨kvs, rfl⟩
  · obtain ⟨hs, hgd, hx, es, ep, vs, hdt, hsz, kv, hm⟩ := I.frzK h
    refine iter_keys hs hgd hx hdt (pi_one (tk := s.toks) I _ (turn_keys _ hdt) ⟨_, Heap.get?_push_size _ rfl, rfl, ?_⟩ q)
    rw [hsz] <;> rfl
  · obtain ⟨hs, hgd, hx, es, ep, hdt, hsz, ent⟩ := I.frzT h
    refine iter_keys hs hgd hx hdt (pi_one (tk := s.toks) I _ (turn_keysT _ hdt) ⟨_, Heap.get?_push_size _ rfl, rfl, ?_⟩ q)
    rw [hsz] <;> rfl
theorem pi_seqD {tg l : Expr} {tl : TE} (hl : PE X l tl) : PI X tg l (iSeqD X.K tl) := by
  refine ⟨fun pins s σ H R I h => ?_⟩
  refine thn (hl.run pins s σ H _ I h) fun v s1 ⟨x, H1, I1, r1, q1⟩ => ?_
  obtain ⟨a, e, q1⟩ := q1
  subst e
  cases r1
  rcases q1 with ⟨⟨xs, hq⟩, q⟩ | ⟨⟨xs, hq⟩, q⟩ | ⟨o, d, ⟨od, h, q⟩ | ⟨h, q⟩⟩
  · obtain ⟨its, rv, p, hz⟩ := I1.list hq
    refine wpAny_pyIter_list p.isList ?_
    refine ⟨s1.heap.objs.size, [s1.heap.objs.size], _, _, H1, rfl, I1.kept (t' := s1.toks) fun b o e => Heap.get?_push_of_some _ e, turn_list a _, ⟨_, Heap.get?_push_size _ rfl, rfl, rfl⟩, fun b hb => ?_, q⟩
    have : b = s1.heap.objs.size := by simpa using hb
    subst this
    exact I1.fpOk (Nat.le_refl _) (I1.hok.fresh (Nat.le_refl _))
  · obtain ⟨its, rv, p, hz⟩ := I1.tuple hq
    refine wpAny_pyIter_tuple (show s1.heap.IsTuple a its.toArray from p) ?_
    refine ⟨s1.heap.objs.size, [s1.heap.objs.size], _, _, H1, rfl, I1.kept (t' := s1.toks) fun b o e => Heap.get?_push_of_some _ e, turn_tuple a _, ⟨_, Heap.get?_push_size _ rfl, rfl, rfl⟩, fun b hb => ?_, q⟩
    have : b = s1.heap.objs.size := by simpa using hb
    subst this
    exact I1.fpOk (Nat.le_refl _) (I1.hok.fresh (Nat.le_refl _))
  · exact iter_lkd I1 d h q
  · have mu : Mut (some o) := by rcases d with ⟨_, rfl⟩ | ⟨_, rfl⟩ <;> trivial
    obtain ⟨od, I2⟩ := I1.lock h mu
    exact iter_lkd I2 d upd_same (q od)
theorem wk_dct {K : PySem.W.Frag} {o : HO} {kvs : List (PyData × PyData)} {Z : Addr → Prop} {H0 : Hp} {a : Addr} {od : Obj} (h : DctAt K Z H0 o kvs) : Wk K P (ItD a od o) (keysOf kvs) [(.ref a, .lkd od o)] := by
  refine ⟨fun B env ts σ H S hc => ?_⟩
  obtain ⟨p, hp⟩ := hc _ (List.mem_singleton.mpr rfl)
  obtain ⟨b, e, ha⟩ := S.cs.rep p _ _ hp
  cases e
  rcases h with ⟨ks, vs, ds, rfl, l, r, rfl⟩ | ⟨ks, vs, ds, rfl, l, r, rfl⟩
  · rw [keysOf_zip kP (by rw [l, r.length])]
    have ll : (ks.zip vs).length = ks.length := by rw [List.length_zip]; omega
    refine ⟨fun i d hd => ?_, ha, by rw [List.length_map, ll]; exact Nat.le_refl _⟩
    rw [List.getElem?_map] at hd
    cases ek : ks[i]? with
    | none => rw [ek] at hd; cases hd
    | some k =>
      rw [ek] at hd
      cases hd
      have hi : i < ks.length := (List.getElem?_eq_some_iff.mp ek).1
      refine ⟨⟨ha, by rw [ll]; exact hi⟩, fun x H' ⟨e1, k', v', e2, e3⟩ => ?_⟩
      subst e1 e3
      have := (List.getElem?_zip_eq_some.mp e2).1
      rw [ek] at this; cases this
      exact S.atom fun Z => kV_fz _
  · rw [keysOf_zip (fun k : List Key => PyData.tuple (k.map kP)) (by rw [l, r.length])]
    have ll : (ks.zip vs).length = ks.length := by rw [List.length_zip]; omega
    refine ⟨fun i d hd => ?_, ha, by rw [List.length_map, ll]; exact Nat.le_refl _⟩
    rw [List.getElem?_map] at hd
    cases ek : ks[i]? with
    | none => rw [ek] at hd; cases hd
    | some k =>
      rw [ek] at hd
      cases hd
      have hi : i < ks.length := (List.getElem?_eq_some_iff.mp ek).1
      refine ⟨⟨ha, by rw [ll]; exact hi⟩, fun x H' ⟨e1, k', v', q, e2, e3, e4⟩ => ?_⟩
      subst e1 e3
      have := (List.getElem?_zip_eq_some.mp e2).1
      rw [ek] at this; cases this
      exact S.pushD (.tup e4 (kVs_fz _))
section
variable {K : PySem.W.Frag} {env : Env} {ts : List (V × O)} {v : V} {o : O}
theorem DctAt.dx {Z : Addr → Prop} {u : HO} {kvs : List (PyData × PyData)} (h : DctAt K Z H u kvs) : Dx u := by
  rcases h with ⟨_, _, _, rfl, _⟩ | ⟨_, _, _, rfl, _⟩
  · exact .inl ⟨_, rfl⟩
  · exact .inr ⟨_, rfl⟩
theorem Fz.dct {Z : Addr → Prop} {kvs : List (PyData × PyData)} (h : Fz K Z H v (.dict kvs)) : ∃ a u, v = .ref a ∧ Rd H a u ∧ Z a ∧ DctAt K Z H u kvs := by
  cases h with
  | dK h z l r => exact ⟨_, _, rfl, h, z, .inl ⟨_, _, _, rfl, l, r, rfl⟩⟩
  | dT h z l r => exact ⟨_, _, rfl, h, z, .inr ⟨_, _, _, rfl, l, r, rfl⟩⟩
theorem wp_walkK {Φ : List PyData → Env → Prop} (S : Sim K P B env (ts ++ [(v, o)]) σ H) (h : wpM W (walkK o) env Φ) :
    (∃ k m xs env', Sim K P B env' (ts ++ [(v, .v m)]) σ H ∧ seqM k m = some xs ∧ Φ xs env') ∨ ∃ kvs env', Sim K P B env' (ts ++ [(v, .v (.d (.dict kvs)))]) σ H ∧ Φ (keysOf kvs) env' := by
  cases e : scOf o env with
  | some xs =>
    refine .inl (wp_walkO (W := W) S ?_)
    unfold wpM walkK at h
    unfold wpM walk
    simp only [e] at h ⊢
    exact h
  | none =>
    unfold wpM walkK at h
    simp only [e] at h
    have h : wpM W (M.bind (tk o) fun p => M.opt (itemsOf p)) env Φ := h
    rw [wpM_bind] at h
    obtain ⟨p, env', S1, h⟩ := wp_tk S h
    obtain ⟨xs, e1, h⟩ := wpM_opt h
    cases p with
    | list ys => cases e1; exact .inl ⟨.l, _, _, env', S1, rfl, h⟩
    | tuple ys => cases e1; exact .inl ⟨.t, _, _, env', S1, rfl, h⟩
    | dict kvs => cases e1; exact .inr ⟨kvs, env', S1, h⟩
    | _ => cases e1
end
/-! ### sources -/
theorem s_sq {tg l : Expr} {a : E} (ha : PE X l (rO X.K P B W (evO C a))) : PI X tg l (rW X.K P B W (evS C (.sq a))) := by
  refine PI.imp (pi_seqD ha) fun σ H R ⟨env, ts, S, h⟩ => ?_
  have h : wpM W (M.bind (evO C a) walkK) env _ := h
  rw [wpM_bind] at h
  refine ⟨env, ts, S, wpM_mono h fun o e h v H' S1 => ?_⟩
  rcases wp_walkK S1 h with ⟨k, m, xs, env', S2, hm, h⟩ | ⟨kvs, env', S2, h⟩
  · obtain ⟨b, vs, ev, hq, r⟩ := seqM_at hm (S2.held (v := v) (m := m) (by simp))
    subst ev
    refine ⟨b, rfl, ?_⟩
    have fin := h (itS X.K k b) H' [(.ref b, m)] S2 (wk_seq hm)
    cases k with
    | l => exact .inl ⟨⟨vs, hq⟩, fin⟩
    | t => exact .inr (.inl ⟨⟨vs, hq⟩, fin⟩)
  · obtain ⟨b, u, rfl, hu, z, d⟩ := Fz.dct (S2.held (v := v) (m := .d (.dict kvs)) (by simp))
    refine ⟨b, rfl, .inr (.inr ⟨u, d.dx, ?_⟩)⟩
    have S3 := S2.drop (ts := ts)
    rcases hu with hu | ⟨od, hu⟩
    · refine .inr ⟨hu, fun od => h _ _ [(.ref b, .lkd od u)] ?_ (wk_dct d)⟩
      have S4 : Sim X.K P B env' ts σ (upd H' b (.frz od u)) := S3.growL fun c w e => by
        by_cases hc : c = b
        · subst hc
          rw [hu] at e; cases e
          exact .inr ⟨d.dx, ⟨od, upd_same⟩, fun p r => z.1 p (by
            obtain ⟨m, em, om⟩ := r
            refine ⟨m, ?_, om⟩
            by_cases hp : p < env'.length
            · rw [cell_lt hp] at em ⊢; exact em
            · have e1 := cell_held_inv (by omega) em
              have hl : p - env'.length < ts.length := (List.getElem?_eq_some_iff.mp e1).1
              rw [cell_ge (by omega), List.getElem?_append_left hl, e1]), z.2⟩
        · exact .inl (by rw [upd_ne hc]; exact e)
      exact S4.pushA (fun _ _ x => x) (fun _ _ z => nomatch z) ⟨b, rfl, upd_same⟩
    · exact .inl ⟨od, hu, h _ _ [(.ref b, .lkd od u)] (S3.pushA (fun _ _ x => x) (fun _ _ z => nomatch z) ⟨b, rfl, hu⟩) (wk_dct d)⟩
theorem wW_first {α : Type} {m : M (List O)} {f : List O → M α} {env : Env} {ts : List (V × O)} {Φ : α → Env → Prop} (S : Sim X.K P B env ts σ H) (h : wpM W (M.bind m f) env Φ) (R : List V → Hp → Prop)
    (hR : ∀ os e vs H', vs.length = os.length → Sim X.K P B e (ts ++ vs.zip os) σ H' → wpM W (f os) e Φ → R vs H') : rL X.K P B W m σ H R := by
  rw [wpM_bind] at h
  exact ⟨env, ts, S, wpM_mono h fun o e h v H' hl S' => hR o e v H' hl S' h⟩
theorem rng_one {j : Int} {xs : List PyData} (h : rng [.int j] = some xs) : xs = rangeI 0 j.toNat ∧ -(2 ^ 62) ≤ j ∧ j < 2 ^ 62 := by
  have h : (if j < 4611686018427387904 ∧ -4611686018427387904 ≤ j then some (rangeI 0 j.toNat) else none) = some xs := h
  by_cases hj : j < 4611686018427387904 ∧ -4611686018427387904 ≤ j
  · rw [if_pos hj] at h; cases h; exact ⟨rfl, by omega, by omega⟩
  · rw [if_neg hj] at h; cases h
theorem rng_two {i j : Int} {xs : List PyData} (h : rng [.int i, .int j] = some xs) : xs = rangeI i (j - i).toNat ∧ -(2 ^ 62) ≤ i ∧ i < 2 ^ 62 ∧ -(2 ^ 62) ≤ j ∧ j < 2 ^ 62 := by
  have h : (if -4611686018427387904 ≤ i ∧ i < 4611686018427387904 ∧ -4611686018427387904 ≤ j ∧ j < 4611686018427387904 then some (rangeI i (j - i).toNat) else none) = some xs := h
  by_cases hj : -4611686018427387904 ≤ i ∧ i < 4611686018427387904 ∧ -4611686018427387904 ≤ j ∧ j < 4611686018427387904
  · rw [if_pos hj] at h; cases h; exact ⟨rfl, by omega, by omega, by omega, by omega⟩
  · rw [if_neg hj] at h; cases h
theorem rng_len1 {p : PyData} {xs : List PyData} (h : rng [p] = some xs) : ∃ j, p = .int j := by
  cases p with
  | int j => exact ⟨j, rfl⟩
  | _ => cases h
theorem rng_len2 {p q : PyData} {xs : List PyData} (h : rng [p, q] = some xs) : ∃ i j, p = .int i ∧ q = .int j := by
  cases p with
  | int i =>
    cases q with
    | int j => exact ⟨i, j, rfl, rfl⟩
    | _ => cases h
  | _ => cases h
theorem evL_len1 {a : E} {os : List O} {env env' : Env} (h : evL C (.cons a .nil) env = .ok os env') : os.length = 1 := by
  have h : M.bind (evO C a) (fun x => M.bind (evL C .nil) fun xs => .pure (x :: xs)) env = _ := h
  obtain ⟨o, e, _, h2⟩ := bind_ok h
  obtain ⟨os', e2, h3, h4⟩ := bind_ok h2
  cases h3; cases h4; rfl
theorem evL_len2 {a b : E} {os : List O} {env env' : Env} (h : evL C (.cons a (.cons b .nil)) env = .ok os env') : os.length = 2 := by
  have h : M.bind (evO C a) (fun x => M.bind (evL C (.cons b .nil)) fun xs => .pure (x :: xs)) env = _ := h
  obtain ⟨o, e, _, h2⟩ := bind_ok h
  obtain ⟨os', e2, h3, h4⟩ := bind_ok h2
  cases h4
  rw [List.length_cons, evL_len1 h3]
theorem wp_and {α : Type} {m : M α} {env : Env} {Φ : α → Env → Prop} (h : wpM W m env Φ) : wpM W m env fun a e => m env = .ok a e ∧ Φ a e := by
  unfold wpM at h ⊢
  cases e : m env with
  | ok a e' => rw [e] at h; exact ⟨rfl, h⟩
  | exc c as e' => rw [e] at h; exact h
  | no => rw [e] at h; exact h
theorem s_rng1 {tg e : Expr} {a : E} {p pos : Pos} (hg : Gl X "range") (hm : X.mg "range" = none) (ha : PA X [e] (rL X.K P B W (evL C (.cons a .nil)))) (hs : starEach [e] X.env = [(false, eval e X.env)] := by rfl) :
    PI X tg (.Call (.Name "range" p) [e] [] pos) (rW X.K P B W (evS C (.rng (.cons a .nil)))) := by
  refine PI.imp (pi_range1 hg hm ha hs) fun σ H R ⟨env, ts, S, h⟩ => ?_
  have h : wpM W (M.bind (evL C (.cons a .nil)) fun os => M.bind (rdAll os) fun ps => .opt (rng ps)) env _ := h
  rw [wpM_bind] at h
  refine ⟨env, ts, S, wpM_mono (wp_and h) fun os e ⟨hl, h⟩ vs H' hv S1 => ?_⟩
  rw [wpM_bind] at h
  obtain ⟨ps, lk, h⟩ := wp_rdAll (vs := vs) S1 hv (fun x hx => List.mem_append_right _ hx) h
  obtain ⟨xs, e1, h⟩ := wpM_opt h
  have h1 := evL_len1 hl
  cases lk with
  | nil => simp at hv; omega
  | cons r t => cases t with
    | cons _ _ => simp at hv; omega
    | nil =>
      obtain ⟨j, rfl⟩ := rng_len1 e1
      obtain ⟨rfl, h2, h3⟩ := rng_one e1
      cases r.int
      exact ⟨j, rfl, h2, h3, h _ _ [] (by simpa using Sim.drop S1) wk_rng⟩
theorem s_rng2 {tg e e' : Expr} {a b : E} {p pos : Pos} (hg : Gl X "range") (hm : X.mg "range" = none) (ha : PA X [e, e'] (rL X.K P B W (evL C (.cons a (.cons b .nil))))) (hs : starEach [e, e'] X.env = [(false, eval e X.env), (false, eval e' X.env)] := by rfl) (hs2 : starEach [e'] X.env = [(false, eval e' X.env)] := by rfl) :
    PI X tg (.Call (.Name "range" p) [e, e'] [] pos) (rW X.K P B W (evS C (.rng (.cons a (.cons b .nil))))) := by
  refine PI.imp (pi_range2 hg hm ha hs hs2) fun σ H R ⟨env, ts, S, h⟩ => ?_
  have h : wpM W (M.bind (evL C (.cons a (.cons b .nil))) fun os => M.bind (rdAll os) fun ps => .opt (rng ps)) env _ := h
  rw [wpM_bind] at h
  refine ⟨env, ts, S, wpM_mono (wp_and h) fun os e ⟨hl, h⟩ vs H' hv S1 => ?_⟩
  rw [wpM_bind] at h
  obtain ⟨ps, lk, h⟩ := wp_rdAll (vs := vs) S1 hv (fun x hx => List.mem_append_right _ hx) h
  obtain ⟨xs, e1, h⟩ := wpM_opt h
  have h1 := evL_len2 hl
  cases lk with
  | nil => simp at hv; omega
  | cons r t => cases t with
    | nil => simp at hv; omega
    | cons r2 t => cases t with
      | cons _ _ => simp at hv; omega
      | nil =>
        obtain ⟨i, j, rfl, rfl⟩ := rng_len2 e1
        obtain ⟨rfl, h2, h3, h4, h5⟩ := rng_two e1
        cases r.int
        cases r2.int
        exact ⟨i, j, rfl, ⟨h2, h3, h4, h5⟩, h _ _ [] (by simpa using Sim.drop S1) wk_rng⟩
theorem len2 {α : Type} : ∀ {l : List α}, l.length = 2 → ∃ a b, l = [a, b]
  | [a, b], _ => ⟨a, b, rfl⟩
theorem s_zip {e e' : Expr} {a b : E} {p pos tpos : Pos} {elts : List Expr} {kk : Nat} (hg : Gl X "zip") (hm : X.mg "zip" = none) (ha : PA X [e, e'] (rL X.K P B W (evL C (.cons a (.cons b .nil)))))
    (hs : starEach [e, e'] X.env = (false, eval e X.env) :: starEach [e'] X.env := by rfl) (hpl : (backTo pos (starEach [e'] X.env)).any (·.1) = false := by rfl) :
    PI X (.Tuple elts kk tpos) (.Call (.Name "zip" p) [e, e'] [] pos) (rW X.K P B W (evS C (.zip (.cons a (.cons b .nil))))) := by
  refine PI.imp (pi_zipK hg hm ha hs hpl) fun σ H R ⟨env, ts, S, h⟩ => ?_
  have h : wpM W (M.bind (evL C (.cons a (.cons b .nil))) fun os => match os with
    | [x, y] => M.bind (walkD x) fun a => M.bind (walkD y) fun b => .pure (zip2 a b)
    | _ => .no) env _ := h
  rw [wpM_bind] at h
  refine ⟨env, ts, S, wpM_mono (wp_and h) fun os e ⟨hl, h⟩ vs H' hlv S1 => ?_⟩
  have h1 := evL_len2 hl
  obtain ⟨o1, o2, rfl⟩ := len2 h1
  obtain ⟨v1, v2, rfl⟩ := len2 (hlv.trans h1)
  · clear h1 hlv hl
    have h : wpM W (M.bind (walkD o1) fun a => M.bind (walkD o2) fun b => .pure (zip2 a b)) e _ := h
    rw [wpM_bind] at h
    have S1 : Sim X.K P B e (ts ++ (v1, o1) :: [(v2, o2)]) σ H' := S1
    obtain ⟨k, m, xs, e1, S2, hm, h⟩ := wp_walkD S1 h
    rw [wpM_bind] at h
    have S2 : Sim X.K P B e1 ((ts ++ [(v1, .v m)]) ++ (v2, o2) :: []) σ H' := by simpa using S2
    obtain ⟨k', m', ys, e2, S3, hm', h⟩ := wp_walkD S2 h
    have S3 : Sim X.K P B e2 (ts ++ hv [(v1, m), (v2, m')]) σ H' := by simpa using S3
    obtain ⟨a1, vs1, ev1, hq1, r1⟩ := seqM_at hm (S3.held (v := v1) (m := m) (by simp))
    obtain ⟨a2, vs2, ev2, hq2, r2⟩ := seqM_at hm' (S3.held (v := v2) (m := m') (by simp))
    subst ev1 ev2
    exact ⟨k, k', a1, a2, vs1, vs2, rfl, hq1, hq2, h _ H' _ S3 (wk_zip hm hm')⟩
theorem s_enum {e : Expr} {a : E} {p pos tpos : Pos} {elts : List Expr} {kk : Nat} (hg : Gl X "enumerate") (hm : X.mg "enumerate" = none) (ha : PE X e (rO X.K P B W (evO C a))) (hs : starEach [e] X.env = [(false, eval e X.env)] := by rfl) :
    PI X (.Tuple elts kk tpos) (.Call (.Name "enumerate" p) [e] [] pos) (rW X.K P B W (evS C (.enm a))) := by
  refine PI.imp (pi_enumK hg hm (pa_cons ha pa_nil hs) hs) fun σ H R ⟨env, ts, S, h⟩ => ?_
  have h : wpM W (M.bind (evO C a) fun x => M.bind (walk x) fun a => .pure (enumD a)) env _ := h
  rw [wpM_bind] at h
  refine ⟨env, ts, S, wpM_mono h fun o e h v H' S1 => ?_⟩
  rw [wpM_bind] at h
  obtain ⟨k, m, xs, env', S2, hm, h⟩ := wp_walkO S1 h
  obtain ⟨b, vs, ev, hq, r⟩ := seqM_at hm (S2.held (v := v) (m := m) (by simp))
  subst ev
  exact ⟨k, b, vs, rfl, hq, h _ H' [(.ref b, m)] S2 (wk_enum hm)⟩
end
end PD
end
section
set_option linter.all false
set_option maxRecDepth 100000
namespace PD
open PySem L2

section
variable {K : PySem.W.Frag} {P : Pl} {B : Base} {env env' env2 : Env} {ts ts' : List (V × O)} {σ σ' : St} {H H' : Hp} {L L' : Cells}
def NoRef (ts : List (V × O)) : Prop := ∀ q ∈ ts, ∃ m, q.2 = O.v m
theorem NoRef.append (h : NoRef ts) (h' : NoRef ts') : NoRef (ts ++ ts') := fun q hq => (List.mem_append.mp hq).elim (h q) (h' q)
theorem NoRef.left (h : NoRef (ts ++ ts')) : NoRef ts := fun q hq => h q (List.mem_append_left _ hq)
theorem NoRef.nil : NoRef [] := fun q hq => by cases hq
theorem NoRef.one {v : V} {m : MV} : NoRef [(v, .v m)] := fun q hq => ⟨m, by simp at hq; subst hq; rfl⟩
theorem NoRef.hv {hs : List (V × MV)} : NoRef (hv hs) := fun q hq => by
  obtain ⟨c, _, rfl⟩ := List.mem_map.mp hq
  exact ⟨_, rfl⟩
theorem NoRef.not (h : NoRef ts) {v : V} {i : Nat} (e : (v, O.r i) ∈ ts) : False := by
  obtain ⟨m, e⟩ := h _ e
  cases e
theorem CS.remap' (cs : CS K P B L H) (π : Nat → Nat) (h : ∀ p v m, L' p = some (v, m) → m = .jk ∨ L (π p) = some (v, m)) (hi : ∀ p q c c', L' p = some c → L' q = some c' → c.2 ≠ .jk → c'.2 ≠ .jk → π p = π q → p = q) : CS K P B L' H := by
  have nj : ∀ {m : MV}, m.own = true → m ≠ .jk := fun o e => by subst e; cases o
  have rt : ∀ p a, Rt L' p a → Rt L (π p) a := fun p a ⟨m, e, o⟩ => ⟨m, (h _ _ _ e).resolve_left (nj o), o⟩
  refine ⟨fun p v m e => ?_, fun p q a r r' => ?_, fun p a r => cs.out _ _ (rt p a r), cs.dom, cs.frm⟩
  · rcases h p v m e with rfl | e'
    · trivial
    · exact (cs.rep _ v m e').go (fun a o x z => ⟨x, fun q r => z.1 _ (rt q a r), z.2⟩) (fun _ _ x => x) (fun _ _ _ x => x) fun _ _ _ _ x => x
  · have := cs.inj _ _ a (rt p a r) (rt q a r')
    obtain ⟨m, e, o⟩ := r
    obtain ⟨m', e', o'⟩ := r'
    exact hi p q _ _ e e' (nj o) (nj o') this
/-- a name gets what is held -/
theorem Sim.bindV {i : Nat} {v : V} {m : MV} (S : Sim K P B env (ts ++ [(v, .v m)]) σ H) (hi : i < env.length) (hn : NoRef ts) (hio : ∀ q ∈ B.io, q.1 ≠ i) : Sim K P B (env.set i (some m)) ts (σ.set i (some v)) H := by
  have sl : (env.set i (some m)).length = env.length := List.length_set
  have key : ∀ p c, cell (env.set i (some m)) (σ.set i (some v)) ts p = some c → cell env σ (ts ++ [(v, .v m)]) (if p = i then env.length + ts.length else p) = some c ∧ p ≠ env.length + ts.length := fun p c e => by
    by_cases hp : p < env.length
    · have e1 := cell_name_inv (by rw [sl]; exact hp) e
      by_cases hi : p = i
      · subst hi
        rw [List.getElem?_set_self hp, List.getElem?_set_self (by rw [S.len]; exact hp)] at e1
        obtain ⟨e1, e2⟩ := e1
        have q : c = (v, m) := by
          cases c
          simp at e1 e2
          rw [e1, e2]
        rw [if_pos rfl, q]
        exact ⟨cell_last, by omega⟩
      · rw [List.getElem?_set_ne (Ne.symm hi), List.getElem?_set_ne (Ne.symm hi)] at e1
        rw [if_neg hi]
        exact ⟨cell_name e1.1 e1.2, by omega⟩
    · have e1 := cell_held_inv (by rw [sl]; omega) e
      rw [sl] at e1
      have hl : p - env.length < ts.length := (List.getElem?_eq_some_iff.mp e1).1
      rw [if_neg (by omega)]
      refine ⟨?_, by omega⟩
      rw [cell_ge (by omega), List.getElem?_append_left hl, e1]
  refine ⟨by rw [List.length_set, sl]; exact S.len, fun j k e => ?_, fun w j h => (hn.not h).elim, S.cs.remap _ (fun p c e => (key p c e).1) (fun p q c c' e e' h => ?_), fun j a h => ?_⟩
  · by_cases hj : j = i
    · subst hj
      exact ⟨v, by rw [List.getElem?_set_self (by rw [S.len]; exact hi)]⟩
    · rw [List.getElem?_set_ne (Ne.symm hj)] at e ⊢
      exact S.val j k e
  · have h1 := (key p c e).2
    have h2 := (key q c' e').2
    by_cases hp : p = i <;> by_cases hq : q = i
    · rw [hp, hq]
    · rw [if_pos hp, if_neg hq] at h; exact absurd h.symm h2
    · rw [if_neg hp, if_pos hq] at h; exact absurd h h1
    · rw [if_neg hp, if_neg hq] at h; exact h
  · rw [List.getElem?_set_ne (Ne.symm (hio _ h))]
    exact S.ios j a h
theorem rt_bind {i : Nat} {v : V} {d : PyData} {p : Nat} {a : Addr} (hi : i < env.length) (hs : i < σ.length) (r : Rt (cell (env.set i (some (.d d))) (σ.set i (some v)) ts) p a) : Rt (cell env σ ts) p a := by
  obtain ⟨m, e, o⟩ := r
  refine ⟨m, ?_, o⟩
  have sl : (env.set i (some (.d d))).length = env.length := List.length_set
  by_cases hp : p < env.length
  · have e1 := cell_name_inv (by rw [sl]; exact hp) e
    by_cases hj : p = i
    · subst hj
      rw [List.getElem?_set_self hp] at e1
      obtain ⟨e1, _⟩ := e1
      cases e1; cases o
    · rw [List.getElem?_set_ne (Ne.symm hj), List.getElem?_set_ne (Ne.symm hj)] at e1
      exact cell_name e1.1 e1.2
  · rw [cell_ge (by rw [sl]; omega), sl] at e
    rw [cell_ge (by omega)]
    exact e
theorem Sim.bindD {i : Nat} {v : V} {d : PyData} (S : Sim K P B env ts σ H) (hi : i < env.length) (hn : NoRef ts) (hio : ∀ q ∈ B.io, q.1 ≠ i) (r : Fz K (Zf B (cell env σ ts)) H v d) : Sim K P B (env.set i (some (.d d))) ts (σ.set i (some v)) H :=
  (S.pushD r).bindV hi hn hio

/-! ### what the turns of a comprehension begin with -/
def deref (ts : List (V × O)) : List (V × O) := ts.map fun q => match q.2 with
  | .v _ => q
  | .r _ => (q.1, .v .jk)
def hidC (env : Env) (σ : St) (i : Nat) : V × MV := match env[i]?, σ[i]? with
  | some (some m), some (some v) => (v, m)
  | _, _ => (.non, .jk)
def hid (env : Env) (σ : St) (vs : List Nat) : List (V × MV) := vs.map (hidC env σ)
theorem deref_length : (deref ts).length = ts.length := List.length_map ..
theorem deref_noref : NoRef (deref ts) := fun q hq => by
  obtain ⟨c, _, rfl⟩ := List.mem_map.mp hq
  cases e : c.2 with
  | v m => exact ⟨m, by simp [e]⟩
  | r i => exact ⟨.jk, by simp [e]⟩
theorem hide_length : ∀ {vs : List Nat}, (hide vs env).length = env.length
  | [] => rfl
  | i :: vs => by unfold hide; rw [List.length_set, hide_length]
theorem hide_get {j : Nat} : ∀ {vs : List Nat}, j < env.length → (hide vs env)[j]? = if j ∈ vs then some none else env[j]?
  | [], _ => by simp [hide]
  | i :: vs, h => by
    unfold hide
    by_cases e : i = j
    · subst e
      rw [List.getElem?_set_self (by rw [hide_length]; exact h), if_pos (List.mem_cons_self)]
    · rw [List.getElem?_set_ne e, hide_get h]
      have : j ∈ i :: vs ↔ j ∈ vs := by simp [Ne.symm e]
      simp only [this]
theorem wipe_get {j : Nat} : ∀ {vs : List Nat}, j < σ.length → (wipe σ vs)[j]? = if j ∈ vs then some none else σ[j]?
  | [], _ => by simp [wipe]
  | i :: vs, h => by
    unfold wipe
    by_cases e : i = j
    · subst e
      rw [List.getElem?_set_self (by rw [wipe_length]; exact h), if_pos (List.mem_cons_self)]
    · rw [List.getElem?_set_ne e, wipe_get h]
      have : j ∈ i :: vs ↔ j ∈ vs := by simp [Ne.symm e]
      simp only [this]
theorem unhide_length {old : Env} : ∀ {vs : List Nat}, (unhide old vs env).length = env.length
  | [] => rfl
  | i :: vs => by unfold unhide; rw [List.length_set, unhide_length]
theorem unhide_get {old : Env} {j : Nat} : ∀ {vs : List Nat}, j < env.length → (unhide old vs env)[j]? = if j ∈ vs then some (match old[j]? with | some o => o | none => none) else env[j]?
  | [], _ => by simp [unhide]
  | i :: vs, h => by
    unfold unhide
    by_cases e : i = j
    · subst e
      rw [List.getElem?_set_self (by rw [unhide_length]; exact h), if_pos (List.mem_cons_self)]
      all_goals first | rfl | (cases old[i]? <;> rfl)
    · rw [List.getElem?_set_ne e, unhide_get h]
      have : j ∈ i :: vs ↔ j ∈ vs := by simp [Ne.symm e]
      simp only [this]
theorem deref_at {j : Nat} {v : V} {m : MV} (e : (deref ts)[j]? = some (v, .v m)) : m = .jk ∨ ts[j]? = some (v, .v m) := by
  unfold deref at e
  rw [List.getElem?_map] at e
  cases e1 : ts[j]? with
  | none => rw [e1] at e; cases e
  | some q =>
    rw [e1] at e
    obtain ⟨w, o⟩ := q
    cases o with
    | v m' => simp at e; obtain ⟨rfl, rfl⟩ := e; exact .inr rfl
    | r i => simp at e; exact .inl e.2.symm
theorem hid_at {vs : List Nat} {j : Nat} {v : V} {m : MV} (e : (hv (hid env σ vs))[j]? = some (v, .v m)) : ∃ i, vs[j]? = some i ∧ (m = .jk ∨ (env[i]? = some (some m) ∧ σ[i]? = some (some v))) := by
  unfold hid hv at e
  rw [List.map_map, List.getElem?_map] at e
  cases e1 : vs[j]? with
  | none => rw [e1] at e; cases e
  | some i =>
    rw [e1] at e
    refine ⟨i, rfl, ?_⟩
    simp only [Option.map_some, Function.comp, hidC] at e
    split at e
    · rename_i m' v' h1 h2
      simp at e
      obtain ⟨rfl, rfl⟩ := e
      exact .inr ⟨h1, h2⟩
    · simp at e
      exact .inl e.2.symm
theorem hv_length {hs : List (V × MV)} : (hv hs).length = hs.length := List.length_map ..
theorem hid_length {vs : List Nat} : (hid env σ vs).length = vs.length := List.length_map ..
theorem nodup_get {vs : List Nat} (h : vs.Nodup) {i j x : Nat} (h1 : vs[i]? = some x) (h2 : vs[j]? = some x) : i = j := by
  obtain ⟨a, ha⟩ := List.getElem?_eq_some_iff.mp h1
  obtain ⟨b, hb⟩ := List.getElem?_eq_some_iff.mp h2
  exact (List.getElem_inj h).mp (ha.trans hb.symm)
/-- into the block -/
theorem Sim.enter (S : Sim K P B env ts σ H) {vs : List Nat} (hvs : vs.Nodup) (hl : ∀ i ∈ vs, i < env.length) (hio : ∀ q ∈ B.io, q.1 ∉ vs) : Sim K P B (hide vs env) (deref ts ++ hv (hid env σ vs)) (wipe σ vs) H := by
  have key : ∀ p v m, cell (hide vs env) (wipe σ vs) (deref ts ++ hv (hid env σ vs)) p = some (v, m) → m = .jk ∨ (cell env σ ts (if p < env.length + ts.length then p else (vs[p - env.length - ts.length]?).getD 0) = some (v, m) ∧ (p < env.length → p ∉ vs) ∧ (env.length + ts.length ≤ p → ∃ i, vs[p - env.length - ts.length]? = some i)) := fun p v m e => by
    by_cases hp : p < env.length
    · have e1 := cell_name_inv (by rw [hide_length]; exact hp) e
      rw [hide_get hp, wipe_get (by rw [S.len]; exact hp)] at e1
      by_cases hv : p ∈ vs
      · rw [if_pos hv] at e1; cases e1.1
      · rw [if_neg hv, if_neg hv] at e1
        right
        rw [if_pos (by omega)]
        exact ⟨cell_name e1.1 e1.2, fun _ => hv, by omega⟩
    · have e1 := cell_held_inv (by rw [hide_length]; omega) e
      rw [hide_length] at e1
      by_cases hq : p - env.length < ts.length
      · rw [List.getElem?_append_left (by rw [deref_length]; exact hq)] at e1
        rcases deref_at e1 with z | z
        · exact .inl z
        · right
          rw [if_pos (by omega), cell_ge (by omega), z]
          exact ⟨rfl, by omega, by omega⟩
      · rw [List.getElem?_append_right (by rw [deref_length]; omega), deref_length] at e1
        obtain ⟨i, hi, z⟩ := hid_at e1
        rcases z with z | ⟨z1, z2⟩
        · exact .inl z
        · right
          rw [if_neg (by omega), hi]
          exact ⟨cell_name z1 z2, by omega, fun _ => ⟨i, rfl⟩⟩
  refine ⟨by rw [wipe_length, hide_length]; exact S.len, fun j k e => ?_, fun w j h => (NoRef.not (NoRef.append deref_noref NoRef.hv) h).elim, S.cs.remap' (fun p => if p < env.length + ts.length then p else (vs[p - env.length - ts.length]?).getD 0) (fun p v m e => (key p v m e).imp id fun h => h.1) (fun p q c c' e e' n n' h => ?_), fun j a h => ?_⟩
  · have hj : j < env.length := by
      have := (List.getElem?_eq_some_iff.mp e).1
      rwa [hide_length] at this
    rw [hide_get hj] at e
    by_cases hv : j ∈ vs
    · rw [if_pos hv] at e; cases e
    · rw [if_neg hv] at e
      obtain ⟨v, h⟩ := S.val j k e
      exact ⟨v, by rw [wipe_get (by rw [S.len]; exact hj), if_neg hv]; exact h⟩
  · obtain ⟨k1, k2, k3⟩ := (key p c.1 c.2 e).resolve_left n
    obtain ⟨k1', k2', k3'⟩ := (key q c'.1 c'.2 e').resolve_left n'
    by_cases hp : p < env.length + ts.length <;> by_cases hq : q < env.length + ts.length
    · rw [if_pos hp, if_pos hq] at h; exact h
    · rw [if_pos hp, if_neg hq] at h
      obtain ⟨i, hi⟩ := k3' (by omega)
      rw [hi] at h
      have hiv : i ∈ vs := List.mem_of_getElem? hi
      have : p = i := h
      subst this
      exact absurd hiv (k2 (hl _ hiv))
    · rw [if_neg hp, if_pos hq] at h
      obtain ⟨i, hi⟩ := k3 (by omega)
      rw [hi] at h
      have hiv : i ∈ vs := List.mem_of_getElem? hi
      have : i = q := h
      subst this
      exact absurd hiv (k2' (hl _ hiv))
    · rw [if_neg hp, if_neg hq] at h
      obtain ⟨i, hi⟩ := k3 (by omega)
      obtain ⟨i', hi'⟩ := k3' (by omega)
      rw [hi, hi'] at h
      have : i = i' := h
      subst this
      have := nodup_get hvs hi hi'
      omega
  · have hj : j < σ.length := (List.getElem?_eq_some_iff.mp (S.ios j a h)).1
    rw [wipe_get hj, if_neg (hio _ h)]
    exact S.ios j a h
/-- out of the block -/
theorem Sim.leave {ex : List (V × MV)} {H0 : Hp} (S0 : Sim K P B env ts σ H0) {vs : List Nat} (hvs : vs.Nodup) (hl : ∀ i ∈ vs, i < env.length) (hle : env2.length = env.length) (S : Sim K P B (hide vs env2) (deref ts ++ hv (hid env σ vs) ++ hv ex) (wipe σ vs) H) :
    Sim K P B (unhide env vs env2) (ts ++ hv ex) σ H := by
  have hul : (unhide env vs env2).length = env.length := by rw [unhide_length, hle]
  have hhl : (hide vs env2).length = env.length := by rw [hide_length, hle]
  have tl : (deref ts ++ hv (hid env σ vs)).length = ts.length + vs.length := by rw [List.length_append, deref_length, hv_length, hid_length]
  have key : ∀ p c, cell (unhide env vs env2) σ (ts ++ hv ex) p = some c → cell (hide vs env2) (wipe σ vs) (deref ts ++ hv (hid env σ vs) ++ hv ex) (if p < env.length then (if p ∈ vs then env.length + ts.length + vs.idxOf p else p) else if p < env.length + ts.length then p else p + vs.length) = some c := fun p c e => by
    by_cases hp : p < env.length
    · have e1 := cell_name_inv (by rw [hul]; exact hp) e
      rw [unhide_get (by rw [hle]; exact hp)] at e1
      rw [if_pos hp]
      by_cases hvp : p ∈ vs
      · rw [if_pos hvp] at e1 ⊢
        have h1 : env[p]? = some (some c.2) := by
          cases q : env[p]? with
          | none => rw [q] at e1; cases e1.1
          | some o => rw [q] at e1; exact congrArg some (Option.some.inj e1.1)
        have hix := List.idxOf_lt_length_iff.mpr hvp
        rw [show env.length + ts.length + vs.idxOf p = (hide vs env2).length + (ts.length + vs.idxOf p) by rw [hhl]; omega]
        refine cell_held (j := ts.length + vs.idxOf p) (m := c.2) (v := c.1) ?_
        rw [List.getElem?_append_left (by rw [tl]; omega), List.getElem?_append_right (by rw [deref_length]; omega), deref_length, show ts.length + vs.idxOf p - ts.length = vs.idxOf p by omega]
        unfold hid hv
        rw [List.map_map, List.getElem?_map, List.getElem?_eq_getElem hix, List.getElem_idxOf hix]
        simp [hidC, h1, e1.2]
      · rw [if_neg hvp] at e1 ⊢
        refine cell_name (m := c.2) (v := c.1) ?_ ?_
        · rw [hide_get (by rw [hle]; exact hp), if_neg hvp]; exact e1.1
        · rw [wipe_get (by rw [S0.len]; exact hp), if_neg hvp]; exact e1.2
    · have e1 := cell_held_inv (by rw [hul]; omega) e
      rw [hul] at e1
      rw [if_neg hp]
      by_cases hq : p - env.length < ts.length
      · rw [List.getElem?_append_left hq] at e1
        rw [if_pos (by omega), cell_ge (by rw [hhl]; omega), hhl, List.getElem?_append_left (by rw [tl]; omega), List.getElem?_append_left (by rw [deref_length]; exact hq)]
        unfold deref
        rw [List.getElem?_map, e1]
        rfl
      · rw [List.getElem?_append_right (by omega)] at e1
        rw [if_neg (by omega), cell_ge (by rw [hhl]; omega), hhl, List.getElem?_append_right (by rw [tl]; omega), tl, show p + vs.length - env.length - (ts.length + vs.length) = p - env.length - ts.length by omega, e1]
  refine ⟨by rw [hul]; exact S0.len, fun j k e => ?_, fun w j h => ?_, S.cs.remap _ key (fun p q c c' e e' h => ?_), S0.ios⟩
  · have hj : j < env.length := by
      have := (List.getElem?_eq_some_iff.mp e).1
      rwa [hul] at this
    rw [unhide_get (by rw [hle]; exact hj)] at e
    by_cases hvj : j ∈ vs
    · rw [if_pos hvj] at e
      cases q : env[j]? with
      | none => rw [q] at e; cases e
      | some o => rw [q] at e; exact S0.val j k (by rw [q]; exact e)
    · rw [if_neg hvj] at e
      obtain ⟨v, h⟩ := S.val j k (by rw [hide_get (by rw [hle]; exact hj), if_neg hvj]; exact e)
      rw [wipe_get (by rw [S0.len]; exact hj), if_neg hvj] at h
      exact ⟨v, h⟩
  · rcases List.mem_append.mp h with h | h
    · exact S0.ref w j h
    · exact (NoRef.not NoRef.hv h).elim
  · have ho : ∀ {x : Nat}, x ∈ vs → vs.idxOf x < vs.length := fun h => List.idxOf_lt_length_iff.mpr h
    by_cases hp : p < env.length <;> by_cases hq : q < env.length
    · rw [if_pos hp, if_pos hq] at h
      by_cases p1 : p ∈ vs <;> by_cases q1 : q ∈ vs
      · rw [if_pos p1, if_pos q1] at h
        have e2 : vs.idxOf p = vs.idxOf q := by omega
        have a1 := List.getElem_idxOf (ho p1)
        have a2 := List.getElem_idxOf (ho q1)
        rw [← a1, ← a2]
        simp only [e2]
      · rw [if_pos p1, if_neg q1] at h; omega
      · rw [if_neg p1, if_pos q1] at h; omega
      · rw [if_neg p1, if_neg q1] at h; exact h
    · rw [if_pos hp, if_neg hq] at h
      by_cases p1 : p ∈ vs
      · have := ho p1
        rw [if_pos p1] at h
        split at h <;> omega
      · rw [if_neg p1] at h
        split at h <;> omega
    · rw [if_neg hp, if_pos hq] at h
      by_cases q1 : q ∈ vs
      · have := ho q1
        rw [if_pos q1] at h
        split at h <;> omega
      · rw [if_neg q1] at h
        split at h <;> omega
    · rw [if_neg hp, if_neg hq] at h
      split at h <;> split at h <;> omega
/-- less is held, in the middle -/
theorem Sim.mid {ts2 : List (V × O)} (S : Sim K P B env (ts ++ ts2 ++ ts') σ H) : Sim K P B env (ts ++ ts') σ H := by
  have key : ∀ p c, cell env σ (ts ++ ts') p = some c → cell env σ (ts ++ ts2 ++ ts') (if p < env.length + ts.length then p else p + ts2.length) = some c := fun p c e => by
    by_cases hp : p < env.length
    · rw [if_pos (by omega)]
      rw [cell_lt hp] at e ⊢; exact e
    · have e1 := cell_held_inv (by omega) e
      by_cases hq : p - env.length < ts.length
      · rw [List.getElem?_append_left hq] at e1
        rw [if_pos (by omega), cell_ge (by omega), List.append_assoc, List.getElem?_append_left hq, e1]
      · rw [List.getElem?_append_right (by omega)] at e1
        rw [if_neg (by omega), cell_ge (by omega), List.getElem?_append_right (by rw [List.length_append]; omega), List.length_append, show p + ts2.length - env.length - (ts.length + ts2.length) = p - env.length - ts.length by omega, e1]
  refine ⟨S.len, S.val, fun w j h => S.ref w j ?_, S.cs.remap _ key (fun p q c c' e e' h => by split at h <;> split at h <;> omega), S.ios⟩
  rcases List.mem_append.mp h with h | h
  · exact List.mem_append_left _ (List.mem_append_left _ h)
  · exact List.mem_append_right _ h
/-- what is held is written -/
theorem Sim.heldSet {D : Addr} {xs xs' : List PyData} {acc acc' : List V} {y : V} {p : PyData} (S : Sim K P B env (ts ++ [(.ref D, .v (.ml xs))] ++ [(y, .v (.d p))]) σ H) (hD : H D = some (.lst acc)) (r : FzL K (Zf B (cell env σ (ts ++ [(.ref D, .v (.ml xs))] ++ [(y, .v (.d p))]))) H acc' xs') :
    Sim K P B env (ts ++ [(.ref D, .v (.ml xs'))]) σ (upd H D (.lst acc')) := by
  have c0 : cell env σ (ts ++ [(.ref D, .v (.ml xs))] ++ [(y, .v (.d p))]) (env.length + ts.length) = some (.ref D, .ml xs) := cell_held (by rw [List.getElem?_append_left (by simp), List.getElem?_append_right (Nat.le_refl _), Nat.sub_self]; rfl)
  have key : ∀ q c, cell env σ (ts ++ [(.ref D, .v (.ml xs'))]) q = some c → (q = env.length + ts.length ∧ c = (.ref D, .ml xs')) ∨ (q ≠ env.length + ts.length ∧ cell env σ (ts ++ [(.ref D, .v (.ml xs))] ++ [(y, .v (.d p))]) q = some c) := fun q c e => by
    rcases cell_push e with ⟨x, n⟩ | ⟨x, n⟩
    · refine .inr ⟨n, ?_⟩
      by_cases hp : q < env.length
      · rw [cell_lt hp] at x ⊢; exact x
      · have e1 := cell_held_inv (by omega) x
        have hl : q - env.length < ts.length := (List.getElem?_eq_some_iff.mp e1).1
        rw [cell_ge (by omega), List.append_assoc, List.getElem?_append_left hl, e1]
    · exact .inl ⟨n, x⟩
  have rt : ∀ q a, Rt (cell env σ (ts ++ [(.ref D, .v (.ml xs'))])) q a → Rt (cell env σ (ts ++ [(.ref D, .v (.ml xs))] ++ [(y, .v (.d p))])) q a := fun q a ⟨m, e, o⟩ => by
    rcases key q _ e with ⟨rfl, x⟩ | ⟨_, x⟩
    · cases x; exact ⟨_, c0, rfl⟩
    · exact ⟨m, x, o⟩
  refine ⟨S.len, S.val, fun w i h => ?_, S.cs.step (fun b => b = D) (fun a o x ne => by rw [upd_ne ne]; exact x) (fun a c => ?_) (fun q w k e => ?_) (fun q a x => .inl (rt q a x)) (fun q q' a x x' _ => S.cs.inj q q' a (rt q a x) (rt q' a x')), S.ios⟩
  · rcases List.mem_append.mp h with h | h
    · exact S.ref w i (by simp [h])
    · simp at h
  · subst c
    exact ⟨⟨_, _, c0, rfl⟩, (fun o u z => by rw [hD] at z; cases z), _, upd_same⟩
  · rcases key q _ e with ⟨_, x⟩ | ⟨n, x⟩
    · cases x
      refine .inr ⟨D, acc', rfl, upd_same, FzL.go (fun b o x z => ⟨?_, Zf.less rt z⟩) (fun b ws x => ?_) r⟩
      · rw [upd_ne]
        · exact x
        · intro c; subst c; exact z.1 _ ⟨_, c0, rfl⟩
      · rw [upd_ne]
        · exact x
        · intro c; subst c; rw [hD] at x; cases x
    · refine .inl ⟨x, fun a r1 c => ?_⟩
      subst c
      exact n (S.cs.inj _ _ _ r1 ⟨_, c0, rfl⟩)
/-- names are forgotten -/
theorem Sim.hideW {vs : List Nat} (S : Sim K P B env ts σ H) (hn : NoRef ts) (hio : ∀ q ∈ B.io, q.1 ∉ vs) : Sim K P B (hide vs env) ts (wipe σ vs) H := by
  refine ⟨by rw [wipe_length, hide_length]; exact S.len, fun j k e => ?_, fun w j h => (hn.not h).elim, S.cs.weak fun p c e => ?_, fun j a h => ?_⟩
  · have hj : j < env.length := by
      have := (List.getElem?_eq_some_iff.mp e).1
      rwa [hide_length] at this
    rw [hide_get hj] at e
    by_cases hv : j ∈ vs
    · rw [if_pos hv] at e; cases e
    · rw [if_neg hv] at e
      obtain ⟨v, h⟩ := S.val j k e
      exact ⟨v, by rw [wipe_get (by rw [S.len]; exact hj), if_neg hv]; exact h⟩
  · by_cases hp : p < env.length
    · have e1 := cell_name_inv (by rw [hide_length]; exact hp) e
      rw [hide_get hp, wipe_get (by rw [S.len]; exact hp)] at e1
      by_cases hv : p ∈ vs
      · rw [if_pos hv] at e1; cases e1.1
      · rw [if_neg hv, if_neg hv] at e1
        exact cell_name e1.1 e1.2
    · rw [cell_ge (by rw [hide_length]; omega), hide_length] at e
      rw [cell_ge (by omega)]
      exact e
  · have hj : j < σ.length := (List.getElem?_eq_some_iff.mp (S.ios j a h)).1
    rw [wipe_get hj, if_neg (hio _ h)]
    exact S.ios j a h
end

/-! ### targets -/
section
variable (K : PySem.W.Frag) (P : Pl) (B : Base)
def rG (t : Tg) : TG := fun v σ H Q => ∃ env ts d env', Sim K P B env ts σ H ∧ NoRef ts ∧ Fz K (Zf B (cell env σ ts)) H v d ∧ bindT t d env = some env' ∧
  ∀ σ', (∀ j, j ∉ t.vars → σ'[j]? = σ[j]?) → Sim K P B env' ts σ' H → (∀ p a, Rt (cell env' σ' ts) p a → Rt (cell env σ ts) p a) → Q σ' H
def rGs (t : TgL) : TGs := fun vs σ H Q => ∃ env ts ds env', Sim K P B env ts σ H ∧ NoRef ts ∧ FzL K (Zf B (cell env σ ts)) H vs ds ∧ bindTs t ds env = some env' ∧
  ∀ σ', (∀ j, j ∉ t.vars → σ'[j]? = σ[j]?) → Sim K P B env' ts σ' H → (∀ p a, Rt (cell env' σ' ts) p a → Rt (cell env σ ts) p a) → Q σ' H
end
section
variable {X : Cx} {P : Pl} {B : Base} {W : Wi} {C : Nat → Callee}
theorem PG.imp {e : Expr} {t t' : TG} (h : PG X e t) (i : ∀ v σ H Q, t' v σ H Q → t v σ H Q) : PG X e t' := ⟨fun pins s σ H v u Q I r q => h.run pins s σ H v u Q I r (i _ _ _ _ q)⟩
theorem PGs.imp {e : List Expr} {t t' : TGs} (h : PGs X e t) (i : ∀ v σ H Q, t' v σ H Q → t v σ H Q) : PGs X e t' := ⟨fun pins s σ H v u Q I r q => h.run pins s σ H v u Q I r (i _ _ _ _ q)⟩
theorem g_name {i : Nat} {x : Str} {pos : Pos} (h : PG X (.Name x pos) (gName i)) (hio : ∀ q ∈ B.io, q.1 ≠ i) : PG X (.Name x pos) (rG X.K P B (.n i)) := by
  refine PG.imp h fun v σ H Q ⟨env, ts, d, env', S, hn, r, hb, q⟩ => ?_
  unfold bindT at hb
  by_cases hi : i < env.length
  · rw [if_pos hi] at hb
    cases hb
    refine q _ (fun j hj => ?_) (S.bindD hi hn hio r) fun p a rr => rt_bind hi (by rw [S.len]; exact hi) rr
    rw [List.getElem?_set_ne]
    intro e
    exact hj (by simp [Tg.vars, e])
  · rw [if_neg hi] at hb; cases hb
theorem g_nil : PGs X [] (rGs X.K P B .nil) := by
  refine PGs.imp pgs_nil fun vs σ H Q ⟨env, ts, ds, env', S, hn, r, hb, q⟩ => ?_
  cases ds with
  | nil => cases r; cases hb; exact ⟨rfl, q σ (fun _ _ => rfl) S fun _ _ x => x⟩
  | cons _ _ => cases hb
theorem g_cons {e : Expr} {es : List Expr} {t : Tg} {u : TgL} (h1 : PG X e (rG X.K P B t)) (h2 : PGs X es (rGs X.K P B u)) (hs : (assignEach (e :: es) X.env).map (·.2) = assign e X.env :: (assignEach es X.env).map (·.2) := by rfl) : PGs X (e :: es) (rGs X.K P B (.cons t u)) := by
  refine PGs.imp (pgs_cons h1 h2 hs) fun vs σ H Q ⟨env, ts, ds, env', S, hn, r, hb, q⟩ => ?_
  cases r with
  | nil => cases hb
  | @cons v vs d ds r rs =>
    have hb : (match bindT t d env with
      | some e => bindTs u ds e
      | none => none) = some env' := hb
    cases e1 : bindT t d env with
    | none => rw [e1] at hb; cases hb
    | some env1 =>
      rw [e1] at hb
      refine ⟨v, vs, rfl, env, ts, d, env1, S, hn, r, e1, fun σ1 a1 S1 k1 => ⟨env1, ts, ds, env', S1, hn, rs.less k1, hb, fun σ2 a2 S2 k2 => q σ2 (fun j hj => ?_) S2 fun p a x => k1 p a (k2 p a x)⟩⟩
      have hj : j ∉ t.vars ∧ j ∉ u.vars := by simpa [TgL.vars] using hj
      rw [a2 j hj.2, a1 j hj.1]
theorem bindTs_len : ∀ {u : TgL} {ds ds' : List PyData} {env env' env2 env2' : Env}, bindTs u ds env = some env' → bindTs u ds' env2 = some env2' → ds.length = ds'.length
  | .nil, [], [], _, _, _, _, _, _ => rfl
  | .nil, _ :: _, _, _, _, _, _, h, _ => by cases h
  | .nil, [], _ :: _, _, _, _, _, _, h => by cases h
  | .cons t u, [], _, _, _, _, _, h, _ => by cases h
  | .cons t u, _ :: _, [], _, _, _, _, _, h => by cases h
  | .cons t u, d :: ds, d' :: ds', env, env', env2, env2', h, h' => by
    unfold bindTs at h h'
    split at h
    · split at h'
      · simp [bindTs_len h h']
      · cases h'
    · cases h
def TgL.len : TgL → Nat
  | .nil => 0
  | .cons _ u => u.len + 1
theorem bindTs_len' : ∀ {u : TgL} {ds : List PyData} {env env' : Env}, bindTs u ds env = some env' → ds.length = u.len
  | .nil, [], _, _, _ => rfl
  | .nil, _ :: _, _, _, h => by cases h
  | .cons t u, [], _, _, h => by cases h
  | .cons t u, d :: ds, env, env', h => by
    unfold bindTs at h
    split at h
    · simp [TgL.len, bindTs_len' h]
    · cases h
theorem g_tup {es : List Expr} {k : Nat} {u : TgL} {pos : Pos} (hc : X.calm = true) (h : PGs X es (rGs X.K P B u)) (hn : (assignEach es X.env).length = u.len := by rfl) (hst : (assignEach es X.env).findIdx? (·.1) = none := by rfl) : PG X (.Tuple es k pos) (rG X.K P B (.t u)) := by
  refine PG.imp (pg_tup hc h hn hst) fun v σ H Q ⟨env, ts, d, env', S, hnr, r, hb, q⟩ => ?_
  cases d with
  | tuple ds =>
    cases r with
    | tup ha r =>
      have hb : bindTs u ds env = some env' := hb
      exact ⟨_, _, rfl, .of ha, by rw [r.length]; exact bindTs_len' hb, env, ts, ds, env', S, hnr, r, hb, q⟩
  | _ => cases hb

/-! ### comprehensions -/
def W0 : Wi := fun _ _ _ => False
theorem PTs.imp {e : List Expr} {t t' : TT} (h : PTs X e t) (i : ∀ σ H Q, t' σ H Q → t σ H Q) : PTs X e t' := ⟨fun pins s σ H Q I q => h.run pins s σ H Q I (i _ _ _ q)⟩
theorem c_nil : PTs X [] (rT X.K P B W (evT C (.e (.cst (.bool true))))) := PTs.imp pts_nil fun σ H Q ⟨env, ts, S, h⟩ => h H S
theorem wipe_agree {σ σ2 : St} {vs : List Nat} (hl : σ2.length = σ.length) (h : ∀ j, j ∉ vs → σ2[j]? = (wipe σ vs)[j]?) : wipe σ2 vs = wipe σ vs := by
  apply List.ext_getElem?
  intro j
  by_cases hj : j < σ.length
  · rw [wipe_get (by rw [hl]; exact hj), wipe_get hj]
    by_cases hv : j ∈ vs
    · rw [if_pos hv, if_pos hv]
    · rw [if_neg hv, if_neg hv, h j hv, wipe_get hj, if_neg hv]
  · rw [List.getElem?_eq_none (by rw [wipe_length]; omega), List.getElem?_eq_none (by rw [wipe_length]; omega)]
theorem deref_hv {hs : List (V × MV)} : deref (hv hs) = hv hs := by
  unfold deref hv
  rw [List.map_map]
  rfl
theorem deref_append {ts ts' : List (V × O)} : deref (ts ++ ts') = deref ts ++ deref ts' := List.map_append ..
theorem getE_wp {Φ : Unit → Env → Prop} {f : Env → Option Env} {env : Env} (h : wpM W (getE f) env Φ) : ∃ e, f env = some e ∧ Φ () e := by
  unfold wpM getE at h
  cases e : f env with
  | none => simp only [e] at h
  | some e' => simp only [e] at h; exact ⟨e', rfl, h⟩

mutual
theorem bindT_length : ∀ {t : Tg} {d : PyData} {env env' : Env}, bindT t d env = some env' → env'.length = env.length
  | .n i, d, env, env', h => by
    unfold bindT at h
    split at h
    · cases h; exact List.length_set
    · cases h
  | .t u, d, env, env', h => by
    cases d with
    | tuple ds => exact bindTs_length (show bindTs u ds env = some env' from h)
    | _ => cases h
theorem bindTs_length : ∀ {u : TgL} {ds : List PyData} {env env' : Env}, bindTs u ds env = some env' → env'.length = env.length
  | .nil, [], _, _, h => by cases h; rfl
  | .nil, _ :: _, _, _, h => by cases h
  | .cons t u, [], _, _, h => by cases h
  | .cons t u, d :: ds, env, env', h => by
    unfold bindTs at h
    split at h
    · rename_i e he
      rw [bindTs_length h, bindT_length he]
    · cases h
end
/-- one turn's body -/
def turnF (C : Nat → Callee) (e : E) (t : Tg) (c : T) : PyData → List PyData → M (List PyData) := fun x acc => M.bind (getE fun env => bindT t x (hide t.vars env)) fun _ => M.bind (evT C c) fun k => match k with
  | true => M.bind (evO C e) fun y => M.bind (tk y) fun p => if acc.length < line then .pure (acc ++ [p]) else .no
  | false => .pure acc
theorem comp_read {K : PySem.W.Frag} {σ : St} {H : Hp} {Q : VK} {e : E} {t : Tg} {s : Src} {c : T} (nd : t.vars.Nodup) (hio : ∀ q ∈ B.io, q.1 ∉ t.vars) (h : rO K P B W (evO C (.comp e t s c)) σ H Q) :
    tLc (rW K P B W (evS C s)) (rG K P B t) (rT K P B W0 (evT C c)) (rO K P B W0 (evO C e)) t.vars σ H Q := by
  obtain ⟨env, ts, S, h⟩ := h
  have h : wpM W (M.bind (evS C s) fun w => fun env => if inN t.vars env = true then (match turns (turnF C e t c) w [] env with
    | .ok acc env' => R.ok (O.v (.ml acc)) (unhide env t.vars env')
    | _ => R.no) else R.no) env _ := h
  rw [wpM_bind] at h
  refine ⟨env, ts, S, wpM_mono h fun xs env1 h J H1 hs S1 wk D hD => ?_⟩
  have hin : inN t.vars env1 = true := by
    by_cases hin : inN t.vars env1 = true
    · exact hin
    · unfold wpM at h; dsimp only at h; rw [if_neg hin] at h; exact h.elim
  have hl : ∀ i ∈ t.vars, i < env1.length := fun i hi => of_decide_eq_true (List.all_eq_true.mp hin i hi)
  have h : wpM W0 (turns (turnF C e t c) xs []) env1 fun acc env' => ∀ v H', Sim K P B (unhide env1 t.vars env') (ts ++ [(v, .v (.ml acc))]) σ H' → Q v H' := by
    unfold wpM at h ⊢
    dsimp only at h
    rw [if_pos hin] at h
    cases e1 : turns (turnF C e t c) xs [] env1 with
    | ok acc env' => rw [e1] at h; exact h
    | exc k as env' => rw [e1] at h; exact h.elim
    | no => rw [e1] at h; exact h.elim
  have S2 := S1.enter nd hl hio
  have S3 := S2.newL hD .nil
  generalize hT : deref (ts ++ PD.hv hs) ++ PD.hv (hid env1 σ t.vars) = T0 at S2 S3
  have nT0 : NoRef T0 := by rw [← hT]; exact NoRef.append deref_noref NoRef.hv
  have hlen1 : (wipe σ t.vars).length = env1.length := by rw [wipe_length]; exact S1.len
  have held : ∀ (env2 : Env) (σ2 : St) (ex : List (V × O)), ∀ q ∈ hs, ∃ p, cell env2 σ2 (T0 ++ ex) p = some q := fun env2 σ2 ex q hq => by
    refine held_mem (List.mem_append_left _ ?_)
    rw [← hT, deref_append, deref_hv]
    exact List.mem_append_left _ (List.mem_append_right _ (List.mem_map.mpr ⟨q, hq, rfl⟩))
  have fin : ∀ (env2 : Env) (acc : List PyData) (H : Hp), env2.length = env1.length → Sim K P B (hide t.vars env2) (T0 ++ [(.ref D, .v (.ml acc))]) (wipe σ t.vars) H → (∀ v H', Sim K P B (unhide env1 t.vars env2) (ts ++ [(v, .v (.ml acc))]) σ H' → Q v H') → Q (.ref D) H := fun env2 acc H hl2 S q => by
    rw [← hT] at S
    have := S1.leave (ex := [(.ref D, .ml acc)]) nd hl hl2 S
    exact q _ _ (Sim.mid (ts2 := PD.hv hs) this)
  refine ⟨fun i m H => ∃ acc env2, m = xs.length - i ∧ i ≤ xs.length ∧ env2.length = env1.length ∧ Sim K P B (hide t.vars env2) (T0 ++ [(.ref D, .v (.ml acc))]) (wipe σ t.vars) H ∧
    wpM W0 (turns (turnF C e t c) (xs.drop i) acc) env2 fun acc env' => ∀ v H', Sim K P B (unhide env1 t.vars env') (ts ++ [(v, .v (.ml acc))]) σ H' → Q v H', ⟨_, [], env1, rfl, Nat.zero_le _, rfl, S3, by rw [List.drop_zero]; exact h⟩, fun i m H ⟨acc, env2, em, hi, hl2, S, h⟩ => ?_⟩
  by_cases hi' : i = xs.length
  · left
    subst hi'
    rw [List.drop_length] at h
    exact ⟨((wk.run B _ _ _ _ S (held _ _ _)).2), fin env2 acc H hl2 S h⟩
  · right
    have hi2 : i < xs.length := by omega
    rw [List.drop_eq_getElem_cons hi2] at h
    obtain ⟨g1, g2⟩ := (wk.run B _ _ _ _ S (held _ _ _)).1 i xs[i] (List.getElem?_eq_getElem hi2)
    refine ⟨g1, fun H' => ∃ acc env2, env2.length = env1.length ∧ Sim K P B (hide t.vars env2) (T0 ++ [(.ref D, .v (.ml acc))]) (wipe σ t.vars) H' ∧
      wpM W0 (turns (turnF C e t c) (xs.drop (i + 1)) acc) env2 fun acc env' => ∀ v H', Sim K P B (unhide env1 t.vars env') (ts ++ [(v, .v (.ml acc))]) σ H' → Q v H', fun H' ⟨acc', env3, l3, S3, h3⟩ => ⟨xs.length - (i + 1), by omega, acc', env3, rfl, hi2, l3, S3, h3⟩, fun x H' hx => ?_⟩
    have S4 := g2 x H' hx
    have h : wpM W0 (M.bind (turnF C e t c xs[i] acc) fun acc' => turns (turnF C e t c) (xs.drop (i + 1)) acc') env2 _ := h
    rw [wpM_bind] at h
    have h : wpM W0 (M.bind (getE fun env => bindT t xs[i] (hide t.vars env)) fun _ => M.bind (evT C c) fun k => match k with
      | true => M.bind (evO C e) fun y => M.bind (tk y) fun p => if acc.length < line then .pure (acc ++ [p]) else .no
      | false => .pure acc) env2 _ := h
    rw [wpM_bind] at h
    obtain ⟨e3, hb, h⟩ := getE_wp h
    have nT1 : NoRef (T0 ++ [(V.ref D, O.v (.ml acc))]) := nT0.append NoRef.one
    have rx : Fz K (Zf B (cell (hide t.vars env2) (wipe σ t.vars) (T0 ++ [(.ref D, .v (.ml acc))]))) H' x xs[i] := Fz.drop' (S4.held (v := x) (m := .d xs[i]) (by simp))
    refine ⟨_, _, _, e3, S4.drop, nT1, rx, hb, fun σ2 ag S5 _ => ?_⟩
    have l3 : e3.length = env1.length := by
      rw [bindT_length hb, hide_length, hl2]
    have hw : wipe σ2 t.vars = wipe σ t.vars := wipe_agree (by rw [S5.len, l3]; exact S1.len.symm) ag
    refine ⟨hw, e3, _, S5, ?_⟩
    rw [wpM_bind] at h
    refine wpM_mono h fun b e4 h H3 S6 => ?_
    have l4 : e4.length = env1.length := by
      have := S6.len
      rw [← this, S5.len, l3]
    cases b with
    | false =>
      dsimp only
      rw [if_neg Bool.false_ne_true]
      refine ⟨acc, e4, l4, ?_, h⟩
      have := S6.hideW (vs := t.vars) nT1 hio
      rw [hw] at this
      exact this
    | true =>
      dsimp only
      rw [if_pos rfl]
      have h : wpM W0 (M.bind (evO C e) fun y => M.bind (tk y) fun p => if acc.length < line then .pure (acc ++ [p]) else .no) e4 _ := h
      rw [wpM_bind] at h
      refine ⟨e4, _, S6, wpM_mono h fun o e5 h y H4 S7 => ?_⟩
      rw [wpM_bind] at h
      obtain ⟨p, e6, S8, h⟩ := wp_tk S7 h
      have hln : acc.length < line := by
        by_cases hln : acc.length < line
        · exact hln
        · rw [if_neg hln] at h; exact h.elim
      rw [if_pos hln] at h
      obtain ⟨b, accV, eb, hD4, rr⟩ := S8.held (v := .ref D) (m := .ml acc) (by simp)
      cases eb
      have ry := S8.held (v := y) (m := .d p) (by simp)
      refine ⟨accV, hD4, by rw [rr.length, line_eq]; exact hln, acc ++ [p], e6, ?_, ?_, h⟩
      · have := S8.len
        rw [← this, S5.len, l3]
      · have S9 := S8.heldSet hD4 (rr.append (.one ry))
        have := S9.hideW (vs := t.vars) (nT0.append NoRef.one) hio
        rw [hw] at this
        exact this
theorem s_comp {elt tg iter : Expr} {ifs : List Expr} {scope : Scope} {own : List (Str × Nat)} {pos : Pos} {e : E} {t : Tg} {s : Src} {c : T} (hc : X.calm = true) (hN : X.N.Nodup) (hi : PI X tg iter (rW X.K P B W (evS C s))) (ok : BlkOk X.N X.env.scope scope own)
    (hv : own.map (·.2) = t.vars) (nd : t.vars.Nodup) (hio : ∀ q ∈ B.io, q.1 ∉ t.vars)
    (hg : ∀ (s : Shared) (H : Hp) (D : Addr) (cl : List (Str × Addr)) (fp : List Addr), PG (X.blk s H scope (compEnvC scope cl D X.env) fp) tg (rG X.K P B t))
    (ht : ∀ (s : Shared) (H : Hp) (D : Addr) (cl : List (Str × Addr)) (fp : List Addr), PTs (X.blk s H scope (compEnvC scope cl D X.env) fp) ifs (rT X.K P B W0 (evT C c)))
    (he : ∀ (s : Shared) (H : Hp) (D : Addr) (cl : List (Str × Addr)) (fp : List Addr), PE (X.blk s H scope (compEnvC scope cl D X.env) fp) elt (rO X.K P B W0 (evO C e))) (hs : ∀ x, foldedSetIterable iter X.env x = pure x := by intro _; rfl) :
    PE X (.ListComp elt [⟨tg, iter, ifs, 0⟩] scope pos) (rO X.K P B W (evO C (.comp e t s c))) := by
  exact PE.imp (pe_lc hc hN hi ok hg ht he hs) fun σ H Q h => by rw [hv]; exact comp_read nd hio h
end
end PD
end
section
set_option linter.all false
set_option maxRecDepth 100000
namespace PD
open PySem L2

section
variable (K : PySem.W.Frag) (P : Pl) (B : Base) (W : Wi)
/-- what is wanted behind a statement -/
def endS (D : Ends) (ts : List (V × O)) : RS → Prop
  | .nx e => ∀ σ H, Sim K P B e ts σ H → D.nx σ H
  | .br e => ∀ σ H, Sim K P B e ts σ H → D.bk σ H
  | .ct e => ∀ σ H, Sim K P B e ts σ H → D.ct σ H
  | .ret m e => ∀ v σ H, Sim K P B e (ts ++ [(v, .v m)]) σ H → D.rt v H
  | .exc c as e => W c as e
  | .no => False
def rS (x : Env → RS) : TS := fun D σ H => ∃ env ts, Sim K P B env ts σ H ∧ NoRef ts ∧ endS K P B W D ts (x env)
end
section
variable {X : Cx} {P : Pl} {B : Base} {W : Wi} {C : Nat → Callee} {σ : St} {H : Hp}
theorem PS.imp {st : Stmt} {t t' : TS} (h : PS X st t) (i : ∀ D σ H, t' D σ H → t D σ H) : PS X st t' := ⟨fun pins s σ H D I q => h.run pins s σ H D I (i _ _ _ q)⟩
theorem PSs.imp {st : List Stmt} {t t' : TS} (h : PSs X st t) (i : ∀ D σ H, t' D σ H → t D σ H) : PSs X st t' := ⟨fun pins s σ H D I q => h.run pins s σ H D I (i _ _ _ q)⟩
theorem endS_of {K : PySem.W.Frag} {α : Type} {m : M α} {f : α → Env → RS} {env : Env} {D : Ends} {ts : List (V × O)} (h : endS K P B W D ts (RS.of (m env) f)) : wpM W m env fun a e => endS K P B W D ts (f a e) := by
  unfold wpM
  cases e : m env with
  | ok a e' => rw [e] at h; exact h
  | exc c as e' => rw [e] at h; exact h
  | no => rw [e] at h; exact h
theorem rO_fst {K : PySem.W.Frag} {α : Type} {m : M O} {f : O → M α} {env : Env} {ts : List (V × O)} {Φ : α → Env → Prop} (S : Sim K P B env ts σ H) (h : wpM W (M.bind m f) env Φ) (R : VK)
    (hR : ∀ o e v H', Sim K P B e (ts ++ [(v, o)]) σ H' → wpM W (f o) e Φ → R v H') : rO K P B W m σ H R := by
  rw [wpM_bind] at h
  exact ⟨env, ts, S, wpM_mono h fun o e h v H' S' => hR o e v H' S' h⟩
/-! ### blocks -/
theorem st_nil : PSs X [] (rS X.K P B W (exL C .nil)) := PSs.imp pss_nil fun D σ H ⟨env, ts, S, hn, h⟩ => h σ H S
theorem st_cons {st : Stmt} {rest : List Stmt} {a : S} {b : SL} (h1 : PS X st (rS X.K P B W (exS C a))) (h2 : PSs X rest (rS X.K P B W (exL C b))) : PSs X (st :: rest) (rS X.K P B W (exL C (.cons a b))) := by
  refine PSs.imp (pss_cons h1 h2) fun D σ H ⟨env, ts, S, hn, h⟩ => ⟨env, ts, S, hn, ?_⟩
  have h : endS X.K P B W D ts (match exS C a env with
    | .nx e => exL C b e
    | r => r) := h
  cases e : exS C a env with
  | nx e' => rw [e] at h; exact fun σ H S' => ⟨e', ts, S', hn, h⟩
  | br e' => rw [e] at h; exact h
  | ct e' => rw [e] at h; exact h
  | ret m e' => rw [e] at h; exact h
  | exc c as e' => rw [e] at h; exact h
  | no => rw [e] at h; exact h
theorem st_pass {pos : Pos} : PS X (.Pass pos) (rS X.K P B W (exS C .ps)) := PS.imp ps_pass fun D σ H ⟨env, ts, S, hn, h⟩ => h σ H S
theorem st_break {pos : Pos} : PS X (.Break pos) (rS X.K P B W (exS C .br)) := PS.imp ps_break fun D σ H ⟨env, ts, S, hn, h⟩ => h σ H S
theorem st_cont {pos : Pos} : PS X (.Continue pos) (rS X.K P B W (exS C .ct)) := PS.imp ps_continue fun D σ H ⟨env, ts, S, hn, h⟩ => h σ H S
theorem st_expr {e : Expr} {a : E} {pos : Pos} (ha : PE X e (rO X.K P B W (evO C a))) (hs : swapsWith e none pos.line X.env = pure false := by rfl) : PS X (.Expr e pos) (rS X.K P B W (exS C (.ex a))) := by
  refine PS.imp (ps_expr ha hs) fun D σ H ⟨env, ts, S, hn, h⟩ => ?_
  have h : endS X.K P B W D ts (RS.of (evO C a env) fun _ e1 => .nx e1) := h
  exact ⟨env, ts, S, wpM_mono (endS_of h) fun o e h v H' S' => h _ _ S'.drop⟩
theorem st_if {c : Expr} {a b : List Stmt} {t : T} {p q : SL} {pos : Pos} (hc : PT X c (rT X.K P B W (evT C t))) (ha : PSs X a (rS X.K P B W (exL C p))) (hb : PSs X b (rS X.K P B W (exL C q))) : PS X (.If c a b pos) (rS X.K P B W (exS C (.iff t p q))) := by
  refine PS.imp (ps_if hc ha hb) fun D σ H ⟨env, ts, S, hn, h⟩ => ?_
  have h : endS X.K P B W D ts (RS.of (evT C t env) fun t e1 => match t with
    | true => exL C p e1
    | false => exL C q e1) := h
  refine ⟨env, ts, S, wpM_mono (endS_of h) fun b e h H' S' => ?_⟩
  cases b with
  | true => exact ⟨e, ts, S', hn, h⟩
  | false => exact ⟨e, ts, S', hn, h⟩
/-! ### values that are kept -/
theorem tkO_keep {K : PySem.W.Frag} {env : Env} {ts ts' : List (V × O)} {v : V} {o : O} {Φ : MV → Env → Prop} (S : Sim K P B env (ts ++ (v, o) :: ts') σ H) (h : wpM W (tkO o) env Φ) : ∃ m env', Sim K P B env' (ts ++ (v, .v m) :: ts') σ H ∧ Φ m env' := by
  cases o with
  | v m => exact ⟨m, env, S, h⟩
  | r i =>
    have h : wpM W (tkA (.r i)) env Φ := h
    unfold wpM at h
    cases e : tkA (.r i) env with
    | ok m env' => rw [e] at h; exact ⟨m, env', (Sim.tkA S e).1, h⟩
    | exc c as env' => exact absurd e tkA_exc
    | no => rw [e] at h; exact h.elim
theorem tkOs_keep {K : PySem.W.Frag} : ∀ {os : List O} {vs : List V} {env : Env} {ts ts' : List (V × O)} {Φ : List MV → Env → Prop}, vs.length = os.length → Sim K P B env (ts ++ vs.zip os ++ ts') σ H → wpM W (tkOs os) env Φ →
    ∃ ms env', vs.length = ms.length ∧ Sim K P B env' (ts ++ vs.zip (ms.map O.v) ++ ts') σ H ∧ Φ ms env'
  | [], [], env, ts, ts', Φ, _, S, h => ⟨[], env, rfl, S, h⟩
  | o :: os, v :: vs, env, ts, ts', Φ, hl, S, h => by
    have h : wpM W (M.bind (tkO o) fun m => M.bind (tkOs os) fun ms => .pure (m :: ms)) env Φ := h
    rw [wpM_bind] at h
    have S1 : Sim K P B env (ts ++ (v, o) :: (vs.zip os ++ ts')) σ H := by simpa using S
    obtain ⟨m, env1, S2, h⟩ := tkO_keep S1 h
    rw [wpM_bind] at h
    have S3 : Sim K P B env1 ((ts ++ [(v, .v m)]) ++ vs.zip os ++ ts') σ H := by simpa using S2
    obtain ⟨ms, env2, hl2, S4, h⟩ := tkOs_keep (os := os) (vs := vs) (by simpa using hl) S3 h
    exact ⟨m :: ms, env2, by simp [hl2], by simpa using S4, h⟩
/-- the readings of an assignment to a name -/
theorem set_read {i : Nat} {a : E} {D : Ends} (hio : ∀ q ∈ B.io, q.1 ≠ i) (h : rS X.K P B W (exS C (.set i a)) D σ H) : tAsg (rO X.K P B W (evO C a)) (gName i) D σ H := by
  obtain ⟨env, ts, S, hn, h⟩ := h
  have h : endS X.K P B W D ts (RS.of (M.bind (evO C a) tkO env) fun m e1 => setM i m e1) := h
  have h := endS_of h
  refine rO_fst S h _ fun o e v H' S' h => ?_
  obtain ⟨m, e1, S1, h⟩ := tkO_keep S' h
  unfold setM at h
  by_cases hi : i < e1.length
  · rw [if_pos hi] at h
    exact h _ _ (S1.bindV hi hn hio)
  · rw [if_neg hi] at h; exact h.elim
theorem st_set {i : Nat} {x : Str} {e : Expr} {a : E} {pos pos' : Pos} (hN : X.N.Nodup) (hi : X.N[i]? = some x) (hx : Loc X.env.scope x) (hio : ∀ q ∈ B.io, q.1 ≠ i) (ha : PE X e (rO X.K P B W (evO C a))) (hs : swapsWith e (some (.Name x pos')) pos.line X.env = pure false := by rfl)
    (hf : X.fn x = true ∨ X.env.scope.names.lookup x = some .local := by first | exact .inl rfl | exact .inr rfl | assumption) : PS X (.Assign [.Name x pos'] e pos) (rS X.K P B W (exS C (.set i a))) :=
  PS.imp (ps_set hN hi hx ha hs hf) fun D σ H h => set_read hio h
/-- held in another order -/
theorem Sim.swap {K : PySem.W.Frag} {env : Env} {ts ts2 : List (V × O)} {x : V × O} (S : Sim K P B env (ts ++ x :: ts2) σ H) : Sim K P B env (ts ++ ts2 ++ [x]) σ H := by
  have key : ∀ p c, cell env σ (ts ++ ts2 ++ [x]) p = some c → cell env σ (ts ++ x :: ts2) (if p < env.length + ts.length then p else if p = env.length + ts.length + ts2.length then env.length + ts.length else p + 1) = some c ∧ p ≤ env.length + ts.length + ts2.length := fun p c e => by
    by_cases hp : p < env.length
    · rw [if_pos (by omega)]
      rw [cell_lt hp] at e ⊢; exact ⟨e, by omega⟩
    · have e1 := cell_held_inv (by omega) e
      have hl : p - env.length < (ts ++ ts2 ++ [x]).length := (List.getElem?_eq_some_iff.mp e1).1
      simp only [List.length_append, List.length_singleton] at hl
      by_cases hq : p - env.length < ts.length
      · rw [List.append_assoc, List.getElem?_append_left hq] at e1
        rw [if_pos (by omega), cell_ge (by omega), List.getElem?_append_left hq, e1]
        exact ⟨rfl, by omega⟩
      · by_cases hz : p = env.length + ts.length + ts2.length
        · rw [List.getElem?_append_right (by simp; omega)] at e1
          rw [if_neg (by omega), if_pos hz, cell_ge (by omega), List.getElem?_append_right (by omega), show env.length + ts.length - env.length - ts.length = 0 by omega]
          rw [show p - env.length - (ts ++ ts2).length = 0 by simp; omega] at e1
          simp only [List.getElem?_cons_zero] at e1 ⊢
          rw [e1]
          exact ⟨rfl, by omega⟩
        · rw [List.append_assoc, List.getElem?_append_right (by omega), List.getElem?_append_left (by omega)] at e1
          rw [if_neg (by omega), if_neg hz, cell_ge (by omega), List.getElem?_append_right (by omega), show p + 1 - env.length - ts.length = (p - env.length - ts.length) + 1 by omega, List.getElem?_cons_succ, e1]
          exact ⟨rfl, by omega⟩
  refine ⟨S.len, S.val, fun w j h => S.ref w j ?_, S.cs.remap _ (fun p c e => (key p c e).1) (fun p q c c' e e' h => ?_), S.ios⟩
  · simp only [List.mem_append, List.mem_cons, List.not_mem_nil, or_false] at h ⊢
    rcases h with (h | h) | h
    · exact .inl h
    · exact .inr (.inr h)
    · exact .inr (.inl h)
  · have h1 := (key p c e).2
    have h2 := (key q c' e').2
    split at h <;> split at h <;> try omega
    all_goals (split at h <;> try omega)
    all_goals (split at h <;> omega)
/-- name, name = e, e -/
theorem par_one {K : PySem.W.Frag} {env : Env} {ts : List (V × O)} {i : Nat} {v : V} {m : MV} {vs : List V} {ms : List MV} (S : Sim K P B env (ts ++ (v, .v m) :: vs.zip (ms.map O.v)) σ H) (hi : i < env.length) (hn : NoRef ts) (hio : ∀ q ∈ B.io, q.1 ≠ i) :
    Sim K P B (env.set i (some m)) (ts ++ vs.zip (ms.map O.v)) (σ.set i (some v)) H := by
  have nr : NoRef (vs.zip (ms.map O.v)) := fun q hq => by
    have := (List.of_mem_zip hq).2
    obtain ⟨m, _, e⟩ := List.mem_map.mp this
    exact ⟨m, e.symm⟩
  have S2 : Sim K P B env ((ts ++ vs.zip (ms.map O.v)) ++ [(v, .v m)]) σ H := Sim.swap S
  exact S2.bindV hi (hn.append nr) hio
theorem evL_len3 {a b c : E} {os : List O} {env env' : Env} (h : evL C (.cons a (.cons b (.cons c .nil))) env = .ok os env') : os.length = 3 := by
  have h : M.bind (evO C a) (fun x => M.bind (evL C (.cons b (.cons c .nil))) fun xs => .pure (x :: xs)) env = _ := h
  obtain ⟨o, e, _, h2⟩ := bind_ok h
  obtain ⟨os', e2, h3, h4⟩ := bind_ok h2
  cases h4
  rw [List.length_cons, evL_len2 h3]
theorem par_read {is : List Nat} {as : EL} {D : Ends} {R : List V → Hp → Prop} (h : rS X.K P B W (exS C (.par is as)) D σ H)
    (hR : ∀ (e : Env) (ts : List (V × O)) (vs : List V) (ms : List MV) (H' : Hp), vs.length = ms.length → NoRef ts → Sim X.K P B e (ts ++ vs.zip (ms.map O.v)) σ H' → endS X.K P B W D ts (setMs is ms e) → R vs H') : rL X.K P B W (evL C as) σ H R := by
  obtain ⟨env, ts, S, hn, h⟩ := h
  have h : endS X.K P B W D ts (RS.of (M.bind (evL C as) tkOs env) fun ms e1 => setMs is ms e1) := h
  have h := endS_of h
  rw [wpM_bind] at h
  refine ⟨env, ts, S, wpM_mono h fun os e h vs H' hl S' => ?_⟩
  obtain ⟨ms, e2, hl2, S2, h⟩ := tkOs_keep (ts' := []) hl (by simpa using S') h
  exact hR e2 ts vs ms H' hl2 hn (by simpa using S2) h
theorem st_par2 {i j : Nat} {x y : Str} {a b : Expr} {ea eb : E} {px py pt pos : Pos} {kt k2 : Nat} {pt2 : Pos} (hc : X.calm = true) (hN : X.N.Nodup) (hi : X.N[i]? = some x) (hj : X.N[j]? = some y) (hij : i ≠ j) (hx : X.env.scope.names.lookup x = some .local) (hy : X.env.scope.names.lookup y = some .local)
    (hio : ∀ q ∈ B.io, q.1 ≠ i) (hjo : ∀ q ∈ B.io, q.1 ≠ j) (ha : PA X [a, b] (rL X.K P B W (evL C (.cons ea (.cons eb .nil)))))
    (hw : swappedStores [.Tuple [.Name x px, .Name y py] kt pt] (.Tuple [a, b] k2 pt2) X.env = pure (some [x, y])) (hs : swapsWithSole [.Tuple [.Name x px, .Name y py] kt pt] (.Tuple [a, b] k2 pt2) pos.line X.env = pure false := by rfl) :
    PS X (.Assign [.Tuple [.Name x px, .Name y py] kt pt] (.Tuple [a, b] k2 pt2) pos) (rS X.K P B W (exS C (.par [i, j] (.cons ea (.cons eb .nil))))) := by
  refine PS.imp (ps_par hc hN hi hj hij hx hy ha hw hs) fun D σ H h => par_read h fun e ts vs ms H' hl hn S h => ?_
  match ms, vs, hl, S, h with
  | [m1, m2], [v, w], _, S, h =>
    refine ⟨v, w, rfl, ?_⟩
    have h : endS X.K P B W D ts (if i < e.length then (if j < (e.set i (some m1)).length then RS.nx ((e.set i (some m1)).set j (some m2)) else .no) else .no) := h
    by_cases h1 : i < e.length
    · rw [if_pos h1] at h
      by_cases h2 : j < (e.set i (some m1)).length
      · rw [if_pos h2] at h
        have S1 := par_one (ms := [m2]) (vs := [w]) S h1 hn hio
        exact h _ _ (S1.bindV h2 hn hjo)
      · rw [if_neg h2] at h; exact h.elim
    · rw [if_neg h1] at h; exact h.elim
  | [], vs, _, _, h => exact (show False from h).elim
  | [m1], vs, _, _, h =>
    have h : endS X.K P B W D ts (if i < e.length then RS.no else .no) := h
    split at h <;> exact h.elim
  | m1 :: m2 :: m3 :: ms, vs, _, _, h =>
    have h : endS X.K P B W D ts (if i < e.length then (if j < (e.set i (some m1)).length then RS.no else .no) else .no) := h
    split at h
    · split at h <;> exact h.elim
    · exact h.elim
/-- targets = e -/
theorem st_unp {tg e : Expr} {a : E} {t : Tg} {pos : Pos} (ha : PE X e (rO X.K P B W (evO C a))) (hg : PG X tg (rG X.K P B t)) (hs : swapsWithSole [tg] e pos.line X.env = pure false := by rfl) (hw : swappedStores [tg] e X.env = pure none := by rfl)
    (h1 : (assignEach [tg] X.env).map (·.2) = [assign tg X.env] := by rfl) : PS X (.Assign [tg] e pos) (rS X.K P B W (exS C (.unp t a))) := by
  refine PS.imp (ps_asg ha hg hs hw h1) fun D σ H ⟨env, ts, S, hn, h⟩ => ?_
  have h : endS X.K P B W D ts (RS.of (M.bind (evO C a) tk env) fun p e1 => match bindT t p e1 with
    | some e2 => .nx e2
    | none => .no) := h
  have h := endS_of h
  refine rO_fst S h _ fun o e v H' S' h => ?_
  obtain ⟨p, e1, S1, h⟩ := wp_tk S' h
  have r := S1.held (v := v) (m := .d p) (by simp)
  cases eb : bindT t p e1 with
  | none => rw [eb] at h; exact h.elim
  | some e2 =>
    rw [eb] at h
    exact ⟨e1, ts, p, e2, S1.drop, hn, Fz.drop' r, eb, fun σ' _ S2 _ => h _ _ S2⟩
/-- a name's value is given away -/
theorem Sim.giveUp {K : PySem.W.Frag} {env : Env} {ts : List (V × O)} {i : Nat} {v : V} {m : MV} (S : Sim K P B env (ts ++ [(v, .r i)]) σ H) (e : env.at i = some m) : Sim K P B (env.set i Option.none) (ts ++ [(v, .v m)]) σ H := by
  have hi : i < env.length := (List.getElem?_eq_some_iff.mp (at_some e)).1
  have sv : σ[i]? = some (some v) := S.ref v i (by simp)
  have sl : (env.set i Option.none).length = env.length := List.length_set
  have key : ∀ p c, cell (env.set i Option.none) σ (ts ++ [(v, .v m)]) p = some c → cell env σ (ts ++ [(v, .r i)]) (if p = env.length + ts.length then i else p) = some c ∧ p ≠ i := fun p c e' => by
    by_cases hp : p < env.length
    · have e1 := cell_name_inv (by rw [sl]; exact hp) e'
      by_cases hj : p = i
      · subst hj
        rw [List.getElem?_set_self hp] at e1
        cases e1.1
      · rw [List.getElem?_set_ne (Ne.symm hj)] at e1
        rw [if_neg (by omega)]
        exact ⟨cell_name e1.1 e1.2, hj⟩
    · have e1 := cell_held_inv (by rw [sl]; omega) e'
      rw [sl] at e1
      by_cases hq : p - env.length < ts.length
      · rw [List.getElem?_append_left hq] at e1
        rw [if_neg (by omega), cell_ge (by omega), List.getElem?_append_left hq, e1]
        exact ⟨rfl, by omega⟩
      · rw [List.getElem?_append_right (by omega)] at e1
        have hz : p - env.length - ts.length = 0 := by
          have := (List.getElem?_eq_some_iff.mp e1).1
          simpa using this
        rw [hz] at e1
        have e1 : some (v, O.v m) = some (c.1, .v c.2) := e1
        rw [if_pos (by omega)]
        have : c = (v, m) := by
          cases c
          cases e1
          rfl
        rw [this]
        exact ⟨cell_name (at_some e) sv, by omega⟩
  refine ⟨by rw [sl]; exact S.len, fun j k ej => ?_, fun w j h => ?_, S.cs.remap _ (fun p c e => (key p c e).1) (fun p q c c' e e' h => ?_), S.ios⟩
  · by_cases hj : j = i
    · subst hj
      rw [List.getElem?_set_self hi] at ej; cases ej
    · rw [List.getElem?_set_ne (Ne.symm hj)] at ej; exact S.val j k ej
  · rcases List.mem_append.mp h with h | h
    · exact S.ref w j (List.mem_append_left _ h)
    · simp at h
  · have h1 := (key p c e).2
    have h2 := (key q c' e').2
    split at h <;> split at h <;> omega
/-- return e -/
theorem st_ret {e : Expr} {a : E} {pos : Pos} (ha : PE X e (rO X.K P B W (evO C a))) : PS X (.Return (some e) pos) (rS X.K P B W (exS C (.ret a))) := by
  refine PS.imp (ps_ret ha) fun D σ H ⟨env, ts, S, hn, h⟩ => ?_
  have h : endS X.K P B W D ts (RS.of (evO C a env) fun o e1 => match o with
    | .v m => .ret m e1
    | .r i => match e1.at i with
      | some m => .ret m (e1.set i none)
      | none => .no) := h
  have h := endS_of h
  refine ⟨env, ts, S, wpM_mono h fun o e h v H' S' => ?_⟩
  cases o with
  | v m => exact h _ _ _ S'
  | r i =>
    cases ei : e.at i with
    | none => simp only [ei] at h; exact h.elim
    | some m =>
      simp only [ei] at h
      exact h _ _ _ (Sim.giveUp S' ei)
/-- while -/
theorem st_while {c : Expr} {body : List Stmt} {t : T} {b : SL} {pos : Pos} (hp : PassesOwn (model X.prog X.w) X.A X.env X.xe) (hc : PT X c (rT X.K P B W (evT C t))) (hb : PSs X body (rS X.K P B W (exL C b))) : PS X (.While c body [] pos) (rS X.K P B W (exS C (.whl t b))) := by
  refine PS.imp (ps_while hp hc hb) fun D σ H ⟨env, ts, S, hn, h⟩ => ?_
  have h : endS X.K P B W D ts (wloop (evT C t) (exL C b) turnsMax env) := h
  refine ⟨fun m σ H => ∃ env, Sim X.K P B env ts σ H ∧ endS X.K P B W D ts (wloop (evT C t) (exL C b) m env), ⟨turnsMax, env, S, h⟩, fun m σ H ⟨env, S, h⟩ => ?_⟩
  cases m with
  | zero => exact h.elim
  | succ m =>
    have h : endS X.K P B W D ts (match evT C t env with
      | .ok true e => match exL C b e with
        | .nx e1 => wloop (evT C t) (exL C b) m e1
        | .ct e1 => wloop (evT C t) (exL C b) m e1
        | .br e1 => .nx e1
        | r => r
      | .ok false e => .nx e
      | .exc k as e => .exc k as e
      | .no => .no) := h
    refine ⟨env, ts, S, ?_⟩
    unfold wpM
    cases e1 : evT C t env with
    | no => rw [e1] at h; exact h
    | exc k as e => rw [e1] at h; exact h
    | ok bb e =>
      rw [e1] at h
      intro H' S'
      cases bb with
      | false => exact h _ _ S'
      | true =>
        dsimp only at h
        rw [if_pos rfl]
        refine ⟨fun σ H => ∃ env, Sim X.K P B env ts σ H ∧ endS X.K P B W D ts (wloop (evT C t) (exL C b) m env), fun σ' H' ⟨env, S, h⟩ => ⟨m, Nat.lt_succ_self m, env, S, h⟩, e, ts, S', hn, ?_⟩
        cases e2 : exL C b e with
        | nx e3 => rw [e2] at h; exact fun σ H S => ⟨e3, S, h⟩
        | ct e3 => rw [e2] at h; exact fun σ H S => ⟨e3, S, h⟩
        | br e3 => rw [e2] at h; exact h
        | ret m e3 => rw [e2] at h; exact h
        | exc c as e3 => rw [e2] at h; exact h
        | no => rw [e2] at h; exact h
/-- for -/
theorem st_for {tg iter : Expr} {body : List Stmt} {t : Tg} {s : Src} {b : SL} {pos : Pos} (hp : PassesOwn (model X.prog X.w) X.A X.env X.xe) (hc : X.calm = true) (hi : PI X tg iter (rW X.K P B W (evS C s))) (hg : PG X tg (rG X.K P B t)) (hb : PSs X body (rS X.K P B W (exL C b)))
    (hs : ∀ x, foldedSetIterable iter X.env x = pure x := by intro _; rfl) : PS X (.For tg iter body [] pos) (rS X.K P B W (exS C (.for t s b))) := by
  refine PS.imp (ps_for hp hc hi hg hb hs) fun D σ H ⟨env, ts, S, hn, h⟩ => ?_
  have h : endS X.K P B W D ts (RS.of (evS C s env) fun w e1 => loop t (exL C b) w e1) := h
  have h := endS_of h
  refine ⟨env, ts, S, wpM_mono h fun xs e h J H1 hs S1 wk => ?_⟩
  have nr : NoRef (ts ++ PD.hv hs) := hn.append NoRef.hv
  refine ⟨fun i m σ H => m = xs.length - i ∧ i ≤ xs.length ∧ ∃ env, Sim X.K P B env (ts ++ PD.hv hs) σ H ∧ endS X.K P B W D ts (loop t (exL C b) (xs.drop i) env), ⟨_, rfl, Nat.zero_le _, e, S1, by rw [List.drop_zero]; exact h⟩, fun i m σ H ⟨em, hi, env, S, h⟩ => ?_⟩
  have wr := wk.run B env _ σ H S hv_held
  by_cases hi' : i = xs.length
  · subst hi'
    rw [List.drop_length] at h
    exact .inl ⟨wr.2, h _ _ S.drop⟩
  · have hi2 : i < xs.length := by omega
    rw [List.drop_eq_getElem_cons hi2] at h
    obtain ⟨g1, g2⟩ := wr.1 i xs[i] (List.getElem?_eq_getElem hi2)
    have h : endS X.K P B W D ts (match bindT t xs[i] env with
      | some e => match exL C b e with
        | .nx e1 => loop t (exL C b) (xs.drop (i + 1)) e1
        | .ct e1 => loop t (exL C b) (xs.drop (i + 1)) e1
        | .br e1 => .nx e1
        | r => r
      | none => .no) := h
    cases eb : bindT t xs[i] env with
    | none => rw [eb] at h; exact h.elim
    | some e2 =>
      rw [eb] at h
      refine .inr ⟨g1, fun σ H => ∃ env, Sim X.K P B env (ts ++ PD.hv hs) σ H ∧ endS X.K P B W D ts (loop t (exL C b) (xs.drop (i + 1)) env), fun σ' H' ⟨env, S, h⟩ => ⟨xs.length - (i + 1), by omega, rfl, hi2, env, S, h⟩, fun x H' hx => ?_⟩
      have S2 := g2 x H' hx
      have r := S2.held (v := x) (m := .d xs[i]) (by simp)
      refine ⟨env, _, xs[i], e2, S2.drop, nr, Fz.drop' r, eb, fun σ' _ S3 _ => ⟨e2, _, S3, nr, ?_⟩⟩
      dsimp only at h
      cases e3 : exL C b e2 with
      | nx e4 => rw [e3] at h; exact fun σ H S => ⟨e4, S, h⟩
      | ct e4 => rw [e3] at h; exact fun σ H S => ⟨e4, S, h⟩
      | br e4 => rw [e3] at h; exact fun σ H S => h _ _ S.drop
      | ret m e4 => rw [e3] at h; exact fun v σ H S => h v σ H (Sim.mid (ts2 := PD.hv hs) S)
      | exc c as e4 => rw [e3] at h; exact h
      | no => rw [e3] at h; exact h
end
end PD
end
section
set_option linter.all false
set_option maxRecDepth 100000
namespace PD
open PySem L2

section
variable {X : Cx} {P : Pl} {B : Base} {W : Wi} {C : Nat → Callee} {σ : St} {H : Hp}
/-- name = [..] on one line -/
theorem st_setC {i : Nat} {y : Str} {py : Pos} {elt tg iter : Expr} {ifs : List Expr} {scope : Scope} {own : List (Str × Nat)} {pos spos : Pos} {e : E} {t : Tg} {s : Src} {c : T} (hc : X.calm = true) (hN : X.N.Nodup) (hy : X.N[i]? = some y) (hyl : X.env.scope.names.lookup y = some .local) (hi2 : ∀ q ∈ B.io, q.1 ≠ i)
    (hsw : swapsWith (.ListComp elt [⟨tg, iter, ifs, 0⟩] scope pos) (some (.Name y py)) spos.line X.env = pure true) (hi : PI X tg iter (rW X.K P B W (evS C s))) (ok : BlkOk X.N X.env.scope scope own)
    (hv : own.map (·.2) = t.vars) (nd : t.vars.Nodup) (hio : ∀ q ∈ B.io, q.1 ∉ t.vars)
    (hg : ∀ (s : Shared) (H : Hp) (D : Addr) (cl : List (Str × Addr)) (fp : List Addr), PG (X.blk s H scope (compEnvC scope cl D X.env) fp) tg (rG X.K P B t))
    (ht : ∀ (s : Shared) (H : Hp) (D : Addr) (cl : List (Str × Addr)) (fp : List Addr), PTs (X.blk s H scope (compEnvC scope cl D X.env) fp) ifs (rT X.K P B W0 (evT C c)))
    (he : ∀ (s : Shared) (H : Hp) (D : Addr) (cl : List (Str × Addr)) (fp : List Addr), PE (X.blk s H scope (compEnvC scope cl D X.env) fp) elt (rO X.K P B W0 (evO C e))) (hs : ∀ x, foldedSetIterable iter X.env x = pure x := by intro _; rfl) :
    PS X (.Assign [.Name y py] (.ListComp elt [⟨tg, iter, ifs, 0⟩] scope pos) spos) (rS X.K P B W (exS C (.set i (.comp e t s c)))) :=
  PS.imp (ps_setLc hc hN hy hyl hsw hi ok hg ht he hs) fun D σ H h => by rw [hv]; exact comp_read nd hio (set_read hi2 h)

/-! ### o[k] = v -/
theorem any_put {K : PySem.W.Frag} {Z : Addr → Prop} (k : Key) : ∀ (ks : List Key) (vs : List V) (ds : List PyData), ks.length = vs.length → FzL K Z H vs ds →
    (((ks.map kP).zip ds).any fun kv => sameK kv.1 (kP k)) = ((ks.zip vs).any fun kv => decide (kv.1 = k))
  | [], _, _, _, _ => rfl
  | a :: ks, v :: vs, _, hl, .cons (ds := ds) (d := d) r t => by
    simp only [List.map_cons, List.zip_cons_cons, List.any_cons, sameK_kP, any_put k ks vs ds (by simpa using hl) t]
theorem map_put {K : PySem.W.Frag} {Z : Addr → Prop} (k : Key) {v : V} {d : PyData} (rv : Fz K Z H v d) : ∀ (ks : List Key) (vs : List V) (ds : List PyData), ks.length = vs.length → FzL K Z H vs ds →
    ∃ vs' ds', ks.length = vs'.length ∧ FzL K Z H vs' ds' ∧ ((ks.map kP).zip ds).map (fun kv => if sameK kv.1 (kP k) = true then (kv.1, d) else kv) = (ks.map kP).zip ds' ∧ (ks.zip vs).map (fun kv => if kv.1 = k then (kv.1, v) else kv) = ks.zip vs'
  | [], _, _, _, _ => ⟨[], [], rfl, .nil, rfl, rfl⟩
  | a :: ks, w :: vs, _, hl, .cons (ds := ds) (d := e) r t => by
    obtain ⟨vs', ds', h1, h2, h3, h4⟩ := map_put k rv ks vs ds (by simpa using hl) t
    by_cases e1 : a = k
    · refine ⟨v :: vs', d :: ds', by simp [h1], .cons rv h2, ?_, ?_⟩
      · simp only [List.map_cons, List.zip_cons_cons, sameK_kP, decide_eq_true e1, if_true, h3]
      · simp only [List.zip_cons_cons, List.map_cons, if_pos e1, h4]
    · refine ⟨w :: vs', e :: ds', by simp [h1], .cons r h2, ?_, ?_⟩
      · simp only [List.map_cons, List.zip_cons_cons, sameK_kP, decide_eq_false e1, if_neg Bool.false_ne_true, h3]
      · simp only [List.zip_cons_cons, List.map_cons, if_neg e1, h4]
theorem put_dK {K : PySem.W.Frag} {Z : Addr → Prop} (k : Key) {v : V} {d : PyData} (rv : Fz K Z H v d) {ks : List Key} {vs : List V} {ds : List PyData} (hl : ks.length = vs.length) (r : FzL K Z H vs ds) :
    DctAt K Z H (.dK (L2.putK (ks.zip vs) k v)) (putK (kP k) d ((ks.map kP).zip ds)) := by
  unfold L2.putK putK
  rw [any_put k ks vs ds hl r]
  by_cases e : ((ks.zip vs).any fun kv => decide (kv.1 = k)) = true
  · rw [if_pos e, if_pos e]
    obtain ⟨vs', ds', h1, h2, h3, h4⟩ := map_put k rv ks vs ds hl r
    exact .inl ⟨ks, vs', ds', by rw [h4], h1, h2, h3⟩
  · rw [if_neg e, if_neg e]
    refine .inl ⟨ks ++ [k], vs ++ [v], ds ++ [d], ?_, by simp [hl], r.append (.one rv), ?_⟩
    · rw [List.zip_append hl]; rfl
    · rw [List.map_append, List.zip_append (by rw [List.length_map, hl, r.length])]; rfl
theorem any_putT {K : PySem.W.Frag} {Z : Addr → Prop} (k : List Key) : ∀ (ks : List (List Key)) (vs : List V) (ds : List PyData), ks.length = vs.length → FzL K Z H vs ds →
    (((ks.map fun k => PyData.tuple (k.map kP)).zip ds).any fun kv => sameK kv.1 (.tuple (k.map kP))) = ((ks.zip vs).any fun kv => decide (kv.1 = k))
  | [], _, _, _, _ => rfl
  | a :: ks, v :: vs, _, hl, .cons (ds := ds) (d := d) r t => by
    simp only [List.map_cons, List.zip_cons_cons, List.any_cons, sameK_kPs, any_putT k ks vs ds (by simpa using hl) t]
theorem map_putT {K : PySem.W.Frag} {Z : Addr → Prop} (k : List Key) {v : V} {d : PyData} (rv : Fz K Z H v d) : ∀ (ks : List (List Key)) (vs : List V) (ds : List PyData), ks.length = vs.length → FzL K Z H vs ds →
    ∃ vs' ds', ks.length = vs'.length ∧ FzL K Z H vs' ds' ∧ ((ks.map fun k => PyData.tuple (k.map kP)).zip ds).map (fun kv => if sameK kv.1 (.tuple (k.map kP)) = true then (kv.1, d) else kv) = (ks.map fun k => PyData.tuple (k.map kP)).zip ds' ∧ (ks.zip vs).map (fun kv => if kv.1 = k then (kv.1, v) else kv) = ks.zip vs'
  | [], _, _, _, _ => ⟨[], [], rfl, .nil, rfl, rfl⟩
  | a :: ks, w :: vs, _, hl, .cons (ds := ds) (d := e) r t => by
    obtain ⟨vs', ds', h1, h2, h3, h4⟩ := map_putT k rv ks vs ds (by simpa using hl) t
    by_cases e1 : a = k
    · refine ⟨v :: vs', d :: ds', by simp [h1], .cons rv h2, ?_, ?_⟩
      · simp only [List.map_cons, List.zip_cons_cons, sameK_kPs, decide_eq_true e1, if_true, h3]
      · simp only [List.zip_cons_cons, List.map_cons, if_pos e1, h4]
    · refine ⟨w :: vs', e :: ds', by simp [h1], .cons r h2, ?_, ?_⟩
      · simp only [List.map_cons, List.zip_cons_cons, sameK_kPs, decide_eq_false e1, if_neg Bool.false_ne_true, h3]
      · simp only [List.zip_cons_cons, List.map_cons, if_neg e1, h4]
theorem put_dT {K : PySem.W.Frag} {Z : Addr → Prop} (k : List Key) {v : V} {d : PyData} (rv : Fz K Z H v d) {ks : List (List Key)} {vs : List V} {ds : List PyData} (hl : ks.length = vs.length) (r : FzL K Z H vs ds) :
    DctAt K Z H (.dT (L2.putK (ks.zip vs) k v)) (putK (.tuple (k.map kP)) d ((ks.map fun k => PyData.tuple (k.map kP)).zip ds)) := by
  unfold L2.putK putK
  rw [any_putT k ks vs ds hl r]
  by_cases e : ((ks.zip vs).any fun kv => decide (kv.1 = k)) = true
  · rw [if_pos e, if_pos e]
    obtain ⟨vs', ds', h1, h2, h3, h4⟩ := map_putT k rv ks vs ds hl r
    exact .inr ⟨ks, vs', ds', by rw [h4], h1, h2, h3⟩
  · rw [if_neg e, if_neg e]
    refine .inr ⟨ks ++ [k], vs ++ [v], ds ++ [d], ?_, by simp [hl], r.append (.one rv), ?_⟩
    · rw [List.zip_append hl]; rfl
    · rw [List.map_append, List.zip_append (by rw [List.length_map, hl, r.length])]; rfl
/-- a dict gets a value, the empty one of either kind -/
def DP (H : Hp) (a : Addr) (y v : V) (H' : Hp) : Prop :=
  DPut H a y v H' ∨ (H a = some (.dK []) ∧ ∃ b k, y = .ref b ∧ H b = some (.tup (List.map kV k)) ∧ H' = upd H a (.dT [(k, v)])) ∨ (H a = some (.dT []) ∧ ∃ k, y = kV k ∧ H' = upd H a (.dK [(k, v)]))
def rSet : TSet := fun o i v H Q => rSetL o i v H Q ∨ ∃ a H', o = .ref a ∧ DP H a i v H' ∧ Q H'
theorem set_any (hu : X.A.units + 1 < cLine) : PSet X rSet := by
  intro pins s σ H o i v ov iv u Q I ro ri rv h
  rcases h with h | ⟨a, H', eo, g, q⟩
  · exact set_list pins s σ H o i v ov iv u Q I ro ri rv h
  · subst eo
    cases (show ov = Value.ref a from ro)
    rcases g with g | ⟨e, b, k, ey, eb, eH⟩ | ⟨e, k, ey, eH⟩
    · exact d_setItem hu I g ri rv fun s' I' => ⟨H', I', q⟩
    · subst ey eH
      have ne : b ≠ a := ne_of eb e (by intro z; cases z)
      refine d_setItem hu (toT I e) (DPut.t (kvs := []) (k := k) upd_same (by rw [upd_ne ne]; exact eb) (by decide)) ri rv fun s' I' => ⟨_, ?_, q⟩
      rw [upd_upd] at I'
      exact I'
    · subst ey eH
      refine d_setItem hu (toK I e) (DPut.k (kvs := []) (k := k) upd_same (by decide)) ri rv fun s' I' => ⟨_, ?_, q⟩
      rw [upd_upd] at I'
      exact I'
section
variable {K : PySem.W.Frag} {env : Env} {ts : List (V × O)}
theorem DctAt.obj {Z : Addr → Prop} {o : HO} {kvs} (h : DctAt K Z H o kvs) : (∀ a u, o ≠ .frz a u) ∧ ∀ vs, o ≠ .tup vs := by
  rcases h with ⟨_, _, _, rfl, _⟩ | ⟨_, _, _, rfl, _⟩ <;> exact ⟨fun _ _ z => (by cases z), fun _ z => (by cases z)⟩
theorem Sim.setD (S : Sim K P B env ts σ H) {i : Nat} {kvs kvs' : List (PyData × PyData)} {a : Addr} {o o' : HO} (e : env.at i = some (.md kvs)) (hv : σ[i]? = some (some (.ref a))) (ha : H a = some o) (hd : DctAt K (Zf B (cell env σ ts)) H o kvs) (r : DctAt K (Zf B (cell env σ ts)) H o' kvs') :
    Sim K P B (env.set i (some (.md kvs'))) ts σ (upd H a o') := by
  have c0 : cell env σ ts i = some (.ref a, .md kvs) := cell_name (at_some e) hv
  have ob := hd.obj
  refine S.nameSet e hv (fun b => b = a) (fun b o x ne => by rw [upd_ne ne]; exact x) (fun b c => ⟨by rw [c], rfl, (fun o u z => by subst c; rw [ha] at z; exact ob.1 _ _ (Option.some.inj z)), ⟨_, by subst c; exact upd_same⟩⟩) (fun h => ?_) (fun _ => rfl)
  refine ⟨a, o', rfl, upd_same, DctAt.go (fun b o x z => ⟨?_, Zf.less h z⟩) (fun b ws x => ?_) r⟩
  · rw [upd_ne]
    · exact x
    · intro c; subst c; exact z.1 i ⟨_, c0, rfl⟩
  · rw [upd_ne]
    · exact x
    · intro c; subst c; rw [ha] at x; exact ob.2 _ (Option.some.inj x)
theorem all_k1_of {ks : List Key} {ds : List PyData} (hk : (((ks.map fun k => kP k).zip ds).all fun p => isK1 p.1) = true) : True := trivial
/-- a name's list or dict is written at a place -/
theorem set_at_read {i : Nat} {x v : V} {q p : PyData} {m m' : MV} {Q : Hp → Prop} {ov : V} (S : Sim K P B env ts σ H) (e : env.at i = some m) (hv : σ[i]? = some (some ov)) (rx : Fz K (Zf B (cell env σ ts)) H x q) (rv : Fz K (Zf B (cell env σ ts)) H v p) (h : setIt m q p = some m')
    (hQ : ∀ H', Sim K P B (env.set i (some m')) ts σ H' → Q H') : rSet ov x v H Q := by
  obtain ⟨w, hw, _, r⟩ := S.name e
  rw [hv] at hw; cases hw
  unfold setIt at h
  split at h
  · rename_i xs k _
    obtain ⟨a, vs, rfl, ha, r⟩ := r
    cases rx
    cases hj : ix xs.length k with
    | none => rw [hj] at h; cases h
    | some j =>
      rw [hj] at h
      cases h
      exact .inl ⟨a, vs, k, j, rfl, rfl, ha, by rw [r.length]; exact hj, hQ _ (S.setL e hv ha (r.set rv j))⟩
  · rename_i kvs
    split at h
    · rename_i hk
      cases h
      obtain ⟨a, o, rfl, ha, hd⟩ := r
      refine .inr ⟨a, ?_⟩
      have hk1 := hk.1
      unfold keyed at hk1
      rcases Bool.or_eq_true_iff.mp hk1 with hk1 | hk1 <;> have hk1 := Bool.and_eq_true_iff.mp hk1
      · obtain ⟨k, rfl⟩ := kP_of hk1.1
        have ex : x = kV k := fz_key rx
        subst ex
        rcases id hd with ⟨ks, vs, ds, eo, l, r, ek⟩ | ⟨ks, vs, ds, eo, l, r, ek⟩
        · subst eo ek
          refine ⟨_, rfl, .inl (DPut.k ha ?_), hQ _ (S.setD e hv ha hd (put_dK k rv l r))⟩
          have := hk.2
          rw [List.length_zip, List.length_map, ← r.length, ← l] at this
          rw [List.length_zip, ← l, line_eq]
          omega
        · have ek0 : ks = [] := all_k2 (by rw [l, r.length]) (by rw [← ek]; exact hk1.2)
          subst ek0
          have ev : vs = [] := by simpa using l.symm
          subst ev
          cases r
          subst eo ek
          exact ⟨_, rfl, .inr (.inr ⟨ha, k, rfl, rfl⟩), hQ _ (S.setD e hv ha hd (.inl ⟨[k], [v], [p], rfl, rfl, .one rv, rfl⟩))⟩
      · obtain ⟨k, rfl⟩ := isK2_of hk1.1
        cases rx with
        | tup hb rb =>
          have e2 := fzL_key rb
          subst e2
          rcases id hd with ⟨ks, vs, ds, eo, l, r, ek⟩ | ⟨ks, vs, ds, eo, l, r, ek⟩
          · have ek0 : ks = [] := all_k1 (by rw [l, r.length]) (by rw [← ek]; exact hk1.2)
            subst ek0
            have ev : vs = [] := by simpa using l.symm
            subst ev
            cases r
            subst eo ek
            exact ⟨_, rfl, .inr (.inl ⟨ha, _, k, rfl, hb, rfl⟩), hQ _ (S.setD e hv ha hd (.inr ⟨[k], [v], [p], rfl, rfl, .one rv, rfl⟩))⟩
          · subst eo ek
            refine ⟨_, rfl, .inl (DPut.t ha hb ?_), hQ _ (S.setD e hv ha hd (put_dT k rv l r))⟩
            have := hk.2
            rw [List.length_zip, List.length_map, ← r.length, ← l] at this
            rw [List.length_zip, ← l, line_eq]
            omega
    · cases h
  · cases h
end
theorem wp_var {i : Nat} {env : Env} {Φ : O → Env → Prop} (h : wpM W (evO C (.var i)) env Φ) : ∃ m, env.at i = some m ∧ Φ (.r i) env := by
  unfold wpM evO at h
  cases e : env.at i with
  | none => simp only [e] at h
  | some m => simp only [e] at h; exact ⟨m, rfl, h⟩
theorem st_ssb {i : Nat} {x : Str} {px pos pos' : Pos} {k e : Expr} {ek ee : E} (hu : X.A.units + 1 < cLine) (ho : PE X (.Name x px) (tVar i)) (hk : PE X k (rO X.K P B W (evO C ek))) (he : PE X e (rO X.K P B W (evO C ee)))
    (ha : ∀ v, assign (.Subscript (.Name x px) k pos') X.env v = (do
      let ov ← holding [v] (eval (.Name x px) X.env)
      let iv ← holding [v, ov] (eval k X.env)
      standAt pos'
      holding [v, ov, iv] (setItem ov iv v)
      release [v, ov, iv] []) := by intro _; rfl)
    (hs : swapsWithSole [.Subscript (.Name x px) k pos'] e pos.line X.env = pure false := by rfl) (hw : swappedStores [.Subscript (.Name x px) k pos'] e X.env = pure none := by rfl)
    (h1 : (assignEach [.Subscript (.Name x px) k pos'] X.env).map (·.2) = [assign (.Subscript (.Name x px) k pos') X.env] := by rfl) : PS X (.Assign [.Subscript (.Name x px) k pos'] e pos) (rS X.K P B W (exS C (.ssb i ek ee))) := by
  refine PS.imp (ps_asg he (pg_sub ho hk (set_any hu) ha) hs hw h1) fun D σ H ⟨env, ts, S, hn, h⟩ => ?_
  have h : endS X.K P B W D ts (RS.of (M.bind (evO C ee) (fun y => M.bind (evO C (.var i)) fun _ => M.bind (evO C ek) fun x => M.bind (tk y) fun p => M.bind (tk x) fun q => .pure (q, p)) env) fun qp e1 => match e1.at i with
    | some m => match setIt m qp.1 qp.2 with
      | some m' => .nx (e1.set i (some m'))
      | none => .no
    | none => .no) := h
  have h := endS_of h
  refine rO_fst S h _ fun oy e1 v H1 S1 h => ?_
  rw [wpM_bind] at h
  obtain ⟨m0, e0, h⟩ := wp_var h
  obtain ⟨ov, hov, _⟩ := S1.name e0
  refine ⟨ov, hov, rO_fst S1 h _ fun ox e2 x H2 S2 h => ?_⟩
  have S2 : Sim X.K P B e2 (ts ++ (v, oy) :: [(x, ox)]) σ H2 := by simpa using S2
  rw [wpM_bind] at h
  obtain ⟨p, e3, S3, h⟩ := wp_tk S2 h
  rw [wpM_bind] at h
  have S3 : Sim X.K P B e3 ((ts ++ [(v, .v (.d p))]) ++ (x, ox) :: []) σ H2 := by simpa using S3
  obtain ⟨q, e4, S4, h⟩ := wp_tk S3 h
  have h : endS X.K P B W D ts (match e4.at i with
    | some m => match setIt m q p with
      | some m' => .nx (e4.set i (some m'))
      | none => .no
    | none => .no) := h
  cases ei : e4.at i with
  | none => rw [ei] at h; exact h.elim
  | some m =>
    rw [ei] at h
    cases em : setIt m q p with
    | none => simp only [em] at h; exact h.elim
    | some m' =>
      simp only [em] at h
      have rx : Fz X.K (Zf B (cell e4 σ (ts ++ [(v, .v (.d p))] ++ [(x, .v (.d q))]))) H2 x q := S4.held (v := x) (m := .d q) (by simp)
      have rv : Fz X.K (Zf B (cell e4 σ (ts ++ [(v, .v (.d p))] ++ [(x, .v (.d q))]))) H2 v p := S4.held (v := v) (m := .d p) (by simp)
      have S5 : Sim X.K P B e4 ts σ H2 := by
        have : Sim X.K P B e4 (ts ++ [(v, .v (.d p)), (x, .v (.d q))]) σ H2 := by simpa using S4
        exact this.drop
      have rx2 : Fz X.K (Zf B (cell e4 σ ts)) H2 x q := by
        have := Fz.drop' (ts := ts ++ [(v, .v (.d p))]) (ts' := [(x, .v (.d q))]) rx
        exact Fz.drop' this
      have rv2 : Fz X.K (Zf B (cell e4 σ ts)) H2 v p := by
        have := Fz.drop' (ts := ts ++ [(v, .v (.d p))]) (ts' := [(x, .v (.d q))]) rv
        exact Fz.drop' this
      exact set_at_read S5 ei hov rx2 rv2 em fun H' S' => h σ H' S'
/-- name op= e -/
theorem augI_ok {o : BO} {p q : PyData} {n : Int} (h : augI o p q = some n) : ∃ i j, p = .int i ∧ q = .int j ∧ ((o = .add ∧ n = i + j) ∨ (o = .sub ∧ n = i - j)) := by
  unfold augI at h
  split at h
  · rename_i i j
    refine ⟨i, j, rfl, rfl, ?_⟩
    cases o with
    | add => cases h; exact .inl ⟨rfl, rfl⟩
    | sub => cases h; exact .inr ⟨rfl, rfl⟩
    | _ => cases h
  · cases h
def ipO : BO → TIp
  | .add => ipI fun i j => i + j
  | .sub => ipI fun i j => i - j
  | _ => fun _ _ _ _ => False
theorem ip_any : ∀ o : BO, PIp X (opOf o) (ipO o)
  | .add => ip_add
  | .sub => ip_sub
  | .mul => fun _ _ _ _ _ _ _ _ _ _ _ _ h => h.elim
  | .fdiv => fun _ _ _ _ _ _ _ _ _ _ _ _ h => h.elim
  | .mod => fun _ _ _ _ _ _ _ _ _ _ _ _ h => h.elim
  | .pow => fun _ _ _ _ _ _ _ _ _ _ _ _ h => h.elim
theorem ip_read {o : BO} {i j n : Int} {Q : VK} (h : (o = .add ∧ n = i + j) ∨ (o = .sub ∧ n = i - j)) (hQ : Q (.int n) H) : ipO o (.int i) (.int j) H Q := by
  rcases h with ⟨rfl, rfl⟩ | ⟨rfl, rfl⟩
  · exact ⟨i, j, rfl, rfl, hQ⟩
  · exact ⟨i, j, rfl, rfl, hQ⟩
theorem st_aug {i : Nat} {x : Str} {e : Expr} {ee : E} {o : BO} {pos pos' : Pos} (hN : X.N.Nodup) (hi : X.N[i]? = some x) (hx : Loc X.env.scope x) (hio : ∀ q ∈ B.io, q.1 ≠ i) (he : PE X e (rO X.K P B W (evO C ee)))
    (hf : X.fn x = true ∨ X.env.scope.names.lookup x = some .local := by first | exact .inl rfl | exact .inr rfl | assumption) : PS X (.AugAssign (.Name x pos') (opOf o) e pos) (rS X.K P B W (exS C (.aug o i ee))) := by
  refine PS.imp (ps_aug hN hi hx he (ip_any o) hf) fun D σ H ⟨env, ts, S, hn, h⟩ => ?_
  have h : endS X.K P B W D ts (RS.of (M.bind (evO C (.var i)) (fun x => M.bind (evO C ee) fun y => M.bind (rdD x) fun p => M.bind (rdD y) fun q => .opt (augI o p q)) env) fun n e1 => setM i (.d (.int n)) e1) := h
  have h := endS_of h
  rw [wpM_bind] at h
  obtain ⟨m0, e0, h⟩ := wp_var h
  obtain ⟨v, hv, _⟩ := S.name e0
  have S0 := S.pushR hv
  refine ⟨v, hv, rO_fst S0 h _ fun oy e1 y H1 S1 h => ?_⟩
  rw [wpM_bind] at h
  obtain ⟨p, lx, h⟩ := wp_rdD (o := .r i) S1 (x := v) (by simp) h
  rw [wpM_bind] at h
  obtain ⟨q, ly, h⟩ := wp_rdD (o := oy) S1 (x := y) (by simp) h
  obtain ⟨n, en, hh⟩ := wpM_opt h
  obtain ⟨a, b, rfl, rfl, hn2⟩ := augI_ok en
  cases lx.int
  cases ly.int
  refine ip_read hn2 ?_
  unfold setM at hh
  by_cases hl : i < e1.length
  · rw [if_pos hl] at hh
    exact hh _ _ (S1.drop.drop.bindD hl hn hio (.int n))
  · rw [if_neg hl] at hh; exact hh.elim
/-- a list's or a dict's item -/
def rGet (K : PySem.W.Frag) : R2 := fun x y H Q => rIxL K x y H Q ∨ ∃ a v, x = .ref a ∧ DG H a y (some v) ∧ Q v H
theorem get_any (hu : X.A.units + 1 < cLine) : PGet X (rGet X.K) := by
  intro pins s σ H o i ov iv Q I ro ri h
  rcases h with ⟨p, xs, k, v, rfl, rfl, hq, he, q⟩ | ⟨a, v, rfl, g, q⟩
  · cases ro
    obtain ⟨t, rfl⟩ := ri
    obtain ⟨its, r, pl, hz⟩ := I.list hq
    obtain ⟨j, h1, h2, h3, h4, h5⟩ := atI_get he
    obtain ⟨w, ew, rw'⟩ := r.get h2
    have hl := r.length
    have hn := line63
    have fin : EP X pins σ Q w s := ⟨v, H, I, rw', q⟩
    by_cases h0 : 0 ≤ k
    · have hj : k.toNat = j := by
        rw [seqIndex_of h0 h5] at h1
        exact Option.some.inj h1
      exact wpAny_getItem_list pl.isList h0 (by omega) (by rw [hj]; simpa using ew) fin
    · have hj : (k + (its.toArray.size : Int)).toNat = j := by
        rw [seqIndex_neg (by omega) h4] at h1
        rw [List.size_toArray, ← hl]
        exact Option.some.inj h1
      exact wpAny_getItem_list_neg pl.isList (by omega) (by rw [List.size_toArray] <;> omega) (by omega) (by rw [hj]; simpa using ew) fin
  · cases ro
    exact g.run I fun H0 H' I' g' back => d_getItem (X := X0 X H0) hu I' g' ri fun w' s3 I3 rw' => ⟨v, H, back _ I3, rw', q⟩
theorem item_get {K : PySem.W.Frag} {Z : Addr → Prop} {x y : V} {p q d : PyData} {Q : VK} (lx : Lk K Z H x p) (ly : Lk K Z H y q) (h : item p q = some d) (nt : ∀ xs, p ≠ .tuple xs) (hQ : ∀ v, Fz K Z H v d → Q v H) : rGet K x y H Q := by
  unfold item at h
  split at h
  · rename_i xs k
    obtain ⟨b, vs, rfl, hb, rb⟩ := lx
    cases ly.int
    cases e2 : ix xs.length k with
    | none => rw [e2] at h; cases h
    | some j =>
      rw [e2] at h
      obtain ⟨v, hv, rv⟩ := rb.get' h
      have e3 : ixN vs.length k = some j := by rw [rb.length]; exact e2
      exact .inl ⟨b, vs, k, v, rfl, rfl, .of hb, by unfold atI; rw [e3]; exact hv, hQ v rv⟩
  · exact absurd rfl (nt _)
  · split at h
    · rename_i hk
      obtain ⟨b, o, rfl, ho, hd⟩ := lx
      obtain ⟨r, g, hr⟩ := dct_look ho hd ly hk
      rcases hr with ⟨_, h2⟩ | ⟨v, d', rfl, h2, h3⟩
      · rw [h2] at h; cases h
      · rw [h2] at h; cases h
        exact .inr ⟨b, v, rfl, g, hQ v h3⟩
    · cases h
  · cases h
theorem itemM_ok {p q d : PyData} (h : itemM p q = some d) : item p q = some d ∧ ∀ xs, p ≠ .tuple xs := by
  cases p with
  | tuple xs => cases h
  | _ => exact ⟨h, fun _ z => nomatch z⟩
theorem st_asb {i : Nat} {x : Str} {px tpos pos : Pos} {k e : Expr} {ek ee : E} {o : BO} (hu : X.A.units + 1 < cLine) (ho : PE X (.Name x px) (tVar i)) (hk : PE X k (rO X.K P B W (evO C ek))) (he : PE X e (rO X.K P B W (evO C ee)))
    (ha : ∀ ov iv new, augStore k ov iv new = (do holding [new, ov, iv] (setItem ov iv new); release [new, ov, iv] []; pure .next) := by intros; rfl) :
    PS X (.AugAssign (.Subscript (.Name x px) k tpos) (opOf o) e pos) (rS X.K P B W (exS C (.asb o i ek ee))) := by
  refine PS.imp (ps_augS ho hk (get_any hu) he (ip_any o) (set_any hu) ha) fun D σ H ⟨env, ts, S, hn, h⟩ => ?_
  have h : endS X.K P B W D ts (RS.of (M.bind (evO C (.var i)) (fun x => M.bind (evO C ek) fun y => M.bind (tk y) fun q => M.bind (rdD x) fun p => M.bind (.opt (itemM p q)) fun old => M.bind (evO C ee) fun z => M.bind (rdD z) fun r => M.bind (.opt (augI o old r)) fun n => .pure (q, n)) env) fun qn e1 => match e1.at i with
    | some m => match setIt m qn.1 (.int qn.2) with
      | some m' => .nx (e1.set i (some m'))
      | none => .no
    | none => .no) := h
  have h := endS_of h
  rw [wpM_bind] at h
  obtain ⟨m0, e0, h⟩ := wp_var h
  obtain ⟨ov, hov, _⟩ := S.name e0
  have S0 := S.pushR hov
  refine ⟨ov, hov, rO_fst S0 h _ fun oy e1 y H1 S1 h => ?_⟩
  rw [wpM_bind] at h
  have S1 : Sim X.K P B e1 ((ts ++ [(ov, .r i)]) ++ (y, oy) :: []) σ H1 := S1
  obtain ⟨q, e2, S2, h⟩ := wp_tk S1 h
  rw [wpM_bind] at h
  obtain ⟨p, lx, h⟩ := wp_rdD (o := .r i) S2 (x := ov) (by simp) h
  rw [wpM_bind] at h
  obtain ⟨old, eold, h⟩ := wpM_opt h
  obtain ⟨e3, nt⟩ := itemM_ok eold
  have ry : Fz X.K (Zf B (cell e2 σ (ts ++ [(ov, .r i)] ++ [(y, .v (.d q))]))) H1 y q := S2.held (v := y) (m := .d q) (by simp)
  refine item_get lx (Fz.lk ry) e3 nt fun v rv => ?_
  have S3 := S2.pushD rv
  refine rO_fst S3 h _ fun oz e4 z H4 S4 h => ?_
  rw [wpM_bind] at h
  obtain ⟨r, lz, h⟩ := wp_rdD (o := oz) S4 (x := z) (by simp) h
  rw [wpM_bind] at h
  obtain ⟨n, en, hh⟩ := wpM_opt h
  have rvv : Fz X.K (Zf B (cell e4 σ (ts ++ [(ov, .r i)] ++ [(y, .v (.d q))] ++ [(v, .v (.d old))] ++ [(z, oz)]))) H4 v old := S4.held (v := v) (m := .d old) (by simp)
  have ryy : Fz X.K (Zf B (cell e4 σ (ts ++ [(ov, .r i)] ++ [(y, .v (.d q))] ++ [(v, .v (.d old))] ++ [(z, oz)]))) H4 y q := S4.held (v := y) (m := .d q) (by simp)
  obtain ⟨a, b, ea, eb, hn2⟩ := augI_ok en
  subst ea eb
  cases lz.int
  cases rvv
  refine ip_read hn2 ?_
  have hh : endS X.K P B W D ts (match e4.at i with
    | some m => match setIt m q (.int n) with
      | some m' => .nx (e4.set i (some m'))
      | none => .no
    | none => .no) := hh
  cases ei : e4.at i with
  | none => rw [ei] at hh; exact hh.elim
  | some m =>
    rw [ei] at hh
    cases em : setIt m q (.int n) with
    | none => simp only [em] at hh; exact hh.elim
    | some m' =>
      simp only [em] at hh
      have S5 : Sim X.K P B e4 ts σ H4 := S4.drop.drop.drop.drop
      have ry2 : Fz X.K (Zf B (cell e4 σ ts)) H4 y q := Fz.drop' (Fz.drop' (Fz.drop' (Fz.drop' ryy)))
      exact set_at_read S5 ei hov ry2 (.int n) em fun H' S' => hh σ H' S'
end
end PD
end
section
set_option linter.all false
set_option maxRecDepth 100000
namespace PD
open PySem L2

section
variable {K : PySem.W.Frag} {P : Pl} {B : Base} {σ : St} {H : Hp}
/-- what a call hands back -/
theorem Sim.res {env : Env} {v : V} {m : MV} {r : Addr} {io : Option MV} (S : Sim K P B env [(v, .v m)] σ H) (h : ∀ m', io = some m' → ∃ j, env.at j = some m' ∧ (j, r) ∈ B.io) : CS K P B (resCell v m r io) H := by
  cases io with
  | none =>
    refine S.cs.remap (fun _ => env.length) (fun p c e => ?_) (fun p q c c' e e' _ => ?_)
    · unfold resCell at e
      split at e
      · cases e; exact cell_held (ts := [(v, .v m)]) (j := 0) rfl
      · split at e <;> cases e
    · unfold resCell at e e'
      split at e
      · split at e'
        · omega
        · split at e' <;> cases e'
      · split at e <;> cases e
  | some m' =>
    obtain ⟨j, ej, hj⟩ := h m' rfl
    have sj := S.ios j r hj
    have hl : j < env.length := (List.getElem?_eq_some_iff.mp (at_some ej)).1
    refine S.cs.remap (fun p => if p = 0 then env.length else j) (fun p c e => ?_) (fun p q c c' e e' h => ?_)
    · unfold resCell at e
      by_cases h0 : p = 0
      · rw [if_pos h0] at e ⊢
        cases e; exact cell_held (ts := [(v, .v m)]) (j := 0) rfl
      · rw [if_neg h0] at e ⊢
        by_cases h1 : p = 1
        · rw [if_pos h1] at e
          cases e
          exact cell_name (at_some ej) sj
        · rw [if_neg h1] at e; cases e
    · unfold resCell at e e'
      by_cases h0 : p = 0 <;> by_cases h0' : q = 0
      · omega
      · rw [if_pos h0, if_neg h0'] at h; omega
      · rw [if_neg h0, if_pos h0'] at h; omega
      · rw [if_neg h0] at e
        rw [if_neg h0'] at e'
        by_cases h1 : p = 1 <;> by_cases h1' : q = 1
        · omega
        · rw [if_neg h1'] at e'; cases e'
        · rw [if_neg h1] at e; cases e
        · rw [if_neg h1] at e; cases e
theorem map_get {α : Type} {l : List α} {k i : Nat} {a : α} (e : (l.map some ++ List.replicate k none)[i]? = some (some a)) : l[i]? = some a := by
  by_cases h : i < l.length
  · rw [List.getElem?_append_left (by rw [List.length_map]; exact h), List.getElem?_map] at e
    cases q : l[i]? with
    | none => rw [q] at e; cases e
    | some b => rw [q] at e; exact congrArg some (Option.some.inj (Option.some.inj e))
  · rw [List.getElem?_append_right (by rw [List.length_map]; omega)] at e
    rw [List.getElem?_replicate] at e
    split at e <;> cases e
theorem get_map {α : Type} {l : List α} {k i : Nat} {a : α} (e : l[i]? = some a) : (l.map some ++ List.replicate k none)[i]? = some (some a) := by
  have h : i < l.length := (List.getElem?_eq_some_iff.mp e).1
  rw [List.getElem?_append_left (by rw [List.length_map]; exact h), List.getElem?_map, e]
  rfl
/-- at the entry -/
theorem Sim.start {N : List Str} {vs : List V} {ms : List MV} {n : Nat} (cs : CS K P B (argCell vs ms) H) (hl : vs.length = ms.length) (hn : N.length - vs.length = n) (hio : ∀ j a, (j, a) ∈ B.io → vs[j]? = some (.ref a)) : Sim K P B (ms.map some ++ List.replicate n Option.none) [] (L2.start N vs) H := by
  unfold L2.start
  rw [hn]
  refine ⟨by simp [hl], fun i m e => ?_, fun _ _ h => (by cases h), cs.weak fun p c e => ?_, fun j a h => get_map (hio j a h)⟩
  · have h := map_get e
    have hi : i < vs.length := by rw [hl]; exact (List.getElem?_eq_some_iff.mp h).1
    exact ⟨vs[i], get_map (List.getElem?_eq_getElem hi)⟩
  · by_cases hp : p < (ms.map some ++ List.replicate n Option.none).length
    · have e1 := cell_name_inv hp e
      have h1 := map_get e1.1
      have h2 := map_get e1.2
      unfold argCell
      rw [h1, h2]
    · have := cell_held_inv (by omega) e
      simp at this
end
/-- the in-out argument behind an end -/
def ioOf (io : Option Nat) (e : Env) : Option (Option MV) := match io with
  | none => some none
  | some j => match e.at j with
    | some m' => if m'.free = true then some (some m') else none
    | none => none
theorem ioOf_at {io : Option Nat} {e : Env} {o : Option MV} {B : Base} {r : Addr} (h : ioOf io e = some o) (hB : ∀ j, io = some j → (j, r) ∈ B.io) : ∀ m', o = some m' → ∃ j, e.at j = some m' ∧ (j, r) ∈ B.io := by
  intro m' em
  subst em
  cases io with
  | none => cases h
  | some j =>
    have h : (match e.at j with
      | some m' => if m'.free = true then some (some m') else none
      | none => none) = some (some m') := h
    cases ej : e.at j with
    | none => rw [ej] at h; cases h
    | some m2 =>
      rw [ej] at h
      dsimp only at h
      split at h
      · cases h; exact ⟨j, ej, hB j rfl⟩
      · cases h
theorem run_eq {C : Nat → Callee} {F : FDef} {ms : List MV} (h : runDef C F ms ≠ .no) : ms.length = F.np ∧ ((∃ e io, exL C F.body (ms.map some ++ List.replicate (F.ns - F.np) none) = .nx e ∧ ioOf F.io e = some io ∧ runDef C F ms = .ok (.d .none) io) ∨
    (∃ m e io, exL C F.body (ms.map some ++ List.replicate (F.ns - F.np) none) = .ret m e ∧ ioOf F.io e = some io ∧ runDef C F ms = .ok m io) ∨
    (∃ c as e io, exL C F.body (ms.map some ++ List.replicate (F.ns - F.np) none) = .exc c as e ∧ ioOf F.io e = some io ∧ runDef C F ms = .exc c as io)) := by
  have hl : ms.length = F.np := by
    by_cases hl : ms.length = F.np
    · exact hl
    · exact absurd (by unfold runDef; rw [if_neg hl]) h
  refine ⟨hl, ?_⟩
  have he : runDef C F ms = (match exL C F.body (ms.map some ++ List.replicate (F.ns - F.np) none) with
    | .nx e => match ioOf F.io e with
      | some io => .ok (.d .none) io
      | none => .no
    | .ret m e => match ioOf F.io e with
      | some io => .ok m io
      | none => .no
    | .exc c as e => match ioOf F.io e with
      | some io => .exc c as io
      | none => .no
    | _ => .no) := by
    unfold runDef
    rw [if_pos hl]
    dsimp only
    cases exL C F.body (ms.map some ++ List.replicate (F.ns - F.np) none) with
    | nx e =>
      dsimp only
      unfold ioOf
      cases F.io with
      | none => rfl
      | some j =>
        dsimp only
        cases e.at j with
        | none => rfl
        | some m' => dsimp only; split <;> rfl
    | ret m e =>
      dsimp only
      unfold ioOf
      cases F.io with
      | none => rfl
      | some j =>
        dsimp only
        cases e.at j with
        | none => rfl
        | some m' => dsimp only; split <;> rfl
    | exc c as e =>
      dsimp only
      unfold ioOf
      cases F.io with
      | none => rfl
      | some j =>
        dsimp only
        cases e.at j with
        | none => rfl
        | some m' => dsimp only; split <;> rfl
    | br e => rfl
    | ct e => rfl
    | no => rfl
  rw [he] at h ⊢
  cases e1 : exL C F.body (ms.map some ++ List.replicate (F.ns - F.np) none) with
  | nx e =>
    rw [e1] at h
    dsimp only at h ⊢
    cases e2 : ioOf F.io e with
    | none => rw [e2] at h; exact absurd rfl h
    | some io => exact .inl ⟨e, io, rfl, e2, rfl⟩
  | ret m e =>
    rw [e1] at h
    dsimp only at h ⊢
    cases e2 : ioOf F.io e with
    | none => rw [e2] at h; exact absurd rfl h
    | some io => exact .inr (.inl ⟨m, e, io, rfl, e2, rfl⟩)
  | exc c as e =>
    rw [e1] at h
    dsimp only at h ⊢
    cases e2 : ioOf F.io e with
    | none => rw [e2] at h; exact absurd rfl h
    | some io => exact .inr (.inr ⟨c, as, e, io, rfl, e2, rfl⟩)
  | br e => rw [e1] at h; exact absurd rfl h
  | ct e => rw [e1] at h; exact absurd rfl h
  | no => rw [e1] at h; exact absurd rfl h
/-- what is known in a def's body -/
structure Bd (X : Cx) (P : Pl) (B : Base) (W : Wi) (io : Option Nat) (k : Nat) : Prop where
  calm : X.calm = true
  nd : X.N.Nodup
  u : X.A.units + 65 < cLine
  tk : Takes X (wX X.K P B W)
  po : PassesOwn (model X.prog X.w) X.A X.env X.xe
  rm : Room k X.A
  io : ∀ q ∈ B.io, io = some q.1
/-- THE RULE for a def -/
theorem def_ok {Pg : Program} {w : World} {K : PySem.W.Frag} {mg : Str → Option Value} {base : Heap} {P : Pl} {C : Nat → Callee} {F : FDef} {x qual : Str} {params : Arguments} {body : List Stmt} {scope : Scope} {f : Addr} {fd : FuncData} {N ps : List Str} {k : Nat}
    (Fd : FunD K x qual params body scope [] [] f fd) (S : FnScope N ps scope) (hnp : F.np = ps.length) (hns : F.ns = N.length)
    (hb : ∀ (cdv : Value) (A : Around) (outer : List PySem.Env) (s : Shared) (H : Hp) (E : XK) (B : Base) (W : Wi), Bd (cxOf (L2.CX Pg w) Pg w K mg base N qual scope f cdv A outer s H E) P B W F.io k →
      PSs (cxOf (L2.CX Pg w) Pg w K mg base N qual scope f cdv A outer s H E) body (rS K P B W (exL C F.body))) : FnOk Pg w K mg base (L2.CX Pg w) (k + 1) f fd ps (spOf K P ⟨F.io, runDef C F⟩) := by
  refine Fd.ok S (fun vs H Q E h => ?_) (fun cdv A outer s H vs Q E hr h => ?_)
  · obtain ⟨ms, B, r, hl, _, _, _, h⟩ := h
    have : runDef C F ms ≠ .no := fun e => by
      have h : (match runDef C F ms with
        | .ok m io => _
        | .exc k as io => _
        | .no => False) := h
      rw [e] at h
      exact h
    rw [hl, (run_eq this).1, hnp]
  · obtain ⟨ms, B, r, hl, hH, cs, hio, h⟩ := h
    have hne : runDef C F ms ≠ .no := fun e => by
      have h : (match runDef C F ms with
        | .ok m io => _
        | .exc k as io => _
        | .no => False) := h
      rw [e] at h
      exact h
    have hB : ∀ j, F.io = some j → (j, r) ∈ B.io := fun j e => by
      dsimp only at hio
      rw [e] at hio
      obtain ⟨m, h1, _⟩ := hio
      rw [h1]; exact List.mem_singleton.mpr rfl
    have hB2 : ∀ q ∈ B.io, F.io = some q.1 := fun q hq => by
      dsimp only at hio
      cases e : F.io with
      | none => rw [e] at hio; rw [hio.1] at hq; cases hq
      | some j =>
        rw [e] at hio
        obtain ⟨m, h1, _⟩ := hio
        rw [h1] at hq
        have := List.mem_singleton.mp hq
        rw [this]
    have hv : ∀ j a, (j, a) ∈ B.io → vs[j]? = some (.ref a) := fun j a hq => by
      dsimp only at hio
      cases e : F.io with
      | none => rw [e] at hio; rw [hio.1] at hq; cases hq
      | some j' =>
        rw [e] at hio
        obtain ⟨m, h1, h2, _⟩ := hio
        rw [h1] at hq
        have := List.mem_singleton.mp hq
        cases this
        exact h2
    obtain ⟨hlen, hcase⟩ := run_eq hne
    refine ⟨_, hb cdv A outer s H E B (fun c as e => ∃ io, ioOf F.io e = some io ∧ ∀ cls d H', CS K P B (resCell .non (.d .none) r io) H' → ExR K P (Zf B (resCell .non (.d .none) r io)) H' c as cls d → E cls d H') ?_, ?_⟩
    · refine ⟨rfl, S.nd, by have := hr.un; show (A.deeper _).units + 65 < cLine; omega, ?_, passes_of rfl, hr, hB2⟩
      refine Takes.imp (takes_of (E := E) rfl rfl rfl rfl) fun cls d σ H' hw => ?_
      obtain ⟨c, as, e, ⟨io, h1, h2⟩, S', x⟩ := hw
      refine h2 cls d H' (Sim.res (S'.atom (v := .non) (p := .none) fun _ => .non) (ioOf_at h1 hB)) ?_
      exact x
    · refine ⟨_, [], Sim.start cs hl (n := F.ns - F.np) (by rw [hns, hl, hlen]) hv, NoRef.nil, ?_⟩
      rcases hcase with ⟨e, io, h1, h2, h3⟩ | ⟨m, e, io, h1, h2, h3⟩ | ⟨c, as, e, io, h1, h2, h3⟩
      · dsimp only at h
        rw [h3] at h
        rw [h1]
        exact fun σ H' S' => h _ _ (Sim.res (S'.atom (v := .non) (p := .none) fun _ => .non) (ioOf_at h2 hB))
      · dsimp only at h
        rw [h3] at h
        rw [h1]
        exact fun v σ H' S' => h _ _ (Sim.res S' (ioOf_at h2 hB))
      · dsimp only at h
        rw [h3] at h
        rw [h1]
        exact ⟨io, h2, h⟩
end PD
end
section
set_option linter.all false
set_option maxRecDepth 100000
namespace PD
open PySem L2

/-- what is known where an expression stands -/
structure Ctx (X : Cx) (P : Pl) (B : Base) (W : Wi) (C : Nat → Callee) (io : Option Nat) (n m : Nat) (tb : Str → Option Nat) (bl : Str → Bool) : Prop where
  calm : X.calm = true
  nd : X.N.Nodup
  u : X.A.units + 65 < cLine
  tk : Takes X (wX X.K P B W)
  rm : Room n X.A
  io : ∀ q ∈ B.io, io = some q.1
  gf : ∀ x i, tb x = some i → X.mg x = some (.ref (P.fa i))
  gb : ∀ x, bl x = true → X.mg x = none
  fn : ∀ i, i < m → FOk X P C n i
theorem takes_W0 {X : Cx} {K : PySem.W.Frag} {P : Pl} {B : Base} : Takes X (wX K P B W0) := fun _ _ ⟨_, _, _, _, _, _, _, _, _, _, _, _, _, _, _, _, w⟩ => by
  obtain ⟨_, _, _, h, _⟩ := w
  exact h.elim
theorem FOk.blk {X : Cx} {P : Pl} {C : Nat → Callee} {n i : Nat} {s : Shared} {H : Hp} {scope : Scope} {cenv : PySem.Env} {fp : List Addr} (F : FOk X P C n i) : FOk (X.blk s H scope cenv fp) P C n i := ⟨F.ex, F.kp⟩
theorem Ctx.blk {X : Cx} {P : Pl} {B : Base} {W : Wi} {C : Nat → Callee} {io : Option Nat} {n m : Nat} {tb : Str → Option Nat} {bl : Str → Bool} (c : Ctx X P B W C io n m tb bl) {s : Shared} {H : Hp} {scope : Scope} {cenv : PySem.Env} {fp : List Addr} :
    Ctx (X.blk s H scope cenv fp) P B W0 C io n m tb bl := ⟨c.calm, c.nd, c.u, takes_W0, c.rm, c.io, c.gf, c.gb, fun i h => (c.fn i h).blk⟩
section
variable {X : Cx} {P : Pl} {B : Base} {W : Wi} {C : Nat → Callee} {io : Option Nat} {n m : Nat} {tb : Str → Option Nat} {bl : Str → Bool}
theorem Ctx.ne (c : Ctx X P B W C io n m tb bl) {i : Nat} (h : io ≠ some i) : ∀ q ∈ B.io, q.1 ≠ i := fun q hq e => h (by rw [c.io q hq, e])
theorem Ctx.nin (c : Ctx X P B W C io n m tb bl) {vs : List Nat} (h : ∀ i ∈ vs, io ≠ some i) : ∀ q ∈ B.io, q.1 ∉ vs := fun q hq e => h _ e (c.io q hq)
/-! ### names, constants -/
theorem gv (i : Nat) {x : Str} {pos : Pos} (hN : X.N[i]? = some x := by rfl) (hv : Vis X.env.scope x := by first | exact Or.inl rfl | exact Or.inr (Or.inl rfl) | exact Or.inr (Or.inr rfl)) (hd : (x == ("__debug__" : Str)) = false := by decide)
    (hcd : (x == ("__classdict__" : Str)) = false := by decide) : PE X (.Name x pos) (rO X.K P B W (evO C (.var i))) := s_var (pv i hN hv hd hcd)
theorem gint {i : Int} {j pos} : PE X (.Constant (.int i) j pos) (rO X.K P B W (evO C (.cst (.int i)))) := s_const pe_int fun _ _ => .int i
theorem gstr {z : Str} {j pos} : PE X (.Constant (.str z) j pos) (rO X.K P B W (evO C (.cst (.str z)))) := s_const pe_str fun _ _ => .str z
theorem gbl {b : Bool} {j pos} : PE X (.Constant (.bool b) j pos) (rO X.K P B W (evO C (.cst (.bool b)))) := s_const pe_bl fun _ _ => .bl b
theorem gnon {j pos} : PE X (.Constant .none j pos) (rO X.K P B W (evO C (.cst .none))) := s_const pe_non fun _ _ => .non
/-- a constant of the module -/
theorem gci {x : Str} {pos : Pos} {i : Int} (hm : ∃ t, X.mg x = some (.int i t)) (hg : Gl X x := by rfl) (hd : (x == ("__debug__" : Str)) = false := by decide) : PE X (.Name x pos) (rO X.K P B W (evO C (.cst (.int i)))) := by
  obtain ⟨t, ht⟩ := hm
  exact s_const (pe_glob (v := .int i) hg ht ⟨t, rfl⟩ hd) fun _ _ => .int i
theorem gfn (c : Ctx X P B W C io n m tb bl) {x : Str} {pos : Pos} {i : Nat} (ht : tb x = some i := by decide +kernel) (hg : Gl X x := by rfl) (hd : (x == ("__debug__" : Str)) = false := by decide) : PE X (.Name x pos) (rO X.K P B W (evO C (.fn i))) := by
  refine PE.imp (pe_glob (v := .ref (P.fa i)) hg (c.gf x i ht) rfl hd) fun σ H Q ⟨env, ts, S, h⟩ => ?_
  exact h _ _ (S.pushA (fun _ _ x => x) (fun _ _ z => nomatch z) rfl)
/-! ### operators -/
section
variable {l r q e : Expr} {a b d : E} {pos : Pos}
theorem gcmp (c : Ctx X P B W C io n m tb bl) {o : CO} (ha : PE X l (rO X.K P B W (evO C a))) (hb : PE X r (rO X.K P B W (evO C b))) (hm : behindInMarks (cOf o) r = false := by rfl) : PE X (.Compare l [cOf o] [r] pos) (rO X.K P B W (evO C (.cmp o a b))) := s_cmp c.u hm ha hb
theorem gchn (c : Ctx X P B W C io n m tb bl) {o o' : CO} (ha : PE X l (rO X.K P B W (evO C a))) (hb : PE X r (rO X.K P B W (evO C b))) (hd : PE X q (rO X.K P B W (evO C d))) (hm : lastMarks [cOf o, cOf o'] [r, q] = false := by rfl) : PE X (.Compare l [cOf o, cOf o'] [r, q] pos) (rO X.K P B W (evO C (.chn o o' a b d))) := s_chn c.u hm ha hb hd
theorem gsub (c : Ctx X P B W C io n m tb bl) (ha : PE X l (rO X.K P B W (evO C a))) (hb : PE X r (rO X.K P B W (evO C b))) (hs : PlainIx r := by intro _ _; first | rfl | with_unfolding_all rfl) : PE X (.Subscript l r pos) (rO X.K P B W (evO C (.sub a b))) := s_sub c.u hs ha hb
theorem gte (ha : PE X l (rO X.K P B W (evO C a))) (he : ∀ whole, isTrue l X.env whole = (do let v ← whole; standAt l.pos; holding [v] (truthy v)) := by intro _; rfl) : PT X l (rT X.K P B W (evT C (.e a))) := s_test ha he
theorem gtcmp (c : Ctx X P B W C io n m tb bl) {o : CO} (ha : PE X l (rO X.K P B W (evO C a))) (hb : PE X r (rO X.K P B W (evO C b))) (hm : behindInMarks (cOf o) r = false := by rfl) : PT X (.Compare l [cOf o] [r] pos) (rT X.K P B W (evT C (.e (.cmp o a b)))) := t_cmp c.u hm ha hb
theorem gtchn (c : Ctx X P B W C io n m tb bl) {o o' : CO} (ha : PE X l (rO X.K P B W (evO C a))) (hb : PE X r (rO X.K P B W (evO C b))) (hd : PE X q (rO X.K P B W (evO C d))) (hm : lastMarks [cOf o, cOf o'] [r, q] = false := by rfl) : PT X (.Compare l [cOf o, cOf o'] [r, q] pos) (rT X.K P B W (evT C (.e (.chn o o' a b d)))) := t_chn c.u hm ha hb hd
end
/-! ### argument lists -/
theorem gcons {e : Expr} {es : List Expr} {a : E} {as : EL} (he : PE X e (rO X.K P B W (evO C a))) (hr : PA X es (rL X.K P B W (evL C as))) (hs : starEach (e :: es) X.env = (false, eval e X.env) :: starEach es X.env := by rfl) : PA X (e :: es) (rL X.K P B W (evL C (.cons a as))) := s_cons he hr hs
/-! ### calls -/
theorem gcall (c : Ctx X P B W C io n m tb bl) {x : Str} {p pos : Pos} {e : Expr} {es : List Expr} {as : EL} (f : Nat) (ha : PA X (e :: es) (rL X.K P B W (evL C as))) (ht : tb x = some f := by decide +kernel) (hf : f < m := by decide) (hg : Gl X x := by rfl)
    (hdb : (x == ("__debug__" : Str)) = false := by decide) (he : starEach (e :: es) X.env = (false, eval e X.env) :: starEach es X.env := by rfl) (hpl : (backTo pos (starEach es X.env)).any (·.1) = false := by rfl) :
    PE X (.Call (.Name x p) (e :: es) [] pos) (rO X.K P B W (evO C (.call f as))) := s_call (c.fn f hf) c.rm hg (c.gf x f ht) c.tk ha hdb he hpl
theorem gcall0 (c : Ctx X P B W C io n m tb bl) {x : Str} {p pos : Pos} (f : Nat) (ht : tb x = some f := by decide +kernel) (hf : f < m := by decide) (hg : Gl X x := by rfl) (hdb : (x == ("__debug__" : Str)) = false := by decide) :
    PE X (.Call (.Name x p) [] [] pos) (rO X.K P B W (evO C (.call f .nil))) := s_call0 (c.fn f hf) c.rm hg (c.gf x f ht) c.tk hdb
theorem gcav (c : Ctx X P B W C io n m tb bl) {x : Str} {p pos : Pos} {e : Expr} {es : List Expr} {as : EL} {i : Nat} {fs : List Nat} (ha : PA X (e :: es) (rL X.K P B W (evL C as))) (hf : (fs.all fun f => decide (f < m)) = true := by decide) (hN : X.N[i]? = some x := by rfl)
    (hv : Vis X.env.scope x := by first | exact Or.inl rfl | exact Or.inr (Or.inl rfl) | exact Or.inr (Or.inr rfl)) (hdb : (x == ("__debug__" : Str)) = false := by decide) (hcd : (x == ("__classdict__" : Str)) = false := by decide)
    (he : starEach (e :: es) X.env = (false, eval e X.env) :: starEach es X.env := by rfl) (hpl : (backTo pos (starEach es X.env)).any (·.1) = false := by rfl) : PE X (.Call (.Name x p) (e :: es) [] pos) (rO X.K P B W (evO C (.cav i fs as))) :=
  s_cav (fun f h => c.fn f (of_decide_eq_true (List.all_eq_true.mp hf f h))) c.rm hN hv c.tk ha hdb hcd he hpl
section
variable {e : Expr} {es : List Expr} {as : EL} {p pos : Pos}
theorem glen (c : Ctx X P B W C io n m tb bl) (ha : PA X (e :: es) (rL X.K P B W (evL C as))) (hb : bl "len" = true := by decide +kernel) (hg : Gl X "len" := by rfl) (he : starEach (e :: es) X.env = (false, eval e X.env) :: starEach es X.env := by rfl) (hpl : (backTo pos (starEach es X.env)).any (·.1) = false := by rfl) : PE X (.Call (.Name "len" p) (e :: es) [] pos) (rO X.K P B W (evO C (.bi .len as))) := s_len hg (c.gb _ hb) ha he hpl
theorem gabs (c : Ctx X P B W C io n m tb bl) (ha : PA X (e :: es) (rL X.K P B W (evL C as))) (hb : bl "abs" = true := by decide +kernel) (hg : Gl X "abs" := by rfl) (he : starEach (e :: es) X.env = (false, eval e X.env) :: starEach es X.env := by rfl) (hpl : (backTo pos (starEach es X.env)).any (·.1) = false := by rfl) : PE X (.Call (.Name "abs" p) (e :: es) [] pos) (rO X.K P B W (evO C (.bi .abs as))) := s_abs hg (c.gb _ hb) ha he hpl
theorem gint_ (c : Ctx X P B W C io n m tb bl) (ha : PA X (e :: es) (rL X.K P B W (evL C as))) (hb : bl "int" = true := by decide +kernel) (hg : Gl X "int" := by rfl) (he : starEach (e :: es) X.env = (false, eval e X.env) :: starEach es X.env := by rfl) (hpl : (backTo pos (starEach es X.env)).any (·.1) = false := by rfl) : PE X (.Call (.Name "int" p) (e :: es) [] pos) (rO X.K P B W (evO C (.bi .int as))) := s_int hg (c.gb _ hb) ha he hpl
theorem glist (c : Ctx X P B W C io n m tb bl) (ha : PA X (e :: es) (rL X.K P B W (evL C as))) (hb : bl "list" = true := by decide +kernel) (hg : Gl X "list" := by rfl) (he : starEach (e :: es) X.env = (false, eval e X.env) :: starEach es X.env := by rfl) (hpl : (backTo pos (starEach es X.env)).any (·.1) = false := by rfl) : PE X (.Call (.Name "list" p) (e :: es) [] pos) (rO X.K P B W (evO C (.bi .list as))) := s_list c.calm hg (c.gb _ hb) ha he hpl
theorem gtuple (c : Ctx X P B W C io n m tb bl) (ha : PA X (e :: es) (rL X.K P B W (evL C as))) (hb : bl "tuple" = true := by decide +kernel) (hg : Gl X "tuple" := by rfl) (he : starEach (e :: es) X.env = (false, eval e X.env) :: starEach es X.env := by rfl) (hpl : (backTo pos (starEach es X.env)).any (·.1) = false := by rfl) : PE X (.Call (.Name "tuple" p) (e :: es) [] pos) (rO X.K P B W (evO C (.bi .tuple as))) := s_tuple hg (c.gb _ hb) ha he hpl
theorem gsum (c : Ctx X P B W C io n m tb bl) (ha : PA X (e :: es) (rL X.K P B W (evL C as))) (hb : bl "sum" = true := by decide +kernel) (hg : Gl X "sum" := by rfl) (he : starEach (e :: es) X.env = (false, eval e X.env) :: starEach es X.env := by rfl) (hpl : (backTo pos (starEach es X.env)).any (·.1) = false := by rfl) : PE X (.Call (.Name "sum" p) (e :: es) [] pos) (rO X.K P B W (evO C (.bi .sum as))) := s_sum c.calm hg (c.gb _ hb) ha he hpl
theorem gall (c : Ctx X P B W C io n m tb bl) (ha : PA X (e :: es) (rL X.K P B W (evL C as))) (hb : bl "all" = true := by decide +kernel) (hg : Gl X "all" := by rfl) (he : starEach (e :: es) X.env = (false, eval e X.env) :: starEach es X.env := by rfl) (hpl : (backTo pos (starEach es X.env)).any (·.1) = false := by rfl) : PE X (.Call (.Name "all" p) (e :: es) [] pos) (rO X.K P B W (evO C (.bi .all as))) := s_all c.calm hg (c.gb _ hb) ha he hpl
theorem gany (c : Ctx X P B W C io n m tb bl) (ha : PA X (e :: es) (rL X.K P B W (evL C as))) (hb : bl "any" = true := by decide +kernel) (hg : Gl X "any" := by rfl) (he : starEach (e :: es) X.env = (false, eval e X.env) :: starEach es X.env := by rfl) (hpl : (backTo pos (starEach es X.env)).any (·.1) = false := by rfl) : PE X (.Call (.Name "any" p) (e :: es) [] pos) (rO X.K P B W (evO C (.bi .any as))) := s_any c.calm hg (c.gb _ hb) ha he hpl
theorem gmax (c : Ctx X P B W C io n m tb bl) (ha : PA X (e :: es) (rL X.K P B W (evL C as))) (hb : bl "max" = true := by decide +kernel) (hg : Gl X "max" := by rfl) (he : starEach (e :: es) X.env = (false, eval e X.env) :: starEach es X.env := by rfl) (hpl : (backTo pos (starEach es X.env)).any (·.1) = false := by rfl) : PE X (.Call (.Name "max" p) (e :: es) [] pos) (rO X.K P B W (evO C (.bi .max as))) := s_max c.calm (by have := c.u; omega) hg (c.gb _ hb) ha he hpl
theorem gmin (c : Ctx X P B W C io n m tb bl) (ha : PA X (e :: es) (rL X.K P B W (evL C as))) (hb : bl "min" = true := by decide +kernel) (hg : Gl X "min" := by rfl) (he : starEach (e :: es) X.env = (false, eval e X.env) :: starEach es X.env := by rfl) (hpl : (backTo pos (starEach es X.env)).any (·.1) = false := by rfl) : PE X (.Call (.Name "min" p) (e :: es) [] pos) (rO X.K P B W (evO C (.bi .min as))) := s_min c.calm (by have := c.u; omega) hg (c.gb _ hb) ha he hpl
theorem gsorted (c : Ctx X P B W C io n m tb bl) (ha : PA X (e :: es) (rL X.K P B W (evL C as))) (hb : bl "sorted" = true := by decide +kernel) (hg : Gl X "sorted" := by rfl) (he : starEach (e :: es) X.env = (false, eval e X.env) :: starEach es X.env := by rfl) (hpl : (backTo pos (starEach es X.env)).any (·.1) = false := by rfl) : PE X (.Call (.Name "sorted" p) (e :: es) [] pos) (rO X.K P B W (evO C (.bi .sorted as))) := s_sorted c.calm (by have := c.u; omega) hg (c.gb _ hb) ha he hpl
end
/-! ### sources -/
section
variable {e e' tg : Expr} {a b : E} {p pos tpos : Pos} {elts : List Expr} {kk : Nat}
theorem grng1 (c : Ctx X P B W C io n m tb bl) (ha : PA X [e] (rL X.K P B W (evL C (.cons a .nil)))) (hb : bl "range" = true := by decide +kernel) (hg : Gl X "range" := by rfl) (hs : starEach [e] X.env = [(false, eval e X.env)] := by rfl) : PI X tg (.Call (.Name "range" p) [e] [] pos) (rW X.K P B W (evS C (.rng (.cons a .nil)))) := s_rng1 hg (c.gb _ hb) ha hs
theorem grng2 (c : Ctx X P B W C io n m tb bl) (ha : PA X [e, e'] (rL X.K P B W (evL C (.cons a (.cons b .nil))))) (hb : bl "range" = true := by decide +kernel) (hg : Gl X "range" := by rfl) (hs : starEach [e, e'] X.env = [(false, eval e X.env), (false, eval e' X.env)] := by rfl) (hs2 : starEach [e'] X.env = [(false, eval e' X.env)] := by rfl) :
    PI X tg (.Call (.Name "range" p) [e, e'] [] pos) (rW X.K P B W (evS C (.rng (.cons a (.cons b .nil))))) := s_rng2 hg (c.gb _ hb) ha hs hs2
theorem gzip (c : Ctx X P B W C io n m tb bl) (ha : PA X [e, e'] (rL X.K P B W (evL C (.cons a (.cons b .nil))))) (hb : bl "zip" = true := by decide +kernel) (hg : Gl X "zip" := by rfl) (hs : starEach [e, e'] X.env = (false, eval e X.env) :: starEach [e'] X.env := by rfl) (hpl : (backTo pos (starEach [e'] X.env)).any (·.1) = false := by rfl) :
    PI X (.Tuple elts kk tpos) (.Call (.Name "zip" p) [e, e'] [] pos) (rW X.K P B W (evS C (.zip (.cons a (.cons b .nil))))) := s_zip hg (c.gb _ hb) ha hs hpl
theorem genum (c : Ctx X P B W C io n m tb bl) (ha : PE X e (rO X.K P B W (evO C a))) (hb : bl "enumerate" = true := by decide +kernel) (hg : Gl X "enumerate" := by rfl) (hs : starEach [e] X.env = [(false, eval e X.env)] := by rfl) :
    PI X (.Tuple elts kk tpos) (.Call (.Name "enumerate" p) [e] [] pos) (rW X.K P B W (evS C (.enm a))) := s_enum hg (c.gb _ hb) ha hs
end
/-! ### targets -/
theorem gt (c : Ctx X P B W C io n m tb bl) (i : Nat) {x : Str} {pos : Pos} (hi : X.N[i]? = some x := by rfl) (hx : Loc X.env.scope x := by first | exact Or.inl rfl | exact Or.inr rfl) (hio : io ≠ some i := by decide) (hf : X.fn x = true ∨ X.env.scope.names.lookup x = some .local := by first | exact .inl rfl | exact .inr rfl) :
    PG X (.Name x pos) (rG X.K P B (.n i)) := g_name (pg_name c.nd hi hx hf) (c.ne hio)
theorem gtt (c : Ctx X P B W C io n m tb bl) {es : List Expr} {k : Nat} {u : TgL} {pos : Pos} (h : PGs X es (rGs X.K P B u)) (hn : (assignEach es X.env).length = u.len := by rfl) (hst : (assignEach es X.env).findIdx? (·.1) = none := by rfl) : PG X (.Tuple es k pos) (rG X.K P B (.t u)) := g_tup c.calm h hn hst
/-! ### comprehensions -/
theorem gcomp (c : Ctx X P B W C io n m tb bl) {elt tg iter : Expr} {ifs : List Expr} {scope : Scope} (own : List (Str × Nat)) {pos : Pos} {e : E} {t : Tg} {s : Src} {cd : T} (hi : PI X tg iter (rW X.K P B W (evS C s)))
    (hg : ∀ (s : Shared) (H : Hp) (D : Addr) (cl : List (Str × Addr)) (fp : List Addr), PG (X.blk s H scope (compEnvC scope cl D X.env) fp) tg (rG X.K P B t))
    (ht : ∀ (s : Shared) (H : Hp) (D : Addr) (cl : List (Str × Addr)) (fp : List Addr), PTs (X.blk s H scope (compEnvC scope cl D X.env) fp) ifs (rT X.K P B W0 (evT C cd)))
    (he : ∀ (s : Shared) (H : Hp) (D : Addr) (cl : List (Str × Addr)) (fp : List Addr), PE (X.blk s H scope (compEnvC scope cl D X.env) fp) elt (rO X.K P B W0 (evO C e)))
    (ok : blkC X.N X.env.scope scope own = true := by kernel_rfl) (hv : own.map (·.2) = t.vars := by rfl) (nd : t.vars.Nodup := by decide) (hio : ∀ i ∈ t.vars, io ≠ some i := by decide) (hs : ∀ x, foldedSetIterable iter X.env x = pure x := by intro _; rfl) :
    PE X (.ListComp elt [⟨tg, iter, ifs, 0⟩] scope pos) (rO X.K P B W (evO C (.comp e t s cd))) := s_comp c.calm c.nd hi (blkOk_by ok) hv nd (c.nin hio) hg ht he hs
theorem gsetC (c : Ctx X P B W C io n m tb bl) {i : Nat} {y : Str} {py : Pos} {elt tg iter : Expr} {ifs : List Expr} {scope : Scope} (own : List (Str × Nat)) {pos spos : Pos} {e : E} {t : Tg} {s : Src} {cd : T} (hi : PI X tg iter (rW X.K P B W (evS C s)))
    (hg : ∀ (s : Shared) (H : Hp) (D : Addr) (cl : List (Str × Addr)) (fp : List Addr), PG (X.blk s H scope (compEnvC scope cl D X.env) fp) tg (rG X.K P B t))
    (ht : ∀ (s : Shared) (H : Hp) (D : Addr) (cl : List (Str × Addr)) (fp : List Addr), PTs (X.blk s H scope (compEnvC scope cl D X.env) fp) ifs (rT X.K P B W0 (evT C cd)))
    (he : ∀ (s : Shared) (H : Hp) (D : Addr) (cl : List (Str × Addr)) (fp : List Addr), PE (X.blk s H scope (compEnvC scope cl D X.env) fp) elt (rO X.K P B W0 (evO C e)))
    (hy : X.N[i]? = some y := by rfl) (hyl : X.env.scope.names.lookup y = some .local := by rfl) (hi2 : io ≠ some i := by decide) (hsw : swapsWith (.ListComp elt [⟨tg, iter, ifs, 0⟩] scope pos) (some (.Name y py)) spos.line X.env = pure true := by rfl)
    (ok : blkC X.N X.env.scope scope own = true := by kernel_rfl) (hv : own.map (·.2) = t.vars := by rfl) (nd : t.vars.Nodup := by decide) (hio : ∀ i ∈ t.vars, io ≠ some i := by decide) (hs : ∀ x, foldedSetIterable iter X.env x = pure x := by intro _; rfl) :
    PS X (.Assign [.Name y py] (.ListComp elt [⟨tg, iter, ifs, 0⟩] scope pos) spos) (rS X.K P B W (exS C (.set i (.comp e t s cd)))) :=
  st_setC c.calm c.nd hy hyl (c.ne hi2) hsw hi (blkOk_by ok) hv nd (c.nin hio) hg ht he hs
/-! ### statements -/
theorem gset (c : Ctx X P B W C io n m tb bl) {i : Nat} {x : Str} {e : Expr} {a : E} {pos pos' : Pos} (ha : PE X e (rO X.K P B W (evO C a))) (hi : X.N[i]? = some x := by rfl) (hx : Loc X.env.scope x := by first | exact Or.inl rfl | exact Or.inr rfl) (hio : io ≠ some i := by decide) (hs : swapsWith e (some (.Name x pos')) pos.line X.env = pure false := by rfl)
    (hf : X.fn x = true ∨ X.env.scope.names.lookup x = some .local := by first | exact .inl rfl | exact .inr rfl) : PS X (.Assign [.Name x pos'] e pos) (rS X.K P B W (exS C (.set i a))) := st_set c.nd hi hx (c.ne hio) ha hs hf
theorem gpar2 (c : Ctx X P B W C io n m tb bl) {i j : Nat} {x y : Str} {a b : Expr} {ea eb : E} {px py pt pos : Pos} {kt k2 : Nat} {pt2 : Pos} (ha : PA X [a, b] (rL X.K P B W (evL C (.cons ea (.cons eb .nil))))) (hi : X.N[i]? = some x := by rfl) (hj : X.N[j]? = some y := by rfl) (hij : i ≠ j := by decide)
    (hx : X.env.scope.names.lookup x = some .local := by rfl) (hy : X.env.scope.names.lookup y = some .local := by rfl) (hio : io ≠ some i := by decide) (hjo : io ≠ some j := by decide)
    (hw : swappedStores [.Tuple [.Name x px, .Name y py] kt pt] (.Tuple [a, b] k2 pt2) X.env = pure (some [x, y]) := by rfl) (hs : swapsWithSole [.Tuple [.Name x px, .Name y py] kt pt] (.Tuple [a, b] k2 pt2) pos.line X.env = pure false := by rfl) :
    PS X (.Assign [.Tuple [.Name x px, .Name y py] kt pt] (.Tuple [a, b] k2 pt2) pos) (rS X.K P B W (exS C (.par [i, j] (.cons ea (.cons eb .nil))))) := st_par2 c.calm c.nd hi hj hij hx hy (c.ne hio) (c.ne hjo) ha hw hs
theorem gssb (c : Ctx X P B W C io n m tb bl) {i : Nat} {x : Str} {px pos pos' : Pos} {k e : Expr} {ek ee : E} (hk : PE X k (rO X.K P B W (evO C ek))) (he : PE X e (rO X.K P B W (evO C ee))) (hN : X.N[i]? = some x := by rfl) (hv : Vis X.env.scope x := by first | exact Or.inl rfl | exact Or.inr (Or.inl rfl) | exact Or.inr (Or.inr rfl))
    (hd : (x == ("__debug__" : Str)) = false := by decide) (hcd : (x == ("__classdict__" : Str)) = false := by decide)
    (ha : ∀ v, assign (.Subscript (.Name x px) k pos') X.env v = (do
      let ov ← holding [v] (eval (.Name x px) X.env)
      let iv ← holding [v, ov] (eval k X.env)
      standAt pos'
      holding [v, ov, iv] (setItem ov iv v)
      release [v, ov, iv] []) := by intro _; rfl)
    (hs : swapsWithSole [.Subscript (.Name x px) k pos'] e pos.line X.env = pure false := by rfl) (hw : swappedStores [.Subscript (.Name x px) k pos'] e X.env = pure none := by rfl)
    (h1 : (assignEach [.Subscript (.Name x px) k pos'] X.env).map (·.2) = [assign (.Subscript (.Name x px) k pos') X.env] := by rfl) : PS X (.Assign [.Subscript (.Name x px) k pos'] e pos) (rS X.K P B W (exS C (.ssb i ek ee))) :=
  st_ssb (by have := c.u; omega) (pv i hN hv hd hcd) hk he ha hs hw h1
theorem gaug (c : Ctx X P B W C io n m tb bl) {i : Nat} {x : Str} {e : Expr} {ee : E} {o : BO} {pos pos' : Pos} (he : PE X e (rO X.K P B W (evO C ee))) (hi : X.N[i]? = some x := by rfl) (hx : Loc X.env.scope x := by first | exact Or.inl rfl | exact Or.inr rfl) (hio : io ≠ some i := by decide)
    (hf : X.fn x = true ∨ X.env.scope.names.lookup x = some .local := by first | exact .inl rfl | exact .inr rfl) : PS X (.AugAssign (.Name x pos') (opOf o) e pos) (rS X.K P B W (exS C (.aug o i ee))) := st_aug c.nd hi hx (c.ne hio) he hf
theorem gasb (c : Ctx X P B W C io n m tb bl) {i : Nat} {x : Str} {px tpos pos : Pos} {k e : Expr} {ek ee : E} {o : BO} (hk : PE X k (rO X.K P B W (evO C ek))) (he : PE X e (rO X.K P B W (evO C ee))) (hN : X.N[i]? = some x := by rfl) (hv : Vis X.env.scope x := by first | exact Or.inl rfl | exact Or.inr (Or.inl rfl) | exact Or.inr (Or.inr rfl))
    (hd : (x == ("__debug__" : Str)) = false := by decide) (hcd : (x == ("__classdict__" : Str)) = false := by decide) (ha : ∀ ov iv new, augStore k ov iv new = (do holding [new, ov, iv] (setItem ov iv new); release [new, ov, iv] []; pure .next) := by intros; rfl) :
    PS X (.AugAssign (.Subscript (.Name x px) k tpos) (opOf o) e pos) (rS X.K P B W (exS C (.asb o i ek ee))) := st_asb (by have := c.u; omega) (pv i hN hv hd hcd) hk he ha
theorem gfor (c : Ctx X P B W C io n m tb bl) (po : PassesOwn (model X.prog X.w) X.A X.env X.xe) {tg iter : Expr} {body : List Stmt} {t : Tg} {s : Src} {b : SL} {pos : Pos} (hi : PI X tg iter (rW X.K P B W (evS C s))) (hg : PG X tg (rG X.K P B t)) (hb : PSs X body (rS X.K P B W (exL C b)))
    (hs : ∀ x, foldedSetIterable iter X.env x = pure x := by intro _; rfl) : PS X (.For tg iter body [] pos) (rS X.K P B W (exS C (.for t s b))) := st_for po c.calm hi hg hb hs
end
end PD
end
section
set_option linter.all false
set_option maxRecDepth 100000
namespace PD
open PySem L2
def TK.nm : TK → String
  | .non => "NoneType"
  | .bool => "bool"
  | .int => "int"
  | .str => "str"
  | .list => "list"
  | .tuple => "tuple"
  | .dict => "dict"
def TY.nm : TY → String
  | .int => "int"
  | .bool => "bool"
  | .str => "str"
  | .tuple => "tuple"
  | .list => "list"
  | .dict => "dict"
theorem kit_all {K : PySem.W.Frag} : ∀ (k : TK) (t : TY), PySem.W.kitOne K (.type k.nm) (.type t.nm) = some (isTy t k) := by
  intro k t
  cases k <;> cases t <;> exact kit_ty (by decide +kernel)
/-- a value's type: a locked dict of tuple keys as well -/
inductive TyY (K : PySem.W.Frag) (H : Hp) : V → Value → Prop where
  | x {x : V} {t : Value} (h : TyX K H x t) : TyY K H x t
  | fT {a : Addr} {o : Obj} {kvs : List (List Key × V)} (e : H a = some (.frz o (.dT kvs))) : TyY K H (.ref a) (.type "dict")
theorem TyY.dct {K : PySem.W.Frag} {H : Hp} {a : Addr} {o : HO} (d : Dx o) (h : Rd H a o) : TyY K H (.ref a) (.type "dict") := by
  rcases d with ⟨_, rfl⟩ | ⟨_, rfl⟩
  · rcases h with h | ⟨od, h⟩
    · exact .x (.base (.dK h))
    · exact .x (.fDict h)
  · rcases h with h | ⟨od, h⟩
    · exact .x (.base (.dT h))
    · exact .fT h
theorem kit_ofY {X : Cx} {pins : List (Addr × Obj)} {σ : St} {H : Hp} {s : Shared} {x : V} {u t : Value} (I : Inv X pins σ H s) (rx : RelV x u) (ty : TyY X.K H x t) : ∃ P : Heap → Prop, PySem.W.KitX X.K u t P ∧ P s.heap ∧ u ≠ .builtin "__main__.__loader__#opaque" := by
  cases ty with
  | x h => exact kit_of I rx h
  | @fT a ob kvs ea =>
    cases (show u = Value.ref a from rx)
    obtain ⟨_, _, _, xs, _, o, es, ep, h1, h2, _⟩ := (show ObjOk X.prog X.w H s.heap a (.frz ob (.dT kvs)) from I.hok a _ ea)
    exact ⟨_, PySem.W.kitx_dict, ⟨o, h1, h2.1⟩, fun z => nomatch z⟩
def rIsiY (K : PySem.W.Frag) : List V → Hp → VK → Prop := fun xs H Q => ∃ (x c : V) (t u : Value) (b : Bool), xs = [x, c] ∧ ClsV c u ∧ TyY K H x t ∧ PySem.W.kitOne K t u = some b ∧ Q (.bl b) H
def rIsiTY (K : PySem.W.Frag) : List V → Hp → VK → Prop := fun xs H Q => ∃ (x : V) (tp : Addr) (cs : List V) (t : Value) (us : List Value) (b : Bool), xs = [x, .ref tp] ∧ H tp = some (.tup cs) ∧ Paired ClsV cs us ∧ TyY K H x t ∧ PySem.W.kitAny K t us = some b ∧ Q (.bl b) H
theorem call_isiY {X : Cx} : CallR X (.builtin "isinstance") (rIsiY X.K) := by
  intro pins s σ H xs us Q I r h
  obtain ⟨x, c, t, u, b, rfl, k, ty, e, q⟩ := h
  obtain ⟨u1, u2, rfl, r1, r2⟩ := vals2 r
  have e2 := k.eq r2
  subst e2
  obtain ⟨P, Z, p, hx⟩ := kit_ofY I r1 ty
  exact PySem.W.kia_one Z I.kIn p e hx fun tk => ⟨.bl b, H, I.tok tk, rfl, q⟩
theorem call_isiTY {X : Cx} : CallR X (.builtin "isinstance") (rIsiTY X.K) := by
  intro pins s σ H xs us Q I r h
  obtain ⟨x, tp, cs, t, ws, b, rfl, hT, k, ty, e, q⟩ := h
  obtain ⟨u1, u2, rfl, r1, r2⟩ := vals2 r
  cases (show u2 = Value.ref tp from r2)
  obtain ⟨P, Z, p, hx⟩ := kit_ofY I r1 ty
  obtain ⟨_, its, rv, o, h1, h2, n, h3⟩ := (show ObjOk X.prog X.w H s.heap tp (.tup cs) from I.hok tp _ hT)
  have e3 := ClsV.all k rv
  subst e3
  obtain ⟨oc, od, dt, sl⟩ := o
  simp only at h2 h3
  subst h2 h3
  exact PySem.W.kia_tup Z I.kIn p h1 e hx fun tk => ⟨.bl b, H, I.tok tk, rfl, q⟩
section
variable {X : Cx} {P : Pl} {B : Base} {W : Wi} {C : Nat → Callee} {σ : St} {H : Hp}
theorem Fz.tyx {K : PySem.W.Frag} {Z : Addr → Prop} {v : V} {p : PyData} (r : Fz K Z H v p) : TyY K H v (.type (tkD p).nm) := by
  cases r with
  | non => exact .x (.base .non)
  | bl b => exact .x (.base (.bl b))
  | int i => exact .x (.base (.int i))
  | str x => exact .x (.base (.str x))
  | lst h _ _ => exact .x (.base (.lst h))
  | tup h _ => exact .x (.base (.tup h))
  | dK h _ _ _ => exact .dct (.inl ⟨_, rfl⟩) h
  | dT h _ _ _ => exact .dct (.inr ⟨_, rfl⟩) h
theorem Rp.tyx {K : PySem.W.Frag} {Z : Addr → Prop} {v : V} {m : MV} {k : TK} (r : Rp K P Z H v m) (h : m.tk = some k) : TyY K H v (.type k.nm) := by
  cases m with
  | d p => cases h; exact Fz.tyx r
  | ml xs => cases h; obtain ⟨a, vs, rfl, ha, _⟩ := r; exact .x (.base (.lst ha))
  | md xs =>
    cases h
    obtain ⟨a, o, rfl, ha, hd⟩ := r
    rcases hd with ⟨_, _, _, rfl, _⟩ | ⟨_, _, _, rfl, _⟩
    · exact .x (.base (.dK ha))
    · exact .x (.base (.dT ha))
  | sc xs =>
    cases h
    obtain ⟨a, ns, rfl, ha, _⟩ := r
    rcases ha with ⟨o, ha⟩ | ⟨o, its, n, hk, hc, _⟩
    · exact .x (.base (.frz ha))
    · exact .x (.kList hk hc)
  | _ => cases h
theorem TyY.grow {K : PySem.W.Frag} {H' : Hp} {v : V} {k : TK} {Z : Addr → Prop} {m : MV} (r : Rp K P Z H v m) (h : m.tk = some k) (g : ∀ a o, H a = some o → H' a = some o) : TyY K H' v (.type k.nm) :=
  Rp.tyx (Z := Z) (P := P) (r.go (fun a o x z => ⟨g a o x, z⟩) (fun a vs x => g a _ x) (fun a o u x => g a _ x) fun a o _ _ x => g a o x) h
theorem isi_read {a : E} {ts' : List TY} {Q : VK} {R : VK} (h : rO X.K P B W (evO C (.isi a ts')) σ H Q)
    (hR : ∀ (v : V) (H' : Hp) (k : TK) (m : MV) (Z : Addr → Prop), Rp X.K P Z H' v m → m.tk = some k → (∀ H2, (∀ a o, H' a = some o → H2 a = some o) → Q (.bl (ts'.any fun t => isTy t k)) H2) → R v H') : rO X.K P B W (evO C a) σ H R := by
  obtain ⟨env, ts, S, h⟩ := h
  have h : wpM W (M.bind (evO C a) fun x => M.bind (rd x) fun m => .ofO (m.tk.map fun k => .d (.bool (ts'.any fun t => isTy t k)))) env _ := h
  refine rO_first S h _ fun o e v H' S1 h => ?_
  rw [wpM_bind] at h
  obtain ⟨m, r, h⟩ := wp_rd S1 (x := v) (o := o) (by simp) h
  obtain ⟨m', e1, h⟩ := wpM_ofO h
  cases ek : m.tk with
  | none => rw [ek] at e1; cases e1
  | some k =>
    rw [ek] at e1
    cases e1
    exact hR v H' k m _ r ek fun H2 g => h _ _ ((S1.drop.grow g).bl _)
theorem s_isi1 {x : Str} {p p2 pos : Pos} {e : Expr} {a : E} {t : TY} (hg : Gl X "isinstance") (hm : X.mg "isinstance" = none) (hg2 : Gl X x) (hm2 : X.mg x = none) (hv : bootBuiltins x = some (.type t.nm)) (ha : PE X e (rO X.K P B W (evO C a)))
    (hn : x ≠ "__name__" := by decide) (hd : (x == ("__debug__" : Str)) = false := by decide)
    (h1 : starEach [e, .Name x p2] X.env = (false, eval e X.env) :: starEach [.Name x p2] X.env := by rfl) (h2 : starEach [.Name x p2] X.env = (false, eval (.Name x p2) X.env) :: starEach [] X.env := by rfl) (hpl : (backTo pos (starEach [.Name x p2] X.env)).any (·.1) = false := by rfl) :
    PE X (.Call (.Name "isinstance" p) [e, .Name x p2] [] pos) (rO X.K P B W (evO C (.isi a [t]))) := by
  refine PE.imp (pe_callB call_isiY hg hm rfl (pa_cons ha (pa_cons (pe_bltn (v := .ty t.nm) hg2 hm2 hv rfl hn hd) pa_nil h2) h1) (he := h1) (hpl := hpl)) fun σ H Q h => ?_
  refine isi_read h fun v H' k m Z r ek q => ?_
  have q := q H' fun _ _ x => x
  refine ⟨v, .ty t.nm, _, _, isTy t k, rfl, .ty _, r.tyx ek, kit_all k t, ?_⟩
  simpa using q
theorem kit_any2 {K : PySem.W.Frag} {k : TK} {t u : TY} : PySem.W.kitAny K (.type k.nm) [.type t.nm, .type u.nm] = some (isTy t k || isTy u k) := by
  unfold PySem.W.kitAny PySem.W.kitAny PySem.W.kitAny
  rw [kit_all, kit_all]
  cases isTy t k <;> cases isTy u k <;> rfl
theorem s_isi2 {x y : Str} {p p2 p3 p4 pos : Pos} {kk : Nat} {e : Expr} {a : E} {t u : TY} (hg : Gl X "isinstance") (hm : X.mg "isinstance" = none) (hg2 : Gl X x) (hm2 : X.mg x = none) (hv : bootBuiltins x = some (.type t.nm)) (hg3 : Gl X y) (hm3 : X.mg y = none) (hv3 : bootBuiltins y = some (.type u.nm)) (ha : PE X e (rO X.K P B W (evO C a)))
    (hn : x ≠ "__name__" := by decide) (hd : (x == ("__debug__" : Str)) = false := by decide) (hn3 : y ≠ "__name__" := by decide) (hd3 : (y == ("__debug__" : Str)) = false := by decide)
    (h1 : starEach [e, .Tuple [.Name x p2, .Name y p3] kk p4] X.env = (false, eval e X.env) :: starEach [.Tuple [.Name x p2, .Name y p3] kk p4] X.env := by rfl) (h2 : starEach [.Tuple [.Name x p2, .Name y p3] kk p4] X.env = (false, eval (.Tuple [.Name x p2, .Name y p3] kk p4) X.env) :: starEach [] X.env := by rfl)
    (h3 : starEach [.Name x p2, .Name y p3] X.env = (false, eval (.Name x p2) X.env) :: starEach [.Name y p3] X.env := by rfl) (h4 : starEach [.Name y p3] X.env = (false, eval (.Name y p3) X.env) :: starEach [] X.env := by rfl)
    (hpl : (backTo pos (starEach [.Tuple [.Name x p2, .Name y p3] kk p4] X.env)).any (·.1) = false := by rfl) :
    PE X (.Call (.Name "isinstance" p) [e, .Tuple [.Name x p2, .Name y p3] kk p4] [] pos) (rO X.K P B W (evO C (.isi a [t, u]))) := by
  refine PE.imp (pe_callB call_isiTY hg hm rfl (pa_cons ha (pa_cons (pe_tup (pa_cons (pe_bltn (v := .ty t.nm) hg2 hm2 hv rfl hn hd) (pa_cons (pe_bltn (v := .ty u.nm) hg3 hm3 hv3 rfl hn3 hd3) pa_nil h4) h3)) pa_nil h2) h1) (he := h1) (hpl := hpl)) fun σ H Q h => ?_
  refine isi_read h fun v H' k m Z r ek q => ?_
  refine ⟨by show 2 ≤ sizeLine; decide, fun p hp => ?_⟩
  have q := q (upd H' p (.tup [.ty t.nm, .ty u.nm])) (grow_upd hp)
  refine ⟨v, p, _, _, _, _, rfl, upd_same, .cons (.ty t.nm) (.cons (.ty u.nm) .nil), TyY.grow r ek (grow_upd hp), kit_any2, ?_⟩
  simpa using q
variable {io : Option Nat} {n m : Nat} {tb : Str → Option Nat} {bl : Str → Bool}
theorem gisi1 (c : Ctx X P B W C io n m tb bl) {x : Str} {p p2 pos : Pos} {e : Expr} {a : E} (t : TY) (ha : PE X e (rO X.K P B W (evO C a))) (hg : Gl X "isinstance" := by rfl) (hb : bl "isinstance" = true := by decide +kernel) (hg2 : Gl X x := by rfl) (hb2 : bl x = true := by decide +kernel) (hv : bootBuiltins x = some (.type t.nm) := by rfl)
    (hn : x ≠ "__name__" := by decide) (hd : (x == ("__debug__" : Str)) = false := by decide)
    (h1 : starEach [e, .Name x p2] X.env = (false, eval e X.env) :: starEach [.Name x p2] X.env := by rfl) (h2 : starEach [.Name x p2] X.env = (false, eval (.Name x p2) X.env) :: starEach [] X.env := by rfl) (hpl : (backTo pos (starEach [.Name x p2] X.env)).any (·.1) = false := by rfl) :
    PE X (.Call (.Name "isinstance" p) [e, .Name x p2] [] pos) (rO X.K P B W (evO C (.isi a [t]))) := s_isi1 hg (c.gb _ hb) hg2 (c.gb _ hb2) hv ha hn hd h1 h2 hpl
theorem gisi2 (c : Ctx X P B W C io n m tb bl) {x y : Str} {p p2 p3 p4 pos : Pos} {kk : Nat} {e : Expr} {a : E} (t u : TY) (ha : PE X e (rO X.K P B W (evO C a))) (hg : Gl X "isinstance" := by rfl) (hb : bl "isinstance" = true := by decide +kernel) (hg2 : Gl X x := by rfl) (hb2 : bl x = true := by decide +kernel) (hv : bootBuiltins x = some (.type t.nm) := by rfl)
    (hg3 : Gl X y := by rfl) (hb3 : bl y = true := by decide +kernel) (hv3 : bootBuiltins y = some (.type u.nm) := by rfl) (hn : x ≠ "__name__" := by decide) (hd : (x == ("__debug__" : Str)) = false := by decide) (hn3 : y ≠ "__name__" := by decide) (hd3 : (y == ("__debug__" : Str)) = false := by decide)
    (h1 : starEach [e, .Tuple [.Name x p2, .Name y p3] kk p4] X.env = (false, eval e X.env) :: starEach [.Tuple [.Name x p2, .Name y p3] kk p4] X.env := by rfl) (h2 : starEach [.Tuple [.Name x p2, .Name y p3] kk p4] X.env = (false, eval (.Tuple [.Name x p2, .Name y p3] kk p4) X.env) :: starEach [] X.env := by rfl)
    (h3 : starEach [.Name x p2, .Name y p3] X.env = (false, eval (.Name x p2) X.env) :: starEach [.Name y p3] X.env := by rfl) (h4 : starEach [.Name y p3] X.env = (false, eval (.Name y p3) X.env) :: starEach [] X.env := by rfl)
    (hpl : (backTo pos (starEach [.Tuple [.Name x p2, .Name y p3] kk p4] X.env)).any (·.1) = false := by rfl) :
    PE X (.Call (.Name "isinstance" p) [e, .Tuple [.Name x p2, .Name y p3] kk p4] [] pos) (rO X.K P B W (evO C (.isi a [t, u]))) := s_isi2 hg (c.gb _ hb) hg2 (c.gb _ hb2) hv hg3 (c.gb _ hb3) hv3 ha hn hd hn3 hd3 h1 h2 h3 h4 hpl
end
end PD
end
section
set_option linter.all false
set_option maxRecDepth 100000
namespace PD
open PySem L2
section
variable {X : Cx} {P : Pl} {B : Base} {W : Wi} {C : Nat → Callee} {σ : St} {H : Hp}
theorem Sim.newD {K : PySem.W.Frag} {env : Env} {ts : List (V × O)} (S : Sim K P B env ts σ H) {a : Addr} (hn : H a = Option.none) : Sim K P B env (ts ++ [(.ref a, .v (.md []))]) σ (upd H a (.dK [])) :=
  S.pushN rfl hn (grow_upd hn) ⟨a, _, rfl, upd_same, .inl ⟨[], [], [], rfl, rfl, .nil, rfl⟩⟩
theorem Sim.newD0 {K : PySem.W.Frag} {env : Env} {ts : List (V × O)} (S : Sim K P B env ts σ H) {a : Addr} (hn : H a = Option.none) : Sim K P B env (ts ++ [(.ref a, .v (.kd []))]) σ (upd H a (.dK [])) :=
  S.pushN rfl hn (grow_upd hn) ⟨a, rfl, upd_same⟩
theorem Sim.heldSetD {K : PySem.W.Frag} {env : Env} {ts tsx : List (V × O)} {D : Addr} {kvs' : List (PyData × PyData)} {o' : HO} (S : Sim K P B env (ts ++ [(.ref D, .v (.kd []))] ++ tsx) σ H) (hD : H D = some (.dK [])) (r : DctAt K (Zf B (cell env σ (ts ++ [(.ref D, .v (.kd []))] ++ tsx))) H o' kvs') :
    Sim K P B env (ts ++ [(.ref D, .v (.md kvs'))]) σ (upd H D o') := by
  have c0 : cell env σ (ts ++ [(.ref D, .v (.kd []))] ++ tsx) (env.length + ts.length) = some (.ref D, .kd []) := cell_held (by rw [List.getElem?_append_left (by simp), List.getElem?_append_right (Nat.le_refl _), Nat.sub_self]; rfl)
  have key : ∀ q c, cell env σ (ts ++ [(.ref D, .v (.md kvs'))]) q = some c → (q = env.length + ts.length ∧ c = (.ref D, .md kvs')) ∨ (q ≠ env.length + ts.length ∧ cell env σ (ts ++ [(.ref D, .v (.kd []))] ++ tsx) q = some c) := fun q c e => by
    rcases cell_push e with ⟨x, n⟩ | ⟨x, n⟩
    · refine .inr ⟨n, ?_⟩
      by_cases hp : q < env.length
      · rw [cell_lt hp] at x ⊢; exact x
      · have e1 := cell_held_inv (by omega) x
        have hl : q - env.length < ts.length := (List.getElem?_eq_some_iff.mp e1).1
        rw [cell_ge (by omega), List.append_assoc, List.getElem?_append_left hl, e1]
    · exact .inl ⟨n, x⟩
  have rt : ∀ q a, Rt (cell env σ (ts ++ [(.ref D, .v (.md kvs'))])) q a → Rt (cell env σ (ts ++ [(.ref D, .v (.kd []))] ++ tsx)) q a := fun q a ⟨m, e, o⟩ => by
    rcases key q _ e with ⟨rfl, x⟩ | ⟨_, x⟩
    · cases x; exact ⟨_, c0, rfl⟩
    · exact ⟨m, x, o⟩
  refine ⟨S.len, S.val, fun w i h => ?_, S.cs.step (fun b => b = D) (fun a o x ne => by rw [upd_ne ne]; exact x) (fun a c => ?_) (fun q w k e => ?_) (fun q a x => .inl (rt q a x)) (fun q q' a x x' _ => S.cs.inj q q' a (rt q a x) (rt q' a x')), S.ios⟩
  · rcases List.mem_append.mp h with h | h
    · exact S.ref w i (by simp [h])
    · simp at h
  · subst c
    exact ⟨⟨_, _, c0, rfl⟩, (fun o u z => by rw [hD] at z; cases z), _, upd_same⟩
  · rcases key q _ e with ⟨_, x⟩ | ⟨n, x⟩
    · cases x
      refine .inr ⟨D, o', rfl, upd_same, DctAt.go (fun b o x z => ⟨?_, Zf.less rt z⟩) (fun b ws x => ?_) r⟩
      · rw [upd_ne]
        · exact x
        · intro c; subst c; exact z.1 _ ⟨_, c0, rfl⟩
      · rw [upd_ne]
        · exact x
        · intro c; subst c; rw [hD] at x; cases x
    · refine .inl ⟨x, fun a r1 c => ?_⟩
      subst c
      exact n (S.cs.inj _ _ _ r1 ⟨_, c0, rfl⟩)
theorem s_dct0 {pos : Pos} : PE X (.Dict [] [] pos) (rO X.K P B W (evO C (.dct .nil))) :=
  PE.imp pe_dnewK fun σ H Q ⟨env, ts, S, h⟩ p hp => h _ _ (S.newD hp)
end
end PD
end
section
set_option linter.all false
set_option maxRecDepth 100000
/-! a display of one pair: its key an int, a text, or a tuple of such; ranges downwards -/
namespace PD
open PySem L2
section
variable {X : Cx} {pins : List (Addr × Obj)} {σ : St} {H : Hp} {s : Shared} {a : Addr} {y v : V} {u r : Value} {A : Around} {E : Value → Shared → Prop}
/-- one entry is laid -/
theorem one_entry {H' : Hp} {Q : Unit → Shared → Prop} (hu : A.units + 1 < cLine) (I : Inv X pins σ H s) (g : DPut H a y v H') (ry : RelV y u) (rv : RelV v r) (h : ∀ s', Inv X pins σ H' s' → Q () s') :
    wpAny (model X.prog X.w) A (dictSet a u r) Q E s := by
  rcases g with ⟨es, k, ea, rfl, lt, rfl⟩ | ⟨es, k, b, ea, rfl, eb, lt, rfl⟩
  · have o := dk_of I.hok ea
    obtain ⟨le, sm, vs, kv, dd⟩ := o
    have vl : vs.length ≤ sizeLine := Nat.le_trans (Nat.le_of_eq kv.length.symm) le
    have pl : (L2.putK es k v).length ≤ sizeLine := Nat.le_trans (length_putK es k v) lt
    refine wpAny_dictSet_pairs (knd := mixKind X.prog X.w) (hsz := vl) (kV_is ry) dd fun h2 d2 same => h _ ?_
    have there : ∃ q, h2.get? a = some q := d2.elim fun q z => z.elim fun _ z => z.elim fun _ z => ⟨q, z.1⟩
    have mu : Mut (H a) := by rw [ea]; exact True.intro
    exact d_write I mu same there (dk_new pl sm (kv.put k rv) d2)
  · have eu : u = Value.ref b := ry
    subst eu
    have o := dt_of I.hok ea
    obtain ⟨le, sm, xs, kt, dd⟩ := o
    have xl : xs.length ≤ sizeLine := Nat.le_trans (Nat.le_of_eq (Paired.length kt).symm) le
    have pl : (L2.putK es k v).length ≤ sizeLine := Nat.le_trans (length_putK es k v) lt
    refine wpAny_dictSet_heap (knd := tupleKind (mixKind X.prog X.w)) (hsz := xl) (show A.units < cLine by omega) (key_of I.hok eb) dd fun h2 d2 same => h _ ?_
    have mu : Mut (H a) := by rw [ea]; exact True.intro
    obtain ⟨q, e1, e2, g0, g1, g2, g3, _, g4⟩ := d2
    have keep : ∀ c ys, H c = some (.tup ys) → upd H a (.dT (L2.putK es k v)) c = some (.tup ys) := fun c ys ec => (upd_ne (ne_of ec ea (fun z => nomatch z))).trans ec
    exact d_write I mu same ⟨q, g0⟩ ⟨pl, sm, _, (kt.put k eb rv).keeps keep, q, e1, e2, g0, g1, g2, g3, g4⟩
end
/-- {k: v} -/
def tDisp1 (tk tv : TE) : TE := fun σ H Q => ∀ p, H p = none → tk σ (upd H p (.dK [])) fun x H1 => tv σ H1 fun y H2 => H2 p = some (.dK []) ∧ ∃ H3, (DPut H2 p x y H3 ∨ DPut (upd H2 p (.dT [])) p x y H3) ∧ Q (.ref p) H3
theorem pe_disp1 {X : Cx} {pos : Pos} {k v : Expr} {tk tv : TE} (hu : X.A.units + 1 < cLine) (hk : PE X k tk) (hv : PE X v tv) : PE X (.Dict [some k] [v] pos) (tDisp1 tk tv) := by
  refine ⟨fun pins s σ H Q I q => ?_⟩
  have new := I.hok.fresh (Nat.le_refl s.heap.objs.size)
  have I1 := I.laid (a := s.heap.objs.size) (o := .dK []) (h' := s.heap.push { cls := .type "dict", data := .dict #[] }) (t' := s.toks) (fun _ _ z => Heap.get?_push_of_some _ z) (Nat.le_refl _) (dk_empty s.heap I.big)
  refine wpAny_Dict_any rfl rfl (by simp) (by simp) (pairTrees_cons_walk (thn (hk.run pins _ σ _ _ I1 (q _ new)) fun u s1 ⟨x, H1, J1, rx, q1⟩ => thn (hv.run pins s1 σ H1 _ J1 q1) fun w2 s2 ⟨y, H2, J2, ry, e, H3, g, q2⟩ => pairTrees_nil_walk ?_))
  unfold storeAll
  rw [List.forIn_cons]
  have fin : ∀ s3, Inv X pins σ H3 s3 → wpAny (model X.prog X.w) X.A (forIn (m := Sem) ([] : List (Value × Value)) PUnit.unit fun (x : Value × Value) (_ : PUnit) => (do dictSet s.heap.objs.size x.1 x.2; pure (ForInStep.yield PUnit.unit) : Sem (ForInStep PUnit))) (fun _ s' => ∃ z H', Inv X pins σ H' s' ∧ RelV z (Value.ref s.heap.objs.size) ∧ Q z H') X.xe s3 := fun s3 J3 => by
    rw [List.forIn_nil]
    exact wpAny_pure ⟨.ref s.heap.objs.size, _, J3, rfl, q2⟩
  rcases g with g | g
  · exact wpAny_bind (wpAny_bind (one_entry hu J2 g rx ry fun s3 J3 => wpAny_pure (fin s3 J3)))
  · exact wpAny_bind (wpAny_bind (one_entry hu (toT J2 e) g rx ry fun s3 J3 => wpAny_pure (fin s3 J3)))
section
variable {X : Cx} {P : Pl} {B : Base} {W : Wi} {C : Nat → Callee} {σ : St} {H : Hp}
theorem s_dct1 {pos : Pos} {k v : Expr} {ek ev : E} (hu : X.A.units + 1 < cLine) (hk : PE X k (rO X.K P B W (evO C ek))) (hv : PE X v (rO X.K P B W (evO C ev))) : PE X (.Dict [some k] [v] pos) (rO X.K P B W (evO C (.dct (.cons ek (.cons ev .nil))))) := by
  refine PE.imp (pe_disp1 hu hk hv) fun σ H Q ⟨env, ts, S, h⟩ p hp => ?_
  have h : wpM W (M.bind (evO C ek) fun x => M.bind (evO C ev) fun y => M.bind (tk x) fun p => M.bind (tk y) fun q => if isKey p = true then .pure (O.v (.md [(p, q)])) else .no) env _ := h
  have S0 := S.newD0 hp
  refine rO_first S0 h _ fun ox e1 x H1 S1 h => rO_first S1 h _ fun oy e2 y H2 S2 h => ?_
  rw [wpM_bind] at h
  have S2 : Sim X.K P B e2 ((ts ++ [(.ref p, .v (.kd []))]) ++ (x, ox) :: [(y, oy)]) σ H2 := by simpa using S2
  obtain ⟨q1, e3, S3, h⟩ := wp_tk S2 h
  rw [wpM_bind] at h
  have S3 : Sim X.K P B e3 ((ts ++ [(.ref p, .v (.kd []))] ++ [(x, .v (.d q1))]) ++ (y, oy) :: []) σ H2 := by simpa using S3
  obtain ⟨q2, e4, S4, h⟩ := wp_tk S3 h
  by_cases hkk : isKey q1 = true
  · rw [if_pos hkk] at h
    obtain ⟨b, eb, hb⟩ := S4.held (v := .ref p) (m := .kd []) (by simp)
    cases eb
    have rx : Fz X.K (Zf B (cell e4 σ (ts ++ [(.ref p, .v (.kd []))] ++ [(x, .v (.d q1))] ++ [(y, .v (.d q2))]))) H2 x q1 := S4.held (v := x) (m := .d q1) (by simp)
    have ry : Fz X.K (Zf B (cell e4 σ (ts ++ [(.ref p, .v (.kd []))] ++ [(x, .v (.d q1))] ++ [(y, .v (.d q2))]))) H2 y q2 := S4.held (v := y) (m := .d q2) (by simp)
    have S5 : Sim X.K P B e4 (ts ++ [(.ref p, .v (.kd []))] ++ [(x, .v (.d q1)), (y, .v (.d q2))]) σ H2 := by simpa using S4
    have ry2 : Fz X.K (Zf B (cell e4 σ (ts ++ [(.ref p, .v (.kd []))] ++ [(x, .v (.d q1)), (y, .v (.d q2))]))) H2 y q2 := by simpa using ry
    refine ⟨hb, ?_⟩
    by_cases hk1 : isK1 q1 = true
    · obtain ⟨k, rfl⟩ := kP_of hk1
      have ex : x = kV k := fz_key rx
      subst ex
      exact ⟨_, .inl (DPut.k hb (by decide)), h _ _ (S5.heldSetD hb (.inl ⟨[k], [y], [q2], rfl, rfl, .one ry2, rfl⟩))⟩
    · have hk2 : isK2 q1 = true := by
        unfold isKey at hkk
        simpa [hk1] using hkk
      obtain ⟨k, rfl⟩ := isK2_of hk2
      obtain ⟨b, rfl, eb⟩ : ∃ b, x = .ref b ∧ H2 b = some (.tup (k.map kV)) := by
        cases rx with
        | tup hb rb => exact ⟨_, rfl, by rw [← fzL_key rb]; exact hb⟩
      have ne : b ≠ p := ne_of eb hb (fun z => nomatch z)
      refine ⟨_, .inr (DPut.t (k := k) upd_same (by rw [upd_ne ne]; exact eb) (by decide)), ?_⟩
      rw [upd_upd]
      exact h _ _ (S5.heldSetD hb (.inr ⟨[k], [y], [q2], rfl, rfl, .one ry2, rfl⟩))
  · rw [if_neg hkk] at h; exact h.elim
theorem wk_rngD {K : PySem.W.Frag} {lo : Int} {n : Nat} : Wk K P (Itc lo (-1) n) (rangeD lo n) [] := by
  refine ⟨fun B env ts σ H S _ => ⟨fun i d hd => ?_, ?_⟩⟩
  · unfold rangeD at hd
    rw [List.getElem?_map] at hd
    by_cases hi : i < n
    · rw [List.getElem?_range hi] at hd
      cases hd
      exact ⟨hi, fun x H' ⟨e1, e2⟩ => by subst e1 e2; exact S.atom fun _ => .int _⟩
    · rw [List.getElem?_eq_none (by simpa using hi)] at hd
      cases hd
  · show n ≤ (rangeD lo n).length
    simp [rangeD]
theorem rng_three {p q r : PyData} {xs : List PyData} (h : rng [p, q, r] = some xs) : ∃ i j : Int, p = .int i ∧ q = .int j ∧ r = .int (-1) ∧ (-4611686018427387904 ≤ i ∧ i < 4611686018427387904 ∧ -4611686018427387904 ≤ j ∧ j < 4611686018427387904) ∧ xs = rangeD i (i - j).toNat := by
  unfold rng at h
  split at h
  · rename_i e; cases e
  · rename_i e; cases e
  · rename_i i j c e
    cases e
    split at h
    · rename_i hc; obtain ⟨rfl, hc⟩ := hc; cases h; exact ⟨i, j, rfl, rfl, rfl, hc, rfl⟩
    · cases h
  · cases h
theorem s_rng3 {tg e e' e2 : Expr} {a b c : E} {p pos : Pos} (hg : Gl X "range") (hm : X.mg "range" = none) (ha : PA X [e, e', e2] (rL X.K P B W (evL C (.cons a (.cons b (.cons c .nil))))))
    (hs : starEach [e, e', e2] X.env = (false, eval e X.env) :: starEach [e', e2] X.env := by rfl) (hpl : (backTo pos (starEach [e', e2] X.env)).any (·.1) = false := by rfl) :
    PI X tg (.Call (.Name "range" p) [e, e', e2] [] pos) (rW X.K P B W (evS C (.rng (.cons a (.cons b (.cons c .nil)))))) := by
  refine PI.imp (pi_range3 hg hm ha hs hpl) fun σ H R ⟨env, ts, S, h⟩ => ?_
  have h : wpM W (M.bind (evL C (.cons a (.cons b (.cons c .nil)))) fun os => M.bind (rdAll os) fun ps => .opt (rng ps)) env _ := h
  rw [wpM_bind] at h
  refine ⟨env, ts, S, wpM_mono (wp_and h) fun os e ⟨hl, h⟩ vs H' hv S1 => ?_⟩
  rw [wpM_bind] at h
  obtain ⟨ps, lk, h⟩ := wp_rdAll (vs := vs) S1 hv (fun x hx => List.mem_append_right _ hx) h
  obtain ⟨xs, e1, h⟩ := wpM_opt h
  have h1 : os.length = 3 := by
    have hl : M.bind (evO C a) (fun x => M.bind (evL C (.cons b (.cons c .nil))) fun xs => .pure (x :: xs)) env = _ := hl
    obtain ⟨o, e, _, h2⟩ := bind_ok hl
    obtain ⟨os', e2, h3, h4⟩ := bind_ok h2
    cases h4
    rw [List.length_cons, evL_len2 h3]
  cases lk with
  | nil => simp at hv; omega
  | cons r t => cases t with
    | nil => simp at hv; omega
    | cons r2 t => cases t with
      | nil => simp at hv; omega
      | cons r3 t => cases t with
        | cons _ _ => simp at hv; omega
        | nil =>
          obtain ⟨i, j, rfl, rfl, rfl, ⟨h2, h3, h4, h5⟩, rfl⟩ := rng_three e1
          cases r.int
          cases r2.int
          cases r3.int
          exact ⟨i, j, -1, _, rfl, RgC.neg (by omega) (by omega) (by omega) (by omega), h _ _ [] (by simpa using Sim.drop S1) wk_rngD⟩
variable {io : Option Nat} {n m : Nat} {tb : Str → Option Nat} {bl : Str → Bool}
theorem gdct1 (c : Ctx X P B W C io n m tb bl) {pos : Pos} {k v : Expr} {ek ev : E} (hk : PE X k (rO X.K P B W (evO C ek))) (hv : PE X v (rO X.K P B W (evO C ev))) : PE X (.Dict [some k] [v] pos) (rO X.K P B W (evO C (.dct (.cons ek (.cons ev .nil))))) :=
  s_dct1 (by have := c.u; omega) hk hv
theorem grng3 (c : Ctx X P B W C io n m tb bl) {tg e e' e2 : Expr} {a b d : E} {p pos : Pos} (ha : PA X [e, e', e2] (rL X.K P B W (evL C (.cons a (.cons b (.cons d .nil)))))) (hb : bl "range" = true := by decide +kernel) (hg : Gl X "range" := by rfl)
    (hs : starEach [e, e', e2] X.env = (false, eval e X.env) :: starEach [e', e2] X.env := by rfl) (hpl : (backTo pos (starEach [e', e2] X.env)).any (·.1) = false := by rfl) :
    PI X tg (.Call (.Name "range" p) [e, e', e2] [] pos) (rW X.K P B W (evS C (.rng (.cons a (.cons b (.cons d .nil)))))) := s_rng3 hg (c.gb _ hb) ha hs hpl
end
end PD
end
section
set_option linter.all false
set_option maxRecDepth 100000
namespace PD
open PySem L2
section
variable {X : Cx} {P : Pl} {B : Base} {W : Wi} {C : Nat → Callee} {σ : St} {H : Hp}
theorem Lk.isD {K : PySem.W.Frag} {Z : Addr → Prop} {v : V} {p : PyData} (h : Lk K Z H v p) (e : isDct p = true) : ∃ a, v = .ref a ∧ IsD H a := by
  cases p with
  | dict kvs =>
    obtain ⟨a, o, rfl, ho, hd⟩ := h
    refine ⟨a, rfl, ?_⟩
    have rd : Rd H a o := ho
    rcases hd with ⟨ks, vs, ds, rfl, _⟩ | ⟨ks, vs, ds, rfl, _⟩
    · exact .inl ⟨_, rd⟩
    · exact .inr ⟨_, rd⟩
  | _ => cases e
def tDG2 (td ty tx : TE) : TE := fun σ H Q => td σ H fun x H1 => ∃ a, x = .ref a ∧ IsD H1 a ∧ ty σ H1 fun y H2 => tx σ H2 fun z H3 => ∃ o, DG H3 a y o ∧ Q (o.getD z) H3
def tDG1 (td ty : TE) : TE := fun σ H Q => td σ H fun x H1 => ∃ a, x = .ref a ∧ IsD H1 a ∧ ty σ H1 fun y H2 => ∃ o, DG H2 a y o ∧ Q (o.getD .non) H2
theorem pe_dg2 {o e f : Expr} {apos cpos : Pos} {td ty tx : TE} (hu : X.A.units + 1 < cLine) (ho : PE X o td) (he : PE X e ty) (hf : PE X f tx) (m : M2 X o "get" apos e f cpos) : PE X (.Call (.Attribute o "get" apos) [e, f] [] cpos) (tDG2 td ty tx) := by
  refine ⟨fun pins s σ H Q I h => ?_⟩
  refine wpAny_Call_method m.base m.few m.line PySem.F.plainAttrs_dict PySem.F.slot_dict_get PySem.F.type_dict_get (thn (ho.run pins s σ H _ I h) fun u s1 ⟨x, H1, I1, rx, a, ex, d, q1⟩ => ?_)
  subst ex
  obtain rfl : u = Value.ref a := rx
  obtain ⟨t1, t2, _⟩ := isD_at I1 d
  refine ⟨t1, t2, ?_⟩
  rw [m.trees]
  refine Calls.callWith_builtin rfl (Calls.evalArgs_plain (Calls.spliced_cons (thn (he.run pins s1 σ H1 _ I1 q1) fun iv s2 ⟨y, H2, I2, ry, q2⟩ =>
    Calls.spliced_cons (thn (hf.run pins s2 σ H2 _ I2 q2) fun fv s3 ⟨z, H3, I3, rz, ov, g, q3⟩ => Calls.spliced_nil ?_))))
  exact g.run I3 fun H0 H' I' g' back => d_get2 (X := X0 X H0) hu I' g' ry rz fun w' s4 I4 rw' => ⟨_, H3, back _ I4, rw', q3⟩
theorem pe_dg1 {o e : Expr} {apos cpos : Pos} {td ty : TE} (hu : X.A.units + 1 < cLine) (ho : PE X o td) (he : PE X e ty) (m : M1 X o "get" apos e cpos) : PE X (.Call (.Attribute o "get" apos) [e] [] cpos) (tDG1 td ty) := by
  refine ⟨fun pins s σ H Q I h => ?_⟩
  refine wpAny_Call_method m.base m.few m.line PySem.F.plainAttrs_dict PySem.F.slot_dict_get PySem.F.type_dict_get (thn (ho.run pins s σ H _ I h) fun u s1 ⟨x, H1, I1, rx, a, ex, d, q1⟩ => ?_)
  subst ex
  obtain rfl : u = Value.ref a := rx
  obtain ⟨t1, t2, _⟩ := isD_at I1 d
  refine ⟨t1, t2, ?_⟩
  rw [m.trees]
  refine Calls.callWith_builtin rfl (Calls.evalArgs_plain (Calls.spliced_cons (thn (he.run pins s1 σ H1 _ I1 q1) fun iv s2 ⟨y, H2, I2, ry, ov, g, q2⟩ => Calls.spliced_nil ?_)))
  exact g.run I2 fun H0 H' I' g' back => d_get1 (X := X0 X H0) hu I' g' ry fun w' s3 I3 rw' => ⟨_, H2, back _ I3, rw', q2⟩
def getM (k d : PyData) : PyData → Option MV
  | .dict kvs => if keyed k kvs = true then some (MV.d ((look k kvs).getD d)) else none
  | _ => none
theorem getM_d {k d p : PyData} {m : MV} (h : getM k d p = some m) : ∃ q, m = .d q := by
  cases p with
  | dict kvs =>
    have h : (if keyed k kvs = true then some (MV.d ((look k kvs).getD d)) else none) = some m := h
    split at h
    · cases h; exact ⟨_, rfl⟩
    · cases h
  | _ => cases h
theorem meth_get {k d p : PyData} : meth .get p [k, d] = getM k d p := by
  cases p <;> rfl
theorem get_look {K : PySem.W.Frag} {Z : Addr → Prop} {a : Addr} {y z : V} {p k d m : PyData} (lx : Lk K Z H (.ref a) p) (rk : Fz K Z H y k) (rd : Fz K Z H z d) (h : getM k d p = some (.d m)) : ∃ o, DG H a y o ∧ Fz K Z H (o.getD z) m := by
  cases p with
  | dict kvs =>
    have h : (if keyed k kvs = true then some (MV.d ((look k kvs).getD d)) else none) = some (MV.d m) := h
    by_cases hk : keyed k kvs = true
    · rw [if_pos hk] at h
      cases h
      obtain ⟨b, o, eb, ho, hd⟩ := lx
      cases eb
      obtain ⟨r, g, hr⟩ := dct_look ho hd (Fz.lk rk) hk
      refine ⟨r, g, ?_⟩
      rcases hr with ⟨rfl, h2⟩ | ⟨v, d', rfl, h2, h3⟩
      · rw [h2]; exact rd
      · rw [h2]; exact h3
    · rw [if_neg hk] at h; cases h
  | _ => cases h
theorem s_get2 {o e f : Expr} {apos cpos : Pos} {a b d : E} (hu : X.A.units + 1 < cLine) (ho : PE X o (rO X.K P B W (evO C a))) (he : PE X e (rO X.K P B W (evO C b))) (hf : PE X f (rO X.K P B W (evO C d))) (m : M2 X o "get" apos e f cpos) :
    PE X (.Call (.Attribute o "get" apos) [e, f] [] cpos) (rO X.K P B W (evO C (.mt .get a (.cons b (.cons d .nil))))) := by
  refine PE.imp (pe_dg2 hu ho he hf m) fun σ H Q ⟨env, ts, S, h⟩ => ?_
  have h : wpM W (M.bind (evO C a) fun x => M.bind (rdD x) fun p0 => if isDct p0 = true then M.bind (M.bind (evO C b) fun y => M.bind (M.bind (evO C d) fun z => M.bind (.pure []) fun zs => .pure (z :: zs)) fun ys => .pure (y :: ys)) (fun os => M.bind (tkAll os) fun ps => M.bind (rdD x) fun p => M.ofO (meth .get p ps)) else .no) env _ := h
  refine rO_first S h _ fun ox e1 x H1 S1 h => ?_
  rw [wpM_bind] at h
  obtain ⟨p0, lx, h⟩ := wp_rdD (o := ox) S1 (x := x) (by simp) h
  by_cases hd : isDct p0 = true
  · rw [if_pos hd] at h
    obtain ⟨ad, rfl, isd⟩ := lx.isD hd
    refine ⟨ad, rfl, isd, ?_⟩
    rw [wpM_bind, wpM_bind] at h
    refine ⟨e1, _, S1, wpM_mono h fun oy e2 h y H2 S2 => ?_⟩
    rw [wpM_bind, wpM_bind] at h
    refine ⟨e2, _, S2, wpM_mono h fun oz e3 h z H3 S3 => ?_⟩
    have h : wpM W (M.bind (tkAll [oy, oz]) fun ps => M.bind (rdD ox) fun p => M.ofO (meth .get p ps)) e3 _ := h
    rw [wpM_bind] at h
    have S3 : Sim X.K P B e3 ((ts ++ [(.ref ad, ox)]) ++ [y, z].zip [oy, oz] ++ []) σ H3 := by simpa using S3
    obtain ⟨ps, e4, S4, hl, h⟩ := wp_tkAll (vs := [y, z]) rfl S3 h
    match ps, hl, S4, h with
    | [k, dd], _, S4, h =>
      have S4 : Sim X.K P B e4 (ts ++ [(.ref ad, ox)] ++ [(y, .v (.d k)), (z, .v (.d dd))]) σ H3 := by simpa [hld] using S4
      rw [wpM_bind] at h
      obtain ⟨p, lp, h⟩ := wp_rdD (o := ox) S4 (x := .ref ad) (by simp) h
      obtain ⟨m', em, hh⟩ := wpM_ofO h
      have ry : Fz X.K (Zf B (cell e4 σ (ts ++ [(.ref ad, ox)] ++ [(y, .v (.d k)), (z, .v (.d dd))]))) H3 y k := S4.held (v := y) (m := .d k) (by simp)
      have rz : Fz X.K (Zf B (cell e4 σ (ts ++ [(.ref ad, ox)] ++ [(y, .v (.d k)), (z, .v (.d dd))]))) H3 z dd := S4.held (v := z) (m := .d dd) (by simp)
      rw [meth_get] at em
      obtain ⟨q, rfl⟩ := getM_d em
      obtain ⟨o, g, r⟩ := get_look lp ry rz em
      refine ⟨o, g, ?_⟩
      have S5 : Sim X.K P B e4 (ts ++ ([(.ref ad, ox)] ++ [(y, .v (.d k)), (z, .v (.d dd))])) σ H3 := by simpa using S4
      have r2 : Fz X.K (Zf B (cell e4 σ (ts ++ ([(.ref ad, ox)] ++ [(y, .v (.d k)), (z, .v (.d dd))])))) H3 (o.getD z) q := by simpa using r
      exact hh _ _ (S5.drop.pushD (Fz.drop' r2))
  · rw [if_neg hd] at h; exact h.elim
variable {io : Option Nat} {n m : Nat} {tb : Str → Option Nat} {bl : Str → Bool}
theorem gget2 (c : Ctx X P B W C io n m tb bl) {o e f : Expr} {apos cpos : Pos} {a b d : E} (ho : PE X o (rO X.K P B W (evO C a))) (he : PE X e (rO X.K P B W (evO C b))) (hf : PE X f (rO X.K P B W (evO C d))) (mm : M2 X o "get" apos e f cpos := by exact ⟨rfl, rfl, rfl, rfl⟩) :
    PE X (.Call (.Attribute o "get" apos) [e, f] [] cpos) (rO X.K P B W (evO C (.mt .get a (.cons b (.cons d .nil))))) := s_get2 (by have := c.u; omega) ho he hf mm
end
end PD
end
section
set_option linter.all false
set_option maxRecDepth 100000
namespace PD
open PySem L2
section
variable {X : Cx} {P : Pl} {B : Base} {W : Wi} {C : Nat → Callee} {σ : St} {H : Hp}
def gNames : List Nat → TGs
  | [] => gNil
  | i :: is => gCons (gName i) (gNames is)
theorem names_read {K : PySem.W.Frag} {D : Ends} {ts : List (V × O)} (hn : NoRef ts) : ∀ {is : List Nat} {ms : List MV} {vs : List V} {e : Env} {σ : St}, (∀ i ∈ is, ∀ q ∈ B.io, q.1 ≠ i) → vs.length = ms.length → Sim K P B e (ts ++ vs.zip (ms.map O.v)) σ H → endS K P B W D ts (setMs is ms e) → vs.length = is.length ∧ gNames is vs σ H D.nx
  | [], [], [], e, σ, _, _, S, h => ⟨rfl, rfl, h _ _ (by simpa using S)⟩
  | [], [], _ :: _, _, _, _, hl, _, _ => by simp at hl
  | [], _ :: _, _, _, _, _, _, _, h => (show False from h).elim
  | _ :: _, [], _, _, _, _, _, _, h => (show False from h).elim
  | i :: is, m :: ms, [], _, _, _, hl, _, _ => by simp at hl
  | i :: is, m :: ms, v :: vs, e, σ, hio, hl, S, h => by
    have h : endS K P B W D ts (if i < e.length then setMs is ms (e.set i (some m)) else .no) := h
    by_cases hi : i < e.length
    · rw [if_pos hi] at h
      have S1 : Sim K P B e (ts ++ (v, .v m) :: vs.zip (ms.map O.v)) σ H := S
      have S2 := par_one S1 hi hn (hio i List.mem_cons_self)
      obtain ⟨h1, h2⟩ := names_read hn (is := is) (fun j hj => hio j (List.mem_cons_of_mem _ hj)) (by simpa using hl) S2 h
      exact ⟨by simp [h1], v, vs, rfl, h2⟩
    · rw [if_neg hi] at h; exact h.elim
theorem st_parT {es ns : List Expr} {is : List Nat} {as : EL} {kt k2 : Nat} {pt pt2 pos : Pos} (hc : X.calm = true) (hio : ∀ i ∈ is, ∀ q ∈ B.io, q.1 ≠ i) (ha : PA X es (rL X.K P B W (evL C as))) (hz : is.length ≤ sizeLine) (hg : PGs X ns (gNames is))
    (hn : (assignEach ns X.env).length = is.length := by rfl) (hst : (assignEach ns X.env).findIdx? (·.1) = none := by rfl) (hs : swapsWithSole [.Tuple ns kt pt] (.Tuple es k2 pt2) pos.line X.env = pure false := by rfl) (hw : swappedStores [.Tuple ns kt pt] (.Tuple es k2 pt2) X.env = pure none := by rfl)
    (h1 : (assignEach [.Tuple ns kt pt] X.env).map (·.2) = [assign (.Tuple ns kt pt) X.env] := by rfl) : PS X (.Assign [.Tuple ns kt pt] (.Tuple es k2 pt2) pos) (rS X.K P B W (exS C (.par is as))) := by
  refine PS.imp (ps_asg (pe_tup ha) (pg_tup hc hg hn hst) hs hw h1) fun D σ H h => par_read h fun e ts vs ms H' hl hnr S h => ?_
  have hlen : vs.length = is.length := (names_read hnr hio hl S h).1
  refine ⟨by rw [hlen]; exact hz, fun p hp => ⟨p, vs, rfl, .of upd_same, hlen, (names_read hnr hio hl (S.grow (grow_upd hp)) h).2⟩⟩
variable {io : Option Nat} {n m : Nat} {tb : Str → Option Nat} {bl : Str → Bool}
theorem gnm (c : Ctx X P B W C io n m tb bl) (i : Nat) {is : List Nat} {x : Str} {pos : Pos} {es : List Expr} (h : PGs X es (gNames is)) (hi : X.N[i]? = some x := by rfl) (hx : Loc X.env.scope x := by first | exact Or.inl rfl | exact Or.inr rfl) (hf : X.fn x = true ∨ X.env.scope.names.lookup x = some .local := by first | exact .inl rfl | exact .inr rfl)
    (hs : (assignEach (.Name x pos :: es) X.env).map (·.2) = assign (.Name x pos) X.env :: (assignEach es X.env).map (·.2) := by rfl) : PGs X (.Name x pos :: es) (gNames (i :: is)) := pgs_cons (pg_name c.nd hi hx hf) h hs
theorem gparT (c : Ctx X P B W C io n m tb bl) {es ns : List Expr} {is : List Nat} {as : EL} {kt k2 : Nat} {pt pt2 pos : Pos} (ha : PA X es (rL X.K P B W (evL C as))) (hg : PGs X ns (gNames is)) (hio : ∀ i ∈ is, io ≠ some i := by decide) (hz : is.length ≤ sizeLine := by decide)
    (hn : (assignEach ns X.env).length = is.length := by rfl) (hst : (assignEach ns X.env).findIdx? (·.1) = none := by rfl) (hs : swapsWithSole [.Tuple ns kt pt] (.Tuple es k2 pt2) pos.line X.env = pure false := by rfl) (hw : swappedStores [.Tuple ns kt pt] (.Tuple es k2 pt2) X.env = pure none := by rfl)
    (h1 : (assignEach [.Tuple ns kt pt] X.env).map (·.2) = [assign (.Tuple ns kt pt) X.env] := by rfl) : PS X (.Assign [.Tuple ns kt pt] (.Tuple es k2 pt2) pos) (rS X.K P B W (exS C (.par is as))) := st_parT c.calm (fun i hi => c.ne (hio i hi)) ha hz hg hn hst hs hw h1
end
end PD
end
section
set_option linter.all false
set_option maxRecDepth 100000
namespace PD
open PySem L2
section
variable {X : Cx} {P : Pl} {B : Base} {W : Wi} {C : Nat → Callee} {σ : St} {H : Hp}
/-- what is held is written, in the middle -/
theorem Sim.heldSetT {K : PySem.W.Frag} {env : Env} {ts tsx : List (V × O)} {D : Addr} {xs xs' : List PyData} {acc acc' : List V} (S : Sim K P B env (ts ++ (.ref D, .v (.ml xs)) :: tsx) σ H) (hD : H D = some (.lst acc)) (r : FzL K (Zf B (cell env σ (ts ++ (.ref D, .v (.ml xs)) :: tsx))) H acc' xs') :
    Sim K P B env (ts ++ (.ref D, .v (.ml xs')) :: tsx) σ (upd H D (.lst acc')) := by
  have key := cell_rep (env := env) (σ := σ) (ts := ts) (ts' := tsx) (v := .ref D) (w := .ref D) (o := .v (.ml xs)) (o' := .v (.ml xs'))
  have c0 : cell env σ (ts ++ (.ref D, .v (.ml xs)) :: tsx) (env.length + ts.length) = some (.ref D, .ml xs) := cell_held (by rw [List.getElem?_append_right (Nat.le_refl _), Nat.sub_self]; rfl)
  have rt : ∀ q a, Rt (cell env σ (ts ++ (.ref D, .v (.ml xs')) :: tsx)) q a → Rt (cell env σ (ts ++ (.ref D, .v (.ml xs)) :: tsx)) q a := fun q a ⟨m, e, o⟩ => by
    rw [key] at e
    by_cases hq : q = env.length + ts.length
    · rw [if_pos hq] at e; cases e; subst hq; exact ⟨_, c0, rfl⟩
    · rw [if_neg hq] at e; exact ⟨m, e, o⟩
  refine ⟨S.len, S.val, fun w i h => S.ref w i ?_, S.cs.step (fun b => b = D) (fun a o x ne => by rw [upd_ne ne]; exact x) (fun a c => ?_) (fun q w k e => ?_) (fun q a x => .inl (rt q a x)) (fun q q' a x x' _ => S.cs.inj q q' a (rt q a x) (rt q' a x')), S.ios⟩
  · rcases List.mem_append.mp h with h | h
    · exact List.mem_append_left _ h
    · rcases List.mem_cons.mp h with h | h
      · cases h
      · exact List.mem_append_right _ (List.mem_cons_of_mem _ h)
  · subst c
    exact ⟨⟨_, _, c0, rfl⟩, (fun o u z => by rw [hD] at z; cases z), _, upd_same⟩
  · rw [key] at e
    by_cases hq : q = env.length + ts.length
    · rw [if_pos hq] at e
      cases e
      refine .inr ⟨D, acc', rfl, upd_same, FzL.go (fun b o x z => ⟨?_, Zf.less rt z⟩) (fun b ws x => ?_) r⟩
      · rw [upd_ne]
        · exact x
        · intro c; subst c; exact z.1 _ ⟨_, c0, rfl⟩
      · rw [upd_ne]
        · exact x
        · intro c; subst c; rw [hD] at x; cases x
    · rw [if_neg hq] at e
      refine .inl ⟨e, fun a r1 c => ?_⟩
      subst c
      exact hq (S.cs.inj _ _ _ r1 ⟨_, c0, rfl⟩)
theorem hide_hide {env : Env} {vs v2 : List Nat} (h : ∀ i ∈ v2, i ∈ vs) : hide vs (hide v2 env) = hide vs env := by
  apply List.ext_getElem?
  intro j
  by_cases hj : j < env.length
  · rw [hide_get (by rw [hide_length]; exact hj), hide_get hj, hide_get hj]
    by_cases h1 : j ∈ vs
    · rw [if_pos h1, if_pos h1]
    · rw [if_neg h1, if_neg h1, if_neg fun z => h1 (h j z)]
  · rw [List.getElem?_eq_none (by rw [hide_length, hide_length]; omega), List.getElem?_eq_none (by rw [hide_length]; omega)]
theorem wipe_wipe {vs v2 : List Nat} (h : ∀ i ∈ v2, i ∈ vs) : wipe (wipe σ v2) vs = wipe σ vs := by
  apply List.ext_getElem?
  intro j
  by_cases hj : j < σ.length
  · rw [wipe_get (by rw [wipe_length]; exact hj), wipe_get hj, wipe_get hj]
    by_cases h1 : j ∈ vs
    · rw [if_pos h1, if_pos h1]
    · rw [if_neg h1, if_neg h1, if_neg fun z => h1 (h j z)]
  · rw [List.getElem?_eq_none (by rw [wipe_length, wipe_length]; omega), List.getElem?_eq_none (by rw [wipe_length]; omega)]
def turn2 (C : Nat → Callee) (e : E) (t2 : Tg) (c2 : T) : PyData → List PyData → M (List PyData) := fun x2 acc2 => M.bind (getE fun env => bindT t2 x2 (hide t2.vars env)) fun _ => M.bind (evT C c2) fun k2 => match k2 with
  | true => M.bind (evO C e) fun y => M.bind (tk y) fun p => if acc2.length < line then .pure (acc2 ++ [p]) else .no
  | false => .pure acc2
def turn1 (C : Nat → Callee) (e : E) (t : Tg) (c : T) (t2 : Tg) (s2 : Src) (c2 : T) : PyData → List PyData → M (List PyData) := fun x acc => M.bind (getE fun env => bindT t x (hide (t.vars ++ t2.vars) env)) fun _ => M.bind (evT C c) fun k => match k with
  | true => M.bind (evS C s2) fun w2 => turns (turn2 C e t2 c2) w2 acc
  | false => .pure acc
theorem comp2_read {K : PySem.W.Frag} {σ : St} {H : Hp} {Q : VK} {e : E} {t t2 : Tg} {s s2 : Src} {c c2 : T} (nd : (t.vars ++ t2.vars).Nodup) (hio : ∀ q ∈ B.io, q.1 ∉ t.vars ++ t2.vars) (h : rO K P B W (evO C (.comp2 e t s c t2 s2 c2)) σ H Q) :
    tLc2 (rW K P B W (evS C s)) (rG K P B t) (rT K P B W0 (evT C c)) (rW K P B W0 (evS C s2)) (rG K P B t2) (rT K P B W0 (evT C c2)) (rO K P B W0 (evO C e)) (t.vars ++ t2.vars) t2.vars σ H Q := by
  obtain ⟨env, ts, S, h⟩ := h
  have h : wpM W (M.bind (evS C s) fun w => fun env => if inN (t.vars ++ t2.vars) env = true then (match turns (turn1 C e t c t2 s2 c2) w [] env with
    | .ok acc env' => R.ok (O.v (.ml acc)) (unhide env (t.vars ++ t2.vars) env')
    | _ => R.no) else R.no) env _ := h
  rw [wpM_bind] at h
  generalize hvs : t.vars ++ t2.vars = vs at nd hio h
  have sub2 : ∀ i ∈ t2.vars, i ∈ vs := fun i hi => by rw [← hvs]; exact List.mem_append_right _ hi
  have sub1 : ∀ i ∈ t.vars, i ∈ vs := fun i hi => by rw [← hvs]; exact List.mem_append_left _ hi
  have hio2 : ∀ q ∈ B.io, q.1 ∉ t2.vars := fun q hq z => hio q hq (sub2 _ z)
  refine ⟨env, ts, S, wpM_mono h fun xs env1 h J H1 hs S1 wk D hD => ?_⟩
  have hin : inN vs env1 = true := by
    by_cases hin : inN vs env1 = true
    · exact hin
    · unfold wpM at h; dsimp only at h; rw [if_neg hin] at h; exact h.elim
  have hl : ∀ i ∈ vs, i < env1.length := fun i hi => of_decide_eq_true (List.all_eq_true.mp hin i hi)
  obtain ⟨Φ, hΦ⟩ : ∃ Φ : List PyData → Env → Prop, Φ = fun acc env' => ∀ v H', Sim K P B (unhide env1 vs env') (ts ++ [(v, .v (.ml acc))]) σ H' → Q v H' := ⟨_, rfl⟩
  have h : wpM W0 (turns (turn1 C e t c t2 s2 c2) xs []) env1 Φ := by
    rw [hΦ]
    unfold wpM at h ⊢
    dsimp only at h
    rw [if_pos hin] at h
    cases e1 : turns (turn1 C e t c t2 s2 c2) xs [] env1 with
    | ok acc env' => rw [e1] at h; exact h
    | exc k as env' => rw [e1] at h; exact h.elim
    | no => rw [e1] at h; exact h.elim
  have S2 := S1.enter nd hl hio
  have S3 := S2.newL hD .nil
  generalize hT : deref (ts ++ PD.hv hs) ++ PD.hv (hid env1 σ vs) = T0 at S2 S3
  have nT0 : NoRef T0 := by rw [← hT]; exact NoRef.append deref_noref NoRef.hv
  have held : ∀ (env2 : Env) (σ2 : St) (ex : List (V × O)), ∀ q ∈ hs, ∃ p, cell env2 σ2 (T0 ++ ex) p = some q := fun env2 σ2 ex q hq => by
    refine held_mem (List.mem_append_left _ ?_)
    rw [← hT, deref_append, deref_hv]
    exact List.mem_append_left _ (List.mem_append_right _ (List.mem_map.mpr ⟨q, hq, rfl⟩))
  have fin : ∀ (env2 : Env) (acc : List PyData) (H : Hp), env2.length = env1.length → Sim K P B (hide vs env2) (T0 ++ [(.ref D, .v (.ml acc))]) (wipe σ vs) H → Φ acc env2 → Q (.ref D) H := fun env2 acc H hl2 S q => by
    rw [← hT] at S
    rw [hΦ] at q
    have := S1.leave (ex := [(.ref D, .ml acc)]) nd hl hl2 S
    exact q _ _ (Sim.mid (ts2 := PD.hv hs) this)
  refine ⟨fun i m H => ∃ acc env2, m = xs.length - i ∧ i ≤ xs.length ∧ env2.length = env1.length ∧ Sim K P B (hide vs env2) (T0 ++ [(.ref D, .v (.ml acc))]) (wipe σ vs) H ∧ wpM W0 (turns (turn1 C e t c t2 s2 c2) (xs.drop i) acc) env2 Φ,
    ⟨_, [], env1, rfl, Nat.zero_le _, rfl, S3, by rw [List.drop_zero]; exact h⟩, fun i m H ⟨acc, env2, em, hi, hl2, S, h⟩ => ?_⟩
  by_cases hi' : i = xs.length
  · left
    subst hi'
    rw [List.drop_length] at h
    exact ⟨((wk.run B _ _ _ _ S (held _ _ _)).2), fin env2 acc H hl2 S h⟩
  · right
    have hi2 : i < xs.length := by omega
    rw [List.drop_eq_getElem_cons hi2] at h
    obtain ⟨g1, g2⟩ := (wk.run B _ _ _ _ S (held _ _ _)).1 i xs[i] (List.getElem?_eq_getElem hi2)
    obtain ⟨Nx, hNx⟩ : ∃ Nx : Hp → Prop, Nx = fun H' => ∃ acc env2, env2.length = env1.length ∧ Sim K P B (hide vs env2) (T0 ++ [(.ref D, .v (.ml acc))]) (wipe σ vs) H' ∧ wpM W0 (turns (turn1 C e t c t2 s2 c2) (xs.drop (i + 1)) acc) env2 Φ := ⟨_, rfl⟩
    refine ⟨g1, Nx, fun H' nx => ?_, fun x H' hx => ?_⟩
    · rw [hNx] at nx
      obtain ⟨acc', env3, l3, S3, h3⟩ := nx
      exact ⟨xs.length - (i + 1), by omega, acc', env3, rfl, hi2, l3, S3, h3⟩
    have S4 := g2 x H' hx
    have h : wpM W0 (M.bind (turn1 C e t c t2 s2 c2 xs[i] acc) fun acc' => turns (turn1 C e t c t2 s2 c2) (xs.drop (i + 1)) acc') env2 Φ := h
    rw [wpM_bind] at h
    have h : wpM W0 (M.bind (getE fun env => bindT t xs[i] (hide (t.vars ++ t2.vars) env)) fun _ => M.bind (evT C c) fun k => match k with
      | true => M.bind (evS C s2) fun w2 => turns (turn2 C e t2 c2) w2 acc
      | false => .pure acc) env2 _ := h
    rw [wpM_bind] at h
    obtain ⟨e3, hb, h⟩ := getE_wp h
    rw [hvs] at hb
    have nT1 : NoRef (T0 ++ [(V.ref D, O.v (.ml acc))]) := nT0.append NoRef.one
    have rx : Fz K (Zf B (cell (hide vs env2) (wipe σ vs) (T0 ++ [(.ref D, .v (.ml acc))]))) H' x xs[i] := Fz.drop' (S4.held (v := x) (m := .d xs[i]) (by simp))
    refine ⟨_, _, _, e3, S4.drop, nT1, rx, hb, fun σ2 ag S5 _ => ?_⟩
    have l3 : e3.length = env1.length := by rw [bindT_length hb, hide_length, hl2]
    have hw : wipe σ2 vs = wipe σ vs := wipe_agree (by rw [S5.len, l3]; exact S1.len.symm) fun j hj => ag j fun z => hj (sub1 _ z)
    refine ⟨hw, e3, _, S5, ?_⟩
    rw [wpM_bind] at h
    refine wpM_mono h fun b e4 h H3 S6 => ?_
    have l4 : e4.length = env1.length := by
      have := S6.len
      rw [← this, S5.len, l3]
    cases b with
    | false =>
      dsimp only
      rw [if_neg Bool.false_ne_true, hNx]
      refine ⟨acc, e4, l4, ?_, h⟩
      have := S6.hideW (vs := vs) nT1 hio
      rw [hw] at this
      exact this
    | true =>
      dsimp only
      rw [if_pos rfl]
      have h : wpM W0 (M.bind (evS C s2) fun w2 => turns (turn2 C e t2 c2) w2 acc) e4 _ := h
      rw [wpM_bind] at h
      refine ⟨e4, _, S6, wpM_mono h fun ys e5 h J1 H4 hs1 S7 wk1 => ?_⟩
      have l5 : e5.length = env1.length := by
        have := S7.len
        rw [← this, S6.len, l4]
      have S7 : Sim K P B e5 (T0 ++ (.ref D, .v (.ml acc)) :: PD.hv hs1) σ2 H4 := by simpa using S7
      have nT2 : ∀ acc, NoRef (T0 ++ (V.ref D, O.v (.ml acc)) :: PD.hv hs1) := fun acc => nT0.append fun q hq => by
        rcases List.mem_cons.mp hq with rfl | hq
        · exact ⟨_, rfl⟩
        · exact NoRef.hv q hq
      have held1 : ∀ (env2 : Env) (σ2 : St) (acc : List PyData), ∀ q ∈ hs1, ∃ p, cell env2 σ2 (T0 ++ (.ref D, .v (.ml acc)) :: PD.hv hs1) p = some q := fun env2 σ2 acc q hq =>
        held_mem (List.mem_append_right _ (List.mem_cons_of_mem _ (List.mem_map.mpr ⟨q, hq, rfl⟩)))
      have back : ∀ (env6 : Env) (acc : List PyData) (σ3 : St) (H : Hp), env6.length = env1.length → wipe σ3 vs = wipe σ vs → Sim K P B env6 (T0 ++ (.ref D, .v (.ml acc)) :: PD.hv hs1) σ3 H → Sim K P B (hide vs env6) (T0 ++ [(.ref D, .v (.ml acc))]) (wipe σ vs) H := fun env6 acc σ3 H l6 hw3 S => by
        have S' : Sim K P B env6 (T0 ++ [(.ref D, .v (.ml acc))] ++ PD.hv hs1) σ3 H := by simpa using S
        have := S'.drop.hideW (vs := vs) (nT0.append NoRef.one) hio
        rw [hw3] at this
        exact this
      refine ⟨fun j k H => ∃ acc env6, k = ys.length - j ∧ j ≤ ys.length ∧ env6.length = env1.length ∧ Sim K P B (hide t2.vars env6) (T0 ++ (.ref D, .v (.ml acc)) :: PD.hv hs1) (wipe σ2 t2.vars) H ∧
        wpM W0 (turns (turn2 C e t2 c2) (ys.drop j) acc) env6 fun acc' e' => wpM W0 (turns (turn1 C e t c t2 s2 c2) (xs.drop (i + 1)) acc') e' Φ,
        ⟨_, acc, e5, rfl, Nat.zero_le _, l5, S7.hideW (nT2 _) hio2, by rw [List.drop_zero]; exact h⟩, fun j k H ⟨acc, env6, ek, hj, l6, S, h⟩ => ?_⟩
      by_cases hj' : j = ys.length
      · left
        subst hj'
        rw [List.drop_length] at h
        refine ⟨((wk1.run B _ _ _ _ S (held1 _ _ _)).2), ?_⟩
        rw [hNx]
        refine ⟨acc, env6, l6, ?_, h⟩
        have := back _ acc _ H (by rw [hide_length]; exact l6) (by rw [wipe_wipe sub2]; exact hw) S
        rw [hide_hide sub2] at this
        exact this
      · right
        have hj2 : j < ys.length := by omega
        rw [List.drop_eq_getElem_cons hj2] at h
        obtain ⟨g3, g4⟩ := (wk1.run B _ _ _ _ S (held1 _ _ _)).1 j ys[j] (List.getElem?_eq_getElem hj2)
        refine ⟨g3, fun H' => ∃ acc env6, env6.length = env1.length ∧ Sim K P B (hide t2.vars env6) (T0 ++ (.ref D, .v (.ml acc)) :: PD.hv hs1) (wipe σ2 t2.vars) H' ∧
          wpM W0 (turns (turn2 C e t2 c2) (ys.drop (j + 1)) acc) env6 fun acc' e' => wpM W0 (turns (turn1 C e t c t2 s2 c2) (xs.drop (i + 1)) acc') e' Φ, fun H' ⟨acc', env7, l7, S7, h7⟩ => ⟨ys.length - (j + 1), by omega, acc', env7, rfl, hj2, l7, S7, h7⟩, fun x2 H' hx2 => ?_⟩
        have S8 := g4 x2 H' hx2
        have h : wpM W0 (M.bind (turn2 C e t2 c2 ys[j] acc) fun acc' => turns (turn2 C e t2 c2) (ys.drop (j + 1)) acc') env6 _ := h
        rw [wpM_bind] at h
        have h : wpM W0 (M.bind (getE fun env => bindT t2 ys[j] (hide t2.vars env)) fun _ => M.bind (evT C c2) fun k => match k with
          | true => M.bind (evO C e) fun y => M.bind (tk y) fun p => if acc.length < line then .pure (acc ++ [p]) else .no
          | false => .pure acc) env6 _ := h
        rw [wpM_bind] at h
        obtain ⟨e7, hb7, h⟩ := getE_wp h
        have rx2 : Fz K (Zf B (cell (hide t2.vars env6) (wipe σ2 t2.vars) (T0 ++ (.ref D, .v (.ml acc)) :: PD.hv hs1))) H' x2 ys[j] := Fz.drop' (S8.held (v := x2) (m := .d ys[j]) (by simp))
        refine ⟨_, _, _, e7, S8.drop, nT2 _, rx2, hb7, fun σ3 ag3 S9 _ => ?_⟩
        have l7 : e7.length = env1.length := by rw [bindT_length hb7, hide_length, l6]
        have hw3 : wipe σ3 t2.vars = wipe σ2 t2.vars := wipe_agree (by rw [S9.len, l7, S6.len, l4]) ag3
        refine ⟨hw3, e7, _, S9, ?_⟩
        rw [wpM_bind] at h
        refine wpM_mono h fun b2 e8 h H6 S10 => ?_
        have l8 : e8.length = env1.length := by
          have := S10.len
          rw [← this, S9.len, l7]
        cases b2 with
        | false =>
          dsimp only
          rw [if_neg Bool.false_ne_true]
          refine ⟨acc, e8, l8, ?_, h⟩
          have := S10.hideW (vs := t2.vars) (nT2 _) hio2
          rw [hw3] at this
          exact this
        | true =>
          dsimp only
          rw [if_pos rfl]
          have h : wpM W0 (M.bind (evO C e) fun y => M.bind (tk y) fun p => if acc.length < line then .pure (acc ++ [p]) else .no) e8 _ := h
          rw [wpM_bind] at h
          refine ⟨e8, _, S10, wpM_mono h fun o e9 h y H7 S11 => ?_⟩
          rw [wpM_bind] at h
          obtain ⟨p, e10, S12, h⟩ := wp_tk S11 h
          have hln : acc.length < line := by
            by_cases hln : acc.length < line
            · exact hln
            · rw [if_neg hln] at h; exact h.elim
          rw [if_pos hln] at h
          obtain ⟨b, accV, eb, hD4, rr⟩ := S12.held (v := .ref D) (m := .ml acc) (by simp)
          cases eb
          have ry := S12.held (v := y) (m := .d p) (by simp)
          have S13 : Sim K P B e10 (T0 ++ (.ref D, .v (.ml acc)) :: (PD.hv hs1 ++ [(y, .v (.d p))])) σ3 H7 := by simpa using S12
          refine ⟨accV, hD4, by rw [rr.length, line_eq]; exact hln, acc ++ [p], e10, ?_, ?_, h⟩
          · have := S12.len
            rw [← this, S10.len, l8]
          · have rr2 : FzL K (Zf B (cell e10 σ3 (T0 ++ (.ref D, .v (.ml acc)) :: (PD.hv hs1 ++ [(y, .v (.d p))])))) H7 (accV ++ [y]) (acc ++ [p]) := by
              have := rr.append (.one ry)
              simpa using this
            have S14 := S13.heldSetT hD4 rr2
            have S15 : Sim K P B e10 ((T0 ++ (.ref D, .v (.ml (acc ++ [p]))) :: PD.hv hs1) ++ [(y, .v (.d p))]) σ3 (upd H7 D (.lst (accV ++ [y]))) := by simpa using S14
            have := S15.drop.hideW (vs := t2.vars) (nT2 _) hio2
            rw [hw3] at this
            exact this
variable {io : Option Nat} {n m : Nat} {tb : Str → Option Nat} {bl : Str → Bool}
theorem gcomp2 (c : Ctx X P B W C io n m tb bl) {elt tg iter tg1 iter1 : Expr} {ifs ifs1 : List Expr} {scope : Scope} (own : List (Str × Nat)) {pos : Pos} {e : E} {t t2 : Tg} {s s2 : Src} {cd cd2 : T} (hi : PI X tg iter (rW X.K P B W (evS C s)))
    (hg : ∀ (s : Shared) (H : Hp) (D : Addr) (cl : List (Str × Addr)) (fp : List Addr), PG (X.blk s H scope (compEnvC scope cl D X.env) fp) tg (rG X.K P B t))
    (ht : ∀ (s : Shared) (H : Hp) (D : Addr) (cl : List (Str × Addr)) (fp : List Addr), PTs (X.blk s H scope (compEnvC scope cl D X.env) fp) ifs (rT X.K P B W0 (evT C cd)))
    (hi1 : ∀ (s : Shared) (H : Hp) (D : Addr) (cl : List (Str × Addr)) (fp : List Addr), PI (X.blk s H scope (compEnvC scope cl D X.env) fp) tg1 iter1 (rW X.K P B W0 (evS C s2)))
    (hg1 : ∀ (s : Shared) (H : Hp) (D : Addr) (cl : List (Str × Addr)) (fp : List Addr), PG (X.blk s H scope (compEnvC scope cl D X.env) fp) tg1 (rG X.K P B t2))
    (ht1 : ∀ (s : Shared) (H : Hp) (D : Addr) (cl : List (Str × Addr)) (fp : List Addr), PTs (X.blk s H scope (compEnvC scope cl D X.env) fp) ifs1 (rT X.K P B W0 (evT C cd2)))
    (he : ∀ (s : Shared) (H : Hp) (D : Addr) (cl : List (Str × Addr)) (fp : List Addr), PE (X.blk s H scope (compEnvC scope cl D X.env) fp) elt (rO X.K P B W0 (evO C e)))
    (ok : blkC X.N X.env.scope scope own = true := by kernel_rfl) (hv : own.map (·.2) = t.vars ++ t2.vars := by rfl) (nd : (t.vars ++ t2.vars).Nodup := by decide) (hio : ∀ i ∈ t.vars ++ t2.vars, io ≠ some i := by decide) (hs : ∀ x, foldedSetIterable iter X.env x = pure x := by intro _; rfl) (hs1 : ∀ env x, foldedSetIterable iter1 env x = pure x := by intro _ _; rfl) :
    PE X (.ListComp elt [⟨tg, iter, ifs, 0⟩, ⟨tg1, iter1, ifs1, 0⟩] scope pos) (rO X.K P B W (evO C (.comp2 e t s cd t2 s2 cd2))) :=
  PE.imp (pe_lc2 (vs1 := t2.vars) c.calm c.nd hi (blkOk_by ok) (fun i h => by rw [hv]; exact List.mem_append_right _ h) hg ht hi1 hg1 ht1 he hs hs1) fun σ H Q h => by rw [hv]; exact comp2_read nd (c.nin hio) h
theorem gsetC2 (c : Ctx X P B W C io n m tb bl) {i : Nat} {y : Str} {py spos : Pos} {elt tg iter tg1 iter1 : Expr} {ifs ifs1 : List Expr} {scope : Scope} (own : List (Str × Nat)) {pos : Pos} {e : E} {t t2 : Tg} {s s2 : Src} {cd cd2 : T} (hi : PI X tg iter (rW X.K P B W (evS C s)))
    (hg : ∀ (s : Shared) (H : Hp) (D : Addr) (cl : List (Str × Addr)) (fp : List Addr), PG (X.blk s H scope (compEnvC scope cl D X.env) fp) tg (rG X.K P B t))
    (ht : ∀ (s : Shared) (H : Hp) (D : Addr) (cl : List (Str × Addr)) (fp : List Addr), PTs (X.blk s H scope (compEnvC scope cl D X.env) fp) ifs (rT X.K P B W0 (evT C cd)))
    (hi1 : ∀ (s : Shared) (H : Hp) (D : Addr) (cl : List (Str × Addr)) (fp : List Addr), PI (X.blk s H scope (compEnvC scope cl D X.env) fp) tg1 iter1 (rW X.K P B W0 (evS C s2)))
    (hg1 : ∀ (s : Shared) (H : Hp) (D : Addr) (cl : List (Str × Addr)) (fp : List Addr), PG (X.blk s H scope (compEnvC scope cl D X.env) fp) tg1 (rG X.K P B t2))
    (ht1 : ∀ (s : Shared) (H : Hp) (D : Addr) (cl : List (Str × Addr)) (fp : List Addr), PTs (X.blk s H scope (compEnvC scope cl D X.env) fp) ifs1 (rT X.K P B W0 (evT C cd2)))
    (he : ∀ (s : Shared) (H : Hp) (D : Addr) (cl : List (Str × Addr)) (fp : List Addr), PE (X.blk s H scope (compEnvC scope cl D X.env) fp) elt (rO X.K P B W0 (evO C e)))
    (hy : X.N[i]? = some y := by rfl) (hyl : X.env.scope.names.lookup y = some .local := by rfl) (hi2 : io ≠ some i := by decide) (hsw : swapsWith (.ListComp elt [⟨tg, iter, ifs, 0⟩, ⟨tg1, iter1, ifs1, 0⟩] scope pos) (some (.Name y py)) spos.line X.env = pure true := by rfl)
    (ok : blkC X.N X.env.scope scope own = true := by kernel_rfl) (hv : own.map (·.2) = t.vars ++ t2.vars := by rfl) (nd : (t.vars ++ t2.vars).Nodup := by decide) (hio : ∀ i ∈ t.vars ++ t2.vars, io ≠ some i := by decide) (hs : ∀ x, foldedSetIterable iter X.env x = pure x := by intro _; rfl) (hs1 : ∀ env x, foldedSetIterable iter1 env x = pure x := by intro _ _; rfl) :
    PS X (.Assign [.Name y py] (.ListComp elt [⟨tg, iter, ifs, 0⟩, ⟨tg1, iter1, ifs1, 0⟩] scope pos) spos) (rS X.K P B W (exS C (.set i (.comp2 e t s cd t2 s2 cd2)))) :=
  PS.imp (ps_setLc2 (vs1 := t2.vars) c.calm c.nd hy hyl hsw hi (blkOk_by ok) (fun i h => by rw [hv]; exact List.mem_append_right _ h) hg ht hi1 hg1 ht1 he hs hs1) fun D σ H h => by rw [hv]; exact comp2_read nd (c.nin hio) (set_read (c.ne hi2) h)
end
end PD
end
section
set_option linter.all false
set_option maxRecDepth 100000
namespace PD
open PySem L2
open StX
section
variable {X : Cx} {P : Pl} {B : Base} {W : Wi} {C : Nat → Callee} {σ : St} {H : Hp}
theorem hld_cons {v : V} {vs : List V} {d : PyData} {ds : List PyData} : hld (v :: vs) (d :: ds) = (v, .v (.d d)) :: hld vs ds := by
  unfold hld
  rw [List.map_cons, List.zip_cons_cons]
theorem Fz.pushK {K : PySem.W.Frag} {env : Env} {ts : List (V × O)} {v : V} {d : PyData} {w : V} {p : PyData} (r : Fz K (Zf B (cell env σ ts)) H v d) : Fz K (Zf B (cell env σ (ts ++ [(w, .v (.d p))]))) H v d :=
  Fz.less (fun q a h => by
    rcases rt_push h with x | ⟨_, x, _⟩
    · exact x
    · cases x) r
theorem FzL.pushK {K : PySem.W.Frag} {env : Env} {ts : List (V × O)} {vs : List V} {ds : List PyData} {w : V} {p : PyData} (r : FzL K (Zf B (cell env σ ts)) H vs ds) : FzL K (Zf B (cell env σ (ts ++ [(w, .v (.d p))]))) H vs ds :=
  r.less fun q a h => by
    rcases rt_push h with x | ⟨_, x, _⟩
    · exact x
    · cases x
theorem Sim.pushL {K : PySem.W.Frag} {env : Env} : ∀ {ts : List (V × O)} {vs : List V} {ds : List PyData}, Sim K P B env ts σ H → FzL K (Zf B (cell env σ ts)) H vs ds → Sim K P B env (ts ++ hld vs ds) σ H
  | ts, [], [], S, _ => by simpa [hld] using S
  | ts, v :: vs, d :: ds, S, .cons r t => by
    have S1 := S.pushD r
    have := Sim.pushL S1 t.pushK
    rw [hld_cons]
    simpa using this
theorem s_star {e : Expr} {p : Pos} {es : List Expr} {a : E} {as : EL} (he : PE X e (rO X.K P B W (evO C a))) (hr : PA X es (rL X.K P B W (evL C as))) (hs : starEach (.Starred e p :: es) X.env = (true, eval e X.env) :: starEach es X.env := by rfl) :
    PA X (.Starred e p :: es) (rL X.K P B W (evL C (.star a as))) := by
  refine PA.imp (pa_star he hr hs) fun σ H Q ⟨env, ts, S, h⟩ => ?_
  have h : wpM W (M.bind (evO C a) fun x => M.bind (rdD x) fun p => match seqOf p with
    | some ps => M.bind (evL C as) fun xs => .pure (ps.map (fun d => O.v (.d d)) ++ xs)
    | none => .no) env _ := h
  refine rO_fst S h _ fun o e1 y H1 S1 h => ?_
  rw [wpM_bind] at h
  obtain ⟨q, lq, h⟩ := wp_rdD (o := o) S1 (x := y) (by simp) h
  cases es1 : seqOf q with
  | none => rw [es1] at h; exact h.elim
  | some ps =>
    rw [es1] at h
    obtain ⟨b, ws, rfl, hq, r⟩ := lq.seq es1
    dsimp only at h
    rw [wpM_bind] at h
    have S2 := S1.pushL r
    refine ⟨b, ws, rfl, hq.symm, e1, _, S2, wpM_mono h fun os e2 h vs H2 hl S3 => ?_⟩
    refine h (ws ++ vs) H2 (by simp [hl, r.length]) ?_
    have S4 : Sim X.K P B e2 (ts ++ [(.ref b, o)] ++ (hld ws ps ++ vs.zip os)) σ H2 := by simpa using S3
    have S5 := Sim.mid (ts2 := [(V.ref b, o)]) S4
    have e3 : (ws ++ vs).zip (ps.map (fun d => O.v (.d d)) ++ os) = hld ws ps ++ vs.zip os := by
      unfold hld
      rw [List.zip_append (by rw [List.length_map]; exact r.length)]
    rw [e3]
    exact S5
end
end PD
end
section
set_option linter.all false
set_option maxRecDepth 100000
namespace PD
open PySem L2
/-- a def is known, wherever it is called -/
structure FOkR (Pg : Program) (w : World) (K : PySem.W.Frag) (mg : Str → Option Value) (base : Heap) (P : Pl) (C : Nat → Callee) (n f : Nat) : Prop where
  ex : ∃ fd ps, FnOk Pg w K mg base (L2.CX Pg w) n (P.fa f) fd ps (spOf K P (C f)) ∧ Binds K fd ps []
  kp : PySem.W.keepIn K (.ref (P.fa f)) = true
section
variable {Pg : Program} {w : World} {K : PySem.W.Frag} {mg : Str → Option Value} {base : Heap} {P : Pl} {G : Nat → Option FDef} {m : Nat}
theorem callF_succ {n i : Nat} {F : FDef} (h : G i = some F) : callF G (n + 1) i = ⟨F.io, runDef (callF G n) F⟩ := by
  show (match G i with
    | some F => (⟨F.io, runDef (callF G n) F⟩ : Callee)
    | none => ⟨none, fun _ => .no⟩) = _
  rw [h]
/-- what is shown of each def -/
structure DefOk (Pg : Program) (w : World) (K : PySem.W.Frag) (mg : Str → Option Value) (base : Heap) (P : Pl) (G : Nat → Option FDef) (m i : Nat) : Prop where
  ex : ∃ F fd ps, G i = some F ∧ Binds K fd ps [] ∧ ∀ n C, (∀ j, j < m → FOkR Pg w K mg base P C n j) → FnOk Pg w K mg base (L2.CX Pg w) (n + 1) (P.fa i) fd ps (spOf K P ⟨F.io, runDef C F⟩)
  kp : PySem.W.keepIn K (.ref (P.fa i)) = true
theorem all_ok (h : ∀ i, i < m → DefOk Pg w K mg base P G m i) : ∀ n i, i < m → FOkR Pg w K mg base P (callF G n) n i
  | 0, i, hi => by
    obtain ⟨⟨F, fd, ps, _, hb, _⟩, kp⟩ := h i hi
    have no : ∀ {vs H Q E}, spOf K P (callF G 0 i) vs H Q E → False := fun ⟨_, _, _, _, _, _, _, x⟩ => x
    exact ⟨⟨fd, ps, ⟨fun vs H Q E q => (no q).elim, fun A outer s H args us vs Q E hr he hb hv q => (no q).elim⟩, hb⟩, kp⟩
  | n + 1, i, hi => by
    obtain ⟨⟨F, fd, ps, hG, hb, hF⟩, kp⟩ := h i hi
    refine ⟨⟨fd, ps, ?_, hb⟩, kp⟩
    rw [callF_succ hG]
    exact hF n (callF G n) fun j hj => all_ok h n j hj
/-- the law's promise -/
theorem law_sp {run : List MV → CR} {H : Hp} {a : Addr} {ns : List Int} (hO : Only H) (hS : SqL K H a (ns.map V.int)) (h : run [.sc (ns.map PyData.int)] = .ok (.d (.bool true)) none) :
    spOf K P ⟨none, run⟩ [.ref a] H (fun v _ => v = .bl true) fun _ _ _ => False := by
  have sc : ScAt K H a ns := by
    rcases hS with (h | h) | h
    · rcases hO a with n | ⟨o, xs, n⟩
      · rw [n] at h; cases h
      · rw [n] at h; cases h
    · exact .inl h
    · exact .inr h
  have nr : ∀ p b, ¬ Rt (argCell [.ref a] [.sc (ns.map PyData.int)]) p b := fun p b ⟨m, e, o⟩ => by
    unfold argCell at e
    cases p with
    | zero => cases e; cases o
    | succ p => simp at e
  refine ⟨[.sc (ns.map PyData.int)], ⟨fun _ => False, H, []⟩, 0, rfl, rfl, ⟨fun p v m e => ?_, fun p q b r => (nr _ _ r).elim, fun p b r => (nr _ _ r).elim, fun b n => n.elim, fun b o e _ => .inl e⟩, ⟨rfl, fun m hm => ?_⟩, ?_⟩
  · unfold argCell at e
    cases p with
    | zero => cases e; exact ⟨a, ns, rfl, sc, rfl⟩
    | succ p => simp at e
  · simp at hm; subst hm; rfl
  · dsimp only
    rw [h]
    intro v H' c
    have r := c.rep 0 v (.d (.bool true)) rfl
    cases (show Fz _ _ _ v (.bool true) from r)
    rfl
end
end PD
end
section
set_option linter.all false
set_option maxRecDepth 100000
namespace PD
open PySem L2
section
variable {X : Cx} {P : Pl} {B : Base} {W : Wi} {C : Nat → Callee} {σ : St} {H : Hp} {io : Option Nat} {n m : Nat} {tb : Str → Option Nat} {bl : Str → Bool}
theorem gpar3 (c : Ctx X P B W C io n m tb bl) {i j l : Nat} {x y z : Str} {a b d : Expr} {as : EL} {px py pz pt pos : Pos} {kt k2 : Nat} {pt2 : Pos} (ha : PA X [a, b, d] (rL X.K P B W (evL C as))) (hi : X.N[i]? = some x := by rfl) (hj : X.N[j]? = some y := by rfl) (hl : X.N[l]? = some z := by rfl)
    (hij : i ≠ j := by decide) (hil : i ≠ l := by decide) (hjl : j ≠ l := by decide) (hx : X.env.scope.names.lookup x = some .local := by rfl) (hy : X.env.scope.names.lookup y = some .local := by rfl) (hz : X.env.scope.names.lookup z = some .local := by rfl) (hio : ∀ k ∈ [i, j, l], io ≠ some k := by decide)
    (hw : swappedStores [.Tuple [.Name x px, .Name y py, .Name z pz] kt pt] (.Tuple [a, b, d] k2 pt2) X.env = pure (some [x, y, z]) := by rfl) (hs : swapsWithSole [.Tuple [.Name x px, .Name y py, .Name z pz] kt pt] (.Tuple [a, b, d] k2 pt2) pos.line X.env = pure false := by rfl) :
    PS X (.Assign [.Tuple [.Name x px, .Name y py, .Name z pz] kt pt] (.Tuple [a, b, d] k2 pt2) pos) (rS X.K P B W (exS C (.par [i, j, l] as))) := by
  refine PS.imp (ps_par3 c.calm c.nd hi hj hl hij hil hjl hx hy hz ha hw hs) fun D σ H h => par_read h fun e ts vs ms H' hlen hn S h => ?_
  obtain ⟨h1, h2⟩ := names_read hn (is := [i, j, l]) (fun k hk => c.ne (hio k hk)) hlen S h
  match vs, h1, h2 with
  | [v1, v2, v3], _, ⟨_, _, e1, _, _, e2, _, _, e3, e4, h⟩ =>
    cases e1; cases e2; cases e3
    exact ⟨v1, v2, v3, rfl, h⟩
/-- a text of the module -/
theorem gcs {x z : Str} {pos : Pos} (hm : ∃ t, X.mg x = some (.str z t)) (hg : Gl X x := by rfl) (hd : (x == ("__debug__" : Str)) = false := by decide) : PE X (.Name x pos) (rO X.K P B W (evO C (.cst (.str z)))) := by
  obtain ⟨t, ht⟩ := hm
  exact s_const (pe_glob (v := .str z) hg ht ⟨t, rfl⟩ hd) fun _ _ => .str z
end
end PD
end
section
set_option linter.all false
set_option maxRecDepth 100000
set_option Elab.async false
/-! zip over any two draws while the tuple that was given out before is kept (the steps as in the kit's zip over lists, over Draws) -/
namespace PD
open PySem PySem.Spec PyProof.Rows PySem.W
open PySem (Draws ZipSep2)
section
variable {prog : Program} {w : World} {A : Around} {E : Value → Shared → Prop} {s : Shared} {z TI TO T i1 i2 : Addr} {fp1 fp2 : List Addr} {n1 n2 i : Nat} {P1 P2 : Nat → Value → Prop} {St1 St2 : Nat → Heap → Prop} {f : Bool} {oT : Obj}
theorem zipDH_item {Q : Value → Shared → Prop} (S : ZipSep2 z TI TO i1 i2 fp1 fp2) (D1 : Draws prog w A i1 fp1 n1 P1 St1) (D2 : Draws prog w A i2 fp2 n2 P2 St2)
    (hz : IsZipHeld s.heap z TI TO T f) (hT : s.heap.get? T = some oT) (hTI : IsPair s.heap TI (.ref i1) (.ref i2)) (h1 : St1 i s.heap) (h2 : St2 i s.heap) (l1 : i < n1) (l2 : i < n2)
    (hQ : ∀ x y h' tk, P1 i x → P2 i y → IsZipHeld h' z TI TO T true → St1 (i + 1) h' → St2 (i + 1) h' → IsPair h' s.heap.objs.size x y → h'.objs.size = s.heap.objs.size + 1 →
      (∀ c o, c ≠ z → c ≠ i1 → c ≠ i2 → s.heap.get? c = some o → h'.get? c = some o) → Q (.ref s.heap.objs.size) { s with heap := h', toks := tk }) :
    wpAny (model prog w) A (Builtin.«zip.__next__» ⟨[.ref z], []⟩) (fun fin s' => ∃ v, fin = .done (.ret v) ∧ Q v s') E s := by
  show wpAny _ _ (field (.ref z) 2 >>= _) _ _ _
  refine wpAny_bind (wpAny_field hz rfl (x := .bool false) rfl ?_)
  show wpAny _ _ (field (.ref z) 3 >>= _) _ _ _
  refine wpAny_bind (wpAny_field hz rfl (x := .ref TI) rfl ?_)
  refine wpAny_bind (wpAny_seqItems hTI rfl ?_)
  show wpAny _ _ (Builtin.SmallTypes.ownedTupleIsFree (.ref z) >>= _) _ _ _
  refine wpAny_bind (wpAny_tupleHeld_zip hz hT fun h₁ hz₁ hs₁ => ?_)
  simp only [Bool.false_eq_true, if_false]
  refine wpAny_bind ?_
  rw [← Array.forIn_toList]
  simp only [List.forIn_cons, List.forIn_nil]
  refine wpAny_bind (wpAny_bind (wpAny_holding ?_))
  show wpAny _ _ (Builtin.SmallTypes.nextOf (.ref i1) >>= _) _ _ _
  refine wpAny_bind (D1.item i { s with heap := h₁ } _ _ l1 (D1.over h1 hs₁ S.zf1) fun x h₂ tk1 px h1₂ hs₂ => wpAny_pure ?_)
  refine wpAny_pure ?_
  refine wpAny_bind (wpAny_bind (wpAny_holding ?_))
  show wpAny _ _ (Builtin.SmallTypes.nextOf (.ref i2) >>= _) _ _ _
  refine wpAny_bind (D2.item i { s with heap := h₂, toks := tk1 } _ _ l2 (D2.over (D2.over h2 hs₁ S.zf2) hs₂ S.sep1_2) fun y h₃ tk2 py h2₃ hs₃ => wpAny_pure ?_)
  refine wpAny_pure (wpAny_pure ?_)
  show wpAny _ _ (newTuple [x, y] >>= _) _ _ _
  refine wpAny_bind (wpAny_newTuple ?_)
  replace hs₂ : Heap.SameBut i1 h₁ h₂ := hs₂
  replace hs₃ : Heap.SameBut i2 h₂ h₃ := hs₃
  have hsz : h₃.objs.size = s.heap.objs.size := by rw [hs₃.1, hs₂.1, hs₁.1]
  have hz₃ : IsZipHeld h₃ z TI TO T true := hs₃.extBut _ _ S.zi2 (hs₂.extBut _ _ S.zi1 hz₁)
  have hk : ∀ c o, c ≠ z → c ≠ i1 → c ≠ i2 → s.heap.get? c = some o → h₃.get? c = some o := fun c o c1 c2 c3 e => hs₃.extBut _ _ c3 (hs₂.extBut _ _ c2 (hs₁.extBut _ _ c1 e))
  have h1₃ : St1 (i + 1) h₃ := D1.over h1₂ hs₃ S.sep2_1
  refine wpAny_pure ⟨_, rfl, ?_⟩
  show Q (.ref h₃.objs.size) _
  have hp : IsPair (h₃.push { cls := .type "tuple", data := .seq #[x, y] }) h₃.objs.size x y := Heap.get?_push_size _ rfl
  have hz4 : (h₃.push { cls := .type "tuple", data := .seq #[x, y] }).objs.size = h₃.objs.size + 1 := Heap.size_push ..
  rw [hsz] at hp hz4 ⊢
  exact hQ x y _ tk2 px py (Heap.get?_push_of_some _ hz₃) (D1.frame _ _ _ h1₃ fun b _ o e => Heap.get?_push_of_some _ e) (D2.frame _ _ _ h2₃ fun b _ o e => Heap.get?_push_of_some _ e) hp hz4 fun c o c1 c2 c3 e => Heap.get?_push_of_some _ (hk c o c1 c2 c3 e)
theorem zipDH_end {Q : Fin → Shared → Prop} (S : ZipSep2 z TI TO i1 i2 fp1 fp2) (D1 : Draws prog w A i1 fp1 n1 P1 St1) (D2 : Draws prog w A i2 fp2 n2 P2 St2)
    (hz : IsZipHeld s.heap z TI TO T f) (hT : s.heap.get? T = some oT) (hTI : IsPair s.heap TI (.ref i1) (.ref i2)) (h1 : St1 i s.heap) (h2 : St2 i s.heap) (l1 : i ≤ n1) (l2 : i ≤ n2) (hend : i = n1 ∨ i = n2)
    (hE : ∀ h' tk e, (∀ c o, c ≠ z → c ≠ i1 → c ≠ i2 → s.heap.get? c = some o → h'.get? c = some o) → (∃ o, h'.get? e = some o ∧ o.cls = .type "StopIteration") → E (.ref e) { s with heap := h', toks := tk }) :
    wpAny (model prog w) A (Builtin.«zip.__next__» ⟨[.ref z], []⟩) Q E s := by
  show wpAny _ _ (field (.ref z) 2 >>= _) _ _ _
  refine wpAny_bind (wpAny_field hz rfl (x := .bool false) rfl ?_)
  show wpAny _ _ (field (.ref z) 3 >>= _) _ _ _
  refine wpAny_bind (wpAny_field hz rfl (x := .ref TI) rfl ?_)
  refine wpAny_bind (wpAny_seqItems hTI rfl ?_)
  show wpAny _ _ (Builtin.SmallTypes.ownedTupleIsFree (.ref z) >>= _) _ _ _
  refine wpAny_bind (wpAny_tupleHeld_zip hz hT fun h₁ hz₁ hs₁ => ?_)
  simp only [Bool.false_eq_true, if_false]
  refine wpAny_bind ?_
  rw [← Array.forIn_toList]
  simp only [List.forIn_cons, List.forIn_nil]
  refine wpAny_bind (wpAny_bind (wpAny_holding ?_))
  show wpAny _ _ (Builtin.SmallTypes.nextOf (.ref i1) >>= _) _ _ _
  by_cases e1 : i = n1
  · subst e1
    refine wpAny_bind (D1.done { s with heap := h₁ } _ _ (D1.over h1 hs₁ S.zf1) fun h₂ e hs₂ he => ?_)
    exact hE h₂ s.toks e (fun c o c1 c2 _ x => hs₂ _ _ c2 (hs₁.extBut _ _ c1 x)) he
  · have e2 : i = n2 := hend.resolve_left e1
    subst e2
    refine wpAny_bind (D1.item i { s with heap := h₁ } _ _ (by omega) (D1.over h1 hs₁ S.zf1) fun x h₂ tk1 px h1₂ hs₂ => wpAny_pure ?_)
    refine wpAny_pure ?_
    replace hs₂ : Heap.SameBut i1 h₁ h₂ := hs₂
    refine wpAny_bind (wpAny_bind (wpAny_holding ?_))
    show wpAny _ _ (Builtin.SmallTypes.nextOf (.ref i2) >>= _) _ _ _
    refine wpAny_bind (D2.done { s with heap := h₂, toks := tk1 } _ _ (D2.over (D2.over h2 hs₁ S.zf2) hs₂ S.sep1_2) fun h₃ e hs₃ he => ?_)
    exact hE h₃ tk1 e (fun c o c1 c2 c3 x => hs₃ _ _ c3 (hs₂.extBut _ _ c2 (hs₁.extBut _ _ c1 x))) he
theorem pyNext_zipDH_item {Q : Option Value → Shared → Prop} (S : ZipSep2 z TI TO i1 i2 fp1 fp2) (D1 : Draws prog w A.in1 i1 fp1 n1 P1 St1) (D2 : Draws prog w A.in1 i2 fp2 n2 P2 St2)
    (hz : IsZipHeld s.heap z TI TO T f) (hT : s.heap.get? T = some oT) (hTI : IsPair s.heap TI (.ref i1) (.ref i2)) (h1 : St1 i s.heap) (h2 : St2 i s.heap) (l1 : i < n1) (l2 : i < n2)
    (hQ : ∀ x y h' tk, P1 i x → P2 i y → IsZipHeld h' z TI TO T true → St1 (i + 1) h' → St2 (i + 1) h' → IsPair h' s.heap.objs.size x y → h'.objs.size = s.heap.objs.size + 1 →
      (∀ c o, c ≠ z → c ≠ i1 → c ≠ i2 → s.heap.get? c = some o → h'.get? c = some o) → Q (some (.ref s.heap.objs.size)) { s with heap := h', toks := tk }) : wpAny (model prog w) A (pyNext (.ref z)) Q E s := by
  have hTy : s.TypeIs (.ref z) "zip" := ⟨_, hz, rfl⟩
  unfold pyNext
  exact wpAny_bind (wpAny_attempt (wpAny_callSpecial?_slot (name := Str.ofString "__next__") hTy F.slot_zip_next
    (wpAny_call_entry F.slot_zip_next hTy F.entry_zip_next
      (zipDH_item S D1 D2 hz hT hTI h1 h2 l1 l2 fun x y h' tk a0 a1 a3 a4 a5 a6 a7 a8 => wpAny_pure (hQ x y h' tk a0 a1 a3 a4 a5 a6 a7 a8)) (F.args_zip_next_1 _))))
theorem pyNext_zipDH_end {Q : Option Value → Shared → Prop} (S : ZipSep2 z TI TO i1 i2 fp1 fp2) (D1 : Draws prog w A.in1 i1 fp1 n1 P1 St1) (D2 : Draws prog w A.in1 i2 fp2 n2 P2 St2)
    (hz : IsZipHeld s.heap z TI TO T f) (hT : s.heap.get? T = some oT) (hTI : IsPair s.heap TI (.ref i1) (.ref i2)) (h1 : St1 i s.heap) (h2 : St2 i s.heap) (l1 : i ≤ n1) (l2 : i ≤ n2) (hend : i = n1 ∨ i = n2)
    (hQ : ∀ h' tk, (∀ c o, c ≠ z → c ≠ i1 → c ≠ i2 → s.heap.get? c = some o → h'.get? c = some o) → Q none { s with heap := h', toks := tk }) : wpAny (model prog w) A (pyNext (.ref z)) Q E s := by
  have hTy : s.TypeIs (.ref z) "zip" := ⟨_, hz, rfl⟩
  unfold pyNext
  refine wpAny_bind (wpAny_attempt (wpAny_callSpecial?_slot (name := Str.ofString "__next__") hTy F.slot_zip_next
    (wpAny_call_entry F.slot_zip_next hTy F.entry_zip_next (zipDH_end S D1 D2 hz hT hTI h1 h2 l1 l2 hend fun h' tk e hk he => ?_) (F.args_zip_next_1 _))))
  obtain ⟨o, ho, hc⟩ := he
  refine wpAny_bind (wpAny_isInstance (T := "StopIteration") (b := true) ⟨o, ho, hc⟩ isSubtype_stop ?_)
  exact wpAny_pure (hQ _ _ hk)
end
end PD
end
section
set_option linter.all false
set_option maxRecDepth 100000
set_option Elab.async false
namespace PD
open PySem PySem.Spec PyProof.Rows PySem.W
open PySem (Draws ZipSep2)
/-- a zip whose last tuple is kept by the list at S -/
structure LzSt (h : Heap) (z TI TO i1 i2 S : Addr) (St1 St2 : Nat → Heap → Prop) (i : Nat) : Prop where
  st : (IsZip h z TI TO .none ∧ ∃ x y, IsPair h TO x y) ∨ ∃ T f oT, IsZipHeld h z TI TO T f ∧ h.get? T = some oT ∧ T ≠ z ∧ T ≠ i1 ∧ T ≠ i2 ∧ T ≠ S
  ti : IsPair h TI (.ref i1) (.ref i2)
  s1 : St1 i h
  s2 : St2 i h
  zl : z < h.objs.size ∧ i1 < h.objs.size ∧ i2 < h.objs.size
section
variable {prog : Program} {w : World} {A : Around} {E : Value → Shared → Prop} {s : Shared} {z TI TO i1 i2 S : Addr} {fp1 fp2 : List Addr} {n1 n2 i : Nat} {P1 P2 : Nat → Value → Prop} {St1 St2 : Nat → Heap → Prop}
theorem lz_item {Q : Option Value → Shared → Prop} (Z : ZipSep2 z TI TO i1 i2 fp1 fp2) (D1 : Draws prog w A.in1 i1 fp1 n1 P1 St1) (D2 : Draws prog w A.in1 i2 fp2 n2 P2 St2) (hTI2 : TI ≠ i2) (hS : S < s.heap.objs.size) (hst : LzSt s.heap z TI TO i1 i2 S St1 St2 i) (l1 : i < n1) (l2 : i < n2)
    (hQ : ∀ x y h' tk, P1 i x → P2 i y → LzSt h' z TI TO i1 i2 S St1 St2 (i + 1) → h'.get? s.heap.objs.size = some { cls := .type "tuple", data := .seq #[x, y] } → h'.objs.size = s.heap.objs.size + 1 →
      (∀ c o, c ≠ z → c ≠ TO → c ≠ i1 → c ≠ i2 → s.heap.get? c = some o → h'.get? c = some o) → Q (some (.ref s.heap.objs.size)) { s with heap := h', toks := tk }) : wpAny (model prog w) A (pyNext (.ref z)) Q E s := by
  obtain ⟨zl, il1, il2⟩ := hst.zl
  rcases hst.st with ⟨hz, x0, y0, hTO⟩ | ⟨T, f, oT, hz, hT, t1, t2, t3, t4⟩
  · refine wpAny_pyNext_zipD2_item Z D1 D2 hz hst.ti hTO hst.s1 hst.s2 l1 l2 fun x y h' tk px py z' TO' a1 a2 hp hz' hk => ?_
    refine hQ x y h' tk px py ⟨.inr ⟨s.heap.objs.size, false, _, z', hp, Nat.ne_of_gt zl, Nat.ne_of_gt il1, Nat.ne_of_gt il2, Nat.ne_of_gt hS⟩, hk _ _ Z.TIz Z.TITO Z.TIi1 hTI2 hst.ti, a1, a2, (by rw [hz']; exact Nat.lt_succ_of_lt zl), (by rw [hz']; exact Nat.lt_succ_of_lt il1), (by rw [hz']; exact Nat.lt_succ_of_lt il2)⟩ hp hz' hk
  · refine pyNext_zipDH_item Z D1 D2 hz hT hst.ti hst.s1 hst.s2 l1 l2 fun x y h' tk px py z' a1 a2 hp hz' hk => ?_
    exact hQ x y h' tk px py ⟨.inr ⟨T, true, oT, z', hk T oT t1 t2 t3 hT, t1, t2, t3, t4⟩, hk _ _ Z.TIz Z.TIi1 hTI2 hst.ti, a1, a2, (by rw [hz']; exact Nat.lt_succ_of_lt zl), (by rw [hz']; exact Nat.lt_succ_of_lt il1), (by rw [hz']; exact Nat.lt_succ_of_lt il2)⟩ hp hz' fun c o c1 _ c2 c3 e => hk c o c1 c2 c3 e
theorem lz_done {Q : Option Value → Shared → Prop} (Z : ZipSep2 z TI TO i1 i2 fp1 fp2) (D1 : Draws prog w A.in1 i1 fp1 n1 P1 St1) (D2 : Draws prog w A.in1 i2 fp2 n2 P2 St2) (hst : LzSt s.heap z TI TO i1 i2 S St1 St2 i) (l1 : i ≤ n1) (l2 : i ≤ n2) (hend : i = n1 ∨ i = n2)
    (hQ : ∀ h' tk, (∀ c o, c ≠ z → c ≠ TO → c ≠ i1 → c ≠ i2 → s.heap.get? c = some o → h'.get? c = some o) → Q none { s with heap := h', toks := tk }) : wpAny (model prog w) A (pyNext (.ref z)) Q E s := by
  rcases hst.st with ⟨hz, x0, y0, hTO⟩ | ⟨T, f, oT, hz, hT, t1, t2, t3, t4⟩
  · exact wpAny_pyNext_zipD2_end Z D1 D2 hz hst.ti hTO hst.s1 hst.s2 l1 l2 hend fun h' tk hk => hQ h' tk hk
  · exact pyNext_zipDH_end Z D1 D2 hz hT hst.ti hst.s1 hst.s2 l1 l2 hend fun h' tk hk => hQ h' tk fun c o c1 _ c2 c3 e => hk c o c1 c2 c3 e
end
end PD
end
section
set_option linter.all false
set_option maxRecDepth 100000
set_option Elab.async false
namespace PD
open PySem PySem.Spec PyProof.Rows PySem.W
open PySem (Draws ZipSep2)
structure LzG (P1 P2 : Nat → Value → Prop) (lo : Addr) (h : Heap) (as : List Addr) : Prop where
  above : ∀ a ∈ as, lo < a
  pairs : ∀ (j : Nat) (a : Addr), as[j]? = some a → ∃ x y, P1 j x ∧ P2 j y ∧ h.get? a = some { cls := .type "tuple", data := .seq #[x, y] }
section
variable {prog : Program} {w : World} {A : Around} {s : Shared} {z TI TO i1 i2 S lo : Addr} {fp1 fp2 : List Addr} {n1 n2 : Nat} {P1 P2 : Nat → Value → Prop} {St1 St2 : Nat → Heap → Prop} {R : Result → Shared → Prop}
theorem LzSt.keep {h h' : Heap} {i : Nat} (Z : ZipSep2 z TI TO i1 i2 fp1 fp2) (D1 : Draws prog w A i1 fp1 n1 P1 St1) (D2 : Draws prog w A i2 fp2 n2 P2 St2) (hst : LzSt h z TI TO i1 i2 S St1 St2 i) (hs : S ≠ z ∧ S ≠ TI ∧ S ≠ TO ∧ S ∉ fp1 ∧ S ∉ fp2) (hz : h.objs.size ≤ h'.objs.size)
    (k : ∀ b o, b ≠ S → h.get? b = some o → h'.get? b = some o) : LzSt h' z TI TO i1 i2 S St1 St2 i := by
  obtain ⟨s1, s2, s3, s4, s5⟩ := hs
  refine ⟨?_, k _ _ s2.symm hst.ti, D1.frame _ _ _ hst.s1 fun b hb o e => k b o (fun q => s4 (q ▸ hb)) e, D2.frame _ _ _ hst.s2 fun b hb o e => k b o (fun q => s5 (q ▸ hb)) e, Nat.lt_of_lt_of_le hst.zl.1 hz, Nat.lt_of_lt_of_le hst.zl.2.1 hz, Nat.lt_of_lt_of_le hst.zl.2.2 hz⟩
  rcases hst.st with ⟨hz, x, y, hTO⟩ | ⟨T, f, oT, hz, hT, t1, t2, t3, t4⟩
  · exact .inl ⟨k _ _ s1.symm hz, x, y, k _ _ s3.symm hTO⟩
  · exact .inr ⟨T, f, oT, k _ _ s1.symm hz, k _ _ t4 hT, t1, t2, t3, t4⟩
theorem lz_loop (hh : A.handled = none) (Z : ZipSep2 z TI TO i1 i2 fp1 fp2) (D1 : ∀ A : Around, A.handled = none → Draws prog w A i1 fp1 n1 P1 St1) (D2 : ∀ A : Around, A.handled = none → Draws prog w A i2 fp2 n2 P2 St2) (hTI2 : TI ≠ i2)
    (hs : S ≠ z ∧ S ≠ TI ∧ S ≠ TO ∧ S ∉ fp1 ∧ S ∉ fp2) (hlo : S ≤ lo ∧ z ≤ lo ∧ TO ≤ lo ∧ i1 ≤ lo ∧ i2 ≤ lo) (hn : min n1 n2 ≤ sizeLine) (res : Value) {h₁ : Heap}
    (hR : ∀ h' tk acc c as, (∀ b o, b ≠ S → b ≠ z → b ≠ TO → b ≠ i1 → b ≠ i2 → h₁.get? b = some o → h'.get? b = some o) → h'.get? S = some { cls := .type "list", dict := none, data := .seq acc c, slots := #[] } → as.length = min n1 n2 → LzG P1 P2 lo h' as →
      acc.toList = as.map Value.ref → R (.ok (.ret res)) { s with heap := h', toks := tk }) :
    ∀ (k i : Nat) (h : Heap) (tk c : Nat) (acc : Array Value) (as : List Addr), min n1 n2 - i = k → i ≤ min n1 n2 → LzSt h z TI TO i1 i2 S St1 St2 i → (∀ b o, b ≠ S → b ≠ z → b ≠ TO → b ≠ i1 → b ≠ i2 → h₁.get? b = some o → h.get? b = some o) →
      h.get? S = some { cls := .type "list", dict := none, data := .seq acc c, slots := #[] } → acc.toList = as.map Value.ref → as.length = i → LzG P1 P2 lo h as → lo < h.objs.size →
      codeAny (model prog w) A (.builtin "list.extend.loop" ⟨[.ref S, .ref z, res], []⟩) R { s with heap := h, toks := tk } := by
  have hSi1 : S ≠ i1 := fun e => hs.2.2.2.1 (e ▸ Z.mem1)
  have hSi2 : S ≠ i2 := fun e => hs.2.2.2.2 (e ▸ Z.mem2)
  intro k
  induction k with
  | zero =>
    intro i h tk c acc as hk hi hst hkeep hS hacc hal hG hIs
    have hin : i = min n1 n2 := by omega
    refine codeAny_builtin PySem.F.entry_extend_loop ?_
    rw [Around.under_plainId PySem.F.plain_extend_loop _]
    show wpAny _ A.in1 (pyNext (.ref z) >>= _) _ _ _
    refine wpAny_bind (lz_done (s := { s with heap := h, toks := tk }) (A := A.in1) Z (D1 _ hh) (D2 _ hh) hst (by omega) (by omega) (by omega) fun h' tk' he => ?_)
    refine wpAny_pure (hR h' tk' acc c as (fun b o h1 h2 h3 h4 h5 e => he b o h2 h3 h4 h5 (hkeep b o h1 h2 h3 h4 h5 e)) (he S _ hs.1 hs.2.2.1 hSi1 hSi2 hS) (by omega) ⟨hG.above, fun j a hj => ?_⟩ hacc)
    obtain ⟨x, y, px, py, e3⟩ := hG.pairs j a hj
    have hb := hG.above a (List.mem_of_getElem? hj)
    exact ⟨x, y, px, py, he a _ (Nat.ne_of_gt (Nat.lt_of_le_of_lt hlo.2.1 hb)) (Nat.ne_of_gt (Nat.lt_of_le_of_lt hlo.2.2.1 hb)) (Nat.ne_of_gt (Nat.lt_of_le_of_lt hlo.2.2.2.1 hb)) (Nat.ne_of_gt (Nat.lt_of_le_of_lt hlo.2.2.2.2 hb)) e3⟩
  | succ k ih =>
    intro i h tk c acc as hk hi hst hkeep hS hacc hal hG hIs
    have hlt : i < min n1 n2 := by omega
    have hsz : acc.size = i := by rw [← Array.length_toList, hacc, List.length_map, hal]
    refine codeAny_builtin PySem.F.entry_extend_loop ?_
    rw [Around.under_plainId PySem.F.plain_extend_loop _]
    show wpAny _ A.in1 (pyNext (.ref z) >>= _) _ _ _
    refine wpAny_bind (lz_item (s := { s with heap := h, toks := tk }) (A := A.in1) (S := S) Z (D1 _ hh) (D2 _ hh) hTI2 (Heap.lt_size hS) hst (by omega) (by omega) fun x y h' tk' px py hst' ht hz hkp => ?_)
    dsimp only at ht hz hkp ⊢
    have hS' := hkp S _ hs.1 hs.2.2.1 hSi1 hSi2 hS
    have up : ∀ b o, b ≠ S → h'.get? b = some o → (h'.update S (Obj.mapSeq (·.push (Value.ref h.objs.size)))).get? b = some o := fun b o hb e => (Heap.get?_update_other _ _ (Ne.symm hb)).trans e
    have hSl : S < h.objs.size := Heap.lt_size hS
    show wpAny _ A.in1 (updateSeq S (·.push (Value.ref h.objs.size)) >>= _) _ _ _
    refine wpAny_bind ?_
    refine wpAny_updateSeq hS' rfl (wpAny_pure ⟨plainId_quiet PySem.F.plain_extend_loop _, ih (i + 1) _ tk' _ (acc.push (Value.ref h.objs.size)) (as ++ [h.objs.size]) (by omega) hlt (LzSt.keep Z (D1 _ hh) (D2 _ hh) hst' hs ?_ up)
      (fun b o h1 h2 h3 h4 h5 e => up b o h1 (hkp b o h2 h3 h4 h5 (hkeep b o h1 h2 h3 h4 h5 e))) (Heap.get?_update_self _ hS' rfl) (by rw [Array.toList_push, hacc, List.map_append]; rfl) (by rw [List.length_append, hal]; rfl) ⟨?_, ?_⟩ ?_⟩) (by rw [hsz]; omega) (by show (acc.push (Value.ref h.objs.size)).size ≤ sizeLine + 1; rw [Array.size_push]; omega)
    · have e : (h'.update S (Obj.mapSeq (·.push (Value.ref h.objs.size)))).objs.size = h'.objs.size := by first | exact Heap.size_update .. | exact (Heap.SameBut.update ..).1 | exact (Heap.SameBut.update ..).1.symm
      rw [e]; exact Nat.le_refl _
    · intro a ha
      rcases List.mem_append.mp ha with ha | ha
      · exact hG.above a ha
      · rw [List.mem_singleton.mp ha]; exact hIs
    · intro j b hj
      rcases Nat.lt_trichotomy j as.length with h1 | h1 | h1
      · rw [List.getElem?_append_left h1] at hj
        obtain ⟨x, y, px, py, e3⟩ := hG.pairs j b hj
        have hb := hG.above b (List.mem_of_getElem? hj)
        exact ⟨x, y, px, py, up b _ (Nat.ne_of_gt (Nat.lt_of_le_of_lt hlo.1 hb)) (hkp b _ (Nat.ne_of_gt (Nat.lt_of_le_of_lt hlo.2.1 hb)) (Nat.ne_of_gt (Nat.lt_of_le_of_lt hlo.2.2.1 hb)) (Nat.ne_of_gt (Nat.lt_of_le_of_lt hlo.2.2.2.1 hb)) (Nat.ne_of_gt (Nat.lt_of_le_of_lt hlo.2.2.2.2 hb)) e3)⟩
      · subst h1
        have hb : h.objs.size = b := by simpa using hj
        subst hb
        exact ⟨x, y, by subst hal; exact px, by subst hal; exact py, up _ _ (Nat.ne_of_gt hSl) ht⟩
      · have hnone : (as ++ [h.objs.size])[j]? = none := List.getElem?_eq_none (by rw [List.length_append, List.length_singleton]; omega)
        rw [hnone] at hj; cases hj
    · have e : (h'.update S (Obj.mapSeq (·.push (Value.ref h.objs.size)))).get? h.objs.size = _ := up _ _ (Nat.ne_of_gt hSl) ht
      exact Nat.lt_trans hIs (Heap.lt_size e)
end
end PD
end
section
set_option linter.all false
set_option maxRecDepth 100000
set_option Elab.async false
/-! list(zip(..)): a new list of new pairs (the way of the kit's list(d.items())) -/
namespace PD
open PySem PySem.Spec PyProof.Rows PySem.W PySem.Calls
open PySem (Draws ZipSep2)
theorem zip_no_len : typeLookup (.type "zip") "__len__" = pure none := am_miss_of_fast (by decide +kernel)
theorem zip_no_hint : typeLookup (.type "zip") "__length_hint__" = pure none := am_miss_of_fast (by decide +kernel)
section
variable {prog : Program} {w : World} {A : Around} {E : Value → Shared → Prop} {s : Shared} {z TI TO i1 i2 : Addr} {fp1 fp2 : List Addr} {n1 n2 : Nat} {P1 P2 : Nat → Value → Prop} {St1 St2 : Nat → Heap → Prop}
theorem zip_hint {r : Addr} (hT : s.TypeIs (.ref r) "zip") {Q : Bool → Shared → Prop} (h : Q true s) : wpAny (model prog w) A (Builtin.List.listLengthHint (.ref r)) Q E s := by
  unfold Builtin.List.listLengthHint
  refine wpAny_bind (wpAny_specialOf hT zip_no_len ?_)
  refine wpAny_bind (wpAny_specialOf hT zip_no_hint ?_)
  exact wpAny_pure h
/-- the zip stands as it was made -/
structure LzNew (h : Heap) (z TI TO i1 i2 : Addr) (St1 St2 : Nat → Heap → Prop) : Prop where
  z : IsZip h z TI TO .none
  to : ∃ x y, IsPair h TO x y
  ti : IsPair h TI (.ref i1) (.ref i2)
  s1 : St1 0 h
  s2 : St2 0 h
theorem LzNew.keep {h h' : Heap} (D1 : Draws prog w A i1 fp1 n1 P1 St1) (D2 : Draws prog w A i2 fp2 n2 P2 St2) (N : LzNew h z TI TO i1 i2 St1 St2) {S : Addr} (hs : S ≠ z ∧ S ≠ TI ∧ S ≠ TO ∧ S ∉ fp1 ∧ S ∉ fp2)
    (k : ∀ b o, b ≠ S → h.get? b = some o → h'.get? b = some o) : LzNew h' z TI TO i1 i2 St1 St2 := by
  obtain ⟨x, y, e⟩ := N.to
  obtain ⟨s1, s2, s3, s4, s5⟩ := hs
  exact ⟨k _ _ s1.symm N.z, ⟨x, y, k _ _ s3.symm e⟩, k _ _ s2.symm N.ti, D1.frame _ _ _ N.s1 fun b hb o e => k b o (fun q => s4 (q ▸ hb)) e, D2.frame _ _ _ N.s2 fun b hb o e => k b o (fun q => s5 (q ▸ hb)) e⟩
theorem LzNew.grow {h h' : Heap} (D1 : Draws prog w A i1 fp1 n1 P1 St1) (D2 : Draws prog w A i2 fp2 n2 P2 St2) (N : LzNew h z TI TO i1 i2 St1 St2)
    (k : ∀ b o, h.get? b = some o → h'.get? b = some o) : LzNew h' z TI TO i1 i2 St1 St2 := by
  obtain ⟨x, y, e⟩ := N.to
  exact ⟨k _ _ N.z, ⟨x, y, k _ _ e⟩, k _ _ N.ti, D1.frame _ _ _ N.s1 fun b hb o e => k b o e, D2.frame _ _ _ N.s2 fun b hb o e => k b o e⟩
theorem lz_extend {R : Result → Shared → Prop} (hh : A.handled = none) (Z : ZipSep2 z TI TO i1 i2 fp1 fp2) (D1 : ∀ A : Around, A.handled = none → Draws prog w A i1 fp1 n1 P1 St1) (D2 : ∀ A : Around, A.handled = none → Draws prog w A i2 fp2 n2 P2 St2) (hTI2 : TI ≠ i2)
    (N : LzNew s.heap z TI TO i1 i2 St1 St2) (S : Addr) (hs : S ≠ z ∧ S ≠ TI ∧ S ≠ TO ∧ S ∉ fp1 ∧ S ∉ fp2) (hlo : z ≤ S ∧ TO ≤ S ∧ i1 ≤ S ∧ i2 ≤ S) (hn : min n1 n2 ≤ sizeLine) (res : Value) (c₀ : Nat) (hS : s.heap.get? S = some { cls := .type "list", data := .seq #[] c₀ })
    (hR : ∀ h' tk acc c as, (∀ b o, b ≠ S → b ≠ z → b ≠ TO → b ≠ i1 → b ≠ i2 → s.heap.get? b = some o → h'.get? b = some o) → h'.get? S = some { cls := .type "list", dict := none, data := .seq acc c, slots := #[] } → as.length = min n1 n2 → LzG P1 P2 S h' as →
      acc.toList = as.map Value.ref → R (.ok (.ret res)) { s with heap := h', toks := tk }) :
    wpAny (model prog w) A.in1 (Builtin.List.listExtendWith (.ref S) (.ref z) res)
      (fun fin s' => match fin with | .done f => R (.ok f) s' | .again c' => c'.quiet = true ∧ codeAny (model prog w) A c' R s') (fun e s' => R (.error e) s') s := by
  have hT : s.TypeIs (.ref z) "zip" := ⟨_, N.z, rfl⟩
  have key : ∀ (h : Heap) (c₁ tk : Nat), (∀ b o, b ≠ S → s.heap.get? b = some o → h.get? b = some o) →
      h.get? S = some { cls := .type "list", data := .seq #[] c₁ } → codeAny (model prog w) A (.builtin "list.extend.loop" ⟨[.ref S, .ref z, res], []⟩) R { s with heap := h, toks := tk } := by
    intro h c₁ tk hk hS₁
    have N1 := N.keep (D1 A hh) (D2 A hh) hs hk
    have l1 : i1 < h.objs.size := let ⟨o, e⟩ := (D1 A hh).live _ _ N1.s1; Heap.lt_size e
    have l2 : i2 < h.objs.size := let ⟨o, e⟩ := (D2 A hh).live _ _ N1.s2; Heap.lt_size e
    exact lz_loop (s := s) (h₁ := s.heap) hh Z D1 D2 hTI2 hs ⟨Nat.le_refl _, hlo⟩ hn res hR (min n1 n2) 0 h tk c₁ #[] [] (Nat.sub_zero _) (Nat.zero_le _) ⟨.inl ⟨N1.z, N1.to⟩, N1.ti, N1.s1, N1.s2, Heap.lt_size N1.z, l1, l2⟩ (fun b o hb _ _ _ _ e => hk b o hb e) hS₁ rfl rfl
      ⟨(fun _ ha => nomatch ha), (fun j a hj => by simp at hj)⟩ (Heap.lt_size hS₁)
  unfold Builtin.List.listExtendWith
  refine wpAny_bind (wpAny_typeOf (T := "zip") hT ?_)
  have h1 : Builtin.List.listSameRef (.ref S) (.ref z) = false := by simp [Builtin.List.listSameRef, hs.1]
  have h2 : (Value.type "zip" == Value.type "list") = false := by decide
  have h3 : (Value.type "zip" == Value.type "tuple") = false := by decide
  simp only [h1, h2, h3, Bool.or_false, Bool.false_eq_true, if_false]
  refine wpAny_bind (wpAny_pyIter_zip N.z ?_)
  refine wpAny_bind (wpAny_holding (zip_hint hT ?_))
  refine wpAny_ite_split (fun _ => ?_) (fun _ => wpAny_pure ⟨plainId_quiet PySem.F.plain_extend_loop _, key _ c₀ _ (fun b o _ e => e) hS⟩)
  refine wpAny_bind (wpAny_rule ?_)
  refine wpAny_bind ?_
  show wpAny _ _ (updateSeq S (·.push .none) >>= fun _ => updateSeq S (·.pop)) _ _ _
  refine wpAny_bind (wpAny_updateSeq hS rfl ?_)
  have hS₂ := Heap.get?_update_self (Obj.mapSeq (·.push Value.none)) hS rfl
  refine wpAny_updateSeq (hz := by seq_fits) hS₂ rfl ?_
  have hS₃ := Heap.get?_update_self (Obj.mapSeq (·.pop)) hS₂ rfl
  refine wpAny_pure ⟨plainId_quiet PySem.F.plain_extend_loop _, key _ _ _ (fun b o hb e => ?_) hS₃⟩
  exact (Heap.get?_update_other _ _ (Ne.symm hb)).trans ((Heap.get?_update_other _ _ (Ne.symm hb)).trans e)
theorem lz_init {R : Result → Shared → Prop} (hh : A.handled = none) (Z : ZipSep2 z TI TO i1 i2 fp1 fp2) (D1 : ∀ A : Around, A.handled = none → Draws prog w A i1 fp1 n1 P1 St1) (D2 : ∀ A : Around, A.handled = none → Draws prog w A i2 fp2 n2 P2 St2) (hTI2 : TI ≠ i2)
    (N : LzNew s.heap z TI TO i1 i2 St1 St2) (S : Addr) (hs : S ≠ z ∧ S ≠ TI ∧ S ≠ TO ∧ S ∉ fp1 ∧ S ∉ fp2) (hlo : z ≤ S ∧ TO ≤ S ∧ i1 ≤ S ∧ i2 ≤ S) (hn : min n1 n2 ≤ sizeLine) (hS : s.heap.get? S = some { cls := .type "list", data := .seq #[] })
    (hR : ∀ h' tk acc c as, (∀ b o, b ≠ S → b ≠ z → b ≠ TO → b ≠ i1 → b ≠ i2 → s.heap.get? b = some o → h'.get? b = some o) → h'.get? S = some { cls := .type "list", dict := none, data := .seq acc c, slots := #[] } → as.length = min n1 n2 → LzG P1 P2 S h' as →
      acc.toList = as.map Value.ref → R (.ok (.ret .none)) { s with heap := h', toks := tk }) :
    wpAny (model prog w) A.in1 (Builtin.«list.__init__» ⟨[.ref S, .ref z], []⟩)
      (fun fin s' => match fin with | .done f => R (.ok f) s' | .again c' => c'.quiet = true ∧ codeAny (model prog w) A c' R s') (fun e s' => R (.error e) s') s := by
  show wpAny _ _ (do let old ← Builtin.List.listItems (.ref S); Builtin.List.listUpdate (.ref S) (fun _ => #[]); letGo old.toList.reverse; Builtin.List.listExtendWith (.ref S) (.ref z) .none) _ _ s
  refine wpAny_bind ?_
  unfold Builtin.List.listItems
  refine wpAny_bind (wpAny_seqItems hS rfl (wpAny_pure ?_))
  show wpAny _ _ (updateSeq S (fun _ => #[]) >>= fun _ => letGo (#[] : Array Value).toList.reverse >>= fun _ => Builtin.List.listExtendWith (.ref S) (.ref z) .none) _ _ s
  refine wpAny_bind (wpAny_updateSeq hS rfl ?_)
  have hS₂ := Heap.get?_update_self (Obj.mapSeq (fun _ => (#[] : Array Value))) hS rfl
  have oth : ∀ b o, b ≠ S → s.heap.get? b = some o → (s.heap.update S (Obj.mapSeq (fun _ => (#[] : Array Value)))).get? b = some o :=
    fun b o hb e => (Heap.get?_update_other _ _ (Ne.symm hb)).trans e
  refine wpAny_bind (wpAny_letGo ?_)
  exact lz_extend hh Z D1 D2 hTI2 (N.keep (D1 A hh) (D2 A hh) hs oth) S hs hlo hn .none _ hS₂ fun h' tk acc c as hk hS' hl hG hacc => hR h' tk acc c as (fun b o h1 h2 h3 h4 h5 e => hk b o h1 h2 h3 h4 h5 (oth b o h1 e)) hS' hl hG hacc
theorem lz_call {Q : Value → Shared → Prop} (hh : A.handled = none) (Z : ZipSep2 z TI TO i1 i2 fp1 fp2) (D1 : ∀ A : Around, A.handled = none → Draws prog w A i1 fp1 n1 P1 St1) (D2 : ∀ A : Around, A.handled = none → Draws prog w A i2 fp2 n2 P2 St2) (hTI2 : TI ≠ i2)
    (N : LzNew s.heap z TI TO i1 i2 St1 St2) (hf : (∀ b ∈ fp1, b < s.heap.objs.size) ∧ ∀ b ∈ fp2, b < s.heap.objs.size) (hn : min n1 n2 ≤ sizeLine)
    (hQ : ∀ h' tk acc c as, (∀ b o, b ≠ z → b ≠ TO → b ≠ i1 → b ≠ i2 → s.heap.get? b = some o → h'.get? b = some o) → h'.get? s.heap.objs.size = some { cls := .type "list", dict := none, data := .seq acc c, slots := #[] } → as.length = min n1 n2 → LzG P1 P2 s.heap.objs.size h' as →
      acc.toList = as.map Value.ref → Q (.ref s.heap.objs.size) { s with heap := h', toks := tk }) :
    wpAny (model prog w) A (call (.type "list") [.ref z]) Q E s := by
  refine callType_codes (Q₁ := fun obj s₁ => obj = .ref s.heap.objs.size ∧ s₁ = { s with heap := s.heap.push { cls := .type "list", data := .seq #[] } }) PySem.F.called_list (PySem.F.typeCall_list_1 _) PySem.F.entry_list_init
    (code_list_new _ ⟨rfl, rfl⟩) fun obj s₁ h₁ => ?_
  obtain ⟨rfl, rfl⟩ := h₁
  have hS : (s.heap.push { cls := .type "list", data := .seq #[] }).get? s.heap.objs.size = some { cls := .type "list", data := .seq #[] } := Heap.get?_push_size _ rfl
  have hr : z < s.heap.objs.size := Heap.lt_size N.z
  have hti : TI < s.heap.objs.size := Heap.lt_size N.ti
  have hto : TO < s.heap.objs.size := let ⟨_, _, e⟩ := N.to; Heap.lt_size e
  have l1 : i1 < s.heap.objs.size := let ⟨o, e⟩ := (D1 A hh).live _ _ N.s1; Heap.lt_size e
  have l2 : i2 < s.heap.objs.size := let ⟨o, e⟩ := (D2 A hh).live _ _ N.s2; Heap.lt_size e
  have N1 : LzNew (s.heap.push { cls := .type "list", data := .seq #[] }) z TI TO i1 i2 St1 St2 := N.grow (D1 A hh) (D2 A hh) fun b o e => Heap.get?_push_of_some _ e
  refine ⟨⟨_, hS, rfl⟩, PySem.F.args_list_init_2 _ _, lz_init (A := A.in1) (s := { s with heap := s.heap.push { cls := .type "list", data := .seq #[] } }) hh Z D1 D2 hTI2 N1 _ ⟨Nat.ne_of_gt hr, Nat.ne_of_gt hti, Nat.ne_of_gt hto, fun q => Nat.lt_irrefl _ (hf.1 _ q), fun q => Nat.lt_irrefl _ (hf.2 _ q)⟩ ⟨Nat.le_of_lt hr, Nat.le_of_lt hto, Nat.le_of_lt l1, Nat.le_of_lt l2⟩ hn hS fun h' tk acc c as hk hS' hl hG hacc => ?_⟩
  exact ⟨rfl, hQ h' tk acc c as (fun b o h1 h2 h3 h4 e => hk b o (Nat.ne_of_lt (Heap.lt_size e)) h1 h2 h3 h4 (Heap.get?_push_of_some _ e)) hS' hl hG hacc⟩
end
end PD
end
section
set_option linter.all false
set_option maxRecDepth 100000
set_option Elab.async false
namespace PD
open PySem L2 PySem.Spec PyProof.Rows
open PySem (Draws ZipSep2)
section
variable {X : Cx} {pins : List (Addr × Obj)} {σ : L2.St} {H H2 : Hp} {s : Shared} {h' : Heap}
/-- several new objects are laid and tracked -/
theorem invMore {t' : Nat} (I : Inv X pins σ H s) (k : ∀ b u, s.heap.get? b = some u → h'.get? b = some u) (h1 : ∀ b o, H b = some o → H2 b = some o) (h2 : ∀ b, b < s.heap.objs.size → H2 b = H b)
    (new : ∀ b o, s.heap.objs.size ≤ b → H2 b = some o → ObjOk X.prog X.w H2 h' b o) : Inv X pins σ H2 { s with heap := h', toks := t' } := by
  refine I.step (g' := s.gens) (d' := s.drawn) (ch := []) (fun b hb => nomatch hb) (fun b o _ _ _ e _ => k b o e) (fun b o _ _ _ e _ => ⟨o.slots, k b o e⟩) (fun b o _ e n => ?_) (fun b o _ e => ⟨o, k b o e⟩) (fun b xs e => h1 b _ e) (fun b o u e => h1 b _ e) (fun b ps e => ⟨#[], ?_⟩) (fun m hm => ?_) (fun b u e => ?_) I.bare
  · rw [h2 b (Heap.lt_size e)]; exact n
  · rw [h1 b _ e]; simp
  · obtain ⟨o, es, ep, ho, r⟩ := hm
    exact ⟨o, es, ep, k _ o ho, r⟩
  · by_cases hb : s.heap.objs.size ≤ b
    · exact new b u hb e
    · rw [h2 b (by omega)] at e
      exact (I.hok b u e).stay (fun c v _ q => k c v q) (fun c q => h1 c _ q) fun c xs q => h1 c _ q
/-- H2 is H1 with the list l of the new pairs as -/
structure Pairs2 (K : PySem.W.Frag) (H1 H2 : Hp) (l : Addr) (as : List Addr) (xs ys : List V) : Prop where
  old : ∀ b o, H1 b = some o → H2 b = some o
  new : H1 l = none
  lst : H2 l = some (.lst (as.map V.ref))
  len : as.length = min xs.length ys.length
  pr : ∀ (j : Nat) (a : Addr), as[j]? = some a → ∃ x y, xs[j]? = some x ∧ ys[j]? = some y ∧ H2 a = some (.tup [x, y])
def tLz (K : PySem.W.Frag) (ta : TA) : TE := fun σ H Q => ta σ H fun vs H1 => ∃ k k' a b xs ys, vs = [.ref a, .ref b] ∧ SqK K H1 k a xs ∧ SqK K H1 k' b ys ∧ ∀ H2 l as, Pairs2 K H1 H2 l as xs ys → Q (.ref l) H2
theorem pe_listZip {e e2 : Expr} {ta : TA} {p pos p2 pos2 : Pos} (hgl : Gl X "list") (hml : X.mg "list" = none) (hg : Gl X "zip") (hm : X.mg "zip" = none) (ha : PA X [e, e2] ta)
    (hs : starEach [e, e2] X.env = (false, eval e X.env) :: starEach [e2] X.env := by rfl) (hpl : (backTo pos2 (starEach [e2] X.env)).any (·.1) = false := by rfl)
    (hs2 : starEach [.Call (.Name "zip" p2) [e, e2] [] pos2] X.env = [(false, eval (.Call (.Name "zip" p2) [e, e2] [] pos2) X.env)] := by rfl) (hc : X.calm = true := by rfl) :
    PE X (.Call (.Name "list" p) [.Call (.Name "zip" p2) [e, e2] [] pos2] [] pos) (tLz X.K ta) := by
  refine ⟨fun pins s σ H Q I h => ?_⟩
  refine wpAny_Call_Name_kw (ld_blt I hgl hml (u := .type "list") (by decide +kernel) ?_)
  refine PyProof.Rows.callWith_type1 ?_ hs2 rfl
  rw [hs2]
  show wpAny _ _ (spliced ((false, eval (.Call (.Name "zip" p2) [e, e2] [] pos2) X.env) :: backTo pos [])) _ _ s
  refine Calls.spliced_cons (Call_ (ld_blt I hg hm PyProof.Rows.boot_zip (PyProof.Rows.callWith_type1 (thn (ha.run pos2 pins s σ H _ I h) fun us s1 ⟨vs, H1, I1, r1, q1⟩ => ?_) hs hpl)))
  obtain ⟨k, k', a, b, xs, ys, ex, hqx, hqy, q⟩ := q1
  subst ex
  cases r1 with
  | cons r rr =>
    cases rr with
    | cons r' rr =>
      cases rr
      cases r
      cases r'
      obtain ⟨its, rv, p1, la⟩ := Inv.sqK I1 hqx
      obtain ⟨its2, rv2, p2, lb⟩ := Inv.sqK I1 hqy
      refine zip_begins2 (beginsK a its.toArray) (beginsK b its2.toArray) p1 p2 fun h' hz hTI hTO h1 h2 hsz hk => ?_
      refine wpAny_pure ?_
      have hd := I1.ok.hd hc
      have l1 := rv.length
      have l2 := rv2.length
      have ps : ∀ {k : SK} {a : Addr} {xs : List V} {vs : List Value}, SqK X.K H1 k a xs → Vals xs vs → vs.length ≤ sizeLine := fun {k} {a} {xs} {vs} q r => by
        rw [← r.length]
        cases k with
        | l => obtain ⟨_, _, _, z⟩ := I1.list q; exact z
        | t => obtain ⟨_, _, _, z⟩ := I1.tuple q; exact z
      have zs1 := ps hqx rv
      have zs2 := ps hqy rv2
      have keepK : ∀ {k : SK} {a : Addr} {its : List Value} {h h' : Heap}, (∀ b o, h.get? b = some o → h'.get? b = some o) → IsK h k a its.toArray → IsK h' k a its.toArray := fun {k} {a} {its} {h} {h'} hk p => by
        cases k with
        | l => obtain ⟨o, e, r⟩ := p; exact ⟨o, hk _ _ e, r⟩
        | t => obtain ⟨o, e, r⟩ := p; exact ⟨o, hk _ _ e, r⟩
      have Z : ZipSep2 (s1.heap.objs.size + 4) (s1.heap.objs.size + 2) (s1.heap.objs.size + 3) s1.heap.objs.size (s1.heap.objs.size + 1) [s1.heap.objs.size, a] [s1.heap.objs.size + 1, b] := zip_sep2 (fp1 := [a]) (fp2 := [b]) (by simpa using la) (by simpa using lb)
      refine lz_call (n1 := its.toArray.size) (n2 := its2.toArray.size) (P1 := fun i v => its.toArray[i]? = some v) (P2 := fun i v => its2.toArray[i]? = some v) (s := { s1 with heap := h' }) (A := X.A) hd Z
        (fun A hA => drawsK (prog := X.prog) (w := X.w) (k := k) (A := A) hA s1.heap.objs.size a (Nat.ne_of_lt la) its.toArray) (fun A hA => drawsK (prog := X.prog) (w := X.w) (k := k') (A := A) hA (s1.heap.objs.size + 1) b (Nat.ne_of_lt (Nat.lt_succ_of_lt lb)) its2.toArray)
        (fun e => absurd (show s1.heap.objs.size + 2 = s1.heap.objs.size + 1 from e) (by omega)) ⟨hz, ⟨_, _, hTO⟩, hTI, ⟨itObj.is h1, keepK hk p1⟩, ⟨itObj.is h2, keepK hk p2⟩⟩ ⟨fun c hc' => ?_, fun c hc' => ?_⟩ (by simp only [List.size_toArray]; omega) fun h'' tk acc nn as hk2 hS hal hG hacc => ?_
      · have : c = s1.heap.objs.size ∨ c = a := by simpa using hc'
        show c < h'.objs.size
        rw [hsz]
        rcases this with rfl | rfl
        · exact Nat.lt_add_of_pos_right (by decide)
        · exact Nat.lt_of_lt_of_le la (Nat.le_add_right _ _)
      · have : c = s1.heap.objs.size + 1 ∨ c = b := by simpa using hc'
        show c < h'.objs.size
        rw [hsz]
        rcases this with rfl | rfl
        · exact Nat.add_lt_add_left (show 1 < 5 by decide) _
        · exact Nat.lt_of_lt_of_le lb (Nat.le_add_right _ _)
      replace hS : h''.get? h'.objs.size = _ := hS
      replace hG : LzG _ _ h'.objs.size h'' as := hG
      rw [hsz] at hS hG
      simp only [List.size_toArray] at hal
      -- the pairs as values
      have pv : ∀ (j : Nat) (c : Addr), as[j]? = some c → ∃ x y u v, xs[j]? = some x ∧ ys[j]? = some y ∧ RelV x u ∧ RelV y v ∧ h''.get? c = some { cls := .type "tuple", data := .seq #[u, v] } := fun j c e => by
        obtain ⟨u, v, e1, e2, e3⟩ := hG.pairs j c e
        rw [List.getElem?_toArray] at e1 e2
        have lx : j < xs.length := by rw [l1]; exact (List.getElem?_eq_some_iff.mp e1).1
        have ly : j < ys.length := by rw [l2]; exact (List.getElem?_eq_some_iff.mp e2).1
        obtain ⟨u', hu, ru⟩ := rv.get (List.getElem?_eq_getElem lx)
        obtain ⟨v', hv, rvv⟩ := rv2.get (List.getElem?_eq_getElem ly)
        rw [e1] at hu; cases hu
        rw [e2] at hv; cases hv
        exact ⟨_, _, u, v, List.getElem?_eq_getElem lx, List.getElem?_eq_getElem ly, ru, rvv, e3⟩
      let L := s1.heap.objs.size + 5
      let H2 : Hp := fun c => if c = L then some (.lst (as.map V.ref)) else match as.idxOf? c with
        | some j => match xs[j]?, ys[j]? with
          | some x, some y => some (.tup [x, y])
          | _, _ => none
        | none => H1 c
      have above : ∀ c ∈ as, L < c := hG.above
      have low : ∀ c, c < s1.heap.objs.size → H2 c = H1 c := fun c hc => by
        have e : as.idxOf? c = none := List.idxOf?_eq_none_iff.mpr fun z => by have := above c z; show False; simp only [L] at this; omega
        simp only [H2, e, L]
        rw [if_neg (Nat.ne_of_lt (Nat.lt_add_right _ hc))]
      have old : ∀ c o, H1 c = some o → H2 c = some o := fun c o e => by rw [low c (I1.hok.lt e)]; exact e
      have hL : H2 L = some (.lst (as.map V.ref)) := by simp only [H2, if_true]
      have hP : ∀ (c : Addr), c ∈ as → ∃ j x y u v, as[j]? = some c ∧ xs[j]? = some x ∧ ys[j]? = some y ∧ RelV x u ∧ RelV y v ∧ h''.get? c = some { cls := .type "tuple", data := .seq #[u, v] } ∧ H2 c = some (.tup [x, y]) := fun c hc => by
        cases e : as.idxOf? c with
        | none => exact absurd hc (List.idxOf?_eq_none_iff.mp e)
        | some j =>
          have ej : as[j]? = some c := by
            obtain ⟨hj, h1, _⟩ := List.idxOf?_eq_some_iff.mp e
            rw [List.getElem?_eq_getElem hj, h1]
          obtain ⟨x, y, u, v, e1, e2, r1, r2, e3⟩ := pv j c ej
          refine ⟨j, x, y, u, v, ej, e1, e2, r1, r2, e3, ?_⟩
          have := above c hc
          simp only [H2, e, e1, e2]
          rw [if_neg (Nat.ne_of_gt this)]
      have I2 : Inv X pins σ H2 { s1 with heap := h'', toks := tk } := by
        refine invMore I1 (fun c o e => ?_) old low fun c o hc e => ?_
        · have lt := Heap.lt_size e
          exact hk2 c o (Nat.ne_of_lt (Nat.lt_add_right _ lt)) (Nat.ne_of_lt (Nat.lt_add_right _ lt)) (Nat.ne_of_lt lt) (Nat.ne_of_lt (Nat.lt_add_right _ lt)) (hk c o e)
        · by_cases ec : c = L
          · subst ec
            rw [hL] at e; cases e
            have vr : ∀ l : List Addr, Vals (l.map V.ref) (l.map Value.ref) := fun l => by
              induction l with
              | nil => exact .nil
              | cons a l ih => exact .cons rfl ih
            refine ⟨by rw [List.length_map]; omega, as.map Value.ref, nn, vr as, ?_⟩
            rw [← hacc]
            exact hS
          · have ha : c ∈ as := by
              by_cases z : c ∈ as
              · exact z
              · have e0 : as.idxOf? c = none := List.idxOf?_eq_none_iff.mpr z
                simp only [H2, e0] at e
                rw [if_neg ec] at e
                exact absurd (I1.hok.lt e) (Nat.not_lt.mpr hc)
            obtain ⟨j, x, y, u, v, _, _, _, r1, r2, e3, e4⟩ := hP c ha
            rw [e4] at e; cases e
            exact ⟨by show 2 ≤ sizeLine; decide, [u, v], .cons r1 (.cons r2 .nil), ⟨_, e3, rfl, _, rfl⟩⟩
      refine ⟨.ref L, H2, I2, ?_, q H2 L as ⟨old, I1.hok.fresh (Nat.le_add_right _ 5), hL, by rw [hal, l1, l2], fun j c e => ?_⟩⟩
      · show Value.ref h'.objs.size = Value.ref L
        rw [hsz]
      · obtain ⟨x, y, u, v, e1, e2, r1, r2, e3⟩ := pv j c e
        obtain ⟨j', x', y', u', v', ej', e1', e2', r1', r2', e3', e4'⟩ := hP c (List.mem_of_getElem? e)
        rw [e3] at e3'
        cases e3'
        cases RelV.inj r1 r1'
        cases RelV.inj r2 r2'
        exact ⟨x, y, e1, e2, e4'⟩
end
end PD
end
section
set_option linter.all false
set_option maxRecDepth 100000
set_option Elab.async false
namespace PD
open PySem L2
section
variable {X : Cx} {P : Pl} {B : Base} {W : Wi} {C : Nat → Callee} {σ : L2.St} {H : Hp}
theorem FzL.ofGet {K : PySem.W.Frag} {Z : Addr → Prop} : ∀ {vs : List V} {ds : List PyData}, vs.length = ds.length → (∀ (j : Nat) (v : V) (d : PyData), vs[j]? = some v → ds[j]? = some d → Fz K Z H v d) → FzL K Z H vs ds
  | [], [], _, _ => .nil
  | [], _ :: _, h, _ => by simp at h
  | _ :: _, [], h, _ => by simp at h
  | v :: vs, d :: ds, h, f => .cons (f 0 v d rfl rfl) (FzL.ofGet (by simpa using h) fun j v d e1 e2 => f (j + 1) v d (by simpa using e1) (by simpa using e2))
theorem srcTo_list {xs : List PyData} {m : MV} (h : srcTo .list xs = some m) : m = .ml xs := by
  have h : (if xs.length ≤ line then some (MV.ml xs) else none) = some m := h
  split at h
  · cases h; rfl
  · cases h
theorem s_listZip {e e' : Expr} {a b : E} {p pos p2 pos2 : Pos} (hgl : Gl X "list") (hml : X.mg "list" = none) (hg : Gl X "zip") (hm : X.mg "zip" = none) (ha : PA X [e, e'] (rL X.K P B W (evL C (.cons a (.cons b .nil)))))
    (hs : starEach [e, e'] X.env = (false, eval e X.env) :: starEach [e'] X.env := by rfl) (hpl : (backTo pos2 (starEach [e'] X.env)).any (·.1) = false := by rfl)
    (hs2 : starEach [.Call (.Name "zip" p2) [e, e'] [] pos2] X.env = [(false, eval (.Call (.Name "zip" p2) [e, e'] [] pos2) X.env)] := by rfl) (hc : X.calm = true := by rfl) :
    PE X (.Call (.Name "list" p) [.Call (.Name "zip" p2) [e, e'] [] pos2] [] pos) (rO X.K P B W (evO C (.src .list (.zip (.cons a (.cons b .nil)))))) := by
  refine PE.imp (pe_listZip hgl hml hg hm ha hs hpl hs2 hc) fun σ H Q ⟨env, ts, S, h⟩ => ?_
  have h : wpM W (M.bind (M.bind (evL C (.cons a (.cons b .nil))) fun os => match os with
    | [x, y] => M.bind (walkD x) fun a => M.bind (walkD y) fun b => .pure (zip2 a b)
    | _ => .no) fun w => M.ofO (srcTo .list w)) env _ := h
  rw [wpM_bind, wpM_bind] at h
  refine ⟨env, ts, S, wpM_mono (wp_and h) fun os e ⟨hl, h⟩ vs H' hlv S1 => ?_⟩
  have h1 := evL_len2 hl
  obtain ⟨o1, o2, rfl⟩ := len2 h1
  obtain ⟨v1, v2, rfl⟩ := len2 (hlv.trans h1)
  · clear h1 hlv hl
    have h : wpM W (M.bind (walkD o1) fun a => M.bind (walkD o2) fun b => .pure (zip2 a b)) e _ := h
    rw [wpM_bind] at h
    have S1 : Sim X.K P B e (ts ++ (v1, o1) :: [(v2, o2)]) σ H' := S1
    obtain ⟨k, m, xs, e1, S2, hm, h⟩ := wp_walkD S1 h
    rw [wpM_bind] at h
    have S2 : Sim X.K P B e1 ((ts ++ [(v1, .v m)]) ++ (v2, o2) :: []) σ H' := by simpa using S2
    obtain ⟨k', m', ys, e2, S3, hm', h⟩ := wp_walkD S2 h
    have S3 : Sim X.K P B e2 (ts ++ hv [(v1, m), (v2, m')]) σ H' := by simpa using S3
    obtain ⟨a1, vs1, ev1, hq1, r1⟩ := seqM_at hm (S3.held (v := v1) (m := m) (by simp))
    obtain ⟨a2, vs2, ev2, hq2, r2⟩ := seqM_at hm' (S3.held (v := v2) (m := m') (by simp))
    subst ev1 ev2
    refine ⟨k, k', a1, a2, vs1, vs2, rfl, hq1, hq2, fun H2 l as pr => ?_⟩
    have h : wpM W (M.ofO (srcTo .list (zip2 xs ys))) e2 _ := h
    unfold M.ofO at h
    cases e3 : srcTo .list (zip2 xs ys) with
    | none => rw [e3] at h; exact h.elim
    | some mm =>
      rw [e3] at h
      cases srcTo_list e3
      refine h (.ref l) H2 ?_
      have q1 := r1.drop'
      have q2 := r2.drop'
      have grow : ∀ {vs ds}, FzL X.K (Zf B (cell e2 σ ts)) H' vs ds → FzL X.K (Zf B (cell e2 σ (ts ++ [(.ref l, .v (.ml (zip2 xs ys)))]))) H2 vs ds := fun {vs ds} r => by
        have r2 : FzL X.K (Zf B (cell e2 σ (ts ++ [(.ref l, .v (.ml (zip2 xs ys)))]))) (upd H' l (.lst (as.map V.ref))) vs ds := r.newZ pr.new
        refine FzL.go (fun b u x z => ⟨?_, z⟩) (fun b vs x => ?_) r2
        · by_cases hb : b = l
          · subst hb; rw [upd_same] at x; cases x; exact pr.lst
          · rw [upd_ne hb] at x; exact pr.old b u x
        · by_cases hb : b = l
          · subst hb; rw [upd_same] at x; cases x
          · rw [upd_ne hb] at x; exact pr.old b _ x
      refine S3.drop.pushN rfl pr.new pr.old ⟨l, _, rfl, pr.lst, FzL.ofGet ?_ fun j v d ev ed => ?_⟩
      · have l1 := r1.length
        have l2 := r2.length
        rw [List.length_map, pr.len, l1, l2]
        unfold zip2
        rw [List.length_zipWith]
      · rw [List.getElem?_map] at ev
        cases ej : as[j]? with
        | none => rw [ej] at ev; cases ev
        | some c =>
          rw [ej] at ev
          cases ev
          obtain ⟨x, y, ex, ey, hc⟩ := pr.pr j c ej
          obtain ⟨dx, dy, edx, edy, rfl⟩ := zip2_get ed
          obtain ⟨dx', e1', f1⟩ := (grow q1).get ex
          obtain ⟨dy', e2', f2⟩ := (grow q2).get ey
          rw [edx] at e1'; cases e1'
          rw [edy] at e2'; cases e2'
          exact .tup hc (.cons f1 (.cons f2 .nil))
variable {io : Option Nat} {n m : Nat} {tb : Str → Option Nat} {bl : Str → Bool}
theorem glz (c : Ctx X P B W C io n m tb bl) {e e' : Expr} {a b : E} {p pos p2 pos2 : Pos} (ha : PA X [e, e'] (rL X.K P B W (evL C (.cons a (.cons b .nil))))) (hb : bl "list" = true := by decide +kernel) (hb2 : bl "zip" = true := by decide +kernel) (hg : Gl X "list" := by rfl) (hg2 : Gl X "zip" := by rfl)
    (hs : starEach [e, e'] X.env = (false, eval e X.env) :: starEach [e'] X.env := by rfl) (hpl : (backTo pos2 (starEach [e'] X.env)).any (·.1) = false := by rfl)
    (hs2 : starEach [.Call (.Name "zip" p2) [e, e'] [] pos2] X.env = [(false, eval (.Call (.Name "zip" p2) [e, e'] [] pos2) X.env)] := by rfl) :
    PE X (.Call (.Name "list" p) [.Call (.Name "zip" p2) [e, e'] [] pos2] [] pos) (rO X.K P B W (evO C (.src .list (.zip (.cons a (.cons b .nil)))))) := s_listZip hg (c.gb _ hb) hg2 (c.gb _ hb2) ha hs hpl hs2 c.calm
end
end PD
end
section
set_option linter.all false
set_option maxRecDepth 100000
namespace PD
open PySem L2
def isGlo (x : Str) : He.Fa → Bool
  | .glo y => decide (y = x)
  | _ => false
def isFree (x : Str) : He.Fa → Bool
  | .free y => decide (y = x)
  | _ => false
def isIntF (x : Str) (i : Int) : He.Fa → Bool
  | .int y j => decide (y = x) && decide (j = i)
  | _ => false
def isStrF (x z : Str) : He.Fa → Bool
  | .str y u => decide (y = x) && decide (u = z)
  | _ => false
section
variable {K : PySem.W.Frag} {mg : Str → Option Value} {h : Heap} {fa : List He.Fa} {fn : List He.DefD}
theorem says_mem (c : He.SaysD fa fn K) {f : He.Fa} (hf : f ∈ fa) : f.ok K = true := by
  obtain ⟨i, hi, e⟩ := List.mem_iff_getElem.mp hf
  exact c.fact i (f := f) (by rw [List.getElem?_eq_getElem hi, e])
theorem lookup_mem {x : Str} {i : Nat} : ∀ {l : List (Str × Nat)}, l.lookup x = some i → (x, i) ∈ l
  | [], h => by cases h
  | (y, j) :: r, h => by
    rw [List.lookup_cons] at h
    cases e : x == y with
    | true =>
      rw [e] at h
      have := eq_of_beq e
      subst this
      cases h
      exact List.mem_cons_self
    | false => rw [e] at h; exact List.mem_cons_of_mem _ (lookup_mem h)
theorem glo_of (c : He.SaysD fa fn K) (X : K.In h) (G : h.Ns mainGlobals mg) {x : Str} (hx : fa.any (isGlo x) = true) : mg x = some (.ref (He.ga K x)) := by
  obtain ⟨f, hf, e⟩ := List.any_eq_true.mp hx
  cases f with
  | glo y => cases (of_decide_eq_true e : y = x); exact He.glo_ok X G (says_mem c hf)
  | _ => cases e
theorem free_of (c : He.SaysD fa fn K) (X : K.In h) (G : h.Ns mainGlobals mg) {x : Str} (hx : fa.any (isFree x) = true) : mg x = none := by
  obtain ⟨f, hf, e⟩ := List.any_eq_true.mp hx
  cases f with
  | free y => cases (of_decide_eq_true e : y = x); exact He.free_ok X G (says_mem c hf)
  | _ => cases e
theorem int_of (c : He.SaysD fa fn K) (X : K.In h) (G : h.Ns mainGlobals mg) {x : Str} {i : Int} (hx : fa.any (isIntF x i) = true) : ∃ t, mg x = some (.int i t) := by
  obtain ⟨f, hf, e⟩ := List.any_eq_true.mp hx
  cases f with
  | int y j =>
    have e : (decide (y = x) && decide (j = i)) = true := e
    rw [Bool.and_eq_true] at e
    cases (of_decide_eq_true e.1 : y = x)
    cases (of_decide_eq_true e.2 : j = i)
    exact He.int_ok X G (says_mem c hf)
  | _ => cases e
theorem str_of (c : He.SaysD fa fn K) (X : K.In h) (G : h.Ns mainGlobals mg) {x z : Str} (hx : fa.any (isStrF x z) = true) : ∃ t, mg x = some (.str z t) := by
  obtain ⟨f, hf, e⟩ := List.any_eq_true.mp hx
  cases f with
  | str y j =>
    have e : (decide (y = x) && decide (j = z)) = true := e
    rw [Bool.and_eq_true] at e
    cases (of_decide_eq_true e.1 : y = x)
    cases (of_decide_eq_true e.2 : j = z)
    exact He.str_ok X G (says_mem c hf)
  | _ => cases e
theorem gf_of {tbL : List (Str × Nat)} {nm : Nat → Str} (c : He.SaysD fa fn K) (X : K.In h) (G : h.Ns mainGlobals mg) (hx : (tbL.all fun p => fa.any (isGlo p.1) && decide (nm p.2 = p.1)) = true) :
    ∀ x i, tbL.lookup x = some i → mg x = some (.ref (He.ga K (nm i))) := fun x i e => by
  have q := List.all_eq_true.mp hx _ (lookup_mem e)
  rw [Bool.and_eq_true] at q
  rw [glo_of c X G q.1, of_decide_eq_true q.2]
theorem gb_of {blL : List Str} (c : He.SaysD fa fn K) (X : K.In h) (G : h.Ns mainGlobals mg) (hx : (blL.all fun x => fa.any (isFree x)) = true) : ∀ x, blL.contains x = true → mg x = none := fun x e =>
  free_of c X G (List.all_eq_true.mp hx x (List.contains_iff_mem.mp e))
end
/-- a law's end, errors told by the world -/
theorem walk_ofW {l : PySem.W.OpenLaw} {n k : Nat} {q : Program} {loose : List Str} {XP : (Str → Option Value) → Heap → Prop} {YP : World → Heap → Prop} {d : DefRec} {x : Str}
    (hn : l.most = some n) (hn2 : n ≤ sizeLine) (hdf : d.params.defaults = []) (hr : Room k callerA)
    (F : ∀ (w : World) (mg : Str → Option Value) (fa : Addr) (h : Heap), YP w h → h.Ns mainGlobals mg → mg d.name = some (.ref fa) →
      ∃ (K : PySem.W.Frag) (fd : FuncData) (sp : Sp), K.In h ∧ (∀ (s : Shared) (u : Value), BindsTo s fd ⟨[u], []⟩ [(x, u)]) ∧
        (∀ (H : Hp) (a : Addr) (ns : List Int), ns.length ≤ n → Only H → SqL K H a (ns.map V.int) → sp [.ref a] H (fun v _ => v = .bl true) fun _ _ _ => False) ∧
        ∀ base : Heap, K.In base → base.Ns mainGlobals mg → FnOk l.prog w K mg base (L2.CX l.prog w) k fa fd [x] sp) :
    PySem.W.WalkO q loose XP YP l.row.toRowW d [] (fun f vs => PySem.call f vs) := by
  refine Att.attach_call hn hdf fun w s₀ s₁ mg mb fa o pm cd doc a vs ns G Y ho hd hcd hmg hobj hints hlen hg => ?_
  obtain ⟨K, fd, sp, KX, hb, hsp, hF⟩ := F w mg fa _ Y G.T.g hmg
  exact law_call KX G.T.g G.T.b G.T.builtins G.T.nolimit hg hobj hints (Nat.le_trans hlen hn2) hr hF hb (fun H hO hS => hsp H a ns hlen hO hS) fun H e s' ⟨_, _, _, _, _, _, _, _, _, _, _, _, z⟩ => z
end PD
end
section
set_option linter.all false
set_option maxRecDepth 100000
namespace PD
open PySem
/-- 0 behind(code, state, letter): 0=code 1=state 2=letter 3=whole 4=bar 5=red 6=yellow 7=left -/
def A_k30_0 : FDef := ⟨3, 8, none, (.cons (.unp (.t (.cons (.n 3) (.cons (.n 4) (.cons (.n 5) .nil)))) (.var 0))
    (.cons (.unp (.t (.cons (.n 6) (.cons (.n 7) .nil))) (.var 1))
    (.cons (.iff (.e (.cmp .eq (.var 2) (.cst (.str "b")))) (.cons (.ret (.tup (.cons (.var 6) (.cons (.bin .sub (.var 7) (.cst (.int 1))) .nil))))
    .nil) .nil)
    (.cons (.iff (.e (.cmp .eq (.var 2) (.cst (.str "r")))) (.cons (.ret (.tup (.cons (.var 6) (.cons (.var 5) .nil))))
    .nil) .nil)
    (.cons (.iff (.e (.cmp .eq (.var 2) (.cst (.str "y")))) (.cons (.ret (.ite (.e (.cmp .eq (.bin .add (.var 6) (.cst (.int 1))) (.var 3))) (.tup (.cons (.cst (.int 0)) (.cons (.var 4) .nil))) (.tup (.cons (.bin .add (.var 6) (.cst (.int 1))) (.cons (.cst (.int 0)) .nil)))))
    .nil) .nil)
    (.cons (.ret (.var 1))
    .nil))))))⟩
/-- 1 letters_of(state): 0=state -/
def A_k30_1 : FDef := ⟨1, 1, none, (.cons (.ret (.ite (.e (.cmp .gt (.sub (.var 0) (.cst (.int 1))) (.cst (.int 0)))) (.tup (.cons (.cst (.str "b")) .nil)) (.tup (.cons (.cst (.str "n")) (.cons (.cst (.str "r")) (.cons (.cst (.str "y")) .nil))))))
    .nil)⟩
/-- 2 state_of(code, cards): 0=code 1=cards 2=state 3=letter -/
def A_k30_2 : FDef := ⟨2, 4, none, (.cons (.set 2 (.tup (.cons (.cst (.int 0)) (.cons (.cst (.int 0)) .nil))))
    (.cons (.for (.n 3) (.sq (.var 1)) (.cons (.iff (.e (.cmp .notin (.var 3) (.call 1 (.cons (.var 2) .nil)))) (.cons (.ret (.cst PyData.none))
    .nil) .nil)
    (.cons (.set 2 (.call 0 (.cons (.var 0) (.cons (.var 2) (.cons (.var 3) .nil)))))
    .nil)))
    (.cons (.ret (.var 2))
    .nil)))⟩
/-- 3 bars_left(code, cards): 0=code 1=cards -/
def A_k30_3 : FDef := ⟨2, 2, none, (.cons (.ret (.sub (.call 2 (.cons (.var 0) (.cons (.var 1) .nil))) (.cst (.int 1))))
    .nil)⟩
/-- 4 yellows(code, cards): 0=code 1=cards -/
def A_k30_4 : FDef := ⟨2, 2, none, (.cons (.ret (.sub (.call 2 (.cons (.var 0) (.cons (.var 1) .nil))) (.cst (.int 0))))
    .nil)⟩
/-- 5 can_play(code, squad): 0=code 1=squad 2=index 3=cards -/
def A_k30_5 : FDef := ⟨2, 4, none, (.cons (.ret (.bi .tuple (.cons (.comp (.var 2) (.t (.cons (.n 2) (.cons (.n 3) .nil))) (.enm (.var 1)) (.e (.cmp .eq (.call 3 (.cons (.var 0) (.cons (.var 3) .nil))) (.cst (.int 0))))) .nil)))
    .nil)⟩
/-- 6 at_risk(code, squad): 0=code 1=squad 2=index -/
def A_k30_6 : FDef := ⟨2, 3, none, (.cons (.ret (.bi .tuple (.cons (.comp (.var 2) (.n 2) (.sq (.call 5 (.cons (.var 0) (.cons (.var 1) .nil)))) (.e (.cmp .eq (.bin .add (.call 4 (.cons (.var 0) (.cons (.sub (.var 1) (.var 2)) .nil))) (.cst (.int 1))) (.sub (.var 0) (.cst (.int 0)))))) .nil)))
    .nil)⟩
/-- 7 can_row(code, squad, row): 0=code 1=squad 2=row 3=number 4=players 5=index -/
def A_k30_7 : FDef := ⟨3, 6, none, (.cons (.for (.t (.cons (.n 3) (.cons (.n 4) .nil))) (.enm (.var 2)) (.cons (.iff (.e (.bi .any (.cons (.comp (.cmp .gt (.call 3 (.cons (.var 0) (.cons (.sub (.var 1) (.var 5)) .nil))) (.var 3)) (.n 5) (.sq (.var 4)) (.e (.cst (.bool true)))) .nil))) (.cons (.ret (.cst (.bool false)))
    .nil) .nil)
    .nil))
    (.cons (.ret (.cst (.bool true)))
    .nil))⟩
/-- 8 sure_players(code, squad, many): 0=code 1=squad 2=many 3=some 4=index -/
def A_k30_8 : FDef := ⟨3, 5, none, (.cons (.set 3 (.call 5 (.cons (.var 0) (.cons (.var 1) .nil))))
    (.cons (.ret (.bi .tuple (.cons (.comp (.var 4) (.n 4) (.sq (.var 3)) (.e (.cmp .lt (.bin .sub (.bin .add (.call 4 (.cons (.var 0) (.cons (.sub (.var 1) (.var 4)) .nil))) (.var 2)) (.cst (.int 1))) (.sub (.var 0) (.cst (.int 0)))))) .nil)))
    .nil))⟩
/-- 9 barred_in(code, state, many): 0=code 1=state 2=many 3=found 4=turn 5=later 6=one 7=letter 8=yellow 9=left -/
def A_k30_9 : FDef := ⟨3, 10, none, (.cons (.set 3 (.dct (.cons (.var 1) (.cons (.cst (.bool true)) .nil))))
    (.cons (.for (.n 4) (.rng (.cons (.bin .sub (.var 2) (.cst (.int 1))) .nil)) (.cons (.set 5 (.dct .nil))
    (.cons (.for (.n 6) (.sq (.var 3)) (.cons (.for (.n 7) (.sq (.call 1 (.cons (.var 6) .nil))) (.cons (.ssb 5 (.call 0 (.cons (.var 0) (.cons (.var 6) (.cons (.var 7) .nil)))) (.cst (.bool true)))
    .nil))
    .nil))
    (.cons (.set 3 (.var 5))
    .nil))))
    (.cons (.ret (.bi .any (.cons (.comp (.cmp .gt (.var 9) (.cst (.int 0))) (.t (.cons (.n 8) (.cons (.n 9) .nil))) (.sq (.var 3)) (.e (.cst (.bool true)))) .nil)))
    .nil)))⟩
/-- 10 can_be_barred(code, cards, many): 0=code 1=cards 2=many -/
def A_k30_10 : FDef := ⟨3, 3, none, (.cons (.ret (.call 9 (.cons (.var 0) (.cons (.call 2 (.cons (.var 0) (.cons (.var 1) .nil))) (.cons (.var 2) .nil)))))
    .nil)⟩
/-- 11 least_able(code, squad, many): 0=code 1=squad 2=many 3=cards -/
def A_k30_11 : FDef := ⟨3, 4, none, (.cons (.ret (.bi .len (.cons (.comp (.var 3) (.n 3) (.sq (.var 1)) (.nt (.e (.call 10 (.cons (.var 0) (.cons (.var 3) (.cons (.var 2) .nil))))))) .nil)))
    .nil)⟩
/-- 12 way_to_bar(code, cards, many): 0=code 1=cards 2=many 3=state 4=found 5=left 6=some 7=letter 8=pair -/
def A_k30_12 : FDef := ⟨3, 9, none, (.cons (.iff (.nt (.e (.call 10 (.cons (.var 0) (.cons (.var 1) (.cons (.var 2) .nil)))))) (.cons (.ret (.cst PyData.none))
    .nil) .nil)
    (.cons (.par [3, 4] (.cons (.call 2 (.cons (.var 0) (.cons (.var 1) .nil))) (.cons (.lst .nil) .nil)))
    (.cons (.for (.n 5) (.rng (.cons (.var 2) (.cons (.cst (.int 1)) (.cons (.neg (.cst (.int 1))) .nil)))) (.cons (.set 6 (.comp (.tup (.cons (.var 7) (.cons (.call 0 (.cons (.var 0) (.cons (.var 3) (.cons (.var 7) .nil)))) .nil))) (.n 7) (.sq (.bi .sorted (.cons (.call 1 (.cons (.var 3) .nil)) .nil))) (.e (.cst (.bool true)))))
    (.cons (.unp (.t (.cons (.n 7) (.cons (.n 3) .nil))) (.sub (.comp (.var 8) (.n 8) (.sq (.var 6)) (.e (.call 9 (.cons (.var 0) (.cons (.sub (.var 8) (.cst (.int 1))) (.cons (.bin .sub (.var 5) (.cst (.int 1))) .nil)))))) (.cst (.int 0))))
    (.cons (.ex (.mu .append 4 (.cons (.var 7) .nil)))
    .nil))))
    (.cons (.ret (.tup (.star (.var 4) (.cons (.cst (.str "b")) .nil))))
    .nil))))⟩
/-- 13 _law_bag(script): 0=script 1=cell -/
def A_k30_13 : FDef := ⟨1, 2, none, (.cons (.ret (.lst (.cons (.cst (.int 0)) (.cons (.cst (.int 1234567891)) (.cons (.cst (.int 0)) (.cons (.comp (.bi .abs (.cons (.var 1) .nil)) (.n 1) (.sq (.slT (.var 0) (.cst (.int 63)))) (.e (.cst (.bool true)))) .nil))))))
    .nil)⟩
/-- 14 _law_take(bag, many): 0=bag 1=many 2=begin 3=second 4=cell 5=stirred 6=value -/
def A_k30_14 : FDef := ⟨2, 7, some 0, (.cons (.iff (.e (.cmp .eq (.sub (.var 0) (.cst (.int 0))) (.cst (.int 0)))) (.cons (.set 4 (.sub (.bin .add (.slF (.sub (.var 0) (.cst (.int 3))) (.sub (.var 0) (.cst (.int 2)))) (.lst (.cons (.cst (.int 0)) .nil))) (.cst (.int 0))))
    (.cons (.asb .add 0 (.cst (.int 2)) (.cst (.int 1)))
    (.cons (.iff (.e (.cmp .ge (.var 4) (.bin .pow (.cst (.int 10)) (.cst (.int 18))))) (.cons (.ssb 0 (.cst (.int 0)) (.var 4))
    .nil) .nil)
    (.cons (.set 5 (.bin .add (.bin .add (.bin .mul (.sub (.var 0) (.cst (.int 1))) (.cst (.int 48271))) (.bin .mod (.bi .int (.cons (.var 4) .nil)) (.cst (.int 2147483647)))) (.bin .mul (.cst (.int 7919)) (.sub (.var 0) (.cst (.int 2))))))
    (.cons (.ssb 0 (.cst (.int 1)) (.bin .mod (.bi .int (.cons (.var 5) .nil)) (.cst (.int 2147483647))))
    .nil))))) .nil)
    (.cons (.iff (.e (.cmp .gt (.sub (.var 0) (.cst (.int 0))) (.cst (.int 0)))) (.cons (.set 6 (.bin .mod (.bi .int (.cons (.sub (.var 0) (.cst (.int 0))) .nil)) (.var 1)))
    (.cons (.ssb 0 (.cst (.int 0)) (.bin .fdiv (.bi .int (.cons (.sub (.var 0) (.cst (.int 0))) .nil)) (.var 1)))
    (.cons (.ret (.var 6))
    .nil))) .nil)
    (.cons (.set 2 (.bin .mod (.bi .int (.cons (.bin .mul (.bin .add (.sub (.var 0) (.cst (.int 1))) (.cst (.int 1))) (.cst (.int 39373))) .nil)) (.cst (.int 1000000007))))
    (.cons (.set 3 (.bin .mod (.bi .int (.cons (.bin .mul (.bin .mod (.bi .int (.cons (.bin .mul (.var 2) (.var 2)) .nil)) (.cst (.int 998244353))) (.cst (.int 30011))) .nil)) (.cst (.int 998244353))))
    (.cons (.ret (.bin .mod (.bi .int (.cons (.bin .fdiv (.var 3) (.cst (.int 7))) .nil)) (.var 1)))
    .nil)))))⟩
/-- 15 _law_some(bag, things): 0=bag 1=things -/
def A_k30_15 : FDef := ⟨2, 2, some 0, (.cons (.ret (.sub (.var 1) (.call 14 (.cons (.var 0) (.cons (.bi .len (.cons (.var 1) .nil)) .nil)))))
    .nil)⟩
/-- 16 _law_alike(found, due): 0=found 1=due 2=pairs 3=at 4=one 5=other -/
def A_k30_16 : FDef := ⟨2, 6, none, (.cons (.par [2, 3] (.cons (.lst (.cons (.tup (.cons (.var 0) (.cons (.var 1) .nil))) .nil)) (.cons (.cst (.int 0)) .nil)))
    (.cons (.whl (.e (.cmp .lt (.var 3) (.bi .len (.cons (.var 2) .nil)))) (.cons (.unp (.t (.cons (.n 4) (.cons (.n 5) .nil))) (.sub (.var 2) (.var 3)))
    (.cons (.aug .add 3 (.cst (.int 1)))
    (.cons (.iff (.or (.e (.cmp .ne (.isi (.var 4) [.bool]) (.isi (.var 5) [.bool]))) (.e (.cmp .ne (.isi (.var 4) [.str]) (.isi (.var 5) [.str])))) (.cons (.ret (.cst (.bool false)))
    .nil) .nil)
    (.cons (.iff (.e (.cmp .ne (.isi (.var 4) [.tuple, .list]) (.isi (.var 5) [.tuple, .list]))) (.cons (.ret (.cst (.bool false)))
    .nil) .nil)
    (.cons (.iff (.e (.isi (.var 4) [.tuple, .list])) (.cons (.iff (.or (.e (.cmp .ne (.isi (.var 4) [.tuple]) (.isi (.var 5) [.tuple]))) (.e (.cmp .ne (.bi .len (.cons (.var 4) .nil)) (.bi .len (.cons (.var 5) .nil))))) (.cons (.ret (.cst (.bool false)))
    .nil) .nil)
    (.cons (.ex (.mu .extend 2 (.cons (.src .list (.zip (.cons (.var 4) (.cons (.var 5) .nil)))) .nil)))
    .nil)) (.cons (.iff (.e (.cmp .ne (.var 4) (.var 5))) (.cons (.ret (.cst (.bool false)))
    .nil) .nil)
    .nil))
    .nil))))))
    (.cons (.ret (.cst (.bool true)))
    .nil)))⟩
/-- 17 _law_state(code, cards): 0=code 1=cards 2=limit 3=bar 4=red 5=yellow 6=barred 7=card -/
def A_k30_17 : FDef := ⟨2, 8, none, (.cons (.unp (.t (.cons (.n 2) (.cons (.n 3) (.cons (.n 4) .nil)))) (.var 0))
    (.cons (.par [5, 6] (.cons (.cst (.int 0)) (.cons (.cst (.int 0)) .nil)))
    (.cons (.for (.n 7) (.sq (.var 1)) (.cons (.iff (.e (.cmp .ne (.cmp .eq (.var 7) (.cst (.str "b"))) (.cmp .gt (.var 6) (.cst (.int 0))))) (.cons (.ret (.cst PyData.none))
    .nil) .nil)
    (.cons (.set 6 (.bi .max (.cons (.cst (.int 0)) (.cons (.bin .sub (.var 6) (.cst (.int 1))) .nil))))
    (.cons (.iff (.e (.cmp .eq (.var 7) (.cst (.str "y")))) (.cons (.aug .add 5 (.cst (.int 1)))
    (.cons (.iff (.e (.cmp .eq (.var 5) (.var 2))) (.cons (.par [5, 6] (.cons (.cst (.int 0)) (.cons (.var 3) .nil)))
    .nil) .nil)
    .nil)) .nil)
    (.cons (.iff (.e (.cmp .eq (.var 7) (.cst (.str "r")))) (.cons (.set 6 (.var 4))
    .nil) .nil)
    .nil)))))
    (.cons (.ret (.tup (.cons (.var 5) (.cons (.var 6) .nil))))
    .nil))))⟩
/-- 18 _law_code(bag): 0=bag -/
def A_k30_18 : FDef := ⟨1, 1, some 0, (.cons (.ret (.tup (.cons (.bin .add (.cst (.int 1)) (.call 14 (.cons (.var 0) (.cons (.cst (.int 3)) .nil)))) (.cons (.bin .add (.cst (.int 1)) (.call 14 (.cons (.var 0) (.cons (.cst (.int 2)) .nil)))) (.cons (.bin .add (.cst (.int 1)) (.call 14 (.cons (.var 0) (.cons (.cst (.int 3)) .nil)))) .nil)))))
    .nil)⟩
/-- 19 _law_nexts(code, cards): 0=code 1=cards -/
def A_k30_19 : FDef := ⟨2, 2, none, (.cons (.ret (.ite (.e (.cmp .gt (.sub (.call 17 (.cons (.var 0) (.cons (.var 1) .nil))) (.cst (.int 1))) (.cst (.int 0)))) (.tup (.cons (.cst (.str "b")) .nil)) (.tup (.cons (.cst (.str "n")) (.cons (.cst (.str "r")) (.cons (.cst (.str "y")) .nil))))))
    .nil)⟩
/-- 20 _law_all_cards(code, cards, many): 0=code 1=cards 2=many 3=found 4=turn 5=longer 6=row 7=card -/
def A_k30_20 : FDef := ⟨3, 8, none, (.cons (.set 3 (.lst (.cons (.var 1) .nil)))
    (.cons (.for (.n 4) (.rng (.cons (.var 2) .nil)) (.cons (.set 5 (.lst .nil))
    (.cons (.for (.n 6) (.sq (.var 3)) (.cons (.set 5 (.bin .add (.var 5) (.comp (.bin .add (.var 6) (.tup (.cons (.var 7) .nil))) (.n 7) (.sq (.call 19 (.cons (.var 0) (.cons (.var 6) .nil)))) (.e (.cst (.bool true))))))
    .nil))
    (.cons (.set 3 (.var 5))
    .nil))))
    (.cons (.ret (.var 3))
    .nil)))⟩
/-- 21 _law_cards(bag, code, many): 0=bag 1=code 2=many 3=found 4=turn -/
def A_k30_21 : FDef := ⟨3, 5, some 0, (.cons (.set 3 (.tup .nil))
    (.cons (.for (.n 4) (.rng (.cons (.var 2) .nil)) (.cons (.set 3 (.bin .add (.var 3) (.tup (.cons (.call 15 (.cons (.var 0) (.cons (.bi .list (.cons (.call 19 (.cons (.var 1) (.cons (.var 3) .nil))) .nil)) .nil))) .nil))))
    .nil))
    (.cons (.ret (.var 3))
    .nil)))⟩
/-- 22 _law_ways(code, cards, many): 0=code 1=cards 2=many 3=row -/
def A_k30_22 : FDef := ⟨3, 4, none, (.cons (.ret (.comp (.slF (.var 3) (.bi .len (.cons (.var 1) .nil))) (.n 3) (.sq (.call 20 (.cons (.var 0) (.cons (.var 1) (.cons (.var 2) .nil))))) (.e (.cst (.bool true)))))
    .nil)⟩
/-- 23 law(script): 0=script 1=bag 2=turn 3=code 4=long 5=squad 6=states 7=able 8=risk 9=row 10=good 11=at 12=some 13=many 14=sure 15=player 16=least 17=cards 18=state 19=ways 20=bars 21=told 22=k 23=way -/
def A_k30_23 : FDef := ⟨1, 24, none, (.cons (.set 1 (.call 13 (.cons (.var 0) .nil)))
    (.cons (.for (.n 2) (.rng (.cons (.cst (.int 4)) .nil)) (.cons (.par [3, 4] (.cons (.call 18 (.cons (.var 1) .nil)) (.cons (.call 14 (.cons (.var 1) (.cons (.cst (.int 7)) .nil))) .nil)))
    (.cons (.set 5 (.bi .tuple (.cons (.comp (.call 21 (.cons (.var 1) (.cons (.var 3) (.cons (.var 4) .nil)))) (.n 15) (.rng (.cons (.call 14 (.cons (.var 1) (.cons (.cst (.int 6)) .nil))) .nil)) (.e (.cst (.bool true)))) .nil)))
    (.cons (.set 6 (.comp (.call 17 (.cons (.var 3) (.cons (.var 17) .nil))) (.n 17) (.sq (.var 5)) (.e (.cst (.bool true)))))
    (.cons (.set 7 (.comp (.var 15) (.t (.cons (.n 15) (.cons (.n 18) .nil))) (.enm (.var 6)) (.e (.cmp .eq (.sub (.var 18) (.cst (.int 1))) (.cst (.int 0))))))
    (.cons (.set 8 (.comp (.var 15) (.n 15) (.sq (.var 7)) (.e (.cmp .gt (.sub (.call 17 (.cons (.var 3) (.cons (.bin .add (.sub (.var 5) (.var 15)) (.tup (.cons (.cst (.str "y")) .nil))) .nil))) (.cst (.int 1))) (.cst (.int 0))))))
    (.cons (.iff (.nt (.e (.call 16 (.cons (.lst (.cons (.call 5 (.cons (.var 3) (.cons (.var 5) .nil))) (.cons (.call 6 (.cons (.var 3) (.cons (.var 5) .nil))) .nil))) (.cons (.lst (.cons (.bi .tuple (.cons (.var 7) .nil)) (.cons (.bi .tuple (.cons (.var 8) .nil)) .nil))) .nil))))) (.cons (.ret (.cst (.bool false)))
    .nil) .nil)
    (.cons (.set 9 (.bi .tuple (.cons (.comp (.bi .tuple (.cons (.comp (.var 15) (.n 15) (.rng (.cons (.bi .len (.cons (.var 5) .nil)) .nil)) (.e (.cmp .eq (.call 14 (.cons (.var 1) (.cons (.cst (.int 2)) .nil))) (.cst (.int 0))))) .nil)) (.n 22) (.rng (.cons (.call 14 (.cons (.var 1) (.cons (.cst (.int 4)) .nil))) .nil)) (.e (.cst (.bool true)))) .nil)))
    (.cons (.set 10 (.cst (.bool true)))
    (.cons (.for (.t (.cons (.n 11) (.cons (.n 12) .nil))) (.enm (.var 9)) (.cons (.set 10 (.an (.var 10) (.cmp .eq (.comp (.cst (.int 1)) (.n 15) (.sq (.var 12)) (.e (.cmp .gt (.sub (.sub (.var 6) (.var 15)) (.cst (.int 1))) (.var 11)))) (.lst .nil))))
    .nil))
    (.cons (.iff (.nt (.e (.call 16 (.cons (.call 7 (.cons (.var 3) (.cons (.var 5) (.cons (.var 9) .nil)))) (.cons (.var 10) .nil))))) (.cons (.ret (.cst (.bool false)))
    .nil) .nil)
    (.cons (.for (.n 13) (.sq (.lst (.cons (.cst (.int 1)) (.cons (.cst (.int 2)) (.cons (.bin .add (.cst (.int 1)) (.call 14 (.cons (.var 1) (.cons (.cst (.int 5)) .nil)))) .nil))))) (.cons (.set 14 (.lst .nil))
    (.cons (.for (.n 15) (.sq (.var 7)) (.cons (.set 19 (.comp (.var 23) (.n 23) (.sq (.call 22 (.cons (.var 3) (.cons (.sub (.var 5) (.var 15)) (.cons (.var 13) .nil))))) (.e (.cmp .notin (.cst (.str "r")) (.var 23)))))
    (.cons (.set 14 (.bin .add (.var 14) (.ite (.e (.cmp .eq (.comp (.cst (.int 1)) (.n 23) (.sq (.var 19)) (.e (.cmp .isin (.cst (.str "b")) (.var 23)))) (.lst .nil))) (.lst (.cons (.var 15) .nil)) (.lst .nil))))
    .nil)))
    (.cons (.iff (.nt (.e (.call 16 (.cons (.call 8 (.cons (.var 3) (.cons (.var 5) (.cons (.var 13) .nil)))) (.cons (.bi .tuple (.cons (.var 14) .nil)) .nil))))) (.cons (.ret (.cst (.bool false)))
    .nil) .nil)
    (.cons (.set 16 (.cst (.int 0)))
    (.cons (.for (.n 17) (.sq (.var 5)) (.cons (.set 19 (.call 22 (.cons (.var 3) (.cons (.var 17) (.cons (.var 13) .nil)))))
    (.cons (.set 20 (.comp (.var 23) (.n 23) (.sq (.var 19)) (.e (.cmp .eq (.sub (.var 23) (.neg (.cst (.int 1)))) (.cst (.str "b"))))))
    (.cons (.aug .add 16 (.bi .int (.cons (.cmp .eq (.var 20) (.lst .nil)) .nil)))
    (.cons (.set 21 (.lst (.cons (.call 10 (.cons (.var 3) (.cons (.var 17) (.cons (.var 13) .nil)))) (.cons (.call 12 (.cons (.var 3) (.cons (.var 17) (.cons (.var 13) .nil)))) .nil))))
    (.cons (.iff (.nt (.e (.call 16 (.cons (.var 21) (.cons (.lst (.cons (.cmp .ne (.var 20) (.lst .nil)) (.cons (.ite (.e (.cmp .ne (.var 20) (.lst .nil))) (.sub (.var 20) (.cst (.int 0))) (.cst PyData.none)) .nil))) .nil))))) (.cons (.ret (.cst (.bool false)))
    .nil) .nil)
    .nil))))))
    (.cons (.iff (.nt (.e (.call 16 (.cons (.call 11 (.cons (.var 3) (.cons (.var 5) (.cons (.var 13) .nil)))) (.cons (.var 16) .nil))))) (.cons (.ret (.cst (.bool false)))
    .nil) .nil)
    .nil)))))))
    .nil))))))))))))
    (.cons (.ret (.cst (.bool true)))
    .nil)))⟩
def G_k30 : Nat → Option FDef
  | 0 => some A_k30_0
  | 1 => some A_k30_1
  | 2 => some A_k30_2
  | 3 => some A_k30_3
  | 4 => some A_k30_4
  | 5 => some A_k30_5
  | 6 => some A_k30_6
  | 7 => some A_k30_7
  | 8 => some A_k30_8
  | 9 => some A_k30_9
  | 10 => some A_k30_10
  | 11 => some A_k30_11
  | 12 => some A_k30_12
  | 13 => some A_k30_13
  | 14 => some A_k30_14
  | 15 => some A_k30_15
  | 16 => some A_k30_16
  | 17 => some A_k30_17
  | 18 => some A_k30_18
  | 19 => some A_k30_19
  | 20 => some A_k30_20
  | 21 => some A_k30_21
  | 22 => some A_k30_22
  | 23 => some A_k30_23
  | _ => none

end PD
end
section
set_option Elab.async false
set_option linter.all false
set_option maxRecDepth 100000
set_option maxHeartbeats 0
namespace PD
open PySem L2
def top (i : Nat) : Stmt := PySem.Challenge.pw_lasthopes_k30_squads_and_bans.main.body.getD i (.Pass ⟨0, 0, 0, 0⟩)
def tbL : List (Str × Nat) := [(("behind" : Str), 0), (("letters_of" : Str), 1), (("state_of" : Str), 2), (("bars_left" : Str), 3), (("yellows" : Str), 4), (("can_play" : Str), 5), (("at_risk" : Str), 6), (("can_row" : Str), 7), (("sure_players" : Str), 8), (("barred_in" : Str), 9), (("can_be_barred" : Str), 10), (("least_able" : Str), 11), (("way_to_bar" : Str), 12), (("_law_bag" : Str), 13), (("_law_take" : Str), 14), (("_law_some" : Str), 15), (("_law_alike" : Str), 16), (("_law_state" : Str), 17), (("_law_code" : Str), 18), (("_law_nexts" : Str), 19), (("_law_all_cards" : Str), 20), (("_law_cards" : Str), 21), (("_law_ways" : Str), 22), (("law" : Str), 23)]
def tb (x : Str) : Option Nat := tbL.lookup x
def blL : List Str := ["len", "int", "abs", "list", "tuple", "any", "max", "sorted", "range", "zip", "enumerate", "isinstance", "str", "bool"]
def bl (x : Str) : Bool := blL.contains x
section
variable {Pg : Program} {w : World} {K : PySem.W.Frag} {mg : Str → Option Value} {base : Heap} {f : Addr} {cdv : Value} {A : Around} {outer : List PySem.Env} {s : Shared} {H : Hp} {E : XK} {P : Pl} {B : Base} {W : Wi} {C : Nat → Callee} {n : Nat}

abbrev N_0 : List Str := [("code" : Str), ("state" : Str), ("letter" : Str), ("whole" : Str), ("bar" : Str), ("red" : Str), ("yellow" : Str), ("left" : Str)]
theorem b_0 (k_BARRED : ∃ t, mg "BARRED" = some (.str "b" t)) (k_RED : ∃ t, mg "RED" = some (.str "r" t)) (k_YELLOW : ∃ t, mg "YELLOW" = some (.str "y" t)) (c : Ctx (cxOf (L2.CX Pg w) Pg w K mg base N_0 "behind" (defScope (top 5)) f cdv A outer s H E) P B W C (A_k30_0).io n 24 tb bl) (po : PassesOwn (model Pg w) (cxOf (L2.CX Pg w) Pg w K mg base N_0 "behind" (defScope (top 5)) f cdv A outer s H E).A (cxOf (L2.CX Pg w) Pg w K mg base N_0 "behind" (defScope (top 5)) f cdv A outer s H E).env (cxOf (L2.CX Pg w) Pg w K mg base N_0 "behind" (defScope (top 5)) f cdv A outer s H E).xe) :
    PSs (cxOf (L2.CX Pg w) Pg w K mg base N_0 "behind" (defScope (top 5)) f cdv A outer s H E) (defBody (top 5)) (rS K P B W (exL C (A_k30_0).body)) :=
  (st_cons (st_unp (gv 0) (gtt c (g_cons (gt c 3) (g_cons (gt c 4) (g_cons (gt c 5) g_nil)))))
  (st_cons (st_unp (gv 1) (gtt c (g_cons (gt c 6) (g_cons (gt c 7) g_nil))))
  (st_cons (st_if (gtcmp c (o := .eq) (gv 2) (gcs (k_BARRED))) (st_cons (st_ret (s_tup (gcons (gv 6) (gcons (s_bin (o := .sub) (gv 7) gint) s_nil))))
  st_nil) st_nil)
  (st_cons (st_if (gtcmp c (o := .eq) (gv 2) (gcs (k_RED))) (st_cons (st_ret (s_tup (gcons (gv 6) (gcons (gv 5) s_nil))))
  st_nil) st_nil)
  (st_cons (st_if (gtcmp c (o := .eq) (gv 2) (gcs (k_YELLOW))) (st_cons (st_ret (s_ite (gtcmp c (o := .eq) (s_bin (o := .add) (gv 6) gint) (gv 3)) (s_tup (gcons gint (gcons (gv 4) s_nil))) (s_tup (gcons (s_bin (o := .add) (gv 6) gint) (gcons gint s_nil)))))
  st_nil) st_nil)
  (st_cons (st_ret (gv 1))
  st_nil))))))
abbrev N_1 : List Str := [("state" : Str)]
theorem b_1 (k_BARRED : ∃ t, mg "BARRED" = some (.str "b" t)) (k_NONE : ∃ t, mg "NONE" = some (.str "n" t)) (k_RED : ∃ t, mg "RED" = some (.str "r" t)) (k_YELLOW : ∃ t, mg "YELLOW" = some (.str "y" t)) (c : Ctx (cxOf (L2.CX Pg w) Pg w K mg base N_1 "letters_of" (defScope (top 6)) f cdv A outer s H E) P B W C (A_k30_1).io n 24 tb bl) (po : PassesOwn (model Pg w) (cxOf (L2.CX Pg w) Pg w K mg base N_1 "letters_of" (defScope (top 6)) f cdv A outer s H E).A (cxOf (L2.CX Pg w) Pg w K mg base N_1 "letters_of" (defScope (top 6)) f cdv A outer s H E).env (cxOf (L2.CX Pg w) Pg w K mg base N_1 "letters_of" (defScope (top 6)) f cdv A outer s H E).xe) :
    PSs (cxOf (L2.CX Pg w) Pg w K mg base N_1 "letters_of" (defScope (top 6)) f cdv A outer s H E) (defBody (top 6)) (rS K P B W (exL C (A_k30_1).body)) :=
  (st_cons (st_ret (s_ite (gtcmp c (o := .gt) (gsub c (gv 0) gint) gint) (s_tup (gcons (gcs (k_BARRED)) s_nil)) (s_tup (gcons (gcs (k_NONE)) (gcons (gcs (k_RED)) (gcons (gcs (k_YELLOW)) s_nil))))))
  st_nil)
abbrev N_2 : List Str := [("code" : Str), ("cards" : Str), ("state" : Str), ("letter" : Str)]
theorem b_2 (c : Ctx (cxOf (L2.CX Pg w) Pg w K mg base N_2 "state_of" (defScope (top 7)) f cdv A outer s H E) P B W C (A_k30_2).io n 24 tb bl) (po : PassesOwn (model Pg w) (cxOf (L2.CX Pg w) Pg w K mg base N_2 "state_of" (defScope (top 7)) f cdv A outer s H E).A (cxOf (L2.CX Pg w) Pg w K mg base N_2 "state_of" (defScope (top 7)) f cdv A outer s H E).env (cxOf (L2.CX Pg w) Pg w K mg base N_2 "state_of" (defScope (top 7)) f cdv A outer s H E).xe) :
    PSs (cxOf (L2.CX Pg w) Pg w K mg base N_2 "state_of" (defScope (top 7)) f cdv A outer s H E) (defBody (top 7)) (rS K P B W (exL C (A_k30_2).body)) :=
  (st_cons (gset c (s_tup (gcons gint (gcons gint s_nil))))
  (st_cons (gfor c po (s_sq (gv 1)) (gt c 3) (st_cons (st_if (gtcmp c (o := .notin) (gv 3) (gcall c 1 (gcons (gv 2) s_nil))) (st_cons (st_ret gnon)
  st_nil) st_nil)
  (st_cons (gset c (gcall c 0 (gcons (gv 0) (gcons (gv 2) (gcons (gv 3) s_nil)))))
  st_nil)))
  (st_cons (st_ret (gv 2))
  st_nil)))
abbrev N_3 : List Str := [("code" : Str), ("cards" : Str)]
theorem b_3 (c : Ctx (cxOf (L2.CX Pg w) Pg w K mg base N_3 "bars_left" (defScope (top 8)) f cdv A outer s H E) P B W C (A_k30_3).io n 24 tb bl) (po : PassesOwn (model Pg w) (cxOf (L2.CX Pg w) Pg w K mg base N_3 "bars_left" (defScope (top 8)) f cdv A outer s H E).A (cxOf (L2.CX Pg w) Pg w K mg base N_3 "bars_left" (defScope (top 8)) f cdv A outer s H E).env (cxOf (L2.CX Pg w) Pg w K mg base N_3 "bars_left" (defScope (top 8)) f cdv A outer s H E).xe) :
    PSs (cxOf (L2.CX Pg w) Pg w K mg base N_3 "bars_left" (defScope (top 8)) f cdv A outer s H E) (defBody (top 8)) (rS K P B W (exL C (A_k30_3).body)) :=
  (st_cons (st_ret (gsub c (gcall c 2 (gcons (gv 0) (gcons (gv 1) s_nil))) gint))
  st_nil)
abbrev N_4 : List Str := [("code" : Str), ("cards" : Str)]
theorem b_4 (c : Ctx (cxOf (L2.CX Pg w) Pg w K mg base N_4 "yellows" (defScope (top 9)) f cdv A outer s H E) P B W C (A_k30_4).io n 24 tb bl) (po : PassesOwn (model Pg w) (cxOf (L2.CX Pg w) Pg w K mg base N_4 "yellows" (defScope (top 9)) f cdv A outer s H E).A (cxOf (L2.CX Pg w) Pg w K mg base N_4 "yellows" (defScope (top 9)) f cdv A outer s H E).env (cxOf (L2.CX Pg w) Pg w K mg base N_4 "yellows" (defScope (top 9)) f cdv A outer s H E).xe) :
    PSs (cxOf (L2.CX Pg w) Pg w K mg base N_4 "yellows" (defScope (top 9)) f cdv A outer s H E) (defBody (top 9)) (rS K P B W (exL C (A_k30_4).body)) :=
  (st_cons (st_ret (gsub c (gcall c 2 (gcons (gv 0) (gcons (gv 1) s_nil))) gint))
  st_nil)
abbrev N_5 : List Str := [("code" : Str), ("squad" : Str), ("index" : Str), ("cards" : Str)]
theorem b_5 (c : Ctx (cxOf (L2.CX Pg w) Pg w K mg base N_5 "can_play" (defScope (top 11)) f cdv A outer s H E) P B W C (A_k30_5).io n 24 tb bl) (po : PassesOwn (model Pg w) (cxOf (L2.CX Pg w) Pg w K mg base N_5 "can_play" (defScope (top 11)) f cdv A outer s H E).A (cxOf (L2.CX Pg w) Pg w K mg base N_5 "can_play" (defScope (top 11)) f cdv A outer s H E).env (cxOf (L2.CX Pg w) Pg w K mg base N_5 "can_play" (defScope (top 11)) f cdv A outer s H E).xe) :
    PSs (cxOf (L2.CX Pg w) Pg w K mg base N_5 "can_play" (defScope (top 11)) f cdv A outer s H E) (defBody (top 11)) (rS K P B W (exL C (A_k30_5).body)) :=
  (st_cons (st_ret (gtuple c (gcons (gcomp c [(("index" : Str), 2), (("cards" : Str), 3)] (genum c (gv 1)) (fun _ _ _ _ _ => (gtt (Ctx.blk c) (g_cons (gt (Ctx.blk c) 2) (g_cons (gt (Ctx.blk c) 3) g_nil)))) (fun _ _ _ _ _ => (pts_one (gtcmp (Ctx.blk c) (o := .eq) (gcall (Ctx.blk c) 3 (gcons (gv 0) (gcons (gv 3) s_nil))) gint))) (fun _ _ _ _ _ => (gv 2))) s_nil)))
  st_nil)
abbrev N_6 : List Str := [("code" : Str), ("squad" : Str), ("index" : Str)]
theorem b_6 (c : Ctx (cxOf (L2.CX Pg w) Pg w K mg base N_6 "at_risk" (defScope (top 12)) f cdv A outer s H E) P B W C (A_k30_6).io n 24 tb bl) (po : PassesOwn (model Pg w) (cxOf (L2.CX Pg w) Pg w K mg base N_6 "at_risk" (defScope (top 12)) f cdv A outer s H E).A (cxOf (L2.CX Pg w) Pg w K mg base N_6 "at_risk" (defScope (top 12)) f cdv A outer s H E).env (cxOf (L2.CX Pg w) Pg w K mg base N_6 "at_risk" (defScope (top 12)) f cdv A outer s H E).xe) :
    PSs (cxOf (L2.CX Pg w) Pg w K mg base N_6 "at_risk" (defScope (top 12)) f cdv A outer s H E) (defBody (top 12)) (rS K P B W (exL C (A_k30_6).body)) :=
  (st_cons (st_ret (gtuple c (gcons (gcomp c [(("index" : Str), 2)] (s_sq (gcall c 5 (gcons (gv 0) (gcons (gv 1) s_nil)))) (fun _ _ _ _ _ => (gt (Ctx.blk c) 2)) (fun _ _ _ _ _ => (pts_one (gtcmp (Ctx.blk c) (o := .eq) (s_bin (o := .add) (gcall (Ctx.blk c) 4 (gcons (gv 0) (gcons (gsub (Ctx.blk c) (gv 1) (gv 2)) s_nil))) gint) (gsub (Ctx.blk c) (gv 0) gint)))) (fun _ _ _ _ _ => (gv 2))) s_nil)))
  st_nil)
abbrev N_7 : List Str := [("code" : Str), ("squad" : Str), ("row" : Str), ("number" : Str), ("players" : Str), ("index" : Str)]
theorem b_7 (c : Ctx (cxOf (L2.CX Pg w) Pg w K mg base N_7 "can_row" (defScope (top 13)) f cdv A outer s H E) P B W C (A_k30_7).io n 24 tb bl) (po : PassesOwn (model Pg w) (cxOf (L2.CX Pg w) Pg w K mg base N_7 "can_row" (defScope (top 13)) f cdv A outer s H E).A (cxOf (L2.CX Pg w) Pg w K mg base N_7 "can_row" (defScope (top 13)) f cdv A outer s H E).env (cxOf (L2.CX Pg w) Pg w K mg base N_7 "can_row" (defScope (top 13)) f cdv A outer s H E).xe) :
    PSs (cxOf (L2.CX Pg w) Pg w K mg base N_7 "can_row" (defScope (top 13)) f cdv A outer s H E) (defBody (top 13)) (rS K P B W (exL C (A_k30_7).body)) :=
  (st_cons (gfor c po (genum c (gv 2)) (gtt c (g_cons (gt c 3) (g_cons (gt c 4) g_nil))) (st_cons (st_if (gte (gany c (gcons (gcomp c [(("index" : Str), 5)] (s_sq (gv 4)) (fun _ _ _ _ _ => (gt (Ctx.blk c) 5)) (fun _ _ _ _ _ => c_nil) (fun _ _ _ _ _ => (gcmp (Ctx.blk c) (o := .gt) (gcall (Ctx.blk c) 3 (gcons (gv 0) (gcons (gsub (Ctx.blk c) (gv 1) (gv 5)) s_nil))) (gv 3)))) s_nil))) (st_cons (st_ret gbl)
  st_nil) st_nil)
  st_nil))
  (st_cons (st_ret gbl)
  st_nil))
abbrev N_8 : List Str := [("code" : Str), ("squad" : Str), ("many" : Str), ("some" : Str), ("index" : Str)]
theorem b_8 (c : Ctx (cxOf (L2.CX Pg w) Pg w K mg base N_8 "sure_players" (defScope (top 14)) f cdv A outer s H E) P B W C (A_k30_8).io n 24 tb bl) (po : PassesOwn (model Pg w) (cxOf (L2.CX Pg w) Pg w K mg base N_8 "sure_players" (defScope (top 14)) f cdv A outer s H E).A (cxOf (L2.CX Pg w) Pg w K mg base N_8 "sure_players" (defScope (top 14)) f cdv A outer s H E).env (cxOf (L2.CX Pg w) Pg w K mg base N_8 "sure_players" (defScope (top 14)) f cdv A outer s H E).xe) :
    PSs (cxOf (L2.CX Pg w) Pg w K mg base N_8 "sure_players" (defScope (top 14)) f cdv A outer s H E) (defBody (top 14)) (rS K P B W (exL C (A_k30_8).body)) :=
  (st_cons (gset c (gcall c 5 (gcons (gv 0) (gcons (gv 1) s_nil))))
  (st_cons (st_ret (gtuple c (gcons (gcomp c [(("index" : Str), 4)] (s_sq (gv 3)) (fun _ _ _ _ _ => (gt (Ctx.blk c) 4)) (fun _ _ _ _ _ => (pts_one (gtcmp (Ctx.blk c) (o := .lt) (s_bin (o := .sub) (s_bin (o := .add) (gcall (Ctx.blk c) 4 (gcons (gv 0) (gcons (gsub (Ctx.blk c) (gv 1) (gv 4)) s_nil))) (gv 2)) gint) (gsub (Ctx.blk c) (gv 0) gint)))) (fun _ _ _ _ _ => (gv 4))) s_nil)))
  st_nil))
abbrev N_9 : List Str := [("code" : Str), ("state" : Str), ("many" : Str), ("found" : Str), ("turn" : Str), ("later" : Str), ("one" : Str), ("letter" : Str), ("yellow" : Str), ("left" : Str)]
theorem b_9 (c : Ctx (cxOf (L2.CX Pg w) Pg w K mg base N_9 "barred_in" (defScope (top 15)) f cdv A outer s H E) P B W C (A_k30_9).io n 24 tb bl) (po : PassesOwn (model Pg w) (cxOf (L2.CX Pg w) Pg w K mg base N_9 "barred_in" (defScope (top 15)) f cdv A outer s H E).A (cxOf (L2.CX Pg w) Pg w K mg base N_9 "barred_in" (defScope (top 15)) f cdv A outer s H E).env (cxOf (L2.CX Pg w) Pg w K mg base N_9 "barred_in" (defScope (top 15)) f cdv A outer s H E).xe) :
    PSs (cxOf (L2.CX Pg w) Pg w K mg base N_9 "barred_in" (defScope (top 15)) f cdv A outer s H E) (defBody (top 15)) (rS K P B W (exL C (A_k30_9).body)) :=
  (st_cons (gset c (gdct1 c (gv 1) gbl))
  (st_cons (gfor c po (grng1 c (gcons (s_bin (o := .sub) (gv 2) gint) s_nil)) (gt c 4) (st_cons (gset c s_dct0)
  (st_cons (gfor c po (s_sq (gv 3)) (gt c 6) (st_cons (gfor c po (s_sq (gcall c 1 (gcons (gv 6) s_nil))) (gt c 7) (st_cons (gssb c (gcall c 0 (gcons (gv 0) (gcons (gv 6) (gcons (gv 7) s_nil)))) gbl)
  st_nil))
  st_nil))
  (st_cons (gset c (gv 5))
  st_nil))))
  (st_cons (st_ret (gany c (gcons (gcomp c [(("yellow" : Str), 8), (("left" : Str), 9)] (s_sq (gv 3)) (fun _ _ _ _ _ => (gtt (Ctx.blk c) (g_cons (gt (Ctx.blk c) 8) (g_cons (gt (Ctx.blk c) 9) g_nil)))) (fun _ _ _ _ _ => c_nil) (fun _ _ _ _ _ => (gcmp (Ctx.blk c) (o := .gt) (gv 9) gint))) s_nil)))
  st_nil)))
abbrev N_10 : List Str := [("code" : Str), ("cards" : Str), ("many" : Str)]
theorem b_10 (c : Ctx (cxOf (L2.CX Pg w) Pg w K mg base N_10 "can_be_barred" (defScope (top 16)) f cdv A outer s H E) P B W C (A_k30_10).io n 24 tb bl) (po : PassesOwn (model Pg w) (cxOf (L2.CX Pg w) Pg w K mg base N_10 "can_be_barred" (defScope (top 16)) f cdv A outer s H E).A (cxOf (L2.CX Pg w) Pg w K mg base N_10 "can_be_barred" (defScope (top 16)) f cdv A outer s H E).env (cxOf (L2.CX Pg w) Pg w K mg base N_10 "can_be_barred" (defScope (top 16)) f cdv A outer s H E).xe) :
    PSs (cxOf (L2.CX Pg w) Pg w K mg base N_10 "can_be_barred" (defScope (top 16)) f cdv A outer s H E) (defBody (top 16)) (rS K P B W (exL C (A_k30_10).body)) :=
  (st_cons (st_ret (gcall c 9 (gcons (gv 0) (gcons (gcall c 2 (gcons (gv 0) (gcons (gv 1) s_nil))) (gcons (gv 2) s_nil)))))
  st_nil)
abbrev N_11 : List Str := [("code" : Str), ("squad" : Str), ("many" : Str), ("cards" : Str)]
theorem b_11 (c : Ctx (cxOf (L2.CX Pg w) Pg w K mg base N_11 "least_able" (defScope (top 17)) f cdv A outer s H E) P B W C (A_k30_11).io n 24 tb bl) (po : PassesOwn (model Pg w) (cxOf (L2.CX Pg w) Pg w K mg base N_11 "least_able" (defScope (top 17)) f cdv A outer s H E).A (cxOf (L2.CX Pg w) Pg w K mg base N_11 "least_able" (defScope (top 17)) f cdv A outer s H E).env (cxOf (L2.CX Pg w) Pg w K mg base N_11 "least_able" (defScope (top 17)) f cdv A outer s H E).xe) :
    PSs (cxOf (L2.CX Pg w) Pg w K mg base N_11 "least_able" (defScope (top 17)) f cdv A outer s H E) (defBody (top 17)) (rS K P B W (exL C (A_k30_11).body)) :=
  (st_cons (st_ret (glen c (gcons (gcomp c [(("cards" : Str), 3)] (s_sq (gv 1)) (fun _ _ _ _ _ => (gt (Ctx.blk c) 3)) (fun _ _ _ _ _ => (pts_one (t_not (gte (gcall (Ctx.blk c) 10 (gcons (gv 0) (gcons (gv 3) (gcons (gv 2) s_nil)))))))) (fun _ _ _ _ _ => (gv 3))) s_nil)))
  st_nil)
abbrev N_12 : List Str := [("code" : Str), ("cards" : Str), ("many" : Str), ("state" : Str), ("found" : Str), ("left" : Str), ("some" : Str), ("letter" : Str), ("pair" : Str)]
theorem b_12 (k_BARRED : ∃ t, mg "BARRED" = some (.str "b" t)) (c : Ctx (cxOf (L2.CX Pg w) Pg w K mg base N_12 "way_to_bar" (defScope (top 18)) f cdv A outer s H E) P B W C (A_k30_12).io n 24 tb bl) (po : PassesOwn (model Pg w) (cxOf (L2.CX Pg w) Pg w K mg base N_12 "way_to_bar" (defScope (top 18)) f cdv A outer s H E).A (cxOf (L2.CX Pg w) Pg w K mg base N_12 "way_to_bar" (defScope (top 18)) f cdv A outer s H E).env (cxOf (L2.CX Pg w) Pg w K mg base N_12 "way_to_bar" (defScope (top 18)) f cdv A outer s H E).xe) :
    PSs (cxOf (L2.CX Pg w) Pg w K mg base N_12 "way_to_bar" (defScope (top 18)) f cdv A outer s H E) (defBody (top 18)) (rS K P B W (exL C (A_k30_12).body)) :=
  (st_cons (st_if (t_not (gte (gcall c 10 (gcons (gv 0) (gcons (gv 1) (gcons (gv 2) s_nil)))))) (st_cons (st_ret gnon)
  st_nil) st_nil)
  (st_cons (by first | exact gpar2 c (gcons (gcall c 2 (gcons (gv 0) (gcons (gv 1) s_nil))) (gcons (s_lst s_nil) s_nil)) | exact (gparT c (gcons (gcall c 2 (gcons (gv 0) (gcons (gv 1) s_nil))) (gcons (s_lst s_nil) s_nil)) (gnm c 3 (gnm c 4 pgs_nil))))
  (st_cons (gfor c po (grng3 c (gcons (gv 2) (gcons gint (gcons (s_neg gint) s_nil)))) (gt c 5) (st_cons (by first | exact gsetC c [(("letter" : Str), 7)] (s_sq (gsorted c (gcons (gcall c 1 (gcons (gv 3) s_nil)) s_nil))) (fun _ _ _ _ _ => (gt (Ctx.blk c) 7)) (fun _ _ _ _ _ => c_nil) (fun _ _ _ _ _ => (s_tup (gcons (gv 7) (gcons (gcall (Ctx.blk c) 0 (gcons (gv 0) (gcons (gv 3) (gcons (gv 7) s_nil)))) s_nil)))) | exact gset c (gcomp c [(("letter" : Str), 7)] (s_sq (gsorted c (gcons (gcall c 1 (gcons (gv 3) s_nil)) s_nil))) (fun _ _ _ _ _ => (gt (Ctx.blk c) 7)) (fun _ _ _ _ _ => c_nil) (fun _ _ _ _ _ => (s_tup (gcons (gv 7) (gcons (gcall (Ctx.blk c) 0 (gcons (gv 0) (gcons (gv 3) (gcons (gv 7) s_nil)))) s_nil))))))
  (st_cons (st_unp (gsub c (gcomp c [(("pair" : Str), 8)] (s_sq (gv 6)) (fun _ _ _ _ _ => (gt (Ctx.blk c) 8)) (fun _ _ _ _ _ => (pts_one (gte (gcall (Ctx.blk c) 9 (gcons (gv 0) (gcons (gsub (Ctx.blk c) (gv 8) gint) (gcons (s_bin (o := .sub) (gv 5) gint) s_nil))))))) (fun _ _ _ _ _ => (gv 8))) gint) (gtt c (g_cons (gt c 7) (g_cons (gt c 3) g_nil))))
  (st_cons (st_expr (s_append (pv 4) (gcons (gv 7) s_nil)))
  st_nil))))
  (st_cons (st_ret (s_tup (s_star (gv 4) (gcons (gcs (k_BARRED)) s_nil))))
  st_nil))))
abbrev N_13 : List Str := [("script" : Str), ("cell" : Str)]
theorem b_13 (c : Ctx (cxOf (L2.CX Pg w) Pg w K mg base N_13 "_law_bag" (defScope (top 20)) f cdv A outer s H E) P B W C (A_k30_13).io n 24 tb bl) (po : PassesOwn (model Pg w) (cxOf (L2.CX Pg w) Pg w K mg base N_13 "_law_bag" (defScope (top 20)) f cdv A outer s H E).A (cxOf (L2.CX Pg w) Pg w K mg base N_13 "_law_bag" (defScope (top 20)) f cdv A outer s H E).env (cxOf (L2.CX Pg w) Pg w K mg base N_13 "_law_bag" (defScope (top 20)) f cdv A outer s H E).xe) :
    PSs (cxOf (L2.CX Pg w) Pg w K mg base N_13 "_law_bag" (defScope (top 20)) f cdv A outer s H E) (defBody (top 20)) (rS K P B W (exL C (A_k30_13).body)) :=
  (st_cons (st_ret (s_lst (gcons gint (gcons gint (gcons gint (gcons (gcomp c [(("cell" : Str), 1)] (s_sq (s_slT (gv 0) gint)) (fun _ _ _ _ _ => (gt (Ctx.blk c) 1)) (fun _ _ _ _ _ => c_nil) (fun _ _ _ _ _ => (gabs (Ctx.blk c) (gcons (gv 1) s_nil)))) s_nil))))))
  st_nil)
abbrev N_14 : List Str := [("bag" : Str), ("many" : Str), ("begin" : Str), ("second" : Str), ("cell" : Str), ("stirred" : Str), ("value" : Str)]
theorem b_14 (c : Ctx (cxOf (L2.CX Pg w) Pg w K mg base N_14 "_law_take" (defScope (top 21)) f cdv A outer s H E) P B W C (A_k30_14).io n 24 tb bl) (po : PassesOwn (model Pg w) (cxOf (L2.CX Pg w) Pg w K mg base N_14 "_law_take" (defScope (top 21)) f cdv A outer s H E).A (cxOf (L2.CX Pg w) Pg w K mg base N_14 "_law_take" (defScope (top 21)) f cdv A outer s H E).env (cxOf (L2.CX Pg w) Pg w K mg base N_14 "_law_take" (defScope (top 21)) f cdv A outer s H E).xe) :
    PSs (cxOf (L2.CX Pg w) Pg w K mg base N_14 "_law_take" (defScope (top 21)) f cdv A outer s H E) (defBody (top 21)) (rS K P B W (exL C (A_k30_14).body)) :=
  (st_cons (st_if (gtcmp c (o := .eq) (gsub c (gv 0) gint) gint) (st_cons (gset c (gsub c (s_bin (o := .add) (s_slF (gsub c (gv 0) gint) (gsub c (gv 0) gint)) (s_lst (gcons gint s_nil))) gint))
  (st_cons (gasb c (o := .add) gint gint)
  (st_cons (st_if (gtcmp c (o := .ge) (gv 4) (s_bin (o := .pow) gint gint)) (st_cons (gssb c gint (gv 4))
  st_nil) st_nil)
  (st_cons (gset c (s_bin (o := .add) (s_bin (o := .add) (s_bin (o := .mul) (gsub c (gv 0) gint) gint) (s_bin (o := .mod) (gint_ c (gcons (gv 4) s_nil)) gint)) (s_bin (o := .mul) gint (gsub c (gv 0) gint))))
  (st_cons (gssb c gint (s_bin (o := .mod) (gint_ c (gcons (gv 5) s_nil)) gint))
  st_nil))))) st_nil)
  (st_cons (st_if (gtcmp c (o := .gt) (gsub c (gv 0) gint) gint) (st_cons (gset c (s_bin (o := .mod) (gint_ c (gcons (gsub c (gv 0) gint) s_nil)) (gv 1)))
  (st_cons (gssb c gint (s_bin (o := .fdiv) (gint_ c (gcons (gsub c (gv 0) gint) s_nil)) (gv 1)))
  (st_cons (st_ret (gv 6))
  st_nil))) st_nil)
  (st_cons (gset c (s_bin (o := .mod) (gint_ c (gcons (s_bin (o := .mul) (s_bin (o := .add) (gsub c (gv 0) gint) gint) gint) s_nil)) gint))
  (st_cons (gset c (s_bin (o := .mod) (gint_ c (gcons (s_bin (o := .mul) (s_bin (o := .mod) (gint_ c (gcons (s_bin (o := .mul) (gv 2) (gv 2)) s_nil)) gint) gint) s_nil)) gint))
  (st_cons (st_ret (s_bin (o := .mod) (gint_ c (gcons (s_bin (o := .fdiv) (gv 3) gint) s_nil)) (gv 1)))
  st_nil)))))
abbrev N_15 : List Str := [("bag" : Str), ("things" : Str)]
theorem b_15 (c : Ctx (cxOf (L2.CX Pg w) Pg w K mg base N_15 "_law_some" (defScope (top 22)) f cdv A outer s H E) P B W C (A_k30_15).io n 24 tb bl) (po : PassesOwn (model Pg w) (cxOf (L2.CX Pg w) Pg w K mg base N_15 "_law_some" (defScope (top 22)) f cdv A outer s H E).A (cxOf (L2.CX Pg w) Pg w K mg base N_15 "_law_some" (defScope (top 22)) f cdv A outer s H E).env (cxOf (L2.CX Pg w) Pg w K mg base N_15 "_law_some" (defScope (top 22)) f cdv A outer s H E).xe) :
    PSs (cxOf (L2.CX Pg w) Pg w K mg base N_15 "_law_some" (defScope (top 22)) f cdv A outer s H E) (defBody (top 22)) (rS K P B W (exL C (A_k30_15).body)) :=
  (st_cons (st_ret (gsub c (gv 1) (gcall c 14 (gcons (gv 0) (gcons (glen c (gcons (gv 1) s_nil)) s_nil)))))
  st_nil)
abbrev N_16 : List Str := [("found" : Str), ("due" : Str), ("pairs" : Str), ("at" : Str), ("one" : Str), ("other" : Str)]
theorem b_16 (c : Ctx (cxOf (L2.CX Pg w) Pg w K mg base N_16 "_law_alike" (defScope (top 23)) f cdv A outer s H E) P B W C (A_k30_16).io n 24 tb bl) (po : PassesOwn (model Pg w) (cxOf (L2.CX Pg w) Pg w K mg base N_16 "_law_alike" (defScope (top 23)) f cdv A outer s H E).A (cxOf (L2.CX Pg w) Pg w K mg base N_16 "_law_alike" (defScope (top 23)) f cdv A outer s H E).env (cxOf (L2.CX Pg w) Pg w K mg base N_16 "_law_alike" (defScope (top 23)) f cdv A outer s H E).xe) :
    PSs (cxOf (L2.CX Pg w) Pg w K mg base N_16 "_law_alike" (defScope (top 23)) f cdv A outer s H E) (defBody (top 23)) (rS K P B W (exL C (A_k30_16).body)) :=
  (st_cons (by first | exact gpar2 c (gcons (s_lst (gcons (s_tup (gcons (gv 0) (gcons (gv 1) s_nil))) s_nil)) (gcons gint s_nil)) | exact (gparT c (gcons (s_lst (gcons (s_tup (gcons (gv 0) (gcons (gv 1) s_nil))) s_nil)) (gcons gint s_nil)) (gnm c 2 (gnm c 3 pgs_nil))))
  (st_cons (st_while po (gtcmp c (o := .lt) (gv 3) (glen c (gcons (gv 2) s_nil))) (st_cons (st_unp (gsub c (gv 2) (gv 3)) (gtt c (g_cons (gt c 4) (g_cons (gt c 5) g_nil))))
  (st_cons (gaug c (o := .add) gint)
  (st_cons (st_if (PW.pt (t_or (gtcmp c (o := .ne) (gisi1 c .bool (gv 4)) (gisi1 c .bool (gv 5))) (pw_or1 (gtcmp c (o := .ne) (gisi1 c .str (gv 4)) (gisi1 c .str (gv 5)))))) (st_cons (st_ret gbl)
  st_nil) st_nil)
  (st_cons (st_if (gtcmp c (o := .ne) (gisi2 c .tuple .list (gv 4)) (gisi2 c .tuple .list (gv 5))) (st_cons (st_ret gbl)
  st_nil) st_nil)
  (st_cons (st_if (gte (gisi2 c .tuple .list (gv 4))) (st_cons (st_if (PW.pt (t_or (gtcmp c (o := .ne) (gisi1 c .tuple (gv 4)) (gisi1 c .tuple (gv 5))) (pw_or1 (gtcmp c (o := .ne) (glen c (gcons (gv 4) s_nil)) (glen c (gcons (gv 5) s_nil)))))) (st_cons (st_ret gbl)
  st_nil) st_nil)
  (st_cons (st_expr (s_extend (pv 2) (gcons (glz c (gcons (gv 4) (gcons (gv 5) s_nil))) s_nil)))
  st_nil)) (st_cons (st_if (gtcmp c (o := .ne) (gv 4) (gv 5)) (st_cons (st_ret gbl)
  st_nil) st_nil)
  st_nil))
  st_nil))))))
  (st_cons (st_ret gbl)
  st_nil)))
abbrev N_17 : List Str := [("code" : Str), ("cards" : Str), ("limit" : Str), ("bar" : Str), ("red" : Str), ("yellow" : Str), ("barred" : Str), ("card" : Str)]
theorem b_17 (c : Ctx (cxOf (L2.CX Pg w) Pg w K mg base N_17 "_law_state" (defScope (top 24)) f cdv A outer s H E) P B W C (A_k30_17).io n 24 tb bl) (po : PassesOwn (model Pg w) (cxOf (L2.CX Pg w) Pg w K mg base N_17 "_law_state" (defScope (top 24)) f cdv A outer s H E).A (cxOf (L2.CX Pg w) Pg w K mg base N_17 "_law_state" (defScope (top 24)) f cdv A outer s H E).env (cxOf (L2.CX Pg w) Pg w K mg base N_17 "_law_state" (defScope (top 24)) f cdv A outer s H E).xe) :
    PSs (cxOf (L2.CX Pg w) Pg w K mg base N_17 "_law_state" (defScope (top 24)) f cdv A outer s H E) (defBody (top 24)) (rS K P B W (exL C (A_k30_17).body)) :=
  (st_cons (st_unp (gv 0) (gtt c (g_cons (gt c 2) (g_cons (gt c 3) (g_cons (gt c 4) g_nil)))))
  (st_cons (by first | exact gpar2 c (gcons gint (gcons gint s_nil)) | exact (gparT c (gcons gint (gcons gint s_nil)) (gnm c 5 (gnm c 6 pgs_nil))))
  (st_cons (gfor c po (s_sq (gv 1)) (gt c 7) (st_cons (st_if (gtcmp c (o := .ne) (gcmp c (o := .eq) (gv 7) gstr) (gcmp c (o := .gt) (gv 6) gint)) (st_cons (st_ret gnon)
  st_nil) st_nil)
  (st_cons (gset c (gmax c (gcons gint (gcons (s_bin (o := .sub) (gv 6) gint) s_nil))))
  (st_cons (st_if (gtcmp c (o := .eq) (gv 7) gstr) (st_cons (gaug c (o := .add) gint)
  (st_cons (st_if (gtcmp c (o := .eq) (gv 5) (gv 2)) (st_cons (by first | exact gpar2 c (gcons gint (gcons (gv 3) s_nil)) | exact (gparT c (gcons gint (gcons (gv 3) s_nil)) (gnm c 5 (gnm c 6 pgs_nil))))
  st_nil) st_nil)
  st_nil)) st_nil)
  (st_cons (st_if (gtcmp c (o := .eq) (gv 7) gstr) (st_cons (gset c (gv 4))
  st_nil) st_nil)
  st_nil)))))
  (st_cons (st_ret (s_tup (gcons (gv 5) (gcons (gv 6) s_nil))))
  st_nil))))
abbrev N_18 : List Str := [("bag" : Str)]
theorem b_18 (c : Ctx (cxOf (L2.CX Pg w) Pg w K mg base N_18 "_law_code" (defScope (top 25)) f cdv A outer s H E) P B W C (A_k30_18).io n 24 tb bl) (po : PassesOwn (model Pg w) (cxOf (L2.CX Pg w) Pg w K mg base N_18 "_law_code" (defScope (top 25)) f cdv A outer s H E).A (cxOf (L2.CX Pg w) Pg w K mg base N_18 "_law_code" (defScope (top 25)) f cdv A outer s H E).env (cxOf (L2.CX Pg w) Pg w K mg base N_18 "_law_code" (defScope (top 25)) f cdv A outer s H E).xe) :
    PSs (cxOf (L2.CX Pg w) Pg w K mg base N_18 "_law_code" (defScope (top 25)) f cdv A outer s H E) (defBody (top 25)) (rS K P B W (exL C (A_k30_18).body)) :=
  (st_cons (st_ret (s_tup (gcons (s_bin (o := .add) gint (gcall c 14 (gcons (gv 0) (gcons gint s_nil)))) (gcons (s_bin (o := .add) gint (gcall c 14 (gcons (gv 0) (gcons gint s_nil)))) (gcons (s_bin (o := .add) gint (gcall c 14 (gcons (gv 0) (gcons gint s_nil)))) s_nil)))))
  st_nil)
abbrev N_19 : List Str := [("code" : Str), ("cards" : Str)]
theorem b_19 (c : Ctx (cxOf (L2.CX Pg w) Pg w K mg base N_19 "_law_nexts" (defScope (top 26)) f cdv A outer s H E) P B W C (A_k30_19).io n 24 tb bl) (po : PassesOwn (model Pg w) (cxOf (L2.CX Pg w) Pg w K mg base N_19 "_law_nexts" (defScope (top 26)) f cdv A outer s H E).A (cxOf (L2.CX Pg w) Pg w K mg base N_19 "_law_nexts" (defScope (top 26)) f cdv A outer s H E).env (cxOf (L2.CX Pg w) Pg w K mg base N_19 "_law_nexts" (defScope (top 26)) f cdv A outer s H E).xe) :
    PSs (cxOf (L2.CX Pg w) Pg w K mg base N_19 "_law_nexts" (defScope (top 26)) f cdv A outer s H E) (defBody (top 26)) (rS K P B W (exL C (A_k30_19).body)) :=
  (st_cons (st_ret (s_ite (gtcmp c (o := .gt) (gsub c (gcall c 17 (gcons (gv 0) (gcons (gv 1) s_nil))) gint) gint) (s_tup (gcons gstr s_nil)) (s_tup (gcons gstr (gcons gstr (gcons gstr s_nil))))))
  st_nil)
abbrev N_20 : List Str := [("code" : Str), ("cards" : Str), ("many" : Str), ("found" : Str), ("turn" : Str), ("longer" : Str), ("row" : Str), ("card" : Str)]
theorem b_20 (c : Ctx (cxOf (L2.CX Pg w) Pg w K mg base N_20 "_law_all_cards" (defScope (top 27)) f cdv A outer s H E) P B W C (A_k30_20).io n 24 tb bl) (po : PassesOwn (model Pg w) (cxOf (L2.CX Pg w) Pg w K mg base N_20 "_law_all_cards" (defScope (top 27)) f cdv A outer s H E).A (cxOf (L2.CX Pg w) Pg w K mg base N_20 "_law_all_cards" (defScope (top 27)) f cdv A outer s H E).env (cxOf (L2.CX Pg w) Pg w K mg base N_20 "_law_all_cards" (defScope (top 27)) f cdv A outer s H E).xe) :
    PSs (cxOf (L2.CX Pg w) Pg w K mg base N_20 "_law_all_cards" (defScope (top 27)) f cdv A outer s H E) (defBody (top 27)) (rS K P B W (exL C (A_k30_20).body)) :=
  (st_cons (gset c (s_lst (gcons (gv 1) s_nil)))
  (st_cons (gfor c po (grng1 c (gcons (gv 2) s_nil)) (gt c 4) (st_cons (gset c (s_lst s_nil))
  (st_cons (gfor c po (s_sq (gv 3)) (gt c 6) (st_cons (gset c (s_bin (o := .add) (gv 5) (gcomp c [(("card" : Str), 7)] (s_sq (gcall c 19 (gcons (gv 0) (gcons (gv 6) s_nil)))) (fun _ _ _ _ _ => (gt (Ctx.blk c) 7)) (fun _ _ _ _ _ => c_nil) (fun _ _ _ _ _ => (s_bin (o := .add) (gv 6) (s_tup (gcons (gv 7) s_nil)))))))
  st_nil))
  (st_cons (gset c (gv 5))
  st_nil))))
  (st_cons (st_ret (gv 3))
  st_nil)))
abbrev N_21 : List Str := [("bag" : Str), ("code" : Str), ("many" : Str), ("found" : Str), ("turn" : Str)]
theorem b_21 (c : Ctx (cxOf (L2.CX Pg w) Pg w K mg base N_21 "_law_cards" (defScope (top 28)) f cdv A outer s H E) P B W C (A_k30_21).io n 24 tb bl) (po : PassesOwn (model Pg w) (cxOf (L2.CX Pg w) Pg w K mg base N_21 "_law_cards" (defScope (top 28)) f cdv A outer s H E).A (cxOf (L2.CX Pg w) Pg w K mg base N_21 "_law_cards" (defScope (top 28)) f cdv A outer s H E).env (cxOf (L2.CX Pg w) Pg w K mg base N_21 "_law_cards" (defScope (top 28)) f cdv A outer s H E).xe) :
    PSs (cxOf (L2.CX Pg w) Pg w K mg base N_21 "_law_cards" (defScope (top 28)) f cdv A outer s H E) (defBody (top 28)) (rS K P B W (exL C (A_k30_21).body)) :=
  (st_cons (gset c (s_tup s_nil))
  (st_cons (gfor c po (grng1 c (gcons (gv 2) s_nil)) (gt c 4) (st_cons (gset c (s_bin (o := .add) (gv 3) (s_tup (gcons (gcall c 15 (gcons (gv 0) (gcons (glist c (gcons (gcall c 19 (gcons (gv 1) (gcons (gv 3) s_nil))) s_nil)) s_nil))) s_nil))))
  st_nil))
  (st_cons (st_ret (gv 3))
  st_nil)))
abbrev N_22 : List Str := [("code" : Str), ("cards" : Str), ("many" : Str), ("row" : Str)]
theorem b_22 (c : Ctx (cxOf (L2.CX Pg w) Pg w K mg base N_22 "_law_ways" (defScope (top 29)) f cdv A outer s H E) P B W C (A_k30_22).io n 24 tb bl) (po : PassesOwn (model Pg w) (cxOf (L2.CX Pg w) Pg w K mg base N_22 "_law_ways" (defScope (top 29)) f cdv A outer s H E).A (cxOf (L2.CX Pg w) Pg w K mg base N_22 "_law_ways" (defScope (top 29)) f cdv A outer s H E).env (cxOf (L2.CX Pg w) Pg w K mg base N_22 "_law_ways" (defScope (top 29)) f cdv A outer s H E).xe) :
    PSs (cxOf (L2.CX Pg w) Pg w K mg base N_22 "_law_ways" (defScope (top 29)) f cdv A outer s H E) (defBody (top 29)) (rS K P B W (exL C (A_k30_22).body)) :=
  (st_cons (st_ret (gcomp c [(("row" : Str), 3)] (s_sq (gcall c 20 (gcons (gv 0) (gcons (gv 1) (gcons (gv 2) s_nil))))) (fun _ _ _ _ _ => (gt (Ctx.blk c) 3)) (fun _ _ _ _ _ => c_nil) (fun _ _ _ _ _ => (s_slF (gv 3) (glen (Ctx.blk c) (gcons (gv 1) s_nil))))))
  st_nil)
abbrev N_23 : List Str := [("script" : Str), ("bag" : Str), ("turn" : Str), ("code" : Str), ("long" : Str), ("squad" : Str), ("states" : Str), ("able" : Str), ("risk" : Str), ("row" : Str), ("good" : Str), ("at" : Str), ("some" : Str), ("many" : Str), ("sure" : Str), ("player" : Str), ("least" : Str), ("cards" : Str), ("state" : Str), ("ways" : Str), ("bars" : Str), ("told" : Str), ("k" : Str), ("way" : Str)]
theorem b_23 (c : Ctx (cxOf (L2.CX Pg w) Pg w K mg base N_23 "law" (defScope (top 30)) f cdv A outer s H E) P B W C (A_k30_23).io n 24 tb bl) (po : PassesOwn (model Pg w) (cxOf (L2.CX Pg w) Pg w K mg base N_23 "law" (defScope (top 30)) f cdv A outer s H E).A (cxOf (L2.CX Pg w) Pg w K mg base N_23 "law" (defScope (top 30)) f cdv A outer s H E).env (cxOf (L2.CX Pg w) Pg w K mg base N_23 "law" (defScope (top 30)) f cdv A outer s H E).xe) :
    PSs (cxOf (L2.CX Pg w) Pg w K mg base N_23 "law" (defScope (top 30)) f cdv A outer s H E) (defBody (top 30)) (rS K P B W (exL C (A_k30_23).body)) :=
  (st_cons (gset c (gcall c 13 (gcons (gv 0) s_nil)))
  (st_cons (gfor c po (grng1 c (gcons gint s_nil)) (gt c 2) (st_cons (by first | exact gpar2 c (gcons (gcall c 18 (gcons (gv 1) s_nil)) (gcons (gcall c 14 (gcons (gv 1) (gcons gint s_nil))) s_nil)) | exact (gparT c (gcons (gcall c 18 (gcons (gv 1) s_nil)) (gcons (gcall c 14 (gcons (gv 1) (gcons gint s_nil))) s_nil)) (gnm c 3 (gnm c 4 pgs_nil))))
  (st_cons (gset c (gtuple c (gcons (gcomp c [(("player" : Str), 15)] (grng1 c (gcons (gcall c 14 (gcons (gv 1) (gcons gint s_nil))) s_nil)) (fun _ _ _ _ _ => (gt (Ctx.blk c) 15)) (fun _ _ _ _ _ => c_nil) (fun _ _ _ _ _ => (gcall (Ctx.blk c) 21 (gcons (gv 1) (gcons (gv 3) (gcons (gv 4) s_nil)))))) s_nil)))
  (st_cons (by first | exact gsetC c [(("cards" : Str), 17)] (s_sq (gv 5)) (fun _ _ _ _ _ => (gt (Ctx.blk c) 17)) (fun _ _ _ _ _ => c_nil) (fun _ _ _ _ _ => (gcall (Ctx.blk c) 17 (gcons (gv 3) (gcons (gv 17) s_nil)))) | exact gset c (gcomp c [(("cards" : Str), 17)] (s_sq (gv 5)) (fun _ _ _ _ _ => (gt (Ctx.blk c) 17)) (fun _ _ _ _ _ => c_nil) (fun _ _ _ _ _ => (gcall (Ctx.blk c) 17 (gcons (gv 3) (gcons (gv 17) s_nil))))))
  (st_cons (by first | exact gsetC c [(("player" : Str), 15), (("state" : Str), 18)] (genum c (gv 6)) (fun _ _ _ _ _ => (gtt (Ctx.blk c) (g_cons (gt (Ctx.blk c) 15) (g_cons (gt (Ctx.blk c) 18) g_nil)))) (fun _ _ _ _ _ => (pts_one (gtcmp (Ctx.blk c) (o := .eq) (gsub (Ctx.blk c) (gv 18) gint) gint))) (fun _ _ _ _ _ => (gv 15)) | exact gset c (gcomp c [(("player" : Str), 15), (("state" : Str), 18)] (genum c (gv 6)) (fun _ _ _ _ _ => (gtt (Ctx.blk c) (g_cons (gt (Ctx.blk c) 15) (g_cons (gt (Ctx.blk c) 18) g_nil)))) (fun _ _ _ _ _ => (pts_one (gtcmp (Ctx.blk c) (o := .eq) (gsub (Ctx.blk c) (gv 18) gint) gint))) (fun _ _ _ _ _ => (gv 15))))
  (st_cons (by first | exact gsetC c [(("player" : Str), 15)] (s_sq (gv 7)) (fun _ _ _ _ _ => (gt (Ctx.blk c) 15)) (fun _ _ _ _ _ => (pts_one (gtcmp (Ctx.blk c) (o := .gt) (gsub (Ctx.blk c) (gcall (Ctx.blk c) 17 (gcons (gv 3) (gcons (s_bin (o := .add) (gsub (Ctx.blk c) (gv 5) (gv 15)) (s_tup (gcons gstr s_nil))) s_nil))) gint) gint))) (fun _ _ _ _ _ => (gv 15)) | exact gset c (gcomp c [(("player" : Str), 15)] (s_sq (gv 7)) (fun _ _ _ _ _ => (gt (Ctx.blk c) 15)) (fun _ _ _ _ _ => (pts_one (gtcmp (Ctx.blk c) (o := .gt) (gsub (Ctx.blk c) (gcall (Ctx.blk c) 17 (gcons (gv 3) (gcons (s_bin (o := .add) (gsub (Ctx.blk c) (gv 5) (gv 15)) (s_tup (gcons gstr s_nil))) s_nil))) gint) gint))) (fun _ _ _ _ _ => (gv 15))))
  (st_cons (st_if (t_not (gte (gcall c 16 (gcons (s_lst (gcons (gcall c 5 (gcons (gv 3) (gcons (gv 5) s_nil))) (gcons (gcall c 6 (gcons (gv 3) (gcons (gv 5) s_nil))) s_nil))) (gcons (s_lst (gcons (gtuple c (gcons (gv 7) s_nil)) (gcons (gtuple c (gcons (gv 8) s_nil)) s_nil))) s_nil))))) (st_cons (st_ret gbl)
  st_nil) st_nil)
  (st_cons (gset c (gtuple c (gcons (gcomp c [(("k" : Str), 22)] (grng1 c (gcons (gcall c 14 (gcons (gv 1) (gcons gint s_nil))) s_nil)) (fun _ _ _ _ _ => (gt (Ctx.blk c) 22)) (fun _ _ _ _ _ => c_nil) (fun _ _ _ _ _ => (gtuple (Ctx.blk c) (gcons (gcomp (Ctx.blk c) [(("player" : Str), 15)] (grng1 (Ctx.blk c) (gcons (glen (Ctx.blk c) (gcons (gv 5) s_nil)) s_nil)) (fun _ _ _ _ _ => (gt (Ctx.blk (Ctx.blk c)) 15)) (fun _ _ _ _ _ => (pts_one (gtcmp (Ctx.blk (Ctx.blk c)) (o := .eq) (gcall (Ctx.blk (Ctx.blk c)) 14 (gcons (gv 1) (gcons gint s_nil))) gint))) (fun _ _ _ _ _ => (gv 15))) s_nil)))) s_nil)))
  (st_cons (gset c gbl)
  (st_cons (gfor c po (genum c (gv 9)) (gtt c (g_cons (gt c 11) (g_cons (gt c 12) g_nil))) (st_cons (gset c (s_an (gv 10) (pe_one (gcmp c (o := .eq) (gcomp c [(("player" : Str), 15)] (s_sq (gv 12)) (fun _ _ _ _ _ => (gt (Ctx.blk c) 15)) (fun _ _ _ _ _ => (pts_one (gtcmp (Ctx.blk c) (o := .gt) (gsub (Ctx.blk c) (gsub (Ctx.blk c) (gv 6) (gv 15)) gint) (gv 11)))) (fun _ _ _ _ _ => gint)) (s_lst s_nil)))))
  st_nil))
  (st_cons (st_if (t_not (gte (gcall c 16 (gcons (gcall c 7 (gcons (gv 3) (gcons (gv 5) (gcons (gv 9) s_nil)))) (gcons (gv 10) s_nil))))) (st_cons (st_ret gbl)
  st_nil) st_nil)
  (st_cons (gfor c po (s_sq (s_lst (gcons gint (gcons gint (gcons (s_bin (o := .add) gint (gcall c 14 (gcons (gv 1) (gcons gint s_nil)))) s_nil))))) (gt c 13) (st_cons (gset c (s_lst s_nil))
  (st_cons (gfor c po (s_sq (gv 7)) (gt c 15) (st_cons (by first | exact gsetC c [(("way" : Str), 23)] (s_sq (gcall c 22 (gcons (gv 3) (gcons (gsub c (gv 5) (gv 15)) (gcons (gv 13) s_nil))))) (fun _ _ _ _ _ => (gt (Ctx.blk c) 23)) (fun _ _ _ _ _ => (pts_one (gtcmp (Ctx.blk c) (o := .notin) gstr (gv 23)))) (fun _ _ _ _ _ => (gv 23)) | exact gset c (gcomp c [(("way" : Str), 23)] (s_sq (gcall c 22 (gcons (gv 3) (gcons (gsub c (gv 5) (gv 15)) (gcons (gv 13) s_nil))))) (fun _ _ _ _ _ => (gt (Ctx.blk c) 23)) (fun _ _ _ _ _ => (pts_one (gtcmp (Ctx.blk c) (o := .notin) gstr (gv 23)))) (fun _ _ _ _ _ => (gv 23))))
  (st_cons (gset c (s_bin (o := .add) (gv 14) (s_ite (gtcmp c (o := .eq) (gcomp c [(("way" : Str), 23)] (s_sq (gv 19)) (fun _ _ _ _ _ => (gt (Ctx.blk c) 23)) (fun _ _ _ _ _ => (pts_one (gtcmp (Ctx.blk c) (o := .isin) gstr (gv 23)))) (fun _ _ _ _ _ => gint)) (s_lst s_nil)) (s_lst (gcons (gv 15) s_nil)) (s_lst s_nil))))
  st_nil)))
  (st_cons (st_if (t_not (gte (gcall c 16 (gcons (gcall c 8 (gcons (gv 3) (gcons (gv 5) (gcons (gv 13) s_nil)))) (gcons (gtuple c (gcons (gv 14) s_nil)) s_nil))))) (st_cons (st_ret gbl)
  st_nil) st_nil)
  (st_cons (gset c gint)
  (st_cons (gfor c po (s_sq (gv 5)) (gt c 17) (st_cons (gset c (gcall c 22 (gcons (gv 3) (gcons (gv 17) (gcons (gv 13) s_nil)))))
  (st_cons (by first | exact gsetC c [(("way" : Str), 23)] (s_sq (gv 19)) (fun _ _ _ _ _ => (gt (Ctx.blk c) 23)) (fun _ _ _ _ _ => (pts_one (gtcmp (Ctx.blk c) (o := .eq) (gsub (Ctx.blk c) (gv 23) (s_neg gint)) gstr))) (fun _ _ _ _ _ => (gv 23)) | exact gset c (gcomp c [(("way" : Str), 23)] (s_sq (gv 19)) (fun _ _ _ _ _ => (gt (Ctx.blk c) 23)) (fun _ _ _ _ _ => (pts_one (gtcmp (Ctx.blk c) (o := .eq) (gsub (Ctx.blk c) (gv 23) (s_neg gint)) gstr))) (fun _ _ _ _ _ => (gv 23))))
  (st_cons (gaug c (o := .add) (gint_ c (gcons (gcmp c (o := .eq) (gv 20) (s_lst s_nil)) s_nil)))
  (st_cons (gset c (s_lst (gcons (gcall c 10 (gcons (gv 3) (gcons (gv 17) (gcons (gv 13) s_nil)))) (gcons (gcall c 12 (gcons (gv 3) (gcons (gv 17) (gcons (gv 13) s_nil)))) s_nil))))
  (st_cons (st_if (t_not (gte (gcall c 16 (gcons (gv 21) (gcons (s_lst (gcons (gcmp c (o := .ne) (gv 20) (s_lst s_nil)) (gcons (s_ite (gtcmp c (o := .ne) (gv 20) (s_lst s_nil)) (gsub c (gv 20) gint) gnon) s_nil))) s_nil))))) (st_cons (st_ret gbl)
  st_nil) st_nil)
  st_nil))))))
  (st_cons (st_if (t_not (gte (gcall c 16 (gcons (gcall c 11 (gcons (gv 3) (gcons (gv 5) (gcons (gv 13) s_nil)))) (gcons (gv 16) s_nil))))) (st_cons (st_ret gbl)
  st_nil) st_nil)
  st_nil)))))))
  st_nil))))))))))))
  (st_cons (st_ret gbl)
  st_nil)))
end
end PD
end
section
set_option Elab.async false
set_option linter.all false
set_option maxRecDepth 100000
set_option maxHeartbeats 0
namespace HeadX
open PySem PySem.Spec PyProof.Rows L2
def top (i : Nat) : Stmt := PySem.Challenge.pw_lasthopes_k30_squads_and_bans.main.body.getD i (.Pass ⟨0, 0, 0, 0⟩)
def names0 : List PySem.Str := ["NONE", "YELLOW", "RED", "BARRED", "behind", "letters_of", "state_of", "bars_left", "yellows", "can_play", "at_risk", "can_row", "sure_players", "barred_in", "can_be_barred", "least_able", "way_to_bar", "_law_bag", "_law_take", "_law_some", "_law_alike", "_law_state", "_law_code", "_law_nexts", "_law_all_cards", "_law_cards", "_law_ways"]
def names : List PySem.Str := names0
def mkD (x : PySem.Str) (st : Stmt) : He.DefD := ⟨(x, none), x, x, defArgs st, defBody st, defScope st, [], []⟩
def fn : List He.DefD := [mkD "behind" (top 5), mkD "letters_of" (top 6), mkD "state_of" (top 7), mkD "bars_left" (top 8), mkD "yellows" (top 9), mkD "can_play" (top 11), mkD "at_risk" (top 12), mkD "can_row" (top 13), mkD "sure_players" (top 14), mkD "barred_in" (top 15), mkD "can_be_barred" (top 16), mkD "least_able" (top 17), mkD "way_to_bar" (top 18), mkD "_law_bag" (top 20), mkD "_law_take" (top 21), mkD "_law_some" (top 22), mkD "_law_alike" (top 23), mkD "_law_state" (top 24), mkD "_law_code" (top 25), mkD "_law_nexts" (top 26), mkD "_law_all_cards" (top 27), mkD "_law_cards" (top 28), mkD "_law_ways" (top 29), mkD "law" (top 30)]
def fa : List He.Fa := [.glo "behind", .glo "letters_of", .glo "state_of", .glo "bars_left", .glo "yellows", .glo "can_play", .glo "at_risk", .glo "can_row", .glo "sure_players", .glo "barred_in", .glo "can_be_barred", .glo "least_able", .glo "way_to_bar", .glo "_law_bag", .glo "_law_take", .glo "_law_some", .glo "_law_alike", .glo "_law_state", .glo "_law_code", .glo "_law_nexts", .glo "_law_all_cards", .glo "_law_cards", .glo "_law_ways", .glo "law", .free "len", .free "int", .free "abs", .free "list", .free "tuple", .free "any", .free "max", .free "sorted", .free "range", .free "zip", .free "enumerate", .free "isinstance", .free "str", .free "bool", .str "NONE" "n", .str "YELLOW" "y", .str "RED" "r", .str "BARRED" "b"]
abbrev R : PySem.W.OpenRow := PySem.W.OpenLaw.row PySem.Challenge.rw_lasthopes_k30_squads_and_bans
abbrev hk : PySem.W.Hook := He.hookD 4 fa fn
def ob (s : PySem.W.SharedT) : He.AlD := He.obsDG 4 fa fn (HandSHeadRun.getT s)
theorem ob_eq (s : PySem.W.SharedT) : ob s = hk.obs s.abs := He.obsDG_eq (HandSHeadRun.getT_eq s)
theorem run (w : World) : HandSHeadRun.RunEq R (PySem.W.view R.prog [30]) hk ob 4000 names w := by
  intro os
  kernel_rfl
end HeadX
end
section
set_option Elab.async false
set_option linter.all false
set_option maxRecDepth 100000
set_option maxHeartbeats 0
namespace PD
open PySem L2
def nmL : List Str := [("behind" : Str), ("letters_of" : Str), ("state_of" : Str), ("bars_left" : Str), ("yellows" : Str), ("can_play" : Str), ("at_risk" : Str), ("can_row" : Str), ("sure_players" : Str), ("barred_in" : Str), ("can_be_barred" : Str), ("least_able" : Str), ("way_to_bar" : Str), ("_law_bag" : Str), ("_law_take" : Str), ("_law_some" : Str), ("_law_alike" : Str), ("_law_state" : Str), ("_law_code" : Str), ("_law_nexts" : Str), ("_law_all_cards" : Str), ("_law_cards" : Str), ("_law_ways" : Str), ("law" : Str)]
def nm (i : Nat) : Str := nmL.getD i ("" : Str)
def plK (K : PySem.W.Frag) : Pl := ⟨fun i => He.ga K (nm i), fun _ _ => False⟩
section
variable {Pg : Program} {w : World} {K : PySem.W.Frag} {mg : Str → Option Value} {base : Heap}
theorem sc_0 : FnScope N_0 ["code", "state", "letter"] (defScope (top 5)) := ⟨rfl, rfl, rfl, by decide +kernel, rfl, by decide +kernel, by decide +kernel⟩
theorem d_0 (sd : He.SaysD HeadX.fa HeadX.fn K) (gf : ∀ x i, tb x = some i → mg x = some (.ref ((plK K).fa i))) (gb : ∀ x, bl x = true → mg x = none) (k_BARRED : ∃ t, mg "BARRED" = some (.str "b" t)) (k_RED : ∃ t, mg "RED" = some (.str "r" t)) (k_YELLOW : ∃ t, mg "YELLOW" = some (.str "y" t)) : DefOk Pg w K mg base (plK K) G_k30 24 0 := by
  obtain ⟨fd, F⟩ := sd.def_ 0 (d := HeadX.mkD "behind" (HeadX.top 5)) rfl
  exact ⟨⟨A_k30_0, fd, ["code", "state", "letter"], rfl, F.bindsN fun _ _ _ _ _ _ us hl => match us, hl with | [_, _, _], _ => rfl, fun n C hfn => def_ok F sc_0 rfl rfl fun cdv A outer s H E B W bd =>
    b_0 k_BARRED k_RED k_YELLOW ⟨bd.calm, bd.nd, bd.u, bd.tk, bd.rm, bd.io, gf, gb, fun i hi => ⟨(hfn i hi).ex, (hfn i hi).kp⟩⟩ bd.po⟩, F.kp⟩
theorem sc_1 : FnScope N_1 ["state"] (defScope (top 6)) := ⟨rfl, rfl, rfl, by decide +kernel, rfl, by decide +kernel, by decide +kernel⟩
theorem d_1 (sd : He.SaysD HeadX.fa HeadX.fn K) (gf : ∀ x i, tb x = some i → mg x = some (.ref ((plK K).fa i))) (gb : ∀ x, bl x = true → mg x = none) (k_BARRED : ∃ t, mg "BARRED" = some (.str "b" t)) (k_NONE : ∃ t, mg "NONE" = some (.str "n" t)) (k_RED : ∃ t, mg "RED" = some (.str "r" t)) (k_YELLOW : ∃ t, mg "YELLOW" = some (.str "y" t)) : DefOk Pg w K mg base (plK K) G_k30 24 1 := by
  obtain ⟨fd, F⟩ := sd.def_ 1 (d := HeadX.mkD "letters_of" (HeadX.top 6)) rfl
  exact ⟨⟨A_k30_1, fd, ["state"], rfl, F.bindsN fun _ _ _ _ _ _ us hl => match us, hl with | [_], _ => rfl, fun n C hfn => def_ok F sc_1 rfl rfl fun cdv A outer s H E B W bd =>
    b_1 k_BARRED k_NONE k_RED k_YELLOW ⟨bd.calm, bd.nd, bd.u, bd.tk, bd.rm, bd.io, gf, gb, fun i hi => ⟨(hfn i hi).ex, (hfn i hi).kp⟩⟩ bd.po⟩, F.kp⟩
theorem sc_2 : FnScope N_2 ["code", "cards"] (defScope (top 7)) := ⟨rfl, rfl, rfl, by decide +kernel, rfl, by decide +kernel, by decide +kernel⟩
theorem d_2 (sd : He.SaysD HeadX.fa HeadX.fn K) (gf : ∀ x i, tb x = some i → mg x = some (.ref ((plK K).fa i))) (gb : ∀ x, bl x = true → mg x = none) : DefOk Pg w K mg base (plK K) G_k30 24 2 := by
  obtain ⟨fd, F⟩ := sd.def_ 2 (d := HeadX.mkD "state_of" (HeadX.top 7)) rfl
  exact ⟨⟨A_k30_2, fd, ["code", "cards"], rfl, F.bindsN fun _ _ _ _ _ _ us hl => match us, hl with | [_, _], _ => rfl, fun n C hfn => def_ok F sc_2 rfl rfl fun cdv A outer s H E B W bd =>
    b_2 ⟨bd.calm, bd.nd, bd.u, bd.tk, bd.rm, bd.io, gf, gb, fun i hi => ⟨(hfn i hi).ex, (hfn i hi).kp⟩⟩ bd.po⟩, F.kp⟩
theorem sc_3 : FnScope N_3 ["code", "cards"] (defScope (top 8)) := ⟨rfl, rfl, rfl, by decide +kernel, rfl, by decide +kernel, by decide +kernel⟩
theorem d_3 (sd : He.SaysD HeadX.fa HeadX.fn K) (gf : ∀ x i, tb x = some i → mg x = some (.ref ((plK K).fa i))) (gb : ∀ x, bl x = true → mg x = none) : DefOk Pg w K mg base (plK K) G_k30 24 3 := by
  obtain ⟨fd, F⟩ := sd.def_ 3 (d := HeadX.mkD "bars_left" (HeadX.top 8)) rfl
  exact ⟨⟨A_k30_3, fd, ["code", "cards"], rfl, F.bindsN fun _ _ _ _ _ _ us hl => match us, hl with | [_, _], _ => rfl, fun n C hfn => def_ok F sc_3 rfl rfl fun cdv A outer s H E B W bd =>
    b_3 ⟨bd.calm, bd.nd, bd.u, bd.tk, bd.rm, bd.io, gf, gb, fun i hi => ⟨(hfn i hi).ex, (hfn i hi).kp⟩⟩ bd.po⟩, F.kp⟩
theorem sc_4 : FnScope N_4 ["code", "cards"] (defScope (top 9)) := ⟨rfl, rfl, rfl, by decide +kernel, rfl, by decide +kernel, by decide +kernel⟩
theorem d_4 (sd : He.SaysD HeadX.fa HeadX.fn K) (gf : ∀ x i, tb x = some i → mg x = some (.ref ((plK K).fa i))) (gb : ∀ x, bl x = true → mg x = none) : DefOk Pg w K mg base (plK K) G_k30 24 4 := by
  obtain ⟨fd, F⟩ := sd.def_ 4 (d := HeadX.mkD "yellows" (HeadX.top 9)) rfl
  exact ⟨⟨A_k30_4, fd, ["code", "cards"], rfl, F.bindsN fun _ _ _ _ _ _ us hl => match us, hl with | [_, _], _ => rfl, fun n C hfn => def_ok F sc_4 rfl rfl fun cdv A outer s H E B W bd =>
    b_4 ⟨bd.calm, bd.nd, bd.u, bd.tk, bd.rm, bd.io, gf, gb, fun i hi => ⟨(hfn i hi).ex, (hfn i hi).kp⟩⟩ bd.po⟩, F.kp⟩
theorem sc_5 : FnScope N_5 ["code", "squad"] (defScope (top 11)) := ⟨rfl, rfl, rfl, by decide +kernel, rfl, by decide +kernel, by decide +kernel⟩
theorem d_5 (sd : He.SaysD HeadX.fa HeadX.fn K) (gf : ∀ x i, tb x = some i → mg x = some (.ref ((plK K).fa i))) (gb : ∀ x, bl x = true → mg x = none) : DefOk Pg w K mg base (plK K) G_k30 24 5 := by
  obtain ⟨fd, F⟩ := sd.def_ 5 (d := HeadX.mkD "can_play" (HeadX.top 11)) rfl
  exact ⟨⟨A_k30_5, fd, ["code", "squad"], rfl, F.bindsN fun _ _ _ _ _ _ us hl => match us, hl with | [_, _], _ => rfl, fun n C hfn => def_ok F sc_5 rfl rfl fun cdv A outer s H E B W bd =>
    b_5 ⟨bd.calm, bd.nd, bd.u, bd.tk, bd.rm, bd.io, gf, gb, fun i hi => ⟨(hfn i hi).ex, (hfn i hi).kp⟩⟩ bd.po⟩, F.kp⟩
theorem sc_6 : FnScope N_6 ["code", "squad"] (defScope (top 12)) := ⟨rfl, rfl, rfl, by decide +kernel, rfl, by decide +kernel, by decide +kernel⟩
theorem d_6 (sd : He.SaysD HeadX.fa HeadX.fn K) (gf : ∀ x i, tb x = some i → mg x = some (.ref ((plK K).fa i))) (gb : ∀ x, bl x = true → mg x = none) : DefOk Pg w K mg base (plK K) G_k30 24 6 := by
  obtain ⟨fd, F⟩ := sd.def_ 6 (d := HeadX.mkD "at_risk" (HeadX.top 12)) rfl
  exact ⟨⟨A_k30_6, fd, ["code", "squad"], rfl, F.bindsN fun _ _ _ _ _ _ us hl => match us, hl with | [_, _], _ => rfl, fun n C hfn => def_ok F sc_6 rfl rfl fun cdv A outer s H E B W bd =>
    b_6 ⟨bd.calm, bd.nd, bd.u, bd.tk, bd.rm, bd.io, gf, gb, fun i hi => ⟨(hfn i hi).ex, (hfn i hi).kp⟩⟩ bd.po⟩, F.kp⟩
theorem sc_7 : FnScope N_7 ["code", "squad", "row"] (defScope (top 13)) := ⟨rfl, rfl, rfl, by decide +kernel, rfl, by decide +kernel, by decide +kernel⟩
theorem d_7 (sd : He.SaysD HeadX.fa HeadX.fn K) (gf : ∀ x i, tb x = some i → mg x = some (.ref ((plK K).fa i))) (gb : ∀ x, bl x = true → mg x = none) : DefOk Pg w K mg base (plK K) G_k30 24 7 := by
  obtain ⟨fd, F⟩ := sd.def_ 7 (d := HeadX.mkD "can_row" (HeadX.top 13)) rfl
  exact ⟨⟨A_k30_7, fd, ["code", "squad", "row"], rfl, F.bindsN fun _ _ _ _ _ _ us hl => match us, hl with | [_, _, _], _ => rfl, fun n C hfn => def_ok F sc_7 rfl rfl fun cdv A outer s H E B W bd =>
    b_7 ⟨bd.calm, bd.nd, bd.u, bd.tk, bd.rm, bd.io, gf, gb, fun i hi => ⟨(hfn i hi).ex, (hfn i hi).kp⟩⟩ bd.po⟩, F.kp⟩
theorem sc_8 : FnScope N_8 ["code", "squad", "many"] (defScope (top 14)) := ⟨rfl, rfl, rfl, by decide +kernel, rfl, by decide +kernel, by decide +kernel⟩
theorem d_8 (sd : He.SaysD HeadX.fa HeadX.fn K) (gf : ∀ x i, tb x = some i → mg x = some (.ref ((plK K).fa i))) (gb : ∀ x, bl x = true → mg x = none) : DefOk Pg w K mg base (plK K) G_k30 24 8 := by
  obtain ⟨fd, F⟩ := sd.def_ 8 (d := HeadX.mkD "sure_players" (HeadX.top 14)) rfl
  exact ⟨⟨A_k30_8, fd, ["code", "squad", "many"], rfl, F.bindsN fun _ _ _ _ _ _ us hl => match us, hl with | [_, _, _], _ => rfl, fun n C hfn => def_ok F sc_8 rfl rfl fun cdv A outer s H E B W bd =>
    b_8 ⟨bd.calm, bd.nd, bd.u, bd.tk, bd.rm, bd.io, gf, gb, fun i hi => ⟨(hfn i hi).ex, (hfn i hi).kp⟩⟩ bd.po⟩, F.kp⟩
theorem sc_9 : FnScope N_9 ["code", "state", "many"] (defScope (top 15)) := ⟨rfl, rfl, rfl, by decide +kernel, rfl, by decide +kernel, by decide +kernel⟩
theorem d_9 (sd : He.SaysD HeadX.fa HeadX.fn K) (gf : ∀ x i, tb x = some i → mg x = some (.ref ((plK K).fa i))) (gb : ∀ x, bl x = true → mg x = none) : DefOk Pg w K mg base (plK K) G_k30 24 9 := by
  obtain ⟨fd, F⟩ := sd.def_ 9 (d := HeadX.mkD "barred_in" (HeadX.top 15)) rfl
  exact ⟨⟨A_k30_9, fd, ["code", "state", "many"], rfl, F.bindsN fun _ _ _ _ _ _ us hl => match us, hl with | [_, _, _], _ => rfl, fun n C hfn => def_ok F sc_9 rfl rfl fun cdv A outer s H E B W bd =>
    b_9 ⟨bd.calm, bd.nd, bd.u, bd.tk, bd.rm, bd.io, gf, gb, fun i hi => ⟨(hfn i hi).ex, (hfn i hi).kp⟩⟩ bd.po⟩, F.kp⟩
theorem sc_10 : FnScope N_10 ["code", "cards", "many"] (defScope (top 16)) := ⟨rfl, rfl, rfl, by decide +kernel, rfl, by decide +kernel, by decide +kernel⟩
theorem d_10 (sd : He.SaysD HeadX.fa HeadX.fn K) (gf : ∀ x i, tb x = some i → mg x = some (.ref ((plK K).fa i))) (gb : ∀ x, bl x = true → mg x = none) : DefOk Pg w K mg base (plK K) G_k30 24 10 := by
  obtain ⟨fd, F⟩ := sd.def_ 10 (d := HeadX.mkD "can_be_barred" (HeadX.top 16)) rfl
  exact ⟨⟨A_k30_10, fd, ["code", "cards", "many"], rfl, F.bindsN fun _ _ _ _ _ _ us hl => match us, hl with | [_, _, _], _ => rfl, fun n C hfn => def_ok F sc_10 rfl rfl fun cdv A outer s H E B W bd =>
    b_10 ⟨bd.calm, bd.nd, bd.u, bd.tk, bd.rm, bd.io, gf, gb, fun i hi => ⟨(hfn i hi).ex, (hfn i hi).kp⟩⟩ bd.po⟩, F.kp⟩
theorem sc_11 : FnScope N_11 ["code", "squad", "many"] (defScope (top 17)) := ⟨rfl, rfl, rfl, by decide +kernel, rfl, by decide +kernel, by decide +kernel⟩
theorem d_11 (sd : He.SaysD HeadX.fa HeadX.fn K) (gf : ∀ x i, tb x = some i → mg x = some (.ref ((plK K).fa i))) (gb : ∀ x, bl x = true → mg x = none) : DefOk Pg w K mg base (plK K) G_k30 24 11 := by
  obtain ⟨fd, F⟩ := sd.def_ 11 (d := HeadX.mkD "least_able" (HeadX.top 17)) rfl
  exact ⟨⟨A_k30_11, fd, ["code", "squad", "many"], rfl, F.bindsN fun _ _ _ _ _ _ us hl => match us, hl with | [_, _, _], _ => rfl, fun n C hfn => def_ok F sc_11 rfl rfl fun cdv A outer s H E B W bd =>
    b_11 ⟨bd.calm, bd.nd, bd.u, bd.tk, bd.rm, bd.io, gf, gb, fun i hi => ⟨(hfn i hi).ex, (hfn i hi).kp⟩⟩ bd.po⟩, F.kp⟩
theorem sc_12 : FnScope N_12 ["code", "cards", "many"] (defScope (top 18)) := ⟨rfl, rfl, rfl, by decide +kernel, rfl, by decide +kernel, by decide +kernel⟩
theorem d_12 (sd : He.SaysD HeadX.fa HeadX.fn K) (gf : ∀ x i, tb x = some i → mg x = some (.ref ((plK K).fa i))) (gb : ∀ x, bl x = true → mg x = none) (k_BARRED : ∃ t, mg "BARRED" = some (.str "b" t)) : DefOk Pg w K mg base (plK K) G_k30 24 12 := by
  obtain ⟨fd, F⟩ := sd.def_ 12 (d := HeadX.mkD "way_to_bar" (HeadX.top 18)) rfl
  exact ⟨⟨A_k30_12, fd, ["code", "cards", "many"], rfl, F.bindsN fun _ _ _ _ _ _ us hl => match us, hl with | [_, _, _], _ => rfl, fun n C hfn => def_ok F sc_12 rfl rfl fun cdv A outer s H E B W bd =>
    b_12 k_BARRED ⟨bd.calm, bd.nd, bd.u, bd.tk, bd.rm, bd.io, gf, gb, fun i hi => ⟨(hfn i hi).ex, (hfn i hi).kp⟩⟩ bd.po⟩, F.kp⟩
theorem sc_13 : FnScope N_13 ["script"] (defScope (top 20)) := ⟨rfl, rfl, rfl, by decide +kernel, rfl, by decide +kernel, by decide +kernel⟩
theorem d_13 (sd : He.SaysD HeadX.fa HeadX.fn K) (gf : ∀ x i, tb x = some i → mg x = some (.ref ((plK K).fa i))) (gb : ∀ x, bl x = true → mg x = none) : DefOk Pg w K mg base (plK K) G_k30 24 13 := by
  obtain ⟨fd, F⟩ := sd.def_ 13 (d := HeadX.mkD "_law_bag" (HeadX.top 20)) rfl
  exact ⟨⟨A_k30_13, fd, ["script"], rfl, F.bindsN fun _ _ _ _ _ _ us hl => match us, hl with | [_], _ => rfl, fun n C hfn => def_ok F sc_13 rfl rfl fun cdv A outer s H E B W bd =>
    b_13 ⟨bd.calm, bd.nd, bd.u, bd.tk, bd.rm, bd.io, gf, gb, fun i hi => ⟨(hfn i hi).ex, (hfn i hi).kp⟩⟩ bd.po⟩, F.kp⟩
theorem sc_14 : FnScope N_14 ["bag", "many"] (defScope (top 21)) := ⟨rfl, rfl, rfl, by decide +kernel, rfl, by decide +kernel, by decide +kernel⟩
theorem d_14 (sd : He.SaysD HeadX.fa HeadX.fn K) (gf : ∀ x i, tb x = some i → mg x = some (.ref ((plK K).fa i))) (gb : ∀ x, bl x = true → mg x = none) : DefOk Pg w K mg base (plK K) G_k30 24 14 := by
  obtain ⟨fd, F⟩ := sd.def_ 14 (d := HeadX.mkD "_law_take" (HeadX.top 21)) rfl
  exact ⟨⟨A_k30_14, fd, ["bag", "many"], rfl, F.bindsN fun _ _ _ _ _ _ us hl => match us, hl with | [_, _], _ => rfl, fun n C hfn => def_ok F sc_14 rfl rfl fun cdv A outer s H E B W bd =>
    b_14 ⟨bd.calm, bd.nd, bd.u, bd.tk, bd.rm, bd.io, gf, gb, fun i hi => ⟨(hfn i hi).ex, (hfn i hi).kp⟩⟩ bd.po⟩, F.kp⟩
theorem sc_15 : FnScope N_15 ["bag", "things"] (defScope (top 22)) := ⟨rfl, rfl, rfl, by decide +kernel, rfl, by decide +kernel, by decide +kernel⟩
theorem d_15 (sd : He.SaysD HeadX.fa HeadX.fn K) (gf : ∀ x i, tb x = some i → mg x = some (.ref ((plK K).fa i))) (gb : ∀ x, bl x = true → mg x = none) : DefOk Pg w K mg base (plK K) G_k30 24 15 := by
  obtain ⟨fd, F⟩ := sd.def_ 15 (d := HeadX.mkD "_law_some" (HeadX.top 22)) rfl
  exact ⟨⟨A_k30_15, fd, ["bag", "things"], rfl, F.bindsN fun _ _ _ _ _ _ us hl => match us, hl with | [_, _], _ => rfl, fun n C hfn => def_ok F sc_15 rfl rfl fun cdv A outer s H E B W bd =>
    b_15 ⟨bd.calm, bd.nd, bd.u, bd.tk, bd.rm, bd.io, gf, gb, fun i hi => ⟨(hfn i hi).ex, (hfn i hi).kp⟩⟩ bd.po⟩, F.kp⟩
theorem sc_16 : FnScope N_16 ["found", "due"] (defScope (top 23)) := ⟨rfl, rfl, rfl, by decide +kernel, rfl, by decide +kernel, by decide +kernel⟩
theorem d_16 (sd : He.SaysD HeadX.fa HeadX.fn K) (gf : ∀ x i, tb x = some i → mg x = some (.ref ((plK K).fa i))) (gb : ∀ x, bl x = true → mg x = none) : DefOk Pg w K mg base (plK K) G_k30 24 16 := by
  obtain ⟨fd, F⟩ := sd.def_ 16 (d := HeadX.mkD "_law_alike" (HeadX.top 23)) rfl
  exact ⟨⟨A_k30_16, fd, ["found", "due"], rfl, F.bindsN fun _ _ _ _ _ _ us hl => match us, hl with | [_, _], _ => rfl, fun n C hfn => def_ok F sc_16 rfl rfl fun cdv A outer s H E B W bd =>
    b_16 ⟨bd.calm, bd.nd, bd.u, bd.tk, bd.rm, bd.io, gf, gb, fun i hi => ⟨(hfn i hi).ex, (hfn i hi).kp⟩⟩ bd.po⟩, F.kp⟩
theorem sc_17 : FnScope N_17 ["code", "cards"] (defScope (top 24)) := ⟨rfl, rfl, rfl, by decide +kernel, rfl, by decide +kernel, by decide +kernel⟩
theorem d_17 (sd : He.SaysD HeadX.fa HeadX.fn K) (gf : ∀ x i, tb x = some i → mg x = some (.ref ((plK K).fa i))) (gb : ∀ x, bl x = true → mg x = none) : DefOk Pg w K mg base (plK K) G_k30 24 17 := by
  obtain ⟨fd, F⟩ := sd.def_ 17 (d := HeadX.mkD "_law_state" (HeadX.top 24)) rfl
  exact ⟨⟨A_k30_17, fd, ["code", "cards"], rfl, F.bindsN fun _ _ _ _ _ _ us hl => match us, hl with | [_, _], _ => rfl, fun n C hfn => def_ok F sc_17 rfl rfl fun cdv A outer s H E B W bd =>
    b_17 ⟨bd.calm, bd.nd, bd.u, bd.tk, bd.rm, bd.io, gf, gb, fun i hi => ⟨(hfn i hi).ex, (hfn i hi).kp⟩⟩ bd.po⟩, F.kp⟩
theorem sc_18 : FnScope N_18 ["bag"] (defScope (top 25)) := ⟨rfl, rfl, rfl, by decide +kernel, rfl, by decide +kernel, by decide +kernel⟩
theorem d_18 (sd : He.SaysD HeadX.fa HeadX.fn K) (gf : ∀ x i, tb x = some i → mg x = some (.ref ((plK K).fa i))) (gb : ∀ x, bl x = true → mg x = none) : DefOk Pg w K mg base (plK K) G_k30 24 18 := by
  obtain ⟨fd, F⟩ := sd.def_ 18 (d := HeadX.mkD "_law_code" (HeadX.top 25)) rfl
  exact ⟨⟨A_k30_18, fd, ["bag"], rfl, F.bindsN fun _ _ _ _ _ _ us hl => match us, hl with | [_], _ => rfl, fun n C hfn => def_ok F sc_18 rfl rfl fun cdv A outer s H E B W bd =>
    b_18 ⟨bd.calm, bd.nd, bd.u, bd.tk, bd.rm, bd.io, gf, gb, fun i hi => ⟨(hfn i hi).ex, (hfn i hi).kp⟩⟩ bd.po⟩, F.kp⟩
theorem sc_19 : FnScope N_19 ["code", "cards"] (defScope (top 26)) := ⟨rfl, rfl, rfl, by decide +kernel, rfl, by decide +kernel, by decide +kernel⟩
theorem d_19 (sd : He.SaysD HeadX.fa HeadX.fn K) (gf : ∀ x i, tb x = some i → mg x = some (.ref ((plK K).fa i))) (gb : ∀ x, bl x = true → mg x = none) : DefOk Pg w K mg base (plK K) G_k30 24 19 := by
  obtain ⟨fd, F⟩ := sd.def_ 19 (d := HeadX.mkD "_law_nexts" (HeadX.top 26)) rfl
  exact ⟨⟨A_k30_19, fd, ["code", "cards"], rfl, F.bindsN fun _ _ _ _ _ _ us hl => match us, hl with | [_, _], _ => rfl, fun n C hfn => def_ok F sc_19 rfl rfl fun cdv A outer s H E B W bd =>
    b_19 ⟨bd.calm, bd.nd, bd.u, bd.tk, bd.rm, bd.io, gf, gb, fun i hi => ⟨(hfn i hi).ex, (hfn i hi).kp⟩⟩ bd.po⟩, F.kp⟩
theorem sc_20 : FnScope N_20 ["code", "cards", "many"] (defScope (top 27)) := ⟨rfl, rfl, rfl, by decide +kernel, rfl, by decide +kernel, by decide +kernel⟩
theorem d_20 (sd : He.SaysD HeadX.fa HeadX.fn K) (gf : ∀ x i, tb x = some i → mg x = some (.ref ((plK K).fa i))) (gb : ∀ x, bl x = true → mg x = none) : DefOk Pg w K mg base (plK K) G_k30 24 20 := by
  obtain ⟨fd, F⟩ := sd.def_ 20 (d := HeadX.mkD "_law_all_cards" (HeadX.top 27)) rfl
  exact ⟨⟨A_k30_20, fd, ["code", "cards", "many"], rfl, F.bindsN fun _ _ _ _ _ _ us hl => match us, hl with | [_, _, _], _ => rfl, fun n C hfn => def_ok F sc_20 rfl rfl fun cdv A outer s H E B W bd =>
    b_20 ⟨bd.calm, bd.nd, bd.u, bd.tk, bd.rm, bd.io, gf, gb, fun i hi => ⟨(hfn i hi).ex, (hfn i hi).kp⟩⟩ bd.po⟩, F.kp⟩
theorem sc_21 : FnScope N_21 ["bag", "code", "many"] (defScope (top 28)) := ⟨rfl, rfl, rfl, by decide +kernel, rfl, by decide +kernel, by decide +kernel⟩
theorem d_21 (sd : He.SaysD HeadX.fa HeadX.fn K) (gf : ∀ x i, tb x = some i → mg x = some (.ref ((plK K).fa i))) (gb : ∀ x, bl x = true → mg x = none) : DefOk Pg w K mg base (plK K) G_k30 24 21 := by
  obtain ⟨fd, F⟩ := sd.def_ 21 (d := HeadX.mkD "_law_cards" (HeadX.top 28)) rfl
  exact ⟨⟨A_k30_21, fd, ["bag", "code", "many"], rfl, F.bindsN fun _ _ _ _ _ _ us hl => match us, hl with | [_, _, _], _ => rfl, fun n C hfn => def_ok F sc_21 rfl rfl fun cdv A outer s H E B W bd =>
    b_21 ⟨bd.calm, bd.nd, bd.u, bd.tk, bd.rm, bd.io, gf, gb, fun i hi => ⟨(hfn i hi).ex, (hfn i hi).kp⟩⟩ bd.po⟩, F.kp⟩
theorem sc_22 : FnScope N_22 ["code", "cards", "many"] (defScope (top 29)) := ⟨rfl, rfl, rfl, by decide +kernel, rfl, by decide +kernel, by decide +kernel⟩
theorem d_22 (sd : He.SaysD HeadX.fa HeadX.fn K) (gf : ∀ x i, tb x = some i → mg x = some (.ref ((plK K).fa i))) (gb : ∀ x, bl x = true → mg x = none) : DefOk Pg w K mg base (plK K) G_k30 24 22 := by
  obtain ⟨fd, F⟩ := sd.def_ 22 (d := HeadX.mkD "_law_ways" (HeadX.top 29)) rfl
  exact ⟨⟨A_k30_22, fd, ["code", "cards", "many"], rfl, F.bindsN fun _ _ _ _ _ _ us hl => match us, hl with | [_, _, _], _ => rfl, fun n C hfn => def_ok F sc_22 rfl rfl fun cdv A outer s H E B W bd =>
    b_22 ⟨bd.calm, bd.nd, bd.u, bd.tk, bd.rm, bd.io, gf, gb, fun i hi => ⟨(hfn i hi).ex, (hfn i hi).kp⟩⟩ bd.po⟩, F.kp⟩
theorem sc_23 : FnScope N_23 ["script"] (defScope (top 30)) := ⟨rfl, rfl, rfl, by decide +kernel, rfl, by decide +kernel, by decide +kernel⟩
theorem d_23 (sd : He.SaysD HeadX.fa HeadX.fn K) (gf : ∀ x i, tb x = some i → mg x = some (.ref ((plK K).fa i))) (gb : ∀ x, bl x = true → mg x = none) : DefOk Pg w K mg base (plK K) G_k30 24 23 := by
  obtain ⟨fd, F⟩ := sd.def_ 23 (d := HeadX.mkD "law" (HeadX.top 30)) rfl
  exact ⟨⟨A_k30_23, fd, ["script"], rfl, F.bindsN fun _ _ _ _ _ _ us hl => match us, hl with | [_], _ => rfl, fun n C hfn => def_ok F sc_23 rfl rfl fun cdv A outer s H E B W bd =>
    b_23 ⟨bd.calm, bd.nd, bd.u, bd.tk, bd.rm, bd.io, gf, gb, fun i hi => ⟨(hfn i hi).ex, (hfn i hi).kp⟩⟩ bd.po⟩, F.kp⟩
end
end PD
end
section
set_option linter.all false
set_option maxRecDepth 100000
/-! big steps of the interpreter, one a form -/
namespace PD.Q
open PySem
section
variable {C : Nat → Callee} {env e1 e2 e3 e4 e5 e6 : Env} {a b c i lo hi : E} {x y z : O} {p q r : PyData} {m m' : MV} {t : Bool} {es : EL} {os : List O} {ps : List PyData} {w : List PyData} {n j k : Nat}
theorem bind_of {α β : Type} {x : M α} {f : α → M β} {a : α} {R : R β} (h : x env = .ok a e1) (g : f a e1 = R) : M.bind x f env = R := by unfold M.bind; rw [h]; exact g
theorem ev_cst : evO C (.cst p) env = .ok (.v (.d p)) env := by rw [evO]; rfl
theorem ev_fn : evO C (.fn n) env = .ok (.v (.fn n)) env := by rw [evO]; rfl
theorem ev_var (h : env.at n = some m) : evO C (.var n) env = .ok (.r n) env := by rw [evO]; simp only [h]
theorem ev_bin {o : BO} (ha : evO C a env = .ok x e1) (hb : evO C b e1 = .ok y e2) (hx : rdD x e2 = .ok p e3) (hy : rdD y e3 = .ok q e4) (h : binop o p q = some m) : evO C (.bin o a b) env = .ok (.v m) e4 := by
  rw [evO]; exact bind_of ha (bind_of hb (bind_of hx (bind_of hy (by rw [h]; rfl))))
theorem ev_neg {k : Int} (ha : evO C a env = .ok x e1) (hx : rdD x e1 = .ok (.int k) e2) : evO C (.neg a) env = .ok (.v (.d (.int (-k)))) e2 := by
  rw [evO]; exact bind_of ha (bind_of hx rfl)
theorem ev_nt (ha : evO C a env = .ok x e1) (hx : rdD x e1 = .ok p e2) (h : truth p = some t) : evO C (.nt a) env = .ok (.v (.d (.bool (!t)))) e2 := by
  rw [evO]; exact bind_of ha (bind_of hx (by rw [h]; rfl))
theorem ev_anT (ha : evO C a env = .ok x e1) (hx : tk x e1 = .ok p e2) (h : truth p = some true) (hb : evO C b e2 = .ok y e3) : evO C (.an a b) env = .ok y e3 := by
  rw [evO]; exact bind_of ha (bind_of hx (by rw [h]; exact hb))
theorem ev_anF (ha : evO C a env = .ok x e1) (hx : tk x e1 = .ok p e2) (h : truth p = some false) : evO C (.an a b) env = .ok (.v (.d p)) e2 := by
  rw [evO]; exact bind_of ha (bind_of hx (by rw [h]; rfl))
theorem ev_orT (ha : evO C a env = .ok x e1) (hx : tk x e1 = .ok p e2) (h : truth p = some true) : evO C (.or a b) env = .ok (.v (.d p)) e2 := by
  rw [evO]; exact bind_of ha (bind_of hx (by rw [h]; rfl))
theorem ev_orF (ha : evO C a env = .ok x e1) (hx : tk x e1 = .ok p e2) (h : truth p = some false) (hb : evO C b e2 = .ok y e3) : evO C (.or a b) env = .ok y e3 := by
  rw [evO]; exact bind_of ha (bind_of hx (by rw [h]; exact hb))
theorem ev_cmp {o : CO} (ha : evO C a env = .ok x e1) (hb : evO C b e1 = .ok y e2) (hx : rdD x e2 = .ok p e3) (hy : rdD y e3 = .ok q e4) (h : cmpD o p q = some t) : evO C (.cmp o a b) env = .ok (.v (.d (.bool t))) e4 := by
  rw [evO]; exact bind_of ha (bind_of hb (bind_of hx (bind_of hy (by rw [h]; rfl))))
theorem ev_chnT {o o' : CO} (ha : evO C a env = .ok x e1) (hb : evO C b e1 = .ok y e2) (hx : rdD x e2 = .ok p e3) (hy : rdD y e3 = .ok q e4) (h : cmpD o p q = some true) (hc : evO C c e4 = .ok z e5) (hy' : rdD y e5 = .ok q e6) (hz : rdD z e6 = .ok r e6) (h' : cmpD o' q r = some t) :
    evO C (.chn o o' a b c) env = .ok (.v (.d (.bool t))) e6 := by
  rw [evO]; exact bind_of ha (bind_of hb (bind_of hx (bind_of hy (by rw [h]; exact bind_of hc (bind_of hy' (bind_of hz (by rw [h']; rfl)))))))
theorem ev_chnF {o o' : CO} (ha : evO C a env = .ok x e1) (hb : evO C b e1 = .ok y e2) (hx : rdD x e2 = .ok p e3) (hy : rdD y e3 = .ok q e4) (h : cmpD o p q = some false) : evO C (.chn o o' a b c) env = .ok (.v (.d (.bool false))) e4 := by
  rw [evO]; exact bind_of ha (bind_of hb (bind_of hx (bind_of hy (by rw [h]; rfl))))
theorem ev_iteT {c : T} (hc : evT C c env = .ok true e1) (ha : evO C a e1 = .ok x e2) : evO C (.ite c a b) env = .ok x e2 := by rw [evO]; exact bind_of hc ha
theorem ev_iteF {c : T} (hc : evT C c env = .ok false e1) (hb : evO C b e1 = .ok x e2) : evO C (.ite c a b) env = .ok x e2 := by rw [evO]; exact bind_of hc hb
theorem ev_tup (hl : evL C es env = .ok os e1) (ht : tkAll os e1 = .ok ps e2) (hz : ps.length ≤ line) : evO C (.tup es) env = .ok (.v (.d (.tuple ps))) e2 := by
  rw [evO]; exact bind_of hl (bind_of ht (by rw [if_pos hz]; rfl))
theorem ev_lst (hl : evL C es env = .ok os e1) (ht : tkAll os e1 = .ok ps e2) (hz : ps.length ≤ line) : evO C (.lst es) env = .ok (.v (.ml ps)) e2 := by
  rw [evO]; exact bind_of hl (bind_of ht (by rw [if_pos hz]; rfl))
theorem ev_dct0 : evO C (.dct .nil) env = .ok (.v (.md [])) env := by rw [evO]; rfl
theorem ev_sub (ha : evO C a env = .ok x e1) (hb : evO C i e1 = .ok y e2) (hx : rdD x e2 = .ok p e3) (hy : rdD y e3 = .ok q e4) (h : item p q = some r) : evO C (.sub a i) env = .ok (.v (.d r)) e4 := by
  rw [evO]; exact bind_of ha (bind_of hb (bind_of hx (bind_of hy (by rw [h]; rfl))))
theorem ev_slA (ha : evO C a env = .ok x e1) (hx : rd x e1 = .ok m e2) (h : slice m none none = some m') : evO C (.slA a) env = .ok (.v m') e2 := by
  rw [evO]; exact bind_of ha (bind_of hx (by rw [h]; rfl))
theorem ev_slF {k : Int} (ha : evO C a env = .ok x e1) (hb : evO C lo e1 = .ok y e2) (hy : rdI y e2 = .ok k e3) (hx : rd x e3 = .ok m e4) (h : slice m (some k) none = some m') : evO C (.slF a lo) env = .ok (.v m') e4 := by
  rw [evO]; exact bind_of ha (bind_of hb (bind_of hy (bind_of hx (by rw [h]; rfl))))
theorem ev_slT {k : Int} (ha : evO C a env = .ok x e1) (hb : evO C hi e1 = .ok y e2) (hy : rdI y e2 = .ok k e3) (hx : rd x e3 = .ok m e4) (h : slice m none (some k) = some m') : evO C (.slT a hi) env = .ok (.v m') e4 := by
  rw [evO]; exact bind_of ha (bind_of hb (bind_of hy (bind_of hx (by rw [h]; rfl))))
theorem ev_call {f : Nat} (hl : evL C es env = .ok os e1) (ho : own (C f) os e1 = .ok x e2) : evO C (.call f es) env = .ok x e2 := by rw [evO]; exact bind_of hl ho
theorem ev_bi {o : BI} (hl : evL C es env = .ok os e1) (ht : rdAll os e1 = .ok ps e2) (h : builtin o ps = some m) : evO C (.bi o es) env = .ok (.v m) e2 := by
  rw [evO]; exact bind_of hl (bind_of ht (by rw [h]; rfl))
theorem ev_isi {ts : List TY} {k : TK} (ha : evO C a env = .ok x e1) (hx : rd x e1 = .ok m e2) (h : m.tk = some k) : evO C (.isi a ts) env = .ok (.v (.d (.bool (ts.any fun t => isTy t k)))) e2 := by
  rw [evO]; exact bind_of ha (bind_of hx (by rw [h]; rfl))
theorem ev_src {o : BI} {s : Src} (hs : evS C s env = .ok w e1) (h : srcTo o w = some m) : evO C (.src o s) env = .ok (.v m) e1 := by
  rw [evO]; exact bind_of hs (by rw [h]; rfl)
theorem ev_mt {o : MT} (ha : evO C a env = .ok x e1) (hx : rdD x e1 = .ok p e2) (hd : isDct p = true) (hl : evL C es e2 = .ok os e3) (ht : tkAll os e3 = .ok ps e4) (hx' : rdD x e4 = .ok q e5) (h : meth o q ps = some m) : evO C (.mt o a es) env = .ok (.v m) e5 := by
  rw [evO]; exact bind_of ha (bind_of hx (by rw [if_pos hd]; exact bind_of hl (bind_of ht (bind_of hx' (by rw [h]; rfl)))))
theorem ev_mu {o : MU} {xs : List PyData} (hm : isMl (env.at n) = true) (hl : evL C es env = .ok os e1) (ht : tkAll os e1 = .ok ps e2) (ha : e2.at n = some m) (h : mutm o m ps = some (xs, r)) : evO C (.mu o n es) env = .ok (.v (.d r)) (e2.set n (some (.ml xs))) := by
  rw [evO]; simp only [hm, if_true]; exact bind_of hl (bind_of ht (by simp only [ha, h]))
theorem el_nil : evL C .nil env = .ok [] env := by rw [evL]; rfl
theorem el_cons (h : evO C a env = .ok x e1) (t : evL C es e1 = .ok os e2) : evL C (.cons a es) env = .ok (x :: os) e2 := by rw [evL]; exact bind_of h (bind_of t rfl)
theorem et_e (h : evO C a env = .ok x e1) (hx : rdD x e1 = .ok p e2) (ht : truth p = some t) : evT C (.e a) env = .ok t e2 := by
  rw [evT]; exact bind_of h (bind_of hx (by rw [ht]; rfl))
theorem et_anT {a b : T} (ha : evT C a env = .ok true e1) (hb : evT C b e1 = .ok t e2) : evT C (.an a b) env = .ok t e2 := by rw [evT]; exact bind_of ha hb
theorem et_anF {a b : T} (ha : evT C a env = .ok false e1) : evT C (.an a b) env = .ok false e1 := by rw [evT]; exact bind_of ha rfl
theorem et_orT {a b : T} (ha : evT C a env = .ok true e1) : evT C (.or a b) env = .ok true e1 := by rw [evT]; exact bind_of ha rfl
theorem et_orF {a b : T} (ha : evT C a env = .ok false e1) (hb : evT C b e1 = .ok t e2) : evT C (.or a b) env = .ok t e2 := by rw [evT]; exact bind_of ha hb
theorem et_nt {a : T} (ha : evT C a env = .ok t e1) : evT C (.nt a) env = .ok (!t) e1 := by rw [evT]; exact bind_of ha rfl
theorem es_sq (h : evO C a env = .ok x e1) (hw : walkK x e1 = .ok w e2) : evS C (.sq a) env = .ok w e2 := by rw [evS]; exact bind_of h hw
theorem es_rng (hl : evL C es env = .ok os e1) (ht : rdAll os e1 = .ok ps e2) (h : rng ps = some w) : evS C (.rng es) env = .ok w e2 := by rw [evS]; exact bind_of hl (bind_of ht (by rw [h]; rfl))
theorem es_zip {w' : List PyData} (hl : evL C es env = .ok [x, y] e1) (hx : walkD x e1 = .ok w e2) (hy : walkD y e2 = .ok w' e3) : evS C (.zip es) env = .ok (zip2 w w') e3 := by rw [evS]; exact bind_of hl (bind_of hx (bind_of hy rfl))
theorem es_enm (h : evO C a env = .ok x e1) (hw : walk x e1 = .ok w e2) : evS C (.enm a) env = .ok (enumD w) e2 := by rw [evS]; exact bind_of h (bind_of hw rfl)
/-! statements -/
variable {s : S} {ss : SL} {rs : RS}
theorem sl_nil : exL C .nil env = .nx env := by rw [exL]
theorem sl_cons (h : exS C s env = .nx e1) (t : exL C ss e1 = rs) : exL C (.cons s ss) env = rs := by rw [exL, h]; exact t
theorem sl_ret (h : exS C s env = .ret m e1) : exL C (.cons s ss) env = .ret m e1 := by rw [exL, h]
theorem st_set' (h : evO C a env = .ok x e1) (ht : tkO x e1 = .ok m e2) (hn : n < e2.length) : exS C (.set n a) env = .nx (e2.set n (some m)) := by
  rw [exS, bind_of h ht]; show setM n m e2 = _; unfold setM; rw [if_pos hn]
theorem st_par' {is : List Nat} {ms : List MV} (h : evL C es env = .ok os e1) (ht : tkOs os e1 = .ok ms e2) (hn : setMs is ms e2 = rs) : exS C (.par is es) env = rs := by
  rw [exS, bind_of h ht]; exact hn
theorem st_unp' {tg : Tg} (h : evO C a env = .ok x e1) (ht : tk x e1 = .ok p e2) (hn : bindT tg p e2 = some e3) : exS C (.unp tg a) env = .nx e3 := by
  rw [exS, bind_of h ht]; show (match bindT tg p e2 with | some e2 => RS.nx e2 | none => .no) = _; rw [hn]
theorem st_ssb' (ha : evO C a env = .ok y e1) (hv : evO C (.var n) e1 = .ok z e2) (hb : evO C b e2 = .ok x e3) (hp : tk y e3 = .ok p e4) (hq : tk x e4 = .ok q e5) (hm : e5.at n = some m) (h : setIt m q p = some m') : exS C (.ssb n b a) env = .nx (e5.set n (some m')) := by
  rw [exS, bind_of ha (bind_of hv (bind_of hb (bind_of hp (bind_of hq rfl))))]
  show (match e5.at n with | some m => (match setIt m q p with | some m' => RS.nx (e5.set n (some m')) | none => .no) | none => .no) = _
  simp only [hm, h]
theorem st_aug' {o : BO} {k : Int} (hv : evO C (.var n) env = .ok x e1) (ha : evO C a e1 = .ok y e2) (hx : rdD x e2 = .ok p e3) (hy : rdD y e3 = .ok q e4) (h : augI o p q = some k) (hn : n < e4.length) : exS C (.aug o n a) env = .nx (e4.set n (some (.d (.int k)))) := by
  rw [exS, bind_of hv (bind_of ha (bind_of hx (bind_of hy (by rw [h] <;> rfl))))]; show setM n _ e4 = _; unfold setM; rw [if_pos hn]
theorem st_asb' {o : BO} {k : Int} {old : PyData} (hv : evO C (.var n) env = .ok x e1) (hb : evO C b e1 = .ok y e2) (hq : tk y e2 = .ok q e3) (hp : rdD x e3 = .ok p e4) (ho : itemM p q = some old) (ha : evO C a e4 = .ok z e5) (hz : rdD z e5 = .ok r e6) (h : augI o old r = some k) (hm : e6.at n = some m) (hs : setIt m q (.int k) = some m') :
    exS C (.asb o n b a) env = .nx (e6.set n (some m')) := by
  rw [exS, bind_of hv (bind_of hb (bind_of hq (bind_of hp (bind_of (a := old) (e1 := e4) (by rw [ho]; rfl) (bind_of ha (bind_of hz (bind_of (a := k) (e1 := e6) (by rw [h]; rfl) rfl)))))))]
  show (match e6.at n with | some m => (match setIt m q (.int k) with | some m' => RS.nx (e6.set n (some m')) | none => .no) | none => .no) = _
  simp only [hm, hs]
theorem st_for' {tg : Tg} {sr : Src} (h : evS C sr env = .ok w e1) (hl : loop tg (exL C ss) w e1 = rs) : exS C (.for tg sr ss) env = rs := by rw [exS, h]; exact hl
theorem st_iffT {c : T} {a b : SL} (h : evT C c env = .ok true e1) (ha : exL C a e1 = rs) : exS C (.iff c a b) env = rs := by rw [exS, h]; exact ha
theorem st_iffF {c : T} {a b : SL} (h : evT C c env = .ok false e1) (hb : exL C b e1 = rs) : exS C (.iff c a b) env = rs := by rw [exS, h]; exact hb
theorem st_retV (h : evO C a env = .ok (.v m) e1) : exS C (.ret a) env = .ret m e1 := by rw [exS, h] <;> rfl
theorem st_retR (h : evO C a env = .ok (.r n) e1) (hm : e1.at n = some m) : exS C (.ret a) env = .ret m (e1.set n none) := by
  rw [exS, h]; show (match e1.at n with | some m => RS.ret m (e1.set n none) | none => .no) = _; simp only [hm]
theorem st_ex (h : evO C a env = .ok x e1) : exS C (.ex a) env = .nx e1 := by rw [exS, h] <;> rfl
/-! arithmetic -/
theorem bo_mulR {i j : Int} (h : small j = true) : binop .mul (.int i) (.int j) = some (.d (.int (i * j))) := by
  show (if small i || small j then some (i * j) else none).map _ = _
  rw [h, Bool.or_true]; rfl
theorem bo_mulL {i j : Int} (h : small i = true) : binop .mul (.int i) (.int j) = some (.d (.int (i * j))) := by
  show (if small i || small j then some (i * j) else none).map _ = _
  rw [h, Bool.true_or]; rfl
theorem small_emod {i j : Int} (h : 0 < j) (h2 : j < 18446744073709551616) : small (i % j) = true := by
  have h3 := Int.emod_nonneg i (show j ≠ 0 by omega)
  have h4 := Int.emod_lt_of_pos i h
  unfold small
  exact decide_eq_true ⟨by omega, by omega⟩
theorem bo_mod {i j : Int} (h : 0 < j) : binop .mod (.int i) (.int j) = some (.d (.int (i % j))) := by
  show (if 0 < j then some (i % j) else none).map _ = _
  rw [if_pos h]; rfl
theorem bo_fdiv {i j : Int} (h : 0 < j) (h2 : j < 1073741824) : binop .fdiv (.int i) (.int j) = some (.d (.int (i / j))) := by
  show (if 0 < j ∧ j < 1073741824 then some (i / j) else none).map _ = _
  rw [if_pos ⟨h, h2⟩]; rfl
theorem bo_addL {xs ys : List PyData} (h1 : xs.length ≤ line) (h2 : ys.length ≤ line) (h3 : xs.length + ys.length ≤ line) : binop .add (.list xs) (.list ys) = some (.ml (xs ++ ys)) := by
  show (if xs.length ≤ line ∧ ys.length ≤ line ∧ xs.length + ys.length ≤ line then _ else _) = _
  rw [if_pos ⟨h1, h2, h3⟩]
theorem bo_addT {xs ys : List PyData} (h : xs.length + ys.length ≤ line) : binop .add (.tuple xs) (.tuple ys) = some (.d (.tuple (xs ++ ys))) := by
  show (if xs.length + ys.length ≤ line then _ else _) = _
  rw [if_pos h]
/-! what is decided -/
theorem evT_to {c : T} {t' : Bool} (h : evT C c env = .ok t e1) (e : t = t') : evT C c env = .ok t' e1 := by rw [h, e]
theorem evO_to {x' : O} (h : evO C a env = .ok x e1) (e : x = x') : evO C a env = .ok x' e1 := by rw [h, e]
end
end PD.Q
end
section
set_option linter.all false
set_option maxRecDepth 100000
/-! what must hold so that the interpreter ends well: one rule a form, from left to right -/
namespace PD.Q
open PySem
/-- what is wanted of an error -/
abbrev XQ := Nat → List PyData → Env → Prop
def X0w : XQ := fun _ _ _ => False
def wE {α : Type} (X : XQ) (Q : α → Env → Prop) : R α → Prop
  | .ok a e => Q a e
  | .exc c as e => X c as e
  | .no => False
theorem wE_bind {α β : Type} {X : XQ} {x : M α} {f : α → M β} {env : Env} {Q : β → Env → Prop} (h : wE X (fun a e => wE X Q (f a e)) (x env)) : wE X Q (M.bind x f env) := by
  unfold M.bind
  cases hx : x env with
  | ok a e => rw [hx] at h; exact h
  | exc c as e => rw [hx] at h; exact h
  | no => rw [hx] at h; exact h
theorem wE_mono {α : Type} {X X' : XQ} {Q Q' : α → Env → Prop} {r : R α} (h : wE X Q r) (hx : ∀ c as e, X c as e → X' c as e) (hq : ∀ a e, Q a e → Q' a e) : wE X' Q' r := by
  cases r with
  | ok a e => exact hq _ _ h
  | exc c as e => exact hx _ _ _ h
  | no => exact h
theorem wE_of {α : Type} {X : XQ} {Q : α → Env → Prop} {r : R α} {a : α} {e : Env} (h : r = .ok a e) (q : Q a e) : wE X Q r := by rw [h]; exact q
/-- .. said back as an equation -/
theorem wE_eq {α : Type} {r : R α} {a : α} {e : Env} (h : wE X0w (fun a' e' => a' = a ∧ e' = e) r) : r = .ok a e := by
  cases r with
  | ok a' e' => obtain ⟨rfl, rfl⟩ := h; rfl
  | exc c as e => exact h.elim
  | no => exact h.elim
section
variable {C : Nat → Callee} {env e1 e2 e3 e4 : Env} {X : XQ} {a b c i lo hi : E} {x y z : O} {p q r : PyData} {m m' : MV} {t : Bool} {es : EL} {os : List O} {ps w : List PyData} {n j k : Nat} {Q : O → Env → Prop} {QL : List O → Env → Prop} {QT : Bool → Env → Prop} {QS : List PyData → Env → Prop} {o : BO} {co co' : CO}
/-! ### behind the parts of a form -/
def kBin (o : BO) (Q : O → Env → Prop) (x y : O) (e : Env) : Prop := ∃ p q m, rdD x e = .ok p e ∧ rdD y e = .ok q e ∧ binop o p q = some m ∧ Q (.v m) e
def kCmp (o : CO) (Q : O → Env → Prop) (x y : O) (e : Env) : Prop := ∃ p q t, rdD x e = .ok p e ∧ rdD y e = .ok q e ∧ cmpD o p q = some t ∧ Q (.v (.d (.bool t))) e
def kNeg (Q : O → Env → Prop) (x : O) (e : Env) : Prop := ∃ i, rdD x e = .ok (.int i) e ∧ Q (.v (.d (.int (-i)))) e
def kNt (Q : O → Env → Prop) (x : O) (e : Env) : Prop := ∃ p t, rdD x e = .ok p e ∧ truth p = some t ∧ Q (.v (.d (.bool (!t)))) e
def kAn (X : XQ) (R : Env → R O) (Q : O → Env → Prop) (x : O) (e : Env) : Prop := ∃ p t e1, tk x e = .ok p e1 ∧ truth p = some t ∧ (t = true → wE X Q (R e1)) ∧ (t = false → Q (.v (.d p)) e1)
def kOr (X : XQ) (R : Env → R O) (Q : O → Env → Prop) (x : O) (e : Env) : Prop := ∃ p t e1, tk x e = .ok p e1 ∧ truth p = some t ∧ (t = true → Q (.v (.d p)) e1) ∧ (t = false → wE X Q (R e1))
def kChn (X : XQ) (o o' : CO) (R : Env → R O) (Q : O → Env → Prop) (x y : O) (e : Env) : Prop := ∃ p q t, rdD x e = .ok p e ∧ rdD y e = .ok q e ∧ cmpD o p q = some t ∧ (t = true → wE X (kCmp o' Q y) (R e)) ∧ (t = false → Q (.v (.d (.bool false))) e)
def kIte (X : XQ) (A B : Env → R O) (Q : O → Env → Prop) (t : Bool) (e : Env) : Prop := (t = true → wE X Q (A e)) ∧ (t = false → wE X Q (B e))
def kTup (Q : O → Env → Prop) (os : List O) (e : Env) : Prop := ∃ ps e1, tkAll os e = .ok ps e1 ∧ ps.length ≤ line ∧ Q (.v (.d (.tuple ps))) e1
def kLst (Q : O → Env → Prop) (os : List O) (e : Env) : Prop := ∃ ps e1, tkAll os e = .ok ps e1 ∧ ps.length ≤ line ∧ Q (.v (.ml ps)) e1
def kDct (Q : O → Env → Prop) (x y : O) (e : Env) : Prop := ∃ p q e1 e2, tk x e = .ok p e1 ∧ tk y e1 = .ok q e2 ∧ isKey p = true ∧ Q (.v (.md [(p, q)])) e2
def kSub (Q : O → Env → Prop) (x y : O) (e : Env) : Prop := ∃ p q r, rdD x e = .ok p e ∧ rdD y e = .ok q e ∧ item p q = some r ∧ Q (.v (.d r)) e
def kSlA (Q : O → Env → Prop) (x : O) (e : Env) : Prop := ∃ m m', rd x e = .ok m e ∧ slice m none none = some m' ∧ Q (.v m') e
def kSlF (Q : O → Env → Prop) (x y : O) (e : Env) : Prop := ∃ i m m', rdI y e = .ok i e ∧ rd x e = .ok m e ∧ slice m (some i) none = some m' ∧ Q (.v m') e
def kSlT (Q : O → Env → Prop) (x y : O) (e : Env) : Prop := ∃ i m m', rdI y e = .ok i e ∧ rd x e = .ok m e ∧ slice m none (some i) = some m' ∧ Q (.v m') e
def kRev (Q : O → Env → Prop) (x : O) (e : Env) : Prop := ∃ xs, rdD x e = .ok (.list xs) e ∧ Q (.v (.ml xs.reverse)) e
def kBi (b : BI) (Q : O → Env → Prop) (os : List O) (e : Env) : Prop := ∃ ps m, rdAll os e = .ok ps e ∧ builtin b ps = some m ∧ Q (.v m) e
def kIsi (ts : List TY) (Q : O → Env → Prop) (x : O) (e : Env) : Prop := ∃ m k, rd x e = .ok m e ∧ m.tk = some k ∧ Q (.v (.d (.bool (ts.any fun t => isTy t k)))) e
def kSrc (b : BI) (Q : O → Env → Prop) (w : List PyData) (e : Env) : Prop := ∃ m, srcTo b w = some m ∧ Q (.v m) e
def kMt (X : XQ) (m : MT) (R : Env → R (List O)) (Q : O → Env → Prop) (x : O) (e : Env) : Prop := ∃ p, rdD x e = .ok p e ∧ isDct p = true ∧ wE X (fun os e1 => ∃ ps e2 p2 r, tkAll os e1 = .ok ps e2 ∧ rdD x e2 = .ok p2 e2 ∧ meth m p2 ps = some r ∧ Q (.v r) e2) (R e)
def kMu (m : MU) (i : Nat) (Q : O → Env → Prop) (os : List O) (e : Env) : Prop := ∃ ps e1 mv xs r, tkAll os e = .ok ps e1 ∧ e1.at i = some mv ∧ mutm m mv ps = some (xs, r) ∧ Q (.v (.d r)) (e1.set i (some (.ml xs)))
def kT (QT : Bool → Env → Prop) (x : O) (e : Env) : Prop := ∃ p t, rdD x e = .ok p e ∧ truth p = some t ∧ QT t e
def kAnT (X : XQ) (R : Env → R Bool) (QT : Bool → Env → Prop) (t : Bool) (e : Env) : Prop := (t = true → wE X QT (R e)) ∧ (t = false → QT false e)
def kOrT (X : XQ) (R : Env → R Bool) (QT : Bool → Env → Prop) (t : Bool) (e : Env) : Prop := (t = true → QT true e) ∧ (t = false → wE X QT (R e))
def kSq (QS : List PyData → Env → Prop) (x : O) (e : Env) : Prop := ∃ w e1, walkK x e = .ok w e1 ∧ QS w e1
def kRng (QS : List PyData → Env → Prop) (os : List O) (e : Env) : Prop := ∃ ps w, rdAll os e = .ok ps e ∧ rng ps = some w ∧ QS w e
def kZip (QS : List PyData → Env → Prop) (os : List O) (e : Env) : Prop := ∃ x y w w' e1 e2, os = [x, y] ∧ walkD x e = .ok w e1 ∧ walkD y e1 = .ok w' e2 ∧ QS (zip2 w w') e2
def kEnm (QS : List PyData → Env → Prop) (x : O) (e : Env) : Prop := ∃ w e1, walk x e = .ok w e1 ∧ QS (enumD w) e1
/-! ### expressions -/
theorem bind1 {α β : Type} {X : XQ} {Q : β → Env → Prop} {x : M α} {f : α → M β} {env : Env} {K : α → Env → Prop} (h : wE X K (x env)) (g : ∀ a e, K a e → wE X Q (f a e)) : wE X Q (M.bind x f env) := wE_bind (wE_mono h (fun _ _ _ z => z) g)
theorem get1 {α β : Type} {X : XQ} {Q : β → Env → Prop} {x : M α} {f : α → M β} {env : Env} {a : α} {e : Env} (h : x env = .ok a e) (g : wE X Q (f a e)) : wE X Q (M.bind x f env) := wE_bind (wE_of h g)
theorem ofO_ {o : Option MV} {m : MV} (h : o = some m) (q : Q (.v m) env) : wE X Q (M.ofO o env) := by rw [h]; exact q
theorem opt_ {α : Type} {o : Option α} {m : α} {Q : α → Env → Prop} (h : o = some m) (q : Q m env) : wE X Q (M.opt o env) := by rw [h]; exact q
theorem we_cst (h : Q (.v (.d p)) env) : wE X Q (evO C (.cst p) env) := by rw [evO]; exact h
theorem we_fn (h : Q (.v (.fn n)) env) : wE X Q (evO C (.fn n) env) := by rw [evO]; exact h
theorem we_var (e : env.at n = some m) (h : Q (.r n) env) : wE X Q (evO C (.var n) env) := by rw [evO]; simp only [e]; exact h
theorem we_bin (h : wE X (fun x e => wE X (kBin o Q x) (evO C b e)) (evO C a env)) : wE X Q (evO C (.bin o a b) env) := by
  rw [evO]; exact bind1 h fun _ _ h => bind1 h fun _ _ ⟨_, _, _, h1, h2, h3, h4⟩ => get1 h1 (get1 h2 (ofO_ h3 h4))
theorem we_cmp (h : wE X (fun x e => wE X (kCmp co Q x) (evO C b e)) (evO C a env)) : wE X Q (evO C (.cmp co a b) env) := by
  rw [evO]; exact bind1 h fun _ _ h => bind1 h fun _ _ ⟨_, _, _, h1, h2, h3, h4⟩ => get1 h1 (get1 h2 (by rw [h3]; exact h4))
theorem we_neg (h : wE X (kNeg Q) (evO C a env)) : wE X Q (evO C (.neg a) env) := by
  rw [evO]; exact bind1 h fun _ _ ⟨_, h1, h4⟩ => get1 h1 h4
theorem we_nt (h : wE X (kNt Q) (evO C a env)) : wE X Q (evO C (.nt a) env) := by
  rw [evO]; exact bind1 h fun _ _ ⟨_, _, h1, h3, h4⟩ => get1 h1 (by rw [h3]; exact h4)
theorem we_an (h : wE X (kAn X (evO C b) Q) (evO C a env)) : wE X Q (evO C (.an a b) env) := by
  rw [evO]; exact bind1 h fun _ _ ⟨_, t, _, h1, h3, h4, h5⟩ => get1 h1 (by rw [h3]; cases t with
    | true => exact h4 rfl
    | false => exact h5 rfl)
theorem we_or (h : wE X (kOr X (evO C b) Q) (evO C a env)) : wE X Q (evO C (.or a b) env) := by
  rw [evO]; exact bind1 h fun _ _ ⟨_, t, _, h1, h3, h4, h5⟩ => get1 h1 (by rw [h3]; cases t with
    | true => exact h4 rfl
    | false => exact h5 rfl)
theorem we_chn (h : wE X (fun x e => wE X (kChn X co co' (evO C c) Q x) (evO C b e)) (evO C a env)) : wE X Q (evO C (.chn co co' a b c) env) := by
  rw [evO]; exact bind1 h fun _ _ h => bind1 h fun _ _ ⟨_, _, t, h1, h2, h3, h4, h5⟩ => get1 h1 (get1 h2 (by rw [h3]; cases t with
    | true => exact bind1 (h4 rfl) fun _ _ ⟨_, _, _, g1, g2, g3, g4⟩ => get1 g1 (get1 g2 (by rw [g3]; exact g4))
    | false => exact h5 rfl))
theorem we_ite {c : T} (h : wE X (kIte X (evO C a) (evO C b) Q) (evT C c env)) : wE X Q (evO C (.ite c a b) env) := by
  rw [evO]; exact bind1 h fun t _ ⟨h1, h2⟩ => by cases t with
    | true => exact h1 rfl
    | false => exact h2 rfl
theorem we_tup (h : wE X (kTup Q) (evL C es env)) : wE X Q (evO C (.tup es) env) := by
  rw [evO]; exact bind1 h fun _ _ ⟨_, _, h1, h2, h3⟩ => get1 h1 (by rw [if_pos h2]; exact h3)
theorem we_lst (h : wE X (kLst Q) (evL C es env)) : wE X Q (evO C (.lst es) env) := by
  rw [evO]; exact bind1 h fun _ _ ⟨_, _, h1, h2, h3⟩ => get1 h1 (by rw [if_pos h2]; exact h3)
theorem we_dct0 (h : Q (.v (.md [])) env) : wE X Q (evO C (.dct .nil) env) := by rw [evO]; exact h
theorem we_dct1 (h : wE X (fun x e => wE X (kDct Q x) (evO C b e)) (evO C a env)) : wE X Q (evO C (.dct (.cons a (.cons b .nil))) env) := by
  rw [evO]; exact bind1 h fun _ _ h => bind1 h fun _ _ ⟨_, _, _, _, h1, h2, h3, h4⟩ => get1 h1 (get1 h2 (by rw [if_pos h3]; exact h4))
theorem we_sub (h : wE X (fun x e => wE X (kSub Q x) (evO C i e)) (evO C a env)) : wE X Q (evO C (.sub a i) env) := by
  rw [evO]; exact bind1 h fun _ _ h => bind1 h fun _ _ ⟨_, _, _, h1, h2, h3, h4⟩ => get1 h1 (get1 h2 (by rw [h3]; exact h4))
theorem we_slA (h : wE X (kSlA Q) (evO C a env)) : wE X Q (evO C (.slA a) env) := by
  rw [evO]; exact bind1 h fun _ _ ⟨_, _, h1, h3, h4⟩ => get1 h1 (ofO_ h3 h4)
theorem we_slF (h : wE X (fun x e => wE X (kSlF Q x) (evO C lo e)) (evO C a env)) : wE X Q (evO C (.slF a lo) env) := by
  rw [evO]; exact bind1 h fun _ _ h => bind1 h fun _ _ ⟨_, _, _, h1, h2, h3, h4⟩ => get1 h1 (get1 h2 (ofO_ h3 h4))
theorem we_slT (h : wE X (fun x e => wE X (kSlT Q x) (evO C hi e)) (evO C a env)) : wE X Q (evO C (.slT a hi) env) := by
  rw [evO]; exact bind1 h fun _ _ h => bind1 h fun _ _ ⟨_, _, _, h1, h2, h3, h4⟩ => get1 h1 (get1 h2 (ofO_ h3 h4))
theorem we_slB (h : wE X (fun x e => wE X (fun l e => ∃ i, rdI l e = .ok i e ∧ wE X (fun h e => ∃ j m m', rdI h e = .ok j e ∧ rd x e = .ok m e ∧ slice m (some i) (some j) = some m' ∧ Q (.v m') e) (evO C hi e)) (evO C lo e)) (evO C a env)) : wE X Q (evO C (.slB a lo hi) env) := by
  rw [evO]; exact bind1 h fun _ _ h => bind1 h fun _ _ ⟨_, h1, h⟩ => get1 h1 (bind1 h fun _ _ ⟨_, _, _, h2, h3, h4, h5⟩ => get1 h2 (get1 h3 (ofO_ h4 h5)))
theorem we_rev (h : wE X (kRev Q) (evO C a env)) : wE X Q (evO C (.rev a) env) := by
  rw [evO]; exact bind1 h fun _ _ ⟨_, h1, h4⟩ => get1 h1 h4
theorem we_call (h : wE X (fun os e => wE X Q (own (C n) os e)) (evL C es env)) : wE X Q (evO C (.call n es) env) := by
  rw [evO]; exact bind1 h fun _ _ h => h
theorem we_cav {f : Nat} {fs : List Nat} (e : env.at n = some (.fn f)) (hf : fs.contains f = true) (h : wE X (fun os e => wE X Q (own (C f) os e)) (evL C es env)) : wE X Q (evO C (.cav n fs es) env) := by
  rw [evO]; simp only [e, hf, if_true]; exact bind1 h fun _ _ h => h
theorem we_bi {o : BI} (h : wE X (kBi o Q) (evL C es env)) : wE X Q (evO C (.bi o es) env) := by
  rw [evO]; exact bind1 h fun _ _ ⟨_, _, h1, h2, h3⟩ => get1 h1 (ofO_ h2 h3)
theorem we_isi {ts : List TY} (h : wE X (kIsi ts Q) (evO C a env)) : wE X Q (evO C (.isi a ts) env) := by
  rw [evO]; exact bind1 h fun _ _ ⟨_, _, h1, h3, h4⟩ => get1 h1 (by rw [h3]; exact h4)
theorem we_src {o : BI} {s : Src} (h : wE X (kSrc o Q) (evS C s env)) : wE X Q (evO C (.src o s) env) := by
  rw [evO]; exact bind1 h fun _ _ ⟨_, h1, h2⟩ => ofO_ h1 h2
theorem we_mt {o : MT} (h : wE X (kMt X o (evL C es) Q) (evO C a env)) : wE X Q (evO C (.mt o a es) env) := by
  rw [evO]; exact bind1 h fun _ _ ⟨_, h1, h2, h⟩ => get1 h1 (by rw [if_pos h2]; exact bind1 h fun _ _ ⟨_, _, _, _, g1, g2, g3, g4⟩ => get1 g1 (get1 g2 (ofO_ g3 g4)))
theorem we_mu {o : MU} (hm : isMl (env.at n) = true) (h : wE X (kMu o n Q) (evL C es env)) : wE X Q (evO C (.mu o n es) env) := by
  rw [evO]; simp only [hm, if_true]; exact bind1 h fun _ _ ⟨_, _, _, _, _, h1, h2, h3, h4⟩ => get1 h1 (by simp only [h2, h3]; exact h4)
theorem wl_nil (h : QL [] env) : wE X QL (evL C .nil env) := by rw [evL]; exact h
theorem wl_cons (h : wE X (fun x e => wE X (fun xs e1 => QL (x :: xs) e1) (evL C es e)) (evO C a env)) : wE X QL (evL C (.cons a es) env) := by
  rw [evL]; exact bind1 h fun _ _ h => bind1 h fun _ _ h => h
def kStar (X : XQ) (R : Env → R (List O)) (QL : List O → Env → Prop) (x : O) (e : Env) : Prop := ∃ p ps, rdD x e = .ok p e ∧ seqOf p = some ps ∧ wE X (fun xs e1 => QL (ps.map (fun d => O.v (.d d)) ++ xs) e1) (R e)
theorem wl_star (h : wE X (kStar X (evL C es) QL) (evO C a env)) : wE X QL (evL C (.star a es) env) := by
  rw [evL]; exact bind1 h fun _ _ ⟨_, _, h1, h2, h⟩ => get1 h1 (by simp only [h2]; exact bind1 h fun _ _ h => h)
theorem wt_e (h : wE X (kT QT) (evO C a env)) : wE X QT (evT C (.e a) env) := by
  rw [evT]; exact bind1 h fun _ _ ⟨_, _, h1, h2, h3⟩ => get1 h1 (by rw [h2]; exact h3)
theorem wt_an {a b : T} (h : wE X (kAnT X (evT C b) QT) (evT C a env)) : wE X QT (evT C (.an a b) env) := by
  rw [evT]; exact bind1 h fun t _ ⟨h1, h2⟩ => by cases t with
    | true => exact h1 rfl
    | false => exact h2 rfl
theorem wt_or {a b : T} (h : wE X (kOrT X (evT C b) QT) (evT C a env)) : wE X QT (evT C (.or a b) env) := by
  rw [evT]; exact bind1 h fun t _ ⟨h1, h2⟩ => by cases t with
    | true => exact h1 rfl
    | false => exact h2 rfl
theorem wt_nt {a : T} (h : wE X (fun t e => QT (!t) e) (evT C a env)) : wE X QT (evT C (.nt a) env) := by
  rw [evT]; exact bind1 h fun _ _ h => h
theorem ws_sq (h : wE X (kSq QS) (evO C a env)) : wE X QS (evS C (.sq a) env) := by
  rw [evS]; exact bind1 h fun _ _ ⟨_, _, h1, h2⟩ => wE_of h1 h2
theorem ws_rng (h : wE X (kRng QS) (evL C es env)) : wE X QS (evS C (.rng es) env) := by
  rw [evS]; exact bind1 h fun _ _ ⟨_, _, h1, h2, h3⟩ => get1 h1 (opt_ h2 h3)
theorem ws_zip (h : wE X (kZip QS) (evL C es env)) : wE X QS (evS C (.zip es) env) := by
  rw [evS]; exact bind1 h fun _ _ ⟨_, _, _, _, _, _, h1, h2, h3, h4⟩ => by subst h1; exact get1 h2 (get1 h3 h4)
theorem ws_enm (h : wE X (kEnm QS) (evO C a env)) : wE X QS (evS C (.enm a) env) := by
  rw [evS]; exact bind1 h fun _ _ ⟨_, _, h1, h2⟩ => get1 h1 h2
/-! ### the ends of forms, answered -/
theorem kBin_i (hx : rdD x env = .ok p env) (hy : rdD y env = .ok q env) (h : binop o p q = some m) (hq : Q (.v m) env) : kBin o Q x y env := ⟨_, _, _, hx, hy, h, hq⟩
theorem kCmp_i (hx : rdD x env = .ok p env) (hy : rdD y env = .ok q env) (h : cmpD co p q = some t) (hq : Q (.v (.d (.bool t))) env) : kCmp co Q x y env := ⟨_, _, _, hx, hy, h, hq⟩
theorem kNeg_i {k : Int} (hx : rdD x env = .ok (.int k) env) (hq : Q (.v (.d (.int (-k)))) env) : kNeg Q x env := ⟨_, hx, hq⟩
theorem kNt_i (hx : rdD x env = .ok p env) (h : truth p = some t) (hq : Q (.v (.d (.bool (!t)))) env) : kNt Q x env := ⟨_, _, hx, h, hq⟩
theorem kAn_i {R : Env → R O} (hx : tk x env = .ok p e1) (h : truth p = some t) (h1 : t = true → wE X Q (R e1)) (h2 : t = false → Q (.v (.d p)) e1) : kAn X R Q x env := ⟨_, _, _, hx, h, h1, h2⟩
theorem kOr_i {R : Env → R O} (hx : tk x env = .ok p e1) (h : truth p = some t) (h1 : t = true → Q (.v (.d p)) e1) (h2 : t = false → wE X Q (R e1)) : kOr X R Q x env := ⟨_, _, _, hx, h, h1, h2⟩
theorem kChn_i {R : Env → R O} (hx : rdD x env = .ok p env) (hy : rdD y env = .ok q env) (h : cmpD co p q = some t) (h1 : t = true → wE X (kCmp co' Q y) (R env)) (h2 : t = false → Q (.v (.d (.bool false))) env) : kChn X co co' R Q x y env := ⟨_, _, _, hx, hy, h, h1, h2⟩
theorem kIte_i {A B : Env → R O} (h1 : t = true → wE X Q (A env)) (h2 : t = false → wE X Q (B env)) : kIte X A B Q t env := ⟨h1, h2⟩
theorem kTup_i (h : tkAll os env = .ok ps e1) (hz : ps.length ≤ line) (hq : Q (.v (.d (.tuple ps))) e1) : kTup Q os env := ⟨_, _, h, hz, hq⟩
theorem kLst_i (h : tkAll os env = .ok ps e1) (hz : ps.length ≤ line) (hq : Q (.v (.ml ps)) e1) : kLst Q os env := ⟨_, _, h, hz, hq⟩
theorem kDct_i (hx : tk x env = .ok p e1) (hy : tk y e1 = .ok q e2) (h : isKey p = true) (hq : Q (.v (.md [(p, q)])) e2) : kDct Q x y env := ⟨_, _, _, _, hx, hy, h, hq⟩
theorem kSub_i (hx : rdD x env = .ok p env) (hy : rdD y env = .ok q env) (h : item p q = some r) (hq : Q (.v (.d r)) env) : kSub Q x y env := ⟨_, _, _, hx, hy, h, hq⟩
theorem kSlA_i (hx : rd x env = .ok m env) (h : slice m none none = some m') (hq : Q (.v m') env) : kSlA Q x env := ⟨_, _, hx, h, hq⟩
theorem kSlF_i {k : Int} (hy : rdI y env = .ok k env) (hx : rd x env = .ok m env) (h : slice m (some k) none = some m') (hq : Q (.v m') env) : kSlF Q x y env := ⟨_, _, _, hy, hx, h, hq⟩
theorem kSlT_i {k : Int} (hy : rdI y env = .ok k env) (hx : rd x env = .ok m env) (h : slice m none (some k) = some m') (hq : Q (.v m') env) : kSlT Q x y env := ⟨_, _, _, hy, hx, h, hq⟩
theorem kRev_i (hx : rdD x env = .ok (.list ps) env) (hq : Q (.v (.ml ps.reverse)) env) : kRev Q x env := ⟨_, hx, hq⟩
theorem kBi_i {b : BI} (h : rdAll os env = .ok ps env) (hb : builtin b ps = some m) (hq : Q (.v m) env) : kBi b Q os env := ⟨_, _, h, hb, hq⟩
theorem kIsi_i {ts : List TY} {k : TK} (hx : rd x env = .ok m env) (h : m.tk = some k) (hq : Q (.v (.d (.bool (ts.any fun t => isTy t k)))) env) : kIsi ts Q x env := ⟨_, _, hx, h, hq⟩
theorem kSrc_i {b : BI} (h : srcTo b w = some m) (hq : Q (.v m) env) : kSrc b Q w env := ⟨_, h, hq⟩
theorem kMu_i {u : MU} (h : tkAll os env = .ok ps e1) (he : e1.at n = some m) (hm : mutm u m ps = some (w, r)) (hq : Q (.v (.d r)) (e1.set n (some (.ml w)))) : kMu u n Q os env := ⟨_, _, _, _, _, h, he, hm, hq⟩
theorem kT_i (hx : rdD x env = .ok p env) (h : truth p = some t) (hq : QT t env) : kT QT x env := ⟨_, _, hx, h, hq⟩
theorem kAnT_i {R : Env → R Bool} (h1 : t = true → wE X QT (R env)) (h2 : t = false → QT false env) : kAnT X R QT t env := ⟨h1, h2⟩
theorem kOrT_i {R : Env → R Bool} (h1 : t = true → QT true env) (h2 : t = false → wE X QT (R env)) : kOrT X R QT t env := ⟨h1, h2⟩
theorem kSq_i (h : walkK x env = .ok w e1) (hq : QS w e1) : kSq QS x env := ⟨_, _, h, hq⟩
theorem kRng_i (h : rdAll os env = .ok ps env) (hr : rng ps = some w) (hq : QS w env) : kRng QS os env := ⟨_, _, h, hr, hq⟩
theorem kZip_i {w' : List PyData} (hx : walkD x env = .ok w e1) (hy : walkD y e1 = .ok w' e2) (hq : QS (zip2 w w') e2) : kZip QS [x, y] env := ⟨_, _, _, _, _, _, rfl, hx, hy, hq⟩
theorem kEnm_i (h : walk x env = .ok w e1) (hq : QS (enumD w) e1) : kEnm QS x env := ⟨_, _, h, hq⟩
theorem kStar_i {R : Env → R (List O)} (hx : rdD x env = .ok p env) (h : seqOf p = some ps) (hq : wE X (fun xs e1 => QL (ps.map (fun d => O.v (.d d)) ++ xs) e1) (R env)) : kStar X R QL x env := ⟨_, _, hx, h, hq⟩
/-! ### calls -/
theorem w_own {c : Callee} {as : List MV} (hio : c.io = none) (ha : tkAs none os env = .ok as e1) (hr : c.run as = .ok m none) (hq : Q (.v m) e1) : wE X Q (own c os env) := by
  unfold own; rw [hio]; exact get1 ha (by simp only [hr]; exact hq)
theorem w_ownX {c : Callee} {as : List MV} {es : List PyData} (hio : c.io = none) (ha : tkAs none os env = .ok as e1) (hr : c.run as = .exc k es none) (hq : X k es e1) : wE X Q (own c os env) := by
  unfold own; rw [hio]; exact get1 ha (by simp only [hr]; exact hq)
theorem w_io {c : Callee} {as : List MV} {m0 m1 : MV} (hio : c.io = some j) (ha : tkAs (some j) os env = .ok as e1) (ho : os[j]? = some (.r n)) (h0 : e1.at n = some m0) (hf : m0.free = true) (hr : c.run (as.set j m0) = .ok m (some m1)) (hf1 : m1.free = true) (hq : Q (.v m) (e1.set n (some m1))) : wE X Q (own c os env) := by
  unfold own; rw [hio]; exact get1 ha (by simp only [ho, h0, hf, hr, hf1, if_true]; exact hq)
end
/-! ### statements -/
structure Js where
  rt : MV → Env → Prop
  br : Env → Prop
  ct : Env → Prop
  xc : XQ
def wS (J : Js) (N : Env → Prop) : RS → Prop
  | .nx e => N e
  | .ret m e => J.rt m e
  | .br e => J.br e
  | .ct e => J.ct e
  | .exc c as e => J.xc c as e
  | .no => False
theorem wS_mono {J J' : Js} {N N' : Env → Prop} {r : RS} (h : wS J N r) (hn : ∀ e, N e → N' e) (hr : ∀ m e, J.rt m e → J'.rt m e) (hb : ∀ e, J.br e → J'.br e) (hc : ∀ e, J.ct e → J'.ct e) (hx : ∀ c as e, J.xc c as e → J'.xc c as e) : wS J' N' r := by
  cases r with
  | nx e => exact hn _ h
  | ret m e => exact hr _ _ h
  | br e => exact hb _ h
  | ct e => exact hc _ h
  | exc c as e => exact hx _ _ _ h
  | no => exact h
section
variable {C : Nat → Callee} {env e1 e2 e3 : Env} {J : Js} {N : Env → Prop} {a b : E} {x y z : O} {p q r : PyData} {m m' : MV} {t : Bool} {es : EL} {os : List O} {w : List PyData} {n : Nat} {s : S} {ss sb : SL} {rs : RS}
theorem rsof {α : Type} {r : R α} {f : α → Env → RS} (h : wE J.xc (fun a e => wS J N (f a e)) r) : wS J N (RS.of r f) := by
  cases r with
  | ok a e => exact h
  | exc c as e => exact h
  | no => exact h
def kSet (n : Nat) (N : Env → Prop) (x : O) (e : Env) : Prop := ∃ m e1, tkO x e = .ok m e1 ∧ n < e1.length ∧ N (e1.set n (some m))
def kPar (is : List Nat) (N : Env → Prop) (os : List O) (e : Env) : Prop := ∃ ms e1 e2, tkOs os e = .ok ms e1 ∧ setMs is ms e1 = .nx e2 ∧ N e2
def kUnp (t : Tg) (N : Env → Prop) (x : O) (e : Env) : Prop := ∃ p e1 e2, tk x e = .ok p e1 ∧ bindT t p e1 = some e2 ∧ N e2
def kSsb (n : Nat) (N : Env → Prop) (y x : O) (e : Env) : Prop := ∃ p q e1 e2 m m', tk y e = .ok p e1 ∧ tk x e1 = .ok q e2 ∧ e2.at n = some m ∧ setIt m q p = some m' ∧ N (e2.set n (some m'))
def kAug (o : BO) (n : Nat) (N : Env → Prop) (x y : O) (e : Env) : Prop := ∃ p q k, rdD x e = .ok p e ∧ rdD y e = .ok q e ∧ augI o p q = some k ∧ n < e.length ∧ N (e.set n (some (.d (.int k))))
def kIff (J : Js) (N : Env → Prop) (A B : Env → RS) (t : Bool) (e : Env) : Prop := (t = true → wS J N (A e)) ∧ (t = false → wS J N (B e))
def kFor (J : Js) (N : Env → Prop) (t : Tg) (B : Env → RS) (w : List PyData) (e : Env) : Prop := wS J N (loop t B w e)
def kRet (R : MV → Env → Prop) : O → Env → Prop
  | .v m, e => R m e
  | .r i, e => ∃ m, e.at i = some m ∧ R m (e.set i none)
theorem sw_nil (h : N env) : wS J N (exL C .nil env) := by rw [exL]; exact h
theorem sw_cons (h : wS J (fun e => wS J N (exL C ss e)) (exS C s env)) : wS J N (exL C (.cons s ss) env) := by
  rw [exL]
  cases hr : exS C s env with
  | nx e => rw [hr] at h; exact h
  | ret m e => rw [hr] at h; exact h
  | br e => rw [hr] at h; exact h
  | ct e => rw [hr] at h; exact h
  | exc c as e => rw [hr] at h; exact h
  | no => rw [hr] at h; exact h
theorem sw_set (h : wE J.xc (kSet n N) (evO C a env)) : wS J N (exS C (.set n a) env) := by
  rw [exS]; exact rsof (bind1 h fun _ _ ⟨_, _, h1, h2, h3⟩ => wE_of h1 (by show wS J N (setM _ _ _); unfold setM; rw [if_pos h2]; exact h3))
theorem sw_par {is : List Nat} (h : wE J.xc (kPar is N) (evL C es env)) : wS J N (exS C (.par is es) env) := by
  rw [exS]; exact rsof (bind1 h fun _ _ ⟨_, _, _, h1, h2, h3⟩ => wE_of h1 (by rw [h2]; exact h3))
theorem sw_unp {tg : Tg} (h : wE J.xc (kUnp tg N) (evO C a env)) : wS J N (exS C (.unp tg a) env) := by
  rw [exS]; exact rsof (bind1 h fun _ _ ⟨_, _, _, h1, h2, h3⟩ => wE_of h1 (by simp only [h2]; exact h3))
theorem sw_ssb (h : wE J.xc (fun y e => (e.at n).isSome = true ∧ wE J.xc (kSsb n N y) (evO C b e)) (evO C a env)) : wS J N (exS C (.ssb n b a) env) := by
  rw [exS]
  refine rsof (bind1 h fun y e ⟨h0, h⟩ => ?_)
  obtain ⟨m0, hm0⟩ := Option.isSome_iff_exists.mp h0
  refine get1 (a := .r n) (e := e) (by rw [evO]; simp only [hm0]) (bind1 h fun _ _ ⟨_, _, _, _, _, _, h1, h2, h3, h4, h5⟩ => get1 h1 (get1 h2 ?_))
  show wS J N (match Env.at _ n with | some m => (match setIt m _ _ with | some m' => RS.nx _ | none => .no) | none => .no)
  simp only [h3, h4]; exact h5
theorem sw_aug {o : BO} (hv : env.at n = some m) (h : wE J.xc (kAug o n N (.r n)) (evO C a env)) : wS J N (exS C (.aug o n a) env) := by
  rw [exS]
  refine rsof (get1 (a := .r n) (e := env) (by rw [evO]; simp only [hv]) (bind1 h fun _ _ ⟨_, _, _, h1, h2, h3, h4, h5⟩ => get1 h1 (get1 h2 (opt_ h3 ?_))))
  show wS J N (setM n _ _); unfold setM; rw [if_pos h4]; exact h5
theorem sw_for {tg : Tg} {sr : Src} (h : wE J.xc (kFor J N tg (exL C sb)) (evS C sr env)) : wS J N (exS C (.for tg sr sb) env) := by rw [exS]; exact rsof h
theorem sw_iff {c : T} {A B : SL} (h : wE J.xc (kIff J N (exL C A) (exL C B)) (evT C c env)) : wS J N (exS C (.iff c A B) env) := by
  rw [exS]; exact rsof (wE_mono h (fun _ _ _ z => z) fun t _ ⟨h1, h2⟩ => by cases t with
    | true => exact h1 rfl
    | false => exact h2 rfl)
theorem sw_ret (h : wE J.xc (kRet J.rt) (evO C a env)) : wS J N (exS C (.ret a) env) := by
  rw [exS]; exact rsof (wE_mono h (fun _ _ _ z => z) fun o e h => by cases o with
    | v m => exact h
    | r i => obtain ⟨m, h1, h2⟩ := h; simp only [h1]; exact h2)
theorem sw_ex (h : wE J.xc (fun _ e => N e) (evO C a env)) : wS J N (exS C (.ex a) env) := by rw [exS]; exact rsof h
theorem sw_ps (h : N env) : wS J N (exS C .ps env) := by rw [exS]; exact h
theorem sw_br (h : J.br env) : wS J N (exS C .br env) := by rw [exS]; exact h
theorem sw_ct (h : J.ct env) : wS J N (exS C .ct env) := by rw [exS]; exact h
theorem kSet_i (h : tkO x env = .ok m e1) (hn : n < e1.length) (hq : N (e1.set n (some m))) : kSet n N x env := ⟨_, _, h, hn, hq⟩
theorem kPar_i {is : List Nat} {ms : List MV} (h : tkOs os env = .ok ms e1) (hs : setMs is ms e1 = .nx e2) (hq : N e2) : kPar is N os env := ⟨_, _, _, h, hs, hq⟩
theorem kUnp_i {tg : Tg} (h : tk x env = .ok p e1) (hs : bindT tg p e1 = some e2) (hq : N e2) : kUnp tg N x env := ⟨_, _, _, h, hs, hq⟩
theorem kSsb_i (h1 : tk y env = .ok p e1) (h2 : tk x e1 = .ok q e2) (h3 : e2.at n = some m) (h4 : setIt m q p = some m') (hq : N (e2.set n (some m'))) : kSsb n N y x env := ⟨_, _, _, _, _, _, h1, h2, h3, h4, hq⟩
theorem kAug_i {o : BO} {k : Int} (hx : rdD x env = .ok p env) (hy : rdD y env = .ok q env) (h : augI o p q = some k) (hn : n < env.length) (hq : N (env.set n (some (.d (.int k))))) : kAug o n N x y env := ⟨_, _, _, hx, hy, h, hn, hq⟩
theorem kIff_i {A B : Env → RS} (h1 : t = true → wS J N (A env)) (h2 : t = false → wS J N (B env)) : kIff J N A B t env := ⟨h1, h2⟩
theorem kFor_i {tg : Tg} {B : Env → RS} (h : wS J N (loop tg B w env)) : kFor J N tg B w env := h
theorem kRet_v {R : MV → Env → Prop} (h : R m env) : kRet R (.v m) env := h
theorem kRet_r {R : MV → Env → Prop} (e : env.at n = some m) (h : R m (env.set n none)) : kRet R (.r n) env := ⟨_, e, h⟩
/-! ### loops -/
theorem loop_ind {ι : Type} {tg : Tg} {f : Env → RS} (g : ι → PyData) (I : List ι → Env → Prop) (ws : List ι) (h0 : I ws env)
    (step : ∀ k ks e, I (k :: ks) e → ∃ e1, bindT tg (g k) e = some e1 ∧ wS ⟨J.rt, N, I ks, J.xc⟩ (I ks) (f e1)) (fin : ∀ e, I [] e → N e) : wS J N (loop tg f (ws.map g) env) := by
  induction ws generalizing env with
  | nil => exact fin _ h0
  | cons k ks ih =>
    obtain ⟨e1, hb, hs⟩ := step k ks env h0
    rw [List.map_cons, loop]
    simp only [hb]
    cases hf : f e1 with
    | nx e => rw [hf] at hs; exact ih hs
    | ct e => rw [hf] at hs; exact ih hs
    | br e => rw [hf] at hs; exact hs
    | ret m e => rw [hf] at hs; exact hs
    | exc c as e => rw [hf] at hs; exact hs
    | no => rw [hf] at hs; exact hs
/-- .. over a list as it stands -/
theorem loop_data {tg : Tg} {f : Env → RS} (I : List PyData → Env → Prop) (h0 : I w env)
    (step : ∀ k ks e, I (k :: ks) e → ∃ e1, bindT tg k e = some e1 ∧ wS ⟨J.rt, N, I ks, J.xc⟩ (I ks) (f e1)) (fin : ∀ e, I [] e → N e) : wS J N (loop tg f w env) := by
  have h := loop_ind (J := J) (N := N) (env := env) (tg := tg) (f := f) id I w h0 step fin
  rwa [List.map_id] at h
end
/-! ### comprehensions -/
section
variable {C : Nat → Callee} {env e1 : Env} {X : XQ} {Q : O → Env → Prop} {e : E} {tg : Tg} {s : Src} {c : T} {ι : Type}
/-- one that may change names: I stands from turn to turn -/
theorem we_compI (h : wE X (fun w e1 => inN tg.vars e1 = true ∧ ∃ (ws : List ι) (g : ι → PyData) (I : List ι → List PyData → Env → Prop), w = ws.map g ∧ I ws [] e1 ∧
      (∀ k ks acc ev, I (k :: ks) acc ev → ∃ B, bindT tg (g k) (hide tg.vars ev) = some B ∧ wE X0w (fun b e2 => (b = true → wE X0w (fun y e3 => ∃ p e4, tk y e3 = .ok p e4 ∧ acc.length < line ∧ I ks (acc ++ [p]) e4) (evO C e e2)) ∧ (b = false → I ks acc e2)) (evT C c B)) ∧
      ∀ acc ev, I [] acc ev → Q (.v (.ml acc)) (unhide e1 tg.vars ev)) (evS C s env)) : wE X Q (evO C (.comp e tg s c) env) := by
  rw [evO]
  refine bind1 h fun w e1 ⟨hn, ws, g, I, hw, h0, step, fin⟩ => ?_
  subst hw
  simp only [hn, if_true]
  have main : ∀ (vs : List ι) (acc : List PyData) (ev : Env), I vs acc ev → ∃ acc' ev', turns (fun x acc => M.bind (getE fun env => bindT tg x (hide tg.vars env)) fun _ => M.bind (evT C c) fun k => match k with
      | true => M.bind (evO C e) fun y => M.bind (tk y) fun p => if acc.length < line then .pure (acc ++ [p]) else .no
      | false => .pure acc) (vs.map g) acc ev = .ok acc' ev' ∧ I [] acc' ev' := by
    intro vs
    induction vs with
    | nil => intro acc ev h; exact ⟨acc, ev, rfl, h⟩
    | cons k ks ih =>
      intro acc ev hI
      obtain ⟨B, hb, hs⟩ := step k ks acc ev hI
      have hbk : getE (fun env => bindT tg (g k) (hide tg.vars env)) ev = .ok () B := by unfold getE; simp only [hb]
      rw [List.map_cons, turns]
      cases hc : evT C c B with
      | no => rw [hc] at hs; exact hs.elim
      | exc _ _ _ => rw [hc] at hs; exact hs.elim
      | ok b e2 =>
        rw [hc] at hs
        cases b with
        | false =>
          obtain ⟨a', v', h1, h2⟩ := ih acc e2 (hs.2 rfl)
          refine ⟨a', v', ?_, h2⟩
          unfold M.bind
          simp only [hbk, hc]
          exact h1
        | true =>
          have hs := hs.1 rfl
          cases he : evO C e e2 with
          | no => rw [he] at hs; exact hs.elim
          | exc _ _ _ => rw [he] at hs; exact hs.elim
          | ok y e3 =>
            rw [he] at hs
            obtain ⟨p, e4, h3, h4, h5⟩ := hs
            obtain ⟨a', v', h1, h2⟩ := ih (acc ++ [p]) e4 h5
            refine ⟨a', v', ?_, h2⟩
            unfold M.bind
            simp only [hbk, hc, he, h3, h4, if_true, M.pure]
            exact h1
  obtain ⟨a', v', h1, h2⟩ := main ws [] e1 h0
  refine wE_of (a := .v (.ml a')) (e := unhide e1 tg.vars v') ?_ (fin _ _ h2)
  exact congrArg (fun r : R (List PyData) => (match r with
    | .ok acc env' => .ok (.v (.ml acc)) (unhide e1 tg.vars env')
    | _ => .no : R O)) h1
/-- what a comprehension asks: what is walked, and an I that stands from turn to turn -/
def kComp (C : Nat → Callee) (e : E) (tg : Tg) (c : T) (Q : O → Env → Prop) (w : List PyData) (e1 : Env) : Prop := ∃ ι : Type, inN tg.vars e1 = true ∧ ∃ (ws : List ι) (g : ι → PyData) (I : List ι → List PyData → Env → Prop), w = ws.map g ∧ I ws [] e1 ∧
  (∀ k ks acc ev, I (k :: ks) acc ev → ∃ B, bindT tg (g k) (hide tg.vars ev) = some B ∧ wE X0w (fun b e2 => (b = true → wE X0w (fun y e3 => ∃ p e4, tk y e3 = .ok p e4 ∧ acc.length < line ∧ I ks (acc ++ [p]) e4) (evO C e e2)) ∧ (b = false → I ks acc e2)) (evT C c B)) ∧
  ∀ acc ev, I [] acc ev → Q (.v (.ml acc)) (unhide e1 tg.vars ev)
theorem we_comp (h : wE X (kComp C e tg c Q) (evS C s env)) : wE X Q (evO C (.comp e tg s c) env) := by
  cases hs : evS C s env with
  | no => rw [hs] at h; exact h.elim
  | exc k as e1 =>
    rw [hs] at h
    rw [evO]
    refine wE_bind ?_
    rw [hs]; exact h
  | ok w e1 =>
    rw [hs] at h
    obtain ⟨ι, h⟩ := h
    exact we_compI (ι := ι) (by rw [hs]; exact h)
/-- one that may change names -/
theorem kComp_d {w : List PyData} {ws : List ι} {g : ι → PyData} (I : List ι → List PyData → Env → Prop) (hw : w = ws.map g) (hn : inN tg.vars e1 = true) (h0 : I ws [] e1)
    (step : ∀ k ks acc ev, I (k :: ks) acc ev → ∃ B, bindT tg (g k) (hide tg.vars ev) = some B ∧ wE X0w (fun b e2 => (b = true → wE X0w (fun y e3 => ∃ p e4, tk y e3 = .ok p e4 ∧ acc.length < line ∧ I ks (acc ++ [p]) e4) (evO C e e2)) ∧ (b = false → I ks acc e2)) (evT C c B))
    (fin : ∀ acc ev, I [] acc ev → ∃ e2, unhide e1 tg.vars ev = e2 ∧ Q (.v (.ml acc)) e2) : kComp C e tg c Q w e1 := ⟨ι, hn, ws, g, I, hw, h0, step, fun acc ev h => by
    obtain ⟨e2, h1, h2⟩ := fin acc ev h
    rw [h1]; exact h2⟩
theorem kComp_dm {w : List PyData} {ws : List ι} {g : ι → PyData} (I : List ι → List PyData → Env → Prop) (hw : w = ws.map g) (hn : inN tg.vars e1 = true) (h0 : I ws [] e1)
    (step : ∀ k ks acc ev, I (k :: ks) acc ev → ∃ B, bindT tg (g k) (hide tg.vars ev) = some B ∧ wE X0w (fun y e3 => ∃ p e4, tk y e3 = .ok p e4 ∧ acc.length < line ∧ I ks (acc ++ [p]) e4) (evO C e B))
    (fin : ∀ acc ev, I [] acc ev → ∃ e2, unhide e1 tg.vars ev = e2 ∧ Q (.v (.ml acc)) e2) : kComp C e tg (.e (.cst (.bool true))) Q w e1 :=
  kComp_d I hw hn h0 (fun k ks acc ev h => by
    obtain ⟨B, h1, h2⟩ := step k ks acc ev h
    exact ⟨B, h1, wt_e (we_cst ⟨_, _, rfl, rfl, fun _ => h2, fun h => absurd h.symm Bool.false_ne_true⟩)⟩) fin
/-- one that changes nothing but its own names: the names in a turn, which turns count, what they give -/
theorem kComp_i {w : List PyData} {ws : List ι} {g : ι → PyData} {P : ι → Bool} {F : ι → PyData} (hw : w = ws.map g) (hn : inN tg.vars e1 = true) (hu : unhide e1 tg.vars e1 = e1) (hl : ws.length ≤ line)
    (hb : ∀ k ∈ ws, ∃ B, bindT tg (g k) (hide tg.vars e1) = some B ∧ hide tg.vars B = hide tg.vars e1 ∧ unhide e1 tg.vars B = e1 ∧ wE X0w (fun b e2 => b = P k ∧ e2 = B ∧ (b = true → wE X0w (fun y e3 => tk y e3 = .ok (F k) B) (evO C e B))) (evT C c B))
    (hq : Q (.v (.ml ((ws.filter P).map F))) e1) : kComp C e tg c Q w e1 := by
  subst hw
  refine ⟨ι, hn, ws, g, fun vs acc ev => (∀ k ∈ vs, k ∈ ws) ∧ acc.length + vs.length ≤ line ∧ (ws.filter P).map F = acc ++ (vs.filter P).map F ∧ hide tg.vars ev = hide tg.vars e1 ∧ unhide e1 tg.vars ev = e1, rfl, ⟨fun _ h => h, by simpa using hl, rfl, rfl, hu⟩, fun v vs acc ev ⟨hm, hla, he, h1, h2⟩ => ?_, fun acc ev ⟨_, _, he, _, h2⟩ => ?_⟩
  · obtain ⟨B, b1, b2, b3, b4⟩ := hb v (hm v List.mem_cons_self)
    refine ⟨B, by rw [h1]; exact b1, wE_mono b4 (fun _ _ _ z => z) fun b e2 ⟨hp, e2B, hy⟩ => ⟨fun hb1 => ?_, fun hb0 => ?_⟩⟩
    · subst e2B
      refine wE_mono (hy hb1) (fun _ _ _ z => z) fun y e3 ht => ⟨F v, _, ht, by simp only [List.length_cons] at hla; omega, fun k hk => hm k (List.mem_cons_of_mem _ hk), by simp only [List.length_append, List.length_cons, List.length_nil] at hla ⊢; omega, ?_, b2, b3⟩
      rw [he, List.filter_cons_of_pos (by rw [← hp]; exact hb1), List.map_cons, List.append_assoc]; rfl
    · subst e2B
      refine ⟨fun k hk => hm k (List.mem_cons_of_mem _ hk), by simp only [List.length_cons] at hla; omega, ?_, b2, b3⟩
      rw [he, List.filter_cons_of_neg (by rw [← hp, hb0]; exact Bool.false_ne_true)]
  · rw [h2]
    have e3 : acc = (ws.filter P).map F := by rw [he]; simp
    rw [e3]; exact hq
/-- .. that keeps all -/
theorem kComp_m {w : List PyData} {ws : List ι} {g : ι → PyData} {F : ι → PyData} (hw : w = ws.map g) (hn : inN tg.vars e1 = true) (hu : unhide e1 tg.vars e1 = e1) (hl : ws.length ≤ line)
    (hb : ∀ k ∈ ws, ∃ B, bindT tg (g k) (hide tg.vars e1) = some B ∧ hide tg.vars B = hide tg.vars e1 ∧ unhide e1 tg.vars B = e1 ∧ wE X0w (fun y e3 => tk y e3 = .ok (F k) B) (evO C e B))
    (hq : Q (.v (.ml (ws.map F))) e1) : kComp C e tg (.e (.cst (.bool true))) Q w e1 := by
  refine kComp_i (P := fun _ => true) (F := F) hw hn hu hl (fun k hk => ?_) (by rw [List.filter_eq_self.mpr (fun _ _ => rfl)]; exact hq)
  obtain ⟨B, b1, b2, b3, b4⟩ := hb k hk
  exact ⟨B, b1, b2, b3, wt_e (we_cst ⟨_, _, rfl, rfl, rfl, rfl, fun _ => b4⟩)⟩
end
/-! ### a def -/
section
variable {C : Nat → Callee} {F : FDef} {args : List MV} {Ev : Env} {P : CR → Prop}
theorem run_P (hl : args.length = F.np) (hio : F.io = none) (hE : args.map some ++ List.replicate (F.ns - F.np) none = Ev)
    (h : wS ⟨fun m _ => P (.ok m none), fun _ => False, fun _ => False, fun c as _ => P (.exc c as none)⟩ (fun _ => P (.ok (.d .none) none)) (exL C F.body Ev)) : P (runDef C F args) := by
  unfold runDef
  rw [if_pos hl, hE]
  dsimp only
  cases hr : exL C F.body Ev with
  | nx e => rw [hr] at h; simp only [hio]; exact h
  | ret m e => rw [hr] at h; simp only [hio]; exact h
  | exc c as e => rw [hr] at h; simp only [hio]; exact h
  | br e => rw [hr] at h; exact h.elim
  | ct e => rw [hr] at h; exact h.elim
  | no => rw [hr] at h; exact h.elim
theorem run_Pio {j : Nat} (hl : args.length = F.np) (hio : F.io = some j) (hE : args.map some ++ List.replicate (F.ns - F.np) none = Ev)
    (h : wS ⟨fun m e => ∃ m', e.at j = some m' ∧ m'.free = true ∧ P (.ok m (some m')), fun _ => False, fun _ => False, fun c as e => ∃ m', e.at j = some m' ∧ m'.free = true ∧ P (.exc c as (some m'))⟩ (fun e => ∃ m', e.at j = some m' ∧ m'.free = true ∧ P (.ok (.d .none) (some m'))) (exL C F.body Ev)) : P (runDef C F args) := by
  unfold runDef
  rw [if_pos hl, hE]
  dsimp only
  cases hr : exL C F.body Ev with
  | nx e => rw [hr] at h; obtain ⟨m', h1, h2, h3⟩ := h; simp only [hio, h1, h2, if_true]; exact h3
  | ret m e => rw [hr] at h; obtain ⟨m', h1, h2, h3⟩ := h; simp only [hio, h1, h2, if_true]; exact h3
  | exc c as e => rw [hr] at h; obtain ⟨m', h1, h2, h3⟩ := h; simp only [hio, h1, h2, if_true]; exact h3
  | br e => rw [hr] at h; exact h.elim
  | ct e => rw [hr] at h; exact h.elim
  | no => rw [hr] at h; exact h.elim
end
end PD.Q
end
section
set_option linter.all false
set_option maxRecDepth 100000
/-! comparisons, truths -/
namespace PD.Q
open PySem
section
variable {i j : Int} {x y : Str} {s t : Bool}
theorem shaped_int (i : Int) : SeqAt.shaped (.int i) = true := by
  have : (PyData.int i).canLay0 = true ∧ (PyData.int i).depth ≤ 0 := ⟨by simp [PyData.canLay0], by simp [PyData.depth]⟩
  simp [SeqAt.shaped, PyData.canLay0, PyData.depth]
theorem shaped_bool (b : Bool) : SeqAt.shaped (.bool b) = true := by simp [SeqAt.shaped, PyData.canLay0, PyData.depth]
theorem eqD_of {a b : PyData} (h1 : SeqAt.shaped a = true) (h2 : SeqAt.shaped b = true) : eqD a b = some (PyData.eqv a b) := by unfold eqD; rw [if_pos ⟨h1, h2⟩]
theorem eqv_int : PyData.eqv (.int i) (.int j) = decide (i = j) := by
  simp only [PyData.eqv]
  by_cases h : i = j <;> simp [h]
theorem eqv_str : PyData.eqv (.str x) (.str y) = decide (x = y) := by
  simp only [PyData.eqv]
  try (by_cases h : x = y <;> simp [h])
theorem eqv_bool : PyData.eqv (.bool s) (.bool t) = decide (s = t) := by
  simp only [PyData.eqv]
  cases s <;> cases t <;> simp
theorem cmp_eqI : cmpD .eq (.int i) (.int j) = some (decide (i = j)) := (eqD_of (shaped_int i) (shaped_int j)).trans (by rw [eqv_int])
theorem cmp_neI : cmpD .ne (.int i) (.int j) = some (!decide (i = j)) := by
  show (eqD (.int i) (.int j)).map not = _
  rw [eqD_of (shaped_int i) (shaped_int j), eqv_int]; rfl
theorem cmp_eqS (h1 : SeqAt.shaped (.str x) = true) (h2 : SeqAt.shaped (.str y) = true) : cmpD .eq (.str x) (.str y) = some (decide (x = y)) := (eqD_of h1 h2).trans (by rw [eqv_str])
theorem cmp_neS (h1 : SeqAt.shaped (.str x) = true) (h2 : SeqAt.shaped (.str y) = true) : cmpD .ne (.str x) (.str y) = some (!decide (x = y)) := by
  show (eqD (.str x) (.str y)).map not = _
  rw [eqD_of h1 h2, eqv_str]; rfl
theorem cmp_eqB : cmpD .eq (.bool s) (.bool t) = some (decide (s = t)) := (eqD_of (shaped_bool s) (shaped_bool t)).trans (by rw [eqv_bool])
theorem cmp_neB : cmpD .ne (.bool s) (.bool t) = some (!decide (s = t)) := by
  show (eqD (.bool s) (.bool t)).map not = _
  rw [eqD_of (shaped_bool s) (shaped_bool t), eqv_bool]; rfl
theorem truth_decide {p : Prop} [Decidable p] : truth (.bool (decide p)) = some (decide p) := rfl
end
theorem mu_append {xs : List PyData} {p : PyData} (h : xs.length < line) : mutm .append (.ml xs) [p] = some (xs ++ [p], .none) := by
  show (if xs.length < line then some (xs ++ [p], PyData.none) else none) = _
  rw [if_pos h]
theorem mu_extend {xs ys : List PyData} (h : xs.length + ys.length ≤ line) : mutm .extend (.ml xs) [.list ys] = some (xs ++ ys, .none) := by
  show (if xs.length + ys.length ≤ line then some (xs ++ ys, PyData.none) else none) = _
  rw [if_pos h]
/-! ### calls of a program -/
section
variable {G : Nat → Option FDef} {n f : Nat} {F : FDef} {args : List MV} {Ev : Env} {m m' : MV}
theorem fn_P {P : CR → Prop} (hG : G f = some F) (hl : args.length = F.np) (hio : F.io = none) (hE : args.map some ++ List.replicate (F.ns - F.np) none = Ev)
    (h : wS ⟨fun m _ => P (.ok m none), fun _ => False, fun _ => False, fun c as _ => P (.exc c as none)⟩ (fun _ => P (.ok (.d .none) none)) (exL (callF G n) F.body Ev)) : P ((callF G (n + 1) f).run args) := by
  have e : (callF G (n + 1) f) = ⟨F.io, runDef (callF G n) F⟩ := by rw [callF, hG]
  rw [e]; exact run_P hl hio hE h
theorem fn_ok (hG : G f = some F) (hl : args.length = F.np) (hio : F.io = none) (hE : args.map some ++ List.replicate (F.ns - F.np) none = Ev)
    (h : wS ⟨fun m' _ => m' = m, fun _ => False, fun _ => False, X0w⟩ (fun _ => .d .none = m) (exL (callF G n) F.body Ev)) : (callF G (n + 1) f).run args = .ok m none := by
  refine fn_P (P := (· = .ok m none)) hG hl hio hE (wS_mono h (fun _ h => by rw [h]) (fun _ _ h => by rw [h]) (fun _ h => h) (fun _ h => h) fun _ _ _ h => h.elim)
theorem fn_io {j : Nat} (hG : G f = some F) (hl : args.length = F.np) (hio : F.io = some j) (hE : args.map some ++ List.replicate (F.ns - F.np) none = Ev) {P : CR → Prop}
    (h : wS ⟨fun m e => ∃ m', e.at j = some m' ∧ m'.free = true ∧ P (.ok m (some m')), fun _ => False, fun _ => False, fun c as e => ∃ m', e.at j = some m' ∧ m'.free = true ∧ P (.exc c as (some m'))⟩ (fun e => ∃ m', e.at j = some m' ∧ m'.free = true ∧ P (.ok (.d .none) (some m'))) (exL (callF G n) F.body Ev)) : P ((callF G (n + 1) f).run args) := by
  have e : (callF G (n + 1) f) = ⟨F.io, runDef (callF G n) F⟩ := by rw [callF, hG]
  rw [e]; exact run_Pio hl hio hE h
theorem w_ownG {X : XQ} {Q : O → Env → Prop} {os : List O} {env e1 : Env} {as : List MV} (hG : G f = some F) (hio : F.io = none) (ha : tkAs none os env = .ok as e1) (hr : (callF G (n + 1) f).run as = .ok m none) (hq : Q (.v m) e1) : wE X Q (own (callF G (n + 1) f) os env) :=
  w_own (by rw [callF, hG]; exact hio) ha hr hq
theorem w_ownXG {X : XQ} {Q : O → Env → Prop} {os : List O} {env e1 : Env} {as : List MV} {k : Nat} {es : List PyData} (hG : G f = some F) (hio : F.io = none) (ha : tkAs none os env = .ok as e1) (hr : (callF G (n + 1) f).run as = .exc k es none) (hq : X k es e1) : wE X Q (own (callF G (n + 1) f) os env) :=
  w_ownX (by rw [callF, hG]; exact hio) ha hr hq
theorem w_ioG {X : XQ} {Q : O → Env → Prop} {os : List O} {env e1 : Env} {as : List MV} {i j : Nat} {m0 m1 : MV} (hG : G f = some F) (hio : F.io = some j) (ha : tkAs (some j) os env = .ok as e1) (ho : os[j]? = some (.r i)) (h0 : e1.at i = some m0) (hf : m0.free = true) (hr : (callF G (n + 1) f).run (as.set j m0) = .ok m (some m1)) (hf1 : m1.free = true) (hq : Q (.v m) (e1.set i (some m1))) : wE X Q (own (callF G (n + 1) f) os env) :=
  w_io (by rw [callF, hG]; exact hio) ha ho h0 hf hr hf1 hq
end
end PD.Q
end
section
set_option linter.all false
set_option maxRecDepth 100000
set_option maxHeartbeats 0
/-! the helpers that every law has: what they give -/
namespace PD.Q
open PySem
local macro_rules | `(tactic| walk_at "dec") => `(tactic| first | rfl | assumption | exact decide_eq_true (by assumption) | exact decide_eq_false (by assumption) | (simp only [*, decide_true, decide_false, decide_eq_true_eq, decide_eq_false_iff_not]; done) | (simp [PyData.eqv, *]; done) | (simp [PyData.eqv]; omega) | (apply decide_eq_true; omega) | (apply decide_eq_false; omega) | fail "stuck")
local macro_rules | `(tactic| walk_at "side") => `(tactic| first | rfl | exact bo_mulR (by decide) | exact bo_mulL (by decide) | exact bo_mulL (small_emod (by decide) (by decide)) | exact bo_mod (by first | assumption | omega) | exact bo_fdiv (by first | assumption | omega) (by first | assumption | omega) | assumption | fail "stuck")
local macro_rules | `(tactic| walk_at "ev") => `(tactic| first
  | exact ev_cst
  | exact ev_fn
  | exact ev_var rfl
  | exact el_nil
  | exact ev_dct0
  | (refine' el_cons ?a ?b; (case a => walk_at "ev"); (case b => walk_at "ev"))
  | (refine' ev_bin ?a ?b ?c ?d ?e; (case a => walk_at "ev"); (case b => walk_at "ev"); (case c => rfl); (case d => rfl); (case e => walk_at "side"))
  | (refine' ev_cmp ?a ?b ?c ?d ?e; (case a => walk_at "ev"); (case b => walk_at "ev"); (case c => rfl); (case d => rfl); (case e => walk_at "side"))
  | (refine' ev_sub ?a ?b ?c ?d ?e; (case a => walk_at "ev"); (case b => walk_at "ev"); (case c => rfl); (case d => rfl); (case e => walk_at "side"))
  | (refine' ev_lst ?a ?b ?c; (case a => walk_at "ev"); (case b => rfl); (case c => exact Nat.le_of_ble_eq_true rfl))
  | (refine' ev_tup ?a ?b ?c; (case a => walk_at "ev"); (case b => rfl); (case c => exact Nat.le_of_ble_eq_true rfl))
  | (refine' ev_bi ?a ?b ?c; (case a => walk_at "ev"); (case b => rfl); (case c => walk_at "side"))
  | (refine' ev_neg ?a ?b; (case a => walk_at "ev"); (case b => rfl))
  | (refine' ev_nt ?a ?b ?c; (case a => walk_at "ev"); (case b => rfl); (case c => rfl))
  | (refine' ev_slA ?a ?b ?c; (case a => walk_at "ev"); (case b => rfl); (case c => rfl))
  | (refine' ev_slF ?a ?b ?c ?d ?e; (case a => walk_at "ev"); (case b => walk_at "ev"); (case c => rfl); (case d => rfl); (case e => rfl))
  | (refine' ev_slT ?a ?b ?c ?d ?e; (case a => walk_at "ev"); (case b => walk_at "ev"); (case c => rfl); (case d => rfl); (case e => rfl))
  | (refine' ev_isi ?a ?b ?c; (case a => walk_at "ev"); (case b => rfl); (case c => rfl))
  | (refine' ev_call ?a ?b; (case a => walk_at "ev"); (case b => walk_at "call"))
  | (refine' et_e ?a ?b ?c; (case a => walk_at "ev"); (case b => rfl); (case c => rfl))
  | (refine' et_nt ?a; (case a => walk_at "ev"))
  | (refine' et_anT (evT_to ?a ?b) ?c; (case a => walk_at "ev"); (case b => walk_at "dec"); (case c => walk_at "ev"))
  | (refine' et_anF (evT_to ?a ?b); (case a => walk_at "ev"); (case b => walk_at "dec"))
  | (refine' et_orT (evT_to ?a ?b); (case a => walk_at "ev"); (case b => walk_at "dec"))
  | (refine' et_orF (evT_to ?a ?b) ?c; (case a => walk_at "ev"); (case b => walk_at "dec"); (case c => walk_at "ev"))
  | (refine' ev_iteT (evT_to ?a ?b) ?c; (case a => walk_at "ev"); (case b => walk_at "dec"); (case c => walk_at "ev"))
  | (refine' ev_iteF (evT_to ?a ?b) ?c; (case a => walk_at "ev"); (case b => walk_at "dec"); (case c => walk_at "ev"))
  | (refine' es_sq ?a ?b; (case a => walk_at "ev"); (case b => rfl))
  | (refine' es_rng ?a ?b ?c; (case a => walk_at "ev"); (case b => rfl); (case c => rfl))
  | (refine' es_zip ?a ?b ?c; (case a => walk_at "ev"); (case b => rfl); (case c => rfl))
  | (refine' es_enm ?a ?b; (case a => walk_at "ev"); (case b => rfl)) | fail "stuck")
local macro_rules | `(tactic| walk_at "s1") => `(tactic| first
  | (refine' st_set' ?a ?b ?c; (case a => walk_at "ev"); (case b => rfl); (case c => exact Nat.le_of_ble_eq_true rfl))
  | (refine' st_par' ?a ?b ?c; (case a => walk_at "ev"); (case b => rfl); (case c => rfl))
  | (refine' st_unp' ?a ?b ?c; (case a => walk_at "ev"); (case b => rfl); (case c => rfl))
  | (refine' st_ssb' ?a ?b ?c ?d ?e ?f ?g; (case a => walk_at "ev"); (case b => walk_at "ev"); (case c => walk_at "ev"); (case d => rfl); (case e => rfl); (case f => rfl); (case g => walk_at "side"))
  | (refine' st_aug' ?a ?b ?c ?d ?e ?f; (case a => walk_at "ev"); (case b => walk_at "ev"); (case c => rfl); (case d => rfl); (case e => rfl); (case f => exact Nat.le_of_ble_eq_true rfl))
  | (refine' st_asb' ?a ?b ?c ?d ?e ?f ?g ?h ?i ?j; (case a => walk_at "ev"); (case b => walk_at "ev"); (case c => rfl); (case d => rfl); (case e => walk_at "side"); (case f => walk_at "ev"); (case g => rfl); (case h => rfl); (case i => rfl); (case j => walk_at "side"))
  | (refine' st_retV ?a; (case a => walk_at "ev"))
  | (refine' st_retR ?a ?b; (case a => walk_at "ev"); (case b => rfl))
  | (refine' st_ex ?a; (case a => walk_at "ev"))
  | (refine' st_iffT (evT_to ?a ?b) ?c; (case a => walk_at "ev"); (case b => walk_at "dec"); (case c => walk_at "st"))
  | (refine' st_iffF (evT_to ?a ?b) ?c; (case a => walk_at "ev"); (case b => walk_at "dec"); (case c => walk_at "st")) | fail "stuck")
local macro_rules | `(tactic| walk_at "st") => `(tactic| first
  | exact sl_nil
  | (refine' sl_ret ?a; (case a => walk_at "s1"))
  | (refine' sl_cons ?a ?b; (case a => walk_at "s1"); (case b => walk_at "st")) | fail "stuck")
def A_take : FDef := ⟨2, 7, some 0, (.cons (.iff (.e (.cmp .eq (.sub (.var 0) (.cst (.int 0))) (.cst (.int 0)))) (.cons (.set 4 (.sub (.bin .add (.slF (.sub (.var 0) (.cst (.int 3))) (.sub (.var 0) (.cst (.int 2)))) (.lst (.cons (.cst (.int 0)) .nil))) (.cst (.int 0))))
    (.cons (.asb .add 0 (.cst (.int 2)) (.cst (.int 1)))
    (.cons (.iff (.e (.cmp .ge (.var 4) (.bin .pow (.cst (.int 10)) (.cst (.int 18))))) (.cons (.ssb 0 (.cst (.int 0)) (.var 4))
    .nil) .nil)
    (.cons (.set 5 (.bin .add (.bin .add (.bin .mul (.sub (.var 0) (.cst (.int 1))) (.cst (.int 48271))) (.bin .mod (.bi .int (.cons (.var 4) .nil)) (.cst (.int 2147483647)))) (.bin .mul (.cst (.int 7919)) (.sub (.var 0) (.cst (.int 2))))))
    (.cons (.ssb 0 (.cst (.int 1)) (.bin .mod (.bi .int (.cons (.var 5) .nil)) (.cst (.int 2147483647))))
    .nil))))) .nil)
    (.cons (.iff (.e (.cmp .gt (.sub (.var 0) (.cst (.int 0))) (.cst (.int 0)))) (.cons (.set 6 (.bin .mod (.bi .int (.cons (.sub (.var 0) (.cst (.int 0))) .nil)) (.var 1)))
    (.cons (.ssb 0 (.cst (.int 0)) (.bin .fdiv (.bi .int (.cons (.sub (.var 0) (.cst (.int 0))) .nil)) (.var 1)))
    (.cons (.ret (.var 6))
    .nil))) .nil)
    (.cons (.set 2 (.bin .mod (.bi .int (.cons (.bin .mul (.bin .add (.sub (.var 0) (.cst (.int 1))) (.cst (.int 1))) (.cst (.int 39373))) .nil)) (.cst (.int 1000000007))))
    (.cons (.set 3 (.bin .mod (.bi .int (.cons (.bin .mul (.bin .mod (.bi .int (.cons (.bin .mul (.var 2) (.var 2)) .nil)) (.cst (.int 998244353))) (.cst (.int 30011))) .nil)) (.cst (.int 998244353))))
    (.cons (.ret (.bin .mod (.bi .int (.cons (.bin .fdiv (.var 3) (.cst (.int 7))) .nil)) (.var 1)))
    .nil)))))⟩
def bagL (b0 b1 b2 : Int) (cs : List Int) : List PyData := [.int b0, .int b1, .int b2, .list (cs.map .int)]
structure BagOk (b0 b1 b2 : Int) (cs : List Int) : Prop where
  h0 : 0 ≤ b0
  h1 : 0 ≤ b1
  h1' : b1 < 2147483647
  h2 : 0 ≤ b2
  hc : ∀ c ∈ cs, 0 ≤ c
  hl : cs.length ≤ 63
theorem cut_map {α β : Type} (f : α → β) (xs : List α) (lo hi : Option Int) : cutL (xs.map f) lo hi = (cutL xs lo hi).map f := by
  unfold cutL
  rw [List.length_map, List.map_take, List.map_drop]
theorem cut_len {α : Type} (xs : List α) (lo hi : Option Int) : (cutL xs lo hi).length ≤ xs.length := by
  unfold cutL
  rw [List.length_take, List.length_drop]; omega
theorem cut_mem {α : Type} {xs : List α} {lo hi : Option Int} {x : α} (h : x ∈ cutL xs lo hi) : x ∈ xs := by
  unfold cutL at h
  exact List.mem_of_mem_drop (List.mem_of_mem_take h)
/-- behind the cell -/
theorem take_tail (C : Nat → Callee) {b0 b1 b2 m : Int} {cs : List Int} {x4 x5 : Option MV} (h : BagOk b0 b1 b2 cs) (hm : 0 < m) (hm2 : m < 1073741824) : ∃ v b0' e, 0 ≤ v ∧ v < m ∧ 0 ≤ b0' ∧
    exL C (.cons (.iff (.e (.cmp .gt (.sub (.var 0) (.cst (.int 0))) (.cst (.int 0)))) (.cons (.set 6 (.bin .mod (.bi .int (.cons (.sub (.var 0) (.cst (.int 0))) .nil)) (.var 1)))
      (.cons (.ssb 0 (.cst (.int 0)) (.bin .fdiv (.bi .int (.cons (.sub (.var 0) (.cst (.int 0))) .nil)) (.var 1)))
      (.cons (.ret (.var 6))
      .nil))) .nil)
      (.cons (.set 2 (.bin .mod (.bi .int (.cons (.bin .mul (.bin .add (.sub (.var 0) (.cst (.int 1))) (.cst (.int 1))) (.cst (.int 39373))) .nil)) (.cst (.int 1000000007))))
      (.cons (.set 3 (.bin .mod (.bi .int (.cons (.bin .mul (.bin .mod (.bi .int (.cons (.bin .mul (.var 2) (.var 2)) .nil)) (.cst (.int 998244353))) (.cst (.int 30011))) .nil)) (.cst (.int 998244353))))
      (.cons (.ret (.bin .mod (.bi .int (.cons (.bin .fdiv (.var 3) (.cst (.int 7))) .nil)) (.var 1)))
      .nil)))) [some (.ml (bagL b0 b1 b2 cs)), some (.d (.int m)), none, none, x4, x5, none] = .ret (.d (.int v)) (some (.ml (bagL b0' b1 b2 cs)) :: e) := by
  by_cases h0 : 0 < b0
  · refine ⟨b0 % m, b0 / m, ?e, Int.emod_nonneg _ (by omega), Int.emod_lt_of_pos _ hm, Int.ediv_nonneg h.h0 (by omega), ?g⟩
    case g =>
      refine' Eq.trans ?g1 ?g2
      case g1 => walk_at "st"
      case g2 => rfl
  · have e0 : b0 = 0 := by have := h.h0; omega
    subst e0
    refine ⟨?v, 0, ?e', ?p1, ?p2, Int.le_refl _, ?g'⟩
    case g' =>
      refine' Eq.trans ?g3 ?g4
      case g3 => walk_at "st"
      case g4 => rfl
    case p1 => exact Int.emod_nonneg _ (by omega)
    case p2 => exact Int.emod_lt_of_pos _ hm
theorem head_cell (cs : List Int) (hc : ∀ c ∈ cs, 0 ≤ c) : ∃ c : Int, 0 ≤ c ∧ item (.list (cs.map .int ++ [.int 0])) (.int 0) = some (.int c) := by
  cases cs with
  | nil => exact ⟨0, Int.le_refl _, rfl⟩
  | cons c cs =>
    refine ⟨c, hc c List.mem_cons_self, ?_⟩
    show (match ix ((c :: cs).map PyData.int ++ [PyData.int 0]).length 0 with
      | some k => ((c :: cs).map PyData.int ++ [PyData.int 0])[k]?
      | none => none) = _
    have : ix ((c :: cs).map PyData.int ++ [PyData.int 0]).length 0 = some 0 := by
      unfold ix L2.ixN
      rw [if_pos (by decide), if_pos (by simp; omega)]; rfl
    rw [this]; rfl
theorem run_io {C : Nat → Callee} {F : FDef} {args : List MV} {j : Nat} {m m' : MV} {e : Env} (hl : args.length = F.np) (hio : F.io = some j) (h : exL C F.body (args.map some ++ List.replicate (F.ns - F.np) none) = .ret m e) (hm : e.at j = some m') (hf : m'.free = true) : runDef C F args = .ok m (some m') := by
  unfold runDef
  rw [if_pos hl, h, hio]
  simp only [hm, hf, if_true]
theorem run_0 {C : Nat → Callee} {F : FDef} {args : List MV} {m : MV} {e : Env} (hl : args.length = F.np) (hio : F.io = none) (h : exL C F.body (args.map some ++ List.replicate (F.ns - F.np) none) = .ret m e) : runDef C F args = .ok m none := by
  unfold runDef
  rw [if_pos hl, h, hio]
theorem take_spec (C : Nat → Callee) {b0 b1 b2 m : Int} {cs : List Int} (h : BagOk b0 b1 b2 cs) (hm : 0 < m) (hm2 : m < 1073741824) :
    ∃ v b0' b1' b2', 0 ≤ v ∧ v < m ∧ BagOk b0' b1' b2' cs ∧ runDef C A_take [.ml (bagL b0 b1 b2 cs), .d (.int m)] = .ok (.d (.int v)) (some (.ml (bagL b0' b1' b2' cs))) := by
  by_cases h0 : b0 = 0
  · subst h0
    obtain ⟨c, hc0, hc⟩ := head_cell (cutL cs (some b2) none) fun c hc => h.hc c (cut_mem hc)
    have ev : evO C (.sub (.bin .add (.slF (.sub (.var 0) (.cst (.int 3))) (.sub (.var 0) (.cst (.int 2)))) (.lst (.cons (.cst (.int 0)) .nil))) (.cst (.int 0))) [some (.ml (bagL 0 b1 b2 cs)), some (.d (.int m)), none, none, none, none, none] = .ok (.v (.d (.int c))) [some (.ml (bagL 0 b1 b2 cs)), some (.d (.int m)), none, none, none, none, none] := by
      refine' ev_sub ?a ?b ?c ?d ?e
      case a =>
        refine' ev_bin ?a1 ?b1 ?c1 ?d1 ?e1
        case a1 => walk_at "ev"
        case b1 => walk_at "ev"
        case c1 => rfl
        case d1 => rfl
        case e1 =>
          have hl := h.hl
          have h1 := cut_len (cs.map PyData.int) (some b2) none
          rw [List.length_map] at h1
          exact bo_addL (by simp only [line]; omega) (by simp only [line]; decide) (by simp only [line, List.length_singleton]; omega)
      case b => exact ev_cst
      case c => rfl
      case d => rfl
      case e => rw [cut_map]; exact hc
    by_cases hb : (10 : Int) ^ 18 ≤ c
    · obtain ⟨v, b0', e, v0, v1, hb0, ht⟩ := take_tail C (x4 := some (.d (.int c))) (x5 := ?x5) (b0 := c) (b1 := (b1 * 48271 + c % 2147483647 + 7919 * (b2 + 1)) % 2147483647) (b2 := b2 + 1) (m := m) ⟨hc0, Int.emod_nonneg _ (by decide), Int.emod_lt_of_pos _ (by decide), by have := h.h2; omega, h.hc, h.hl⟩ hm hm2
      refine ⟨v, b0', _, _, v0, v1, ⟨hb0, Int.emod_nonneg _ (by decide), Int.emod_lt_of_pos _ (by decide), by have := h.h2; omega, h.hc, h.hl⟩, run_io rfl rfl (e := some (.ml (bagL b0' ((b1 * 48271 + c % 2147483647 + 7919 * (b2 + 1)) % 2147483647) (b2 + 1) cs)) :: e) ?_ rfl rfl⟩
      refine' sl_cons ?a ?b
      case a =>
        refine' st_iffT (evT_to ?a1 ?b1) ?c1
        case a1 => walk_at "ev"
        case b1 => rfl
        case c1 =>
          refine' sl_cons ?a2 ?b2
          case a2 =>
            refine' st_set' (m := .d (.int c)) ev ?pA ?pB
            case pA => rfl
            case pB => exact Nat.le_of_ble_eq_true rfl
          case b2 => walk_at "st"
      case b => exact ht
    · obtain ⟨v, b0', e, v0, v1, hb0, ht⟩ := take_tail C (x4 := some (.d (.int c))) (x5 := ?x5) (b0 := 0) (b1 := (b1 * 48271 + c % 2147483647 + 7919 * (b2 + 1)) % 2147483647) (b2 := b2 + 1) (m := m) ⟨Int.le_refl _, Int.emod_nonneg _ (by decide), Int.emod_lt_of_pos _ (by decide), by have := h.h2; omega, h.hc, h.hl⟩ hm hm2
      refine ⟨v, b0', _, _, v0, v1, ⟨hb0, Int.emod_nonneg _ (by decide), Int.emod_lt_of_pos _ (by decide), by have := h.h2; omega, h.hc, h.hl⟩, run_io rfl rfl (e := some (.ml (bagL b0' ((b1 * 48271 + c % 2147483647 + 7919 * (b2 + 1)) % 2147483647) (b2 + 1) cs)) :: e) ?_ rfl rfl⟩
      refine' sl_cons ?a ?b
      case a =>
        refine' st_iffT (evT_to ?a1 ?b1) ?c1
        case a1 => walk_at "ev"
        case b1 => rfl
        case c1 =>
          refine' sl_cons ?a2 ?b2
          case a2 =>
            refine' st_set' (m := .d (.int c)) ev ?pA ?pB
            case pA => rfl
            case pB => exact Nat.le_of_ble_eq_true rfl
          case b2 => walk_at "st"
      case b => exact ht
  · have hp : 0 < b0 := by have := h.h0; omega
    obtain ⟨v, b0', e, v0, v1, hb0, ht⟩ := take_tail C (x4 := none) (x5 := none) h hm hm2
    refine ⟨v, b0', b1, b2, v0, v1, ⟨hb0, h.h1, h.h1', h.h2, h.hc, h.hl⟩, run_io rfl rfl (e := some (.ml (bagL b0' b1 b2 cs)) :: e) ?_ rfl rfl⟩
    refine' sl_cons ?a ?b
    case a =>
      refine' st_iffF (evT_to ?a1 ?b1) ?c1
      case a1 => walk_at "ev"
      case b1 => show (b0 == 0) = false; exact beq_eq_false_iff_ne.mpr h0
      case c1 => walk_at "st"
    case b => exact ht
end PD.Q
end
section
set_option linter.all false
set_option maxRecDepth 100000
/-! comprehensions and loops, by what stays -/
namespace PD.Q
open PySem
section
variable {C : Nat → Callee} {env env1 : Env} {ι : Type}
theorem turns_inv {f : PyData → List PyData → M (List PyData)} (I : List PyData → List PyData → Env → Prop)
    (step : ∀ x xs acc env, I (x :: xs) acc env → ∃ acc' env', f x acc env = .ok acc' env' ∧ I xs acc' env') :
    ∀ w acc env, I w acc env → ∃ acc' env', turns f w acc env = .ok acc' env' ∧ I [] acc' env'
  | [], acc, env, h => ⟨acc, env, rfl, h⟩
  | x :: xs, acc, env, h => by
    obtain ⟨a1, e1, h1, h2⟩ := step x xs acc env h
    obtain ⟨a2, e2, h3, h4⟩ := turns_inv I step xs a1 e1 h2
    exact ⟨a2, e2, bind_of h1 h3, h4⟩
/-- a comprehension that changes nothing but its own names -/
theorem ev_compP {e : E} {t : Tg} {s : Src} {c : T} (ws : List ι) (f : ι → PyData) (B : ι → Env) (P : ι → Bool) (F : ι → PyData)
    (hs : evS C s env = .ok (ws.map f) env1) (hn : inN t.vars env1 = true)
    (hb : ∀ k ∈ ws, bindT t (f k) (hide t.vars env1) = some (B k))
    (hh : ∀ k ∈ ws, hide t.vars (B k) = hide t.vars env1)
    (hu : ∀ k ∈ ws, unhide env1 t.vars (B k) = env1) (hu0 : unhide env1 t.vars env1 = env1)
    (hc : ∀ k ∈ ws, evT C c (B k) = .ok (P k) (B k))
    (he : ∀ k ∈ ws, P k = true → ∃ o, evO C e (B k) = .ok o (B k) ∧ tk o (B k) = .ok (F k) (B k))
    (hl : ws.length ≤ line) : evO C (.comp e t s c) env = .ok (.v (.ml ((ws.filter P).map F))) env1 := by
  have main : ∀ (vs : List ι) (acc : List PyData) (ev : Env), (∀ k ∈ vs, k ∈ ws) → acc.length + vs.length ≤ line → hide t.vars ev = hide t.vars env1 → unhide env1 t.vars ev = env1 →
      ∃ ev', turns (fun x acc => M.bind (getE fun env => bindT t x (hide t.vars env)) fun _ => M.bind (evT C c) fun k => match k with
      | true => M.bind (evO C e) fun y => M.bind (tk y) fun p => if acc.length < line then .pure (acc ++ [p]) else .no
      | false => .pure acc) (vs.map f) acc ev = .ok (acc ++ (vs.filter P).map F) ev' ∧ unhide env1 t.vars ev' = env1 := by
    intro vs
    induction vs with
    | nil => intro acc ev _ _ _ h; exact ⟨ev, by simp only [List.map_nil, List.filter_nil, List.append_nil]; rfl, h⟩
    | cons k vs ih =>
      intro acc ev hm hl hd hu1
      have hk := hm k List.mem_cons_self
      have hbk : getE (fun env => bindT t (f k) (hide t.vars env)) ev = .ok () (B k) := by
        unfold getE; simp only [hd, hb k hk]
      simp only [List.length_cons] at hl
      cases hp : P k with
      | true =>
        obtain ⟨o, h1, h2⟩ := he k hk hp
        obtain ⟨ev', h3, h4⟩ := ih (acc ++ [F k]) (B k) (fun k hk => hm k (List.mem_cons_of_mem _ hk)) (by simp only [List.length_append, List.length_singleton]; omega) (hh k hk) (hu k hk)
        refine ⟨ev', ?_, h4⟩
        rw [List.map_cons, turns, List.filter_cons_of_pos hp, List.map_cons]
        refine bind_of (a := acc ++ [F k]) (e1 := B k) (bind_of hbk (bind_of (hc k hk) ?_)) ?_
        · rw [hp]; exact bind_of h1 (bind_of h2 (by rw [if_pos (by omega)]; rfl))
        · rw [h3]; simp only [List.append_assoc, List.singleton_append]
      | false =>
        obtain ⟨ev', h3, h4⟩ := ih acc (B k) (fun k hk => hm k (List.mem_cons_of_mem _ hk)) (by omega) (hh k hk) (hu k hk)
        refine ⟨ev', ?_, h4⟩
        rw [List.map_cons, turns, List.filter_cons_of_neg (by simp [hp])]
        refine bind_of (a := acc) (e1 := B k) (bind_of hbk (bind_of (hc k hk) ?_)) h3
        rw [hp]; rfl
  obtain ⟨ev', h1, h2⟩ := main ws [] env1 (fun _ h => h) (by simpa using hl) rfl hu0
  rw [evO]
  refine bind_of hs ?_
  simp only [hn, if_true]
  refine Eq.trans (congrArg (fun r : R (List PyData) => (match r with
    | .ok acc env' => .ok (.v (.ml acc)) (unhide env1 t.vars env')
    | _ => .no : R O)) h1) ?_
  simp only [List.nil_append, h2]
/-- .. that keeps all -/
theorem ev_compM {e : E} {t : Tg} {s : Src} (ws : List ι) (f : ι → PyData) (B : ι → Env) (F : ι → PyData)
    (hs : evS C s env = .ok (ws.map f) env1) (hn : inN t.vars env1 = true)
    (hb : ∀ k ∈ ws, bindT t (f k) (hide t.vars env1) = some (B k))
    (hh : ∀ k ∈ ws, hide t.vars (B k) = hide t.vars env1)
    (hu : ∀ k ∈ ws, unhide env1 t.vars (B k) = env1) (hu0 : unhide env1 t.vars env1 = env1)
    (he : ∀ k ∈ ws, ∃ o, evO C e (B k) = .ok o (B k) ∧ tk o (B k) = .ok (F k) (B k))
    (hl : ws.length ≤ line) : evO C (.comp e t s (.e (.cst (.bool true)))) env = .ok (.v (.ml (ws.map F))) env1 := by
  have h := ev_compP (c := .e (.cst (.bool true))) ws f B (fun _ => true) F hs hn hb hh hu hu0 (fun k _ => et_e ev_cst rfl rfl) (fun k hk _ => he k hk) hl
  rwa [List.filter_eq_self.mpr (fun _ _ => rfl)] at h
/-- a loop -/
theorem loop_inv {t : Tg} {f : Env → RS} (I : List ι → Env → Prop) (Q : MV → Env → Prop) (g : ι → PyData)
    (step : ∀ k ks env, I (k :: ks) env → ∃ e, bindT t (g k) env = some e ∧ ((∃ e1, f e = .nx e1 ∧ I ks e1) ∨ ∃ m e1, f e = .ret m e1 ∧ Q m e1)) :
    ∀ ks env, I ks env → (∃ e, loop t f (ks.map g) env = .nx e ∧ I [] e) ∨ ∃ m e, loop t f (ks.map g) env = .ret m e ∧ Q m e
  | [], env, h => .inl ⟨env, rfl, h⟩
  | k :: ks, env, h => by
    obtain ⟨e, hb, h1⟩ := step k ks env h
    rcases h1 with ⟨e1, h2, h3⟩ | ⟨m, e1, h2, h3⟩
    · rcases loop_inv I Q g step ks e1 h3 with ⟨e2, h4, h5⟩ | ⟨m, e2, h4, h5⟩
      · exact .inl ⟨e2, by rw [List.map_cons, loop]; simp only [hb, h2]; exact h4, h5⟩
      · exact .inr ⟨m, e2, by rw [List.map_cons, loop]; simp only [hb, h2]; exact h4, h5⟩
    · exact .inr ⟨m, e1, by rw [List.map_cons, loop]; simp only [hb, h2], h3⟩
end
/-! sorting -/
section
variable {ι : Type}
def insF (lt : ι → ι → Bool) (d : ι) : List ι → List ι
  | [] => [d]
  | e :: r => if lt e d = true then e :: insF lt d r else d :: e :: r
def srtF (lt : ι → ι → Bool) : List ι → List ι
  | [] => []
  | d :: r => insF lt d (srtF lt r)
theorem ins_map {lt : ι → ι → Bool} {g : ι → PyData} (h : ∀ a b, ltD (g a) (g b) = lt a b) (d : ι) : ∀ r : List ι, insD (g d) (r.map g) = (insF lt d r).map g
  | [] => rfl
  | e :: r => by
    rw [List.map_cons, insD, insF, h]
    cases lt e d with
    | true => simp only [if_true, List.map_cons, ins_map h d r]
    | false => simp
theorem srt_map {lt : ι → ι → Bool} {g : ι → PyData} (h : ∀ a b, ltD (g a) (g b) = lt a b) : ∀ r : List ι, sortL (r.map g) = (srtF lt r).map g
  | [] => rfl
  | d :: r => by rw [List.map_cons, sortL, srt_map h r, ins_map h, srtF]
theorem mem_ins {lt : ι → ι → Bool} {d x : ι} : ∀ {r : List ι}, x ∈ insF lt d r → x = d ∨ x ∈ r
  | [], h => by simp [insF] at h; exact .inl h
  | e :: r, h => by
    rw [insF] at h
    cases hl : lt e d with
    | true =>
      simp only [hl, if_true] at h
      rcases List.mem_cons.mp h with h | h
      · exact .inr (h ▸ List.mem_cons_self)
      · rcases mem_ins h with h | h
        · exact .inl h
        · exact .inr (List.mem_cons_of_mem _ h)
    | false =>
      simp only [hl, Bool.false_eq_true, if_false] at h
      exact List.mem_cons.mp h
theorem mem_srt {lt : ι → ι → Bool} {x : ι} : ∀ {r : List ι}, x ∈ srtF lt r → x ∈ r
  | [], h => by simp [srtF] at h
  | d :: r, h => by
    rw [srtF] at h
    rcases mem_ins h with h | h
    · exact h ▸ List.mem_cons_self
    · exact List.mem_cons_of_mem _ (mem_srt h)
theorem len_ins {lt : ι → ι → Bool} {d : ι} : ∀ {r : List ι}, (insF lt d r).length = r.length + 1
  | [] => rfl
  | e :: r => by
    rw [insF]
    cases hl : lt e d with
    | true => simp only [if_true, List.length_cons, len_ins]
    | false => simp
theorem len_srt {lt : ι → ι → Bool} : ∀ {r : List ι}, (srtF lt r).length = r.length
  | [] => rfl
  | d :: r => by rw [srtF, len_ins, len_srt, List.length_cons]
def ltI (a b : Int) : Bool := decide (a < b)
theorem ltD_int (a b : Int) : ltD (.int a) (.int b) = ltI a b := by rw [ltD]; rfl
/-- pairs of ints -/
def g2 (p : Int × Nat) : PyData := .tuple [.int p.1, .int p.2]
def lt2 (a b : Int × Nat) : Bool := if a.1 = b.1 then decide (a.2 < b.2) else decide (a.1 < b.1)
theorem ltD_g2 (a b : Int × Nat) : ltD (g2 a) (g2 b) = lt2 a b := by
  unfold g2 lt2
  rw [ltD, ltL]
  have e1 : PyData.eqv (.int a.1) (.int b.1) = decide (a.1 = b.1) := by simp only [PyData.eqv]; by_cases h : a.1 = b.1 <;> simp [h]
  have e2 : PyData.eqv (.int (a.2 : Int)) (.int (b.2 : Int)) = decide (a.2 = b.2) := by
    simp only [PyData.eqv]
    by_cases h : a.2 = b.2
    · simp [h]
    · have h' : ¬ ((a.2 : Int) = b.2) := by omega
      simp [h, h']
  rw [e1]
  by_cases h : a.1 = b.1
  · simp only [h, decide_true, if_true]
    rw [ltL, e2]
    by_cases h2 : a.2 = b.2
    · simp [h2, ltL]
    · simp only [h2, decide_false, Bool.false_eq_true, if_false]
      rw [ltD]; simp
  · simp only [h, decide_false, Bool.false_eq_true, if_false]
    rw [ltD]
theorem sortOk_int (r : List Int) : sortOk (r.map PyData.int) = true := by
  cases r with
  | nil => rfl
  | cons d r =>
    show (((notE (.int d) && sameSh (.int d) (.int d)) && decide ((PyData.int d).depth ≤ 60) && (r.map PyData.int).all fun e => sameSh (.int d) e) || _) = true
    have : (r.map PyData.int).all (fun e => sameSh (.int d) e) = true := by
      rw [List.all_map]; exact List.all_eq_true.mpr fun x _ => by simp [sameSh]
    rw [this]
    simp [notE, sameSh, PyData.depth]
theorem sortOk_g2 (r : List (Int × Nat)) : sortOk (r.map g2) = true := by
  cases r with
  | nil => rfl
  | cons d r =>
    show (((notE (g2 d) && sameSh (g2 d) (g2 d)) && decide ((g2 d).depth ≤ 60) && (r.map g2).all fun e => sameSh (g2 d) e) || _) = true
    have : (r.map g2).all (fun e => sameSh (g2 d) e) = true := by
      rw [List.all_map]; exact List.all_eq_true.mpr fun x _ => by simp [g2, sameSh, sameShL]
    rw [this]
    simp [notE, g2, sameSh, sameShL, PyData.depth, PyData.depthAll]
end
end PD.Q
end
section
set_option linter.all false
set_option maxRecDepth 100000
set_option maxHeartbeats 0
/-! _law_alike of a thing and itself -/
namespace PD.Q
open PySem
local macro_rules | `(tactic| walk_at "dec") => `(tactic| first | rfl | assumption | exact decide_eq_true (by assumption) | exact decide_eq_false (by assumption) | (simp only [*, decide_true, decide_false, decide_eq_true_eq, decide_eq_false_iff_not]; done) | (simp [PyData.eqv, *]; done) | (simp [PyData.eqv]; omega) | (apply decide_eq_true; omega) | (apply decide_eq_false; omega) | fail "stuck")
local macro_rules | `(tactic| walk_at "side") => `(tactic| first | rfl | exact bo_mulR (by decide) | exact bo_mulL (by decide) | exact bo_mulL (small_emod (by decide) (by decide)) | exact bo_mod (by first | assumption | omega) | exact bo_fdiv (by first | assumption | omega) (by first | assumption | omega) | assumption | fail "stuck")
local macro_rules | `(tactic| walk_at "ev") => `(tactic| first
  | exact ev_cst
  | exact ev_fn
  | exact ev_var rfl
  | exact el_nil
  | exact ev_dct0
  | (refine' el_cons ?a ?b; (case a => walk_at "ev"); (case b => walk_at "ev"))
  | (refine' ev_bin ?a ?b ?c ?d ?e; (case a => walk_at "ev"); (case b => walk_at "ev"); (case c => rfl); (case d => rfl); (case e => walk_at "side"))
  | (refine' ev_cmp ?a ?b ?c ?d ?e; (case a => walk_at "ev"); (case b => walk_at "ev"); (case c => rfl); (case d => rfl); (case e => walk_at "side"))
  | (refine' ev_sub ?a ?b ?c ?d ?e; (case a => walk_at "ev"); (case b => walk_at "ev"); (case c => rfl); (case d => rfl); (case e => walk_at "side"))
  | (refine' ev_lst ?a ?b ?c; (case a => walk_at "ev"); (case b => rfl); (case c => exact Nat.le_of_ble_eq_true rfl))
  | (refine' ev_tup ?a ?b ?c; (case a => walk_at "ev"); (case b => rfl); (case c => exact Nat.le_of_ble_eq_true rfl))
  | (refine' ev_bi ?a ?b ?c; (case a => walk_at "ev"); (case b => rfl); (case c => walk_at "side"))
  | (refine' ev_neg ?a ?b; (case a => walk_at "ev"); (case b => rfl))
  | (refine' ev_nt ?a ?b ?c; (case a => walk_at "ev"); (case b => rfl); (case c => rfl))
  | (refine' ev_slA ?a ?b ?c; (case a => walk_at "ev"); (case b => rfl); (case c => rfl))
  | (refine' ev_slF ?a ?b ?c ?d ?e; (case a => walk_at "ev"); (case b => walk_at "ev"); (case c => rfl); (case d => rfl); (case e => rfl))
  | (refine' ev_slT ?a ?b ?c ?d ?e; (case a => walk_at "ev"); (case b => walk_at "ev"); (case c => rfl); (case d => rfl); (case e => rfl))
  | (refine' ev_isi ?a ?b ?c; (case a => walk_at "ev"); (case b => rfl); (case c => rfl))
  | (refine' ev_call ?a ?b; (case a => walk_at "ev"); (case b => walk_at "call"))
  | (refine' et_e ?a ?b ?c; (case a => walk_at "ev"); (case b => rfl); (case c => rfl))
  | (refine' et_nt ?a; (case a => walk_at "ev"))
  | (refine' et_anT (evT_to ?a ?b) ?c; (case a => walk_at "ev"); (case b => walk_at "dec"); (case c => walk_at "ev"))
  | (refine' et_anF (evT_to ?a ?b); (case a => walk_at "ev"); (case b => walk_at "dec"))
  | (refine' et_orT (evT_to ?a ?b); (case a => walk_at "ev"); (case b => walk_at "dec"))
  | (refine' et_orF (evT_to ?a ?b) ?c; (case a => walk_at "ev"); (case b => walk_at "dec"); (case c => walk_at "ev"))
  | (refine' ev_iteT (evT_to ?a ?b) ?c; (case a => walk_at "ev"); (case b => walk_at "dec"); (case c => walk_at "ev"))
  | (refine' ev_iteF (evT_to ?a ?b) ?c; (case a => walk_at "ev"); (case b => walk_at "dec"); (case c => walk_at "ev"))
  | (refine' es_sq ?a ?b; (case a => walk_at "ev"); (case b => rfl))
  | (refine' es_rng ?a ?b ?c; (case a => walk_at "ev"); (case b => rfl); (case c => rfl))
  | (refine' es_zip ?a ?b ?c; (case a => walk_at "ev"); (case b => rfl); (case c => rfl))
  | (refine' es_enm ?a ?b; (case a => walk_at "ev"); (case b => rfl)) | fail "stuck")
local macro_rules | `(tactic| walk_at "s1") => `(tactic| first
  | (refine' st_set' ?a ?b ?c; (case a => walk_at "ev"); (case b => rfl); (case c => exact Nat.le_of_ble_eq_true rfl))
  | (refine' st_par' ?a ?b ?c; (case a => walk_at "ev"); (case b => rfl); (case c => rfl))
  | (refine' st_unp' ?a ?b ?c; (case a => walk_at "ev"); (case b => rfl); (case c => rfl))
  | (refine' st_ssb' ?a ?b ?c ?d ?e ?f ?g; (case a => walk_at "ev"); (case b => walk_at "ev"); (case c => walk_at "ev"); (case d => rfl); (case e => rfl); (case f => rfl); (case g => walk_at "side"))
  | (refine' st_aug' ?a ?b ?c ?d ?e ?f; (case a => walk_at "ev"); (case b => walk_at "ev"); (case c => rfl); (case d => rfl); (case e => rfl); (case f => exact Nat.le_of_ble_eq_true rfl))
  | (refine' st_asb' ?a ?b ?c ?d ?e ?f ?g ?h ?i ?j; (case a => walk_at "ev"); (case b => walk_at "ev"); (case c => rfl); (case d => rfl); (case e => walk_at "side"); (case f => walk_at "ev"); (case g => rfl); (case h => rfl); (case i => rfl); (case j => walk_at "side"))
  | (refine' st_retV ?a; (case a => walk_at "ev"))
  | (refine' st_retR ?a ?b; (case a => walk_at "ev"); (case b => rfl))
  | (refine' st_ex ?a; (case a => walk_at "ev"))
  | (refine' st_iffT (evT_to ?a ?b) ?c; (case a => walk_at "ev"); (case b => walk_at "dec"); (case c => walk_at "st"))
  | (refine' st_iffF (evT_to ?a ?b) ?c; (case a => walk_at "ev"); (case b => walk_at "dec"); (case c => walk_at "st")) | fail "stuck")
local macro_rules | `(tactic| walk_at "st") => `(tactic| first
  | exact sl_nil
  | (refine' sl_ret ?a; (case a => walk_at "s1"))
  | (refine' sl_cons ?a ?b; (case a => walk_at "s1"); (case b => walk_at "st")) | fail "stuck")
def A_alike : FDef := ⟨2, 6, none, (.cons (.par [2, 3] (.cons (.lst (.cons (.tup (.cons (.var 0) (.cons (.var 1) .nil))) .nil)) (.cons (.cst (.int 0)) .nil)))
    (.cons (.whl (.e (.cmp .lt (.var 3) (.bi .len (.cons (.var 2) .nil)))) (.cons (.unp (.t (.cons (.n 4) (.cons (.n 5) .nil))) (.sub (.var 2) (.var 3)))
    (.cons (.aug .add 3 (.cst (.int 1)))
    (.cons (.iff (.or (.e (.cmp .ne (.isi (.var 4) [.bool]) (.isi (.var 5) [.bool]))) (.e (.cmp .ne (.isi (.var 4) [.str]) (.isi (.var 5) [.str])))) (.cons (.ret (.cst (.bool false)))
    .nil) .nil)
    (.cons (.iff (.e (.cmp .ne (.isi (.var 4) [.tuple, .list]) (.isi (.var 5) [.tuple, .list]))) (.cons (.ret (.cst (.bool false)))
    .nil) .nil)
    (.cons (.iff (.e (.isi (.var 4) [.tuple, .list])) (.cons (.iff (.or (.e (.cmp .ne (.isi (.var 4) [.tuple]) (.isi (.var 5) [.tuple]))) (.e (.cmp .ne (.bi .len (.cons (.var 4) .nil)) (.bi .len (.cons (.var 5) .nil))))) (.cons (.ret (.cst (.bool false)))
    .nil) .nil)
    (.cons (.ex (.mu .extend 2 (.cons (.src .list (.zip (.cons (.var 4) (.cons (.var 5) .nil)))) .nil)))
    .nil)) (.cons (.iff (.e (.cmp .ne (.var 4) (.var 5))) (.cons (.ret (.cst (.bool false)))
    .nil) .nil)
    .nil))
    .nil))))))
    (.cons (.ret (.cst (.bool true)))
    .nil)))⟩
abbrev bAlike : SL := (.cons (.unp (.t (.cons (.n 4) (.cons (.n 5) .nil))) (.sub (.var 2) (.var 3)))
    (.cons (.aug .add 3 (.cst (.int 1)))
    (.cons (.iff (.or (.e (.cmp .ne (.isi (.var 4) [.bool]) (.isi (.var 5) [.bool]))) (.e (.cmp .ne (.isi (.var 4) [.str]) (.isi (.var 5) [.str])))) (.cons (.ret (.cst (.bool false)))
    .nil) .nil)
    (.cons (.iff (.e (.cmp .ne (.isi (.var 4) [.tuple, .list]) (.isi (.var 5) [.tuple, .list]))) (.cons (.ret (.cst (.bool false)))
    .nil) .nil)
    (.cons (.iff (.e (.isi (.var 4) [.tuple, .list])) (.cons (.iff (.or (.e (.cmp .ne (.isi (.var 4) [.tuple]) (.isi (.var 5) [.tuple]))) (.e (.cmp .ne (.bi .len (.cons (.var 4) .nil)) (.bi .len (.cons (.var 5) .nil))))) (.cons (.ret (.cst (.bool false)))
    .nil) .nil)
    (.cons (.ex (.mu .extend 2 (.cons (.src .list (.zip (.cons (.var 4) (.cons (.var 5) .nil)))) .nil)))
    .nil)) (.cons (.iff (.e (.cmp .ne (.var 4) (.var 5))) (.cons (.ret (.cst (.bool false)))
    .nil) .nil)
    .nil))
    .nil)))))
def isSq (x : PyData) : Bool := [TY.tuple, TY.list].any fun t => isTy t (tkD x)
inductive Nice : PyData → Prop where
  | flat {x : PyData} (h : eqD x x = some true) (h2 : isSq x = false) : Nice x
  | tup {xs : List PyData} (h : ∀ x ∈ xs, Nice x) : Nice (.tuple xs)
  | lst {xs : List PyData} (h : ∀ x ∈ xs, Nice x) : Nice (.list xs)
mutual
def sz : PyData → Nat
  | .list xs => szL xs + 1
  | .tuple xs => szL xs + 1
  | _ => 1
def szL : List PyData → Nat
  | [] => 0
  | x :: xs => sz x + szL xs
end
theorem sz_pos (x : PyData) : 0 < sz x := by cases x <;> simp [sz]
theorem len_szL : ∀ xs : List PyData, xs.length ≤ szL xs
  | [] => Nat.le_refl _
  | x :: xs => by
    have h := len_szL xs
    have h2 := sz_pos x
    rw [List.length_cons, szL]; omega
def pairM : PyData → Nat
  | .tuple (x :: _) => sz x
  | _ => 0
def dbl (x : PyData) : PyData := .tuple [x, x]
theorem zip_dbl : ∀ xs : List PyData, zip2 xs xs = xs.map dbl
  | [] => rfl
  | x :: xs => by
    show PyData.tuple [x, x] :: zip2 xs xs = _
    rw [zip_dbl xs]; rfl
theorem size_sum : ∀ xs : List PyData, ((xs.map dbl).map pairM).sum = szL xs
  | [] => rfl
  | x :: xs => by
    rw [List.map_cons, List.map_cons, List.sum_cons, size_sum xs, szL]; rfl
theorem ne_bool (b : Bool) : cmpD .ne (.bool b) (.bool b) = some false := by cases b <;> rfl
theorem eq_int (b : Int) : eqD (.int b) (.int b) = some true := by
  unfold eqD
  simp [SeqAt.shaped, PyData.canLay0, PyData.depth, PyData.eqv]
theorem ne_int (b : Int) : cmpD .ne (.int b) (.int b) = some false := by
  show (eqD (.int b) (.int b)).map not = some false
  unfold eqD
  simp [SeqAt.shaped, PyData.canLay0, PyData.depth, PyData.eqv]
abbrev envA (a b : Option MV) (ps : List PyData) (k : Nat) (x y : Option MV) : Env := [a, b, some (.ml ps), some (.d (.int (k : Int))), x, y]
theorem alike_step (C : Nat → Callee) {a b x y : Option MV} {ps : List PyData} {k : Nat} {d : PyData} (hk : ps[k]? = some (dbl d)) (hn : Nice d) (hl : ps.length + sz d ≤ line) :
    ∃ qs, (∀ q ∈ qs, ∃ e, q = dbl e ∧ Nice e) ∧ (qs.map pairM).sum < sz d ∧ qs.length < sz d ∧ exL C bAlike (envA a b ps k x y) = .nx (envA a b (ps ++ qs) (k + 1) (some (.d d)) (some (.d d))) := by
  have h1 : item (.list ps) (.int (k : Int)) = some (dbl d) := by
    have hk' : k < ps.length := (List.getElem?_eq_some_iff.mp hk).1
    show (match ix ps.length (k : Int) with
      | some k => ps[k]?
      | none => none) = _
    have : ix ps.length (k : Int) = some k := by
      show L2.ixN ps.length (k : Int) = some k
      unfold L2.ixN
      rw [if_pos (by omega), if_pos (by omega), Int.toNat_natCast]
    rw [this]; exact hk
  have hs1 : exS C (.unp (.t (.cons (.n 4) (.cons (.n 5) .nil))) (.sub (.var 2) (.var 3))) (envA a b ps k x y) = .nx (envA a b ps k (some (.d d)) (some (.d d))) :=
    st_unp' (ev_sub (ev_var rfl) (ev_var rfl) rfl rfl h1) rfl rfl
  have hs2 : exS C (.aug .add 3 (.cst (.int 1))) (envA a b ps k (some (.d d)) (some (.d d))) = .nx (envA a b ps (k + 1) (some (.d d)) (some (.d d))) :=
    st_aug' (k := ((k + 1 : Nat) : Int)) (e4 := envA a b ps k (some (.d d)) (some (.d d))) (p := .int (k : Int)) (q := .int 1) (ev_var rfl) ev_cst rfl rfl rfl (Nat.le_of_ble_eq_true rfl)
  have isi4 : ∀ ts, evO C (.isi (.var 4) ts) (envA a b ps (k + 1) (some (.d d)) (some (.d d))) = .ok (.v (.d (.bool (ts.any fun t => isTy t (tkD d))))) (envA a b ps (k + 1) (some (.d d)) (some (.d d))) := fun ts => ev_isi (ev_var rfl) rfl rfl
  have isi5 : ∀ ts, evO C (.isi (.var 5) ts) (envA a b ps (k + 1) (some (.d d)) (some (.d d))) = .ok (.v (.d (.bool (ts.any fun t => isTy t (tkD d))))) (envA a b ps (k + 1) (some (.d d)) (some (.d d))) := fun ts => ev_isi (ev_var rfl) rfl rfl
  have ne45 : ∀ ts, evT C (.e (.cmp .ne (.isi (.var 4) ts) (.isi (.var 5) ts))) (envA a b ps (k + 1) (some (.d d)) (some (.d d))) = .ok false (envA a b ps (k + 1) (some (.d d)) (some (.d d))) := fun ts => et_e (ev_cmp (isi4 ts) (isi5 ts) rfl rfl (ne_bool _)) rfl rfl
  have hs3 := fun A => st_iffF (a := A) (et_orF (ne45 [.bool]) (ne45 [.str])) (sl_nil (C := C))
  have hs4 := fun A => st_iffF (a := A) (ne45 [.tuple, .list]) (sl_nil (C := C))
  have seq : ∀ xs, ((d = .tuple xs) ∨ (d = .list xs)) → (∀ x ∈ xs, Nice x) → ∃ qs, (∀ q ∈ qs, ∃ e, q = dbl e ∧ Nice e) ∧ (qs.map pairM).sum < sz d ∧ qs.length < sz d ∧ exL C bAlike (envA a b ps k x y) = .nx (envA a b (ps ++ qs) (k + 1) (some (.d d)) (some (.d d))) := by
    intro xs hd hx
    have hsz : szL xs < sz d := by rcases hd with rfl | rfl <;> simp [sz]
    have hss := size_sum xs
    have hsl := len_szL xs
    refine ⟨xs.map dbl, fun q hq => ?_, by omega, by rw [List.length_map]; omega, ?_⟩
    · obtain ⟨e, he, rfl⟩ := List.mem_map.mp hq
      exact ⟨e, rfl, hx e he⟩
    have hsq : ([TY.tuple, TY.list].any fun t => isTy t (tkD d)) = true := by rcases hd with rfl | rfl <;> rfl
    have hc : evT C (.e (.isi (.var 4) [.tuple, .list])) (envA a b ps (k + 1) (some (.d d)) (some (.d d))) = .ok true (envA a b ps (k + 1) (some (.d d)) (some (.d d))) := et_e (isi4 _) rfl (by rw [hsq]; rfl)
    have hlen : builtin .len [d] = some (.d (.int xs.length)) := by rcases hd with rfl | rfl <;> rfl
    have hne : evT C (.e (.cmp .ne (.bi .len (.cons (.var 4) .nil)) (.bi .len (.cons (.var 5) .nil)))) (envA a b ps (k + 1) (some (.d d)) (some (.d d))) = .ok false (envA a b ps (k + 1) (some (.d d)) (some (.d d))) :=
      et_e (ev_cmp (ev_bi (el_cons (ev_var rfl) el_nil) rfl hlen) (ev_bi (el_cons (ev_var rfl) el_nil) rfl hlen) rfl rfl (ne_int _)) rfl rfl
    have hwalk4 : walkD (.r 4) (envA a b ps (k + 1) (some (.d d)) (some (.d d))) = .ok xs (envA a b ps (k + 1) (some (.d d)) (some (.d d))) := by rcases hd with rfl | rfl <;> rfl
    have hwalk5 : walkD (.r 5) (envA a b ps (k + 1) (some (.d d)) (some (.d d))) = .ok xs (envA a b ps (k + 1) (some (.d d)) (some (.d d))) := by rcases hd with rfl | rfl <;> rfl
    have hzip : evO C (.src .list (.zip (.cons (.var 4) (.cons (.var 5) .nil)))) (envA a b ps (k + 1) (some (.d d)) (some (.d d))) = .ok (.v (.ml (xs.map dbl))) (envA a b ps (k + 1) (some (.d d)) (some (.d d))) := by
      refine ev_src (es_zip (el_cons (ev_var rfl) (el_cons (ev_var rfl) el_nil)) hwalk4 hwalk5) ?_
      rw [zip_dbl]
      show (if (xs.map dbl).length ≤ line then _ else _) = _
      rw [if_pos (by rw [List.length_map]; omega)]
    have hext : mutm .extend (.ml ps) [.list (xs.map dbl)] = some (ps ++ xs.map dbl, .none) := by
      show (if ps.length + (xs.map dbl).length ≤ line then _ else _) = _
      rw [if_pos (by rw [List.length_map]; omega)]
    refine sl_cons hs1 (sl_cons hs2 (sl_cons (hs3 _) (sl_cons (hs4 _) (sl_cons (st_iffT hc ?_) sl_nil))))
    refine sl_cons (st_iffF (et_orF (ne45 [.tuple]) hne) sl_nil) (sl_cons (st_ex (ev_mu rfl (el_cons hzip el_nil) rfl rfl hext)) sl_nil)
  cases hn with
  | tup hx => exact seq _ (.inl rfl) hx
  | lst hx => exact seq _ (.inr rfl) hx
  | flat he hsq =>
    refine ⟨[], (fun q hq => absurd hq List.not_mem_nil), sz_pos d, sz_pos d, ?_⟩
    have hc : evT C (.e (.isi (.var 4) [.tuple, .list])) (envA a b ps (k + 1) (some (.d d)) (some (.d d))) = .ok false (envA a b ps (k + 1) (some (.d d)) (some (.d d))) := et_e (isi4 _) rfl (by show some (isSq d) = _; rw [hsq])
    have hne : evT C (.e (.cmp .ne (.var 4) (.var 5))) (envA a b ps (k + 1) (some (.d d)) (some (.d d))) = .ok false (envA a b ps (k + 1) (some (.d d)) (some (.d d))) :=
      et_e (ev_cmp (ev_var rfl) (ev_var rfl) rfl rfl (by show (eqD d d).map not = _; rw [he]; rfl)) rfl rfl
    rw [List.append_nil]
    exact sl_cons hs1 (sl_cons hs2 (sl_cons (hs3 _) (sl_cons (hs4 _) (sl_cons (st_iffF hc (sl_cons (st_iffF hne sl_nil) sl_nil)) sl_nil))))
theorem alike_loop (C : Nat → Callee) {a b : Option MV} : ∀ (n N : Nat) (ps : List PyData) (k : Nat) (x y : Option MV), (∀ q ∈ ps.drop k, ∃ e, q = dbl e ∧ Nice e) → ((ps.drop k).map pairM).sum ≤ n → n < N → k ≤ ps.length → ps.length + n * n + n + n ≤ line →
    ∃ e, wloop (evT C (.e (.cmp .lt (.var 3) (.bi .len (.cons (.var 2) .nil))))) (exL C bAlike) N (envA a b ps k x y) = .nx e := by
  have stop : ∀ (N : Nat) (ps : List PyData) (k : Nat) (x y : Option MV), ps.drop k = [] → k ≤ ps.length → 0 < N → ∃ e, wloop (evT C (.e (.cmp .lt (.var 3) (.bi .len (.cons (.var 2) .nil))))) (exL C bAlike) N (envA a b ps k x y) = .nx e := by
    intro N ps k x y hd hk hN
    obtain ⟨N, rfl⟩ : ∃ M, N = M + 1 := ⟨N - 1, by omega⟩
    have hlen : ps.length ≤ k := List.drop_eq_nil_iff.mp hd
    have hc : evT C (.e (.cmp .lt (.var 3) (.bi .len (.cons (.var 2) .nil)))) (envA a b ps k x y) = .ok (decide ((k : Int) < (ps.length : Int))) (envA a b ps k x y) :=
      et_e (ev_cmp (ev_var rfl) (ev_bi (el_cons (ev_var rfl) el_nil) rfl rfl) rfl rfl rfl) rfl rfl
    rw [decide_eq_false (by omega)] at hc
    exact ⟨envA a b ps k x y, by rw [wloop]; simp only [hc]⟩
  intro n
  induction n with
  | zero =>
    intro N ps k x y hq hm hN hk hl
    cases hd : ps.drop k with
    | nil => exact stop N ps k x y hd hk hN
    | cons q r =>
      obtain ⟨e, rfl, he⟩ := hq q (by rw [hd]; exact List.mem_cons_self)
      rw [hd, List.map_cons, List.sum_cons] at hm
      have : 0 < sz e := sz_pos e
      have : pairM (dbl e) = sz e := rfl
      omega
  | succ n ih =>
    intro N ps k x y hq hm hN hk hl
    cases hd : ps.drop k with
    | nil => exact stop N ps k x y hd hk (by omega)
    | cons q r =>
      obtain ⟨e, rfl, he⟩ := hq q (by rw [hd]; exact List.mem_cons_self)
      have hkl : k < ps.length := by
        apply Nat.lt_of_not_le; intro hn; rw [List.drop_eq_nil_of_le hn] at hd; cases hd
      have hke : ps[k]? = some (dbl e) := by
        have := congrArg (·[0]?) hd
        simpa using this
      have hr : ps.drop (k + 1) = r := by
        have := congrArg List.tail hd
        rwa [List.tail_drop, List.tail_cons] at this
      rw [hd, List.map_cons, List.sum_cons] at hm
      have hpe : pairM (dbl e) = sz e := rfl
      rw [hpe] at hm
      have hnn : (n + 1) * (n + 1) = n * n + n + n + 1 := by simp only [Nat.add_mul, Nat.mul_add]; omega
      obtain ⟨qs, g1, g2, g3, g4⟩ := alike_step C (a := a) (b := b) (x := x) (y := y) hke he (by omega)
      obtain ⟨M, rfl⟩ : ∃ M, N = M + 1 := ⟨N - 1, by omega⟩
      have hc : evT C (.e (.cmp .lt (.var 3) (.bi .len (.cons (.var 2) .nil)))) (envA a b ps k x y) = .ok (decide ((k : Int) < (ps.length : Int))) (envA a b ps k x y) :=
        et_e (ev_cmp (ev_var rfl) (ev_bi (el_cons (ev_var rfl) el_nil) rfl rfl) rfl rfl rfl) rfl rfl
      rw [decide_eq_true (by omega)] at hc
      have hdr : (ps ++ qs).drop (k + 1) = r ++ qs := by rw [List.drop_append_of_le_length (by omega), hr]
      obtain ⟨e', h'⟩ := ih M (ps ++ qs) (k + 1) (some (.d e)) (some (.d e)) (by
        intro q' hq'
        rw [hdr] at hq'
        rcases List.mem_append.mp hq' with h | h
        · exact hq q' (by rw [hd]; exact List.mem_cons_of_mem _ h)
        · exact g1 q' h) (by rw [hdr, List.map_append, List.sum_append]; omega) (by omega) (by rw [List.length_append]; omega) (by rw [List.length_append]; omega)
      exact ⟨e', by rw [wloop]; simp only [hc, g4]; exact h'⟩
theorem run_alike (C : Nat → Callee) {d : PyData} (hn : Nice d) (hs : sz d ≤ 4000) : runDef C A_alike [.d d, .d d] = .ok (.d (.bool true)) none := by
  have hk : sz d * sz d ≤ 4000 * 4000 := Nat.mul_le_mul hs hs
  obtain ⟨e, he⟩ := alike_loop C (a := some (.d d)) (b := some (.d d)) (sz d) turnsMax [dbl d] 0 none none (by
    intro q hq
    exact ⟨d, List.mem_singleton.mp hq, hn⟩) (by show sz d + 0 ≤ _; omega) (by unfold turnsMax; omega) (Nat.zero_le _) (by simp only [List.length_singleton, line]; omega)
  refine run_0 (e := e) rfl rfl (sl_cons (e1 := envA (some (.d d)) (some (.d d)) [dbl d] 0 none none) ?_ (sl_cons (e1 := e) ?_ (sl_ret (st_retV ev_cst))))
  · exact st_par' (el_cons (ev_lst (el_cons (ev_tup (el_cons (ev_var rfl) (el_cons (ev_var rfl) el_nil)) rfl (Nat.le_of_ble_eq_true rfl)) el_nil) rfl (Nat.le_of_ble_eq_true rfl)) (el_cons ev_cst el_nil)) rfl rfl
  · rw [exS]; exact he
theorem nice_int (b : Int) : Nice (.int b) := .flat (eq_int b) rfl
theorem nice_bool (b : Bool) : Nice (.bool b) := .flat (by cases b <;> rfl) rfl
theorem nice_none : Nice .none := .flat rfl rfl
theorem sz_ints : ∀ xs : List Int, szL (xs.map .int) = xs.length
  | [] => rfl
  | x :: xs => by rw [List.map_cons, szL, sz_ints xs, List.length_cons]; simp [sz]; omega
/-! what can be compared -/
def Sh (n : Nat) (d : PyData) : Prop := d.canLay0 = true ∧ d.depth ≤ n
theorem sh_int (n : Nat) (i : Int) : Sh n (.int i) := ⟨by simp [PyData.canLay0], by simp [PyData.depth]⟩
theorem sh_all {n : Nat} : ∀ {xs : List PyData}, (∀ x ∈ xs, Sh n x) → PyData.canLayAll0 xs = true ∧ PyData.depthAll xs ≤ n
  | [], _ => ⟨by simp [PyData.canLayAll0], by simp [PyData.depthAll]⟩
  | x :: xs, h => by
    obtain ⟨h1, h2⟩ := sh_all fun y hy => h y (List.mem_cons_of_mem _ hy)
    obtain ⟨h3, h4⟩ := h x List.mem_cons_self
    exact ⟨by simp [PyData.canLayAll0, h1, h3], by simp [PyData.depthAll]; omega⟩
theorem sh_tup {n : Nat} {xs : List PyData} (h : ∀ x ∈ xs, Sh n x) : Sh (n + 1) (.tuple xs) := by
  obtain ⟨h1, h2⟩ := sh_all h
  exact ⟨by simp [PyData.canLay0, h1], by simp [PyData.depth]; omega⟩
theorem sh_lst {n : Nat} {xs : List PyData} (h : ∀ x ∈ xs, Sh n x) : Sh (n + 1) (.list xs) := by
  obtain ⟨h1, h2⟩ := sh_all h
  exact ⟨by simp [PyData.canLay0, h1], by simp [PyData.depth]; omega⟩
theorem sh_ok {n : Nat} {d : PyData} (h : Sh n d) (hn : n ≤ 64) : SeqAt.shaped d = true := by
  unfold SeqAt.shaped
  rw [h.1, Bool.true_and]; exact decide_eq_true (by have := h.2; omega)
theorem eq_nil {xs : List PyData} (h : SeqAt.shaped (.list xs) = true) : eqD (.list xs) (.list []) = some xs.isEmpty := by
  unfold eqD
  have h2 : SeqAt.shaped (.list []) = true := rfl
  rw [if_pos ⟨h, h2⟩]
  cases xs <;> rfl
end PD.Q
end
section
set_option linter.all false
set_option maxRecDepth 100000
set_option maxHeartbeats 400000
/-! k30: cards -/
namespace PD.Q
open PySem
local macro_rules | `(tactic| walk_at "le") => `(tactic| first | exact Nat.le_of_ble_eq_true rfl | exact Nat.lt_of_lt_of_le (Nat.le_of_ble_eq_true rfl) (Nat.le_refl _) | (with_reducible assumption) | (simp only [line, List.length_map, List.length_append, List.length_cons, List.length_nil, List.length_set] at *; omega) | fail "stuck")
local macro_rules | `(tactic| walk_at "op") => `(tactic| first | (with_reducible assumption) | rfl | exact bo_mulR (by decide) | exact bo_mulL (by decide) | exact bo_mod (by first | decide | (with_reducible assumption) | omega) | exact bo_fdiv (by first | decide | (with_reducible assumption) | omega) (by first | decide | (with_reducible assumption) | omega) | (with_reducible assumption) | fail "stuck")
local macro_rules | `(tactic| walk_at "cmp") => `(tactic| first | exact cmp_eqI | exact cmp_neI | exact cmp_eqB | exact cmp_neB | exact cmp_eqS (by decide +kernel) (by decide +kernel) | exact cmp_neS (by decide +kernel) (by decide +kernel) | rfl | (with_reducible assumption) | fail "stuck")
local macro_rules | `(tactic| walk_at "call") => `(tactic| first | (with_reducible assumption) | fail "stuck")
local macro_rules | `(tactic| walk_at "tt") => `(tactic| first | (with_reducible assumption) | rfl | exact truth_decide | (with_reducible assumption) | fail "stuck")
local macro_rules | `(tactic| walk_at "bi") => `(tactic| first | (with_reducible assumption) | exact mu_append (by walk_at "le") | exact mu_extend (by walk_at "le") | rfl | fail "stuck")
local macro_rules | `(tactic| walk_at "dec") => `(tactic| (intro hh; first | (with_reducible exact absurd hh Bool.false_ne_true) | (with_reducible exact absurd hh.symm Bool.false_ne_true) | (exact absurd hh (by decide +kernel)) | ((with_reducible replace hh := of_decide_eq_true hh); first | (with_reducible contradiction) | skip) | ((with_reducible replace hh := of_decide_eq_false hh); first | (with_reducible contradiction) | skip) | skip))
local macro_rules | `(tactic| walk_at "w1") => `(tactic| first
  | (with_reducible refine' we_cst ?_) | ((with_reducible refine' we_var ?g1 ?g2); (case g1 => exact rfl))
  | (with_reducible refine' we_bin ?_) | ((with_reducible refine' kBin_i ?g1 ?g2 ?g3 ?g4); (case g1 => exact rfl); (case g2 => exact rfl); (case g3 => walk_at "op"))
  | (with_reducible refine' we_cmp ?_) | ((with_reducible refine' kCmp_i ?g1 ?g2 ?g3 ?g4); (case g1 => exact rfl); (case g2 => exact rfl); (case g3 => walk_at "cmp"))
  | (with_reducible refine' we_sub ?_) | ((with_reducible refine' kSub_i ?g1 ?g2 ?g3 ?g4); (case g1 => exact rfl); (case g2 => exact rfl); (case g3 => walk_at "op"))
  | (with_reducible refine' we_tup ?_) | ((with_reducible refine' kTup_i ?g1 ?g2 ?g3); (case g1 => exact rfl); (case g2 => walk_at "le"))
  | (with_reducible refine' we_lst ?_) | ((with_reducible refine' kLst_i ?g1 ?g2 ?g3); (case g1 => exact rfl); (case g2 => walk_at "le"))
  | (with_reducible refine' wl_cons ?_) | (with_reducible refine' wl_nil ?_)
  | (with_reducible refine' we_call ?_) | ((with_reducible refine' w_ownG ?g1 ?g2 ?g3 ?g4 ?g5); (case g1 => exact rfl); (case g2 => exact rfl); (case g3 => exact rfl); (case g4 => walk_at "call"))
  | (with_reducible refine' we_bi ?_) | ((with_reducible refine' kBi_i ?g1 ?g2 ?g3); (case g1 => exact rfl); (case g2 => walk_at "bi"))
  | (with_reducible refine' wt_e ?_) | ((with_reducible refine' kT_i ?g1 ?g2 ?g3); (case g1 => exact rfl); (case g2 => walk_at "tt"))
  | (with_reducible refine' wt_nt ?_) | (with_reducible refine' wt_an ?_) | ((with_reducible refine' kAnT_i ?_ ?_) <;> walk_at "dec") | (with_reducible refine' wt_or ?_) | ((with_reducible refine' kOrT_i ?_ ?_) <;> walk_at "dec")
  | (with_reducible refine' we_neg ?_) | ((with_reducible refine' kNeg_i ?g1 ?g2); (case g1 => exact rfl))
  | (with_reducible refine' we_nt ?_) | ((with_reducible refine' kNt_i ?g1 ?g2 ?g3); (case g1 => exact rfl); (case g2 => walk_at "tt"))
  | (with_reducible refine' we_an ?_) | ((with_reducible refine' kAn_i ?g1 ?g2 ?g3 ?g4); (case g1 => exact rfl); (case g2 => walk_at "tt"); (case' g3 => walk_at "dec"); (case' g4 => walk_at "dec"))
  | (with_reducible refine' we_or ?_) | ((with_reducible refine' kOr_i ?g1 ?g2 ?g3 ?g4); (case g1 => exact rfl); (case g2 => walk_at "tt"); (case' g3 => walk_at "dec"); (case' g4 => walk_at "dec"))
  | (with_reducible refine' we_chn ?_) | ((with_reducible refine' kChn_i ?g1 ?g2 ?g3 ?g4 ?g5); (case g1 => exact rfl); (case g2 => exact rfl); (case g3 => walk_at "cmp"); (case' g4 => walk_at "dec"); (case' g5 => walk_at "dec"))
  | (with_reducible refine' we_ite ?_) | ((with_reducible refine' kIte_i ?_ ?_) <;> walk_at "dec")
  | (with_reducible refine' we_isi ?_) | ((with_reducible refine' kIsi_i ?g1 ?g2 ?g3); (case g1 => exact rfl); (case g2 => exact rfl))
  | (with_reducible refine' we_slA ?_) | ((with_reducible refine' kSlA_i ?g1 ?g2 ?g3); (case g1 => exact rfl); (case g2 => exact rfl))
  | (with_reducible refine' we_slF ?_) | ((with_reducible refine' kSlF_i ?g1 ?g2 ?g3 ?g4); (case g1 => exact rfl); (case g2 => exact rfl); (case g3 => exact rfl))
  | (with_reducible refine' we_slT ?_) | ((with_reducible refine' kSlT_i ?g1 ?g2 ?g3 ?g4); (case g1 => exact rfl); (case g2 => exact rfl); (case g3 => exact rfl))
  | (with_reducible refine' we_rev ?_) | ((with_reducible refine' kRev_i ?g1 ?g2); (case g1 => exact rfl))
  | (with_reducible refine' we_fn ?_) | (with_reducible refine' we_dct0 ?_) | (with_reducible refine' we_dct1 ?_) | ((with_reducible refine' kDct_i ?g1 ?g2 ?g3 ?g4); (case g1 => exact rfl); (case g2 => exact rfl); (case g3 => exact rfl))
  | (with_reducible refine' we_src ?_) | ((with_reducible refine' kSrc_i ?g1 ?g2); (case g1 => walk_at "bi"))
  | ((with_reducible refine' we_cav ?g1 ?g2 ?g3); (case g1 => exact rfl); (case g2 => exact rfl))
  | ((with_reducible refine' we_mu ?g1 ?g2); (case g1 => exact rfl)) | ((with_reducible refine' kMu_i ?g1 ?g2 ?g3 ?g4); (case g1 => exact rfl); (case g2 => exact rfl); (case g3 => walk_at "bi"))
  | (with_reducible refine' wl_star ?_) | ((with_reducible refine' kStar_i ?g1 ?g2 ?g3); (case g1 => exact rfl); (case g2 => exact rfl))
  | (with_reducible refine' ws_sq ?_) | ((with_reducible refine' kSq_i ?g1 ?g2); (case g1 => exact rfl))
  | (with_reducible refine' ws_rng ?_) | ((with_reducible refine' kRng_i ?g1 ?g2 ?g3); (case g1 => exact rfl); (case g2 => walk_at "bi"))
  | (with_reducible refine' ws_zip ?_) | ((with_reducible refine' kZip_i ?g1 ?g2 ?g3); (case g1 => exact rfl); (case g2 => exact rfl))
  | (with_reducible refine' ws_enm ?_) | ((with_reducible refine' kEnm_i ?g1 ?g2); (case g1 => exact rfl))
  | (with_reducible refine' sw_cons ?_) | (with_reducible refine' sw_nil ?_)
  | (with_reducible refine' sw_set ?_) | ((with_reducible refine' kSet_i ?g1 ?g2 ?g3); (case g1 => exact rfl); (case g2 => walk_at "le"))
  | (with_reducible refine' sw_par ?_) | ((with_reducible refine' kPar_i ?g1 ?g2 ?g3); (case g1 => exact rfl); (case g2 => exact rfl))
  | (with_reducible refine' sw_unp ?_) | ((with_reducible refine' kUnp_i ?g1 ?g2 ?g3); (case g1 => exact rfl); (case g2 => exact rfl))
  | (with_reducible refine' sw_iff ?_) | ((with_reducible refine' kIff_i ?_ ?_) <;> walk_at "dec")
  | (with_reducible refine' sw_ret ?_) | (with_reducible refine' kRet_v ?_) | ((with_reducible refine' kRet_r ?g1 ?g2); (case g1 => exact rfl))
  | ((with_reducible refine' sw_aug ?g1 ?g2); (case g1 => exact rfl)) | ((with_reducible refine' kAug_i ?g1 ?g2 ?g3 ?g4 ?g5); (case g1 => exact rfl); (case g2 => exact rfl); (case g3 => walk_at "op"); (case g4 => walk_at "le"))
  | (with_reducible refine' sw_ssb ?_) | ((with_reducible refine' kSsb_i ?g1 ?g2 ?g3 ?g4 ?g5); (case g1 => exact rfl); (case g2 => exact rfl); (case g3 => exact rfl); (case g4 => walk_at "op"))
  | (with_reducible refine' sw_ex ?_) | (with_reducible refine' sw_for ?_) | (with_reducible refine' sw_ps ?_) | (with_reducible refine' sw_br ?_) | (with_reducible refine' sw_ct ?_)
  | (with_reducible refine' we_comp ?_)
  | fail "stuck")
local macro_rules | `(tactic| walk_at "wk") => `(tactic| ((repeat' (walk_at "w1")) <;> (try dsimp only)))
/-- letters -/
inductive Lt where | n | r | y | b
  deriving DecidableEq
def Lt.s : Lt → PyData
  | .n => .str "n"
  | .r => .str "r"
  | .y => .str "y"
  | .b => .str "b"
/-- a code: yellow ones, matches for them, matches for a red one -/
structure Cd where
  w : Int
  b : Int
  r : Int
  deriving DecidableEq
def Cd.d (c : Cd) : PyData := .tuple [.int c.w, .int c.b, .int c.r]
/-- a state -/
abbrev Sa := Int × Int
def saD (s : Sa) : PyData := .tuple [.int s.1, .int s.2]
def nextF (c : Cd) (s : Sa) : Lt → Sa
  | .b => (s.1, s.2 - 1)
  | .r => (s.1, c.r)
  | .y => if s.1 + 1 = c.w then (0, c.b) else (s.1 + 1, 0)
  | .n => s
theorem cmp_b (l : Lt) : cmpD .eq l.s (.str "b") = some (decide (l = .b)) := by cases l <;> decide +kernel
theorem cmp_r (l : Lt) : cmpD .eq l.s (.str "r") = some (decide (l = .r)) := by cases l <;> decide +kernel
theorem cmp_y (l : Lt) : cmpD .eq l.s (.str "y") = some (decide (l = .y)) := by cases l <;> decide +kernel
local macro_rules | `(tactic| walk_at "cmp") => `(tactic| first | exact cmp_b _ | exact cmp_r _ | exact cmp_y _)
theorem r0 (n : Nat) (c : Cd) (s : Sa) (l : Lt) : (callF G_k30 (n + 1) 0).run [.d c.d, .d (saD s), .d l.s] = .ok (.d (saD (nextF c s l))) none := by
  refine fn_ok (F := A_k30_0) rfl rfl rfl (Ev := [some (.d c.d), some (.d (saD s)), some (.d l.s), none, none, none, none, none]) rfl ?_
  dsimp only [A_k30_0]
  walk_at "wk"
  all_goals (cases l <;> simp_all [nextF, saD])
/-- letters that can come -/
def lettersF (s : Sa) : List Lt := if 0 < s.2 then [.b] else [.n, .r, .y]
def ltsD (ls : List Lt) : List PyData := ls.map Lt.s
theorem r1 (n : Nat) (s : Sa) : (callF G_k30 (n + 1) 1).run [.d (saD s)] = .ok (.d (.tuple (ltsD (lettersF s)))) none := by
  refine fn_ok (F := A_k30_1) rfl rfl rfl (Ev := [some (.d (saD s))]) rfl ?_
  dsimp only [A_k30_1]
  walk_at "wk"
  · rw [lettersF, if_pos (by with_reducible assumption)]; rfl
  · rw [lettersF, if_neg (by with_reducible assumption)]; rfl
/-- the state behind cards, none if they do not keep the code -/
def foldF (c : Cd) : List Lt → Sa → Option Sa
  | [], s => some s
  | l :: ls, s => if l ∈ lettersF s then foldF c ls (nextF c s l) else none
def optD : Option Sa → PyData
  | some s => saD s
  | none => .none
theorem cmp_notin (l : Lt) (s : Sa) : cmpD .notin l.s (.tuple (ltsD (lettersF s))) = some (!decide (l ∈ lettersF s)) := by
  unfold lettersF
  split <;> cases l <;> decide +kernel
local macro_rules | `(tactic| walk_at "cmp") => `(tactic| exact cmp_notin _ _)
local macro_rules | `(tactic| walk_at "call") => `(tactic| first | ((with_reducible show (callF G_k30 _ 0).run _ = _); exact r0 _ _ _ _) | ((with_reducible show (callF G_k30 _ 1).run _ = _); exact r1 _ _))
theorem r2 (n : Nat) (c : Cd) (ls : List Lt) : (callF G_k30 (n + 2) 2).run [.d c.d, .d (.tuple (ltsD ls))] = .ok (.d (optD (foldF c ls (0, 0)))) none := by
  refine fn_ok (F := A_k30_2) rfl rfl rfl (Ev := [some (.d c.d), some (.d (.tuple (ltsD ls))), none, none]) rfl ?_
  dsimp only [A_k30_2]
  walk_at "wk"
  refine kFor_i (loop_ind Lt.s (fun vs e => ∃ s x, e = [some (.d c.d), some (.d (.tuple (ltsD ls))), some (.d (saD s)), x] ∧ foldF c vs s = foldF c ls (0, 0)) ls ⟨(0, 0), none, rfl, rfl⟩ ?_ ?_)
  · rintro l vs e ⟨s, x, rfl, h⟩
    refine ⟨_, rfl, ?_⟩
    walk_at "wk"
    · rename_i hh
      rw [← h, foldF, if_neg (by simpa using hh)]; rfl
    · rename_i hh
      refine ⟨_, _, rfl, ?_⟩
      rw [← h, foldF, if_pos (by simpa using hh)]
  · rintro e ⟨s, x, rfl, h⟩
    walk_at "wk"
    rw [← h]; rfl
theorem r3 (n : Nat) (c : Cd) (ls : List Lt) (s : Sa) (h : foldF c ls (0, 0) = some s) : (callF G_k30 (n + 3) 3).run [.d c.d, .d (.tuple (ltsD ls))] = .ok (.d (.int s.2)) none := by
  have h2 := r2 n c ls
  rw [h] at h2
  refine fn_ok (F := A_k30_3) rfl rfl rfl (Ev := [some (.d c.d), some (.d (.tuple (ltsD ls)))]) rfl ?_
  dsimp only [A_k30_3]
  walk_at "wk"
theorem r4 (n : Nat) (c : Cd) (ls : List Lt) (s : Sa) (h : foldF c ls (0, 0) = some s) : (callF G_k30 (n + 3) 4).run [.d c.d, .d (.tuple (ltsD ls))] = .ok (.d (.int s.1)) none := by
  have h2 := r2 n c ls
  rw [h] at h2
  refine fn_ok (F := A_k30_4) rfl rfl rfl (Ev := [some (.d c.d), some (.d (.tuple (ltsD ls)))]) rfl ?_
  dsimp only [A_k30_4]
  walk_at "wk"
/-- a player: cards that keep the code, the state behind them -/
structure Pl1 (c : Cd) where
  ls : List Lt
  s : Sa
  h : foldF c ls (0, 0) = some s
def plD {c : Cd} (p : Pl1 c) : PyData := .tuple (ltsD p.ls)
theorem enum_map {ι : Type} (g : ι → PyData) (ws : List ι) : enumD (ws.map g) = ws.zipIdx.map fun p => .tuple [.int p.2, g p.1] := by
  apply List.ext_getElem?
  intro i
  simp only [enumD, List.length_map, List.getElem?_zipWith, List.getElem?_map, List.getElem?_zipIdx]
  by_cases hi : i < ws.length
  · rw [List.getElem?_range hi, List.getElem?_eq_getElem hi]; simp
  · rw [List.getElem?_eq_none (by simpa using hi), List.getElem?_eq_none (by simpa using hi)]; rfl
def ableF {c : Cd} (sq : List (Pl1 c)) : List Nat := (sq.zipIdx.filter fun p => decide (p.1.s.2 = 0)).map (·.2)
def natsD (xs : List Nat) : List PyData := xs.map fun k : Nat => PyData.int (k : Int)
local macro_rules | `(tactic| walk_at "call") => `(tactic| first | ((with_reducible show (callF G_k30 _ 3).run _ = _); exact r3 _ _ _ _ (by first | (with_reducible assumption) | (with_reducible exact Pl1.h _))) | ((with_reducible show (callF G_k30 _ 4).run _ = _); exact r4 _ _ _ _ (by first | (with_reducible assumption) | (with_reducible exact Pl1.h _))))
theorem r5 (n : Nat) (c : Cd) (sq : List (Pl1 c)) (hl : sq.length ≤ 1000) : (callF G_k30 (n + 4) 5).run [.d c.d, .d (.tuple (sq.map plD))] = .ok (.d (.tuple (natsD (ableF sq)))) none := by
  refine fn_ok (F := A_k30_5) rfl rfl rfl (Ev := [some (.d c.d), some (.d (.tuple (sq.map plD))), none, none]) rfl ?_
  dsimp only [A_k30_5]
  walk_at "wk"
  refine kComp_i (enum_map plD sq) rfl rfl (P := fun p => decide (p.1.s.2 = 0)) (F := fun p => .int p.2) (by simp only [List.length_zipIdx, line]; omega) (fun k hk => ⟨_, rfl, rfl, rfl, ?_⟩) ?_
  · walk_at "wk"
    refine ⟨rfl, rfl, fun _ => ?_⟩
    walk_at "wk"
    rfl
  · walk_at "wk"
    rw [natsD, ableF, List.map_map]; rfl
theorem zip_get {ι : Type} {xs : List ι} {p : ι × Nat} (h : p ∈ xs.zipIdx) : xs[p.2]? = some p.1 := by
  obtain ⟨x, i⟩ := p
  have := List.mem_zipIdx_iff_getElem?.mp h
  simpa using this
theorem item_at {xs : List PyData} {k : Nat} {x : PyData} (h : xs[k]? = some x) : item (.tuple xs) (.int (k : Int)) = some x := by
  have hk : k < xs.length := (List.getElem?_eq_some_iff.mp h).1
  have e : ix xs.length (k : Int) = some k := by
    show L2.ixN xs.length (k : Int) = some k
    unfold L2.ixN
    simp only [show (0 : Int) ≤ (k : Int) by omega, show (k : Int) < (xs.length : Int) by omega, and_self, if_true]
    simp
  show (match ix xs.length (k : Int) with | some k => xs[k]? | none => none) = some x
  rw [e]; exact h
theorem item_pl {c : Cd} {sq : List (Pl1 c)} {k : Nat} {p : Pl1 c} (h : sq[k]? = some p) : item (.tuple (sq.map plD)) (.int (k : Int)) = some (.tuple (ltsD p.ls)) := item_at (by rw [List.getElem?_map, h]; rfl)
def ableP {c : Cd} (sq : List (Pl1 c)) : List (Pl1 c × Nat) := sq.zipIdx.filter fun p => decide (p.1.s.2 = 0)
theorem able_eq {c : Cd} (sq : List (Pl1 c)) : natsD (ableF sq) = (ableP sq).map fun p => PyData.int (p.2 : Int) := by rw [natsD, ableF, List.map_map]; rfl
theorem able_len {c : Cd} (sq : List (Pl1 c)) : (ableP sq).length ≤ sq.length := by
  have := List.length_filter_le (fun p : Pl1 c × Nat => decide (p.1.s.2 = 0)) sq.zipIdx
  rw [List.length_zipIdx] at this; exact this
theorem able_get {c : Cd} {sq : List (Pl1 c)} {p : Pl1 c × Nat} (h : p ∈ ableP sq) : sq[p.2]? = some p.1 := zip_get ((List.mem_filter.mp h).1)
def riskF {c : Cd} (sq : List (Pl1 c)) : List Nat := ((ableP sq).filter fun p => decide (p.1.s.1 + 1 = c.w)).map (·.2)
theorem r6 (n : Nat) (c : Cd) (sq : List (Pl1 c)) (hl : sq.length ≤ 1000) : (callF G_k30 (n + 5) 6).run [.d c.d, .d (.tuple (sq.map plD))] = .ok (.d (.tuple (natsD (riskF sq)))) none := by
  refine fn_ok (F := A_k30_6) rfl rfl rfl (Ev := [some (.d c.d), some (.d (.tuple (sq.map plD))), none]) rfl ?_
  dsimp only [A_k30_6]
  have h5 := r5 n c sq hl
  walk_at "wk"
  have := able_len sq
  refine kComp_i (able_eq sq) rfl rfl (P := fun p => decide (p.1.s.1 + 1 = c.w)) (F := fun p => .int p.2) (by simp only [line]; omega) (fun k hk => ⟨_, rfl, rfl, rfl, ?_⟩) ?_
  · have hi := item_pl (able_get hk)
    walk_at "wk"
    refine ⟨rfl, rfl, fun _ => ?_⟩
    walk_at "wk"
    rfl
  · walk_at "wk"
    rw [natsD, riskF, List.map_map]; rfl
def stOf {c : Cd} (sq : List (Pl1 c)) (k : Nat) : Sa := match sq[k]? with
  | some p => p.s
  | none => (0, 0)
theorem get_lt {ι : Type} {xs : List ι} {k : Nat} (h : k < xs.length) : ∃ p, xs[k]? = some p := ⟨_, List.getElem?_eq_getElem h⟩
theorem asBools_map : ∀ xs : List Bool, asBools (xs.map PyData.bool) = some xs
  | [] => rfl
  | x :: xs => by rw [List.map_cons, asBools, asBools_map xs]; rfl
theorem any_list {ι : Type} (ws : List ι) (f : ι → Bool) : builtin .any [.list (ws.map fun k => .bool (f k))] = some (.d (.bool (ws.any f))) := by
  have e : (ws.map fun k => PyData.bool (f k)) = (ws.map f).map PyData.bool := by rw [List.map_map]; rfl
  show (asBools _).map (fun bs => MV.d (.bool (bs.any id))) = _
  rw [e, asBools_map]
  show some (MV.d (.bool ((ws.map f).any id))) = _
  rw [List.any_map]; rfl
def rowD (row : List (List Nat)) : List PyData := row.map fun x => .tuple (natsD x)
def rowF {c : Cd} (sq : List (Pl1 c)) (row : List (List Nat)) : Bool := row.zipIdx.all fun p => !(p.1.any fun k => decide ((p.2 : Int) < (stOf sq k).2))
theorem cmp_gtI {i j : Int} : cmpD .gt (.int i) (.int j) = some (decide (j < i)) := rfl
theorem r7 (n : Nat) (c : Cd) (sq : List (Pl1 c)) (row : List (List Nat)) (hr : ∀ x ∈ row, x.length ≤ 1000 ∧ ∀ k ∈ x, k < sq.length) : (callF G_k30 (n + 4) 7).run [.d c.d, .d (.tuple (sq.map plD)), .d (.tuple (rowD row))] = .ok (.d (.bool (rowF sq row))) none := by
  refine fn_ok (F := A_k30_7) rfl rfl rfl (Ev := [some (.d c.d), some (.d (.tuple (sq.map plD))), some (.d (.tuple (rowD row))), none, none, none]) rfl ?_
  dsimp only [A_k30_7]
  walk_at "wk"
  rw [rowD, enum_map]
  refine kFor_i (loop_ind (fun p : List Nat × Nat => .tuple [.int (p.2 : Int), .tuple (natsD p.1)]) (fun vs e => ∃ x y, e = [some (.d c.d), some (.d (.tuple (sq.map plD))), some (.d (.tuple (rowD row))), x, y, none] ∧ (∀ p ∈ vs, p ∈ row.zipIdx) ∧ rowF sq row = vs.all fun p => !(p.1.any fun k => decide ((p.2 : Int) < (stOf sq k).2))) row.zipIdx ⟨_, _, rfl, fun _ h => h, rfl⟩ ?_ ?_)
  · rintro p vs e ⟨x, y, rfl, hm, h⟩
    refine ⟨_, rfl, ?_⟩
    have hp := hr p.1 (List.mem_of_getElem? (zip_get (hm p List.mem_cons_self)))
    walk_at "wk"
    refine kComp_m (F := fun k => .bool (decide ((p.2 : Int) < (stOf sq k).2))) (g := fun k : Nat => PyData.int (k : Int)) (ws := p.1) rfl rfl rfl (by simp only [line]; omega) (fun k hk => ⟨_, rfl, rfl, rfl, ?_⟩) ?_
    · obtain ⟨q, hq⟩ := get_lt (hp.2 k hk)
      have hi := item_pl hq
      have e : (stOf sq k).2 = q.s.2 := by unfold stOf; rw [hq]
      rw [e]
      walk_at "wk"
      rfl
    · have ha := any_list p.1 fun k => decide ((p.2 : Int) < (stOf sq k).2)
      walk_at "wk"
      · rename_i hh
        rw [h, List.all_cons, hh]; rfl
      · rename_i hh
        refine ⟨_, _, rfl, fun q hq => hm q (List.mem_cons_of_mem _ hq), ?_⟩
        rw [h, List.all_cons, hh]; rfl
  · rintro e ⟨x, y, rfl, hm, h⟩
    walk_at "wk"
    rw [h]; rfl
def sureF {c : Cd} (sq : List (Pl1 c)) (m : Int) : List Nat := ((ableP sq).filter fun p => decide (p.1.s.1 + m - 1 < c.w)).map (·.2)
theorem r8 (n : Nat) (c : Cd) (sq : List (Pl1 c)) (m : Int) (hl : sq.length ≤ 1000) : (callF G_k30 (n + 5) 8).run [.d c.d, .d (.tuple (sq.map plD)), .d (.int m)] = .ok (.d (.tuple (natsD (sureF sq m)))) none := by
  refine fn_ok (F := A_k30_8) rfl rfl rfl (Ev := [some (.d c.d), some (.d (.tuple (sq.map plD))), some (.d (.int m)), none, none]) rfl ?_
  dsimp only [A_k30_8]
  have h5 := r5 n c sq hl
  walk_at "wk"
  have := able_len sq
  refine kComp_i (able_eq sq) rfl rfl (P := fun p => decide (p.1.s.1 + m - 1 < c.w)) (F := fun p => .int p.2) (by simp only [line]; omega) (fun k hk => ⟨_, rfl, rfl, rfl, ?_⟩) ?_
  · have hi := item_pl (able_get hk)
    walk_at "wk"
    refine ⟨rfl, rfl, fun _ => ?_⟩
    walk_at "wk"
    rfl
  · walk_at "wk"
    rw [natsD, sureF, List.map_map]; rfl
end PD.Q
end
section
set_option linter.all false
set_option maxRecDepth 100000
set_option maxHeartbeats 400000
/-! k30: what can come -/
namespace PD.Q
open PySem
local macro_rules | `(tactic| walk_at "le") => `(tactic| first | exact Nat.le_of_ble_eq_true rfl | exact Nat.lt_of_lt_of_le (Nat.le_of_ble_eq_true rfl) (Nat.le_refl _) | (with_reducible assumption) | (simp only [line, List.length_map, List.length_append, List.length_cons, List.length_nil, List.length_set] at *; omega) | fail "stuck")
local macro_rules | `(tactic| walk_at "op") => `(tactic| first | (with_reducible assumption) | rfl | exact bo_mulR (by decide) | exact bo_mulL (by decide) | exact bo_mod (by first | decide | (with_reducible assumption) | omega) | exact bo_fdiv (by first | decide | (with_reducible assumption) | omega) (by first | decide | (with_reducible assumption) | omega) | (with_reducible assumption) | fail "stuck")
local macro_rules | `(tactic| walk_at "cmp") => `(tactic| first | exact cmp_eqI | exact cmp_neI | exact cmp_eqB | exact cmp_neB | exact cmp_eqS (by decide +kernel) (by decide +kernel) | exact cmp_neS (by decide +kernel) (by decide +kernel) | rfl | (with_reducible assumption) | fail "stuck")
local macro_rules | `(tactic| walk_at "call") => `(tactic| first | (with_reducible assumption) | fail "stuck")
local macro_rules | `(tactic| walk_at "tt") => `(tactic| first | (with_reducible assumption) | rfl | exact truth_decide | (with_reducible assumption) | fail "stuck")
local macro_rules | `(tactic| walk_at "bi") => `(tactic| first | (with_reducible assumption) | exact mu_append (by walk_at "le") | exact mu_extend (by walk_at "le") | rfl | fail "stuck")
local macro_rules | `(tactic| walk_at "dec") => `(tactic| (intro hh; first | (with_reducible exact absurd hh Bool.false_ne_true) | (with_reducible exact absurd hh.symm Bool.false_ne_true) | (exact absurd hh (by decide +kernel)) | ((with_reducible replace hh := of_decide_eq_true hh); first | (with_reducible contradiction) | skip) | ((with_reducible replace hh := of_decide_eq_false hh); first | (with_reducible contradiction) | skip) | skip))
local macro_rules | `(tactic| walk_at "w1") => `(tactic| first
  | (with_reducible refine' we_cst ?_) | ((with_reducible refine' we_var ?g1 ?g2); (case g1 => exact rfl))
  | (with_reducible refine' we_bin ?_) | ((with_reducible refine' kBin_i ?g1 ?g2 ?g3 ?g4); (case g1 => exact rfl); (case g2 => exact rfl); (case g3 => walk_at "op"))
  | (with_reducible refine' we_cmp ?_) | ((with_reducible refine' kCmp_i ?g1 ?g2 ?g3 ?g4); (case g1 => exact rfl); (case g2 => exact rfl); (case g3 => walk_at "cmp"))
  | (with_reducible refine' we_sub ?_) | ((with_reducible refine' kSub_i ?g1 ?g2 ?g3 ?g4); (case g1 => exact rfl); (case g2 => exact rfl); (case g3 => walk_at "op"))
  | (with_reducible refine' we_tup ?_) | ((with_reducible refine' kTup_i ?g1 ?g2 ?g3); (case g1 => exact rfl); (case g2 => walk_at "le"))
  | (with_reducible refine' we_lst ?_) | ((with_reducible refine' kLst_i ?g1 ?g2 ?g3); (case g1 => exact rfl); (case g2 => walk_at "le"))
  | (with_reducible refine' wl_cons ?_) | (with_reducible refine' wl_nil ?_)
  | (with_reducible refine' we_call ?_) | ((with_reducible refine' w_ownG ?g1 ?g2 ?g3 ?g4 ?g5); (case g1 => exact rfl); (case g2 => exact rfl); (case g3 => exact rfl); (case g4 => walk_at "call"))
  | (with_reducible refine' we_bi ?_) | ((with_reducible refine' kBi_i ?g1 ?g2 ?g3); (case g1 => exact rfl); (case g2 => walk_at "bi"))
  | (with_reducible refine' wt_e ?_) | ((with_reducible refine' kT_i ?g1 ?g2 ?g3); (case g1 => exact rfl); (case g2 => walk_at "tt"))
  | (with_reducible refine' wt_nt ?_) | (with_reducible refine' wt_an ?_) | ((with_reducible refine' kAnT_i ?_ ?_) <;> walk_at "dec") | (with_reducible refine' wt_or ?_) | ((with_reducible refine' kOrT_i ?_ ?_) <;> walk_at "dec")
  | (with_reducible refine' we_neg ?_) | ((with_reducible refine' kNeg_i ?g1 ?g2); (case g1 => exact rfl))
  | (with_reducible refine' we_nt ?_) | ((with_reducible refine' kNt_i ?g1 ?g2 ?g3); (case g1 => exact rfl); (case g2 => walk_at "tt"))
  | (with_reducible refine' we_an ?_) | ((with_reducible refine' kAn_i ?g1 ?g2 ?g3 ?g4); (case g1 => exact rfl); (case g2 => walk_at "tt"); (case' g3 => walk_at "dec"); (case' g4 => walk_at "dec"))
  | (with_reducible refine' we_or ?_) | ((with_reducible refine' kOr_i ?g1 ?g2 ?g3 ?g4); (case g1 => exact rfl); (case g2 => walk_at "tt"); (case' g3 => walk_at "dec"); (case' g4 => walk_at "dec"))
  | (with_reducible refine' we_chn ?_) | ((with_reducible refine' kChn_i ?g1 ?g2 ?g3 ?g4 ?g5); (case g1 => exact rfl); (case g2 => exact rfl); (case g3 => walk_at "cmp"); (case' g4 => walk_at "dec"); (case' g5 => walk_at "dec"))
  | (with_reducible refine' we_ite ?_) | ((with_reducible refine' kIte_i ?_ ?_) <;> walk_at "dec")
  | (with_reducible refine' we_isi ?_) | ((with_reducible refine' kIsi_i ?g1 ?g2 ?g3); (case g1 => exact rfl); (case g2 => exact rfl))
  | (with_reducible refine' we_slA ?_) | ((with_reducible refine' kSlA_i ?g1 ?g2 ?g3); (case g1 => exact rfl); (case g2 => exact rfl))
  | (with_reducible refine' we_slF ?_) | ((with_reducible refine' kSlF_i ?g1 ?g2 ?g3 ?g4); (case g1 => exact rfl); (case g2 => exact rfl); (case g3 => exact rfl))
  | (with_reducible refine' we_slT ?_) | ((with_reducible refine' kSlT_i ?g1 ?g2 ?g3 ?g4); (case g1 => exact rfl); (case g2 => exact rfl); (case g3 => exact rfl))
  | (with_reducible refine' we_rev ?_) | ((with_reducible refine' kRev_i ?g1 ?g2); (case g1 => exact rfl))
  | (with_reducible refine' we_fn ?_) | (with_reducible refine' we_dct0 ?_) | (with_reducible refine' we_dct1 ?_) | ((with_reducible refine' kDct_i ?g1 ?g2 ?g3 ?g4); (case g1 => exact rfl); (case g2 => exact rfl); (case g3 => exact rfl))
  | (with_reducible refine' we_src ?_) | ((with_reducible refine' kSrc_i ?g1 ?g2); (case g1 => walk_at "bi"))
  | ((with_reducible refine' we_cav ?g1 ?g2 ?g3); (case g1 => exact rfl); (case g2 => exact rfl))
  | ((with_reducible refine' we_mu ?g1 ?g2); (case g1 => exact rfl)) | ((with_reducible refine' kMu_i ?g1 ?g2 ?g3 ?g4); (case g1 => exact rfl); (case g2 => exact rfl); (case g3 => walk_at "bi"))
  | (with_reducible refine' wl_star ?_) | ((with_reducible refine' kStar_i ?g1 ?g2 ?g3); (case g1 => exact rfl); (case g2 => exact rfl))
  | (with_reducible refine' ws_sq ?_) | ((with_reducible refine' kSq_i ?g1 ?g2); (case g1 => exact rfl))
  | (with_reducible refine' ws_rng ?_) | ((with_reducible refine' kRng_i ?g1 ?g2 ?g3); (case g1 => exact rfl); (case g2 => walk_at "bi"))
  | (with_reducible refine' ws_zip ?_) | ((with_reducible refine' kZip_i ?g1 ?g2 ?g3); (case g1 => exact rfl); (case g2 => exact rfl))
  | (with_reducible refine' ws_enm ?_) | ((with_reducible refine' kEnm_i ?g1 ?g2); (case g1 => exact rfl))
  | (with_reducible refine' sw_cons ?_) | (with_reducible refine' sw_nil ?_)
  | (with_reducible refine' sw_set ?_) | ((with_reducible refine' kSet_i ?g1 ?g2 ?g3); (case g1 => exact rfl); (case g2 => walk_at "le"))
  | (with_reducible refine' sw_par ?_) | ((with_reducible refine' kPar_i ?g1 ?g2 ?g3); (case g1 => exact rfl); (case g2 => exact rfl))
  | (with_reducible refine' sw_unp ?_) | ((with_reducible refine' kUnp_i ?g1 ?g2 ?g3); (case g1 => exact rfl); (case g2 => exact rfl))
  | (with_reducible refine' sw_iff ?_) | ((with_reducible refine' kIff_i ?_ ?_) <;> walk_at "dec")
  | (with_reducible refine' sw_ret ?_) | (with_reducible refine' kRet_v ?_) | ((with_reducible refine' kRet_r ?g1 ?g2); (case g1 => exact rfl))
  | ((with_reducible refine' sw_aug ?g1 ?g2); (case g1 => exact rfl)) | ((with_reducible refine' kAug_i ?g1 ?g2 ?g3 ?g4 ?g5); (case g1 => exact rfl); (case g2 => exact rfl); (case g3 => walk_at "op"); (case g4 => walk_at "le"))
  | (with_reducible refine' sw_ssb ?_) | ((with_reducible refine' kSsb_i ?g1 ?g2 ?g3 ?g4 ?g5); (case g1 => exact rfl); (case g2 => exact rfl); (case g3 => exact rfl); (case g4 => walk_at "op"))
  | (with_reducible refine' sw_ex ?_) | (with_reducible refine' sw_for ?_) | (with_reducible refine' sw_ps ?_) | (with_reducible refine' sw_br ?_) | (with_reducible refine' sw_ct ?_)
  | (with_reducible refine' we_comp ?_)
  | fail "stuck")
local macro_rules | `(tactic| walk_at "wk") => `(tactic| ((repeat' (walk_at "w1")) <;> (try dsimp only)))
local macro_rules | `(tactic| walk_at "cmp") => `(tactic| first | exact cmp_b _ | exact cmp_r _ | exact cmp_y _ | exact cmp_notin _ _)
local macro_rules | `(tactic| walk_at "call") => `(tactic| first | ((with_reducible show (callF G_k30 _ 0).run _ = _); exact r0 _ _ _ _) | ((with_reducible show (callF G_k30 _ 1).run _ = _); exact r1 _ _))
/-! states met, each once, in the order of a dict -/
def insS (s : Sa) (xs : List Sa) : List Sa := if s ∈ xs then xs else xs ++ [s]
def lay1 (c : Cd) (one : Sa) (xs : List Sa) : List Sa := (lettersF one).foldl (fun later l => insS (nextF c one l) later) xs
def layF (c : Cd) (found : List Sa) : List Sa := found.foldl (fun later one => lay1 c one later) []
def reachF (c : Cd) : Nat → List Sa → List Sa
  | 0, xs => xs
  | k + 1, xs => reachF c k (layF c xs)
def barredF (c : Cd) (s : Sa) (m : Nat) : Bool := (reachF c (m - 1) [s]).any fun s => decide (0 < s.2)
def setD (xs : List Sa) : List (PyData × PyData) := xs.map fun s => (saD s, .bool true)
theorem same_sa (a b : Sa) : sameK (saD a) (saD b) = decide (a = b) := by
  show (same1 (.int a.1) (.int b.1) && (same1 (.int a.2) (.int b.2) && true)) = _
  have e : ∀ i j : Int, same1 (.int i) (.int j) = decide (i = j) := fun i j => by
    show (i == j) = _
    by_cases h : i = j <;> simp [h]
  rw [e, e]
  obtain ⟨a1, a2⟩ := a
  obtain ⟨b1, b2⟩ := b
  by_cases h1 : a1 = b1 <;> by_cases h2 : a2 = b2 <;> simp [h1, h2]
theorem put_set (s : Sa) (xs : List Sa) : putK (saD s) (.bool true) (setD xs) = setD (insS s xs) := by
  have ha : ((setD xs).any fun kv => sameK kv.1 (saD s)) = decide (s ∈ xs) := by
    unfold setD
    rw [List.any_map]
    induction xs with
    | nil => simp
    | cons x xs ih =>
      rw [List.any_cons, ih]
      simp only [Function.comp, same_sa]
      by_cases h : x = s
      · subst h; simp
      · have h' : ¬ s = x := fun e => h e.symm
        simp [h, h']
  unfold putK
  rw [ha]
  unfold insS
  by_cases h : s ∈ xs
  · simp only [h, decide_true, if_true]
    unfold setD
    rw [List.map_map]
    refine List.map_congr_left fun x _ => ?_
    simp only [Function.comp]
    split <;> rfl
  · simp only [h, decide_false, if_false, Bool.false_eq_true]
    unfold setD
    rw [List.map_append]; rfl
theorem keyed_set (s : Sa) (xs : List Sa) : keyed (saD s) (setD xs) = true := by
  unfold keyed
  have h : ((setD xs).all fun p => isK2 p.1) = true := by
    unfold setD
    rw [List.all_map]
    exact List.all_eq_true.mpr fun x _ => rfl
  rw [h, Bool.or_eq_true_iff]
  exact .inr rfl
theorem set_set (s : Sa) (xs : List Sa) (h : xs.length < line) : setIt (.md (setD xs)) (saD s) (.bool true) = some (.md (setD (insS s xs))) := by
  show (if keyed (saD s) (setD xs) = true ∧ (setD xs).length < line then some (MV.md (putK (saD s) (.bool true) (setD xs))) else none) = _
  rw [if_pos ⟨keyed_set s xs, by unfold setD; rw [List.length_map]; exact h⟩, put_set]
theorem ins_len (s : Sa) (xs : List Sa) : (insS s xs).length ≤ xs.length + 1 := by unfold insS; split <;> simp
theorem lett_len (s : Sa) : (lettersF s).length ≤ 3 := by unfold lettersF; split <;> simp
theorem insl_len (c : Cd) (one : Sa) : ∀ (ls : List Lt) (xs : List Sa), (ls.foldl (fun later l => insS (nextF c one l) later) xs).length ≤ xs.length + ls.length
  | [], xs => Nat.le_refl _
  | l :: ls, xs => by
    have h1 := insl_len c one ls (insS (nextF c one l) xs)
    have h2 := ins_len (nextF c one l) xs
    rw [List.foldl_cons, List.length_cons]; omega
theorem lay1_len (c : Cd) (one : Sa) (xs : List Sa) : (lay1 c one xs).length ≤ xs.length + 3 := by
  have h1 := insl_len c one (lettersF one) xs
  have h2 := lett_len one
  unfold lay1; omega
theorem layl_len (c : Cd) : ∀ (fs xs : List Sa), (fs.foldl (fun later one => lay1 c one later) xs).length ≤ xs.length + 3 * fs.length
  | [], xs => Nat.le_refl _
  | f :: fs, xs => by
    have h1 := layl_len c fs (lay1 c f xs)
    have h2 := lay1_len c f xs
    rw [List.foldl_cons, List.length_cons]; omega
theorem keys_set (xs : List Sa) : itemsOf (.dict (setD xs)) = some (xs.map saD) := by
  show some ((setD xs).map (·.1)) = _
  unfold setD
  rw [List.map_map]; rfl
theorem walk_set (xs : List Sa) {i : Nat} {env : Env} {m : MV} (h : env.at i = some m) (hm : m = .d (.dict (setD xs)) ∨ m = .md (setD xs)) : walkK (.r i) env = .ok (xs.map saD) (env.set i (some (.d (.dict (setD xs))))) := by
  have hsc : scOf (.r i) env = none := by
    show (match env.at i with | some (.sc xs) => some xs | _ => none) = none
    rw [h]
    rcases hm with rfl | rfl <;> rfl
  unfold walkK
  rw [hsc]
  show M.bind (tk (.r i)) (fun p => .opt (itemsOf p)) env = _
  have ht : tk (.r i) env = .ok (.dict (setD xs)) (env.set i (some (.d (.dict (setD xs))))) := by
    unfold tk
    simp only [h]
    rcases hm with rfl | rfl <;> rfl
  unfold M.bind
  rw [ht]
  simp only [keys_set]; rfl
theorem rng_n (n : Nat) (h : n ≤ 1000) : rng [.int (n : Int)] = some (rangeI 0 n) := by
  have hc : (n : Int) < 4611686018427387904 ∧ -4611686018427387904 ≤ (n : Int) := ⟨by omega, by omega⟩
  unfold rng
  simp only [hc, and_self, if_true, Int.toNat_natCast]
theorem range_map (n : Nat) : rangeI 0 n = (List.range n).map fun k : Nat => PyData.int ((k : Int)) := by
  unfold rangeI
  refine List.map_congr_left fun k _ => by rw [Int.zero_add]
theorem any_tup (xs : List Sa) : builtin .any [.list (xs.map fun s => PyData.bool (decide (0 < s.2)))] = some (.d (.bool (xs.any fun s => decide (0 < s.2)))) := any_list xs fun s => decide (0 < s.2)
theorem r9 (n : Nat) (c : Cd) (s : Sa) (m : Nat) (h1 : 1 ≤ m) (hm : m ≤ 8) : (callF G_k30 (n + 2) 9).run [.d c.d, .d (saD s), .d (.int m)] = .ok (.d (.bool (barredF c s m))) none := by
  refine fn_ok (F := A_k30_9) rfl rfl rfl (Ev := [some (.d c.d), some (.d (saD s)), some (.d (.int m)), none, none, none, none, none, none, none]) rfl ?_
  dsimp only [A_k30_9]
  have hr : rng [.int ((m : Int) - 1)] = some ((List.range (m - 1)).map fun k : Nat => PyData.int ((k : Int))) := by
    rw [← range_map, ← rng_n (m - 1) (by omega)]
    congr 3; omega
  walk_at "wk"
  refine kFor_i (loop_ind (fun k : Nat => PyData.int (k : Int)) (fun ks e => ∃ xs x3 x4 x5 x6 x7, e = [some (.d c.d), some (.d (saD s)), some (.d (.int m)), some x3, x4, x5, x6, x7, none, none] ∧ (x3 = .md (setD xs) ∨ x3 = .d (.dict (setD xs))) ∧ reachF c ks.length xs = reachF c (m - 1) [s] ∧ xs.length * 3 ^ ks.length ≤ 3 ^ (m - 1)) (List.range (m - 1)) ⟨[s], _, _, _, _, _, rfl, .inl rfl, by rw [List.length_range], by rw [List.length_range]; simp⟩ ?_ ?_)
  · rintro k ks e ⟨xs, x3, x4, x5, x6, x7, rfl, h3, h, hl⟩
    refine ⟨_, rfl, ?_⟩
    have pw : (3 : Nat) ^ (k :: ks).length = 3 * 3 ^ ks.length := by rw [List.length_cons, Nat.pow_succ, Nat.mul_comm]
    have p8 : (3 : Nat) ^ (m - 1) ≤ 3 ^ 7 := Nat.pow_le_pow_right (by decide) (by omega)
    have p1 : 1 ≤ (3 : Nat) ^ ks.length := Nat.one_le_pow _ _ (by decide)
    have hx : xs.length * 3 ≤ 2187 := by
      have h5 : xs.length * 3 * 1 ≤ xs.length * 3 * 3 ^ ks.length := Nat.mul_le_mul_left _ p1
      rw [pw, ← Nat.mul_assoc] at hl
      have p9 : (3 : Nat) ^ 7 = 2187 := by decide
      omega
    walk_at "wk"
    refine kSq_i (walk_set xs rfl h3.symm) ?_
    refine kFor_i (loop_ind saD (fun vs e => ∃ later x6 x7, e = [some (.d c.d), some (.d (saD s)), some (.d (.int m)), some (.d (.dict (setD xs))), some (.d (.int k)), some (.md (setD later)), x6, x7, none, none] ∧ layF c xs = vs.foldl (fun later one => lay1 c one later) later ∧ later.length + 3 * vs.length ≤ 3 * xs.length) xs ⟨[], _, _, rfl, rfl, by simp⟩ ?_ ?_)
    · rintro one vs e ⟨later, x6, x7, rfl, hf, hz⟩
      refine ⟨_, rfl, ?_⟩
      have ll := lett_len one
      rw [List.length_cons] at hz
      walk_at "wk"
      refine kFor_i (loop_ind Lt.s (fun ls e => ∃ lat x7, e = [some (.d c.d), some (.d (saD s)), some (.d (.int m)), some (.d (.dict (setD xs))), some (.d (.int k)), some (.md (setD lat)), some (.d (saD one)), x7, none, none] ∧ lay1 c one later = ls.foldl (fun later l => insS (nextF c one l) later) lat ∧ lat.length + ls.length ≤ later.length + 3) (lettersF one) ⟨later, _, rfl, rfl, by omega⟩ ?_ ?_)
      · rintro l ls e ⟨lat, x7, rfl, hg, hy⟩
        refine ⟨_, rfl, ?_⟩
        rw [List.length_cons] at hy
        have hs := set_set (nextF c one l) lat (by simp only [line]; omega)
        have hi := ins_len (nextF c one l) lat
        walk_at "wk"
        refine ⟨rfl, ?_⟩
        walk_at "wk"
        exact ⟨_, _, rfl, by rw [hg, List.foldl_cons], by omega⟩
      · rintro e ⟨lat, x7, rfl, hg, hy⟩
        walk_at "wk"
        exact ⟨_, _, _, rfl, by rw [hf, List.foldl_cons, hg]; rfl, by rw [List.length_nil] at hy; omega⟩
    · rintro e ⟨later, x6, x7, rfl, hf, hz⟩
      walk_at "wk"
      refine ⟨later, _, _, _, _, _, rfl, .inr rfl, ?_, ?_⟩
      · rw [← h, List.length_cons, reachF, hf]; rfl
      · rw [List.length_nil] at hz
        have h7 : later.length * 3 ^ ks.length ≤ 3 * xs.length * 3 ^ ks.length := Nat.mul_le_mul_right _ (by omega)
        rw [pw, ← Nat.mul_assoc, Nat.mul_comm xs.length 3] at hl
        omega
  · rintro e ⟨xs, x3, x4, x5, x6, x7, rfl, h3, h, hl⟩
    rw [List.length_nil, Nat.pow_zero, Nat.mul_one] at hl
    have p8 : (3 : Nat) ^ (m - 1) ≤ 3 ^ 7 := Nat.pow_le_pow_right (by decide) (by omega)
    have p9 : (3 : Nat) ^ 7 = 2187 := by decide
    walk_at "wk"
    refine kSq_i (walk_set xs rfl h3.symm) ?_
    refine kComp_m (F := fun s => .bool (decide (0 < s.2))) (g := saD) (ws := xs) rfl rfl rfl (by simp only [line]; omega) (fun k hk => ⟨_, rfl, rfl, rfl, ?_⟩) ?_
    · walk_at "wk"
      rfl
    · have ha := any_tup xs
      walk_at "wk"
      rw [barredF, ← h]; rfl
end PD.Q
end
section
set_option linter.all false
set_option maxRecDepth 100000
set_option maxHeartbeats 400000
/-! k30: ways to a bar -/
namespace PD.Q
open PySem
local macro_rules | `(tactic| walk_at "le") => `(tactic| first | exact Nat.le_of_ble_eq_true rfl | exact Nat.lt_of_lt_of_le (Nat.le_of_ble_eq_true rfl) (Nat.le_refl _) | (with_reducible assumption) | (simp only [line, List.length_map, List.length_append, List.length_cons, List.length_nil, List.length_set] at *; omega) | fail "stuck")
local macro_rules | `(tactic| walk_at "op") => `(tactic| first | (with_reducible assumption) | rfl | exact bo_mulR (by decide) | exact bo_mulL (by decide) | exact bo_mod (by first | decide | (with_reducible assumption) | omega) | exact bo_fdiv (by first | decide | (with_reducible assumption) | omega) (by first | decide | (with_reducible assumption) | omega) | (with_reducible assumption) | fail "stuck")
local macro_rules | `(tactic| walk_at "cmp") => `(tactic| first | exact cmp_eqI | exact cmp_neI | exact cmp_eqB | exact cmp_neB | exact cmp_eqS (by decide +kernel) (by decide +kernel) | exact cmp_neS (by decide +kernel) (by decide +kernel) | rfl | (with_reducible assumption) | fail "stuck")
local macro_rules | `(tactic| walk_at "call") => `(tactic| first | (with_reducible assumption) | fail "stuck")
local macro_rules | `(tactic| walk_at "tt") => `(tactic| first | (with_reducible assumption) | rfl | exact truth_decide | (with_reducible assumption) | fail "stuck")
local macro_rules | `(tactic| walk_at "bi") => `(tactic| first | (with_reducible assumption) | exact mu_append (by walk_at "le") | exact mu_extend (by walk_at "le") | rfl | fail "stuck")
local macro_rules | `(tactic| walk_at "dec") => `(tactic| (intro hh; first | (with_reducible exact absurd hh Bool.false_ne_true) | (with_reducible exact absurd hh.symm Bool.false_ne_true) | (exact absurd hh (by decide +kernel)) | ((with_reducible replace hh := of_decide_eq_true hh); first | (with_reducible contradiction) | skip) | ((with_reducible replace hh := of_decide_eq_false hh); first | (with_reducible contradiction) | skip) | skip))
local macro_rules | `(tactic| walk_at "w1") => `(tactic| first
  | (with_reducible refine' we_cst ?_) | ((with_reducible refine' we_var ?g1 ?g2); (case g1 => exact rfl))
  | (with_reducible refine' we_bin ?_) | ((with_reducible refine' kBin_i ?g1 ?g2 ?g3 ?g4); (case g1 => exact rfl); (case g2 => exact rfl); (case g3 => walk_at "op"))
  | (with_reducible refine' we_cmp ?_) | ((with_reducible refine' kCmp_i ?g1 ?g2 ?g3 ?g4); (case g1 => exact rfl); (case g2 => exact rfl); (case g3 => walk_at "cmp"))
  | (with_reducible refine' we_sub ?_) | ((with_reducible refine' kSub_i ?g1 ?g2 ?g3 ?g4); (case g1 => exact rfl); (case g2 => exact rfl); (case g3 => walk_at "op"))
  | (with_reducible refine' we_tup ?_) | ((with_reducible refine' kTup_i ?g1 ?g2 ?g3); (case g1 => exact rfl); (case g2 => walk_at "le"))
  | (with_reducible refine' we_lst ?_) | ((with_reducible refine' kLst_i ?g1 ?g2 ?g3); (case g1 => exact rfl); (case g2 => walk_at "le"))
  | (with_reducible refine' wl_cons ?_) | (with_reducible refine' wl_nil ?_)
  | (with_reducible refine' we_call ?_) | ((with_reducible refine' w_ownG ?g1 ?g2 ?g3 ?g4 ?g5); (case g1 => exact rfl); (case g2 => exact rfl); (case g3 => exact rfl); (case g4 => walk_at "call"))
  | (with_reducible refine' we_bi ?_) | ((with_reducible refine' kBi_i ?g1 ?g2 ?g3); (case g1 => exact rfl); (case g2 => walk_at "bi"))
  | (with_reducible refine' wt_e ?_) | ((with_reducible refine' kT_i ?g1 ?g2 ?g3); (case g1 => exact rfl); (case g2 => walk_at "tt"))
  | (with_reducible refine' wt_nt ?_) | (with_reducible refine' wt_an ?_) | ((with_reducible refine' kAnT_i ?_ ?_) <;> walk_at "dec") | (with_reducible refine' wt_or ?_) | ((with_reducible refine' kOrT_i ?_ ?_) <;> walk_at "dec")
  | (with_reducible refine' we_neg ?_) | ((with_reducible refine' kNeg_i ?g1 ?g2); (case g1 => exact rfl))
  | (with_reducible refine' we_nt ?_) | ((with_reducible refine' kNt_i ?g1 ?g2 ?g3); (case g1 => exact rfl); (case g2 => walk_at "tt"))
  | (with_reducible refine' we_an ?_) | ((with_reducible refine' kAn_i ?g1 ?g2 ?g3 ?g4); (case g1 => exact rfl); (case g2 => walk_at "tt"); (case' g3 => walk_at "dec"); (case' g4 => walk_at "dec"))
  | (with_reducible refine' we_or ?_) | ((with_reducible refine' kOr_i ?g1 ?g2 ?g3 ?g4); (case g1 => exact rfl); (case g2 => walk_at "tt"); (case' g3 => walk_at "dec"); (case' g4 => walk_at "dec"))
  | (with_reducible refine' we_chn ?_) | ((with_reducible refine' kChn_i ?g1 ?g2 ?g3 ?g4 ?g5); (case g1 => exact rfl); (case g2 => exact rfl); (case g3 => walk_at "cmp"); (case' g4 => walk_at "dec"); (case' g5 => walk_at "dec"))
  | (with_reducible refine' we_ite ?_) | ((with_reducible refine' kIte_i ?_ ?_) <;> walk_at "dec")
  | (with_reducible refine' we_isi ?_) | ((with_reducible refine' kIsi_i ?g1 ?g2 ?g3); (case g1 => exact rfl); (case g2 => exact rfl))
  | (with_reducible refine' we_slA ?_) | ((with_reducible refine' kSlA_i ?g1 ?g2 ?g3); (case g1 => exact rfl); (case g2 => exact rfl))
  | (with_reducible refine' we_slF ?_) | ((with_reducible refine' kSlF_i ?g1 ?g2 ?g3 ?g4); (case g1 => exact rfl); (case g2 => exact rfl); (case g3 => exact rfl))
  | (with_reducible refine' we_slT ?_) | ((with_reducible refine' kSlT_i ?g1 ?g2 ?g3 ?g4); (case g1 => exact rfl); (case g2 => exact rfl); (case g3 => exact rfl))
  | (with_reducible refine' we_rev ?_) | ((with_reducible refine' kRev_i ?g1 ?g2); (case g1 => exact rfl))
  | (with_reducible refine' we_fn ?_) | (with_reducible refine' we_dct0 ?_) | (with_reducible refine' we_dct1 ?_) | ((with_reducible refine' kDct_i ?g1 ?g2 ?g3 ?g4); (case g1 => exact rfl); (case g2 => exact rfl); (case g3 => exact rfl))
  | (with_reducible refine' we_src ?_) | ((with_reducible refine' kSrc_i ?g1 ?g2); (case g1 => walk_at "bi"))
  | ((with_reducible refine' we_cav ?g1 ?g2 ?g3); (case g1 => exact rfl); (case g2 => exact rfl))
  | ((with_reducible refine' we_mu ?g1 ?g2); (case g1 => exact rfl)) | ((with_reducible refine' kMu_i ?g1 ?g2 ?g3 ?g4); (case g1 => exact rfl); (case g2 => exact rfl); (case g3 => walk_at "bi"))
  | (with_reducible refine' wl_star ?_) | ((with_reducible refine' kStar_i ?g1 ?g2 ?g3); (case g1 => exact rfl); (case g2 => exact rfl))
  | (with_reducible refine' ws_sq ?_) | ((with_reducible refine' kSq_i ?g1 ?g2); (case g1 => exact rfl))
  | (with_reducible refine' ws_rng ?_) | ((with_reducible refine' kRng_i ?g1 ?g2 ?g3); (case g1 => exact rfl); (case g2 => walk_at "bi"))
  | (with_reducible refine' ws_zip ?_) | ((with_reducible refine' kZip_i ?g1 ?g2 ?g3); (case g1 => exact rfl); (case g2 => exact rfl))
  | (with_reducible refine' ws_enm ?_) | ((with_reducible refine' kEnm_i ?g1 ?g2); (case g1 => exact rfl))
  | (with_reducible refine' sw_cons ?_) | (with_reducible refine' sw_nil ?_)
  | (with_reducible refine' sw_set ?_) | ((with_reducible refine' kSet_i ?g1 ?g2 ?g3); (case g1 => exact rfl); (case g2 => walk_at "le"))
  | (with_reducible refine' sw_par ?_) | ((with_reducible refine' kPar_i ?g1 ?g2 ?g3); (case g1 => exact rfl); (case g2 => exact rfl))
  | (with_reducible refine' sw_unp ?_) | ((with_reducible refine' kUnp_i ?g1 ?g2 ?g3); (case g1 => exact rfl); (case g2 => exact rfl))
  | (with_reducible refine' sw_iff ?_) | ((with_reducible refine' kIff_i ?_ ?_) <;> walk_at "dec")
  | (with_reducible refine' sw_ret ?_) | (with_reducible refine' kRet_v ?_) | ((with_reducible refine' kRet_r ?g1 ?g2); (case g1 => exact rfl))
  | ((with_reducible refine' sw_aug ?g1 ?g2); (case g1 => exact rfl)) | ((with_reducible refine' kAug_i ?g1 ?g2 ?g3 ?g4 ?g5); (case g1 => exact rfl); (case g2 => exact rfl); (case g3 => walk_at "op"); (case g4 => walk_at "le"))
  | (with_reducible refine' sw_ssb ?_) | ((with_reducible refine' kSsb_i ?g1 ?g2 ?g3 ?g4 ?g5); (case g1 => exact rfl); (case g2 => exact rfl); (case g3 => exact rfl); (case g4 => walk_at "op"))
  | (with_reducible refine' sw_ex ?_) | (with_reducible refine' sw_for ?_) | (with_reducible refine' sw_ps ?_) | (with_reducible refine' sw_br ?_) | (with_reducible refine' sw_ct ?_)
  | (with_reducible refine' we_comp ?_)
  | fail "stuck")
local macro_rules | `(tactic| walk_at "wk") => `(tactic| ((repeat' (walk_at "w1")) <;> (try dsimp only)))
local macro_rules | `(tactic| walk_at "cmp") => `(tactic| first | exact cmp_b _ | exact cmp_r _ | exact cmp_y _ | exact cmp_notin _ _)
local macro_rules | `(tactic| walk_at "call") => `(tactic| first | ((with_reducible show (callF G_k30 _ 0).run _ = _); exact r0 _ _ _ _) | ((with_reducible show (callF G_k30 _ 1).run _ = _); exact r1 _ _) | ((with_reducible show (callF G_k30 _ 9).run _ = _); refine' r9 ?_ ?_ ?_ ?_ ?a ?b; (case a => with_reducible assumption); (case b => with_reducible assumption)))
theorem r2' (n : Nat) (c : Cd) (ls : List Lt) (s : Sa) (h : foldF c ls (0, 0) = some s) : (callF G_k30 (n + 2) 2).run [.d c.d, .d (.tuple (ltsD ls))] = .ok (.d (saD s)) none := by
  have h2 := r2 n c ls
  rw [h] at h2; exact h2
theorem r10 (n : Nat) (c : Cd) (ls : List Lt) (s : Sa) (m : Nat) (h : foldF c ls (0, 0) = some s) (h1 : 1 ≤ m) (hm : m ≤ 8) : (callF G_k30 (n + 3) 10).run [.d c.d, .d (.tuple (ltsD ls)), .d (.int m)] = .ok (.d (.bool (barredF c s m))) none := by
  have h2 := r2' n c ls s h
  refine fn_ok (F := A_k30_10) rfl rfl rfl (Ev := [some (.d c.d), some (.d (.tuple (ltsD ls))), some (.d (.int m))]) rfl ?_
  dsimp only [A_k30_10]
  walk_at "wk"
local macro_rules | `(tactic| walk_at "call") => `(tactic| ((with_reducible show (callF G_k30 _ 10).run _ = _); refine' r10 ?_ ?_ ?_ ?_ ?_ ?a ?b ?c; (case a => first | (with_reducible assumption) | (with_reducible exact Pl1.h _)); (case b => with_reducible assumption); (case c => with_reducible assumption)))
def freeF {c : Cd} (sq : List (Pl1 c)) (m : Nat) : Nat := (sq.filter fun p => !barredF c p.s m).length
theorem len_list (xs : List PyData) : builtin .len [.list xs] = some (.d (.int xs.length)) := rfl
theorem r11 (n : Nat) (c : Cd) (sq : List (Pl1 c)) (m : Nat) (hl : sq.length ≤ 1000) (h1 : 1 ≤ m) (hm : m ≤ 8) : (callF G_k30 (n + 4) 11).run [.d c.d, .d (.tuple (sq.map plD)), .d (.int m)] = .ok (.d (.int (freeF sq m))) none := by
  refine fn_ok (F := A_k30_11) rfl rfl rfl (Ev := [some (.d c.d), some (.d (.tuple (sq.map plD))), some (.d (.int m)), none]) rfl ?_
  dsimp only [A_k30_11]
  walk_at "wk"
  refine kComp_i rfl rfl rfl (ws := sq) (g := plD) (P := fun p => !barredF c p.s m) (F := plD) (by simp only [line]; omega) (fun k hk => ⟨_, rfl, rfl, rfl, ?_⟩) ?_
  · walk_at "wk"
    refine ⟨rfl, rfl, fun _ => ?_⟩
    walk_at "wk"
    rfl
  · walk_at "wk"
    rw [freeF]; simp
/-- the least letters that lead to a bar -/
def wayF (c : Cd) : Nat → Sa → Option (List Lt)
  | 0, _ => none
  | 1, _ => some [.b]
  | k + 2, s => match (lettersF s).filter fun l => barredF c (nextF c s l) (k + 1) with
    | [] => none
    | l :: _ => (wayF c (k + 1) (nextF c s l)).map (l :: ·)
theorem sort_let (s : Sa) : builtin .sorted [.tuple (ltsD (lettersF s))] = some (.ml (ltsD (lettersF s))) := by
  unfold lettersF
  split
  · show (if sortOk (ltsD [Lt.b]) = true then some (MV.ml (sortL (ltsD [Lt.b]))) else none) = _
    rw [if_pos (by decide +kernel)]; rfl
  · show (if sortOk (ltsD [Lt.n, Lt.r, Lt.y]) = true then some (MV.ml (sortL (ltsD [Lt.n, Lt.r, Lt.y]))) else none) = _
    rw [if_pos (by decide +kernel)]
    have e : sortL (ltsD [Lt.n, Lt.r, Lt.y]) = ltsD [Lt.n, Lt.r, Lt.y] := by kernel_rfl
    rw [e]
theorem item_l0 (x : PyData) (xs : List PyData) : item (.list (x :: xs)) (.int 0) = some x := by
  have e : ix (x :: xs).length (0 : Int) = some 0 := by
    show L2.ixN (x :: xs).length (0 : Int) = some 0
    unfold L2.ixN
    have : (0 : Int) < ((x :: xs).length : Int) := by rw [List.length_cons]; omega
    simp only [show (0 : Int) ≤ 0 by decide, this, and_self, if_true]
    rfl
  show (match ix (x :: xs).length (0 : Int) with | some k => (x :: xs)[k]? | none => none) = some x
  rw [e]; rfl
def desc : Nat → List Nat
  | 0 => []
  | k + 1 => (k + 2) :: desc k
theorem desc_get : ∀ (m k : Nat), k < m → (desc m)[k]? = some (m + 1 - k)
  | 0, _, h => absurd h (by omega)
  | m + 1, 0, _ => rfl
  | m + 1, k + 1, h => by
    show (desc m)[k]? = _
    rw [desc_get m k (by omega)]
    congr 1; omega
theorem desc_len : ∀ m : Nat, (desc m).length = m
  | 0 => rfl
  | m + 1 => congrArg (· + 1) (desc_len m)
theorem range_desc (m : Nat) : ((List.range m).map fun k : Nat => PyData.int (((m + 1 : Nat) : Int) + (k : Int) * -1)) = (desc m).map fun k : Nat => PyData.int (k : Int) := by
  apply List.ext_getElem?
  intro i
  rw [List.getElem?_map, List.getElem?_map]
  by_cases h : i < m
  · rw [List.getElem?_range h, desc_get m i h]
    show some (PyData.int (((m + 1 : Nat) : Int) + (i : Int) * -1)) = some (PyData.int ((m + 1 - i : Nat) : Int))
    congr 2; omega
  · rw [List.getElem?_eq_none (by rw [List.length_range]; omega), List.getElem?_eq_none (by rw [desc_len]; omega)]; rfl
theorem rng_dn (m : Nat) (h1 : 1 ≤ m) (hm : m ≤ 1000) : rng [.int (m : Int), .int 1, .int (-1)] = some ((desc (m - 1)).map fun k : Nat => PyData.int (k : Int)) := by
  show (if (-1 : Int) = -1 ∧ -4611686018427387904 ≤ (m : Int) ∧ (m : Int) < 4611686018427387904 ∧ -4611686018427387904 ≤ (1 : Int) ∧ (1 : Int) < 4611686018427387904 then some (rangeD (m : Int) ((m : Int) - 1).toNat) else none) = _
  rw [if_pos ⟨rfl, by omega, by omega, by decide, by decide⟩]
  unfold rangeD
  have e : ((m : Int) - 1).toNat = m - 1 := by omega
  have e2 : m = m - 1 + 1 := by omega
  rw [e, ← range_desc (m - 1), ← e2]
theorem star_map (xs : List Lt) : (ltsD xs).map (fun d => O.v (.d d)) = (ltsD xs).map fun d => O.v (.d d) := rfl
theorem tk_vals : ∀ (xs : List PyData) (env : Env), tkAll (xs.map (fun d => O.v (.d d)) ++ [.v (.d (.str "b"))]) env = .ok (xs ++ [.str "b"]) env
  | [], env => rfl
  | x :: xs, env => by
    have := tk_vals xs env
    show M.bind (tk (.v (.d x))) (fun p => M.bind (tkAll (xs.map (fun d => O.v (.d d)) ++ [.v (.d (.str "b"))])) fun ps => .pure (p :: ps)) env = _
    show M.bind (tkAll (xs.map (fun d => O.v (.d d)) ++ [.v (.d (.str "b"))])) (fun ps => .pure (x :: ps)) env = _
    unfold M.bind
    rw [this]; rfl
/-- a letter and the state behind it -/
def lsD (c : Cd) (s : Sa) (l : Lt) : PyData := .tuple [l.s, saD (nextF c s l)]
def wayD : Option (List Lt) → PyData
  | some w => .tuple (ltsD w)
  | none => .none
theorem r12 (n : Nat) (c : Cd) (ls : List Lt) (s : Sa) (m : Nat) (w : Option (List Lt)) (h : foldF c ls (0, 0) = some s) (h1 : 1 ≤ m) (hm : m ≤ 8) (hw : barredF c s m = false ∧ w = none ∨ barredF c s m = true ∧ w = wayF c m s ∧ w.isSome = true) :
    (callF G_k30 (n + 4) 12).run [.d c.d, .d (.tuple (ltsD ls)), .d (.int m)] = .ok (.d (wayD w)) none := by
  have h2 := r2' (n + 1) c ls s h
  refine fn_ok (F := A_k30_12) rfl rfl rfl (Ev := [some (.d c.d), some (.d (.tuple (ltsD ls))), some (.d (.int m)), none, none, none, none, none, none]) rfl ?_
  dsimp only [A_k30_12]
  have hr := rng_dn m h1 (by omega)
  walk_at "wk"
  · rename_i hh
    rcases hw with ⟨h3, rfl⟩ | ⟨h3, _⟩
    · rfl
    · rw [h3] at hh; cases hh
  · rename_i hh
    rcases hw with ⟨h3, rfl⟩ | ⟨h3, h4, h5⟩
    · rw [h3] at hh; cases hh
    obtain ⟨w0, rfl⟩ := Option.isSome_iff_exists.mp h5
    refine kFor_i (loop_ind (fun k : Nat => PyData.int (k : Int)) (fun ks e => ∃ j s' done rest x5 x6 x7, ks = desc j ∧ j ≤ 7 ∧ e = [some (.d c.d), some (.d (.tuple (ltsD ls))), some (.d (.int m)), some (.d (saD s')), some (.ml (ltsD done)), x5, x6, x7, none] ∧ wayF c (j + 1) s' = some rest ∧ w0 = done ++ rest ∧ done.length + j ≤ 8) (desc (m - 1)) ⟨m - 1, s, [], w0, _, _, _, rfl, by omega, rfl, by rw [show m - 1 + 1 = m by omega]; exact h4.symm, rfl, by simp; omega⟩ ?_ ?_)
    · rintro k ks e ⟨j, s', done, rest, x5, x6, x7, hj, hj7, rfl, hway, hdone, hlen⟩
      cases j with
      | zero => cases hj
      | succ j =>
        cases hj
        refine ⟨_, rfl, ?_⟩
        rw [wayF] at hway
        have hsub : binop .sub (.int ((j + 2 : Nat) : Int)) (.int 1) = some (.d (.int ((j + 1 : Nat) : Int))) := by
          have e : ((j + 2 : Nat) : Int) - 1 = ((j + 1 : Nat) : Int) := by omega
          show some (MV.d (.int (((j + 2 : Nat) : Int) - 1))) = _
          rw [e]
        have hso := sort_let s'
        have hll := lett_len s'
        cases hf : (lettersF s').filter fun l => barredF c (nextF c s' l) (j + 1) with
        | nil => rw [hf] at hway; cases hway
        | cons l more =>
          rw [hf] at hway
          dsimp only at hway
          cases hr2 : wayF c (j + 1) (nextF c s' l) with
          | none => rw [hr2] at hway; cases hway
          | some rest' =>
            rw [hr2] at hway
            cases hway
            walk_at "wk"
            refine kComp_m (F := lsD c s') (g := Lt.s) (ws := lettersF s') rfl rfl rfl (by simp only [line]; omega) (fun l hl => ⟨_, rfl, rfl, rfl, ?_⟩) ?_
            · walk_at "wk"
              rfl
            · walk_at "wk"
              have g1 : 1 ≤ j + 1 := by omega
              have g2 : j + 1 ≤ 8 := by omega
              refine kComp_i (P := fun l => barredF c (nextF c s' l) (j + 1)) (F := lsD c s') (g := lsD c s') (ws := lettersF s') rfl rfl rfl (by simp only [line]; omega) (fun l hl => ⟨_, rfl, rfl, rfl, ?_⟩) ?_
              · walk_at "wk"
                refine ⟨rfl, rfl, fun _ => ?_⟩
                walk_at "wk"
                rfl
              · rw [hf]
                have hit : item (.list ((l :: more).map (lsD c s'))) (.int 0) = some (.tuple [l.s, saD (nextF c s' l)]) := item_l0 _ _
                have hdl : (ltsD done).length ≤ 8 := by simp only [ltsD, List.length_map]; omega
                walk_at "wk"
                have hda : ltsD (done ++ [l]) = ltsD done ++ [l.s] := by rw [ltsD, List.map_append]; rfl
                refine ⟨j, nextF c s' l, done ++ [l], rest', _, _, _, rfl, by omega, by rw [hda]; rfl, hr2, ?_, ?_⟩
                · rw [hdone, List.append_assoc]; rfl
                · rw [List.length_append, List.length_singleton]; omega
    · rintro e ⟨j, s', done, rest, x5, x6, x7, hj, hj7, rfl, hway, hdone, hlen⟩
      cases j with
      | succ j => cases hj
      | zero =>
        cases hway
        walk_at "wk"
        refine kTup_i (tk_vals (ltsD done) _) (by simp only [ltsD, List.length_append, List.length_map, List.length_cons, List.length_nil, line]; omega) ?_
        walk_at "wk"
        rw [hdone, wayD, ltsD, ltsD, List.map_append]; rfl
end PD.Q
end
section
set_option linter.all false
set_option maxRecDepth 100000
set_option maxHeartbeats 400000
/-! k30: the law's own cards -/
namespace PD.Q
open PySem
local macro_rules | `(tactic| walk_at "le") => `(tactic| first | exact Nat.le_of_ble_eq_true rfl | exact Nat.lt_of_lt_of_le (Nat.le_of_ble_eq_true rfl) (Nat.le_refl _) | (with_reducible assumption) | (simp only [line, List.length_map, List.length_append, List.length_cons, List.length_nil, List.length_set] at *; omega) | fail "stuck")
local macro_rules | `(tactic| walk_at "op") => `(tactic| first | (with_reducible assumption) | rfl | exact bo_mulR (by decide) | exact bo_mulL (by decide) | exact bo_mod (by first | decide | (with_reducible assumption) | omega) | exact bo_fdiv (by first | decide | (with_reducible assumption) | omega) (by first | decide | (with_reducible assumption) | omega) | (with_reducible assumption) | fail "stuck")
local macro_rules | `(tactic| walk_at "cmp") => `(tactic| first | exact cmp_eqI | exact cmp_neI | exact cmp_eqB | exact cmp_neB | exact cmp_eqS (by decide +kernel) (by decide +kernel) | exact cmp_neS (by decide +kernel) (by decide +kernel) | rfl | (with_reducible assumption) | fail "stuck")
local macro_rules | `(tactic| walk_at "call") => `(tactic| first | (with_reducible assumption) | fail "stuck")
local macro_rules | `(tactic| walk_at "tt") => `(tactic| first | (with_reducible assumption) | rfl | exact truth_decide | (with_reducible assumption) | fail "stuck")
local macro_rules | `(tactic| walk_at "bi") => `(tactic| first | (with_reducible assumption) | exact mu_append (by walk_at "le") | exact mu_extend (by walk_at "le") | rfl | fail "stuck")
local macro_rules | `(tactic| walk_at "dec") => `(tactic| (intro hh; first | (with_reducible exact absurd hh Bool.false_ne_true) | (with_reducible exact absurd hh.symm Bool.false_ne_true) | (exact absurd hh (by decide +kernel)) | ((with_reducible replace hh := of_decide_eq_true hh); first | (with_reducible contradiction) | skip) | ((with_reducible replace hh := of_decide_eq_false hh); first | (with_reducible contradiction) | skip) | skip))
local macro_rules | `(tactic| walk_at "w1") => `(tactic| first
  | (with_reducible refine' we_cst ?_) | ((with_reducible refine' we_var ?g1 ?g2); (case g1 => exact rfl))
  | (with_reducible refine' we_bin ?_) | ((with_reducible refine' kBin_i ?g1 ?g2 ?g3 ?g4); (case g1 => exact rfl); (case g2 => exact rfl); (case g3 => walk_at "op"))
  | (with_reducible refine' we_cmp ?_) | ((with_reducible refine' kCmp_i ?g1 ?g2 ?g3 ?g4); (case g1 => exact rfl); (case g2 => exact rfl); (case g3 => walk_at "cmp"))
  | (with_reducible refine' we_sub ?_) | ((with_reducible refine' kSub_i ?g1 ?g2 ?g3 ?g4); (case g1 => exact rfl); (case g2 => exact rfl); (case g3 => walk_at "op"))
  | (with_reducible refine' we_tup ?_) | ((with_reducible refine' kTup_i ?g1 ?g2 ?g3); (case g1 => exact rfl); (case g2 => walk_at "le"))
  | (with_reducible refine' we_lst ?_) | ((with_reducible refine' kLst_i ?g1 ?g2 ?g3); (case g1 => exact rfl); (case g2 => walk_at "le"))
  | (with_reducible refine' wl_cons ?_) | (with_reducible refine' wl_nil ?_)
  | (with_reducible refine' we_call ?_) | ((with_reducible refine' w_ownG ?g1 ?g2 ?g3 ?g4 ?g5); (case g1 => exact rfl); (case g2 => exact rfl); (case g3 => exact rfl); (case g4 => walk_at "call"))
  | (with_reducible refine' we_bi ?_) | ((with_reducible refine' kBi_i ?g1 ?g2 ?g3); (case g1 => exact rfl); (case g2 => walk_at "bi"))
  | (with_reducible refine' wt_e ?_) | ((with_reducible refine' kT_i ?g1 ?g2 ?g3); (case g1 => exact rfl); (case g2 => walk_at "tt"))
  | (with_reducible refine' wt_nt ?_) | (with_reducible refine' wt_an ?_) | ((with_reducible refine' kAnT_i ?_ ?_) <;> walk_at "dec") | (with_reducible refine' wt_or ?_) | ((with_reducible refine' kOrT_i ?_ ?_) <;> walk_at "dec")
  | (with_reducible refine' we_neg ?_) | ((with_reducible refine' kNeg_i ?g1 ?g2); (case g1 => exact rfl))
  | (with_reducible refine' we_nt ?_) | ((with_reducible refine' kNt_i ?g1 ?g2 ?g3); (case g1 => exact rfl); (case g2 => walk_at "tt"))
  | (with_reducible refine' we_an ?_) | ((with_reducible refine' kAn_i ?g1 ?g2 ?g3 ?g4); (case g1 => exact rfl); (case g2 => walk_at "tt"); (case' g3 => walk_at "dec"); (case' g4 => walk_at "dec"))
  | (with_reducible refine' we_or ?_) | ((with_reducible refine' kOr_i ?g1 ?g2 ?g3 ?g4); (case g1 => exact rfl); (case g2 => walk_at "tt"); (case' g3 => walk_at "dec"); (case' g4 => walk_at "dec"))
  | (with_reducible refine' we_chn ?_) | ((with_reducible refine' kChn_i ?g1 ?g2 ?g3 ?g4 ?g5); (case g1 => exact rfl); (case g2 => exact rfl); (case g3 => walk_at "cmp"); (case' g4 => walk_at "dec"); (case' g5 => walk_at "dec"))
  | (with_reducible refine' we_ite ?_) | ((with_reducible refine' kIte_i ?_ ?_) <;> walk_at "dec")
  | (with_reducible refine' we_isi ?_) | ((with_reducible refine' kIsi_i ?g1 ?g2 ?g3); (case g1 => exact rfl); (case g2 => exact rfl))
  | (with_reducible refine' we_slA ?_) | ((with_reducible refine' kSlA_i ?g1 ?g2 ?g3); (case g1 => exact rfl); (case g2 => exact rfl))
  | (with_reducible refine' we_slF ?_) | ((with_reducible refine' kSlF_i ?g1 ?g2 ?g3 ?g4); (case g1 => exact rfl); (case g2 => exact rfl); (case g3 => exact rfl))
  | (with_reducible refine' we_slT ?_) | ((with_reducible refine' kSlT_i ?g1 ?g2 ?g3 ?g4); (case g1 => exact rfl); (case g2 => exact rfl); (case g3 => exact rfl))
  | (with_reducible refine' we_rev ?_) | ((with_reducible refine' kRev_i ?g1 ?g2); (case g1 => exact rfl))
  | (with_reducible refine' we_fn ?_) | (with_reducible refine' we_dct0 ?_) | (with_reducible refine' we_dct1 ?_) | ((with_reducible refine' kDct_i ?g1 ?g2 ?g3 ?g4); (case g1 => exact rfl); (case g2 => exact rfl); (case g3 => exact rfl))
  | (with_reducible refine' we_src ?_) | ((with_reducible refine' kSrc_i ?g1 ?g2); (case g1 => walk_at "bi"))
  | ((with_reducible refine' we_cav ?g1 ?g2 ?g3); (case g1 => exact rfl); (case g2 => exact rfl))
  | ((with_reducible refine' we_mu ?g1 ?g2); (case g1 => exact rfl)) | ((with_reducible refine' kMu_i ?g1 ?g2 ?g3 ?g4); (case g1 => exact rfl); (case g2 => exact rfl); (case g3 => walk_at "bi"))
  | (with_reducible refine' wl_star ?_) | ((with_reducible refine' kStar_i ?g1 ?g2 ?g3); (case g1 => exact rfl); (case g2 => exact rfl))
  | (with_reducible refine' ws_sq ?_) | ((with_reducible refine' kSq_i ?g1 ?g2); (case g1 => exact rfl))
  | (with_reducible refine' ws_rng ?_) | ((with_reducible refine' kRng_i ?g1 ?g2 ?g3); (case g1 => exact rfl); (case g2 => walk_at "bi"))
  | (with_reducible refine' ws_zip ?_) | ((with_reducible refine' kZip_i ?g1 ?g2 ?g3); (case g1 => exact rfl); (case g2 => exact rfl))
  | (with_reducible refine' ws_enm ?_) | ((with_reducible refine' kEnm_i ?g1 ?g2); (case g1 => exact rfl))
  | (with_reducible refine' sw_cons ?_) | (with_reducible refine' sw_nil ?_)
  | (with_reducible refine' sw_set ?_) | ((with_reducible refine' kSet_i ?g1 ?g2 ?g3); (case g1 => exact rfl); (case g2 => walk_at "le"))
  | (with_reducible refine' sw_par ?_) | ((with_reducible refine' kPar_i ?g1 ?g2 ?g3); (case g1 => exact rfl); (case g2 => exact rfl))
  | (with_reducible refine' sw_unp ?_) | ((with_reducible refine' kUnp_i ?g1 ?g2 ?g3); (case g1 => exact rfl); (case g2 => exact rfl))
  | (with_reducible refine' sw_iff ?_) | ((with_reducible refine' kIff_i ?_ ?_) <;> walk_at "dec")
  | (with_reducible refine' sw_ret ?_) | (with_reducible refine' kRet_v ?_) | ((with_reducible refine' kRet_r ?g1 ?g2); (case g1 => exact rfl))
  | ((with_reducible refine' sw_aug ?g1 ?g2); (case g1 => exact rfl)) | ((with_reducible refine' kAug_i ?g1 ?g2 ?g3 ?g4 ?g5); (case g1 => exact rfl); (case g2 => exact rfl); (case g3 => walk_at "op"); (case g4 => walk_at "le"))
  | (with_reducible refine' sw_ssb ?_) | ((with_reducible refine' kSsb_i ?g1 ?g2 ?g3 ?g4 ?g5); (case g1 => exact rfl); (case g2 => exact rfl); (case g3 => exact rfl); (case g4 => walk_at "op"))
  | (with_reducible refine' sw_ex ?_) | (with_reducible refine' sw_for ?_) | (with_reducible refine' sw_ps ?_) | (with_reducible refine' sw_br ?_) | (with_reducible refine' sw_ct ?_)
  | (with_reducible refine' we_comp ?_)
  | fail "stuck")
local macro_rules | `(tactic| walk_at "wk") => `(tactic| ((repeat' (walk_at "w1")) <;> (try dsimp only)))
local macro_rules | `(tactic| walk_at "cmp") => `(tactic| first | exact cmp_b _ | exact cmp_r _ | exact cmp_y _ | exact cmp_notin _ _)
structure CdOk (c : Cd) : Prop where
  w1 : 1 ≤ c.w
  w3 : c.w ≤ 3
  b1 : 1 ≤ c.b
  b2 : c.b ≤ 2
  r1 : 1 ≤ c.r
  r3 : c.r ≤ 3
structure SaOk (c : Cd) (s : Sa) : Prop where
  y0 : 0 ≤ s.1
  yw : s.1 < c.w
  l0 : 0 ≤ s.2
  l3 : s.2 ≤ 3
theorem next_ok {c : Cd} (hc : CdOk c) {s : Sa} (hs : SaOk c s) {l : Lt} (hl : l ∈ lettersF s) : SaOk c (nextF c s l) := by
  obtain ⟨w1, w3, b1, b2, r1, r3⟩ := hc
  obtain ⟨y0, yw, l0, l3⟩ := hs
  unfold lettersF at hl
  cases l with
  | b =>
    split at hl
    · exact ⟨y0, yw, by show 0 ≤ s.2 - 1; omega, by show s.2 - 1 ≤ 3; omega⟩
    · simp at hl
  | r => exact ⟨y0, yw, by show 0 ≤ c.r; omega, by show c.r ≤ 3; omega⟩
  | n => exact ⟨y0, yw, l0, l3⟩
  | y =>
    show SaOk c (if s.1 + 1 = c.w then (0, c.b) else (s.1 + 1, 0))
    split
    · exact ⟨by show (0 : Int) ≤ 0; omega, by show (0 : Int) < c.w; omega, by show (0 : Int) ≤ c.b; omega, by show c.b ≤ 3; omega⟩
    · exact ⟨by show (0 : Int) ≤ s.1 + 1; omega, by show s.1 + 1 < c.w; omega, by show (0 : Int) ≤ 0; omega, by show (0 : Int) ≤ 3; omega⟩
theorem fold_ok {c : Cd} (hc : CdOk c) : ∀ (ls : List Lt) (s s' : Sa), SaOk c s → foldF c ls s = some s' → SaOk c s'
  | [], s, s', hs, h => by cases h; exact hs
  | l :: ls, s, s', hs, h => by
    rw [foldF] at h
    split at h
    · rename_i hl; exact fold_ok hc ls _ s' (next_ok hc hs hl) h
    · cases h
theorem start_ok {c : Cd} (hc : CdOk c) : SaOk c (0, 0) := ⟨by show (0 : Int) ≤ 0; omega, by have := hc.w1; show (0 : Int) < c.w; omega, by show (0 : Int) ≤ 0; omega, by show (0 : Int) ≤ 3; omega⟩
theorem cmp_neBB (a b : Bool) : cmpD .ne (.bool a) (.bool b) = some (a != b) := by rw [cmp_neB]; cases a <;> cases b <;> rfl
theorem max0 (i : Int) : builtin .max [.int 0, .int i] = some (.d (.int (if i > 0 then i else 0))) := rfl
theorem r17 (n : Nat) (c : Cd) (hc : CdOk c) (ls : List Lt) (s : Sa) (h : foldF c ls (0, 0) = some s) : (callF G_k30 (n + 1) 17).run [.d c.d, .d (.tuple (ltsD ls))] = .ok (.d (saD s)) none := by
  refine fn_ok (F := A_k30_17) rfl rfl rfl (Ev := [some (.d c.d), some (.d (.tuple (ltsD ls))), none, none, none, none, none, none]) rfl ?_
  dsimp only [A_k30_17]
  walk_at "wk"
  refine kFor_i (loop_ind Lt.s (fun vs e => ∃ s' x, e = [some (.d c.d), some (.d (.tuple (ltsD ls))), some (.d (.int c.w)), some (.d (.int c.b)), some (.d (.int c.r)), some (.d (.int s'.1)), some (.d (.int s'.2)), x] ∧ foldF c vs s' = some s ∧ SaOk c s') ls ⟨(0, 0), _, rfl, h, start_ok hc⟩ ?_ ?_)
  · rintro l vs e ⟨s', x, rfl, hf, hs⟩
    refine ⟨_, rfl, ?_⟩
    rw [foldF] at hf
    by_cases hl : l ∈ lettersF s'
    · rw [if_pos hl] at hf
      have hn := next_ok hc hs hl
      have l0 := hs.l0
      have hb : (l = .b) = (0 < s'.2) := by
        unfold lettersF at hl
        split at hl
        · cases l <;> simp_all
        · cases l <;> simp_all
      walk_at "wk"
      · rename_i hh
        simp only [hb, decide_true, Bool.not_true, Bool.false_eq_true] at hh
      all_goals (refine ⟨nextF c s' l, some (.d l.s), ?_, hf, hn⟩; clear hf hn; simp only [List.set_cons_zero, List.set_cons_succ]; cases l <;> simp_all [nextF] <;> omega)
    · rw [if_neg hl] at hf; cases hf
  · rintro e ⟨s', x, rfl, hf, hs⟩
    cases hf
    walk_at "wk"
    rfl
local macro_rules | `(tactic| walk_at "call") => `(tactic| ((with_reducible show (callF G_k30 _ 17).run _ = _); refine' r17 ?_ ?_ ?a ?_ ?_ ?b; (case a => with_reducible assumption); (case b => with_reducible assumption)))
theorem r19 (n : Nat) (c : Cd) (hc : CdOk c) (ls : List Lt) (s : Sa) (h : foldF c ls (0, 0) = some s) : (callF G_k30 (n + 2) 19).run [.d c.d, .d (.tuple (ltsD ls))] = .ok (.d (.tuple (ltsD (lettersF s)))) none := by
  refine fn_ok (F := A_k30_19) rfl rfl rfl (Ev := [some (.d c.d), some (.d (.tuple (ltsD ls)))]) rfl ?_
  dsimp only [A_k30_19]
  walk_at "wk"
  · rw [lettersF, if_pos (by assumption)]; rfl
  · rw [lettersF, if_neg (by assumption)]; rfl
local macro_rules | `(tactic| walk_at "call") => `(tactic| ((with_reducible show (callF G_k30 _ 19).run _ = _); refine' r19 ?_ ?_ ?a ?_ ?_ ?b; (case a => with_reducible assumption); (case b => with_reducible assumption)))
abbrev Rw := List Lt × Sa
def rwD (p : Rw) : PyData := .tuple (ltsD p.1)
def extG (c : Cd) (p : Rw) : List Rw := (lettersF p.2).map fun l => (p.1 ++ [l], nextF c p.2 l)
def allG (c : Cd) : Nat → List Rw → List Rw
  | 0, xs => xs
  | k + 1, xs => allG c k (xs.flatMap (extG c))
def RwOk (c : Cd) (m : Nat) (p : Rw) : Prop := foldF c p.1 (0, 0) = some p.2 ∧ p.1.length ≤ m
theorem fold_snoc {c : Cd} {l : Lt} : ∀ (ls : List Lt) (s s' : Sa), foldF c ls s = some s' → l ∈ lettersF s' → foldF c (ls ++ [l]) s = some (nextF c s' l)
  | [], s, s', h, hl => by
    cases h
    show foldF c [l] s = _
    rw [foldF, if_pos hl]; rfl
  | x :: ls, s, s', h, hl => by
    rw [foldF] at h
    rw [List.cons_append, foldF]
    split at h
    · rename_i hx; rw [if_pos hx]; exact fold_snoc ls _ s' h hl
    · cases h
theorem ext_ok {c : Cd} {m : Nat} {p : Rw} (h : RwOk c m p) : ∀ q ∈ extG c p, RwOk c (m + 1) q := by
  intro q hq
  unfold extG at hq
  obtain ⟨l, hl, rfl⟩ := List.mem_map.mp hq
  exact ⟨fold_snoc _ _ _ h.1 hl, by have := h.2; show (p.1 ++ [l]).length ≤ m + 1; rw [List.length_append, List.length_singleton]; omega⟩
theorem ext_len (c : Cd) (p : Rw) : (extG c p).length ≤ 3 := by unfold extG; rw [List.length_map]; exact lett_len _
theorem flat_len (c : Cd) : ∀ xs : List Rw, (xs.flatMap (extG c)).length ≤ 3 * xs.length
  | [] => Nat.le_refl _
  | x :: xs => by
    have h1 := flat_len c xs
    have h2 := ext_len c x
    rw [List.flatMap_cons, List.length_append, List.length_cons]; omega
theorem r20 (n : Nat) (c : Cd) (hc : CdOk c) (p0 : Rw) (m : Nat) (h0 : RwOk c 50 p0) (h1 : 1 ≤ m) (hm : m ≤ 7) : (callF G_k30 (n + 3) 20).run [.d c.d, .d (rwD p0), .d (.int m)] = .ok (.d (.list ((allG c m [p0]).map rwD))) none := by
  refine fn_ok (F := A_k30_20) rfl rfl rfl (Ev := [some (.d c.d), some (.d (rwD p0)), some (.d (.int m)), none, none, none, none, none]) rfl ?_
  dsimp only [A_k30_20]
  have hr : rng [.int (m : Int)] = some ((List.range m).map fun k : Nat => PyData.int ((k : Int))) := by rw [← range_map, ← rng_n m (by omega)]
  walk_at "wk"
  refine kFor_i (loop_ind (fun k : Nat => PyData.int (k : Int)) (fun ks e => ∃ xs x3 x4 x5 x6, e = [some (.d c.d), some (.d (rwD p0)), some (.d (.int m)), some x3, x4, x5, x6, none] ∧ (x3 = .d (.list (xs.map rwD)) ∨ ks.length = m ∧ x3 = .ml (xs.map rwD)) ∧ allG c ks.length xs = allG c m [p0] ∧ xs.length * 3 ^ ks.length ≤ 3 ^ m ∧ ks.length ≤ m ∧ ∀ q ∈ xs, RwOk c (50 + (m - ks.length)) q) (List.range m) ⟨[p0], _, _, _, _, rfl, .inr ⟨List.length_range, rfl⟩, by rw [List.length_range], by rw [List.length_range]; simp, by rw [List.length_range]; omega, by rw [List.length_range]; intro q hq; rw [List.mem_singleton.mp hq]; simpa using h0⟩ ?_ ?_)
  · rintro k ks e ⟨xs, x3, x4, x5, x6, rfl, h3, h, hl, hk, hq⟩
    refine ⟨_, rfl, ?_⟩
    have pw : (3 : Nat) ^ (k :: ks).length = 3 * 3 ^ ks.length := by rw [List.length_cons, Nat.pow_succ, Nat.mul_comm]
    have p8 : (3 : Nat) ^ m ≤ 3 ^ 7 := Nat.pow_le_pow_right (by decide) (by omega)
    have p1 : 1 ≤ (3 : Nat) ^ ks.length := Nat.one_le_pow _ _ (by decide)
    have p9 : (3 : Nat) ^ 7 = 2187 := by decide
    have hx : xs.length * 3 ≤ 2187 := by
      have h5 : xs.length * 3 * 1 ≤ xs.length * 3 * 3 ^ ks.length := Nat.mul_le_mul_left _ p1
      rw [pw, ← Nat.mul_assoc] at hl
      omega
    rw [List.length_cons] at hk
    walk_at "wk"
    have hwalk : ∃ e1, walkK (.r 3) [some (.d c.d), some (.d (rwD p0)), some (.d (.int m)), some x3, some (.d (.int k)), some (.ml []), x6, none] = .ok (xs.map rwD) e1 ∧ e1 = [some (.d c.d), some (.d (rwD p0)), some (.d (.int m)), some (.d (.list (xs.map rwD))), some (.d (.int k)), some (.ml []), x6, none] := by
      rcases h3 with rfl | ⟨_, rfl⟩ <;> exact ⟨_, rfl, rfl⟩
    obtain ⟨e1, hw, he1⟩ := hwalk
    refine kSq_i hw ?_
    rw [he1]
    refine kFor_i (loop_ind rwD (fun vs e => ∃ done x6, e = [some (.d c.d), some (.d (rwD p0)), some (.d (.int m)), some (.d (.list (xs.map rwD))), some (.d (.int k)), some (.ml (done.map rwD)), x6, none] ∧ xs.flatMap (extG c) = done ++ vs.flatMap (extG c) ∧ done.length + 3 * vs.length ≤ 3 * xs.length ∧ (∀ q ∈ vs, q ∈ xs)) xs ⟨[], _, rfl, rfl, by simp, fun _ h => h⟩ ?_ ?_)
    · rintro p vs e ⟨done, x6, rfl, hd, hz, hv⟩
      refine ⟨_, rfl, ?_⟩
      rw [List.length_cons] at hz
      have hp := hq p (hv p List.mem_cons_self)
      have hfold := hp.1
      have hplen := hp.2
      have hll := lett_len p.2
      have hel := ext_len c p
      have hfl := flat_len c vs
      have hdl : (done.map rwD).length ≤ 5000 := by rw [List.length_map]; omega
      walk_at "wk"
      refine kComp_m (F := fun l => rwD (p.1 ++ [l], nextF c p.2 l)) (g := Lt.s) (ws := lettersF p.2) rfl rfl rfl (by simp only [line]; omega) (fun l hl => ⟨_, rfl, rfl, rfl, ?_⟩) ?_
      · have hadd : binop .add (rwD p) (.tuple [l.s]) = some (.d (rwD (p.1 ++ [l], nextF c p.2 l))) := by
          show binop .add (.tuple (ltsD p.1)) (.tuple [l.s]) = _
          rw [bo_addT (by simp only [ltsD, List.length_map, List.length_singleton, line]; omega), rwD, ltsD, ltsD, List.map_append]; rfl
        walk_at "wk"
        rfl
      · have hadd : binop .add (.list (done.map rwD)) (.list ((lettersF p.2).map fun l => rwD (p.1 ++ [l], nextF c p.2 l))) = some (.ml ((done ++ extG c p).map rwD)) := by
          rw [bo_addL (by simp only [line]; omega) (by simp only [List.length_map, line]; omega) (by simp only [List.length_map, line] at *; omega), List.map_append, extG, List.map_map]; rfl
        walk_at "wk"
        refine ⟨done ++ extG c p, _, rfl, by rw [hd, List.flatMap_cons, List.append_assoc], by rw [List.length_append]; omega, fun q hq => hv q (List.mem_cons_of_mem _ hq)⟩
    · rintro e ⟨done, x6, rfl, hd, hz, hv⟩
      rw [List.flatMap_nil, List.append_nil] at hd
      walk_at "wk"
      refine ⟨done, _, _, _, _, rfl, .inl rfl, ?_, ?_, by omega, ?_⟩
      · rw [← h, List.length_cons, allG, hd]
      · rw [List.length_nil] at hz
        have h7 : done.length * 3 ^ ks.length ≤ 3 * xs.length * 3 ^ ks.length := Nat.mul_le_mul_right _ (by omega)
        rw [pw, ← Nat.mul_assoc, Nat.mul_comm xs.length 3] at hl
        omega
      · intro q hqd
        rw [← hd] at hqd
        obtain ⟨p, hp, hpe⟩ := List.mem_flatMap.mp hqd
        have := ext_ok (hq p hp) q hpe
        rw [List.length_cons] at this
        have e : 50 + (m - (ks.length + 1)) + 1 = 50 + (m - ks.length) := by omega
        rw [e] at this; exact this
  · rintro e ⟨xs, x3, x4, x5, x6, rfl, h3, h, hl, hk, hq⟩
    rcases h3 with rfl | ⟨h3, _⟩
    · walk_at "wk"
      rw [← h]; rfl
    · rw [List.length_nil] at h3; omega
end PD.Q
end
section
set_option linter.all false
set_option maxRecDepth 100000
set_option maxHeartbeats 400000
/-! k30: ways -/
namespace PD.Q
open PySem
local macro_rules | `(tactic| walk_at "le") => `(tactic| first | exact Nat.le_of_ble_eq_true rfl | exact Nat.lt_of_lt_of_le (Nat.le_of_ble_eq_true rfl) (Nat.le_refl _) | (with_reducible assumption) | (simp only [line, List.length_map, List.length_append, List.length_cons, List.length_nil, List.length_set] at *; omega) | fail "stuck")
local macro_rules | `(tactic| walk_at "op") => `(tactic| first | (with_reducible assumption) | rfl | exact bo_mulR (by decide) | exact bo_mulL (by decide) | exact bo_mod (by first | decide | (with_reducible assumption) | omega) | exact bo_fdiv (by first | decide | (with_reducible assumption) | omega) (by first | decide | (with_reducible assumption) | omega) | (with_reducible assumption) | fail "stuck")
local macro_rules | `(tactic| walk_at "cmp") => `(tactic| first | exact cmp_eqI | exact cmp_neI | exact cmp_eqB | exact cmp_neB | exact cmp_eqS (by decide +kernel) (by decide +kernel) | exact cmp_neS (by decide +kernel) (by decide +kernel) | rfl | (with_reducible assumption) | fail "stuck")
local macro_rules | `(tactic| walk_at "call") => `(tactic| first | (with_reducible assumption) | fail "stuck")
local macro_rules | `(tactic| walk_at "tt") => `(tactic| first | (with_reducible assumption) | rfl | exact truth_decide | (with_reducible assumption) | fail "stuck")
local macro_rules | `(tactic| walk_at "bi") => `(tactic| first | (with_reducible assumption) | exact mu_append (by walk_at "le") | exact mu_extend (by walk_at "le") | rfl | fail "stuck")
local macro_rules | `(tactic| walk_at "dec") => `(tactic| (intro hh; first | (with_reducible exact absurd hh Bool.false_ne_true) | (with_reducible exact absurd hh.symm Bool.false_ne_true) | (exact absurd hh (by decide +kernel)) | ((with_reducible replace hh := of_decide_eq_true hh); first | (with_reducible contradiction) | skip) | ((with_reducible replace hh := of_decide_eq_false hh); first | (with_reducible contradiction) | skip) | skip))
local macro_rules | `(tactic| walk_at "w1") => `(tactic| first
  | (with_reducible refine' we_cst ?_) | ((with_reducible refine' we_var ?g1 ?g2); (case g1 => exact rfl))
  | (with_reducible refine' we_bin ?_) | ((with_reducible refine' kBin_i ?g1 ?g2 ?g3 ?g4); (case g1 => exact rfl); (case g2 => exact rfl); (case g3 => walk_at "op"))
  | (with_reducible refine' we_cmp ?_) | ((with_reducible refine' kCmp_i ?g1 ?g2 ?g3 ?g4); (case g1 => exact rfl); (case g2 => exact rfl); (case g3 => walk_at "cmp"))
  | (with_reducible refine' we_sub ?_) | ((with_reducible refine' kSub_i ?g1 ?g2 ?g3 ?g4); (case g1 => exact rfl); (case g2 => exact rfl); (case g3 => walk_at "op"))
  | (with_reducible refine' we_tup ?_) | ((with_reducible refine' kTup_i ?g1 ?g2 ?g3); (case g1 => exact rfl); (case g2 => walk_at "le"))
  | (with_reducible refine' we_lst ?_) | ((with_reducible refine' kLst_i ?g1 ?g2 ?g3); (case g1 => exact rfl); (case g2 => walk_at "le"))
  | (with_reducible refine' wl_cons ?_) | (with_reducible refine' wl_nil ?_)
  | (with_reducible refine' we_call ?_) | ((with_reducible refine' w_ownG ?g1 ?g2 ?g3 ?g4 ?g5); (case g1 => exact rfl); (case g2 => exact rfl); (case g3 => exact rfl); (case g4 => walk_at "call"))
  | (with_reducible refine' we_bi ?_) | ((with_reducible refine' kBi_i ?g1 ?g2 ?g3); (case g1 => exact rfl); (case g2 => walk_at "bi"))
  | (with_reducible refine' wt_e ?_) | ((with_reducible refine' kT_i ?g1 ?g2 ?g3); (case g1 => exact rfl); (case g2 => walk_at "tt"))
  | (with_reducible refine' wt_nt ?_) | (with_reducible refine' wt_an ?_) | ((with_reducible refine' kAnT_i ?_ ?_) <;> walk_at "dec") | (with_reducible refine' wt_or ?_) | ((with_reducible refine' kOrT_i ?_ ?_) <;> walk_at "dec")
  | (with_reducible refine' we_neg ?_) | ((with_reducible refine' kNeg_i ?g1 ?g2); (case g1 => exact rfl))
  | (with_reducible refine' we_nt ?_) | ((with_reducible refine' kNt_i ?g1 ?g2 ?g3); (case g1 => exact rfl); (case g2 => walk_at "tt"))
  | (with_reducible refine' we_an ?_) | ((with_reducible refine' kAn_i ?g1 ?g2 ?g3 ?g4); (case g1 => exact rfl); (case g2 => walk_at "tt"); (case' g3 => walk_at "dec"); (case' g4 => walk_at "dec"))
  | (with_reducible refine' we_or ?_) | ((with_reducible refine' kOr_i ?g1 ?g2 ?g3 ?g4); (case g1 => exact rfl); (case g2 => walk_at "tt"); (case' g3 => walk_at "dec"); (case' g4 => walk_at "dec"))
  | (with_reducible refine' we_chn ?_) | ((with_reducible refine' kChn_i ?g1 ?g2 ?g3 ?g4 ?g5); (case g1 => exact rfl); (case g2 => exact rfl); (case g3 => walk_at "cmp"); (case' g4 => walk_at "dec"); (case' g5 => walk_at "dec"))
  | (with_reducible refine' we_ite ?_) | ((with_reducible refine' kIte_i ?_ ?_) <;> walk_at "dec")
  | (with_reducible refine' we_isi ?_) | ((with_reducible refine' kIsi_i ?g1 ?g2 ?g3); (case g1 => exact rfl); (case g2 => exact rfl))
  | (with_reducible refine' we_slA ?_) | ((with_reducible refine' kSlA_i ?g1 ?g2 ?g3); (case g1 => exact rfl); (case g2 => exact rfl))
  | (with_reducible refine' we_slF ?_) | ((with_reducible refine' kSlF_i ?g1 ?g2 ?g3 ?g4); (case g1 => exact rfl); (case g2 => exact rfl); (case g3 => exact rfl))
  | (with_reducible refine' we_slT ?_) | ((with_reducible refine' kSlT_i ?g1 ?g2 ?g3 ?g4); (case g1 => exact rfl); (case g2 => exact rfl); (case g3 => exact rfl))
  | (with_reducible refine' we_rev ?_) | ((with_reducible refine' kRev_i ?g1 ?g2); (case g1 => exact rfl))
  | (with_reducible refine' we_fn ?_) | (with_reducible refine' we_dct0 ?_) | (with_reducible refine' we_dct1 ?_) | ((with_reducible refine' kDct_i ?g1 ?g2 ?g3 ?g4); (case g1 => exact rfl); (case g2 => exact rfl); (case g3 => exact rfl))
  | (with_reducible refine' we_src ?_) | ((with_reducible refine' kSrc_i ?g1 ?g2); (case g1 => walk_at "bi"))
  | ((with_reducible refine' we_cav ?g1 ?g2 ?g3); (case g1 => exact rfl); (case g2 => exact rfl))
  | ((with_reducible refine' we_mu ?g1 ?g2); (case g1 => exact rfl)) | ((with_reducible refine' kMu_i ?g1 ?g2 ?g3 ?g4); (case g1 => exact rfl); (case g2 => exact rfl); (case g3 => walk_at "bi"))
  | (with_reducible refine' wl_star ?_) | ((with_reducible refine' kStar_i ?g1 ?g2 ?g3); (case g1 => exact rfl); (case g2 => exact rfl))
  | (with_reducible refine' ws_sq ?_) | ((with_reducible refine' kSq_i ?g1 ?g2); (case g1 => exact rfl))
  | (with_reducible refine' ws_rng ?_) | ((with_reducible refine' kRng_i ?g1 ?g2 ?g3); (case g1 => exact rfl); (case g2 => walk_at "bi"))
  | (with_reducible refine' ws_zip ?_) | ((with_reducible refine' kZip_i ?g1 ?g2 ?g3); (case g1 => exact rfl); (case g2 => exact rfl))
  | (with_reducible refine' ws_enm ?_) | ((with_reducible refine' kEnm_i ?g1 ?g2); (case g1 => exact rfl))
  | (with_reducible refine' sw_cons ?_) | (with_reducible refine' sw_nil ?_)
  | (with_reducible refine' sw_set ?_) | ((with_reducible refine' kSet_i ?g1 ?g2 ?g3); (case g1 => exact rfl); (case g2 => walk_at "le"))
  | (with_reducible refine' sw_par ?_) | ((with_reducible refine' kPar_i ?g1 ?g2 ?g3); (case g1 => exact rfl); (case g2 => exact rfl))
  | (with_reducible refine' sw_unp ?_) | ((with_reducible refine' kUnp_i ?g1 ?g2 ?g3); (case g1 => exact rfl); (case g2 => exact rfl))
  | (with_reducible refine' sw_iff ?_) | ((with_reducible refine' kIff_i ?_ ?_) <;> walk_at "dec")
  | (with_reducible refine' sw_ret ?_) | (with_reducible refine' kRet_v ?_) | ((with_reducible refine' kRet_r ?g1 ?g2); (case g1 => exact rfl))
  | ((with_reducible refine' sw_aug ?g1 ?g2); (case g1 => exact rfl)) | ((with_reducible refine' kAug_i ?g1 ?g2 ?g3 ?g4 ?g5); (case g1 => exact rfl); (case g2 => exact rfl); (case g3 => walk_at "op"); (case g4 => walk_at "le"))
  | (with_reducible refine' sw_ssb ?_) | ((with_reducible refine' kSsb_i ?g1 ?g2 ?g3 ?g4 ?g5); (case g1 => exact rfl); (case g2 => exact rfl); (case g3 => exact rfl); (case g4 => walk_at "op"))
  | (with_reducible refine' sw_ex ?_) | (with_reducible refine' sw_for ?_) | (with_reducible refine' sw_ps ?_) | (with_reducible refine' sw_br ?_) | (with_reducible refine' sw_ct ?_)
  | (with_reducible refine' we_comp ?_)
  | fail "stuck")
local macro_rules | `(tactic| walk_at "wk") => `(tactic| ((repeat' (walk_at "w1")) <;> (try dsimp only)))
theorem cut_from {α : Type} (xs : List α) {k : Nat} (h : k ≤ xs.length) : cutL xs (some (k : Int)) none = xs.drop k := by
  unfold cutL
  rw [HT.sIx_none, HT.sIx_nat, Nat.min_eq_left h, List.take_of_length_le (by rw [List.length_drop]; omega)]
def preG (cs : List Lt) (p : Rw) : Rw := (cs ++ p.1, p.2)
theorem ext_pre (c : Cd) (cs : List Lt) (p : Rw) : extG c (preG cs p) = (extG c p).map (preG cs) := by
  unfold extG
  rw [List.map_map]
  refine List.map_congr_left fun l _ => ?_
  show ((cs ++ p.1) ++ [l], _) = (cs ++ (p.1 ++ [l]), _)
  rw [List.append_assoc]; rfl
theorem flat_pre (c : Cd) (cs : List Lt) : ∀ xs : List Rw, (xs.map (preG cs)).flatMap (extG c) = (xs.flatMap (extG c)).map (preG cs)
  | [] => rfl
  | x :: xs => by rw [List.map_cons, List.flatMap_cons, List.flatMap_cons, List.map_append, ext_pre, flat_pre c cs xs]
theorem all_pre (c : Cd) (cs : List Lt) : ∀ (m : Nat) (xs : List Rw), allG c m (xs.map (preG cs)) = (allG c m xs).map (preG cs)
  | 0, xs => rfl
  | m + 1, xs => by rw [allG, allG, flat_pre, all_pre c cs m]
def waysF (c : Cd) (s : Sa) (m : Nat) : List (List Lt) := (allG c m [([], s)]).map (·.1)
def wD (w : List Lt) : PyData := .tuple (ltsD w)
theorem all_ways (c : Cd) (p : Rw) (m : Nat) : (allG c m [p]).map rwD = (waysF c p.2 m).map fun w => .tuple (ltsD (p.1 ++ w)) := by
  have h := all_pre c p.1 m [([], p.2)]
  have e : List.map (preG p.1) [(([] : List Lt), p.2)] = [p] := by
    show [(p.1 ++ [], p.2)] = [p]
    rw [List.append_nil]
  rw [e] at h
  rw [h, waysF, List.map_map, List.map_map]; rfl
theorem all_len (c : Cd) : ∀ (m : Nat) (xs : List Rw), (allG c m xs).length ≤ 3 ^ m * xs.length
  | 0, xs => by rw [allG]; simp
  | m + 1, xs => by
    rw [allG]
    have h1 := all_len c m (xs.flatMap (extG c))
    have h2 := flat_len c xs
    have h3 : 3 ^ m * (xs.flatMap (extG c)).length ≤ 3 ^ m * (3 * xs.length) := Nat.mul_le_mul_left _ h2
    rw [Nat.pow_succ, Nat.mul_assoc]; omega
theorem ways_len (c : Cd) (s : Sa) (m : Nat) (hm : m ≤ 7) : (waysF c s m).length ≤ 2187 := by
  have h := all_len c m [([], s)]
  have h2 : 3 ^ m ≤ 3 ^ 7 := Nat.pow_le_pow_right (by decide) hm
  have h3 : (3 : Nat) ^ 7 = 2187 := by decide
  unfold waysF
  rw [List.length_map]
  rw [List.length_singleton] at h
  omega
theorem r22 (n : Nat) (c : Cd) (hc : CdOk c) (ls : List Lt) (s : Sa) (m : Nat) (h : foldF c ls (0, 0) = some s) (hl : ls.length ≤ 50) (h1 : 1 ≤ m) (hm : m ≤ 7) : (callF G_k30 (n + 4) 22).run [.d c.d, .d (.tuple (ltsD ls)), .d (.int m)] = .ok (.ml ((waysF c s m).map wD)) none := by
  refine fn_ok (F := A_k30_22) rfl rfl rfl (Ev := [some (.d c.d), some (.d (.tuple (ltsD ls))), some (.d (.int m)), none]) rfl ?_
  dsimp only [A_k30_22]
  have h20 := r20 n c hc (ls, s) m ⟨h, hl⟩ h1 hm
  rw [all_ways] at h20
  have h20 : (callF G_k30 (n + 3) 20).run [.d c.d, .d (.tuple (ltsD ls)), .d (.int m)] = .ok (.d (.list ((waysF c s m).map fun w => .tuple (ltsD (ls ++ w))))) none := h20
  have hw := ways_len c s m hm
  walk_at "wk"
  refine kComp_m (F := wD) (g := fun w => .tuple (ltsD (ls ++ w))) (ws := waysF c s m) rfl rfl rfl (by simp only [line]; omega) (fun w hw => ⟨_, rfl, rfl, rfl, ?_⟩) ?_
  · walk_at "wk"
    have e : cutL (ltsD (ls ++ w)) (some ((ltsD ls).length : Int)) none = ltsD w := by
      rw [cut_from _ (by simp only [ltsD, List.length_map, List.length_append]; omega), ltsD, ltsD, ltsD, List.map_append, List.drop_left]
    rw [e]; rfl
  · walk_at "wk"
end PD.Q
end
section
set_option linter.all false
set_option maxRecDepth 1000000
set_option maxHeartbeats 0
/-! k30: what the kernel looks at -/
namespace PD.Q
open PySem
def chkS (c : Cd) (y : Int) (m : Nat) : Bool := decide (y + m - 1 < c.w) == (((waysF c (y, 0) m).filter fun w => !decide (Lt.r ∈ w)).filter fun w => decide (Lt.b ∈ w)).isEmpty
def barsF (c : Cd) (s : Sa) (m : Nat) : List (List Lt) := (waysF c s m).filter fun w => decide (w.getLast? = some Lt.b)
def chkB (c : Cd) (s : Sa) (m : Nat) : Bool := match barsF c s m with
  | [] => !barredF c s m
  | w :: _ => barredF c s m && decide (wayF c m s = some w)
def codesL : List Cd := [1, 2, 3].flatMap fun w => [1, 2].flatMap fun b => [1, 2, 3].map fun r => ⟨w, b, r⟩
def msL : List Nat := [1, 2, 3, 4, 5]
def ysL : List Int := [0, 1, 2]
def lsL : List Int := [0, 1, 2, 3]
theorem sure_all : (codesL.all fun c => ysL.all fun y => !decide (y < c.w) || msL.all fun m => chkS c y m) = true := by decide +kernel
theorem bars_all : (codesL.all fun c => ysL.all fun y => !decide (y < c.w) || lsL.all fun l => msL.all fun m => chkB c (y, l) m) = true := by decide +kernel
theorem code_mem {c : Cd} (h : CdOk c) : c ∈ codesL := by
  obtain ⟨w, b, r⟩ := c
  obtain ⟨w1, w3, b1, b2, r1, r3⟩ := h
  dsimp only at w1 w3 b1 b2 r1 r3
  have hw : w = 1 ∨ w = 2 ∨ w = 3 := by omega
  have hb : b = 1 ∨ b = 2 := by omega
  have hr : r = 1 ∨ r = 2 ∨ r = 3 := by omega
  rcases hw with rfl | rfl | rfl <;> rcases hb with rfl | rfl <;> rcases hr with rfl | rfl | rfl <;> decide +kernel
theorem m_mem {m : Nat} (h1 : 1 ≤ m) (h5 : m ≤ 5) : m ∈ msL := by
  have h : m = 1 ∨ m = 2 ∨ m = 3 ∨ m = 4 ∨ m = 5 := by omega
  rcases h with rfl | rfl | rfl | rfl | rfl <;> decide
theorem sure_fact {c : Cd} (h : CdOk c) {y : Int} (h0 : 0 ≤ y) (hw : y < c.w) {m : Nat} (h1 : 1 ≤ m) (h5 : m ≤ 5) : chkS c y m = true := by
  have hc := List.all_eq_true.mp sure_all c (code_mem h)
  have w3 := h.w3
  have hy : y ∈ ysL := by
    have : y = 0 ∨ y = 1 ∨ y = 2 := by omega
    rcases this with rfl | rfl | rfl <;> decide
  have := List.all_eq_true.mp hc y hy
  rw [decide_eq_true hw] at this
  exact List.all_eq_true.mp (by simpa using this) m (m_mem h1 h5)
theorem bars_fact {c : Cd} (h : CdOk c) {s : Sa} (hs : SaOk c s) {m : Nat} (h1 : 1 ≤ m) (h5 : m ≤ 5) : chkB c s m = true := by
  have hc := List.all_eq_true.mp bars_all c (code_mem h)
  have w3 := h.w3
  obtain ⟨y, l⟩ := s
  obtain ⟨y0, yw, l0, l3⟩ := hs
  dsimp only at y0 yw l0 l3
  have hy : y ∈ ysL := by
    have : y = 0 ∨ y = 1 ∨ y = 2 := by omega
    rcases this with rfl | rfl | rfl <;> decide
  have hl : l ∈ lsL := by
    have : l = 0 ∨ l = 1 ∨ l = 2 ∨ l = 3 := by omega
    rcases this with rfl | rfl | rfl | rfl <;> decide
  have := List.all_eq_true.mp hc y hy
  rw [decide_eq_true yw] at this
  have h2 : ∀ l ∈ lsL, ∀ m ∈ msL, chkB c (y, l) m = true := by simpa using this
  exact h2 l hl m (m_mem h1 h5)
end PD.Q
end
section
set_option linter.all false
set_option maxRecDepth 100000
set_option maxHeartbeats 400000
/-! the draws of a law -/
namespace PD.Q
open PySem
local macro_rules | `(tactic| walk_at "le") => `(tactic| first | exact Nat.le_of_ble_eq_true rfl | exact Nat.lt_of_lt_of_le (Nat.le_of_ble_eq_true rfl) (Nat.le_refl _) | (with_reducible assumption) | (simp only [line, List.length_map, List.length_append, List.length_cons, List.length_nil, List.length_set] at *; omega) | fail "stuck")
local macro_rules | `(tactic| walk_at "op") => `(tactic| first | (with_reducible assumption) | rfl | exact bo_mulR (by decide) | exact bo_mulL (by decide) | exact bo_mod (by first | decide | (with_reducible assumption) | omega) | exact bo_fdiv (by first | decide | (with_reducible assumption) | omega) (by first | decide | (with_reducible assumption) | omega) | (with_reducible assumption) | fail "stuck")
local macro_rules | `(tactic| walk_at "cmp") => `(tactic| first | exact cmp_eqI | exact cmp_neI | exact cmp_eqB | exact cmp_neB | exact cmp_eqS (by decide +kernel) (by decide +kernel) | exact cmp_neS (by decide +kernel) (by decide +kernel) | rfl | (with_reducible assumption) | fail "stuck")
local macro_rules | `(tactic| walk_at "call") => `(tactic| first | (with_reducible assumption) | fail "stuck")
local macro_rules | `(tactic| walk_at "tt") => `(tactic| first | (with_reducible assumption) | rfl | exact truth_decide | (with_reducible assumption) | fail "stuck")
local macro_rules | `(tactic| walk_at "bi") => `(tactic| first | (with_reducible assumption) | exact mu_append (by walk_at "le") | exact mu_extend (by walk_at "le") | rfl | fail "stuck")
local macro_rules | `(tactic| walk_at "dec") => `(tactic| (intro hh; first | (with_reducible exact absurd hh Bool.false_ne_true) | (with_reducible exact absurd hh.symm Bool.false_ne_true) | (exact absurd hh (by decide +kernel)) | ((with_reducible replace hh := of_decide_eq_true hh); first | (with_reducible contradiction) | skip) | ((with_reducible replace hh := of_decide_eq_false hh); first | (with_reducible contradiction) | skip) | skip))
local macro_rules | `(tactic| walk_at "w1") => `(tactic| first
  | (with_reducible refine' we_cst ?_) | ((with_reducible refine' we_var ?g1 ?g2); (case g1 => exact rfl))
  | (with_reducible refine' we_bin ?_) | ((with_reducible refine' kBin_i ?g1 ?g2 ?g3 ?g4); (case g1 => exact rfl); (case g2 => exact rfl); (case g3 => walk_at "op"))
  | (with_reducible refine' we_cmp ?_) | ((with_reducible refine' kCmp_i ?g1 ?g2 ?g3 ?g4); (case g1 => exact rfl); (case g2 => exact rfl); (case g3 => walk_at "cmp"))
  | (with_reducible refine' we_sub ?_) | ((with_reducible refine' kSub_i ?g1 ?g2 ?g3 ?g4); (case g1 => exact rfl); (case g2 => exact rfl); (case g3 => walk_at "op"))
  | (with_reducible refine' we_tup ?_) | ((with_reducible refine' kTup_i ?g1 ?g2 ?g3); (case g1 => exact rfl); (case g2 => walk_at "le"))
  | (with_reducible refine' we_lst ?_) | ((with_reducible refine' kLst_i ?g1 ?g2 ?g3); (case g1 => exact rfl); (case g2 => walk_at "le"))
  | (with_reducible refine' wl_cons ?_) | (with_reducible refine' wl_nil ?_)
  | (with_reducible refine' we_call ?_) | ((with_reducible refine' w_ownG ?g1 ?g2 ?g3 ?g4 ?g5); (case g1 => exact rfl); (case g2 => exact rfl); (case g3 => exact rfl); (case g4 => walk_at "call"))
  | (with_reducible refine' we_bi ?_) | ((with_reducible refine' kBi_i ?g1 ?g2 ?g3); (case g1 => exact rfl); (case g2 => walk_at "bi"))
  | (with_reducible refine' wt_e ?_) | ((with_reducible refine' kT_i ?g1 ?g2 ?g3); (case g1 => exact rfl); (case g2 => walk_at "tt"))
  | (with_reducible refine' wt_nt ?_) | (with_reducible refine' wt_an ?_) | ((with_reducible refine' kAnT_i ?_ ?_) <;> walk_at "dec") | (with_reducible refine' wt_or ?_) | ((with_reducible refine' kOrT_i ?_ ?_) <;> walk_at "dec")
  | (with_reducible refine' we_neg ?_) | ((with_reducible refine' kNeg_i ?g1 ?g2); (case g1 => exact rfl))
  | (with_reducible refine' we_nt ?_) | ((with_reducible refine' kNt_i ?g1 ?g2 ?g3); (case g1 => exact rfl); (case g2 => walk_at "tt"))
  | (with_reducible refine' we_an ?_) | ((with_reducible refine' kAn_i ?g1 ?g2 ?g3 ?g4); (case g1 => exact rfl); (case g2 => walk_at "tt"); (case' g3 => walk_at "dec"); (case' g4 => walk_at "dec"))
  | (with_reducible refine' we_or ?_) | ((with_reducible refine' kOr_i ?g1 ?g2 ?g3 ?g4); (case g1 => exact rfl); (case g2 => walk_at "tt"); (case' g3 => walk_at "dec"); (case' g4 => walk_at "dec"))
  | (with_reducible refine' we_chn ?_) | ((with_reducible refine' kChn_i ?g1 ?g2 ?g3 ?g4 ?g5); (case g1 => exact rfl); (case g2 => exact rfl); (case g3 => walk_at "cmp"); (case' g4 => walk_at "dec"); (case' g5 => walk_at "dec"))
  | (with_reducible refine' we_ite ?_) | ((with_reducible refine' kIte_i ?_ ?_) <;> walk_at "dec")
  | (with_reducible refine' we_isi ?_) | ((with_reducible refine' kIsi_i ?g1 ?g2 ?g3); (case g1 => exact rfl); (case g2 => exact rfl))
  | (with_reducible refine' we_slA ?_) | ((with_reducible refine' kSlA_i ?g1 ?g2 ?g3); (case g1 => exact rfl); (case g2 => exact rfl))
  | (with_reducible refine' we_slF ?_) | ((with_reducible refine' kSlF_i ?g1 ?g2 ?g3 ?g4); (case g1 => exact rfl); (case g2 => exact rfl); (case g3 => exact rfl))
  | (with_reducible refine' we_slT ?_) | ((with_reducible refine' kSlT_i ?g1 ?g2 ?g3 ?g4); (case g1 => exact rfl); (case g2 => exact rfl); (case g3 => exact rfl))
  | (with_reducible refine' we_rev ?_) | ((with_reducible refine' kRev_i ?g1 ?g2); (case g1 => exact rfl))
  | (with_reducible refine' we_fn ?_) | (with_reducible refine' we_dct0 ?_) | (with_reducible refine' we_dct1 ?_) | ((with_reducible refine' kDct_i ?g1 ?g2 ?g3 ?g4); (case g1 => exact rfl); (case g2 => exact rfl); (case g3 => exact rfl))
  | (with_reducible refine' we_src ?_) | ((with_reducible refine' kSrc_i ?g1 ?g2); (case g1 => walk_at "bi"))
  | ((with_reducible refine' we_cav ?g1 ?g2 ?g3); (case g1 => exact rfl); (case g2 => exact rfl))
  | ((with_reducible refine' we_mu ?g1 ?g2); (case g1 => exact rfl)) | ((with_reducible refine' kMu_i ?g1 ?g2 ?g3 ?g4); (case g1 => exact rfl); (case g2 => exact rfl); (case g3 => walk_at "bi"))
  | (with_reducible refine' wl_star ?_) | ((with_reducible refine' kStar_i ?g1 ?g2 ?g3); (case g1 => exact rfl); (case g2 => exact rfl))
  | (with_reducible refine' ws_sq ?_) | ((with_reducible refine' kSq_i ?g1 ?g2); (case g1 => exact rfl))
  | (with_reducible refine' ws_rng ?_) | ((with_reducible refine' kRng_i ?g1 ?g2 ?g3); (case g1 => exact rfl); (case g2 => walk_at "bi"))
  | (with_reducible refine' ws_zip ?_) | ((with_reducible refine' kZip_i ?g1 ?g2 ?g3); (case g1 => exact rfl); (case g2 => exact rfl))
  | (with_reducible refine' ws_enm ?_) | ((with_reducible refine' kEnm_i ?g1 ?g2); (case g1 => exact rfl))
  | (with_reducible refine' sw_cons ?_) | (with_reducible refine' sw_nil ?_)
  | (with_reducible refine' sw_set ?_) | ((with_reducible refine' kSet_i ?g1 ?g2 ?g3); (case g1 => exact rfl); (case g2 => walk_at "le"))
  | (with_reducible refine' sw_par ?_) | ((with_reducible refine' kPar_i ?g1 ?g2 ?g3); (case g1 => exact rfl); (case g2 => exact rfl))
  | (with_reducible refine' sw_unp ?_) | ((with_reducible refine' kUnp_i ?g1 ?g2 ?g3); (case g1 => exact rfl); (case g2 => exact rfl))
  | (with_reducible refine' sw_iff ?_) | ((with_reducible refine' kIff_i ?_ ?_) <;> walk_at "dec")
  | (with_reducible refine' sw_ret ?_) | (with_reducible refine' kRet_v ?_) | ((with_reducible refine' kRet_r ?g1 ?g2); (case g1 => exact rfl))
  | ((with_reducible refine' sw_aug ?g1 ?g2); (case g1 => exact rfl)) | ((with_reducible refine' kAug_i ?g1 ?g2 ?g3 ?g4 ?g5); (case g1 => exact rfl); (case g2 => exact rfl); (case g3 => walk_at "op"); (case g4 => walk_at "le"))
  | (with_reducible refine' sw_ssb ?_) | ((with_reducible refine' kSsb_i ?g1 ?g2 ?g3 ?g4 ?g5); (case g1 => exact rfl); (case g2 => exact rfl); (case g3 => exact rfl); (case g4 => walk_at "op"))
  | (with_reducible refine' sw_ex ?_) | (with_reducible refine' sw_for ?_) | (with_reducible refine' sw_ps ?_) | (with_reducible refine' sw_br ?_) | (with_reducible refine' sw_ct ?_)
  | (with_reducible refine' we_comp ?_)
  | fail "stuck")
local macro_rules | `(tactic| walk_at "wk") => `(tactic| ((repeat' (walk_at "w1")) <;> (try dsimp only)))
def BagV (m : MV) : Prop := ∃ b0 b1 b2 cs, BagOk b0 b1 b2 cs ∧ m = .ml (bagL b0 b1 b2 cs)
theorem bag_free {m : MV} (h : BagV m) : m.free = true := by
  obtain ⟨_, _, _, _, _, rfl⟩ := h; rfl
theorem bag_dat {m : MV} (h : BagV m) : isP m = false := by
  obtain ⟨_, _, _, _, _, rfl⟩ := h; rfl
section
variable {G : Nat → Option FDef} {f n : Nat}
/-- a draw -/
theorem w_take {X : XQ} {Q : O → Env → Prop} {env : Env} {i : Nat} {o : O} {b : MV} {k : Int} (hG : G f = some A_take) (hb : env.at i = some b) (hv : BagV b) (ho : tkA o env = .ok (.d (.int k)) env) (h0 : 0 < k) (h1 : k < 1073741824)
    (hq : ∀ v b', 0 ≤ v → v < k → BagV b' → Q (.v (.d (.int v))) (env.set i (some b'))) : wE X Q (own (callF G (n + 1) f) [.r i, o] env) := by
  obtain ⟨b0, b1, b2, cs, hok, rfl⟩ := hv
  obtain ⟨v, b0', b1', b2', h2, h3, h4, h5⟩ := take_spec (callF G n) hok h0 h1
  have hbv : BagV (.ml (bagL b0' b1' b2' cs)) := ⟨b0', b1', b2', cs, h4, rfl⟩
  refine w_ioG (j := 0) (i := i) (as := [.d .none, .d (.int k)]) (m0 := .ml (bagL b0 b1 b2 cs)) hG rfl ?_ rfl hb rfl (m1 := .ml (bagL b0' b1' b2' cs)) (m := .d (.int v)) ?_ rfl (hq v _ h2 h3 hbv)
  · exact bind_of (bind_of ho rfl) rfl
  · have e : (callF G (n + 1) f).run = runDef (callF G n) A_take := by rw [callF, hG]
    rw [e]; exact h5
/-- _law_some, the draw being t -/
def A_some (t : Nat) : FDef := ⟨2, 2, some 0, (.cons (.ret (.sub (.var 1) (.call t (.cons (.var 0) (.cons (.bi .len (.cons (.var 1) .nil)) .nil))))) .nil)⟩
theorem item_in {xs : List PyData} {v : Int} (h0 : 0 ≤ v) (h1 : v < xs.length) : ∃ k, ∃ x, xs[k]? = some x ∧ v = (k : Nat) ∧ item (.list xs) (.int v) = some x ∧ item (.tuple xs) (.int v) = some x := by
  obtain ⟨k, rfl⟩ : ∃ k : Nat, v = (k : Int) := ⟨v.toNat, by omega⟩
  have hk : k < xs.length := by omega
  have e : ix xs.length (k : Int) = some k := by
    show L2.ixN xs.length (k : Int) = some k
    unfold L2.ixN
    simp only [show (0 : Int) ≤ (k : Int) by omega, show (k : Int) < (xs.length : Int) by omega, and_self, if_true]
    simp
  refine ⟨k, xs[k], List.getElem?_eq_getElem hk, rfl, ?_, ?_⟩
  · show (match ix xs.length (k : Int) with | some k => xs[k]? | none => none) = _
    rw [e]; exact List.getElem?_eq_getElem hk
  · show (match ix xs.length (k : Int) with | some k => xs[k]? | none => none) = _
    rw [e]; exact List.getElem?_eq_getElem hk
theorem some_run {t : Nat} (hG : G f = some (A_some t)) (hT : G t = some A_take) {b : MV} (hv : BagV b) {p : PyData} {xs : List PyData} (hp : p = .list xs ∨ p = .tuple xs) (hx : xs ≠ []) (hl : xs.length ≤ 1000000) :
    ∃ (k : Nat) (x : PyData) (b' : MV), xs[k]? = some x ∧ BagV b' ∧ (callF G (n + 2) f).run [b, .d p] = .ok (.d x) (some b') := by
  have key : (fun r => ∃ (k : Nat) (x : PyData) (b' : MV), xs[k]? = some x ∧ BagV b' ∧ r = CR.ok (.d x) (some b')) ((callF G (n + 1 + 1) f).run [b, .d p]) := by
    refine fn_io (P := fun r => ∃ (k : Nat) (x : PyData) (b' : MV), xs[k]? = some x ∧ BagV b' ∧ r = CR.ok (.d x) (some b')) (F := A_some t) (args := [b, .d p]) hG rfl rfl (Ev := [some b, some (.d p)]) rfl ?_
    dsimp only [A_some]
    have hpos : 0 < xs.length := List.length_pos_iff.mpr hx
    have hlen : builtin .len [p] = some (.d (.int xs.length)) := by rcases hp with rfl | rfl <;> rfl
    walk_at "wk"
    refine w_take hT rfl hv rfl (by omega) (by omega) ?_
    intro v b' h0 h1 hb'
    obtain ⟨k, x, hk, rfl, h2, h3⟩ := item_in h0 h1
    have hit : item p (.int (k : Int)) = some x := by rcases hp with rfl | rfl <;> assumption
    walk_at "wk"
    exact ⟨b', rfl, bag_free hb', k, x, b', hk, hb', rfl⟩
  obtain ⟨k, x, b', h1, h2, h3⟩ := key
  exact ⟨k, x, b', h1, h2, h3⟩
theorem w_some {t : Nat} {X : XQ} {Q : O → Env → Prop} {env : Env} {i : Nat} {o : O} {b : MV} {p : PyData} {xs : List PyData} (hG : G f = some (A_some t)) (hT : G t = some A_take) (hb : env.at i = some b) (hv : BagV b) (ho : tkA o env = .ok (.d p) env) (hp : p = .list xs ∨ p = .tuple xs) (hx : xs ≠ []) (hl : xs.length ≤ 1000000)
    (hq : ∀ (k : Nat) (x : PyData) (b' : MV), xs[k]? = some x → BagV b' → Q (.v (.d x)) (env.set i (some b'))) : wE X Q (own (callF G (n + 2) f) [.r i, o] env) := by
  obtain ⟨k, x, b', h1, h2, h3⟩ := some_run (n := n) hG hT hv hp hx hl
  refine w_ioG (n := n + 1) (F := A_some t) (j := 0) (i := i) (as := [.d .none, .d p]) (m0 := b) (m1 := b') hG rfl ?_ rfl hb (bag_free hv) h3 (bag_free h2) (hq k x b' h1 h2)
  exact bind_of (bind_of ho rfl) rfl
def A_bag : FDef := ⟨1, 2, none, (.cons (.ret (.lst (.cons (.cst (.int 0)) (.cons (.cst (.int 1234567891)) (.cons (.cst (.int 0)) (.cons (.comp (.bi .abs (.cons (.var 1) .nil)) (.n 1) (.sq (.slT (.var 0) (.cst (.int 63)))) (.e (.cst (.bool true)))) .nil)))))) .nil)⟩
theorem bag_run (hG : G f = some A_bag) (ns : List Int) : ∃ b, BagV b ∧ (callF G (n + 1) f).run [.sc (ns.map .int)] = .ok b none := by
  refine ⟨.ml (bagL 0 1234567891 0 ((cutL ns none (some 63)).map fun i => if i < 0 then -i else i)), ⟨_, _, _, _, ⟨by decide, by decide, by decide, by decide, ?_, ?_⟩, rfl⟩, ?_⟩
  · intro c hc
    obtain ⟨i, _, rfl⟩ := List.mem_map.mp hc
    split <;> omega
  · rw [List.length_map]
    have e : cutL ns none (some ((63 : Nat) : Int)) = ns.take (min 63 ns.length) := by
      unfold cutL
      rw [HT.sIx_none, HT.sIx_nat]; rfl
    have e2 : cutL ns none (some (63 : Int)) = ns.take (min 63 ns.length) := e
    rw [e2, List.length_take]; omega
  · refine fn_ok (F := A_bag) hG rfl rfl (Ev := [some (.sc (ns.map .int)), none]) rfl ?_
    dsimp only [A_bag]
    walk_at "wk"
    have hz : (cutL ns none (some (63 : Int))).length ≤ 63 := by
      have e : cutL ns none (some ((63 : Nat) : Int)) = ns.take (min 63 ns.length) := by
        unfold cutL
        rw [HT.sIx_none, HT.sIx_nat]; rfl
      have e2 : cutL ns none (some (63 : Int)) = ns.take (min 63 ns.length) := e
      rw [e2, List.length_take]; omega
    refine kComp_m (F := fun i => .int (if i < 0 then -i else i)) (g := PyData.int) (ws := cutL ns none (some 63)) (cut_map _ _ _ _) rfl rfl (by simp only [line]; omega) (fun i hi => ⟨_, rfl, rfl, rfl, ?_⟩) ?_
    · walk_at "wk"
      rfl
    · walk_at "wk"
      rw [bagL, List.map_map]; rfl
end
end PD.Q
end
section
set_option linter.all false
set_option maxRecDepth 100000
set_option maxHeartbeats 400000
/-! k30: draws, what is alike -/
namespace PD.Q
open PySem
local macro_rules | `(tactic| walk_at "le") => `(tactic| first | exact Nat.le_of_ble_eq_true rfl | exact Nat.lt_of_lt_of_le (Nat.le_of_ble_eq_true rfl) (Nat.le_refl _) | (with_reducible assumption) | (simp only [line, List.length_map, List.length_append, List.length_cons, List.length_nil, List.length_set] at *; omega) | fail "stuck")
local macro_rules | `(tactic| walk_at "op") => `(tactic| first | (with_reducible assumption) | rfl | exact bo_mulR (by decide) | exact bo_mulL (by decide) | exact bo_mod (by first | decide | (with_reducible assumption) | omega) | exact bo_fdiv (by first | decide | (with_reducible assumption) | omega) (by first | decide | (with_reducible assumption) | omega) | (with_reducible assumption) | fail "stuck")
local macro_rules | `(tactic| walk_at "cmp") => `(tactic| first | exact cmp_eqI | exact cmp_neI | exact cmp_eqB | exact cmp_neB | exact cmp_eqS (by decide +kernel) (by decide +kernel) | exact cmp_neS (by decide +kernel) (by decide +kernel) | rfl | (with_reducible assumption) | fail "stuck")
local macro_rules | `(tactic| walk_at "call") => `(tactic| first | (with_reducible assumption) | fail "stuck")
local macro_rules | `(tactic| walk_at "tt") => `(tactic| first | (with_reducible assumption) | rfl | exact truth_decide | (with_reducible assumption) | fail "stuck")
local macro_rules | `(tactic| walk_at "bi") => `(tactic| first | (with_reducible assumption) | exact mu_append (by walk_at "le") | exact mu_extend (by walk_at "le") | rfl | fail "stuck")
local macro_rules | `(tactic| walk_at "dec") => `(tactic| (intro hh; first | (with_reducible exact absurd hh Bool.false_ne_true) | (with_reducible exact absurd hh.symm Bool.false_ne_true) | (exact absurd hh (by decide +kernel)) | ((with_reducible replace hh := of_decide_eq_true hh); first | (with_reducible contradiction) | skip) | ((with_reducible replace hh := of_decide_eq_false hh); first | (with_reducible contradiction) | skip) | skip))
local macro_rules | `(tactic| walk_at "w1") => `(tactic| first
  | (with_reducible refine' we_cst ?_) | ((with_reducible refine' we_var ?g1 ?g2); (case g1 => exact rfl))
  | (with_reducible refine' we_bin ?_) | ((with_reducible refine' kBin_i ?g1 ?g2 ?g3 ?g4); (case g1 => exact rfl); (case g2 => exact rfl); (case g3 => walk_at "op"))
  | (with_reducible refine' we_cmp ?_) | ((with_reducible refine' kCmp_i ?g1 ?g2 ?g3 ?g4); (case g1 => exact rfl); (case g2 => exact rfl); (case g3 => walk_at "cmp"))
  | (with_reducible refine' we_sub ?_) | ((with_reducible refine' kSub_i ?g1 ?g2 ?g3 ?g4); (case g1 => exact rfl); (case g2 => exact rfl); (case g3 => walk_at "op"))
  | (with_reducible refine' we_tup ?_) | ((with_reducible refine' kTup_i ?g1 ?g2 ?g3); (case g1 => exact rfl); (case g2 => walk_at "le"))
  | (with_reducible refine' we_lst ?_) | ((with_reducible refine' kLst_i ?g1 ?g2 ?g3); (case g1 => exact rfl); (case g2 => walk_at "le"))
  | (with_reducible refine' wl_cons ?_) | (with_reducible refine' wl_nil ?_)
  | (with_reducible refine' we_call ?_) | ((with_reducible refine' w_ownG ?g1 ?g2 ?g3 ?g4 ?g5); (case g1 => exact rfl); (case g2 => exact rfl); (case g3 => exact rfl); (case g4 => walk_at "call"))
  | (with_reducible refine' we_bi ?_) | ((with_reducible refine' kBi_i ?g1 ?g2 ?g3); (case g1 => exact rfl); (case g2 => walk_at "bi"))
  | (with_reducible refine' wt_e ?_) | ((with_reducible refine' kT_i ?g1 ?g2 ?g3); (case g1 => exact rfl); (case g2 => walk_at "tt"))
  | (with_reducible refine' wt_nt ?_) | (with_reducible refine' wt_an ?_) | ((with_reducible refine' kAnT_i ?_ ?_) <;> walk_at "dec") | (with_reducible refine' wt_or ?_) | ((with_reducible refine' kOrT_i ?_ ?_) <;> walk_at "dec")
  | (with_reducible refine' we_neg ?_) | ((with_reducible refine' kNeg_i ?g1 ?g2); (case g1 => exact rfl))
  | (with_reducible refine' we_nt ?_) | ((with_reducible refine' kNt_i ?g1 ?g2 ?g3); (case g1 => exact rfl); (case g2 => walk_at "tt"))
  | (with_reducible refine' we_an ?_) | ((with_reducible refine' kAn_i ?g1 ?g2 ?g3 ?g4); (case g1 => exact rfl); (case g2 => walk_at "tt"); (case' g3 => walk_at "dec"); (case' g4 => walk_at "dec"))
  | (with_reducible refine' we_or ?_) | ((with_reducible refine' kOr_i ?g1 ?g2 ?g3 ?g4); (case g1 => exact rfl); (case g2 => walk_at "tt"); (case' g3 => walk_at "dec"); (case' g4 => walk_at "dec"))
  | (with_reducible refine' we_chn ?_) | ((with_reducible refine' kChn_i ?g1 ?g2 ?g3 ?g4 ?g5); (case g1 => exact rfl); (case g2 => exact rfl); (case g3 => walk_at "cmp"); (case' g4 => walk_at "dec"); (case' g5 => walk_at "dec"))
  | (with_reducible refine' we_ite ?_) | ((with_reducible refine' kIte_i ?_ ?_) <;> walk_at "dec")
  | (with_reducible refine' we_isi ?_) | ((with_reducible refine' kIsi_i ?g1 ?g2 ?g3); (case g1 => exact rfl); (case g2 => exact rfl))
  | (with_reducible refine' we_slA ?_) | ((with_reducible refine' kSlA_i ?g1 ?g2 ?g3); (case g1 => exact rfl); (case g2 => exact rfl))
  | (with_reducible refine' we_slF ?_) | ((with_reducible refine' kSlF_i ?g1 ?g2 ?g3 ?g4); (case g1 => exact rfl); (case g2 => exact rfl); (case g3 => exact rfl))
  | (with_reducible refine' we_slT ?_) | ((with_reducible refine' kSlT_i ?g1 ?g2 ?g3 ?g4); (case g1 => exact rfl); (case g2 => exact rfl); (case g3 => exact rfl))
  | (with_reducible refine' we_rev ?_) | ((with_reducible refine' kRev_i ?g1 ?g2); (case g1 => exact rfl))
  | (with_reducible refine' we_fn ?_) | (with_reducible refine' we_dct0 ?_) | (with_reducible refine' we_dct1 ?_) | ((with_reducible refine' kDct_i ?g1 ?g2 ?g3 ?g4); (case g1 => exact rfl); (case g2 => exact rfl); (case g3 => exact rfl))
  | (with_reducible refine' we_src ?_) | ((with_reducible refine' kSrc_i ?g1 ?g2); (case g1 => walk_at "bi"))
  | ((with_reducible refine' we_cav ?g1 ?g2 ?g3); (case g1 => exact rfl); (case g2 => exact rfl))
  | ((with_reducible refine' we_mu ?g1 ?g2); (case g1 => exact rfl)) | ((with_reducible refine' kMu_i ?g1 ?g2 ?g3 ?g4); (case g1 => exact rfl); (case g2 => exact rfl); (case g3 => walk_at "bi"))
  | (with_reducible refine' wl_star ?_) | ((with_reducible refine' kStar_i ?g1 ?g2 ?g3); (case g1 => exact rfl); (case g2 => exact rfl))
  | (with_reducible refine' ws_sq ?_) | ((with_reducible refine' kSq_i ?g1 ?g2); (case g1 => exact rfl))
  | (with_reducible refine' ws_rng ?_) | ((with_reducible refine' kRng_i ?g1 ?g2 ?g3); (case g1 => exact rfl); (case g2 => walk_at "bi"))
  | (with_reducible refine' ws_zip ?_) | ((with_reducible refine' kZip_i ?g1 ?g2 ?g3); (case g1 => exact rfl); (case g2 => exact rfl))
  | (with_reducible refine' ws_enm ?_) | ((with_reducible refine' kEnm_i ?g1 ?g2); (case g1 => exact rfl))
  | (with_reducible refine' sw_cons ?_) | (with_reducible refine' sw_nil ?_)
  | (with_reducible refine' sw_set ?_) | ((with_reducible refine' kSet_i ?g1 ?g2 ?g3); (case g1 => exact rfl); (case g2 => walk_at "le"))
  | (with_reducible refine' sw_par ?_) | ((with_reducible refine' kPar_i ?g1 ?g2 ?g3); (case g1 => exact rfl); (case g2 => exact rfl))
  | (with_reducible refine' sw_unp ?_) | ((with_reducible refine' kUnp_i ?g1 ?g2 ?g3); (case g1 => exact rfl); (case g2 => exact rfl))
  | (with_reducible refine' sw_iff ?_) | ((with_reducible refine' kIff_i ?_ ?_) <;> walk_at "dec")
  | (with_reducible refine' sw_ret ?_) | (with_reducible refine' kRet_v ?_) | ((with_reducible refine' kRet_r ?g1 ?g2); (case g1 => exact rfl))
  | ((with_reducible refine' sw_aug ?g1 ?g2); (case g1 => exact rfl)) | ((with_reducible refine' kAug_i ?g1 ?g2 ?g3 ?g4 ?g5); (case g1 => exact rfl); (case g2 => exact rfl); (case g3 => walk_at "op"); (case g4 => walk_at "le"))
  | (with_reducible refine' sw_ssb ?_) | ((with_reducible refine' kSsb_i ?g1 ?g2 ?g3 ?g4 ?g5); (case g1 => exact rfl); (case g2 => exact rfl); (case g3 => exact rfl); (case g4 => walk_at "op"))
  | (with_reducible refine' sw_ex ?_) | (with_reducible refine' sw_for ?_) | (with_reducible refine' sw_ps ?_) | (with_reducible refine' sw_br ?_) | (with_reducible refine' sw_ct ?_)
  | (with_reducible refine' we_comp ?_)
  | fail "stuck")
local macro_rules | `(tactic| walk_at "wk") => `(tactic| ((repeat' (walk_at "w1")) <;> (try dsimp only)))
local macro_rules | `(tactic| walk_at "call") => `(tactic| ((with_reducible show (callF G_k30 _ 19).run _ = _); refine' r19 ?_ ?_ ?a ?_ ?_ ?b; (case a => with_reducible assumption); (case b => with_reducible assumption)))
theorem r18 (n : Nat) {b : MV} (hb : BagV b) : ∃ c b', CdOk c ∧ BagV b' ∧ (callF G_k30 (n + 2) 18).run [b] = .ok (.d c.d) (some b') := by
  have key : (fun r => ∃ c b', CdOk c ∧ BagV b' ∧ r = CR.ok (.d c.d) (some b')) ((callF G_k30 (n + 1 + 1) 18).run [b]) := by
    refine fn_io (P := fun r => ∃ c b', CdOk c ∧ BagV b' ∧ r = CR.ok (.d c.d) (some b')) (F := A_k30_18) (args := [b]) rfl rfl rfl (Ev := [some b]) rfl ?_
    dsimp only [A_k30_18]
    walk_at "wk"
    refine w_take rfl rfl hb rfl (by decide) (by decide) fun v1 b1 h0 h1 hb1 => ?_
    walk_at "wk"
    refine w_take rfl rfl hb1 rfl (by decide) (by decide) fun v2 b2 h2 h3 hb2 => ?_
    walk_at "wk"
    refine w_take rfl rfl hb2 rfl (by decide) (by decide) fun v3 b3 h4 h5 hb3 => ?_
    walk_at "wk"
    exact ⟨b3, rfl, bag_free hb3, ⟨1 + v1, 1 + v2, 1 + v3⟩, b3, ⟨by show 1 ≤ 1 + v1; omega, by show 1 + v1 ≤ 3; omega, by show 1 ≤ 1 + v2; omega, by show 1 + v2 ≤ 2; omega, by show 1 ≤ 1 + v3; omega, by show 1 + v3 ≤ 3; omega⟩, hb3, rfl⟩
  exact key
theorem lett_ne (s : Sa) : lettersF s ≠ [] := by unfold lettersF; split <;> simp
theorem r21 (n : Nat) {b : MV} (hb : BagV b) (c : Cd) (hc : CdOk c) (m : Nat) (hm : m ≤ 50) : ∃ (p : Pl1 c) (b' : MV), p.ls.length = m ∧ BagV b' ∧ (callF G_k30 (n + 3) 21).run [b, .d c.d, .d (.int m)] = .ok (.d (plD p)) (some b') := by
  have key : (fun r => ∃ (p : Pl1 c) (b' : MV), p.ls.length = m ∧ BagV b' ∧ r = CR.ok (.d (plD p)) (some b')) ((callF G_k30 (n + 2 + 1) 21).run [b, .d c.d, .d (.int m)]) := by
    refine fn_io (P := fun r => ∃ (p : Pl1 c) (b' : MV), p.ls.length = m ∧ BagV b' ∧ r = CR.ok (.d (plD p)) (some b')) (F := A_k30_21) (args := [b, .d c.d, .d (.int m)]) rfl rfl rfl (Ev := [some b, some (.d c.d), some (.d (.int m)), none, none]) rfl ?_
    dsimp only [A_k30_21]
    have hr : rng [.int (m : Int)] = some ((List.range m).map fun k : Nat => PyData.int ((k : Int))) := by rw [← range_map, ← rng_n m (by omega)]
    walk_at "wk"
    refine kFor_i (loop_ind (fun k : Nat => PyData.int (k : Int)) (fun ks e => ∃ b ls s x, BagV b ∧ e = [some b, some (.d c.d), some (.d (.int m)), some (.d (.tuple (ltsD ls))), x] ∧ foldF c ls (0, 0) = some s ∧ ls.length + ks.length = m) (List.range m) ⟨b, [], (0, 0), _, hb, rfl, rfl, by rw [List.length_range]; simp⟩ ?_ ?_)
    · rintro k ks e ⟨b, ls, s, x, hb, rfl, hf, hl⟩
      refine ⟨_, rfl, ?_⟩
      rw [List.length_cons] at hl
      walk_at "wk"
      refine w_some (f := 15) (t := 14) rfl rfl rfl hb rfl (.inl rfl) (by rw [ltsD]; intro h; exact lett_ne s (List.map_eq_nil_iff.mp h)) (by have := lett_len s; rw [ltsD, List.length_map]; omega) fun i x b' hx hb' => ?_
      obtain ⟨l, hl2, rfl⟩ : ∃ l, l ∈ lettersF s ∧ x = l.s := by
        rw [ltsD, List.getElem?_map] at hx
        cases hg : (lettersF s)[i]? with
        | none => rw [hg] at hx; cases hx
        | some l => rw [hg] at hx; cases hx; exact ⟨l, List.mem_of_getElem? hg, rfl⟩
      have hadd : binop .add (.tuple (ltsD ls)) (.tuple [l.s]) = some (.d (.tuple (ltsD (ls ++ [l])))) := by
        rw [bo_addT (by simp only [ltsD, List.length_map, List.length_singleton, line]; omega), ltsD, ltsD, List.map_append]; rfl
      walk_at "wk"
      exact ⟨b', ls ++ [l], nextF c s l, _, hb', rfl, fold_snoc _ _ _ hf hl2, by rw [List.length_append, List.length_singleton]; omega⟩
    · rintro e ⟨b, ls, s, x, hb, rfl, hf, hl⟩
      walk_at "wk"
      exact ⟨b, rfl, bag_free hb, ⟨ls, s, hf⟩, b, by rw [List.length_nil] at hl; omega, hb, rfl⟩
  exact key
theorem alike_ok (n : Nat) {d e1 e2 : PyData} (hn : Nice d) (hs : sz d ≤ 4000) (h1 : e1 = d) (h2 : e2 = d) : (callF G_k30 (n + 1) 16).run [.d e1, .d e2] = .ok (.d (.bool true)) none := by
  have e : (callF G_k30 (n + 1) 16).run = runDef (callF G_k30 n) A_alike := rfl
  rw [e, h1, h2]; exact run_alike _ hn hs
theorem nice_lt (l : Lt) : Nice l.s := by
  cases l
  all_goals exact .flat (by decide +kernel) rfl
theorem nice_lts (ls : List Lt) : Nice (.tuple (ltsD ls)) := .tup fun x hx => by
  obtain ⟨l, _, rfl⟩ := List.mem_map.mp hx
  exact nice_lt l
theorem nice_nats (ks : List Nat) : Nice (.tuple (natsD ks)) := .tup fun x hx => by
  obtain ⟨k, _, rfl⟩ := List.mem_map.mp hx
  exact nice_int _
theorem nice_l2 {a b : PyData} (ha : Nice a) (hb : Nice b) : Nice (.list [a, b]) := .lst fun x hx => by
  rcases List.mem_cons.mp hx with rfl | hx
  · exact ha
  · rw [List.mem_singleton.mp hx]; exact hb
theorem sz_lts : ∀ ls : List Lt, szL (ltsD ls) = ls.length
  | [] => rfl
  | l :: ls => by
    show sz l.s + szL (ltsD ls) = _
    rw [sz_lts ls, List.length_cons]
    cases l <;> simp [Lt.s, sz] <;> omega
theorem sz_nats : ∀ ks : List Nat, szL (natsD ks) = ks.length
  | [] => rfl
  | k :: ks => by
    show sz (.int _) + szL (natsD ks) = _
    rw [sz_nats ks, List.length_cons]
    simp [sz]; omega
theorem sz_l2 (a b : PyData) : sz (.list [a, b]) = sz a + sz b + 1 := by simp [sz, szL]
/-! == [] -/
theorem sh_lt (n : Nat) (l : Lt) : Sh n l.s := by
  cases l
  all_goals exact ⟨by decide +kernel, by simp [Lt.s, PyData.depth]⟩
theorem eq_nilW (ws : List (List Lt)) : cmpD .eq (.list (ws.map wD)) (.list []) = some ws.isEmpty := by
  have h : Sh 2 (.list (ws.map wD)) := sh_lst fun x hx => by
    obtain ⟨w, _, rfl⟩ := List.mem_map.mp hx
    exact sh_tup fun y hy => by
      obtain ⟨l, _, rfl⟩ := List.mem_map.mp hy
      exact sh_lt 0 l
  have := eq_nil (sh_ok h (by omega))
  show eqD _ _ = _
  rw [this]; cases ws <;> rfl
theorem ne_nilW (ws : List (List Lt)) : cmpD .ne (.list (ws.map wD)) (.list []) = some (!ws.isEmpty) := by
  show (cmpD .eq (.list (ws.map wD)) (.list [])).map not = _
  rw [eq_nilW]; rfl
theorem eq_nil1 {ι : Type} (ws : List ι) : cmpD .eq (.list (ws.map fun _ => PyData.int 1)) (.list []) = some ws.isEmpty := by
  have h : Sh 1 (.list (ws.map fun _ => PyData.int 1)) := sh_lst fun x hx => by
    obtain ⟨w, _, rfl⟩ := List.mem_map.mp hx
    exact sh_int 0 1
  have := eq_nil (sh_ok h (by omega))
  show eqD _ _ = _
  rw [this]; cases ws <;> rfl
theorem in_w (l : Lt) (hf : l = .r ∨ l = .b) : ∀ w : List Lt, isIn l.s (.tuple (ltsD w)) = some (decide (l ∈ w)) := by
  intro w
  have h1 : flatD l.s = true := by cases l <;> rfl
  have h2 : (ltsD w).all flatD = true := by
    rw [ltsD, List.all_map]
    exact List.all_eq_true.mpr fun x _ => by cases x <;> rfl
  show (if flatD l.s = true ∧ (ltsD w).all flatD = true then some ((ltsD w).any fun z => PyData.eqv z l.s) else none) = _
  rw [if_pos ⟨h1, h2⟩, ltsD, List.any_map]
  congr 1
  have he : ∀ x : Lt, PyData.eqv x.s l.s = decide (x = l) := fun x => by cases x <;> cases l <;> decide +kernel
  rw [Bool.eq_iff_iff, List.any_eq_true, decide_eq_true_iff]
  constructor
  · rintro ⟨x, hx, h⟩
    have h : PyData.eqv x.s l.s = true := h
    rw [he] at h
    rw [← of_decide_eq_true h]; exact hx
  · intro hx
    exact ⟨l, hx, by show PyData.eqv l.s l.s = true; rw [he]; simp⟩
theorem notin_r (w : List Lt) : cmpD .notin (.str "r") (.tuple (ltsD w)) = some (!decide (Lt.r ∈ w)) := by
  show (isIn Lt.r.s (.tuple (ltsD w))).map not = _
  rw [in_w .r (.inl rfl)]; rfl
theorem in_b (w : List Lt) : cmpD .isin (.str "b") (.tuple (ltsD w)) = some (decide (Lt.b ∈ w)) := in_w .b (.inr rfl) w
theorem item_last {xs : List PyData} {x : PyData} (h : xs.getLast? = some x) : item (.tuple xs) (.int (-1)) = some x := by
  have hne : xs ≠ [] := by intro e; subst e; cases h
  have hpos : 0 < xs.length := List.length_pos_iff.mpr hne
  have e : ix xs.length (-1 : Int) = some (xs.length - 1) := by
    show L2.ixN xs.length (-1 : Int) = some (xs.length - 1)
    unfold L2.ixN
    have h1 : ¬ (0 : Int) ≤ -1 := by decide
    have h2 : (0 : Int) ≤ -1 + (xs.length : Int) := by omega
    simp [h1, h2]
    omega
  show (match ix xs.length (-1 : Int) with | some k => xs[k]? | none => none) = some x
  rw [e]
  rw [List.getLast?_eq_getElem?] at h
  exact h
end PD.Q
end
section
set_option linter.all false
set_option maxRecDepth 100000
set_option maxHeartbeats 2000000
/-! k30: the law -/
namespace PD.Q
open PySem
local macro_rules | `(tactic| walk_at "le") => `(tactic| first | exact Nat.le_of_ble_eq_true rfl | exact Nat.lt_of_lt_of_le (Nat.le_of_ble_eq_true rfl) (Nat.le_refl _) | (with_reducible assumption) | (simp only [line, List.length_map, List.length_append, List.length_cons, List.length_nil, List.length_set] at *; omega) | fail "stuck")
local macro_rules | `(tactic| walk_at "op") => `(tactic| first | (with_reducible assumption) | rfl | exact bo_mulR (by decide) | exact bo_mulL (by decide) | exact bo_mod (by first | decide | (with_reducible assumption) | omega) | exact bo_fdiv (by first | decide | (with_reducible assumption) | omega) (by first | decide | (with_reducible assumption) | omega) | (with_reducible assumption) | fail "stuck")
local macro_rules | `(tactic| walk_at "cmp") => `(tactic| first | (with_reducible assumption) | exact cmp_eqI | exact cmp_neI | exact cmp_eqB | exact cmp_neB | exact cmp_eqS (by decide +kernel) (by decide +kernel) | exact cmp_neS (by decide +kernel) (by decide +kernel) | rfl | (with_reducible assumption) | fail "stuck")
local macro_rules | `(tactic| walk_at "call") => `(tactic| first | (with_reducible assumption) | fail "stuck")
local macro_rules | `(tactic| walk_at "tt") => `(tactic| first | (with_reducible assumption) | rfl | exact truth_decide | (with_reducible assumption) | fail "stuck")
local macro_rules | `(tactic| walk_at "bi") => `(tactic| first | (with_reducible assumption) | exact mu_append (by walk_at "le") | exact mu_extend (by walk_at "le") | rfl | fail "stuck")
local macro_rules | `(tactic| walk_at "dec") => `(tactic| (intro hh; first | (with_reducible exact absurd hh Bool.false_ne_true) | (with_reducible exact absurd hh.symm Bool.false_ne_true) | (exact absurd hh (by decide +kernel)) | ((with_reducible replace hh := of_decide_eq_true hh); first | (with_reducible contradiction) | skip) | ((with_reducible replace hh := of_decide_eq_false hh); first | (with_reducible contradiction) | skip) | skip))
local macro_rules | `(tactic| walk_at "w1") => `(tactic| first
  | (with_reducible refine' we_cst ?_) | ((with_reducible refine' we_var ?g1 ?g2); (case g1 => exact rfl))
  | (with_reducible refine' we_bin ?_) | ((with_reducible refine' kBin_i ?g1 ?g2 ?g3 ?g4); (case g1 => exact rfl); (case g2 => exact rfl); (case g3 => walk_at "op"))
  | (with_reducible refine' we_cmp ?_) | ((with_reducible refine' kCmp_i ?g1 ?g2 ?g3 ?g4); (case g1 => exact rfl); (case g2 => exact rfl); (case g3 => walk_at "cmp"))
  | (with_reducible refine' we_sub ?_) | ((with_reducible refine' kSub_i ?g1 ?g2 ?g3 ?g4); (case g1 => exact rfl); (case g2 => exact rfl); (case g3 => walk_at "op"))
  | (with_reducible refine' we_tup ?_) | ((with_reducible refine' kTup_i ?g1 ?g2 ?g3); (case g1 => exact rfl); (case g2 => walk_at "le"))
  | (with_reducible refine' we_lst ?_) | ((with_reducible refine' kLst_i ?g1 ?g2 ?g3); (case g1 => exact rfl); (case g2 => walk_at "le"))
  | (with_reducible refine' wl_cons ?_) | (with_reducible refine' wl_nil ?_)
  | (with_reducible refine' we_call ?_) | ((with_reducible refine' w_ownG ?g1 ?g2 ?g3 ?g4 ?g5); (case g1 => exact rfl); (case g2 => exact rfl); (case g3 => exact rfl); (case g4 => walk_at "call"))
  | (with_reducible refine' we_bi ?_) | ((with_reducible refine' kBi_i ?g1 ?g2 ?g3); (case g1 => exact rfl); (case g2 => walk_at "bi"))
  | (with_reducible refine' wt_e ?_) | ((with_reducible refine' kT_i ?g1 ?g2 ?g3); (case g1 => exact rfl); (case g2 => walk_at "tt"))
  | (with_reducible refine' wt_nt ?_) | (with_reducible refine' wt_an ?_) | ((with_reducible refine' kAnT_i ?_ ?_) <;> walk_at "dec") | (with_reducible refine' wt_or ?_) | ((with_reducible refine' kOrT_i ?_ ?_) <;> walk_at "dec")
  | (with_reducible refine' we_neg ?_) | ((with_reducible refine' kNeg_i ?g1 ?g2); (case g1 => exact rfl))
  | (with_reducible refine' we_nt ?_) | ((with_reducible refine' kNt_i ?g1 ?g2 ?g3); (case g1 => exact rfl); (case g2 => walk_at "tt"))
  | (with_reducible refine' we_an ?_) | ((with_reducible refine' kAn_i ?g1 ?g2 ?g3 ?g4); (case g1 => exact rfl); (case g2 => walk_at "tt"); (case' g3 => walk_at "dec"); (case' g4 => walk_at "dec"))
  | (with_reducible refine' we_or ?_) | ((with_reducible refine' kOr_i ?g1 ?g2 ?g3 ?g4); (case g1 => exact rfl); (case g2 => walk_at "tt"); (case' g3 => walk_at "dec"); (case' g4 => walk_at "dec"))
  | (with_reducible refine' we_chn ?_) | ((with_reducible refine' kChn_i ?g1 ?g2 ?g3 ?g4 ?g5); (case g1 => exact rfl); (case g2 => exact rfl); (case g3 => walk_at "cmp"); (case' g4 => walk_at "dec"); (case' g5 => walk_at "dec"))
  | (with_reducible refine' we_ite ?_) | ((with_reducible refine' kIte_i ?_ ?_) <;> walk_at "dec")
  | (with_reducible refine' we_isi ?_) | ((with_reducible refine' kIsi_i ?g1 ?g2 ?g3); (case g1 => exact rfl); (case g2 => exact rfl))
  | (with_reducible refine' we_slA ?_) | ((with_reducible refine' kSlA_i ?g1 ?g2 ?g3); (case g1 => exact rfl); (case g2 => exact rfl))
  | (with_reducible refine' we_slF ?_) | ((with_reducible refine' kSlF_i ?g1 ?g2 ?g3 ?g4); (case g1 => exact rfl); (case g2 => exact rfl); (case g3 => exact rfl))
  | (with_reducible refine' we_slT ?_) | ((with_reducible refine' kSlT_i ?g1 ?g2 ?g3 ?g4); (case g1 => exact rfl); (case g2 => exact rfl); (case g3 => exact rfl))
  | (with_reducible refine' we_rev ?_) | ((with_reducible refine' kRev_i ?g1 ?g2); (case g1 => exact rfl))
  | (with_reducible refine' we_fn ?_) | (with_reducible refine' we_dct0 ?_) | (with_reducible refine' we_dct1 ?_) | ((with_reducible refine' kDct_i ?g1 ?g2 ?g3 ?g4); (case g1 => exact rfl); (case g2 => exact rfl); (case g3 => exact rfl))
  | (with_reducible refine' we_src ?_) | ((with_reducible refine' kSrc_i ?g1 ?g2); (case g1 => walk_at "bi"))
  | ((with_reducible refine' we_cav ?g1 ?g2 ?g3); (case g1 => exact rfl); (case g2 => exact rfl))
  | ((with_reducible refine' we_mu ?g1 ?g2); (case g1 => exact rfl)) | ((with_reducible refine' kMu_i ?g1 ?g2 ?g3 ?g4); (case g1 => exact rfl); (case g2 => exact rfl); (case g3 => walk_at "bi"))
  | (with_reducible refine' wl_star ?_) | ((with_reducible refine' kStar_i ?g1 ?g2 ?g3); (case g1 => exact rfl); (case g2 => exact rfl))
  | (with_reducible refine' ws_sq ?_) | ((with_reducible refine' kSq_i ?g1 ?g2); (case g1 => exact rfl))
  | (with_reducible refine' ws_rng ?_) | ((with_reducible refine' kRng_i ?g1 ?g2 ?g3); (case g1 => exact rfl); (case g2 => walk_at "bi"))
  | (with_reducible refine' ws_zip ?_) | ((with_reducible refine' kZip_i ?g1 ?g2 ?g3); (case g1 => exact rfl); (case g2 => exact rfl))
  | (with_reducible refine' ws_enm ?_) | ((with_reducible refine' kEnm_i ?g1 ?g2); (case g1 => exact rfl))
  | (with_reducible refine' sw_cons ?_) | (with_reducible refine' sw_nil ?_)
  | (with_reducible refine' sw_set ?_) | ((with_reducible refine' kSet_i ?g1 ?g2 ?g3); (case g1 => exact rfl); (case g2 => walk_at "le"))
  | (with_reducible refine' sw_par ?_) | ((with_reducible refine' kPar_i ?g1 ?g2 ?g3); (case g1 => exact rfl); (case g2 => exact rfl))
  | (with_reducible refine' sw_unp ?_) | ((with_reducible refine' kUnp_i ?g1 ?g2 ?g3); (case g1 => exact rfl); (case g2 => exact rfl))
  | (with_reducible refine' sw_iff ?_) | ((with_reducible refine' kIff_i ?_ ?_) <;> walk_at "dec")
  | (with_reducible refine' sw_ret ?_) | (with_reducible refine' kRet_v ?_) | ((with_reducible refine' kRet_r ?g1 ?g2); (case g1 => exact rfl))
  | ((with_reducible refine' sw_aug ?g1 ?g2); (case g1 => exact rfl)) | ((with_reducible refine' kAug_i ?g1 ?g2 ?g3 ?g4 ?g5); (case g1 => exact rfl); (case g2 => exact rfl); (case g3 => walk_at "op"); (case g4 => walk_at "le"))
  | (with_reducible refine' sw_ssb ?_) | ((with_reducible refine' kSsb_i ?g1 ?g2 ?g3 ?g4 ?g5); (case g1 => exact rfl); (case g2 => exact rfl); (case g3 => exact rfl); (case g4 => walk_at "op"))
  | (with_reducible refine' sw_ex ?_) | (with_reducible refine' sw_for ?_) | (with_reducible refine' sw_ps ?_) | (with_reducible refine' sw_br ?_) | (with_reducible refine' sw_ct ?_)
  | (with_reducible refine' we_comp ?_)
  | fail "stuck")
local macro_rules | `(tactic| walk_at "wk") => `(tactic| ((repeat' (walk_at "w1")) <;> (try dsimp only)))
local macro_rules | `(tactic| walk_at "call") => `(tactic| first
  | ((with_reducible show (callF G_k30 _ 17).run _ = _); refine' r17 ?_ ?_ ?a ?_ ?_ ?b; (case a => with_reducible assumption); (case b => first | (with_reducible assumption) | (with_reducible exact Pl1.h _))))
theorem w_code {n : Nat} {X : XQ} {Q : O → Env → Prop} {env : Env} {i : Nat} {b : MV} (hb : env.at i = some b) (hv : BagV b) (hq : ∀ c b', CdOk c → BagV b' → Q (.v (.d c.d)) (env.set i (some b'))) : wE X Q (own (callF G_k30 (n + 2) 18) [.r i] env) := by
  obtain ⟨c, b', h1, h2, h3⟩ := r18 n hv
  refine w_ioG (n := n + 1) (F := A_k30_18) (j := 0) (i := i) (as := [.d .none]) (m0 := b) (m1 := b') rfl rfl rfl rfl hb (bag_free hv) h3 (bag_free h2) (hq c b' h1 h2)
theorem w_cards {n : Nat} {X : XQ} {Q : O → Env → Prop} {env : Env} {i : Nat} {b : MV} {c : Cd} {m : Nat} {o1 o2 : O} (hb : env.at i = some b) (hv : BagV b) (hc : CdOk c) (hm : m ≤ 50) (ha : tkAs none [o1, o2] env = .ok [.d c.d, .d (.int m)] env) (hq : ∀ (p : Pl1 c) b', p.ls.length = m → BagV b' → Q (.v (.d (plD p))) (env.set i (some b'))) : wE X Q (own (callF G_k30 (n + 3) 21) [.r i, o1, o2] env) := by
  obtain ⟨p, b', h1, h2, h3⟩ := r21 n hv c hc m hm
  refine w_ioG (n := n + 2) (F := A_k30_21) (j := 0) (i := i) (as := [.d .none, .d c.d, .d (.int m)]) (m0 := b) (m1 := b') rfl rfl ?_ rfl hb (bag_free hv) h3 (bag_free h2) (hq p b' h1 h2)
  exact bind_of ha rfl
abbrev envH (x0 x1 x2 x3 x4 x5 x6 x7 x8 x9 x10 x11 x12 x13 x14 x15 x16 x17 x18 x19 x20 x21 x22 x23 : Option MV) : Env := [x0, x1, x2, x3, x4, x5, x6, x7, x8, x9, x10, x11, x12, x13, x14, x15, x16, x17, x18, x19, x20, x21, x22, x23]
theorem nat_of {v : Int} (h : 0 ≤ v) : ∃ k : Nat, v = k := ⟨v.toNat, by omega⟩
theorem loop_indW {J : Js} {N : Env → Prop} {env : Env} {ι : Type} {tg : Tg} {f : Env → RS} {w : List PyData} (g : ι → PyData) (I : List ι → Env → Prop) (ws : List ι) (hw : w = ws.map g) (h0 : I ws env)
    (step : ∀ k ks e, I (k :: ks) e → ∃ e1, bindT tg (g k) e = some e1 ∧ wS ⟨J.rt, N, I ks, J.xc⟩ (I ks) (f e1)) (fin : ∀ e, I [] e → N e) : wS J N (loop tg f w env) := by
  subst hw
  exact loop_ind g I ws h0 step fin
theorem item_atL {xs : List PyData} {k : Nat} {x : PyData} (h : xs[k]? = some x) : item (.list xs) (.int (k : Int)) = some x := item_at h
theorem filt_any {α : Type} (P : α → Bool) : ∀ xs : List α, (xs.filter P).isEmpty = !xs.any P
  | [] => rfl
  | x :: xs => by
    rw [List.filter_cons, List.any_cons]
    cases h : P x
    · rw [if_neg (by simp), filt_any P xs, Bool.false_or]
    · rw [if_pos rfl]; rfl
theorem all_wlen {c : Cd} : ∀ (m k : Nat) (xs : List Rw), (∀ q ∈ xs, q.1.length = k) → ∀ p ∈ allG c m xs, p.1.length = k + m
  | 0, k, xs, h, p, hp => h p hp
  | m + 1, k, xs, h, p, hp => by
    have := all_wlen m (k + 1) _ (fun q hq => by
      obtain ⟨r, hr, hq⟩ := List.mem_flatMap.mp hq
      unfold extG at hq
      obtain ⟨l, _, rfl⟩ := List.mem_map.mp hq
      rw [List.length_append, List.length_singleton, h r hr]) p hp
    omega
theorem ways_wlen {c : Cd} {s : Sa} {m : Nat} {w : List Lt} (hw : w ∈ waysF c s m) : w.length = m := by
  unfold waysF at hw
  obtain ⟨p, hp, rfl⟩ := List.mem_map.mp hw
  have := all_wlen m 0 [([], s)] (fun q hq => by rw [List.mem_singleton.mp hq]; rfl) p hp
  omega
theorem all_ne {c : Cd} : ∀ (m : Nat) (xs : List Rw), (∀ q ∈ xs, q.1 ≠ []) → ∀ p ∈ allG c m xs, p.1 ≠ []
  | 0, xs, h, p, hp => h p hp
  | m + 1, xs, h, p, hp => all_ne m _ (fun q hq => by
    obtain ⟨r, hr, hq⟩ := List.mem_flatMap.mp hq
    unfold extG at hq
    obtain ⟨l, _, rfl⟩ := List.mem_map.mp hq
    simp) p hp
theorem ways_last {c : Cd} {s : Sa} {m : Nat} (h1 : 1 ≤ m) {w : List Lt} (hw : w ∈ waysF c s m) : ∃ l, w.getLast? = some l := by
  obtain ⟨m, rfl⟩ : ∃ k, m = k + 1 := ⟨m - 1, by omega⟩
  unfold waysF at hw
  obtain ⟨p, hp, rfl⟩ := List.mem_map.mp hw
  have hn : p.1 ≠ [] := all_ne m _ (fun q hq => by
    obtain ⟨r, hr, hq⟩ := List.mem_flatMap.mp hq
    unfold extG at hq
    obtain ⟨l, _, rfl⟩ := List.mem_map.mp hq
    simp) p hp
  cases h : p.1.getLast? with
  | some l => exact ⟨l, rfl⟩
  | none => exact absurd (List.getLast?_eq_none_iff.mp h) hn
theorem law_k30 (n : Nat) (ns : List Int) : (callF G_k30 (n + 6) 23).run [.sc (ns.map .int)] = .ok (.d (.bool true)) none := by
  refine fn_ok (F := A_k30_23) rfl rfl rfl (Ev := envH (some (.sc (ns.map .int))) none none none none none none none none none none none none none none none none none none none none none none none) rfl ?_
  dsimp only [A_k30_23]
  obtain ⟨b, hb, hbr⟩ := bag_run (G := G_k30) (f := 13) (n := n + 4) rfl ns
  walk_at "wk"
  refine kFor_i (loop_data (fun _ e => ∃ b x2 x3 x4 x5 x6 x7 x8 x9 x10 x11 x12 x13 x14 x15 x16 x17 x18 x19 x20 x21 x22 x23, BagV b ∧ e = envH (some (.sc (ns.map .int))) (some b) x2 x3 x4 x5 x6 x7 x8 x9 x10 x11 x12 x13 x14 x15 x16 x17 x18 x19 x20 x21 x22 x23) ⟨b, _, _, _, _, _, _, _, _, _, _, _, _, _, _, _, _, _, _, _, _, _, _, hb, rfl⟩ ?_ ?_)
  · clear hbr hb b
    rintro turn turns e ⟨b, x2, x3, x4, x5, x6, x7, x8, x9, x10, x11, x12, x13, x14, x15, x16, x17, x18, x19, x20, x21, x22, x23, hb, rfl⟩
    refine ⟨_, rfl, ?_⟩
    walk_at "wk"
    refine w_code rfl hb fun c b1 hc hb1 => ?_
    walk_at "wk"
    refine w_take rfl rfl hb1 rfl (by decide) (by decide) fun v b2 h0 h1 hb2 => ?_
    obtain ⟨long, rfl⟩ := nat_of h0
    walk_at "wk"
    refine w_take rfl rfl hb2 rfl (by decide) (by decide) fun v b3 h2 h3 hb3 => ?_
    obtain ⟨many, rfl⟩ := nat_of h2
    have hr : rng [.int (many : Int)] = some ((List.range many).map fun k : Nat => PyData.int ((k : Int))) := by rw [← range_map, ← rng_n many (by omega)]
    walk_at "wk"
    refine kComp_dm (ws := List.range many) (g := fun k : Nat => PyData.int (k : Int)) (fun ks acc e => ∃ (b : MV) (sq : List (Pl1 c)) (x15 : Option MV), BagV b ∧ e = envH (some (.sc (ns.map .int))) (some b) (some (.d turn)) (some (.d c.d)) (some (.d (.int (long : Int)))) x5 x6 x7 x8 x9 x10 x11 x12 x13 x14 x15 x16 x17 x18 x19 x20 x21 x22 x23 ∧ acc = sq.map plD ∧ sq.length + ks.length ≤ 6 ∧ ∀ p ∈ sq, p.ls.length ≤ 6) rfl rfl ⟨b3, [], _, hb3, rfl, rfl, by rw [List.length_range]; simp; omega, fun _ h => absurd h List.not_mem_nil⟩ ?_ ?_
    · rintro k ks acc e ⟨b, sq, y15, hb, rfl, rfl, hl, hp⟩
      refine ⟨_, rfl, ?_⟩
      rw [List.length_cons] at hl
      walk_at "wk"
      refine w_cards rfl hb hc (m := long) (by omega) rfl fun p b' hpl hb' => ?_
      exact ⟨_, _, rfl, by rw [List.length_map]; simp only [line]; omega, b', sq ++ [p], _, hb', rfl, by rw [List.map_append]; rfl, by rw [List.length_append, List.length_singleton]; omega, fun q hq => by
        rcases List.mem_append.mp hq with hq | hq
        · exact hp q hq
        · rw [List.mem_singleton.mp hq]; omega⟩
    rintro acc e ⟨b, sq, y15, hb, rfl, rfl, hl, hp⟩
    refine ⟨envH (some (.sc (ns.map .int))) (some b) (some (.d turn)) (some (.d c.d)) (some (.d (.int (long : Int)))) x5 x6 x7 x8 x9 x10 x11 x12 x13 x14 x15 x16 x17 x18 x19 x20 x21 x22 x23, rfl, ?_⟩
    clear hr hb1 hb2 hb3 b1 b2 b3
    rw [List.length_nil] at hl
    have hsl : sq.length ≤ 1000 := by omega
    walk_at "wk"
    -- states
    refine kComp_m (F := fun p : Pl1 c => saD p.s) (g := plD) (ws := sq) rfl rfl rfl (by simp only [line]; omega) (fun p hp => ⟨_, rfl, rfl, rfl, ?_⟩) ?_
    · walk_at "wk"
      rfl
    walk_at "wk"
    -- able
    refine kComp_i (enum_map (fun p : Pl1 c => saD p.s) sq) rfl rfl (P := fun p => decide (p.1.s.2 = 0)) (F := fun p => .int p.2) (by simp only [List.length_zipIdx, line]; omega) (fun p hp => ⟨_, rfl, rfl, rfl, ?_⟩) ?_
    · walk_at "wk"
      refine ⟨rfl, rfl, fun _ => ?_⟩
      walk_at "wk"
      rfl
    have hal := able_len sq
    walk_at "wk"
    -- risk
    refine kComp_i (ws := ableP sq) rfl rfl rfl (P := fun p => decide (0 < (nextF c p.1.s .y).2)) (F := fun p => .int p.2) (by simp only [line]; omega) (fun p hp => ⟨_, rfl, rfl, rfl, ?_⟩) ?_
    · have hi := item_pl (able_get hp)
      have hz : p.1.s.2 = 0 := of_decide_eq_true (List.mem_filter.mp hp).2
      have hin : Lt.y ∈ lettersF p.1.s := by rw [lettersF, if_neg (by omega)]; simp
      have hf := fold_snoc _ _ _ p.1.h hin
      have hadd : binop .add (.tuple (ltsD p.1.ls)) (.tuple [.str "y"]) = some (.d (.tuple (ltsD (p.1.ls ++ [Lt.y])))) := by
        have := hp
        rw [bo_addT (by simp only [ltsD, List.length_map, List.length_singleton, line]; have := ‹∀ p ∈ sq, p.ls.length ≤ 6› p.1 (List.mem_of_getElem? (able_get hp)); omega), ltsD, ltsD, List.map_append]; rfl
      walk_at "wk"
      refine ⟨rfl, rfl, fun _ => ?_⟩
      walk_at "wk"
      rfl
    have h5 := r5 (n + 1) c sq hsl
    have h6 := r6 n c sq hsl
    have er : (ableP sq).filter (fun p => decide (0 < (nextF c p.1.s .y).2)) = (ableP sq).filter (fun p => decide (p.1.s.1 + 1 = c.w)) := by
      refine List.filter_congr fun p _ => ?_
      have hb1 := hc.b1
      show decide (0 < (if p.1.s.1 + 1 = c.w then ((0 : Int), c.b) else (p.1.s.1 + 1, 0)).2) = _
      by_cases h : p.1.s.1 + 1 = c.w
      · rw [if_pos h]; simp only [h, decide_true]; exact decide_eq_true (by omega)
      · rw [if_neg h]; simp only [h, decide_false]; exact decide_eq_false (by show ¬ (0 : Int) < 0; omega)
    have e1 : (sq.zipIdx.filter fun p : Pl1 c × Nat => decide (p.1.s.2 = 0)).map (fun p => PyData.int (p.2 : Int)) = natsD (ableF sq) := by rw [natsD, ableF, List.map_map]; rfl
    have e2 : ((ableP sq).filter fun p => decide (0 < (nextF c p.1.s .y).2)).map (fun p => PyData.int (p.2 : Int)) = natsD (riskF sq) := by rw [er, natsD, riskF, List.map_map]; rfl
    rw [e1, e2]
    have ha1 := alike_ok (n + 4) (d := .list [.tuple (natsD (ableF sq)), .tuple (natsD (riskF sq))]) (nice_l2 (nice_nats _) (nice_nats _)) (by
      have q1 : (ableF sq).length ≤ 6 := by rw [ableF, List.length_map]; exact Nat.le_trans (Nat.le_trans (List.length_filter_le _ _) (by rw [List.length_zipIdx]; exact Nat.le_refl _)) hl
      have q2 : (riskF sq).length ≤ 6 := by rw [riskF, List.length_map]; exact Nat.le_trans (Nat.le_trans (List.length_filter_le _ _) hal) hl
      rw [sz_l2, sz, sz, sz_nats, sz_nats]; omega) rfl rfl
    walk_at "wk"
    refine w_take rfl rfl hb rfl (by decide) (by decide) fun v b1 h4 h5' hb1 => ?_
    obtain ⟨rows, rfl⟩ := nat_of h4
    have hr1 : rng [.int (rows : Int)] = some ((List.range rows).map fun k : Nat => PyData.int ((k : Int))) := by rw [← range_map, ← rng_n rows (by omega)]
    have hr2 : rng [.int (sq.length : Int)] = some ((List.range sq.length).map fun k : Nat => PyData.int ((k : Int))) := by rw [← range_map, ← rng_n sq.length hsl]
    have hlq : builtin .len [.tuple (sq.map plD)] = some (.d (.int (sq.length : Int))) := by
      show some (MV.d (.int ((sq.map plD).length : Int))) = _
      rw [List.length_map]
    walk_at "wk"
    refine kComp_dm (ws := List.range rows) (g := fun k : Nat => PyData.int (k : Int)) (fun ks acc e => ∃ (b : MV) (row : List (List Nat)) (x15 x22 : Option MV), BagV b ∧ e = envH (some (.sc (ns.map .int))) (some b) (some (.d turn)) (some (.d c.d)) (some (.d (.int (long : Int)))) (some (.d (.tuple (sq.map plD)))) (some (.d (.list (sq.map fun p => saD p.s)))) (some (.d (.list (natsD (ableF sq))))) (some (.ml (natsD (riskF sq)))) x9 x10 x11 x12 x13 x14 x15 x16 x17 x18 x19 x20 x21 x22 x23 ∧ acc = rowD row ∧ row.length + ks.length ≤ 4 ∧ ∀ x ∈ row, x.length ≤ 1000 ∧ ∀ k ∈ x, k < sq.length) rfl rfl ⟨b1, [], _, _, hb1, rfl, rfl, by rw [List.length_range]; simp; omega, fun _ h => absurd h List.not_mem_nil⟩ ?_ ?_
    · rintro k ks acc e ⟨b, row, y15, y22, hb, rfl, rfl, hrl, hro⟩
      refine ⟨_, rfl, ?_⟩
      rw [List.length_cons] at hrl
      walk_at "wk"
      refine kComp_d (ws := List.range sq.length) (g := fun k : Nat => PyData.int (k : Int)) (fun js acc e => ∃ (b : MV) (xs : List Nat) (x15 : Option MV), BagV b ∧ e = envH (some (.sc (ns.map .int))) (some b) (some (.d turn)) (some (.d c.d)) (some (.d (.int (long : Int)))) (some (.d (.tuple (sq.map plD)))) (some (.d (.list (sq.map fun p => saD p.s)))) (some (.d (.list (natsD (ableF sq))))) (some (.ml (natsD (riskF sq)))) x9 x10 x11 x12 x13 x14 x15 x16 x17 x18 x19 x20 x21 (some (.d (.int (k : Int)))) x23 ∧ acc = natsD xs ∧ xs.length + js.length ≤ sq.length ∧ (∀ j ∈ js, j < sq.length) ∧ ∀ j ∈ xs, j < sq.length) rfl rfl ⟨b, [], _, hb, rfl, rfl, by rw [List.length_range]; simp, fun j hj => List.mem_range.mp hj, fun _ h => absurd h List.not_mem_nil⟩ ?_ ?_
      · rintro j js acc e ⟨b, xs, z15, hb, rfl, rfl, hxl, hjs, hxs⟩
        refine ⟨_, rfl, ?_⟩
        rw [List.length_cons] at hxl
        walk_at "wk"
        refine w_take rfl rfl hb rfl (by decide) (by decide) fun v b1 h6 h7 hb1 => ?_
        walk_at "wk"
        refine ⟨fun _ => ?_, fun _ => ?_⟩
        · walk_at "wk"
          exact ⟨_, _, rfl, by rw [natsD, List.length_map]; simp only [line]; omega, b1, xs ++ [j], _, hb1, rfl, by rw [natsD, natsD, List.map_append]; rfl, by rw [List.length_append, List.length_singleton]; omega, fun i hi => hjs i (List.mem_cons_of_mem _ hi), fun i hi => by
            rcases List.mem_append.mp hi with hi | hi
            · exact hxs i hi
            · rw [List.mem_singleton.mp hi]; exact hjs j List.mem_cons_self⟩
        · exact ⟨b1, xs, _, hb1, rfl, rfl, by omega, fun i hi => hjs i (List.mem_cons_of_mem _ hi), hxs⟩
      · rintro acc e ⟨b, xs, z15, hb, rfl, rfl, hxl, hjs, hxs⟩
        refine ⟨_, rfl, ?_⟩
        rw [List.length_nil] at hxl
        walk_at "wk"
        exact ⟨_, _, rfl, by rw [rowD, List.length_map]; simp only [line]; omega, b, row ++ [xs], _, _, hb, rfl, by rw [rowD, rowD, List.map_append]; rfl, by rw [List.length_append, List.length_singleton]; omega, fun x hx => by
          rcases List.mem_append.mp hx with hx | hx
          · exact hro x hx
          · rw [List.mem_singleton.mp hx]; exact ⟨by omega, hxs⟩⟩
    rintro acc e ⟨b2, row, y15, y22, hb2, rfl, rfl, hrl, hro⟩
    refine ⟨envH (some (.sc (ns.map .int))) (some b2) (some (.d turn)) (some (.d c.d)) (some (.d (.int (long : Int)))) (some (.d (.tuple (sq.map plD)))) (some (.d (.list (sq.map fun p => saD p.s)))) (some (.d (.list (natsD (ableF sq))))) (some (.ml (natsD (riskF sq)))) x9 x10 x11 x12 x13 x14 y15 x16 x17 x18 x19 x20 x21 x22 x23, rfl, ?_⟩
    rw [List.length_nil] at hrl
    clear hr1 hb1 b1 hb b ha1 e1 e2 er h5 h6
    walk_at "wk"
    rw [show enumD (rowD row) = row.zipIdx.map fun p => .tuple [.int (p.2 : Int), .tuple (natsD p.1)] from by rw [rowD, enum_map]]
    refine kFor_i (loop_ind (fun p : List Nat × Nat => .tuple [.int (p.2 : Int), .tuple (natsD p.1)]) (fun vs e => ∃ (g : Bool) (x11 x12 x15 : Option MV), e = envH (some (.sc (ns.map .int))) (some b2) (some (.d turn)) (some (.d c.d)) (some (.d (.int (long : Int)))) (some (.d (.tuple (sq.map plD)))) (some (.d (.list (sq.map fun p => saD p.s)))) (some (.d (.list (natsD (ableF sq))))) (some (.ml (natsD (riskF sq)))) (some (.d (.tuple (rowD row)))) (some (.d (.bool g))) x11 x12 x13 x14 x15 x16 x17 x18 x19 x20 x21 x22 x23 ∧ (∀ p ∈ vs, p ∈ row.zipIdx) ∧ rowF sq row = (g && vs.all fun p => !(p.1.any fun k => decide ((p.2 : Int) < (stOf sq k).2)))) row.zipIdx ⟨true, _, _, _, rfl, fun _ h => h, (Bool.true_and _).symm⟩ ?_ ?_)
    · rintro p vs e ⟨g, x11, x12, x15, rfl, hm, h⟩
      refine ⟨_, rfl, ?_⟩
      have hp := hro p.1 (List.mem_of_getElem? (zip_get (hm p List.mem_cons_self)))
      walk_at "wk"
      · rename_i hh
        subst hh
        exact ⟨false, _, _, _, rfl, fun q hq => hm q (List.mem_cons_of_mem _ hq), by rw [h, Bool.false_and, Bool.false_and]⟩
      · rename_i hh
        subst hh
        refine kComp_i (g := fun k : Nat => PyData.int (k : Int)) (ws := p.1) (P := fun k => decide ((p.2 : Int) < (stOf sq k).2)) (F := fun _ => .int 1) rfl rfl rfl (by simp only [line]; omega) (fun k hk => ⟨_, rfl, rfl, rfl, ?_⟩) ?_
        · obtain ⟨q, hq⟩ := get_lt (hp.2 k hk)
          have hi : item (.list (sq.map fun p => saD p.s)) (.int (k : Int)) = some (saD q.s) := item_atL (xs := sq.map fun p => saD p.s) (by rw [List.getElem?_map, hq]; rfl)
          have e : (stOf sq k).2 = q.s.2 := by unfold stOf; rw [hq]
          rw [e]
          walk_at "wk"
          refine ⟨rfl, rfl, fun _ => ?_⟩
          walk_at "wk"
          rfl
        have he := eq_nil1 (p.1.filter fun k => decide ((p.2 : Int) < (stOf sq k).2))
        walk_at "wk"
        refine ⟨(p.1.filter fun k => decide ((p.2 : Int) < (stOf sq k).2)).isEmpty, _, _, _, rfl, fun q hq => hm q (List.mem_cons_of_mem _ hq), ?_⟩
        rw [h, List.all_cons, Bool.true_and, filt_any]
    rintro e ⟨g, x11, x12, x15', rfl, hm, h⟩
    rw [List.all_nil, Bool.and_true] at h
    have h7 := r7 (n + 1) c sq row hro
    rw [h] at h7
    have ha1 := alike_ok (n + 4) (d := .bool g) (e1 := .bool g) (e2 := .bool g) (nice_bool g) (by cases g <;> decide) rfl rfl
    walk_at "wk"
    refine w_take rfl rfl hb2 rfl (by decide) (by decide) fun v b3 h8 h9 hb3 => ?_
    obtain ⟨kk, rfl⟩ := nat_of h8
    walk_at "wk"
    clear h7 ha1 hb2
    rw [show [PyData.int 1, .int 2, .int (1 + (kk : Int))] = ([1, 2, kk + 1].map fun m : Nat => PyData.int (m : Int)) from by
      have e : ((kk + 1 : Nat) : Int) = 1 + (kk : Int) := by omega
      show _ = [PyData.int ((1 : Nat) : Int), .int ((2 : Nat) : Int), .int ((kk + 1 : Nat) : Int)]
      rw [e]; rfl]
    refine kFor_i (loop_ind (fun m : Nat => PyData.int (m : Int)) (fun ms e => ∃ x11 x12 x13 x14 x15 x16 x17 x18 x19 x20 x21 x22 x23, e = envH (some (.sc (ns.map .int))) (some b3) (some (.d turn)) (some (.d c.d)) (some (.d (.int (long : Int)))) (some (.d (.tuple (sq.map plD)))) (some (.d (.list (sq.map fun p => saD p.s)))) (some (.d (.list (natsD (ableF sq))))) (some (.ml (natsD (riskF sq)))) (some (.d (.tuple (rowD row)))) (some (.d (.bool g))) x11 x12 x13 x14 x15 x16 x17 x18 x19 x20 x21 x22 x23 ∧ ∀ m ∈ ms, 1 ≤ m ∧ m ≤ 5) [1, 2, kk + 1] ⟨_, _, _, _, _, _, _, _, _, _, _, _, _, rfl, fun m hm => by
      have : m = 1 ∨ m = 2 ∨ m = kk + 1 := by simpa using hm
      omega⟩ ?_ ?_)
    · clear x11 x12 x13 x14 x15 x16 x17 x18 x19 x20 x21 x22 x23
      rintro m ms e ⟨x11, x12, x13, x14, x15, x16, x17, x18, x19, x20, x21, x22, x23, rfl, hms⟩
      refine ⟨_, rfl, ?_⟩
      obtain ⟨hm1, hm5⟩ := hms m List.mem_cons_self
      walk_at "wk"
      refine kFor_i (loop_indW (fun p : Pl1 c × Nat => PyData.int (p.2 : Int)) (fun vs e => ∃ (done : List Nat) (x15 x19 x23 : Option MV), e = envH (some (.sc (ns.map .int))) (some b3) (some (.d turn)) (some (.d c.d)) (some (.d (.int (long : Int)))) (some (.d (.tuple (sq.map plD)))) (some (.d (.list (sq.map fun p => saD p.s)))) (some (.d (.list (natsD (ableF sq))))) (some (.ml (natsD (riskF sq)))) (some (.d (.tuple (rowD row)))) (some (.d (.bool g))) x11 x12 (some (.d (.int (m : Int)))) (some (.ml (natsD done))) x15 x16 x17 x18 x19 x20 x21 x22 x23 ∧ (∀ p ∈ vs, p ∈ ableP sq) ∧ done.length + vs.length ≤ 6 ∧ sureF sq m = done ++ (vs.filter fun p => decide (p.1.s.1 + (m : Int) - 1 < c.w)).map (·.2)) (ableP sq) (able_eq sq) ⟨[], _, _, _, rfl, fun _ h => h, by simp; omega, rfl⟩ (fun p vs e => ?_) (fun e => ?_))
      · rintro ⟨done, x15, x19, x23, rfl, hm, hlen, hd⟩
        refine ⟨_, rfl, ?_⟩
        have hpa := hm p List.mem_cons_self
        have hg := able_get hpa
        have hi := item_pl hg
        have hz : p.1.s.2 = 0 := of_decide_eq_true (List.mem_filter.mp hpa).2
        have hok := fold_ok hc _ _ _ (start_ok hc) p.1.h
        have h22 := r22 (n + 1) c hc p.1.ls p.1.s m p.1.h (by have := hp p.1 (List.mem_of_getElem? hg); omega) hm1 (by omega)
        have hwl := ways_len c p.1.s m (by omega)
        have hck := sure_fact hc hok.y0 hok.yw hm1 hm5
        rw [List.length_cons] at hlen
        walk_at "wk"
        refine kComp_i (g := wD) (ws := waysF c p.1.s m) (P := fun w => !decide (Lt.r ∈ w)) (F := wD) rfl rfl rfl (by simp only [line]; omega) (fun w hw => ⟨_, rfl, rfl, rfl, ?_⟩) ?_
        · have hn : cmpD .notin (.str "r") (wD w) = some (!decide (Lt.r ∈ w)) := notin_r w
          walk_at "wk"
          refine ⟨rfl, rfl, fun _ => ?_⟩
          walk_at "wk"
          rfl
        have hwl2 := List.length_filter_le (fun w => !decide (Lt.r ∈ w)) (waysF c p.1.s m)
        walk_at "wk"
        refine kComp_i (g := wD) (ws := (waysF c p.1.s m).filter fun w => !decide (Lt.r ∈ w)) (P := fun w => decide (Lt.b ∈ w)) (F := fun _ => .int 1) rfl rfl rfl (by simp only [line]; omega) (fun w hw => ⟨_, rfl, rfl, rfl, ?_⟩) ?_
        · have hn : cmpD .isin (.str "b") (wD w) = some (decide (Lt.b ∈ w)) := in_b w
          walk_at "wk"
          refine ⟨rfl, rfl, fun _ => ?_⟩
          walk_at "wk"
          rfl
        have he := eq_nil1 (((waysF c p.1.s m).filter fun w => !decide (Lt.r ∈ w)).filter fun w => decide (Lt.b ∈ w))
        have hb1 : binop .add (.list (natsD done)) (.list [.int (p.2 : Int)]) = some (.ml (natsD (done ++ [p.2]))) := by
          rw [bo_addL (by simp only [natsD, List.length_map, line]; omega) (by simp only [List.length_singleton, line]; omega) (by simp only [natsD, List.length_map, List.length_singleton, line]; omega), natsD, natsD, List.map_append]; rfl
        have hb2 : binop .add (.list (natsD done)) (.list []) = some (.ml (natsD done)) := by
          rw [bo_addL (by simp only [natsD, List.length_map, line]; omega) (by simp only [List.length_nil, line]; omega) (by simp only [natsD, List.length_map, List.length_nil, line]; omega), List.append_nil]
        have hck : (((waysF c p.1.s m).filter fun w => !decide (Lt.r ∈ w)).filter fun w => decide (Lt.b ∈ w)).isEmpty = decide (p.1.s.1 + (m : Int) - 1 < c.w) := by
          have e : p.1.s = (p.1.s.1, 0) := by rw [← hz]
          have := eq_of_beq hck
          rw [← e] at this
          exact this.symm
        rw [hck] at he
        walk_at "wk"
        · rename_i hh
          exact ⟨done ++ [p.2], _, _, _, rfl, fun q hq => hm q (List.mem_cons_of_mem _ hq), by rw [List.length_append, List.length_singleton]; omega, by rw [hd, List.filter_cons, if_pos (decide_eq_true hh), List.map_cons, List.append_assoc]; rfl⟩
        · rename_i hh
          exact ⟨done, _, _, _, rfl, fun q hq => hm q (List.mem_cons_of_mem _ hq), by omega, by rw [hd, List.filter_cons, if_neg (by rw [decide_eq_false hh]; exact Bool.false_ne_true)]⟩
      rintro ⟨done, x15', x19', x23', rfl, hm, hlen, hd⟩
      rw [List.filter_nil, List.map_nil, List.append_nil] at hd
      rw [List.length_nil] at hlen
      have h8 := r8 n c sq (m : Int) hsl
      have ha2 := alike_ok (n + 4) (d := .tuple (natsD (sureF sq m))) (e2 := .tuple (natsD done)) (nice_nats _) (by rw [hd, sz, sz_nats]; omega) rfl (by rw [hd])
      have htu : builtin .tuple [.list (natsD done)] = some (.d (.tuple (natsD done))) := rfl
      walk_at "wk"
      clear ha2 h8 htu
      refine kFor_i (loop_ind (fun p : Pl1 c => plD p) (fun vs e => ∃ (a : Nat) (x17 x19 x20 x21 x23 : Option MV), e = envH (some (.sc (ns.map .int))) (some b3) (some (.d turn)) (some (.d c.d)) (some (.d (.int (long : Int)))) (some (.d (.tuple (sq.map plD)))) (some (.d (.list (sq.map fun p => saD p.s)))) (some (.d (.list (natsD (ableF sq))))) (some (.ml (natsD (riskF sq)))) (some (.d (.tuple (rowD row)))) (some (.d (.bool g))) x11 x12 (some (.d (.int (m : Int)))) (some (.ml (natsD done))) x15' (some (.d (.int (a : Int)))) x17 x18 x19 x20 x21 x22 x23 ∧ (∀ p ∈ vs, p ∈ sq) ∧ freeF sq m = a + (vs.filter fun p => !barredF c p.s m).length) sq ⟨0, _, _, _, _, _, rfl, fun _ h => h, (Nat.zero_add _).symm⟩ (fun p vs e => ?_) (fun e => ?_))
      · rintro ⟨a, x17, x19, x20, x21, x23, rfl, hm, hf⟩
        refine ⟨_, rfl, ?_⟩
        have hps := hm p List.mem_cons_self
        have hpl := hp p hps
        have hok := fold_ok hc _ _ _ (start_ok hc) p.h
        have h22 : (callF G_k30 (n + 5) 22).run [.d c.d, .d (plD p), .d (.int m)] = _ := r22 (n + 1) c hc p.ls p.s m p.h (by omega) hm1 (by omega)
        have hwl := ways_len c p.s m (by omega)
        have hck := bars_fact hc hok hm1 hm5
        have h10 : (callF G_k30 (n + 5) 10).run [.d c.d, .d (plD p), .d (.int m)] = _ := r10 (n + 2) c p.ls p.s m p.h hm1 (by omega)
        walk_at "wk"
        refine kComp_i (g := wD) (ws := waysF c p.s m) (P := fun w => decide (w.getLast? = some Lt.b)) (F := wD) rfl rfl rfl (by simp only [line]; omega) (fun w hw => ⟨_, rfl, rfl, rfl, ?_⟩) ?_
        · obtain ⟨l, hl⟩ := ways_last hm1 hw
          have hi : item (wD w) (.int (-1)) = some l.s := item_last (by rw [ltsD, List.getLast?_map, hl]; rfl)
          have hcb := cmp_b l
          have e : decide (w.getLast? = some Lt.b) = decide (l = .b) := by rw [hl]; cases l <;> rfl
          rw [e]
          walk_at "wk"
          refine ⟨rfl, rfl, fun _ => ?_⟩
          walk_at "wk"
          rfl
        have he := eq_nilW (barsF c p.s m)
        have hne := ne_nilW (barsF c p.s m)
        unfold chkB at hck
        show kSet _ _ (.v (.ml ((barsF c p.s m).map wD))) _
        simp only [List.set_cons_succ, List.set_cons_zero]
        rcases hbars : barsF c p.s m with _ | ⟨w, ws⟩
        · rw [hbars] at he hne hck
          have hck : barredF c p.s m = false := by simpa using hck
          have h12 : (callF G_k30 (n + 5) 12).run [.d c.d, .d (plD p), .d (.int m)] = .ok (.d .none) none := r12 (n + 1) c p.ls p.s m none p.h hm1 (by omega) (.inl ⟨hck, rfl⟩)
          rw [hck] at h10
          have ha3 := alike_ok (n + 4) (d := .list [.bool false, .none]) (nice_l2 (nice_bool _) nice_none) (by simp [sz, szL]) rfl rfl
          have hin : builtin .int [.bool true] = some (.d (.int 1)) := rfl
          have e0 : ([] : List (List Lt)).map wD = [] := rfl
          rw [e0] at he hne ⊢
          have he : cmpD .eq (.list []) (.list []) = some true := he
          have hne : cmpD .ne (.list []) (.list []) = some false := hne
          walk_at "wk"
          exact ⟨a + 1, _, _, _, _, _, rfl, fun q hq => hm q (List.mem_cons_of_mem _ hq), by rw [hf, List.filter_cons, if_pos (by rw [hck]; rfl), List.length_cons]; omega⟩
        · have hwm : w ∈ waysF c p.s m := (List.mem_filter.mp (show w ∈ barsF c p.s m from by rw [hbars]; exact List.mem_cons_self)).1
          have hwn := ways_wlen hwm
          rw [hbars] at he hne hck
          have hck : barredF c p.s m = true ∧ wayF c m p.s = some w := by simpa using hck
          have h12 : (callF G_k30 (n + 5) 12).run [.d c.d, .d (plD p), .d (.int m)] = .ok (.d (wD w)) none := r12 (n + 1) c p.ls p.s m (some w) p.h hm1 (by omega) (.inr ⟨hck.1, hck.2.symm, rfl⟩)
          rw [hck.1] at h10
          have ha3 := alike_ok (n + 4) (d := .list [.bool true, wD w]) (nice_l2 (nice_bool _) (nice_lts w)) (by simp [sz, szL, wD, sz_lts]; omega) rfl rfl
          have hin : builtin .int [.bool false] = some (.d (.int 0)) := rfl
          have e0 : (w :: ws).map wD = wD w :: ws.map wD := rfl
          rw [e0] at he hne ⊢
          have he : cmpD .eq (.list (wD w :: ws.map wD)) (.list []) = some false := he
          have hne : cmpD .ne (.list (wD w :: ws.map wD)) (.list []) = some true := hne
          have hi := item_l0 (wD w) (ws.map wD)
          walk_at "wk"
          exact ⟨a, _, _, _, _, _, rfl, fun q hq => hm q (List.mem_cons_of_mem _ hq), by rw [hf, List.filter_cons, if_neg (by rw [hck.1]; exact Bool.false_ne_true)]⟩
      rintro ⟨a, x17, x19, x20, x21, x23, rfl, hm, hf⟩
      rw [List.filter_nil, List.length_nil, Nat.add_zero] at hf
      have h11 := r11 (n + 1) c sq m hsl hm1 (by omega)
      rw [hf] at h11
      have ha2 := alike_ok (n + 4) (d := .int (a : Int)) (e1 := .int (a : Int)) (e2 := .int (a : Int)) (nice_int _) (by simp [sz]) rfl rfl
      walk_at "wk"
      exact ⟨_, _, _, _, _, _, _, _, _, _, _, _, _, rfl, fun k hk => hms k (List.mem_cons_of_mem _ hk)⟩
    · rintro e ⟨x11, x12, x13, x14, x15, x16, x17, x18, x19, x20, x21, x22, x23, rfl, hms⟩
      exact ⟨_, _, _, _, _, _, _, _, _, _, _, _, _, _, _, _, _, _, _, _, _, _, _, hb3, rfl⟩
  · rintro e ⟨b, x2, x3, x4, x5, x6, x7, x8, x9, x10, x11, x12, x13, x14, x15, x16, x17, x18, x19, x20, x21, x22, x23, hb, rfl⟩
    walk_at "wk"
end PD.Q
end
section
namespace PD.Q
open PySem
theorem plain_k30 (ns : List Int) (_h : ns.length ≤ 63) : (callF G_k30 20 23).run [.sc (ns.map PyData.int)] = .ok (.d (.bool true)) none := law_k30 14 ns
end PD.Q
end
section
set_option Elab.async false
set_option linter.all false
set_option maxRecDepth 100000
set_option maxHeartbeats 0
namespace PD
open PySem L2
theorem tb_ok : (tbL.all fun p => HeadX.fa.any (isGlo p.1) && decide (nm p.2 = p.1)) = true := by decide +kernel
theorem bl_ok : (blL.all fun x => HeadX.fa.any (isFree x)) = true := by decide +kernel
theorem facts {w : World} {K : PySem.W.Frag} {h : Heap} {mg : Str → Option Value} {f : Addr} (KX : K.In h) (G : h.Ns mainGlobals mg) (hfa : mg ("law" : Str) = some (.ref f)) (sd : He.SaysD HeadX.fa HeadX.fn K) :
    ∃ fd : FuncData, (∀ (s : Shared) (v : Value), BindsTo s fd ⟨[v], []⟩ [("script", v)]) ∧ ∀ base : Heap, FnOk (PySem.Challenge.rw_lasthopes_k30_squads_and_bans).prog w K mg base (L2.CX (PySem.Challenge.rw_lasthopes_k30_squads_and_bans).prog w) 20 f fd ["script"] (spOf K (plK K) (callF G_k30 20 23)) := by
  have gf : ∀ x i, tb x = some i → mg x = some (.ref ((plK K).fa i)) := gf_of sd KX G tb_ok
  have gb : ∀ x, bl x = true → mg x = none := gb_of sd KX G bl_ok
  have k_BARRED : ∃ t, mg "BARRED" = some (.str "b" t) := str_of sd KX G (by decide +kernel)
  have k_NONE : ∃ t, mg "NONE" = some (.str "n" t) := str_of sd KX G (by decide +kernel)
  have k_RED : ∃ t, mg "RED" = some (.str "r" t) := str_of sd KX G (by decide +kernel)
  have k_YELLOW : ∃ t, mg "YELLOW" = some (.str "y" t) := str_of sd KX G (by decide +kernel)
  obtain ⟨fd, F⟩ := sd.def_ 23 (d := HeadX.mkD "law" (HeadX.top 30)) rfl
  have e := hfa.symm.trans (gf "law" 23 (by decide +kernel))
  cases e
  have b := FunD.bindsA (ps := ["script"]) F fun _ _ _ _ _ _ us hl => match us, hl with | [_], _ => rfl
  refine ⟨fd, fun s v => b s [v] rfl, fun base => ?_⟩
  have all : ∀ i, i < 24 → DefOk (PySem.Challenge.rw_lasthopes_k30_squads_and_bans).prog w K mg base (plK K) G_k30 24 i := fun i hi => match i, hi with
    | 0, _ => d_0 sd gf gb k_BARRED k_RED k_YELLOW
    | 1, _ => d_1 sd gf gb k_BARRED k_NONE k_RED k_YELLOW
    | 2, _ => d_2 sd gf gb
    | 3, _ => d_3 sd gf gb
    | 4, _ => d_4 sd gf gb
    | 5, _ => d_5 sd gf gb
    | 6, _ => d_6 sd gf gb
    | 7, _ => d_7 sd gf gb
    | 8, _ => d_8 sd gf gb
    | 9, _ => d_9 sd gf gb
    | 10, _ => d_10 sd gf gb
    | 11, _ => d_11 sd gf gb
    | 12, _ => d_12 sd gf gb k_BARRED
    | 13, _ => d_13 sd gf gb
    | 14, _ => d_14 sd gf gb
    | 15, _ => d_15 sd gf gb
    | 16, _ => d_16 sd gf gb
    | 17, _ => d_17 sd gf gb
    | 18, _ => d_18 sd gf gb
    | 19, _ => d_19 sd gf gb
    | 20, _ => d_20 sd gf gb
    | 21, _ => d_21 sd gf gb
    | 22, _ => d_22 sd gf gb
    | 23, _ => d_23 sd gf gb
    | n + 24, h => absurd h (by omega)
  rw [callF_succ (F := A_k30_23) rfl]
  exact def_ok F sc_23 rfl rfl fun cdv A outer s H E B W bd =>
    b_23 ⟨bd.calm, bd.nd, bd.u, bd.tk, bd.rm, bd.io, gf, gb, fun i hi => ⟨(all_ok all 19 i hi).ex, (all_ok all 19 i hi).kp⟩⟩ bd.po
end PD
set_option maxRecDepth 100000 in
theorem PySem.Challenge.cw_lasthopes_k30_squads_and_bans_holds : PySem.Challenge.rw_lasthopes_k30_squads_and_bans.Holds := by
  w_on; o_law
  refine HandSHeadRun.head_any (r := PySem.W.OpenLaw.row PySem.Challenge.rw_lasthopes_k30_squads_and_bans) (q := PySem.W.view (PySem.W.OpenLaw.row PySem.Challenge.rw_lasthopes_k30_squads_and_bans).prog [30]) (H := HeadX.hk) (ob := HeadX.ob) (M := 4000) (loose := HeadX.names) (d := HandSHeadRun.topDef (PySem.W.OpenLaw.row PySem.Challenge.rw_lasthopes_k30_squads_and_bans).prog 30) (kwd := []) HeadX.ob_eq
    (by kernel_rfl) (fun s => by kernel_rfl) HeadX.run (by kernel_rfl) (by kernel_rfl) (by kernel_rfl) (by rfl) (by first | assumption | decide +kernel) (by decide +kernel) ⟨rfl, rfl, rfl, rfl, rfl, by decide +kernel⟩ ?hw ?hc
  case hw => w_witness2
  case hc =>
    refine PD.walk_ofW (l := PySem.Challenge.rw_lasthopes_k30_squads_and_bans) (n := 63) (k := 20) (x := "script") rfl (by decide) (by kernel_rfl) ⟨rfl, by decide, by decide⟩ ?F
    intro w mg fa h Y G hmg0
    obtain ⟨K, KX, c⟩ := Y
    have hmg : mg ("law" : PySem.Str) = some (.ref fa) := by
      have e : (HandSHeadRun.topDef (PySem.W.OpenLaw.row PySem.Challenge.rw_lasthopes_k30_squads_and_bans).prog 30).name = ("law" : PySem.Str) := by kernel_rfl
      rw [← e]
      exact hmg0
    obtain ⟨fd, hb, hF⟩ := PD.facts (w := w) KX G hmg c
    refine ⟨K, fd, _, KX, hb, fun H a ns hl hO hS => ?_, fun base _ _ => hF base⟩
    have e : PD.callF PD.G_k30 20 23 = ⟨none, (PD.callF PD.G_k30 20 23).run⟩ := rfl
    rw [e]
    exact PD.law_sp hO hS (PD.Q.plain_k30 ns hl)
end
